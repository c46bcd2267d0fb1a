import PyProof.Rows.All
import Wide.All
import OpenK.AllK
import Wide.FinOn
import KE.KStateDown
import Lean
import HandS.ForMost
import HandS.ForExc
import HandS.Wide
import HandS.WideBits
import HandS.Flow
import HandS.IsInst
import HandS.RaiseOp
import HandS.TryMany
import HandS.Defaults
import HandS.FStr
import HandS.StrMore
import HandS.Walk
import HandS.Zip
import HandS.OwnEq
import HandS.MakeKw
import HandS.Head0
import HandS.Head1
import HandS.Head2
import HandS.Head3
import HandS.HeadEnd
import HandS.HeadHook1
import HandS.HeadHook2
import KE.KExcSuper
import KE.KExcPX
import KE.KExcInit
import HandS.CallSlots
import HandS.Style
import KE.KCallOwn
import HandS.HeadNt
import HandS.HeadWalk
import HandS.Codes
import PySem.Challenge.RW_goodsigns_k03_bounds_by_own_squares
set_option Elab.async false
set_option linter.all false
set_option maxRecDepth 100000
set_option maxHeartbeats 1000000
namespace Pt
open PySem PySem.Spec PyProof.Rows L2

/-- what the program's values are, as trees -/
inductive D where
  | non | bl (b : Bool) | int (i : Int) | str (s : Str) | ty (n : String) | glo (x : Nat)
  | tup (xs : List D) | lst (xs : List D) | scr (ns : List Int)
  | dk (kvs : List (Key × D)) | dt (kvs : List (List Key × D))
  | obj (C : Nat) (fs : List (Nat × D)) | exc (C : Nat) (fs : List (Nat × D))
  deriving Inhabited

abbrev Stt := List (Option D)
inductive Rz (α : Type) where
  | ok (a : α) (σ : Stt) | exc (x : D) (σ : Stt) | stuck
abbrev Den := Stt → Rz D
abbrev ADen := Stt → Rz (List D)
abbrev BDen := Stt → Rz Bool
inductive RS where
  | nx (σ : Stt) | ret (d : D) (σ : Stt) | brk (σ : Stt) | ct (σ : Stt) | exc (x : D) (σ : Stt) | stuck
abbrev SDen := Stt → RS

/-- shapes of what is owned: frozen, a list, a dict, an instance -/
inductive Sh where
  | f | l (s : Sh) | d | o
  deriving DecidableEq

/-! ### how a tree lies in the heap -/
section
variable (K : PySem.W.Frag) (NT : List Str)
def nm (x : Nat) : Str := NT.getD x ""
def ga (x : Nat) : Addr := He.ga K (nm NT x)
def KLs (a : Addr) (xs : List V) : Prop := ∃ (o : Obj) (its : Array Value) (n : Nat), K.lookup a = some o ∧ o.cls = .type "list" ∧ o.dict = none ∧ o.data = .seq its n ∧ its.size ≤ sizeLine ∧ Vals xs its.toList
def KTp (a : Addr) (xs : List V) : Prop := ∃ (o : Obj) (its : Array Value) (n : Nat), K.lookup a = some o ∧ o.cls = .type "tuple" ∧ o.data = .seq its n ∧ its.size ≤ sizeLine ∧ Vals xs its.toList
variable (H : Hp) (ok : Addr → Prop)
def LsV (a : Addr) (xs : List V) : Prop := ok a ∧ H a = some (.lst xs)
def ScV (a : Addr) (xs : List V) : Prop := (ok a ∧ Rd H a (.lst xs)) ∨ KLs K a xs
def TpV (a : Addr) (xs : List V) : Prop := (ok a ∧ Rd H a (.tup xs)) ∨ KTp K a xs
mutual
def Rep : D → V → Prop
  | .non, v => v = .non
  | .bl b, v => v = .bl b
  | .int i, v => v = .int i
  | .str s, v => v = .str s
  | .ty n, v => v = .ty n
  | .glo x, v => v = .ref (ga K NT x)
  | .tup xs, v => ∃ a vs, v = .ref a ∧ TpV K H ok a vs ∧ Reps xs vs
  | .lst xs, v => ∃ a vs, v = .ref a ∧ LsV H ok a vs ∧ Reps xs vs
  | .scr ns, v => ∃ a, v = .ref a ∧ ScV K H ok a (ns.map .int)
  | .dk kvs, v => ∃ a kv, v = .ref a ∧ (ok a ∧ Rd H a (.dK kv)) ∧ RepK kvs kv
  | .dt kvs, v => ∃ a kv, v = .ref a ∧ (ok a ∧ Rd H a (.dT kv)) ∧ RepT kvs kv
  | .obj C fs, v => ∃ a dx fv, v = .ref a ∧ (ok a ∧ H a = some (.ins (ga K NT C) dx fv)) ∧ RepF fs fv
  | .exc _ _, _ => False
def Reps : List D → List V → Prop
  | [], vs => vs = []
  | d :: ds, vs => ∃ v r, vs = v :: r ∧ Rep d v ∧ Reps ds r
def RepK : List (Key × D) → List (Key × V) → Prop
  | [], vs => vs = []
  | (k, d) :: ds, vs => ∃ v r, vs = (k, v) :: r ∧ Rep d v ∧ RepK ds r
def RepT : List (List Key × D) → List (List Key × V) → Prop
  | [], vs => vs = []
  | (k, d) :: ds, vs => ∃ v r, vs = (k, v) :: r ∧ Rep d v ∧ RepT ds r
def RepF : List (Nat × D) → List (Str × V) → Prop
  | [], vs => vs = []
  | (k, d) :: ds, vs => ∃ v r, vs = (nm NT k, v) :: r ∧ Rep d v ∧ RepF ds r
end
/-- a row of owned things, one behind another -/
def ListRep (R : D → V → List Addr → Prop) : List D → List V → List Addr → Prop
  | [], vs, l => vs = [] ∧ l = []
  | d :: ds, vs, l => ∃ v r l1 l2, vs = v :: r ∧ l = l1 ++ l2 ∧ R d v l1 ∧ ListRep R ds r l2
/-- an owned thing of a shape; l: the addresses that are owned by it -/
def RepO : Sh → D → V → List Addr → Prop
  | .f, d, v, l => l = [] ∧ Rep K NT H ok d v
  | .l s, d, v, l => ∃ xs a vs l', d = .lst xs ∧ v = .ref a ∧ l = a :: l' ∧ H a = some (.lst vs) ∧ ListRep (RepO s) xs vs l'
  | .d, d, v, l => ∃ kvs a kv, d = .dk kvs ∧ v = .ref a ∧ l = [a] ∧ H a = some (.dK kv) ∧ RepK K NT H ok kvs kv
  | .o, d, v, l => ∃ C fs a dx fv, d = .obj C fs ∧ v = .ref a ∧ l = [a] ∧ H a = some (.ins (ga K NT C) dx fv) ∧ RepF K NT H ok fs fv
/-- to be read: the thing itself, what is in it frozen -/
def RepC (d : D) (v : V) : Prop := match d with
  | .lst xs => ∃ a vs, v = .ref a ∧ H a = some (.lst vs) ∧ Reps K NT H ok xs vs
  | .dk kvs => ∃ a kv, v = .ref a ∧ Rd H a (.dK kv) ∧ RepK K NT H ok kvs kv
  | .obj C fs => ∃ a dx fv, v = .ref a ∧ H a = some (.ins (ga K NT C) dx fv) ∧ RepF K NT H ok fs fv
  | d => Rep K NT H ok d v
def RepCs : List D → List V → Prop
  | [], vs => vs = []
  | d :: ds, vs => ∃ v r, vs = v :: r ∧ RepC K NT H ok d v ∧ RepCs ds r
end

section
variable {K : PySem.W.Frag} {NT : List Str} {H H' : Hp} {ok ok' : Addr → Prop}
/-- what is kept from the one to the other: what is tracked and let -/
def Kp (H H' : Hp) (ok ok' : Addr → Prop) : Prop := ∀ a u, H a = some u → ok a → H' a = some u ∧ ok' a
theorem Kp.rd (h : Kp H H' ok ok') {a : Addr} {u : HO} (x : ok a ∧ Rd H a u) : ok' a ∧ Rd H' a u := by
  obtain ⟨o, r | ⟨ob, r⟩⟩ := x
  · exact ⟨(h _ _ r o).2, .inl (h _ _ r o).1⟩
  · exact ⟨(h _ _ r o).2, .inr ⟨ob, (h _ _ r o).1⟩⟩
theorem LsV.mono (h : Kp H H' ok ok') {a : Addr} {vs : List V} (x : LsV H ok a vs) : LsV H' ok' a vs := ⟨(h _ _ x.2 x.1).2, (h _ _ x.2 x.1).1⟩
theorem ScV.mono (h : Kp H H' ok ok') {a : Addr} {vs : List V} (x : ScV K H ok a vs) : ScV K H' ok' a vs := x.elim (fun x => .inl (h.rd x)) .inr
theorem TpV.mono (h : Kp H H' ok ok') {a : Addr} {vs : List V} (x : TpV K H ok a vs) : TpV K H' ok' a vs := x.elim (fun x => .inl (h.rd x)) .inr
mutual
theorem Rep.mono (h : Kp H H' ok ok') : ∀ {d : D} {v : V}, Rep K NT H ok d v → Rep K NT H' ok' d v
  | .non, _, x => x
  | .bl _, _, x => x
  | .int _, _, x => x
  | .str _, _, x => x
  | .ty _, _, x => x
  | .glo _, _, x => x
  | .tup _, _, ⟨a, vs, e, t, r⟩ => ⟨a, vs, e, t.mono h, Reps.mono h r⟩
  | .lst _, _, ⟨a, vs, e, t, r⟩ => ⟨a, vs, e, t.mono h, Reps.mono h r⟩
  | .scr _, _, ⟨a, e, t⟩ => ⟨a, e, t.mono h⟩
  | .dk _, _, ⟨a, vs, e, t, r⟩ => ⟨a, vs, e, h.rd t, RepK.mono h r⟩
  | .dt _, _, ⟨a, vs, e, t, r⟩ => ⟨a, vs, e, h.rd t, RepT.mono h r⟩
  | .obj _ _, _, ⟨a, dx, vs, e, t, r⟩ => ⟨a, dx, vs, e, ⟨(h _ _ t.2 t.1).2, (h _ _ t.2 t.1).1⟩, RepF.mono h r⟩
  | .exc _ _, _, x => x
theorem Reps.mono (h : Kp H H' ok ok') : ∀ {d : List D} {v : List V}, Reps K NT H ok d v → Reps K NT H' ok' d v
  | [], _, x => x
  | _ :: _, _, ⟨v, r, e, a, b⟩ => ⟨v, r, e, Rep.mono h a, Reps.mono h b⟩
theorem RepK.mono (h : Kp H H' ok ok') : ∀ {d : List (Key × D)} {v : List (Key × V)}, RepK K NT H ok d v → RepK K NT H' ok' d v
  | [], _, x => x
  | (_, _) :: _, _, ⟨v, r, e, a, b⟩ => ⟨v, r, e, Rep.mono h a, RepK.mono h b⟩
theorem RepT.mono (h : Kp H H' ok ok') : ∀ {d : List (List Key × D)} {v : List (List Key × V)}, RepT K NT H ok d v → RepT K NT H' ok' d v
  | [], _, x => x
  | (_, _) :: _, _, ⟨v, r, e, a, b⟩ => ⟨v, r, e, Rep.mono h a, RepT.mono h b⟩
theorem RepF.mono (h : Kp H H' ok ok') : ∀ {d : List (Nat × D)} {v : List (Str × V)}, RepF K NT H ok d v → RepF K NT H' ok' d v
  | [], _, x => x
  | (_, _) :: _, _, ⟨v, r, e, a, b⟩ => ⟨v, r, e, Rep.mono h a, RepF.mono h b⟩
end
theorem ListRep.mono {R R' : D → V → List Addr → Prop} : ∀ {ds : List D} {vs : List V} {l : List Addr}, (∀ d v l1, (∀ a ∈ l1, a ∈ l) → R d v l1 → R' d v l1) → ListRep R ds vs l → ListRep R' ds vs l
  | [], _, _, _, x => x
  | _ :: _, _, _, h, ⟨v, r, l1, l2, e1, e2, a, b⟩ => by
    subst e2
    exact ⟨v, r, l1, l2, e1, rfl, h _ _ _ (fun a ha => List.mem_append_left _ ha) a, ListRep.mono (fun d v l3 h3 q => h d v l3 (fun a ha => List.mem_append_right _ (h3 a ha)) q) b⟩
/-- owned things are kept where their own addresses are, too -/
theorem RepO.mono (h : Kp H H' ok ok') : ∀ {s : Sh} {d : D} {v : V} {l : List Addr}, (∀ a u, a ∈ l → H a = some u → H' a = some u) → RepO K NT H ok s d v l → RepO K NT H' ok' s d v l
  | .f, _, _, _, _, ⟨e, r⟩ => ⟨e, r.mono h⟩
  | .l s, _, _, _, hl, ⟨xs, a, vs, l', e1, e2, e3, e4, r⟩ => by
    subst e3
    exact ⟨xs, a, vs, l', e1, e2, rfl, hl _ _ List.mem_cons_self e4, ListRep.mono (fun d v l1 h1 q => RepO.mono h (fun a u ha => hl a u (List.mem_cons_of_mem _ (h1 a ha))) q) r⟩
  | .d, _, _, _, hl, ⟨kvs, a, kv, e1, e2, e3, e4, r⟩ => by
    subst e3
    exact ⟨kvs, a, kv, e1, e2, rfl, hl _ _ List.mem_cons_self e4, r.mono h⟩
  | .o, _, _, _, hl, ⟨C, fs, a, dx, fv, e1, e2, e3, e4, r⟩ => by
    subst e3
    exact ⟨C, fs, a, dx, fv, e1, e2, rfl, hl _ _ List.mem_cons_self e4, r.mono h⟩
theorem kp_ok (h : ∀ a, ok a → ok' a) : Kp H H ok ok' := fun a u e o => ⟨e, h a o⟩
/-- an owned thing is frozen: its own addresses are let from now on -/
theorem RepO.freeze (h : ∀ a, ok a → ok' a) : ∀ {s : Sh} {d : D} {v : V} {l : List Addr}, (∀ a ∈ l, ok' a) → RepO K NT H ok s d v l → Rep K NT H ok' d v
  | .f, _, _, _, _, ⟨e, r⟩ => r.mono (kp_ok h)
  | .l s, _, _, _, hl, ⟨xs, a, vs, l', e1, e2, e3, e4, r⟩ => by
    subst e1 e2 e3
    refine ⟨a, vs, rfl, ⟨hl a List.mem_cons_self, e4⟩, ?_⟩
    have hl' : ∀ a ∈ l', ok' a := fun b hb => hl b (List.mem_cons_of_mem _ hb)
    clear e4 hl
    induction xs generalizing vs l' with
    | nil => obtain ⟨e, _⟩ := r; exact e
    | cons x xs ih =>
      obtain ⟨v, r', l1, l2, e1, e2, q1, q2⟩ := r
      subst e2
      exact ⟨v, r', e1, RepO.freeze h (fun b hb => hl' b (List.mem_append_left _ hb)) q1, ih _ _ q2 fun b hb => hl' b (List.mem_append_right _ hb)⟩
  | .d, _, _, _, hl, ⟨kvs, a, kv, e1, e2, e3, e4, r⟩ => by
    subst e1 e2 e3
    exact ⟨a, kv, rfl, ⟨hl a List.mem_cons_self, .inl e4⟩, r.mono (kp_ok h)⟩
  | .o, _, _, _, hl, ⟨C, fs, a, dx, fv, e1, e2, e3, e4, r⟩ => by
    subst e1 e2 e3
    exact ⟨a, dx, fv, rfl, ⟨hl a List.mem_cons_self, e4⟩, r.mono (kp_ok h)⟩
theorem LsV.sq {a : Addr} {vs : List V} (x : LsV H ok a vs) : SqL K H a vs := .inl (.inl x.2)
theorem ScV.sq {a : Addr} {vs : List V} (x : ScV K H ok a vs) : SqL K H a vs := x.elim (fun x => .inl x.2) .inr
theorem TpV.sq {a : Addr} {vs : List V} (x : TpV K H ok a vs) : SqT K H a vs := x.elim (fun x => .inl x.2) .inr
theorem listRep_f : ∀ {xs : List D} {vs : List V} {l : List Addr}, ListRep (RepO K NT H ok .f) xs vs l → l = [] ∧ Reps K NT H ok xs vs
  | [], _, _, ⟨e1, e2⟩ => ⟨e2, e1⟩
  | _ :: _, _, _, ⟨v, r, l1, l2, e1, e2, ⟨e3, q1⟩, q2⟩ => by
    obtain ⟨e4, q3⟩ := listRep_f q2
    subst e3 e4
    exact ⟨e2, v, r, e1, q1, q3⟩
theorem reps_list : ∀ {xs : List D} {vs : List V}, Reps K NT H ok xs vs → ListRep (RepO K NT H ok .f) xs vs []
  | [], _, e => ⟨e, rfl⟩
  | _ :: _, _, ⟨v, r, e1, q1, q2⟩ => ⟨v, r, [], [], e1, rfl, ⟨rfl, q1⟩, reps_list q2⟩
theorem Rep.c {d : D} {v : V} (x : Rep K NT H ok d v) : RepC K NT H ok d v := by
  cases d with
  | lst xs => obtain ⟨a, vs, e, t, r⟩ := x; exact ⟨a, vs, e, t.2, r⟩
  | dk kvs => obtain ⟨a, kv, e, t, r⟩ := x; exact ⟨a, kv, e, t.2, r⟩
  | obj C fs => obtain ⟨a, dx, fv, e, t, r⟩ := x; exact ⟨a, dx, fv, e, t.2, r⟩
  | _ => exact x
/-- one level deep at most -/
def Sh.flat : Sh → Bool
  | .l .f => true
  | .l _ => false
  | _ => true
theorem RepO.c {s : Sh} {d : D} {v : V} {l : List Addr} (hs : s.flat = true) (x : RepO K NT H ok s d v l) : RepC K NT H ok d v := by
  cases s with
  | f => exact x.2.c
  | l s =>
    cases s with
    | f =>
      obtain ⟨xs, a, vs, l', e1, e2, e3, e4, r⟩ := x
      subst e1
      exact ⟨a, vs, e2, e4, (listRep_f r).2⟩
    | _ => cases hs
  | d => obtain ⟨kvs, a, kv, e1, e2, e3, e4, r⟩ := x; subst e1; exact ⟨a, kv, e2, .inl e4, r⟩
  | o => obtain ⟨C, fs, a, dx, fv, e1, e2, e3, e4, r⟩ := x; subst e1; exact ⟨a, dx, fv, e2, e4, r⟩
theorem reps_len : ∀ {xs : List D} {vs : List V}, Reps K NT H ok xs vs → vs.length = xs.length
  | [], _, e => by rw [e]; rfl
  | _ :: _, _, ⟨v, r, e1, q1, q2⟩ => by rw [e1, List.length_cons, List.length_cons, reps_len q2]
theorem reps_get : ∀ {xs : List D} {vs : List V} {i : Nat} {d : D}, Reps K NT H ok xs vs → xs[i]? = some d → ∃ v, vs[i]? = some v ∧ Rep K NT H ok d v
  | [], _, _, _, _, e => by simp at e
  | x :: xs, _, 0, _, ⟨v, r, e1, q1, q2⟩, e => by
    simp at e
    subst e e1
    exact ⟨v, by simp, q1⟩
  | x :: xs, _, i + 1, _, ⟨v, r, e1, q1, q2⟩, e => by
    subst e1
    obtain ⟨w, e2, q3⟩ := reps_get (i := i) q2 (by simpa using e)
    exact ⟨w, by simpa using e2, q3⟩
theorem reps_append : ∀ {xs ys : List D} {vs ws : List V}, Reps K NT H ok xs vs → Reps K NT H ok ys ws → Reps K NT H ok (xs ++ ys) (vs ++ ws)
  | [], _, _, _, e, q => by rw [e]; exact q
  | _ :: _, _, _, _, ⟨v, r, e1, q1, q2⟩, q => ⟨v, _, by rw [e1]; rfl, q1, reps_append q2 q⟩
theorem reps_set : ∀ {xs : List D} {vs : List V} {i : Nat} {d : D} {v : V}, Reps K NT H ok xs vs → Rep K NT H ok d v → Reps K NT H ok (xs.set i d) (vs.set i v)
  | [], _, _, _, _, e, q => by rw [e]; exact rfl
  | _ :: _, _, 0, _, _, ⟨v, r, e1, q1, q2⟩, q => ⟨_, r, by rw [e1]; rfl, q, q2⟩
  | _ :: _, _, i + 1, _, _, ⟨v, r, e1, q1, q2⟩, q => ⟨v, _, by rw [e1]; rfl, q1, reps_set q2 q⟩
theorem reps_take : ∀ {xs : List D} {vs : List V} (n : Nat), Reps K NT H ok xs vs → Reps K NT H ok (xs.take n) (vs.take n)
  | [], _, n, e => by rw [e, List.take_nil, List.take_nil]; exact rfl
  | _ :: _, _, 0, _ => by exact rfl
  | _ :: _, _, n + 1, ⟨v, r, e1, q1, q2⟩ => ⟨v, _, by rw [e1]; rfl, q1, reps_take n q2⟩
theorem reps_drop : ∀ {xs : List D} {vs : List V} (n : Nat), Reps K NT H ok xs vs → Reps K NT H ok (xs.drop n) (vs.drop n)
  | [], _, n, e => by rw [e, List.drop_nil, List.drop_nil]; exact rfl
  | _ :: _, _, 0, q => q
  | _ :: _, _, n + 1, ⟨v, r, e1, q1, q2⟩ => by rw [e1]; exact reps_drop n q2
theorem reps_reverse : ∀ {xs : List D} {vs : List V}, Reps K NT H ok xs vs → Reps K NT H ok xs.reverse vs.reverse
  | [], _, e => by rw [e]; exact rfl
  | _ :: _, _, ⟨v, r, e1, q1, q2⟩ => by
    rw [e1, List.reverse_cons, List.reverse_cons]
    exact reps_append (reps_reverse q2) ⟨v, [], rfl, q1, rfl⟩
theorem repCs_len : ∀ {xs : List D} {vs : List V}, RepCs K NT H ok xs vs → vs.length = xs.length
  | [], _, e => by rw [e]; rfl
  | _ :: _, _, ⟨v, r, e1, q1, q2⟩ => by rw [e1, List.length_cons, List.length_cons, repCs_len q2]
end
end Pt
set_option maxRecDepth 100000
set_option maxHeartbeats 1000000
namespace Pt
open PySem PySem.Spec PyProof.Rows L2

/-- what stays true as long as what is tracked and let is kept -/
structure Ivt where
  P : Hp → (Addr → Prop) → Prop
  mono : ∀ {H H' : Hp} {ok ok' : Addr → Prop}, Kp H H' ok ok' → P H ok → P H' ok'
def ivT : Ivt := ⟨fun _ _ => True, fun _ _ => trivial⟩
/-- what a def's code leans on: the names by number, the slots that are lent, what stands there, the kinds where an error leaves, the wish of errors -/
structure Cc where
  NT : List Str
  M : List Nat
  pin : Nat → V
  κx : List Sh
  W : WX
  iv : Ivt := ivT

abbrev Sv := L2.St
abbrev Own := Nat → List Addr
def okOf (l : Own) (Lo : Addr → Prop) : Addr → Prop := fun a => (∀ i, a ∉ l i) ∧ ¬ Lo a
def LoX (Lo : Addr → Prop) (lx : List Addr) : Addr → Prop := fun a => Lo a ∨ a ∈ lx
abbrev kd (κ : List Sh) (i : Nat) : Sh := κ.getD i .f

structure SOk (K : PySem.W.Frag) (C : Cc) (κ : List Sh) (σd : Stt) (σv : Sv) (H : Hp) (l : Own) (Lo : Addr → Prop) : Prop where
  val : ∀ i d, σd[i]? = some (some d) → ∃ v, σv[i]? = some (some v) ∧ RepO K C.NT H (okOf l Lo) (kd κ i) d v (l i)
  emp : ∀ i, (∀ d, σd[i]? ≠ some (some d)) → l i = []
  nd : ∀ i, (l i).Nodup
  dj : ∀ i j a, a ∈ l i → a ∈ l j → i = j
  lo : ∀ i a, a ∈ l i → ¬ Lo a
  tr : ∀ i a, a ∈ l i → ∃ u, H a = some u
  los : ∀ a, Lo a → ∃ u, H a = some u
  pin : ∀ i ∈ C.M, σv[i]? = some (some (C.pin i))
  len : σd.length = σv.length
  klen : κ.length = σv.length
  iv : C.iv.P H (okOf l Lo)

/-- from the one moment to a later one -/
structure Go (l : Own) (H : Hp) (l' : Own) (lx : List Addr) (H' : Hp) : Prop where
  keep : ∀ a u, H a = some u → (∀ i, a ∉ l i) → H' a = some u ∧ (∀ i, a ∉ l' i) ∧ a ∉ lx
  dom : ∀ a, H' a = none → H a = none

theorem Go.refl (l : Own) (H : Hp) : Go l H l [] H := ⟨fun _ _ e n => ⟨e, n, by simp⟩, fun _ e => e⟩
theorem Go.trans {l l1 l2 : Own} {H H1 H2 : Hp} {x1 x2 : List Addr} (a : Go l H l1 x1 H1) (b : Go l1 H1 l2 x2 H2) : Go l H l2 (x1 ++ x2) H2 :=
  ⟨fun c u e n => by
    obtain ⟨e1, n1, y1⟩ := a.keep c u e n
    obtain ⟨e2, n2, y2⟩ := b.keep c u e1 n1
    exact ⟨e2, n2, by simp [y1, y2]⟩, fun c e => a.dom c (b.dom c e)⟩
theorem Go.drop {l l1 : Own} {H H1 : Hp} {x1 : List Addr} (a : Go l H l1 x1 H1) : Go l H l1 [] H1 := ⟨fun c u e n => ⟨(a.keep c u e n).1, (a.keep c u e n).2.1, by simp⟩, a.dom⟩
theorem Go.sub {l l1 : Own} {H H1 : Hp} {x1 x2 : List Addr} (a : Go l H l1 x1 H1) (h : ∀ c ∈ x2, c ∈ x1) : Go l H l1 x2 H1 := ⟨fun c u e n => ⟨(a.keep c u e n).1, (a.keep c u e n).2.1, fun z => (a.keep c u e n).2.2 (h c z)⟩, a.dom⟩

/-- new things alone -/
structure Grow (H H' : Hp) (lx : List Addr) : Prop where
  kp : ∀ a u, H a = some u → H' a = some u
  new : ∀ a ∈ lx, H a = none
  tr : ∀ a ∈ lx, ∃ u, H' a = some u
theorem Grow.refl (H : Hp) : Grow H H [] := ⟨fun _ _ e => e, by simp, by simp⟩
theorem Grow.one {H : Hp} {p : Addr} {o : HO} (h : H p = none) : Grow H (upd H p o) [p] :=
  ⟨fun a u e => by rw [upd_ne (ne_of_none e h)]; exact e, fun a ha => by simp at ha; rw [ha]; exact h, fun a ha => by simp at ha; subst ha; exact ⟨_, upd_same⟩⟩

section
variable {K : PySem.W.Frag} {C : Cc} {κ κ' : List Sh} {σd σd' : Stt} {σv : Sv} {H H' : Hp} {l l' : Own} {Lo Lo' : Addr → Prop} {lx : List Addr}
theorem SOk.sub (S : SOk K C κ σd σv H l Lo) (h : ∀ a, Lo' a → Lo a) : SOk K C κ σd σv H l Lo' :=
  ⟨fun i d e => by
    obtain ⟨v, e1, r⟩ := S.val i d e
    exact ⟨v, e1, r.mono (kp_ok fun a o => ⟨o.1, fun z => o.2 (h a z)⟩) fun a u _ e => e⟩,
    S.emp, S.nd, S.dj, fun i a m z => S.lo i a m (h a z), S.tr, fun a z => S.los a (h a z), S.pin, S.len, S.klen, C.iv.mono (kp_ok fun a o => ⟨o.1, fun z => o.2 (h a z)⟩) S.iv⟩
theorem SOk.drop (S : SOk K C κ σd σv H l (LoX Lo lx)) : SOk K C κ σd σv H l Lo := S.sub fun _ => .inl
theorem SOk.nil (S : SOk K C κ σd σv H l Lo) : SOk K C κ σd σv H l (LoX Lo []) := S.sub fun a z => z.elim id (by simp)
/-- more that is not to be touched -/
theorem SOk.grow (S : SOk K C κ σd σv H l Lo) (g : Grow H H' lx) : SOk K C κ σd σv H' l (LoX Lo lx) := by
  have hn : ∀ a u, H a = some u → a ∉ lx := fun a u e z => by
    rw [g.new a z] at e
    cases e
  refine ⟨fun i d e => ?_, S.emp, S.nd, S.dj, fun i a m z => ?_, fun i a m => (S.tr i a m).imp fun u e => g.kp a u e, fun a z => ?_, S.pin, S.len, S.klen, C.iv.mono (fun a u e o => ⟨g.kp a u e, o.1, fun z => z.elim o.2 (hn a u e)⟩) S.iv⟩
  · obtain ⟨v, e1, r⟩ := S.val i d e
    exact ⟨v, e1, r.mono (fun a u e o => ⟨g.kp a u e, o.1, fun z => z.elim o.2 (hn a u e)⟩) fun a u _ e => g.kp a u e⟩
  · rcases z with z | z
    · exact S.lo i a m z
    · obtain ⟨u, e⟩ := S.tr i a m
      exact hn a u e z
  · rcases z with z | z
    · exact (S.los a z).imp fun u e => g.kp a u e
    · exact g.tr a z
theorem Grow.go (S : SOk K C κ σd σv H l Lo) (g : Grow H H' lx) : Go l H l lx H' :=
  ⟨fun a u e n => ⟨g.kp a u e, n, fun z => nomatch (g.new a z).symm.trans e⟩, fun a e => by
    cases q : H a with
    | none => rfl
    | some u => exact nomatch (g.kp a u q).symm.trans e⟩
/-- what is kept behind a step -/
theorem Go.kp (g : Go l H l' lx H') : Kp H H' (okOf l Lo) (okOf l' Lo) := fun a u e o => ⟨(g.keep a u e o.1).1, (g.keep a u e o.1).2.1, o.2⟩
theorem Go.kpX {l0 : List Addr} (g : Go l H l' lx H') : Kp H H' (okOf l (LoX Lo l0)) (okOf l' (LoX (LoX Lo l0) lx)) := fun a u e o => ⟨(g.keep a u e o.1).1, (g.keep a u e o.1).2.1, fun z => z.elim o.2 (g.keep a u e o.1).2.2⟩
/-- owned things at hand are kept, too -/
theorem Go.own {s : Sh} {d : D} {v : V} {l0 : List Addr} (S : SOk K C κ σd σv H l (LoX Lo l0)) (g : Go l H l' lx H') (r : RepO K C.NT H (okOf l (LoX Lo l0)) s d v l0) : RepO K C.NT H' (okOf l' (LoX Lo l0)) s d v l0 :=
  r.mono g.kp fun a u m e => (g.keep a u e fun i z => S.lo i a z (.inr m)).1
/-- an owned temporary is frozen -/
theorem RepO.frz {s : Sh} {d : D} {v : V} {l0 : Own} {H0 : Hp} (S0 : SOk K C κ' σd' σv H0 l0 Lo) (S : SOk K C κ σd σv H l (LoX Lo lx)) (g : Go l0 H0 l lx H) (r : RepO K C.NT H (okOf l (LoX Lo lx)) s d v lx) : Rep K C.NT H (okOf l Lo) d v :=
  r.freeze (fun a o => ⟨o.1, fun z => o.2 (.inl z)⟩) fun a m => ⟨fun i z => S.lo i a z (.inr m), fun z => by
    obtain ⟨u, e⟩ := S0.los a z
    exact (g.keep a u e fun i q => S0.lo i a q z).2.2 m⟩

/-- the kinds may be weakened -/
def Wk (κ κ' : List Sh) : Prop := κ'.length = κ.length ∧ ∀ i, kd κ' i = kd κ i ∨ kd κ' i = .f
def wkB (κ κ' : List Sh) : Bool := decide (κ'.length = κ.length) && (List.range (max κ.length κ'.length)).all fun i => decide (kd κ' i = kd κ i) || decide (kd κ' i = .f)
theorem wk_of (h : wkB κ κ' = true) : Wk κ κ' := ⟨of_decide_eq_true (Bool.and_eq_true_iff.mp h).1, fun i => by
  have h := (Bool.and_eq_true_iff.mp h).2
  by_cases hi : i < max κ.length κ'.length
  · have := List.all_eq_true.mp h i (List.mem_range.mpr hi)
    rcases Bool.or_eq_true_iff.mp this with q | q
    · exact .inl (of_decide_eq_true q)
    · exact .inr (of_decide_eq_true q)
  · right
    unfold kd
    rw [List.getD_eq_getElem?_getD, List.getElem?_eq_none (by omega)]
    rfl⟩
def wkOwn (κ κ' : List Sh) (l : Own) : Own := fun i => if kd κ' i = kd κ i then l i else []
theorem SOk.weak (S : SOk K C κ σd σv H l Lo) (w : Wk κ κ') : SOk K C κ' σd σv H (wkOwn κ κ' l) Lo ∧ Go l H (wkOwn κ κ' l) [] H := by
  have sub : ∀ i a, a ∈ wkOwn κ κ' l i → a ∈ l i := fun i a m => by
    unfold wkOwn at m
    split at m
    · exact m
    · simp at m
  have hok : ∀ a, okOf l Lo a → okOf (wkOwn κ κ' l) Lo a := fun a o => ⟨fun i m => o.1 i (sub i a m), o.2⟩
  refine ⟨⟨fun i d e => ?_, fun i e => ?_, fun i => ?_, fun i j a m1 m2 => S.dj i j a (sub i a m1) (sub j a m2), fun i a m => S.lo i a (sub i a m), fun i a m => S.tr i a (sub i a m), S.los, S.pin, S.len, w.1.trans S.klen, C.iv.mono (kp_ok hok) S.iv⟩, ⟨fun a u e n => ⟨e, fun i m => n i (sub i a m), by simp⟩, fun _ e => e⟩⟩
  · obtain ⟨v, e1, r⟩ := S.val i d e
    refine ⟨v, e1, ?_⟩
    unfold wkOwn
    by_cases q : kd κ' i = kd κ i
    · rw [if_pos q, q]
      exact r.mono (kp_ok hok) fun a u _ e => e
    · rw [if_neg q]
      rcases w.2 i with z | z
      · exact absurd z q
      · rw [z]
        refine ⟨rfl, r.freeze hok fun a m => ⟨fun j mj => ?_, S.lo i a m⟩⟩
        have := S.dj i j a m (sub j a mj)
        subst this
        unfold wkOwn at mj
        rw [if_neg q] at mj
        simp at mj
  · unfold wkOwn
    rw [S.emp i e]
    split <;> rfl
  · unfold wkOwn
    split
    · exact S.nd i
    · exact List.nodup_nil
/-- a slot is stored -/
def setOwn (l : Own) (i : Nat) (lx : List Addr) : Own := fun j => if j = i then lx else l j
theorem kd_set {κ : List Sh} {i : Nat} {s : Sh} (hκ : i < κ.length) (j : Nat) : kd (κ.set i s) j = if j = i then s else kd κ j := by
  unfold kd
  by_cases q : j = i
  · subst q
    simp [List.getD_eq_getElem?_getD, hκ]
  · simp [List.getD_eq_getElem?_getD, q, List.getElem?_set_ne (Ne.symm q)]
theorem mem_setOwn {l : Own} {i : Nat} {lx : List Addr} {j : Nat} {a : Addr} (m : a ∈ setOwn l i lx j) : (j = i ∧ a ∈ lx) ∨ (j ≠ i ∧ a ∈ l j) := by
  unfold setOwn at m
  by_cases q : j = i
  · rw [if_pos q] at m; exact .inl ⟨q, m⟩
  · rw [if_neg q] at m; exact .inr ⟨q, m⟩
theorem Go.set {l0 l : Own} {H0 H : Hp} {lx : List Addr} (g : Go l0 H0 l lx H) (i : Nat) : Go l0 H0 (setOwn l i lx) [] H :=
  ⟨fun a u e n => by
    obtain ⟨e1, n1, y1⟩ := g.keep a u e n
    exact ⟨e1, fun j m => (mem_setOwn m).elim (fun m => y1 m.2) fun m => n1 j m.2, by simp⟩, g.dom⟩
theorem SOk.set {s : Sh} {d : D} {v : V} (S : SOk K C κ σd σv H l (LoX Lo lx)) (S0 : ∀ a ∈ lx, ¬ Lo a) (r : RepO K C.NT H (okOf l (LoX Lo lx)) s d v lx) (hn : lx.Nodup) (i : Nat) (hi : i < σv.length) (hM : i ∉ C.M) (hκ : i < κ.length) :
    SOk K C (κ.set i s) (σd.set i (some d)) (σv.set i (some v)) H (setOwn l i lx) Lo := by
  have hok : ∀ a, okOf l (LoX Lo lx) a → okOf (setOwn l i lx) Lo a := fun a o => ⟨fun j m => (mem_setOwn m).elim (fun m => o.2 (.inr m.2)) fun m => o.1 j m.2, fun z => o.2 (.inl z)⟩
  refine ⟨fun j e he => ?_, fun j he => ?_, fun j => ?_, fun j k a m1 m2 => ?_, fun j a m => ?_, fun j a m => ?_, fun a z => S.los a (.inl z), fun j hj => ?_, ?_, ?_, C.iv.mono (kp_ok hok) S.iv⟩
  · by_cases q : j = i
    · subst q
      have hd : j < σd.length := by rw [S.len]; exact hi
      rw [List.getElem?_set_self hd] at he
      cases he
      refine ⟨v, by rw [List.getElem?_set_self hi], ?_⟩
      rw [kd_set hκ]
      unfold setOwn
      simp only [if_true]
      exact r.mono (kp_ok hok) fun a u _ e => e
    · rw [List.getElem?_set_ne (Ne.symm q)] at he
      obtain ⟨w, e1, r1⟩ := S.val j e he
      refine ⟨w, by rw [List.getElem?_set_ne (Ne.symm q)]; exact e1, ?_⟩
      rw [kd_set hκ]
      unfold setOwn
      simp only [q, if_false]
      exact r1.mono (kp_ok hok) fun a u _ e => e
  · unfold setOwn
    by_cases q : j = i
    · subst q
      have hd : j < σd.length := by rw [S.len]; exact hi
      exact absurd (List.getElem?_set_self hd) (he d)
    · simp only [q, if_false]
      exact S.emp j fun d e => he d (by rw [List.getElem?_set_ne (Ne.symm q)]; exact e)
  · unfold setOwn
    by_cases q : j = i
    · simp only [q, if_true]; exact hn
    · simp only [q, if_false]; exact S.nd j
  · rcases mem_setOwn m1 with ⟨q1, r1⟩ | ⟨q1, r1⟩ <;> rcases mem_setOwn m2 with ⟨q2, r2⟩ | ⟨q2, r2⟩
    · rw [q1, q2]
    · exact absurd (.inr r1) (S.lo k a r2)
    · exact absurd (.inr r2) (S.lo j a r1)
    · exact S.dj j k a r1 r2
  · rcases mem_setOwn m with ⟨q1, r1⟩ | ⟨q1, r1⟩
    · exact S0 a r1
    · exact fun z => S.lo j a r1 (.inl z)
  · rcases mem_setOwn m with ⟨q1, r1⟩ | ⟨q1, r1⟩
    · exact S.los a (.inr r1)
    · exact S.tr j a r1
  · rw [List.getElem?_set_ne (fun z : i = j => hM (by rw [z]; exact hj))]
    exact S.pin j hj
  · simp [S.len]
  · simp [S.klen]
/-- what is new is not what must stay -/
theorem Go.newLo {l0 l : Own} {H0 H : Hp} (S0 : SOk K C κ' σd' σv H0 l0 Lo) (g : Go l0 H0 l lx H) : ∀ a ∈ lx, ¬ Lo a := fun a m z => by
  obtain ⟨u, e⟩ := S0.los a z
  exact (g.keep a u e fun i q => S0.lo i a q z).2.2 m
end
end Pt
set_option maxRecDepth 100000
set_option maxHeartbeats 1000000
namespace Pt
open PySem PySem.Spec PyProof.Rows L2

/-- an error, by its class and its own dict -/
def RepX (K : PySem.W.Frag) (NT : List Str) (H : Hp) (ok : Addr → Prop) (x : D) (c : Value) (dd : Option Addr) : Prop :=
  ∃ C fs, x = .exc C fs ∧ c = .ref (ga K NT C) ∧ ((fs = [] ∧ dd = none) ∨ ∃ d fv, dd = some d ∧ (ok d ∧ H d = some (.xd fv)) ∧ RepF K NT H ok fs fv)
theorem RepX.mono {K : PySem.W.Frag} {NT : List Str} {H H' : Hp} {ok ok' : Addr → Prop} (h : Kp H H' ok ok') {x : D} {c : Value} {dd : Option Addr} (r : RepX K NT H ok x c dd) : RepX K NT H' ok' x c dd := by
  obtain ⟨C, fs, e1, e2, r⟩ := r
  refine ⟨C, fs, e1, e2, r.imp id ?_⟩
  rintro ⟨d, fv, e3, ⟨o, e4⟩, r⟩
  exact ⟨d, fv, e3, ⟨(h _ _ e4 o).2, (h _ _ e4 o).1⟩, r.mono h⟩

section
variable (K : PySem.W.Frag) (C : Cc)
/-- what is wanted where an error leaves -/
def ExW (r : D → Stt → Prop) (σv : Sv) (H : Hp) (l : Own) (Lo : Addr → Prop) : Prop :=
  ∀ x σd', r x σd' → ∀ c dd H' l', SOk K C C.κx σd' σv H' l' Lo → RepX K C.NT H' (okOf l' Lo) x c dd → Go l H l' [] H' → C.W c dd σv H'
/-- an expression's reading follows its tree function -/
def SimT (κ : List Sh) (t : TE) (den : Den) (s : Sh) (κ' : List Sh) (p : Bool) : Prop :=
  ∀ σd σv H l Lo Q, SOk K C κ σd σv H l Lo → den σd ≠ .stuck →
    (∀ d σd', den σd = .ok d σd' → ∀ v H' l' lx, SOk K C κ' σd' σv H' l' (LoX Lo lx) → RepO K C.NT H' (okOf l' (LoX Lo lx)) s d v lx → lx.Nodup → Go l H l' lx H' →
      (p = true → σd' = σd ∧ H' = H ∧ l' = l ∧ lx = []) → Q v H') →
    ExW K C (fun x σd' => den σd = .exc x σd') σv H l Lo → t σv H Q
/-- arguments that are read -/
def SimA (κ : List Sh) (t : TA) (den : ADen) (κ' : List Sh) (p : Bool) : Prop :=
  ∀ σd σv H l Lo Q, SOk K C κ σd σv H l Lo → den σd ≠ .stuck →
    (∀ ds σd', den σd = .ok ds σd' → ∀ vs H' l', SOk K C κ' σd' σv H' l' Lo → RepCs K C.NT H' (okOf l' Lo) ds vs → Go l H l' [] H' →
      (p = true → σd' = σd ∧ H' = H ∧ l' = l) → Q vs H') →
    ExW K C (fun x σd' => den σd = .exc x σd') σv H l Lo → t σv H Q
/-- a test -/
def SimB (κ : List Sh) (t : TT) (den : BDen) (κ' : List Sh) : Prop :=
  ∀ σd σv H l Lo Q, SOk K C κ σd σv H l Lo → den σd ≠ .stuck →
    (∀ b σd', den σd = .ok b σd' → ∀ H' l', SOk K C κ' σd' σv H' l' Lo → Go l H l' [] H' → Q b H') →
    ExW K C (fun x σd' => den σd = .exc x σd') σv H l Lo → t σv H Q
/-- a statement, a block: κ' behind it, κb where a loop's turn is left -/
def SimS (κ : List Sh) (t : TS) (sd : SDen) (κ' κb : List Sh) (rs : Sh) : Prop :=
  ∀ σd σv H l Lo (E : Ends), SOk K C κ σd σv H l Lo → sd σd ≠ .stuck →
    (∀ σd', sd σd = .nx σd' → ∀ σv' H' l', SOk K C κ' σd' σv' H' l' Lo → Go l H l' [] H' → E.nx σv' H') →
    (∀ σd', sd σd = .brk σd' → ∀ σv' H' l', SOk K C κb σd' σv' H' l' Lo → Go l H l' [] H' → E.bk σv' H') →
    (∀ σd', sd σd = .ct σd' → ∀ σv' H' l', SOk K C κb σd' σv' H' l' Lo → Go l H l' [] H' → E.ct σv' H') →
    (∀ d σd', sd σd = .ret d σd' → ∀ v σv' H' l' lx, SOk K C C.κx σd' σv' H' l' (LoX Lo lx) → RepO K C.NT H' (okOf l' (LoX Lo lx)) rs d v lx → lx.Nodup → Go l H l' lx H' → E.rt v H') →
    (∀ x σd', sd σd = .exc x σd' → ∀ c dd σv' H' l', SOk K C C.κx σd' σv' H' l' Lo → RepX K C.NT H' (okOf l' Lo) x c dd → Go l H l' [] H' → C.W c dd σv' H') → t E σv H
end
section
variable {K : PySem.W.Frag} {C : Cc} {κ κ1 κ2 κ' : List Sh} {s : Sh} {p p1 p2 : Bool} {ta tb : TE} {da db : Den}
theorem ExW.go {r r' : D → Stt → Prop} {σv : Sv} {H H1 : Hp} {l l1 : Own} {Lo : Addr → Prop} {lx : List Addr} (h : ExW K C r σv H l Lo) (g : Go l H l1 lx H1) (hr : ∀ x σ, r' x σ → r x σ) : ExW K C r' σv H1 l1 (LoX Lo lx) :=
  fun x σd' e c dd H' l' S R g' => h x σd' (hr x σd' e) c dd H' l' S.drop (R.mono (kp_ok fun a o => ⟨o.1, fun z => o.2 (.inl z)⟩)) (g.drop.trans g')
theorem ExW.go0 {r r' : D → Stt → Prop} {σv : Sv} {H H1 : Hp} {l l1 : Own} {Lo : Addr → Prop} (h : ExW K C r σv H l Lo) (g : Go l H l1 [] H1) (hr : ∀ x σ, r' x σ → r x σ) : ExW K C r' σv H1 l1 Lo :=
  fun x σd' e c dd H' l' S R g' => h x σd' (hr x σd' e) c dd H' l' S R (g.trans g')

/-- an owned temporary is given away -/
theorem SimT.frz (h : SimT K C κ ta da s κ' p) : SimT K C κ ta da .f κ' p := fun σd σv H l Lo Q S ns hok hex =>
  h σd σv H l Lo Q S ns (fun d σd' e v H' l' lx S' R nd g hp => hok d σd' e v H' l' [] S'.drop.nil ⟨rfl, (R.frz S S' g).mono (kp_ok fun a o => ⟨o.1, fun z => z.elim o.2 (by simp)⟩)⟩ List.nodup_nil g.drop fun q => by
    obtain ⟨a, b, c, _⟩ := hp q
    exact ⟨a, b, c, rfl⟩) hex
/-- not known to change nothing -/
theorem SimT.eff (h : SimT K C κ ta da s κ' p) : SimT K C κ ta da s κ' false := fun σd σv H l Lo Q S ns hok hex =>
  h σd σv H l Lo Q S ns (fun d σd' e v H' l' lx S' R nd g hp => hok d σd' e v H' l' lx S' R nd g (fun q => nomatch q)) hex
/-- kinds weakened behind -/
theorem SimT.wk (h : SimT K C κ ta da .f κ1 p) (w : wkB κ1 κ' = true) : SimT K C κ ta da .f κ' false := fun σd σv H l Lo Q S ns hok hex =>
  h σd σv H l Lo Q S ns (fun d σd' e v H' l' lx S' R nd g hp => by
    obtain ⟨S2, g2⟩ := S'.weak (wk_of w)
    obtain ⟨e0, R'⟩ := R
    subst e0
    exact hok d σd' e v H' _ [] S2 ⟨rfl, R'.mono (g2.kp)⟩ List.nodup_nil (g.trans g2) (fun q => nomatch q)) hex

/-! ### names, constants -/
def dC (d : D) : Den := fun σ => .ok d σ
def dVar (i : Nat) : Den := fun σ => match σ[i]? with
  | some (some d) => .ok d σ
  | _ => .stuck
theorem sim_c {d : D} {v : V} (h : ∀ H ok, Rep K C.NT H ok d v) : SimT K C κ (tC v) (dC d) .f κ true := fun σd σv H l Lo Q S ns hok hex =>
  hok d σd rfl v H l [] S.nil ⟨rfl, h _ _⟩ List.nodup_nil (Go.refl l H) fun _ => ⟨rfl, rfl, rfl, rfl⟩
theorem dVar_of {i : Nat} {σ : Stt} (ns : dVar i σ ≠ .stuck) : ∃ d, σ[i]? = some (some d) ∧ dVar i σ = .ok d σ := by
  unfold dVar at ns ⊢
  split
  · rename_i d e; exact ⟨d, e, rfl⟩
  · rename_i h
    exact absurd (by split <;> first | rfl | (rename_i d e; exact absurd e (h d))) ns
theorem sim_var {i : Nat} (hk : kd κ i = .f) : SimT K C κ (tVar i) (dVar i) .f κ true := fun σd σv H l Lo Q S ns hok hex => by
  obtain ⟨d, e, ed⟩ := dVar_of ns
  obtain ⟨v, ev, r⟩ := S.val i d e
  rw [hk] at r
  exact ⟨v, ev, hok d σd ed v H l [] S.nil ⟨rfl, r.2.mono (kp_ok fun a o => ⟨o.1, fun z => z.elim o.2 (by simp)⟩)⟩ List.nodup_nil (Go.refl l H) fun _ => ⟨rfl, rfl, rfl, rfl⟩⟩
/-- an owned thing at a name is given away: it is frozen there -/
theorem sim_varG {i : Nat} : SimT K C κ (tVar i) (dVar i) .f (κ.set i .f) false := fun σd σv H l Lo Q S ns hok hex => by
  obtain ⟨d, e, ed⟩ := dVar_of ns
  have w : Wk κ (κ.set i .f) := ⟨List.length_set, fun j => by
    by_cases hi : i < κ.length
    · rw [kd_set hi]
      split
      · exact .inr rfl
      · exact .inl rfl
    · rw [List.set_eq_of_length_le (by omega)]; exact .inl rfl⟩
  obtain ⟨S2, g2⟩ := S.weak w
  obtain ⟨v, ev, r⟩ := S2.val i d e
  have hf : kd (κ.set i .f) i = .f := by
    by_cases hi : i < κ.length
    · rw [kd_set hi, if_pos rfl]
    · rw [List.set_eq_of_length_le (by omega)]
      unfold kd
      rw [List.getD_eq_getElem?_getD, List.getElem?_eq_none (by omega)]
      rfl
  rw [hf] at r
  exact ⟨v, ev, hok d σd ed v H _ [] S2.nil ⟨rfl, r.2.mono (kp_ok fun a o => ⟨o.1, fun z => z.elim o.2 (by simp)⟩)⟩ List.nodup_nil g2 (fun q => nomatch q)⟩

/-! ### arguments -/
def aNil : ADen := fun σ => .ok [] σ
def aCons (da : Den) (das : ADen) : ADen := fun σ => match da σ with
  | .ok d σ1 => (match das σ1 with
    | .ok ds σ2 => .ok (d :: ds) σ2
    | .exc x σ2 => .exc x σ2
    | .stuck => .stuck)
  | .exc x σ1 => .exc x σ1
  | .stuck => .stuck
variable {tas : TA} {das : ADen}
theorem sim_anil : SimA K C κ tNil aNil κ true := fun σd σv H l Lo Q S ns hok hex => hok [] σd rfl [] H l S rfl (Go.refl l H) fun _ => ⟨rfl, rfl, rfl⟩
theorem repC_mono {H H' : Hp} {ok ok' : Addr → Prop} (h : Kp H H' ok ok') (hl : ∀ a u, H a = some u → H' a = some u) {d : D} {v : V} (r : RepC K C.NT H ok d v) : RepC K C.NT H' ok' d v := by
  cases d with
  | lst xs =>
    obtain ⟨a, vs, e, t, r⟩ := r
    exact ⟨a, vs, e, hl _ _ t, r.mono h⟩
  | dk kvs =>
    obtain ⟨a, kv, e, t, r⟩ := r
    refine ⟨a, kv, e, ?_, r.mono h⟩
    rcases t with t | ⟨o, t⟩
    · exact .inl (hl _ _ t)
    · exact .inr ⟨o, hl _ _ t⟩
  | obj D fs => obtain ⟨a, dx, fv, e, t, r⟩ := r; exact ⟨a, dx, fv, e, hl _ _ t, r.mono h⟩
  | _ => exact Rep.mono h r
theorem repCs_mono {H H' : Hp} {ok ok' : Addr → Prop} (h : Kp H H' ok ok') (hl : ∀ a u, H a = some u → H' a = some u) : ∀ {d : List D} {v : List V}, RepCs K C.NT H ok d v → RepCs K C.NT H' ok' d v
  | [], _, e => e
  | _ :: _, _, ⟨v, r, e, a, b⟩ => ⟨v, r, e, repC_mono h hl a, repCs_mono h hl b⟩
theorem sim_acons (ha : SimT K C κ ta da s κ1 p1) (hs : s.flat = true) (hb : SimA K C κ1 tas das κ2 p2) : SimA K C κ (tCons ta tas) (aCons da das) κ2 (p1 && p2) := fun σd σv H l Lo Q S ns hok hex => by
  show ta σv H _
  have e0 : aCons da das σd = _ := rfl
  unfold aCons at e0 ns
  refine ha σd σv H l Lo _ S (fun z => ns (by rw [z])) (fun d σ1 e v H1 l1 lx S1 R nd g hp => ?_) (fun x σ1 e => hex x σ1 (by unfold aCons; rw [e]))
  rw [e] at ns
  dsimp only at ns
  refine hb σ1 σv H1 l1 (LoX Lo lx) _ S1 (fun z => ns (by rw [z])) (fun ds σ2 e2 vs H2 l2 S2 Rs g2 hp2 => ?_) (hex.go g fun x σ e2 => by unfold aCons; rw [e]; dsimp only; rw [e2])
  have R2 : RepO K C.NT H2 (okOf l2 (LoX Lo lx)) s d v lx := g2.own S1 R
  have hk : ∀ a, okOf l2 (LoX Lo lx) a → okOf l2 Lo a := fun a o => ⟨o.1, fun z => o.2 (.inl z)⟩
  refine hok (d :: ds) σ2 (by unfold aCons; rw [e]; dsimp only; rw [e2]) (v :: vs) H2 l2 S2.drop ⟨v, vs, rfl, repC_mono (kp_ok hk) (fun _ _ q => q) (R2.c hs), repCs_mono (kp_ok hk) (fun _ _ q => q) Rs⟩ (g.drop.trans g2) fun q => ?_
  obtain ⟨q1, q2⟩ := Bool.and_eq_true_iff.mp q
  obtain ⟨a1, a2, a3, _⟩ := hp q1
  obtain ⟨b1, b2, b3⟩ := hp2 q2
  exact ⟨b1.trans a1, b2.trans a2, b3.trans a3⟩
/-- a name's thing is looked at; what is asked behind it changes nothing -/
theorem sim_apeek {i : Nat} (hs : (kd κ i).flat = true) (hb : SimA K C κ tas das κ2 true) : SimA K C κ (tCons (tVar i) tas) (aCons (dVar i) das) κ2 true := fun σd σv H l Lo Q S ns hok hex => by
  have nsd : dVar i σd ≠ .stuck := fun z => ns (by unfold aCons; rw [z])
  obtain ⟨d, e, ed⟩ := dVar_of nsd
  obtain ⟨v, ev, r⟩ := S.val i d e
  unfold aCons at ns
  rw [ed] at ns
  dsimp only at ns
  refine ⟨v, ev, ?_⟩
  refine hb σd σv H l Lo _ S (fun z => ns (by rw [z])) (fun ds σ2 e2 vs H2 l2 S2 Rs g2 hp2 => ?_) (fun x σ e2 => hex x σ (by unfold aCons; rw [ed]; dsimp only; rw [e2]))
  obtain ⟨b1, b2, b3⟩ := hp2 rfl
  subst b1 b2 b3
  exact hok (d :: ds) σ2 (by unfold aCons; rw [ed]; dsimp only; rw [e2]) (v :: vs) H2 l2 S2 ⟨v, vs, rfl, r.c hs, Rs⟩ g2 fun _ => ⟨rfl, rfl, rfl⟩

/-! ### operations by values -/
/-- r gives what f tells; po: nothing new is made -/
def OpSpec (K : PySem.W.Frag) (NT : List Str) (r : List V → Hp → VK → Prop) (f : List D → Option D) (s : Sh) (po : Bool) : Prop :=
  ∀ H ok ds vs d Q, RepCs K NT H ok ds vs → f ds = some d →
    (∀ v H' lx, Grow H H' lx → RepO K NT H' (fun a => ok a ∧ a ∉ lx) s d v lx → lx.Nodup → (po = true → H' = H ∧ lx = []) → Q v H') → r vs H Q
def dOp (f : List D → Option D) (das : ADen) : Den := fun σ => match das σ with
  | .ok ds σ1 => (match f ds with
    | some d => .ok d σ1
    | none => .stuck)
  | .exc x σ1 => .exc x σ1
  | .stuck => .stuck
theorem sim_op {r : List V → Hp → VK → Prop} {f : List D → Option D} {po : Bool} (ho : OpSpec K C.NT r f s po) (ha : SimA K C κ tas das κ1 p) :
    SimT K C κ (fun σ H Q => tas σ H fun vs H1 => r vs H1 Q) (dOp f das) s κ1 (p && po) := fun σd σv H l Lo Q S ns hok hex => by
  unfold dOp at ns
  refine ha σd σv H l Lo _ S (fun z => ns (by rw [z])) (fun ds σ1 e vs H1 l1 S1 R g hp => ?_) (fun x σ1 e => hex x σ1 (by unfold dOp; rw [e]))
  rw [e] at ns
  dsimp only at ns
  cases ed : f ds with
  | none => rw [ed] at ns; exact absurd rfl ns
  | some d =>
    refine ho H1 _ ds vs d Q R ed fun v H' lx gr Rv nd hpo => ?_
    have S2 := S1.grow gr
    have g2 := gr.go S1
    refine hok d σ1 (by unfold dOp; rw [e]; dsimp only; rw [ed]) v H' l1 lx S2 (Rv.mono (kp_ok fun a o => ⟨o.1.1, fun z => z.elim o.1.2 o.2⟩) fun _ _ _ q => q) nd (g.trans g2) fun q => ?_
    obtain ⟨q1, q2⟩ := Bool.and_eq_true_iff.mp q
    obtain ⟨a1, a2, a3⟩ := hp q1
    obtain ⟨b1, b2⟩ := hpo q2
    exact ⟨a1, b1.trans a2, a3, b2⟩
end
end Pt
set_option maxRecDepth 100000
set_option maxHeartbeats 1000000
namespace Pt
open PySem PySem.Spec PyProof.Rows L2
section
variable {K : PySem.W.Frag} {C : Cc} {κ κ1 κ2 κ3 κ' : List Sh} {s : Sh} {p p1 p2 : Bool} {ta tb : TE} {da db : Den} {tt tu : TT} {bd be : BDen}
/-! ### tests -/
def bVal (da : Den) : BDen := fun σ => match da σ with
  | .ok (.bl b) σ1 => .ok b σ1
  | .exc x σ1 => .exc x σ1
  | _ => .stuck
theorem sim_bval (ha : SimT K C κ ta da .f κ1 p) : SimB K C κ (tB ta) (bVal da) κ1 := fun σd σv H l Lo Q S ns hok hex => by
  unfold bVal at ns
  refine ha σd σv H l Lo _ S (fun z => ns (by rw [z])) (fun d σ1 e v H1 l1 lx S1 R nd g hp => ?_) (fun x σ1 e => hex x σ1 (by unfold bVal; rw [e]))
  rw [e] at ns
  obtain ⟨e0, R⟩ := R
  subst e0
  cases d with
  | bl b => exact ⟨b, R, hok b σ1 (by unfold bVal; rw [e]) H1 l1 S1.drop g⟩
  | _ => exact absurd rfl ns
theorem sim_btest (ha : SimT K C κ ta da .f κ1 p) : SimB K C κ (tTest ta) (bVal da) κ1 := sim_bval ha
/-- a value's truth -/
def truD : D → Option Bool
  | .non => some false
  | .bl b => some b
  | .int i => some (i != 0)
  | .str x => if x.length ≤ sizeLine then some ((x.length : Int) != 0) else none
  | .tup xs => some (!xs.isEmpty)
  | .lst xs => some (!xs.isEmpty)
  | _ => none
def bTru (das : ADen) : BDen := fun σ => match das σ with
  | .ok [d] σ1 => (match truD d with
    | some b => .ok b σ1
    | none => .stuck)
  | .exc x σ1 => .exc x σ1
  | _ => .stuck
theorem isEmpty_len {α β : Type} {xs : List α} {ys : List β} (h : xs.length = ys.length) : xs.isEmpty = ys.isEmpty := by
  cases xs <;> cases ys <;> simp_all
theorem truV_of {H : Hp} {ok : Addr → Prop} {d : D} {v : V} {b : Bool} (r : RepC K C.NT H ok d v) (e : truD d = some b) : TruV K v H b := by
  cases d with
  | non => cases e; rw [show v = .non from r]; exact rfl
  | bl b => cases e; rw [show v = .bl _ from r]; exact rfl
  | int i => cases e; rw [show v = .int _ from r]; exact rfl
  | str x =>
    rw [show v = .str _ from r]
    have e' : (if x.length ≤ sizeLine then some ((x.length : Int) != 0) else none) = some b := e
    by_cases h : x.length ≤ sizeLine
    · rw [if_pos h] at e'
      cases e'
      exact ⟨h, rfl⟩
    · rw [if_neg h] at e'
      cases e'
  | tup xs =>
    obtain ⟨a, vs, rfl, t, r⟩ := r
    cases e
    exact .inr (.inl ⟨vs, t.sq, by rw [isEmpty_len (reps_len r)]⟩)
  | lst xs =>
    obtain ⟨a, vs, rfl, t, r⟩ := r
    cases e
    exact .inl ⟨vs, .inl (.inl t), by rw [isEmpty_len (reps_len r)]⟩
  | _ => cases e
theorem sim_btru {tas : TA} {das : ADen} (ha : SimA K C κ tas das κ1 p) : SimB K C κ (fun σ H Q => tas σ H fun vs H' => ∃ x, vs = [x] ∧ ∃ k, TruV K x H' k ∧ Q k H') (bTru das) κ1 := fun σd σv H l Lo Q S ns hok hex => by
  unfold bTru at ns
  refine ha σd σv H l Lo _ S (fun z => ns (by rw [z])) (fun ds σ1 e vs H1 l1 S1 R g hp => ?_) (fun x σ1 e => hex x σ1 (by unfold bTru; rw [e]))
  rw [e] at ns
  match ds, R with
  | [], _ => exact absurd rfl ns
  | _ :: _ :: _, _ => exact absurd rfl ns
  | [d], ⟨v, r, e1, q1, q2⟩ =>
    dsimp only at ns
    cases eb : truD d with
    | none => rw [eb] at ns; exact absurd rfl ns
    | some b =>
      have q2 : r = [] := q2
      subst q2
      exact ⟨v, e1, b, truV_of (C := C) q1 eb, hok b σ1 (by unfold bTru; rw [e]; dsimp only; rw [eb]) H1 l1 S1 g⟩
def bNot (bd : BDen) : BDen := fun σ => match bd σ with
  | .ok b σ1 => .ok (!b) σ1
  | .exc x σ1 => .exc x σ1
  | .stuck => .stuck
theorem sim_bnot (h : SimB K C κ tt bd κ1) : SimB K C κ (tNot tt) (bNot bd) κ1 := fun σd σv H l Lo Q S ns hok hex => by
  unfold bNot at ns
  exact h σd σv H l Lo _ S (fun z => ns (by rw [z])) (fun b σ1 e H1 l1 S1 g => hok (!b) σ1 (by unfold bNot; rw [e]) H1 l1 S1 g) (fun x σ1 e => hex x σ1 (by unfold bNot; rw [e]))
/-- the second is asked only if the first is b -/
def bAnd (bd be : BDen) : BDen := fun σ => match bd σ with
  | .ok true σ1 => be σ1
  | r => r
def bOr (bd be : BDen) : BDen := fun σ => match bd σ with
  | .ok false σ1 => be σ1
  | r => r
theorem sim_band (h : SimB K C κ tt bd κ1) (h2 : SimB K C κ1 tu be κ1) : SimB K C κ (tAnd tt tu) (bAnd bd be) κ1 := fun σd σv H l Lo Q S ns hok hex => by
  unfold bAnd at ns
  refine h σd σv H l Lo _ S (fun z => ns (by rw [z])) (fun b σ1 e H1 l1 S1 g => ?_) (fun x σ1 e => hex x σ1 (by unfold bAnd; rw [e]))
  rw [e] at ns
  cases b with
  | true => exact h2 σ1 σv H1 l1 Lo _ S1 (fun z => ns (by dsimp only; rw [z])) (fun b σ2 e2 H2 l2 S2 g2 => hok b σ2 (by unfold bAnd; rw [e]; exact e2) H2 l2 S2 (g.trans g2)) (hex.go0 g fun x σ e2 => by unfold bAnd; rw [e]; exact e2)
  | false => exact hok false σ1 (by unfold bAnd; rw [e]) H1 l1 S1 g
theorem sim_bor (h : SimB K C κ tt bd κ1) (h2 : SimB K C κ1 tu be κ1) : SimB K C κ (tOr tt tu) (bOr bd be) κ1 := fun σd σv H l Lo Q S ns hok hex => by
  unfold bOr at ns
  refine h σd σv H l Lo _ S (fun z => ns (by rw [z])) (fun b σ1 e H1 l1 S1 g => ?_) (fun x σ1 e => hex x σ1 (by unfold bOr; rw [e]))
  rw [e] at ns
  cases b with
  | false => exact h2 σ1 σv H1 l1 Lo _ S1 (fun z => ns (by dsimp only; rw [z])) (fun b σ2 e2 H2 l2 S2 g2 => hok b σ2 (by unfold bOr; rw [e]; exact e2) H2 l2 S2 (g.trans g2)) (hex.go0 g fun x σ e2 => by unfold bOr; rw [e]; exact e2)
  | true => exact hok true σ1 (by unfold bOr; rw [e]) H1 l1 S1 g
/-! ### and, or, not, if as values -/
def dAnd (da db : Den) : Den := fun σ => match da σ with
  | .ok (.bl true) σ1 => db σ1
  | .ok (.bl false) σ1 => .ok (.bl false) σ1
  | .exc x σ1 => .exc x σ1
  | _ => .stuck
def dOr (da db : Den) : Den := fun σ => match da σ with
  | .ok (.bl false) σ1 => db σ1
  | .ok (.bl true) σ1 => .ok (.bl true) σ1
  | .exc x σ1 => .exc x σ1
  | _ => .stuck
theorem SimT.eff2 (h : SimT K C κ ta da s κ' p) (q : p2 = true → p = true) : SimT K C κ ta da s κ' p2 := fun σd σv H l Lo Q S ns hok hex =>
  h σd σv H l Lo Q S ns (fun d σd' e v H' l' lx S' R nd g hp => hok d σd' e v H' l' lx S' R nd g fun z => hp (q z)) hex
theorem sim_dand (ha : SimT K C κ ta da .f κ1 p1) (hb : SimT K C κ1 tb db .f κ1 p2) : SimT K C κ (tAndV ta tb) (dAnd da db) .f κ1 (p1 && p2) := fun σd σv H l Lo Q S ns hok hex => by
  unfold dAnd at ns
  refine ha σd σv H l Lo _ S (fun z => ns (by rw [z])) (fun d σ1 e v H1 l1 lx S1 R nd g hp => ?_) (fun x σ1 e => hex x σ1 (by unfold dAnd; rw [e]))
  rw [e] at ns
  obtain ⟨e0, R⟩ := R
  subst e0
  cases d with
  | bl b =>
    refine ⟨b, R, ?_⟩
    cases b with
    | true =>
      refine iteT ?_
      refine hb σ1 σv H1 l1 Lo _ S1.drop (fun z => ns (by dsimp only; rw [z])) (fun d σ2 e2 v H2 l2 lx S2 R2 nd2 g2 hp2 => ?_) (hex.go0 g fun x σ e2 => by unfold dAnd; rw [e]; exact e2)
      refine hok d σ2 (by unfold dAnd; rw [e]; exact e2) v H2 l2 lx S2 R2 nd2 (g.trans g2) fun q => ?_
      obtain ⟨q1, q2⟩ := Bool.and_eq_true_iff.mp q
      obtain ⟨a1, a2, a3, _⟩ := hp q1
      obtain ⟨b1, b2, b3, b4⟩ := hp2 q2
      exact ⟨b1.trans a1, b2.trans a2, b3.trans a3, b4⟩
    | false =>
      refine iteF ?_
      exact hok (.bl false) σ1 (by unfold dAnd; rw [e]) (.bl false) H1 l1 [] S1 ⟨rfl, rfl⟩ List.nodup_nil g fun q => by
        obtain ⟨q1, q2⟩ := Bool.and_eq_true_iff.mp q
        obtain ⟨a1, a2, a3, _⟩ := hp q1
        exact ⟨a1, a2, a3, rfl⟩
  | _ => exact absurd rfl ns
theorem sim_dor (ha : SimT K C κ ta da .f κ1 p1) (hb : SimT K C κ1 tb db .f κ1 p2) : SimT K C κ (tOrV ta tb) (dOr da db) .f κ1 (p1 && p2) := fun σd σv H l Lo Q S ns hok hex => by
  unfold dOr at ns
  refine ha σd σv H l Lo _ S (fun z => ns (by rw [z])) (fun d σ1 e v H1 l1 lx S1 R nd g hp => ?_) (fun x σ1 e => hex x σ1 (by unfold dOr; rw [e]))
  rw [e] at ns
  obtain ⟨e0, R⟩ := R
  subst e0
  cases d with
  | bl b =>
    refine ⟨b, R, ?_⟩
    cases b with
    | false =>
      refine iteF ?_
      refine hb σ1 σv H1 l1 Lo _ S1.drop (fun z => ns (by dsimp only; rw [z])) (fun d σ2 e2 v H2 l2 lx S2 R2 nd2 g2 hp2 => ?_) (hex.go0 g fun x σ e2 => by unfold dOr; rw [e]; exact e2)
      refine hok d σ2 (by unfold dOr; rw [e]; exact e2) v H2 l2 lx S2 R2 nd2 (g.trans g2) fun q => ?_
      obtain ⟨q1, q2⟩ := Bool.and_eq_true_iff.mp q
      obtain ⟨a1, a2, a3, _⟩ := hp q1
      obtain ⟨b1, b2, b3, b4⟩ := hp2 q2
      exact ⟨b1.trans a1, b2.trans a2, b3.trans a3, b4⟩
    | true =>
      refine iteT ?_
      exact hok (.bl true) σ1 (by unfold dOr; rw [e]) (.bl true) H1 l1 [] S1 ⟨rfl, rfl⟩ List.nodup_nil g fun q => by
        obtain ⟨q1, q2⟩ := Bool.and_eq_true_iff.mp q
        obtain ⟨a1, a2, a3, _⟩ := hp q1
        exact ⟨a1, a2, a3, rfl⟩
  | _ => exact absurd rfl ns
def dIf (bd : BDen) (da db : Den) : Den := fun σ => match bd σ with
  | .ok true σ1 => da σ1
  | .ok false σ1 => db σ1
  | .exc x σ1 => .exc x σ1
  | .stuck => .stuck
theorem sim_dif (h : SimB K C κ tt bd κ1) (ha : SimT K C κ1 ta da s κ2 p1) (hb : SimT K C κ1 tb db s κ2 p2) : SimT K C κ (tIf tt ta tb) (dIf bd da db) s κ2 false := fun σd σv H l Lo Q S ns hok hex => by
  unfold dIf at ns
  refine h σd σv H l Lo _ S (fun z => ns (by rw [z])) (fun b σ1 e H1 l1 S1 g => ?_) (fun x σ1 e => hex x σ1 (by unfold dIf; rw [e]))
  rw [e] at ns
  cases b with
  | true =>
    refine iteT ?_
    exact ha σ1 σv H1 l1 Lo _ S1 (fun z => ns (by dsimp only; rw [z])) (fun d σ2 e2 v H2 l2 lx S2 R2 nd2 g2 hp2 => hok d σ2 (by unfold dIf; rw [e]; exact e2) v H2 l2 lx S2 R2 nd2 (g.trans g2) fun q => nomatch q) (hex.go0 g fun x σ e2 => by unfold dIf; rw [e]; exact e2)
  | false =>
    refine iteF ?_
    exact hb σ1 σv H1 l1 Lo _ S1 (fun z => ns (by dsimp only; rw [z])) (fun d σ2 e2 v H2 l2 lx S2 R2 nd2 g2 hp2 => hok d σ2 (by unfold dIf; rw [e]; exact e2) v H2 l2 lx S2 R2 nd2 (g.trans g2) fun q => nomatch q) (hex.go0 g fun x σ e2 => by unfold dIf; rw [e]; exact e2)

/-! ### statements -/
variable {t u : TS} {sd se : SDen} {κb : List Sh} {rs : Sh}
def sNext : SDen := fun σ => .nx σ
def sSeq (sd se : SDen) : SDen := fun σ => match sd σ with
  | .nx σ1 => se σ1
  | r => r
theorem sim_snext : SimS K C κ tNext sNext κ κb rs := fun σd σv H l Lo E S ns hn _ _ _ _ => hn σd rfl σv H l S (Go.refl l H)
theorem sim_sseq (h1 : SimS K C κ t sd κ1 κb rs) (h2 : SimS K C κ1 u se κ2 κb rs) : SimS K C κ (tSeq t u) (sSeq sd se) κ2 κb rs := fun σd σv H l Lo E S ns hn hb hc hr hx => by
  unfold sSeq at ns
  refine h1 σd σv H l Lo { E with nx := u E } S (fun z => ns (by rw [z])) (fun σ1 e σv1 H1 l1 S1 g => ?_) (fun σ1 e => hb σ1 (by unfold sSeq; rw [e])) (fun σ1 e => hc σ1 (by unfold sSeq; rw [e])) (fun d σ1 e => hr d σ1 (by unfold sSeq; rw [e])) (fun x σ1 e => hx x σ1 (by unfold sSeq; rw [e]))
  rw [e] at ns
  have eq : ∀ r, se σ1 = r → sSeq sd se σd = r := fun r q => by unfold sSeq; rw [e]; exact q
  exact h2 σ1 σv1 H1 l1 Lo E S1 ns (fun σ2 e2 σv2 H2 l2 S2 g2 => hn σ2 (eq _ e2) σv2 H2 l2 S2 (g.trans g2)) (fun σ2 e2 σv2 H2 l2 S2 g2 => hb σ2 (eq _ e2) σv2 H2 l2 S2 (g.trans g2)) (fun σ2 e2 σv2 H2 l2 S2 g2 => hc σ2 (eq _ e2) σv2 H2 l2 S2 (g.trans g2))
    (fun d σ2 e2 v σv2 H2 l2 lx S2 R nd g2 => hr d σ2 (eq _ e2) v σv2 H2 l2 lx S2 R nd (g.trans g2)) (fun x σ2 e2 c dd σv2 H2 l2 S2 R g2 => hx x σ2 (eq _ e2) c dd σv2 H2 l2 S2 R (g.trans g2))
/-- kinds weakened ahead; behind -/
theorem SimS.pre (h : SimS K C κ1 t sd κ' κb rs) (w : wkB κ κ1 = true) : SimS K C κ t sd κ' κb rs := fun σd σv H l Lo E S ns hn hb hc hr hx => by
  obtain ⟨S1, g⟩ := S.weak (wk_of w)
  exact h σd σv H _ Lo E S1 ns (fun σ2 e2 σv2 H2 l2 S2 g2 => hn σ2 e2 σv2 H2 l2 S2 (g.trans g2)) (fun σ2 e2 σv2 H2 l2 S2 g2 => hb σ2 e2 σv2 H2 l2 S2 (g.trans g2)) (fun σ2 e2 σv2 H2 l2 S2 g2 => hc σ2 e2 σv2 H2 l2 S2 (g.trans g2))
    (fun d σ2 e2 v σv2 H2 l2 lx S2 R nd g2 => hr d σ2 e2 v σv2 H2 l2 lx S2 R nd (g.trans g2)) (fun x σ2 e2 c dd σv2 H2 l2 S2 R g2 => hx x σ2 e2 c dd σv2 H2 l2 S2 R (g.trans g2))
theorem SimS.post (h : SimS K C κ t sd κ1 κb rs) (w : wkB κ1 κ' = true) : SimS K C κ t sd κ' κb rs := fun σd σv H l Lo E S ns hn hb hc hr hx =>
  h σd σv H l Lo E S ns (fun σ2 e2 σv2 H2 l2 S2 g2 => by
    obtain ⟨S3, g3⟩ := S2.weak (wk_of w)
    exact hn σ2 e2 σv2 H2 _ S3 (g2.trans g3)) hb hc hr hx
def sBrk : SDen := fun σ => .brk σ
def sCt : SDen := fun σ => .ct σ
theorem sim_sbrk (w : wkB κ κb = true) : SimS K C κ tBreak sBrk κ' κb rs := fun σd σv H l Lo E S ns hn hb _ _ _ => by
  obtain ⟨S1, g⟩ := S.weak (wk_of w)
  exact hb σd rfl σv H _ S1 g
theorem sim_sct (w : wkB κ κb = true) : SimS K C κ tCont sCt κ' κb rs := fun σd σv H l Lo E S ns hn hb hc _ _ => by
  obtain ⟨S1, g⟩ := S.weak (wk_of w)
  exact hc σd rfl σv H _ S1 g
def sExpr (da : Den) : SDen := fun σ => match da σ with
  | .ok _ σ1 => .nx σ1
  | .exc x σ1 => .exc x σ1
  | .stuck => .stuck
theorem sim_sexpr (ha : SimT K C κ ta da s κ1 p) : SimS K C κ (tDrop ta) (sExpr da) κ1 κb rs := fun σd σv H l Lo E S ns hn hb hc hr hx => by
  unfold sExpr at ns
  exact ha σd σv H l Lo _ S (fun z => ns (by rw [z])) (fun d σ1 e v H1 l1 lx S1 R nd g hp => hn σ1 (by unfold sExpr; rw [e]) σv H1 l1 S1.drop g.drop) (fun x σ1 e c dd H' l' => hx x σ1 (by unfold sExpr; rw [e]) c dd σv H' l')
def sRet (da : Den) : SDen := fun σ => match da σ with
  | .ok d σ1 => .ret d σ1
  | .exc x σ1 => .exc x σ1
  | .stuck => .stuck
theorem sim_sret (ha : SimT K C κ ta da rs κ1 p) (w : wkB κ1 C.κx = true) : SimS K C κ (tRet ta) (sRet da) κ' κb rs := fun σd σv H l Lo E S ns hn hb hc hr hx => by
  unfold sRet at ns
  refine ha σd σv H l Lo _ S (fun z => ns (by rw [z])) (fun d σ1 e v H1 l1 lx S1 R nd g hp => ?_) (fun x σ1 e c dd H' l' => hx x σ1 (by unfold sRet; rw [e]) c dd σv H' l')
  obtain ⟨S2, g2⟩ := S1.weak (wk_of w)
  exact hr d σ1 (by unfold sRet; rw [e]) v σv H1 _ lx S2 (R.mono g2.kp fun _ _ _ e => e) nd ⟨fun a u e n => by
    obtain ⟨e1, n1, y1⟩ := g.keep a u e n
    exact ⟨e1, (g2.keep a u e1 n1).2.1, y1⟩, g.dom⟩
def sRetN : SDen := fun σ => .ret .non σ
theorem sim_sretn (w : wkB κ C.κx = true) : SimS K C κ tRetN sRetN κ' κb .f := fun σd σv H l Lo E S ns hn hb hc hr hx => by
  obtain ⟨S2, g2⟩ := S.weak (wk_of w)
  exact hr .non σd rfl .non σv H _ [] S2.nil ⟨rfl, rfl⟩ List.nodup_nil g2
def sIf (bd : BDen) (sd se : SDen) : SDen := fun σ => match bd σ with
  | .ok true σ1 => sd σ1
  | .ok false σ1 => se σ1
  | .exc x σ1 => .exc x σ1
  | .stuck => .stuck
theorem sim_sif (h : SimB K C κ tt bd κ1) (h1 : SimS K C κ1 t sd κ2 κb rs) (h2 : SimS K C κ1 u se κ2 κb rs) : SimS K C κ (tIfS tt t u) (sIf bd sd se) κ2 κb rs := fun σd σv H l Lo E S ns hn hb hc hr hx => by
  unfold sIf at ns
  refine h σd σv H l Lo _ S (fun z => ns (by rw [z])) (fun b σ1 e H1 l1 S1 g => ?_) (fun x σ1 e c dd H' l' => hx x σ1 (by unfold sIf; rw [e]) c dd σv H' l')
  rw [e] at ns
  cases b with
  | true =>
    refine iteT ?_
    have eq : ∀ r, sd σ1 = r → sIf bd sd se σd = r := fun r q => by unfold sIf; rw [e]; exact q
    exact h1 σ1 σv H1 l1 Lo E S1 ns (fun σ2 e2 σv2 H2 l2 S2 g2 => hn σ2 (eq _ e2) σv2 H2 l2 S2 (g.trans g2)) (fun σ2 e2 σv2 H2 l2 S2 g2 => hb σ2 (eq _ e2) σv2 H2 l2 S2 (g.trans g2)) (fun σ2 e2 σv2 H2 l2 S2 g2 => hc σ2 (eq _ e2) σv2 H2 l2 S2 (g.trans g2))
      (fun d σ2 e2 v σv2 H2 l2 lx S2 R nd g2 => hr d σ2 (eq _ e2) v σv2 H2 l2 lx S2 R nd (g.trans g2)) (fun x σ2 e2 c dd σv2 H2 l2 S2 R g2 => hx x σ2 (eq _ e2) c dd σv2 H2 l2 S2 R (g.trans g2))
  | false =>
    refine iteF ?_
    have eq : ∀ r, se σ1 = r → sIf bd sd se σd = r := fun r q => by unfold sIf; rw [e]; exact q
    exact h2 σ1 σv H1 l1 Lo E S1 ns (fun σ2 e2 σv2 H2 l2 S2 g2 => hn σ2 (eq _ e2) σv2 H2 l2 S2 (g.trans g2)) (fun σ2 e2 σv2 H2 l2 S2 g2 => hb σ2 (eq _ e2) σv2 H2 l2 S2 (g.trans g2)) (fun σ2 e2 σv2 H2 l2 S2 g2 => hc σ2 (eq _ e2) σv2 H2 l2 S2 (g.trans g2))
      (fun d σ2 e2 v σv2 H2 l2 lx S2 R nd g2 => hr d σ2 (eq _ e2) v σv2 H2 l2 lx S2 R nd (g.trans g2)) (fun x σ2 e2 c dd σv2 H2 l2 S2 R g2 => hx x σ2 (eq _ e2) c dd σv2 H2 l2 S2 R (g.trans g2))
end
end Pt
set_option maxRecDepth 100000
set_option maxHeartbeats 1000000
namespace Pt
open PySem PySem.Spec PyProof.Rows L2

/-! ### pieces of the text with their tree functions -/
section
variable (X : Cx) (C : Cc)
def EE (κ : List Sh) (e : Expr) (den : Den) (s : Sh) (κ' : List Sh) (p : Bool) : Prop := ∃ t, PE X e t ∧ SimT X.K C κ t den s κ' p
inductive PEs : List Expr → List TE → Prop where
  | nil : PEs [] []
  | cons {e : Expr} {es : List Expr} {t : TE} {ts : List TE} : PE X e t → starEach (e :: es) X.env = (false, eval e X.env) :: starEach es X.env → PEs es ts → PEs (e :: es) (t :: ts)
def tConses : List TE → TA
  | [] => tNil
  | t :: ts => tCons t (tConses ts)
/-- arguments that are read; that are given away -/
def AE (κ : List Sh) (es : List Expr) (den : ADen) (κ' : List Sh) (p : Bool) : Prop := ∃ ts, PEs X es ts ∧ SimA X.K C κ (tConses ts) den κ' p
def SimF (K : PySem.W.Frag) (C : Cc) (κ : List Sh) (t : TA) (den : ADen) (κ' : List Sh) (p : Bool) : Prop :=
  ∀ σd σv H l Lo Q, SOk K C κ σd σv H l Lo → den σd ≠ .stuck →
    (∀ ds σd', den σd = .ok ds σd' → ∀ vs H' l', SOk K C κ' σd' σv H' l' Lo → Reps K C.NT H' (okOf l' Lo) ds vs → Go l H l' [] H' →
      (p = true → σd' = σd ∧ H' = H ∧ l' = l) → Q vs H') →
    ExW K C (fun x σd' => den σd = .exc x σd') σv H l Lo → t σv H Q
def FE (κ : List Sh) (es : List Expr) (den : ADen) (κ' : List Sh) (p : Bool) : Prop := ∃ ts, PEs X es ts ∧ SimF X.K C κ (tConses ts) den κ' p
def BB (κ : List Sh) (e : Expr) (bd : BDen) (κ' : List Sh) : Prop := ∃ t, PT X e t ∧ SimB X.K C κ t bd κ'
def SS (κ : List Sh) (st : Stmt) (sd : SDen) (κ' κb : List Sh) (rs : Sh) : Prop := ∃ t, PS X st t ∧ SimS X.K C κ t sd κ' κb rs
def SSs (κ : List Sh) (st : List Stmt) (sd : SDen) (κ' κb : List Sh) (rs : Sh) : Prop := ∃ t, PSs X st t ∧ SimS X.K C κ t sd κ' κb rs
end
section
variable {X : Cx} {C : Cc} {κ κ1 κ2 κ3 κ' : List Sh} {s : Sh} {p p1 p2 po : Bool} {a b c e : Expr} {es : List Expr} {da db : Den} {das : ADen} {bd be : BDen} {pos : Pos}
theorem PEs.star : ∀ {es : List Expr} {ts : List TE}, PEs X es ts → ∀ pos, (backTo pos (starEach es X.env)).any (·.1) = false
  | _, _, .nil, pos => rfl
  | _, _, .cons h hs r, pos => by
    rw [hs]
    show (false || (backTo pos (starEach _ X.env)).any (·.1)) = false
    rw [r.star pos]
    rfl
theorem PEs.pa : ∀ {es : List Expr} {ts : List TE}, PEs X es ts → PA X es (tConses ts)
  | _, _, .nil => pa_nil
  | _, _, .cons h hs r => pa_cons h r.pa hs
theorem reps_repCs {K : PySem.W.Frag} {NT : List Str} {H : Hp} {ok : Addr → Prop} : ∀ {ds : List D} {vs : List V}, Reps K NT H ok ds vs → RepCs K NT H ok ds vs
  | [], _, e => e
  | _ :: _, _, ⟨v, r, e, a, b⟩ => ⟨v, r, e, a.c, reps_repCs b⟩
theorem SimF.sa {K : PySem.W.Frag} {t : TA} (h : SimF K C κ t das κ' p) : SimA K C κ t das κ' p := fun σd σv H l Lo Q S ns hok hex =>
  h σd σv H l Lo Q S ns (fun ds σd' e vs H' l' S' R g hp => hok ds σd' e vs H' l' S' (reps_repCs R) g hp) hex
theorem sim_fcons {K : PySem.W.Frag} {ta : TE} {tas : TA} (ha : SimT K C κ ta da .f κ1 p1) (hb : SimF K C κ1 tas das κ2 p2) : SimF K C κ (tCons ta tas) (aCons da das) κ2 (p1 && p2) := fun σd σv H l Lo Q S ns hok hex => by
  show ta σv H _
  unfold aCons at ns
  refine ha σd σv H l Lo _ S (fun z => ns (by rw [z])) (fun d σ1 e v H1 l1 lx S1 R nd g hp => ?_) (fun x σ1 e => hex x σ1 (by unfold aCons; rw [e]))
  rw [e] at ns
  dsimp only at ns
  obtain ⟨e0, R⟩ := R
  subst e0
  refine hb σ1 σv H1 l1 Lo _ S1.drop (fun z => ns (by rw [z])) (fun ds σ2 e2 vs H2 l2 S2 Rs g2 hp2 => ?_) (hex.go0 g fun x σ e2 => by unfold aCons; rw [e]; dsimp only; rw [e2])
  refine hok (d :: ds) σ2 (by unfold aCons; rw [e]; dsimp only; rw [e2]) (v :: vs) H2 l2 S2 ⟨v, vs, rfl, (R.mono (kp_ok fun a o => ⟨o.1, fun z => o.2 (.inl z)⟩)).mono (g2.kp), Rs⟩ (g.trans g2) fun q => ?_
  obtain ⟨q1, q2⟩ := Bool.and_eq_true_iff.mp q
  obtain ⟨a1, a2, a3, _⟩ := hp q1
  obtain ⟨b1, b2, b3⟩ := hp2 q2
  exact ⟨b1.trans a1, b2.trans a2, b3.trans a3⟩
/-! arguments -/
theorem ae_nil : AE X C κ [] aNil κ true := ⟨[], .nil, sim_anil⟩
theorem fe_nil : FE X C κ [] aNil κ true := ⟨[], .nil, fun σd σv H l Lo Q S ns hok hex => hok [] σd rfl [] H l S rfl (Go.refl l H) fun _ => ⟨rfl, rfl, rfl⟩⟩
theorem ae_cons (ha : EE X C κ a da s κ1 p1) (hb : AE X C κ1 es das κ2 p2) (hs : s.flat = true := by rfl) (hst : starEach (a :: es) X.env = (false, eval a X.env) :: starEach es X.env := by rfl) : AE X C κ (a :: es) (aCons da das) κ2 (p1 && p2) := by
  obtain ⟨t, h1, h2⟩ := ha
  obtain ⟨ts, h3, h4⟩ := hb
  exact ⟨t :: ts, .cons h1 hst h3, sim_acons h2 hs h4⟩
theorem fe_cons (ha : EE X C κ a da .f κ1 p1) (hb : FE X C κ1 es das κ2 p2) (hst : starEach (a :: es) X.env = (false, eval a X.env) :: starEach es X.env := by rfl) : FE X C κ (a :: es) (aCons da das) κ2 (p1 && p2) := by
  obtain ⟨t, h1, h2⟩ := ha
  obtain ⟨ts, h3, h4⟩ := hb
  exact ⟨t :: ts, .cons h1 hst h3, sim_fcons h2 h4⟩
theorem ae_peek {x : Str} (i j : Nat) (vis : List Str) (hv : ∀ y ∈ vis, Vis X.env.scope y ∧ (y == ("__debug__" : Str)) = false ∧ (y == ("__classdict__" : Str)) = false) (hb : AE X C κ es das κ2 true) (hN : X.N[i]? = some x) (hj : vis[j]? = some x) (hs : (kd κ i).flat = true := by rfl)
    (hst : starEach (.Name x pos :: es) X.env = (false, eval (.Name x pos) X.env) :: starEach es X.env := by rfl) : AE X C κ (.Name x pos :: es) (aCons (dVar i) das) κ2 true := by
  obtain ⟨ts, h3, h4⟩ := hb
  obtain ⟨h1, h2, h5⟩ := hv x (List.mem_of_getElem? hj)
  exact ⟨tVar i :: ts, .cons (pe_var hN h1 h2 h5) hst h3, sim_apeek hs h4⟩
theorem FE.ae (h : FE X C κ es das κ' p) : AE X C κ es das κ' p := by
  obtain ⟨ts, h1, h2⟩ := h
  exact ⟨ts, h1, h2.sa⟩
theorem EE.frz (h : EE X C κ a da s κ' p) : EE X C κ a da .f κ' p := by
  obtain ⟨t, h1, h2⟩ := h
  exact ⟨t, h1, h2.frz⟩
theorem EE.eff (h : EE X C κ a da s κ' p) : EE X C κ a da s κ' false := by
  obtain ⟨t, h1, h2⟩ := h
  exact ⟨t, h1, h2.eff⟩
theorem EE.wk (h : EE X C κ a da .f κ1 p) (w : wkB κ1 κ' = true) : EE X C κ a da .f κ' false := by
  obtain ⟨t, h1, h2⟩ := h
  exact ⟨t, h1, h2.wk w⟩

/-! ### names and constants -/
theorem ee_var {x : Str} (i j : Nat) (vis : List Str) (hv : ∀ y ∈ vis, Vis X.env.scope y ∧ (y == ("__debug__" : Str)) = false ∧ (y == ("__classdict__" : Str)) = false) (hN : X.N[i]? = some x) (hj : vis[j]? = some x) (hk : kd κ i = .f := by rfl) : EE X C κ (.Name x pos) (dVar i) .f κ true := by
  obtain ⟨h1, h2, h5⟩ := hv x (List.mem_of_getElem? hj)
  exact ⟨tVar i, pe_var hN h1 h2 h5, sim_var hk⟩
theorem ee_give {x : Str} {κ' : List Sh} (i j : Nat) (vis : List Str) (hv : ∀ y ∈ vis, Vis X.env.scope y ∧ (y == ("__debug__" : Str)) = false ∧ (y == ("__classdict__" : Str)) = false) (hN : X.N[i]? = some x) (hj : vis[j]? = some x) (hk' : κ.set i .f = κ' := by rfl) : EE X C κ (.Name x pos) (dVar i) .f κ' false := by
  subst hk'
  obtain ⟨h1, h2, h5⟩ := hv x (List.mem_of_getElem? hj)
  exact ⟨tVar i, pe_var hN h1 h2 h5, sim_varG⟩
theorem ee_int {i : Int} {k : Nat} : EE X C κ (.Constant (.int i) k pos) (dC (.int i)) .f κ true := ⟨_, pe_int, sim_c fun _ _ => rfl⟩
theorem ee_bl {i : Bool} {k : Nat} : EE X C κ (.Constant (.bool i) k pos) (dC (.bl i)) .f κ true := ⟨_, pe_bl, sim_c fun _ _ => rfl⟩
theorem ee_non {k : Nat} : EE X C κ (.Constant .none k pos) (dC .non) .f κ true := ⟨_, pe_non, sim_c fun _ _ => rfl⟩
theorem ee_str {x : Str} {k : Nat} : EE X C κ (.Constant (.str x) k pos) (dC (.str x)) .f κ true := ⟨_, pe_str, sim_c fun _ _ => rfl⟩
/-- a constant of the module -/
theorem ee_gc {x : Str} {d : D} {v : V} {u : Value} (hg : Gl X x) (hm : X.mg x = some u) (r : RelV v u) (h : ∀ H ok, Rep X.K C.NT H ok d v) (hd : (x == ("__debug__" : Str)) = false := by decide) : EE X C κ (.Name x pos) (dC d) .f κ true := ⟨_, pe_glob hg hm r hd, sim_c h⟩
/-- a built-in class -/
theorem ee_ty {x : Str} {n : String} (hg : Gl X x) (hm : X.mg x = none) (hv : bootBuiltins x = some (.type n)) (hn : x ≠ "__name__" := by decide) (hd : (x == ("__debug__" : Str)) = false := by decide) : EE X C κ (.Name x pos) (dC (.ty n)) .f κ true :=
  ⟨_, pe_bltn hg hm hv (v := .ty n) rfl hn hd, sim_c fun _ _ => rfl⟩

/-! ### operators -/
def r2L (r : R2) : List V → Hp → VK → Prop := fun vs H Q => match vs with
  | [x, y] => r x y H Q
  | _ => False
def r1L (r : V → Hp → VK → Prop) : List V → Hp → VK → Prop := fun vs H Q => match vs with
  | [x] => r x H Q
  | _ => False
theorem AE.two (h : AE X C κ [a, b] das κ' p) : ∃ ta tb, PE X a ta ∧ PE X b tb ∧ SimA X.K C κ (tCons ta (tCons tb tNil)) das κ' p := by
  obtain ⟨ts, h1, h2⟩ := h
  cases h1 with
  | cons h1 _ h3 =>
    cases h3 with
    | cons h4 _ h5 =>
      cases h5
      exact ⟨_, _, h1, h4, h2⟩
theorem AE.one (h : AE X C κ [a] das κ' p) : ∃ ta, PE X a ta ∧ SimA X.K C κ (tCons ta tNil) das κ' p := by
  obtain ⟨ts, h1, h2⟩ := h
  cases h1 with
  | cons h1 _ h3 =>
    cases h3
    exact ⟨_, h1, h2⟩
theorem ee_bin {op : Operator} {r : R2} {f : List D → Option D} (ho : OpR X (binaryOp op) r) (hs : OpSpec X.K C.NT (r2L r) f s po) (ha : AE X C κ [a, b] das κ' p) : EE X C κ (.BinOp a op b pos) (dOp f das) s κ' (p && po) := by
  obtain ⟨ta, tb, h1, h2, h3⟩ := ha.two
  exact ⟨_, pe_op ho h1 h2, sim_op hs h3⟩
theorem ee_un {op : UnaryOp} {r : V → Hp → VK → Prop} {f : List D → Option D} (ho : UnR X (unaryOp op) r) (hs : OpSpec X.K C.NT (r1L r) f s po) (ha : AE X C κ [a] das κ' p) : EE X C κ (.UnaryOp op a pos) (dOp f das) s κ' (p && po) := by
  obtain ⟨ta, h1, h3⟩ := ha.one
  exact ⟨_, pe_un ho h1, sim_op hs h3⟩
theorem ee_cmp {op : CmpOp} {r : R2} {f : List D → Option D} (ho : OpR X (compareOp op) r) (hs : OpSpec X.K C.NT (r2L r) f .f po) (ha : AE X C κ [a, b] das κ' p) (hm : behindInMarks op b = false := by first | exact nomark _ | rfl) : EE X C κ (.Compare a [op] [b] pos) (dOp f das) .f κ' (p && po) := by
  obtain ⟨ta, tb, h1, h2, h3⟩ := ha.two
  exact ⟨_, pe_cmpR ho h1 h2 hm, sim_op hs h3⟩
theorem bb_cmp {op : CmpOp} {r : R2} {f : List D → Option D} (ho : OpR X (compareOp op) r) (hs : OpSpec X.K C.NT (r2L r) f .f po) (ha : AE X C κ [a, b] das κ' p) (hm : behindInMarks op b = false := by first | exact nomark _ | rfl) : BB X C κ (.Compare a [op] [b] pos) (bVal (dOp f das)) κ' := by
  obtain ⟨ta, tb, h1, h2, h3⟩ := ha.two
  exact ⟨_, pt_cmpR ho h1 h2 hm, sim_btest (sim_op hs h3)⟩
theorem bb_val (ha : EE X C κ a da .f κ' p) (he : ∀ whole, isTrue a X.env whole = (do let v ← whole; standAt a.pos; holding [v] (truthy v)) := by intro _; rfl) : BB X C κ a (bVal da) κ' := by
  obtain ⟨t, h1, h2⟩ := ha
  exact ⟨_, pt_val h1 he, sim_bval h2⟩
theorem bb_tru (ha : AE X C κ [a] das κ' p) (he : ∀ whole, isTrue a X.env whole = (do let v ← whole; standAt a.pos; holding [v] (truthy v)) := by intro _; rfl) : BB X C κ a (bTru das) κ' := by
  obtain ⟨ta, h1, h3⟩ := ha.one
  refine ⟨_, ⟨fun pins s σ H Q I h => (pt_truth h1 he).run pins s σ H Q I ?_⟩, sim_btru h3⟩
  refine (?_ : tCons ta tNil σ H (fun vs H' => ∃ x, vs = [x] ∧ ∃ k, TruV X.K x H' k ∧ Q k H') → ta σ H fun x H' => ∃ k, TruV X.K x H' k ∧ Q k H') h
  intro z
  have e : (fun x H1 => tNil σ H1 fun xs H2 => (fun vs H' => ∃ x, vs = [x] ∧ ∃ k, TruV X.K x H' k ∧ Q k H') (x :: xs) H2) = fun x H' => ∃ k, TruV X.K x H' k ∧ Q k H' := by
    funext x H1
    apply propext
    exact ⟨fun ⟨y, e, q⟩ => by cases e; exact q, fun q => ⟨x, rfl, q⟩⟩
  rw [← e]
  exact z
theorem bb_not (h : BB X C κ a bd κ') : BB X C κ (.UnaryOp .Not a pos) (bNot bd) κ' := by
  obtain ⟨t, h1, h2⟩ := h
  exact ⟨_, pt_not h1, sim_bnot h2⟩
/-- and, or as tests: the last; one ahead of others -/
def BW (X : Cx) (C : Cc) (κ : List Sh) (e : Expr) (bd : BDen) (κ' : List Sh) : Prop := ∃ t, PW X e t ∧ SimB X.K C κ t bd κ'
theorem bw_and1 (h : BB X C κ a bd κ') : BW X C κ (.BoolOp .And [a] pos) bd κ' := by
  obtain ⟨t, h1, h2⟩ := h
  exact ⟨_, pw_and1 h1, h2⟩
theorem bw_or1 (h : BB X C κ a bd κ') : BW X C κ (.BoolOp .Or [a] pos) bd κ' := by
  obtain ⟨t, h1, h2⟩ := h
  exact ⟨_, pw_or1 h1, h2⟩
theorem bw_and (h : BB X C κ a bd κ1) (h2 : BW X C κ1 (.BoolOp .And (b :: es) pos) be κ1) : BW X C κ (.BoolOp .And (a :: b :: es) pos) (bAnd bd be) κ1 := by
  obtain ⟨t, h1, h3⟩ := h
  obtain ⟨u, h4, h5⟩ := h2
  exact ⟨_, pw_and h1 h4, sim_band h3 h5⟩
theorem bw_or (h : BB X C κ a bd κ1) (h2 : BW X C κ1 (.BoolOp .Or (b :: es) pos) be κ1) : BW X C κ (.BoolOp .Or (a :: b :: es) pos) (bOr bd be) κ1 := by
  obtain ⟨t, h1, h3⟩ := h
  obtain ⟨u, h4, h5⟩ := h2
  exact ⟨_, pw_or h1 h4, sim_bor h3 h5⟩
theorem BW.bb (h : BW X C κ e bd κ') : BB X C κ e bd κ' := by
  obtain ⟨t, h1, h2⟩ := h
  exact ⟨t, h1.pt, h2⟩
theorem SimB.wk {t : TT} (h : SimB X.K C κ t bd κ1) (w : wkB κ1 κ' = true) : SimB X.K C κ t bd κ' := fun σd σv H l Lo Q S ns hok hex =>
  h σd σv H l Lo Q S ns (fun b σd' e H' l' S' g => by
    obtain ⟨S2, g2⟩ := S'.weak (wk_of w)
    exact hok b σd' e H' _ S2 (g.trans g2)) hex
theorem BB.wk (h : BB X C κ e bd κ1) (w : wkB κ1 κ' = true) : BB X C κ e bd κ' := by
  obtain ⟨t, h1, h2⟩ := h
  exact ⟨t, h1, h2.wk w⟩
theorem ee_one {op : BoolOp} (h : EE X C κ a da s κ' p) : EE X C κ (.BoolOp op [a] pos) da s κ' p := by
  obtain ⟨t, h1, h2⟩ := h
  exact ⟨_, pe_one h1, h2⟩
theorem ee_and (h : EE X C κ a da .f κ1 p1) (h2 : EE X C κ1 (.BoolOp .And (b :: es) pos) db .f κ1 p2) : EE X C κ (.BoolOp .And (a :: b :: es) pos) (dAnd da db) .f κ1 (p1 && p2) := by
  obtain ⟨t, h1, h3⟩ := h
  obtain ⟨u, h4, h5⟩ := h2
  exact ⟨_, pe_and h1 h4, sim_dand h3 h5⟩
theorem ee_or (h : EE X C κ a da .f κ1 p1) (h2 : EE X C κ1 (.BoolOp .Or (b :: es) pos) db .f κ1 p2) : EE X C κ (.BoolOp .Or (a :: b :: es) pos) (dOr da db) .f κ1 (p1 && p2) := by
  obtain ⟨t, h1, h3⟩ := h
  obtain ⟨u, h4, h5⟩ := h2
  exact ⟨_, pe_or h1 h4, sim_dor h3 h5⟩
theorem ee_if (h : BB X C κ c bd κ1) (ha : EE X C κ1 a da s κ2 p1) (hb : EE X C κ1 b db s κ2 p2) : EE X C κ (.IfExp c a b pos) (dIf bd da db) s κ2 false := by
  obtain ⟨t, h1, h2⟩ := h
  obtain ⟨u, h3, h4⟩ := ha
  obtain ⟨w, h5, h6⟩ := hb
  exact ⟨_, pe_ifExp h1 h3 h5, sim_dif h2 h4 h6⟩
def dNot (da : Den) : Den := fun σ => match da σ with
  | .ok (.bl b) σ1 => .ok (.bl (!b)) σ1
  | .exc x σ1 => .exc x σ1
  | _ => .stuck
theorem ee_not (h : EE X C κ a da .f κ' p) : EE X C κ (.UnaryOp .Not a pos) (dNot da) .f κ' p := by
  obtain ⟨t, h1, h2⟩ := h
  refine ⟨_, pe_not h1, fun σd σv H l Lo Q S ns hok hex => ?_⟩
  unfold dNot at ns
  refine h2 σd σv H l Lo _ S (fun z => ns (by rw [z])) (fun d σ1 e v H1 l1 lx S1 R nd g hp => ?_) (fun x σ1 e => hex x σ1 (by unfold dNot; rw [e]))
  rw [e] at ns
  obtain ⟨e0, R⟩ := R
  subst e0
  cases d with
  | bl k => exact ⟨k, R, hok (.bl (!k)) σ1 (by unfold dNot; rw [e]) (.bl (!k)) H1 l1 [] S1 ⟨rfl, rfl⟩ List.nodup_nil g hp⟩
  | _ => exact absurd rfl ns

/-! ### displays -/
def fTup : List D → Option D := fun ds => if ds.length ≤ sizeLine then some (.tup ds) else none
def fLst : List D → Option D := fun ds => if ds.length ≤ sizeLine then some (.lst ds) else none
theorem sim_tup {K : PySem.W.Frag} {tas : TA} (ha : SimF K C κ tas das κ' p) : SimT K C κ (tTup tas) (dOp fTup das) .f κ' false := fun σd σv H l Lo Q S ns hok hex => by
  unfold dOp at ns
  refine ha σd σv H l Lo _ S (fun z => ns (by rw [z])) (fun ds σ1 e vs H1 l1 S1 R g hp => ?_) (fun x σ1 e => hex x σ1 (by unfold dOp; rw [e]))
  rw [e] at ns
  dsimp only at ns
  unfold fTup at ns
  by_cases hl : ds.length ≤ sizeLine
  · refine ⟨by rw [reps_len R]; exact hl, fun q hq => ?_⟩
    have gr : Grow H1 (upd H1 q (.tup vs)) [q] := Grow.one hq
    have S2 := S1.grow gr
    have g2 := gr.go S1
    have nl : ¬ Lo q := fun z => by
      obtain ⟨u, eu⟩ := S1.los q z
      exact nomatch hq.symm.trans eu
    have ok1 : ∀ i, q ∉ l1 i := fun i m => by
      obtain ⟨u, eu⟩ := S1.tr i q m
      exact nomatch hq.symm.trans eu
    have ok2 : okOf l1 Lo q := ⟨ok1, nl⟩
    refine hok (.tup ds) σ1 (by unfold dOp; rw [e]; dsimp only; unfold fTup; rw [if_pos hl]) (.ref q) _ l1 [] S2.drop.nil ⟨rfl, q, vs, rfl, .inl ⟨⟨ok2.1, fun z => z.elim nl (by simp)⟩, .inl upd_same⟩, ?_⟩ List.nodup_nil (g.trans g2.drop) (fun z => nomatch z)
    exact R.mono fun a u ea o => ⟨gr.kp a u ea, o.1, fun z => z.elim o.2 (by simp)⟩
  · rw [if_neg hl] at ns
    exact absurd rfl ns
theorem sim_lst {K : PySem.W.Frag} {tas : TA} (ha : SimF K C κ tas das κ' p) : SimT K C κ (tLst tas) (dOp fLst das) (.l .f) κ' false := fun σd σv H l Lo Q S ns hok hex => by
  unfold dOp at ns
  refine ha σd σv H l Lo _ S (fun z => ns (by rw [z])) (fun ds σ1 e vs H1 l1 S1 R g hp => ?_) (fun x σ1 e => hex x σ1 (by unfold dOp; rw [e]))
  rw [e] at ns
  dsimp only at ns
  unfold fLst at ns
  by_cases hl : ds.length ≤ sizeLine
  · refine ⟨by rw [reps_len R]; exact hl, fun q hq => ?_⟩
    have gr : Grow H1 (upd H1 q (.lst vs)) [q] := Grow.one hq
    have S2 := S1.grow gr
    have g2 := gr.go S1
    refine hok (.lst ds) σ1 (by unfold dOp; rw [e]; dsimp only; unfold fLst; rw [if_pos hl]) (.ref q) _ l1 [q] S2 ⟨ds, q, vs, [], rfl, rfl, rfl, upd_same, reps_list ?_⟩ (by simp) (g.trans g2) (fun z => nomatch z)
    exact R.mono fun a u ea o => ⟨gr.kp a u ea, o.1, fun z => z.elim o.2 fun z => by
      simp at z
      subst z
      rw [hq] at ea
      cases ea⟩
  · rw [if_neg hl] at ns
    exact absurd rfl ns
theorem ee_tup {k : Nat} (h : FE X C κ es das κ' p) : EE X C κ (.Tuple es k pos) (dOp fTup das) .f κ' false := by
  obtain ⟨ts, h1, h2⟩ := h
  exact ⟨_, pe_tup h1.pa, sim_tup h2⟩
theorem ee_lst (h : FE X C κ es das κ' p) : EE X C κ (.List es pos) (dOp fLst das) (.l .f) κ' false := by
  obtain ⟨ts, h1, h2⟩ := h
  exact ⟨_, pe_lst h1.pa, sim_lst h2⟩

/-! ### calls of built-ins -/
theorem ee_callB {id : String} {x : Str} {pp : Pos} {r : List V → Hp → VK → Prop} {f : List D → Option D} (hc : CallR X (.builtin id) r) (hs : OpSpec X.K C.NT r f s po) (hg : Gl X x) (hm : X.mg x = none) (hv : bootBuiltins x = some (.builtin id)) (ha : AE X C κ (e :: es) das κ' p) (hn : x ≠ "__name__" := by decide) (hdb : (x == ("__debug__" : Str)) = false := by decide) : EE X C κ (.Call (.Name x pp) (e :: es) [] pos) (dOp f das) s κ' (p && po) := by
  obtain ⟨ts, h1, h2⟩ := ha
  cases h1 with
  | cons q1 q2 q3 => exact ⟨_, pe_callB hc hg hm hv (pa_cons q1 q3.pa q2) hn hdb q2 (q3.star pos), sim_op hs h2⟩
theorem ee_callTy {T : String} {x : Str} {pp : Pos} {r : List V → Hp → VK → Prop} {f : List D → Option D} (hc : CallR X (.type T) r) (hs : OpSpec X.K C.NT r f s po) (hg : Gl X x) (hm : X.mg x = none) (hv : bootBuiltins x = some (.type T)) (ha : AE X C κ (e :: es) das κ' p) (hn : x ≠ "__name__" := by decide) (hdb : (x == ("__debug__" : Str)) = false := by decide) : EE X C κ (.Call (.Name x pp) (e :: es) [] pos) (dOp f das) s κ' (p && po) := by
  obtain ⟨ts, h1, h2⟩ := ha
  cases h1 with
  | cons q1 q2 q3 => exact ⟨_, pe_callTy hc hg hm hv (pa_cons q1 q3.pa q2) hn hdb q2 (q3.star pos), sim_op hs h2⟩
/-! ### subscripts -/
theorem ee_ix {r : R2} {f : List D → Option D} (hr : IxR X r) (hs : OpSpec X.K C.NT (r2L r) f s po) (ha : AE X C κ [a, b] das κ' p) (hx : PlainIx b := by exact fun _ _ => rfl) : EE X C κ (.Subscript a b pos) (dOp f das) s κ' (p && po) := by
  obtain ⟨ta, tb, h1, h2, h3⟩ := ha.two
  exact ⟨_, pe_ix hr h1 h2 hx, sim_op hs h3⟩
/-! ### blocks -/
variable {st : Stmt} {sts : List Stmt} {sd se : SDen} {κb : List Sh} {rs : Sh} {body orelse : List Stmt}
theorem sss_nil : SSs X C κ [] sNext κ κb rs := ⟨_, pss_nil, sim_snext⟩
theorem sss_cons (h1 : SS X C κ st sd κ1 κb rs) (h2 : SSs X C κ1 sts se κ2 κb rs) : SSs X C κ (st :: sts) (sSeq sd se) κ2 κb rs := by
  obtain ⟨t, a1, a2⟩ := h1
  obtain ⟨u, b1, b2⟩ := h2
  exact ⟨_, pss_cons a1 b1, sim_sseq a2 b2⟩
theorem sss_one (h1 : SS X C κ st sd κ1 κb rs) : SSs X C κ [st] sd κ1 κb rs := by
  obtain ⟨t, a1, a2⟩ := h1
  exact ⟨_, pss_one a1, a2⟩
theorem SSs.pre (h : SSs X C κ1 sts sd κ' κb rs) (w : wkB κ κ1 = true) : SSs X C κ sts sd κ' κb rs := by
  obtain ⟨t, a1, a2⟩ := h
  exact ⟨t, a1, a2.pre w⟩
theorem SSs.post (h : SSs X C κ sts sd κ1 κb rs) (w : wkB κ1 κ' = true) : SSs X C κ sts sd κ' κb rs := by
  obtain ⟨t, a1, a2⟩ := h
  exact ⟨t, a1, a2.post w⟩
theorem SS.pre (h : SS X C κ1 st sd κ' κb rs) (w : wkB κ κ1 = true) : SS X C κ st sd κ' κb rs := by
  obtain ⟨t, a1, a2⟩ := h
  exact ⟨t, a1, a2.pre w⟩
theorem SS.post (h : SS X C κ st sd κ1 κb rs) (w : wkB κ1 κ' = true) : SS X C κ st sd κ' κb rs := by
  obtain ⟨t, a1, a2⟩ := h
  exact ⟨t, a1, a2.post w⟩
theorem ss_pass : SS X C κ (.Pass pos) sNext κ κb rs := ⟨_, ps_pass, sim_snext⟩
theorem ss_break (w : wkB κ κb = true := by rfl) : SS X C κ (.Break pos) sBrk κ' κb rs := ⟨_, ps_break, sim_sbrk w⟩
theorem ss_cont (w : wkB κ κb = true := by rfl) : SS X C κ (.Continue pos) sCt κ' κb rs := ⟨_, ps_continue, sim_sct w⟩
theorem ss_expr (h : EE X C κ e da s κ' p) (hs : swapsWith e none pos.line X.env = pure false := by rfl) : SS X C κ (.Expr e pos) (sExpr da) κ' κb rs := by
  obtain ⟨t, h1, h2⟩ := h
  exact ⟨_, ps_expr h1 hs, sim_sexpr h2⟩
theorem ss_ret (h : EE X C κ e da rs κ1 p) (w : wkB κ1 C.κx = true := by rfl) : SS X C κ (.Return (some e) pos) (sRet da) κ' κb rs := by
  obtain ⟨t, h1, h2⟩ := h
  exact ⟨_, ps_ret h1, sim_sret h2 w⟩
theorem ss_retn (w : wkB κ C.κx = true := by rfl) : SS X C κ (.Return none pos) sRetN κ' κb .f := ⟨_, ps_retN, sim_sretn w⟩
theorem ss_if (h : BB X C κ c bd κ1) (h1 : SSs X C κ1 body sd κ2 κb rs) (h2 : SSs X C κ1 orelse se κ2 κb rs) : SS X C κ (.If c body orelse pos) (sIf bd sd se) κ2 κb rs := by
  obtain ⟨t, a1, a2⟩ := h
  obtain ⟨u, b1, b2⟩ := h1
  obtain ⟨w, c1, c2⟩ := h2
  exact ⟨_, ps_if a1 b1 c1, sim_sif a2 b2 c2⟩
/-- x = e -/
def sSet (i : Nat) (da : Den) : SDen := fun σ => match da σ with
  | .ok d σ1 => .nx (σ1.set i (some d))
  | .exc x σ1 => .exc x σ1
  | .stuck => .stuck
theorem sim_sset {K : PySem.W.Frag} {ta : TE} {i : Nat} (ha : SimT K C κ ta da s κ1 p) (hM : i ∉ C.M) (hκ : i < κ1.length) : SimS K C κ (tAsg ta (gName i)) (sSet i da) (κ1.set i s) κb rs := fun σd σv H l Lo E S ns hn hb hc hr hx => by
  unfold sSet at ns
  refine ha σd σv H l Lo _ S (fun z => ns (by rw [z])) (fun d σ1 e v H1 l1 lx S1 R nd g hp => ?_) (fun x σ1 e c dd H' l' => hx x σ1 (by unfold sSet; rw [e]) c dd σv H' l')
  have i1 : i < σv.length := by rw [← S1.klen]; exact hκ
  exact hn _ (by unfold sSet; rw [e]) (σv.set i (some v)) H1 _ (S1.set (g.newLo S) R nd i i1 hM hκ) (g.set i)
end
end Pt
set_option maxRecDepth 100000
set_option maxHeartbeats 1000000
namespace Pt
open PySem PySem.Spec PyProof.Rows L2
section
variable {K : PySem.W.Frag} {NT : List Str} {s : Sh}
/-- an operation that makes nothing -/
theorem spec_pure {r : List V → Hp → VK → Prop} {f : List D → Option D} (h : ∀ H ok ds vs d (Q : VK), RepCs K NT H ok ds vs → f ds = some d → (∀ v, Rep K NT H ok d v → Q v H) → r vs H Q) : OpSpec K NT r f .f true := fun H ok ds vs d Q R e hq =>
  h H ok ds vs d Q R e fun v q => hq v H [] (Grow.refl H) ⟨rfl, q.mono (kp_ok fun a o => ⟨o, by simp⟩)⟩ List.nodup_nil fun _ => ⟨rfl, rfl⟩
/-- an operation that makes one list -/
theorem spec_list {r : List V → Hp → VK → Prop} {f : List D → Option D} (h : ∀ H ok ds vs d (Q : VK), RepCs K NT H ok ds vs → f ds = some d → (∀ xs ws, d = .lst xs → Reps K NT H ok xs ws → ∀ p, H p = none → Q (.ref p) (upd H p (.lst ws))) → r vs H Q)
    (hf : ∀ ds d, f ds = some d → ∃ xs, d = .lst xs) : OpSpec K NT r f (.l .f) false := fun H ok ds vs d Q R e hq =>
  h H ok ds vs d Q R e fun xs ws ed q p hp => by
    subst ed
    refine hq _ _ [p] (Grow.one hp) ⟨xs, p, ws, [], rfl, rfl, rfl, upd_same, reps_list (q.mono fun a u ea o => ⟨(Grow.one hp).kp a u ea, o, fun z => ?_⟩)⟩ (by simp) (fun z => nomatch z)
    simp at z
    subst z
    rw [hp] at ea
    cases ea
/-- .. a tuple, frozen -/
theorem spec_tup {r : List V → Hp → VK → Prop} {f : List D → Option D} (h : ∀ H ok ds vs d (Q : VK), RepCs K NT H ok ds vs → f ds = some d → (∀ v H' lx, Grow H H' lx → lx.Nodup → Rep K NT H' (fun a => ok a ∨ a ∈ lx) d v → Q v H') → r vs H Q) :
    ∀ H ok ds vs d (Q : VK), RepCs K NT H ok ds vs → f ds = some d → (∀ v H' lx, Grow H H' lx → lx.Nodup → Rep K NT H' (fun a => ok a ∨ a ∈ lx) d v → Q v H') → r vs H Q := h
theorem c1 {H : Hp} {ok : Addr → Prop} {d : D} {vs : List V} (R : RepCs K NT H ok [d] vs) : ∃ v, vs = [v] ∧ RepC K NT H ok d v := by
  obtain ⟨v, r, e, q, q2⟩ := R
  have : r = [] := q2
  subst this
  exact ⟨v, e, q⟩
theorem c2 {H : Hp} {ok : Addr → Prop} {d e : D} {vs : List V} (R : RepCs K NT H ok [d, e] vs) : ∃ v w, vs = [v, w] ∧ RepC K NT H ok d v ∧ RepC K NT H ok e w := by
  obtain ⟨v, r, e, q, q2⟩ := R
  obtain ⟨w, rfl, q3⟩ := c1 q2
  exact ⟨v, w, e, q, q3⟩
theorem c3 {H : Hp} {ok : Addr → Prop} {d e f : D} {vs : List V} (R : RepCs K NT H ok [d, e, f] vs) : ∃ v w x, vs = [v, w, x] ∧ RepC K NT H ok d v ∧ RepC K NT H ok e w ∧ RepC K NT H ok f x := by
  obtain ⟨v, r, e, q, q2⟩ := R
  obtain ⟨w, x, rfl, q3⟩ := c2 q2
  exact ⟨v, w, x, e, q, q3⟩
/-! ### ints -/
def fII (g : Int → Int → Option D) : List D → Option D
  | [.int i, .int j] => g i j
  | _ => none
def fI (g : Int → Option D) : List D → Option D
  | [.int i] => g i
  | _ => none
theorem fII_inv {g : Int → Int → Option D} {ds : List D} {d : D} (e : fII g ds = some d) : ∃ i j, ds = [.int i, .int j] ∧ g i j = some d := by
  unfold fII at e
  split at e
  · exact ⟨_, _, rfl, e⟩
  · cases e
theorem fI_inv {g : Int → Option D} {ds : List D} {d : D} (e : fI g ds = some d) : ∃ i, ds = [.int i] ∧ g i = some d := by
  unfold fI at e
  split at e
  · exact ⟨_, rfl, e⟩
  · cases e
theorem spec_II {C : Int → Int → Prop} {g : Int → Int → V} {f : Int → Int → Option D} (h : ∀ i j d, f i j = some d → C i j ∧ ∀ H ok, Rep K NT H ok d (g i j)) : OpSpec K NT (r2L (rI C g)) (fII f) .f true := spec_pure fun H ok ds vs d Q R e hq => by
  obtain ⟨i, j, rfl, e⟩ := fII_inv e
  obtain ⟨v, w, rfl, q1, q2⟩ := c2 R
  obtain ⟨h1, h2⟩ := h i j d e
  exact ⟨i, j, q1, q2, h1, hq _ (h2 H ok)⟩
theorem spec_II0 {g : Int → Int → V} {f : Int → Int → Option D} (h : ∀ i j d, f i j = some d → ∀ H ok, Rep K NT H ok d (g i j)) : OpSpec K NT (r2L (rI0 g)) (fII f) .f true := spec_pure fun H ok ds vs d Q R e hq => by
  obtain ⟨i, j, rfl, e⟩ := fII_inv e
  obtain ⟨v, w, rfl, q1, q2⟩ := c2 R
  exact ⟨i, j, q1, q2, hq _ (h i j d e H ok)⟩
theorem OpSpec.or {r r' : List V → Hp → VK → Prop} {f f' : List D → Option D} {po : Bool} (h : OpSpec K NT r f s po) (h' : OpSpec K NT r' f' s po) : OpSpec K NT (fun vs H Q => r vs H Q ∨ r' vs H Q) (fun ds => (f ds).or (f' ds)) s po := fun H ok ds vs d Q R e hq => by
  dsimp only at e
  cases q : f ds with
  | some d' =>
    rw [q] at e
    cases e
    exact .inl (h H ok ds vs d Q R q hq)
  | none =>
    rw [q] at e
    exact .inr (h' H ok ds vs d Q R e hq)
theorem OpSpec.or2 {r r' : R2} {f f' : List D → Option D} {po : Bool} (h : OpSpec K NT (r2L r) f s po) (h' : OpSpec K NT (r2L r') f' s po) : OpSpec K NT (r2L fun x y H Q => r x y H Q ∨ r' x y H Q) (fun ds => (f ds).or (f' ds)) s po := fun H ok ds vs d Q R e hq => by
  have z := OpSpec.or h h' H ok ds vs d Q R e hq
  match vs, z with
  | [], z => exact z.elim False.elim False.elim
  | [_], z => exact z.elim False.elim False.elim
  | [x, y], z => exact z
  | _ :: _ :: _ :: _, z => exact z.elim False.elim False.elim
end
/-! ### + - * // % ** << >> -/
def mulOk (i j : Int) : Bool := (decide (i.natAbs < 2 ^ 64) || decide (j.natAbs < 2 ^ 64)) || decide (i.natAbs < 2 ^ 400000 ∧ j.natAbs < 2 ^ 400000)
def divOk (j : Int) : Bool := decide (0 < j ∧ j < 2 ^ 8000)
def powOk (i j : Int) : Bool := decide (0 ≤ j ∧ j ≤ 1000000 ∧ i.natAbs < 2 ^ 64)
def iAdd (i j : Int) : Option D := some (.int (i + j))
def iSub (i j : Int) : Option D := some (.int (i - j))
def iMul (i j : Int) : Option D := if mulOk i j then some (.int (i * j)) else none
def iDiv (i j : Int) : Option D := if divOk j then some (.int (i / j)) else none
def iMod (i j : Int) : Option D := if 0 < j then some (.int (i % j)) else none
def iPow (i j : Int) : Option D := if powOk i j then some (.int (i ^ j.toNat)) else none
def iShl (i j : Int) : Option D := if powOk i j then some (.int (i * 2 ^ j.toNat)) else none
def iShr (i j : Int) : Option D := if 0 ≤ j then some (.int (i / 2 ^ j.toNat)) else none
def iLt (i j : Int) : Option D := some (.bl (decide (i < j)))
def iLe (i j : Int) : Option D := some (.bl (decide (i ≤ j)))
def iGt (i j : Int) : Option D := some (.bl (decide (j < i)))
def iGe (i j : Int) : Option D := some (.bl (decide (j ≤ i)))
def iNeg (i : Int) : Option D := some (.int (-i))
def iAbs (i : Int) : Option D := some (.int (if i < 0 then -i else i))
def CMul2 (i j : Int) : Prop := CMul i j ∨ CMulW i j
theorem mulOk_ok {i j : Int} (h : mulOk i j = true) : CMul2 i j := by
  unfold mulOk at h
  rcases Bool.or_eq_true_iff.mp h with h | h
  · rcases Bool.or_eq_true_iff.mp h with h | h
    · have := of_decide_eq_true h
      exact .inl (.inl ⟨by omega, by omega⟩)
    · have := of_decide_eq_true h
      exact .inl (.inr ⟨by omega, by omega⟩)
  · obtain ⟨h1, h2⟩ := of_decide_eq_true h
    exact .inr (wide_mul h1 h2 (by decide) (by decide) (by decide))
theorem CMul2.ok {i j : Int} (h : CMul2 i j) : IntMulOk i j := h.elim CMul.ok CMulW.ok
section
variable {X : Cx} {NT : List Str}
theorem op_mul2 : OpR X (binaryOp .Mult) (rI CMul2 fun i j => .int (i * j)) := opI fun _ _ _ _ _ _ _ hc q => mul_int q hc.ok
theorem sp_add : OpSpec X.K NT (r2L (rI0 fun i j => .int (i + j))) (fII iAdd) .f true := spec_II0 fun i j d e H ok => by cases e; exact rfl
theorem sp_sub : OpSpec X.K NT (r2L (rI0 fun i j => .int (i - j))) (fII iSub) .f true := spec_II0 fun i j d e H ok => by cases e; exact rfl
theorem sp_mul : OpSpec X.K NT (r2L (rI CMul2 fun i j => .int (i * j))) (fII iMul) .f true := spec_II fun i j d e => by
  unfold iMul at e
  split at e
  · rename_i h; cases e; exact ⟨mulOk_ok h, fun _ _ => rfl⟩
  · cases e
theorem sp_div : OpSpec X.K NT (r2L (rI CDivW fun i j => .int (i / j))) (fII iDiv) .f true := spec_II fun i j d e => by
  unfold iDiv at e
  split at e
  · rename_i h
    cases e
    obtain ⟨h1, h2⟩ := of_decide_eq_true h
    have h3 : j.natAbs < 2 ^ 8000 := by
      have e : ((2 : Nat) ^ 8000 : Nat) = ((2 : Int) ^ 8000).natAbs := by decide
      omega
    exact ⟨wide_div h1 h3 (by decide) (by decide), fun _ _ => rfl⟩
  · cases e
theorem sp_mod : OpSpec X.K NT (r2L (rI (fun _ j => 0 < j) fun i j => .int (i % j))) (fII iMod) .f true := spec_II fun i j d e => by
  unfold iMod at e
  split at e
  · rename_i h; cases e; exact ⟨h, fun _ _ => rfl⟩
  · cases e
theorem powOk_ok {i j : Int} (h : powOk i j = true) : CPow i j := by
  unfold powOk at h
  exact of_decide_eq_true (p := 0 ≤ j ∧ j ≤ 1000000 ∧ i.natAbs < 2 ^ 64) h
theorem sp_pow : OpSpec X.K NT (r2L (rI CPow fun i j => .int (i ^ j.toNat))) (fII iPow) .f true := spec_II fun i j d e => by
  unfold iPow at e
  split at e
  · rename_i h; cases e; exact ⟨powOk_ok h, fun _ _ => rfl⟩
  · cases e
theorem sp_shl : OpSpec X.K NT (r2L (rI CPow fun i j => .int (i * 2 ^ j.toNat))) (fII iShl) .f true := spec_II fun i j d e => by
  unfold iShl at e
  split at e
  · rename_i h; cases e; exact ⟨powOk_ok h, fun _ _ => rfl⟩
  · cases e
theorem sp_shr : OpSpec X.K NT (r2L (rI (fun _ j => 0 ≤ j) fun i j => .int (i / 2 ^ j.toNat))) (fII iShr) .f true := spec_II fun i j d e => by
  unfold iShr at e
  split at e
  · rename_i h; cases e; exact ⟨h, fun _ _ => rfl⟩
  · cases e
theorem sp_lt : OpSpec X.K NT (r2L (rI0 fun i j => .bl (decide (i < j)))) (fII iLt) .f true := spec_II0 fun i j d e H ok => by cases e; exact rfl
theorem sp_le : OpSpec X.K NT (r2L (rI0 fun i j => .bl (decide (i ≤ j)))) (fII iLe) .f true := spec_II0 fun i j d e H ok => by cases e; exact rfl
theorem sp_gt : OpSpec X.K NT (r2L (rI0 fun i j => .bl (decide (j < i)))) (fII iGt) .f true := spec_II0 fun i j d e H ok => by cases e; exact rfl
theorem sp_ge : OpSpec X.K NT (r2L (rI0 fun i j => .bl (decide (j ≤ i)))) (fII iGe) .f true := spec_II0 fun i j d e H ok => by cases e; exact rfl
theorem sp_neg : OpSpec X.K NT (r1L (rU fun i => .int (-i))) (fI iNeg) .f true := spec_pure fun H ok ds vs d Q R e hq => by
  obtain ⟨i, rfl, e⟩ := fI_inv e
  obtain ⟨v, rfl, q⟩ := c1 R
  cases e
  exact ⟨i, q, hq _ rfl⟩
theorem sp_abs : OpSpec X.K NT (fun xs H Q => ∃ i, xs = [.int i] ∧ Q (.int (if i < 0 then -i else i)) H) (fI iAbs) .f true := spec_pure fun H ok ds vs d Q R e hq => by
  obtain ⟨i, rfl, e⟩ := fI_inv e
  obtain ⟨v, rfl, q⟩ := c1 R
  cases e
  have q : v = .int i := q
  subst q
  exact ⟨i, rfl, hq _ rfl⟩
/-! ### texts -/
def fCat : List D → Option D
  | [.str x, .str y] => if x.length + y.length ≤ sizeLine then some (.str (x ++ y)) else none
  | _ => none
theorem sp_cat : OpSpec X.K NT (r2L fun x y H Q => ∃ i j, x = .str i ∧ y = .str j ∧ i.length + j.length ≤ sizeLine ∧ Q (.str (i ++ j)) H) fCat .f true := spec_pure fun H ok ds vs d Q R e hq => by
  unfold fCat at e
  split at e
  · rename_i x y
    obtain ⟨v, w, rfl, q1, q2⟩ := c2 R
    split at e
    · rename_i h
      cases e
      exact ⟨x, y, q1, q2, h, hq _ rfl⟩
    · cases e
  · cases e
/-! ### lists -/
def fCatL : List D → Option D
  | [.lst x, .lst y] => if x.length + y.length ≤ sizeLine then some (.lst (x ++ y)) else none
  | _ => none
theorem sp_catL : OpSpec X.K NT (r2L rCat) fCatL (.l .f) false := spec_list (fun H ok ds vs d Q R e hq => by
  unfold fCatL at e
  split at e
  · rename_i x y
    obtain ⟨v, w, rfl, ⟨a, us, rfl, h1, r1⟩, ⟨b, ws, rfl, h2, r2⟩⟩ := c2 R
    split at e
    · rename_i h
      cases e
      exact ⟨a, b, us, ws, rfl, rfl, h1, h2, by rw [reps_len r1, reps_len r2]; exact h, hq _ _ rfl (reps_append r1 r2)⟩
    · cases e
  · cases e) fun ds d e => by
    unfold fCatL at e
    split at e
    · split at e
      · cases e; exact ⟨_, rfl⟩
      · cases e
    · cases e
theorem reps_flat {K : PySem.W.Frag} {H : Hp} {ok : Addr → Prop} {xs : List D} {vs : List V} (r : Reps K NT H ok xs vs) : ∀ n : Nat, Reps K NT H ok (List.replicate n xs).flatten (List.replicate n vs).flatten
  | 0 => by exact rfl
  | n + 1 => by
    rw [List.replicate_succ, List.replicate_succ, List.flatten_cons, List.flatten_cons]
    exact reps_append r (reps_flat r n)
def fRep : List D → Option D
  | [.lst x, .int k] => if -(2 ^ 63) ≤ k ∧ k < 2 ^ 63 ∧ x.length * k.toNat ≤ sizeLine then some (.lst (List.replicate k.toNat x).flatten) else none
  | _ => none
theorem sp_rep : OpSpec X.K NT (r2L rRep) fRep (.l .f) false := spec_list (fun H ok ds vs d Q R e hq => by
  unfold fRep at e
  split at e
  · rename_i x k
    obtain ⟨v, w, rfl, ⟨a, us, rfl, h1, r1⟩, q2⟩ := c2 R
    split at e
    · rename_i h
      cases e
      have q2 : w = .int k := q2
      subst q2
      exact ⟨a, k, us, rfl, rfl, h1, h.1, h.2.1, by rw [reps_len r1]; exact h.2.2, hq _ _ rfl (reps_flat r1 _)⟩
    · cases e
  · cases e) fun ds d e => by
    unfold fRep at e
    split at e
    · split at e
      · cases e; exact ⟨_, rfl⟩
      · cases e
    · cases e
/-! ### items -/
def fIx : List D → Option D
  | [.lst x, .int k] => atI x k
  | [.tup x, .int k] => atI x k
  | [.str z, .int k] => if z.length ≤ sizeLine then (atI z.cps.toList k).map fun c => .str ⟨#[c]⟩ else none
  | _ => none
theorem atI_reps {K : PySem.W.Frag} {H : Hp} {ok : Addr → Prop} {xs : List D} {vs : List V} {k : Int} {d : D} (r : Reps K NT H ok xs vs) (e : atI xs k = some d) : ∃ v, atI vs k = some v ∧ Rep K NT H ok d v := by
  unfold atI at e ⊢
  rw [reps_len r]
  cases q : ixN xs.length k with
  | none => rw [q] at e; cases e
  | some j =>
    rw [q] at e
    exact reps_get r e
theorem sp_ix : OpSpec X.K NT (r2L (rIx X.K)) fIx .f true := spec_pure fun H ok ds vs d Q R e hq => by
  unfold fIx at e
  split at e
  · rename_i x k
    obtain ⟨v, w, rfl, ⟨a, us, rfl, h1, r1⟩, q2⟩ := c2 R
    obtain ⟨v, e1, r⟩ := atI_reps r1 e
    exact .inl ⟨a, us, k, v, rfl, q2, .inl (.inl h1), e1, hq _ r⟩
  · rename_i x k
    obtain ⟨v, w, rfl, ⟨a, us, rfl, h1, r1⟩, q2⟩ := c2 R
    obtain ⟨v, e1, r⟩ := atI_reps r1 e
    exact .inr (.inl ⟨a, us, k, v, rfl, q2, h1.sq, e1, hq _ r⟩)
  · rename_i z k
    obtain ⟨v, w, rfl, q1, q2⟩ := c2 R
    split at e
    · rename_i h
      cases ec : atI z.cps.toList k with
      | none => rw [ec] at e; cases e
      | some c =>
        rw [ec] at e
        cases e
        exact .inr (.inr ⟨z, k, c, q1, q2, h, ec, hq _ rfl⟩)
    · cases e
  · cases e
/-! ### len, int, str -/
def fLen : List D → Option D
  | [.lst x] => some (.int x.length)
  | [.tup x] => some (.int x.length)
  | [.str z] => if z.length ≤ sizeLine then some (.int z.length) else none
  | _ => none
theorem sp_len : OpSpec X.K NT (fun xs H Q => ∃ x n, xs = [x] ∧ LenV X.K x H n ∧ Q (.int n) H) fLen .f true := spec_pure fun H ok ds vs d Q R e hq => by
  unfold fLen at e
  split at e
  · rename_i x
    obtain ⟨v, rfl, ⟨a, us, rfl, h1, r1⟩⟩ := c1 R
    cases e
    exact ⟨_, x.length, rfl, .inl ⟨us, .inl (.inl h1), (reps_len r1).symm⟩, hq _ rfl⟩
  · rename_i x
    obtain ⟨v, rfl, ⟨a, us, rfl, h1, r1⟩⟩ := c1 R
    cases e
    exact ⟨_, x.length, rfl, .inr ⟨us, h1.sq, (reps_len r1).symm⟩, hq _ rfl⟩
  · rename_i z
    obtain ⟨v, rfl, q⟩ := c1 R
    have q : v = .str z := q
    subst q
    split at e
    · rename_i h
      cases e
      exact ⟨_, z.length, rfl, ⟨h, rfl⟩, hq _ rfl⟩
    · cases e
  · cases e
def fInt1 : List D → Option D
  | [.int i] => some (.int i)
  | [.bl k] => some (.int (if k then 1 else 0))
  | [.str a] => if a.length ≤ 640 then (PySem.intText? a).map .int else none
  | _ => none
theorem call_int3 : CallR X (.type "int") (fun xs H Q => ((∃ i, xs = [.int i] ∧ Q (.int i) H) ∨ ∃ k, xs = [.bl k] ∧ Q (.int (if k then 1 else 0)) H) ∨ ∃ a n, xs = [.str a] ∧ PySem.intText? a = some n ∧ a.length ≤ 640 ∧ Q (.int n) H) := by
  intro pins s σ H xs us Q I r h
  rcases h with h | h
  · exact call_int1 pins s σ H xs us Q I r h
  · exact call_int_str pins s σ H xs us Q I r h
theorem sp_int1 : OpSpec X.K NT (fun xs H Q => ((∃ i, xs = [.int i] ∧ Q (.int i) H) ∨ ∃ k, xs = [.bl k] ∧ Q (.int (if k then 1 else 0)) H) ∨ ∃ a n, xs = [.str a] ∧ PySem.intText? a = some n ∧ a.length ≤ 640 ∧ Q (.int n) H) fInt1 .f true := spec_pure fun H ok ds vs d Q R e hq => by
  unfold fInt1 at e
  split at e
  · obtain ⟨v, rfl, q⟩ := c1 R
    cases e
    exact .inl (.inl ⟨_, by rw [show v = _ from q], hq _ rfl⟩)
  · obtain ⟨v, rfl, q⟩ := c1 R
    cases e
    exact .inl (.inr ⟨_, by rw [show v = _ from q], hq _ rfl⟩)
  · rename_i a
    obtain ⟨v, rfl, q⟩ := c1 R
    split at e
    · rename_i h
      cases ea : PySem.intText? a with
      | none => rw [ea] at e; cases e
      | some n =>
        rw [ea] at e
        cases e
        exact .inr ⟨a, n, by rw [show v = _ from q], ea, h, hq _ rfl⟩
    · cases e
  · cases e
def fStr : List D → Option D
  | [.int i] => if i.natAbs < 2 ^ 1900 then some (.str (toString i : String)) else none
  | [.str x] => some (.str x)
  | _ => none
end
end Pt
set_option maxRecDepth 100000
set_option maxHeartbeats 1000000
namespace Pt
open PySem PySem.Spec PyProof.Rows L2
/-! ### == -/
mutual
def toPy : D → Option PyData
  | .non => some .none
  | .bl b => some (.bool b)
  | .int i => some (.int i)
  | .str s => some (.str s)
  | .tup xs => (toPys xs).map .tuple
  | .lst xs => (toPys xs).map .list
  | _ => none
def toPys : List D → Option (List PyData)
  | [] => some []
  | d :: ds => (toPy d).bind fun x => (toPys ds).map fun xs => x :: xs
end
def scV : D → Option V
  | .non => some .non
  | .bl b => some (.bl b)
  | .int i => some (.int i)
  | .str s => some (.str s)
  | _ => none
def pyEq (x y : D) : Option Bool := match toPy x, toPy y with
  | some a, some b => if SeqAt.shaped a && SeqAt.shaped b then some (PyData.eqv a b) else none
  | _, _ => none
def eqD (x y : D) : Option Bool := match scV x, scV y with
  | some v, some w => if scal v w = true then some (decide (v = w)) else pyEq x y
  | _, _ => pyEq x y
def fEq : List D → Option D
  | [x, y] => (eqD x y).map .bl
  | _ => none
def fNe : List D → Option D
  | [x, y] => (eqD x y).map fun b => .bl (!b)
  | _ => none
section
variable {K : PySem.W.Frag} {NT : List Str} {H : Hp} {ok : Addr → Prop}
mutual
theorem dp_rep : ∀ (d : D) (v : V) (a : PyData), Rep K NT H ok d v → toPy d = some a → Dp K H v a
  | .non, _, a, r, e => by
    have e' : some PyData.none = some a := e
    obtain rfl := Option.some.inj e'
    rw [show _ = V.non from r]
    exact .non
  | .bl b, _, a, r, e => by
    have e' : some (PyData.bool b) = some a := e
    obtain rfl := Option.some.inj e'
    rw [show _ = V.bl b from r]
    exact .bl b
  | .int i, _, a, r, e => by
    have e' : some (PyData.int i) = some a := e
    obtain rfl := Option.some.inj e'
    rw [show _ = V.int i from r]
    exact .int i
  | .str s, _, a, r, e => by
    have e' : some (PyData.str s) = some a := e
    obtain rfl := Option.some.inj e'
    rw [show _ = V.str s from r]
    exact .str s
  | .tup xs, _, a, r, e => by
    obtain ⟨p, vs, ev, t, r⟩ := r
    have e' : (toPys xs).map PyData.tuple = some a := e
    obtain ⟨ys, q, rfl⟩ := Option.map_eq_some_iff.mp e'
    rw [ev]
    exact .tup t.sq (dp_reps xs vs ys r q)
  | .lst xs, _, a, r, e => by
    obtain ⟨p, vs, ev, t, r⟩ := r
    have e' : (toPys xs).map PyData.list = some a := e
    obtain ⟨ys, q, rfl⟩ := Option.map_eq_some_iff.mp e'
    rw [ev]
    exact .lst t.sq (dp_reps xs vs ys r q)
  | .ty _, _, a, _, e => nomatch (show (none : Option PyData) = some a from e)
  | .glo _, _, a, _, e => nomatch (show (none : Option PyData) = some a from e)
  | .scr _, _, a, _, e => nomatch (show (none : Option PyData) = some a from e)
  | .dk _, _, a, _, e => nomatch (show (none : Option PyData) = some a from e)
  | .dt _, _, a, _, e => nomatch (show (none : Option PyData) = some a from e)
  | .obj _ _, _, a, _, e => nomatch (show (none : Option PyData) = some a from e)
  | .exc _ _, _, a, _, e => nomatch (show (none : Option PyData) = some a from e)
theorem dp_reps : ∀ (d : List D) (v : List V) (a : List PyData), Reps K NT H ok d v → toPys d = some a → DpAll K H v a
  | [], _, a, r, e => by
    have e' : some [] = some a := e
    obtain rfl := Option.some.inj e'
    rw [show _ = [] from r]
    exact .nil
  | d :: ds, _, a, r, e => by
    obtain ⟨v, r, ev, q1, q2⟩ := r
    have e' : ((toPy d).bind fun x => (toPys ds).map fun xs => x :: xs) = some a := e
    obtain ⟨x, h1, e2⟩ := Option.bind_eq_some_iff.mp e'
    obtain ⟨xs, h2, rfl⟩ := Option.map_eq_some_iff.mp e2
    rw [ev]
    exact .cons (dp_rep d v x q1 h1) (dp_reps ds r xs q2 h2)
end
theorem dp_repC {d : D} {v : V} {a : PyData} (r : RepC K NT H ok d v) (e : toPy d = some a) : Dp K H v a := by
  cases d with
  | lst xs =>
    obtain ⟨p, vs, ev, t, r⟩ := r
    have e' : (toPys xs).map PyData.list = some a := e
    obtain ⟨ys, q, rfl⟩ := Option.map_eq_some_iff.mp e'
    rw [ev]
    exact .lst (.inl (.inl t)) (dp_reps xs vs ys r q)
  | dk _ => exact nomatch (show (none : Option PyData) = some a from e)
  | obj _ _ => exact nomatch (show (none : Option PyData) = some a from e)
  | _ => exact dp_rep _ _ _ r e
theorem sc_repC {d : D} {v w : V} (r : RepC K NT H ok d v) (e : scV d = some w) : v = w := by
  cases d <;> first
    | (cases e; exact r)
    | cases e
end
section
variable {X : Cx} {NT : List Str}
def rEq2 (K : PySem.W.Frag) : R2 := fun x y H Q => rEq x y H Q ∨ rEqD K x y H Q
def rNe2 (K : PySem.W.Frag) : R2 := fun x y H Q => rNe x y H Q ∨ rNeD K x y H Q
theorem op_eq2 (hu : X.A.units + 64 < cLine) : OpR X (compareOp .Eq) (rEq2 X.K) := OpR.or op_eq (op_eqD hu)
theorem op_ne2 (hu : X.A.units + 64 < cLine) : OpR X (compareOp .NotEq) (rNe2 X.K) := OpR.or op_ne (op_neD hu)
theorem eqD_ok {H : Hp} {ok : Addr → Prop} {x y : D} {v w : V} {b : Bool} (r : RepC X.K NT H ok x v) (q : RepC X.K NT H ok y w) (e : eqD x y = some b) :
    (scal v w = true ∧ decide (v = w) = b) ∨ ∃ d e, Dp X.K H v d ∧ Dp X.K H w e ∧ SeqAt.shaped d = true ∧ SeqAt.shaped e = true ∧ PyData.eqv d e = b := by
  have py : pyEq x y = some b → ∃ d e, Dp X.K H v d ∧ Dp X.K H w e ∧ SeqAt.shaped d = true ∧ SeqAt.shaped e = true ∧ PyData.eqv d e = b := fun e => by
    unfold pyEq at e
    split at e
    · rename_i a c h1 h2
      split at e
      · rename_i h
        obtain ⟨h3, h4⟩ := Bool.and_eq_true_iff.mp h
        cases e
        exact ⟨a, c, dp_repC r h1, dp_repC q h2, h3, h4, rfl⟩
      · cases e
    · cases e
  unfold eqD at e
  split at e
  · rename_i v' w' h1 h2
    have e1 := sc_repC r h1
    have e2 := sc_repC q h2
    subst e1 e2
    split at e
    · rename_i h
      cases e
      exact .inl ⟨h, rfl⟩
    · exact .inr (py e)
  · exact .inr (py e)
theorem sp_eq : OpSpec X.K NT (r2L (rEq2 X.K)) fEq .f true := spec_pure fun H ok ds vs d Q R e hq => by
  unfold fEq at e
  split at e
  · rename_i x y
    obtain ⟨v, w, rfl, q1, q2⟩ := c2 R
    cases eb : eqD x y with
    | none => rw [eb] at e; cases e
    | some b =>
      rw [eb] at e
      cases e
      rcases eqD_ok q1 q2 eb with ⟨h1, h2⟩ | ⟨a, c, h1, h2, h3, h4, h5⟩
      · exact .inl ⟨h1, hq _ (by rw [h2]; exact rfl)⟩
      · exact .inr ⟨a, c, h1, h2, h3, h4, hq _ (by rw [h5]; exact rfl)⟩
  · cases e
theorem sp_ne : OpSpec X.K NT (r2L (rNe2 X.K)) fNe .f true := spec_pure fun H ok ds vs d Q R e hq => by
  unfold fNe at e
  split at e
  · rename_i x y
    obtain ⟨v, w, rfl, q1, q2⟩ := c2 R
    cases eb : eqD x y with
    | none => rw [eb] at e; cases e
    | some b =>
      rw [eb] at e
      cases e
      rcases eqD_ok q1 q2 eb with ⟨h1, h2⟩ | ⟨a, c, h1, h2, h3, h4, h5⟩
      · exact .inl ⟨h1, hq _ (by rw [h2]; exact rfl)⟩
      · exact .inr ⟨a, c, h1, h2, h3, h4, hq _ (by rw [h5]; exact rfl)⟩
  · cases e
/-! ### is -/
def isNonD : D → Bool
  | .non => true
  | _ => false
def fIsN : List D → Option D
  | [x, .non] => some (.bl (isNonD x))
  | _ => none
def fNotN : List D → Option D
  | [x, .non] => some (.bl (!isNonD x))
  | _ => none
theorem isNon_ok {K : PySem.W.Frag} {H : Hp} {ok : Addr → Prop} {x : D} {v : V} (r : RepC K NT H ok x v) : decide (v = .non) = isNonD x := by
  cases x with
  | non => rw [show v = .non from r]; rfl
  | bl _ => rw [show v = .bl _ from r]; rfl
  | int _ => rw [show v = .int _ from r]; rfl
  | str _ => rw [show v = .str _ from r]; rfl
  | ty _ => rw [show v = .ty _ from r]; rfl
  | glo _ => rw [show v = .ref _ from r]; rfl
  | tup _ => obtain ⟨a, _, rfl, _⟩ := r; rfl
  | lst _ => obtain ⟨a, _, rfl, _⟩ := r; rfl
  | scr _ => obtain ⟨a, rfl, _⟩ := r; rfl
  | dk _ => obtain ⟨a, _, rfl, _⟩ := r; rfl
  | dt _ => obtain ⟨a, _, rfl, _⟩ := r; rfl
  | obj _ _ => obtain ⟨a, _, _, rfl, _⟩ := r; rfl
  | exc _ _ => exact False.elim r
theorem sp_isN : OpSpec X.K NT (r2L fun x y H Q => y = .non ∧ Q (.bl (decide (x = .non))) H) fIsN .f true := spec_pure fun H ok ds vs d Q R e hq => by
  unfold fIsN at e
  split at e
  · obtain ⟨v, w, rfl, q1, q2⟩ := c2 R
    cases e
    exact ⟨q2, by rw [isNon_ok q1]; exact hq _ rfl⟩
  · cases e
theorem sp_notN : OpSpec X.K NT (r2L fun x y H Q => y = .non ∧ Q (.bl (!decide (x = .non))) H) fNotN .f true := spec_pure fun H ok ds vs d Q R e hq => by
  unfold fNotN at e
  split at e
  · obtain ⟨v, w, rfl, q1, q2⟩ := c2 R
    cases e
    exact ⟨q2, by rw [isNon_ok q1]; exact hq _ rfl⟩
  · cases e
/-! ### one sign in a text -/
def fInS : List D → Option D
  | [.str x, .str z] => if x.cps.toList.length = 1 then some (.bl (decide (x.cps.toList.getD 0 0 ∈ z.cps.toList))) else none
  | _ => none
theorem one_sign {x : Str} (h : x.cps.toList.length = 1) : x = ⟨#[x.cps.toList.getD 0 0]⟩ := by
  obtain ⟨c⟩ := x
  obtain ⟨l⟩ := c
  match l, h with
  | [a], _ => rfl
theorem sp_inS : OpSpec X.K NT (r2L fun x y H Q => ∃ (c : Nat) (z : Str), x = .str ⟨#[c]⟩ ∧ y = .str z ∧ Q (.bl (decide (c ∈ z.cps.toList))) H) fInS .f true := spec_pure fun H ok ds vs d Q R e hq => by
  unfold fInS at e
  split at e
  · rename_i x z
    obtain ⟨v, w, rfl, q1, q2⟩ := c2 R
    split at e
    · rename_i h
      cases e
      exact ⟨x.cps.toList.getD 0 0, z, by rw [← one_sign h]; exact q1, q2, hq _ rfl⟩
    · cases e
  · cases e
/-! ### str, all, any, sum -/
theorem call_str2 : CallR X (.type "str") (fun xs H Q => (∃ i, xs = [.int i] ∧ i.natAbs.log2 < 1920 ∧ Q (.str (toString i)) H)) := call_str_int
theorem sp_str : OpSpec X.K NT (fun xs H Q => (∃ i, xs = [.int i] ∧ i.natAbs.log2 < 1920 ∧ Q (.str (toString i)) H)) (fI fun i => if i.natAbs < 2 ^ 1900 then some (.str (toString i : String)) else none) .f true := spec_pure fun H ok ds vs d Q R e hq => by
  obtain ⟨i, rfl, e'⟩ := fI_inv e
  clear e
  obtain ⟨v, rfl, q⟩ := c1 R
  split at e'
  · rename_i h
    cases e'
    have q : v = .int i := q
    subst q
    refine ⟨i, rfl, ?_, hq _ rfl⟩
    exact Nat.lt_of_lt_of_le (PySem.Flt.log2_lt_of (by decide) h) (by decide)
  · cases e'
def blsD : List D → Option (List Bool)
  | [] => some []
  | .bl b :: r => (blsD r).map fun bs => b :: bs
  | _ => none
def intsD : List D → Option (List Int)
  | [] => some []
  | .int i :: r => (intsD r).map fun is => i :: is
  | _ => none
theorem bls_reps {K : PySem.W.Frag} {H : Hp} {ok : Addr → Prop} : ∀ {xs : List D} {vs : List V} {bs : List Bool}, Reps K NT H ok xs vs → blsD xs = some bs → vs = bs.map .bl
  | [], _, _, r, e => by cases e; exact r
  | x :: xs, _, _, ⟨v, r, e1, q1, q2⟩, e => by
    cases x with
    | bl b =>
      unfold blsD at e
      cases h : blsD xs with
      | none => rw [h] at e; cases e
      | some bs => rw [h] at e; cases e; rw [e1, bls_reps q2 h, show v = .bl b from q1]; rfl
    | _ => cases e
theorem ints_reps {K : PySem.W.Frag} {H : Hp} {ok : Addr → Prop} : ∀ {xs : List D} {vs : List V} {bs : List Int}, Reps K NT H ok xs vs → intsD xs = some bs → vs = bs.map .int
  | [], _, _, r, e => by cases e; exact r
  | x :: xs, _, _, ⟨v, r, e1, q1, q2⟩, e => by
    cases x with
    | int b =>
      unfold intsD at e
      cases h : intsD xs with
      | none => rw [h] at e; cases e
      | some bs => rw [h] at e; cases e; rw [e1, ints_reps q2 h, show v = .int b from q1]; rfl
    | _ => cases e
theorem intsD_map : ∀ ns : List Int, intsD (ns.map .int) = some ns
  | [] => rfl
  | n :: ns => by show (intsD (ns.map .int)).map _ = _; rw [intsD_map ns]; rfl
theorem blsD_map : ∀ ns : List Bool, blsD (ns.map .bl) = some ns
  | [] => rfl
  | n :: ns => by show (blsD (ns.map .bl)).map _ = _; rw [blsD_map ns]; rfl
def fAll : List D → Option D
  | [.lst x] => (blsD x).map fun bs => .bl (bs.all id)
  | _ => none
def fAny : List D → Option D
  | [.lst x] => (blsD x).map fun bs => .bl (bs.any id)
  | _ => none
def fSum : List D → Option D
  | [.lst x] => (intsD x).map fun ns => .int ns.sum
  | _ => none
theorem sp_all : OpSpec X.K NT (rAll X.K) fAll .f true := spec_pure fun H ok ds vs d Q R e hq => by
  unfold fAll at e
  split at e
  · rename_i x
    obtain ⟨v, rfl, ⟨a, us, rfl, h1, r1⟩⟩ := c1 R
    cases h : blsD x with
    | none => rw [h] at e; cases e
    | some bs => rw [h] at e; cases e; exact ⟨a, bs, rfl, by rw [← bls_reps r1 h]; exact .inl (.inl h1), hq _ rfl⟩
  · cases e
theorem sp_any : OpSpec X.K NT (rAny X.K) fAny .f true := spec_pure fun H ok ds vs d Q R e hq => by
  unfold fAny at e
  split at e
  · rename_i x
    obtain ⟨v, rfl, ⟨a, us, rfl, h1, r1⟩⟩ := c1 R
    cases h : blsD x with
    | none => rw [h] at e; cases e
    | some bs => rw [h] at e; cases e; exact ⟨a, bs, rfl, by rw [← bls_reps r1 h]; exact .inl (.inl h1), hq _ rfl⟩
  · cases e
theorem sp_sum : OpSpec X.K NT (rSum X.K) fSum .f true := spec_pure fun H ok ds vs d Q R e hq => by
  unfold fSum at e
  split at e
  · rename_i x
    obtain ⟨v, rfl, ⟨a, us, rfl, h1, r1⟩⟩ := c1 R
    cases h : intsD x with
    | none => rw [h] at e; cases e
    | some ns => rw [h] at e; cases e; exact ⟨a, ns, rfl, by rw [← ints_reps r1 h]; exact .inl (.inl h1), hq _ rfl⟩
  · cases e
end
/-! ### slices -/
def cutG {α : Type} (xs : List α) (lo hi : Option Int) : List α := (xs.drop (HT.sIx xs.length 0 lo)).take (HT.sIx xs.length xs.length hi - HT.sIx xs.length 0 lo)
abbrev ODen := Stt → Rz (Option Int)
def SimO (K : PySem.W.Frag) (C : Cc) (κ : List Sh) (t : TO) (den : ODen) (κ' : List Sh) : Prop :=
  ∀ σd σv H l Lo Q, SOk K C κ σd σv H l Lo → den σd ≠ .stuck →
    (∀ o σd', den σd = .ok o σd' → ∀ H' l', SOk K C κ' σd' σv H' l' Lo → Go l H l' [] H' → Q o H') →
    ExW K C (fun x σd' => den σd = .exc x σd') σv H l Lo → t σv H Q
def oNone : ODen := fun σ => .ok none σ
def oSome (da : Den) : ODen := fun σ => match da σ with
  | .ok (.int i) σ1 => .ok (some i) σ1
  | .exc x σ1 => .exc x σ1
  | _ => .stuck
def OO (X : Cx) (C : Cc) (κ : List Sh) (e : Option Expr) (od : ODen) (κ' : List Sh) : Prop := ∃ t, PO X e t ∧ SimO X.K C κ t od κ'
def fSlL : D → Option Int → Option Int → Option D
  | .lst xs, lo, hi => some (.lst (cutG xs lo hi))
  | .scr ns, lo, hi => some (.lst ((cutG ns lo hi).map .int))
  | _, _, _ => none
def fSlS : D → Option Int → Option Int → Option D
  | .str z, lo, hi => if z.length ≤ sizeLine then some (.str (cutS z lo hi)) else none
  | _, _, _ => none
def fSlT : D → Option Int → Option Int → Option D
  | .tup xs, lo, hi => if HT.sIx xs.length 0 lo = 0 ∧ HT.sIx xs.length xs.length hi = xs.length then none else some (.tup (cutG xs lo hi))
  | _, _, _ => none
def dSl (f : D → Option Int → Option Int → Option D) (da : Den) (ol oh : ODen) : Den := fun σ => match da σ with
  | .ok d σ1 => (match ol σ1 with
    | .ok lo σ2 => (match oh σ2 with
      | .ok hi σ3 => (match f d lo hi with
        | some r => .ok r σ3
        | none => .stuck)
      | .exc x σ3 => .exc x σ3
      | .stuck => .stuck)
    | .exc x σ2 => .exc x σ2
    | .stuck => .stuck)
  | .exc x σ1 => .exc x σ1
  | .stuck => .stuck
section
variable {X : Cx} {C : Cc} {κ κ1 κ2 κ3 κ' : List Sh} {s : Sh} {p p1 p2 : Bool} {a e : Expr} {lo hi : Option Expr} {da db : Den} {ol oh : ODen} {pos p2' : Pos}
theorem oo_none : OO X C κ none oNone κ := ⟨_, po_none, fun σd σv H l Lo Q S ns hok hex => hok none σd rfl H l S (Go.refl l H)⟩
theorem oo_some (h : EE X C κ e da .f κ' p) : OO X C κ (some e) (oSome da) κ' := by
  obtain ⟨t, h1, h2⟩ := h
  refine ⟨_, po_some h1, fun σd σv H l Lo Q S ns hok hex => ?_⟩
  unfold oSome at ns
  refine h2 σd σv H l Lo _ S (fun z => ns (by rw [z])) (fun d σ1 e v H1 l1 lx S1 R nd g hp => ?_) (fun x σ1 e => hex x σ1 (by unfold oSome; rw [e]))
  rw [e] at ns
  obtain ⟨e0, R⟩ := R
  subst e0
  cases d with
  | int i => exact ⟨i, R, hok (some i) σ1 (by unfold oSome; rw [e]) H1 l1 S1.drop g⟩
  | _ => exact absurd rfl ns
theorem cutG_reps {K : PySem.W.Frag} {NT : List Str} {H : Hp} {ok : Addr → Prop} {xs : List D} {vs : List V} (r : Reps K NT H ok xs vs) (lo hi : Option Int) : Reps K NT H ok (cutG xs lo hi) (cutV vs lo hi) := by
  unfold cutG cutV
  rw [reps_len r]
  exact reps_take _ (reps_drop _ r)
theorem ee_slL (ha : EE X C κ a da .f κ1 p) (hl : OO X C κ1 lo ol κ2) (hh : OO X C κ2 hi oh κ3) : EE X C κ (.Subscript a (.Slice lo hi none p2') pos) (dSl fSlL da ol oh) (.l .f) κ3 false := by
  obtain ⟨t, h1, h2⟩ := ha
  obtain ⟨u, h3, h4⟩ := hl
  obtain ⟨w, h5, h6⟩ := hh
  refine ⟨_, pe_slice sl_list h1 h3 h5, fun σd σv H l Lo Q S ns hok hex => ?_⟩
  unfold dSl at ns
  refine h2 σd σv H l Lo _ S (fun z => ns (by rw [z])) (fun d σ1 e v H1 l1 lx S1 R nd g hp => ?_) (fun x σ1 e => hex x σ1 (by unfold dSl; rw [e]))
  rw [e] at ns
  obtain ⟨e0, R⟩ := R
  subst e0
  refine h4 σ1 σv H1 l1 Lo _ S1.drop (fun z => ns (by dsimp only; rw [z])) (fun lo' σ2 e2 H2 l2 S2 g2 => ?_) (hex.go0 g fun x σ e2 => by unfold dSl; rw [e]; dsimp only; rw [e2])
  dsimp only at ns
  rw [e2] at ns
  refine h6 σ2 σv H2 l2 Lo _ S2 (fun z => ns (by dsimp only; rw [z])) (fun hi' σ3 e3 H3 l3 S3 g3 => ?_) (hex.go0 (g.trans g2) fun x σ e3 => by unfold dSl; rw [e]; dsimp only; rw [e2]; dsimp only; rw [e3])
  dsimp only at ns
  rw [e3] at ns
  dsimp only at ns
  have R3 : Rep X.K C.NT H3 (okOf l3 Lo) d v := ((R.mono (kp_ok fun a o => (⟨o.1, fun z => o.2 (.inl z)⟩ : okOf l1 Lo a))).mono g2.kp).mono g3.kp
  have fin : ∀ (vs : List V) (y : List D) (b : Addr), fSlL d lo' hi' = some (.lst y) → v = .ref b → SqL X.K H3 b vs → Reps X.K C.NT H3 (okOf l3 Lo) y (cutV vs lo' hi') → rSlL X.K v lo' hi' H3 Q := fun vs y b ef ev hs hr => by
    refine ⟨b, vs, ev, hs, fun q hq => ?_⟩
    have gr : Grow H3 (upd H3 q (.lst (cutV vs lo' hi'))) [q] := Grow.one hq
    have S4 := S3.grow gr
    refine hok (.lst y) σ3 (by unfold dSl; rw [e]; dsimp only; rw [e2]; dsimp only; rw [e3]; dsimp only; rw [ef]) (.ref q) _ l3 [q] S4 ⟨y, q, _, [], rfl, rfl, rfl, upd_same, reps_list ?_⟩ (by simp) ((g.trans (g2.trans g3)).trans (gr.go S3)) (fun z => nomatch z)
    exact hr.mono fun a u ea o => ⟨gr.kp a u ea, o.1, fun z => z.elim o.2 fun z => by
      simp at z
      subst z
      rw [hq] at ea
      cases ea⟩
  cases d with
  | lst xs =>
    obtain ⟨b, vs, ev, hs, hr⟩ := R3
    exact fin vs _ b rfl ev hs.sq (cutG_reps hr lo' hi')
  | scr is =>
    obtain ⟨b, ev, hs⟩ := R3
    refine fin _ _ b rfl ev hs.sq ?_
    have e : ∀ ms : List Int, Reps X.K C.NT H3 (okOf l3 Lo) (ms.map .int) (ms.map .int) := fun ms => by
      induction ms with
      | nil => exact rfl
      | cons m ms ih => exact ⟨_, _, rfl, rfl, ih⟩
    have ec : cutV (is.map V.int) lo' hi' = (cutG is lo' hi').map V.int := by
      unfold cutV cutG
      rw [List.length_map, List.map_take, List.map_drop]
    rw [ec]
    exact e _
  | _ => exact absurd rfl ns
theorem ee_slS (ha : EE X C κ a da .f κ1 p) (hl : OO X C κ1 lo ol κ2) (hh : OO X C κ2 hi oh κ3) : EE X C κ (.Subscript a (.Slice lo hi none p2') pos) (dSl fSlS da ol oh) .f κ3 false := by
  obtain ⟨t, h1, h2⟩ := ha
  obtain ⟨u, h3, h4⟩ := hl
  obtain ⟨w, h5, h6⟩ := hh
  refine ⟨_, pe_slice sl_str h1 h3 h5, fun σd σv H l Lo Q S ns hok hex => ?_⟩
  unfold dSl at ns
  refine h2 σd σv H l Lo _ S (fun z => ns (by rw [z])) (fun d σ1 e v H1 l1 lx S1 R nd g hp => ?_) (fun x σ1 e => hex x σ1 (by unfold dSl; rw [e]))
  rw [e] at ns
  obtain ⟨e0, R⟩ := R
  subst e0
  refine h4 σ1 σv H1 l1 Lo _ S1.drop (fun z => ns (by dsimp only; rw [z])) (fun lo' σ2 e2 H2 l2 S2 g2 => ?_) (hex.go0 g fun x σ e2 => by unfold dSl; rw [e]; dsimp only; rw [e2])
  dsimp only at ns
  rw [e2] at ns
  refine h6 σ2 σv H2 l2 Lo _ S2 (fun z => ns (by dsimp only; rw [z])) (fun hi' σ3 e3 H3 l3 S3 g3 => ?_) (hex.go0 (g.trans g2) fun x σ e3 => by unfold dSl; rw [e]; dsimp only; rw [e2]; dsimp only; rw [e3])
  dsimp only at ns
  rw [e3] at ns
  dsimp only at ns
  cases d with
  | str z =>
    have ns : (match (if z.length ≤ sizeLine then some (D.str (cutS z lo' hi')) else none) with | some r => Rz.ok r σ3 | none => Rz.stuck) ≠ Rz.stuck := ns
    by_cases hz : z.length ≤ sizeLine
    · refine ⟨z, R, hz, ?_⟩
      exact hok (.str (cutS z lo' hi')) σ3 (by unfold dSl; rw [e]; dsimp only; rw [e2]; dsimp only; rw [e3]; dsimp only; rw [show fSlS (.str z) lo' hi' = some (.str (cutS z lo' hi')) from if_pos hz]) _ H3 l3 [] S3.nil ⟨rfl, rfl⟩ List.nodup_nil (g.trans (g2.trans g3)) (fun z => nomatch z)
    · rw [if_neg hz] at ns
      exact absurd rfl ns
  | _ => exact absurd rfl ns
theorem ee_slT (ha : EE X C κ a da .f κ1 p) (hl : OO X C κ1 lo ol κ2) (hh : OO X C κ2 hi oh κ3) : EE X C κ (.Subscript a (.Slice lo hi none p2') pos) (dSl fSlT da ol oh) .f κ3 false := by
  obtain ⟨t, h1, h2⟩ := ha
  obtain ⟨u, h3, h4⟩ := hl
  obtain ⟨w, h5, h6⟩ := hh
  refine ⟨_, pe_slice sl_tup h1 h3 h5, fun σd σv H l Lo Q S ns hok hex => ?_⟩
  unfold dSl at ns
  refine h2 σd σv H l Lo _ S (fun z => ns (by rw [z])) (fun d σ1 e v H1 l1 lx S1 R nd g hp => ?_) (fun x σ1 e => hex x σ1 (by unfold dSl; rw [e]))
  rw [e] at ns
  obtain ⟨e0, R⟩ := R
  subst e0
  refine h4 σ1 σv H1 l1 Lo _ S1.drop (fun z => ns (by dsimp only; rw [z])) (fun lo' σ2 e2 H2 l2 S2 g2 => ?_) (hex.go0 g fun x σ e2 => by unfold dSl; rw [e]; dsimp only; rw [e2])
  dsimp only at ns
  rw [e2] at ns
  refine h6 σ2 σv H2 l2 Lo _ S2 (fun z => ns (by dsimp only; rw [z])) (fun hi' σ3 e3 H3 l3 S3 g3 => ?_) (hex.go0 (g.trans g2) fun x σ e3 => by unfold dSl; rw [e]; dsimp only; rw [e2]; dsimp only; rw [e3])
  dsimp only at ns
  rw [e3] at ns
  dsimp only at ns
  have R3 : Rep X.K C.NT H3 (okOf l3 Lo) d v := ((R.mono (kp_ok fun a o => (⟨o.1, fun z => o.2 (.inl z)⟩ : okOf l1 Lo a))).mono g2.kp).mono g3.kp
  cases d with
  | tup xs =>
    have ns : (match (if HT.sIx xs.length 0 lo' = 0 ∧ HT.sIx xs.length xs.length hi' = xs.length then none else some (D.tup (cutG xs lo' hi'))) with | some r => Rz.ok r σ3 | none => Rz.stuck) ≠ Rz.stuck := ns
    by_cases hz : HT.sIx xs.length 0 lo' = 0 ∧ HT.sIx xs.length xs.length hi' = xs.length
    · rw [if_pos hz] at ns
      exact absurd rfl ns
    · obtain ⟨b, vs, ev, hs, hr⟩ := R3
      refine ⟨b, vs, ev, hs.sq, by rw [reps_len hr]; exact hz, fun q hq => ?_⟩
      have gr : Grow H3 (upd H3 q (.tup (cutV vs lo' hi'))) [q] := Grow.one hq
      have S4 := S3.grow gr
      have nl : ¬ Lo q := fun z => by
        obtain ⟨u, eu⟩ := S3.los q z
        exact nomatch hq.symm.trans eu
      have ok1 : ∀ i, q ∉ l3 i := fun i m => by
        obtain ⟨u, eu⟩ := S3.tr i q m
        exact nomatch hq.symm.trans eu
      refine hok (.tup (cutG xs lo' hi')) σ3 (by unfold dSl; rw [e]; dsimp only; rw [e2]; dsimp only; rw [e3]; dsimp only; rw [show fSlT (.tup xs) lo' hi' = some (.tup (cutG xs lo' hi')) from if_neg hz]) (.ref q) _ l3 [] S4.drop.nil ⟨rfl, q, _, rfl, .inl ⟨⟨ok1, fun z => z.elim nl (by simp)⟩, .inl upd_same⟩, ?_⟩ List.nodup_nil ((g.trans (g2.trans g3)).trans (gr.go S3).drop) (fun z => nomatch z)
      exact (cutG_reps hr lo' hi').mono fun a u ea o => ⟨gr.kp a u ea, o.1, fun z => z.elim o.2 (by simp)⟩
  | _ => exact absurd rfl ns
end
end Pt
set_option maxRecDepth 100000
set_option maxHeartbeats 1000000
namespace Pt
open PySem PySem.Spec PyProof.Rows L2
/-! ### an owned list is changed -/
section
variable {K : PySem.W.Frag} {C : Cc} {κ κ' : List Sh} {σd σd' : Stt} {σv : Sv} {H H' : Hp} {l l' : Own} {Lo Lo' : Addr → Prop} {lx : List Addr}
theorem SOk.lstAt (S : SOk K C κ σd σv H l Lo) {i : Nat} {d : D} (e : σd[i]? = some (some d)) (hk : kd κ i = .l .f) :
    ∃ xs a vs, d = .lst xs ∧ σv[i]? = some (some (.ref a)) ∧ l i = [a] ∧ H a = some (.lst vs) ∧ Reps K C.NT H (okOf l Lo) xs vs := by
  obtain ⟨v, ev, r⟩ := S.val i d e
  rw [hk] at r
  obtain ⟨xs, a, vs, l', e1, e2, e3, e4, r⟩ := r
  obtain ⟨e5, r2⟩ := listRep_f r
  subst e5 e2
  exact ⟨xs, a, vs, e1, ev, e3, e4, r2⟩
/-- the owned object at slot i, at a, is another one from now on -/
theorem SOk.mut (S : SOk K C κ σd σv H l Lo) {i : Nat} {a : Addr} {o : HO} {d' : D} (hi : ∃ d, σd[i]? = some (some d)) (ha : a ∈ l i) (hr : ∃ v, σv[i]? = some (some v) ∧ RepO K C.NT (upd H a o) (okOf l Lo) (kd κ i) d' v (l i)) :
    SOk K C κ (σd.set i (some d')) σv (upd H a o) l Lo ∧ Go l H l [] (upd H a o) := by
  have ne : ∀ b, (∀ j, b ∉ l j) → b ≠ a := fun b h e => h i (e ▸ ha)
  have kp : Kp H (upd H a o) (okOf l Lo) (okOf l Lo) := fun b u e q => ⟨by rw [upd_ne (ne b q.1)]; exact e, q⟩
  refine ⟨⟨fun j e he => ?_, fun j he => ?_, S.nd, S.dj, S.lo, fun j b m => ?_, fun b z => ?_, S.pin, by rw [List.length_set]; exact S.len, S.klen, C.iv.mono kp S.iv⟩, ⟨fun b u e n => ⟨by rw [upd_ne (ne b n)]; exact e, n, by simp⟩, fun b e => ?_⟩⟩
  · by_cases q : j = i
    · subst q
      obtain ⟨d, ed⟩ := hi
      have hj : j < σd.length := (List.getElem?_eq_some_iff.mp ed).1
      rw [List.getElem?_set_self hj] at he
      cases he
      exact hr
    · rw [List.getElem?_set_ne (Ne.symm q)] at he
      obtain ⟨v, ev, r⟩ := S.val j e he
      exact ⟨v, ev, r.mono kp fun b u m eb => by rw [upd_ne (fun z : b = a => q (S.dj j i b m (by rw [z]; exact ha)))]; exact eb⟩
  · refine S.emp j fun d e => ?_
    by_cases q : j = i
    · subst q
      have hj : j < σd.length := (List.getElem?_eq_some_iff.mp e).1
      exact he d' (List.getElem?_set_self hj)
    · exact he d (by rw [List.getElem?_set_ne (Ne.symm q)]; exact e)
  · by_cases q : b = a
    · subst q; exact ⟨_, upd_same⟩
    · rw [upd_ne q]; exact S.tr j b m
  · have q : b ≠ a := fun e => S.lo i a ha (e ▸ z)
    rw [upd_ne q]
    exact S.los b z
  · by_cases q : b = a
    · subst q; rw [upd_same] at e; cases e
    · rw [upd_ne q] at e; exact e
theorem SOk.mutL (S : SOk K C κ σd σv H l Lo) {i : Nat} {a : Addr} {xs' : List D} {vs vs' : List V} (hi : ∃ d, σd[i]? = some (some d)) (hk : kd κ i = .l .f) (hv : σv[i]? = some (some (.ref a))) (hl : l i = [a]) (hH : H a = some (.lst vs)) (r : Reps K C.NT H (okOf l Lo) xs' vs') :
    SOk K C κ (σd.set i (some (.lst xs'))) σv (upd H a (.lst vs')) l Lo ∧ Go l H l [] (upd H a (.lst vs')) := by
  have ha : a ∈ l i := by rw [hl]; simp
  refine S.mut hi ha ⟨_, hv, ?_⟩
  rw [hk, hl]
  refine ⟨xs', a, vs', [], rfl, rfl, rfl, upd_same, reps_list (r.mono fun b u e o => ⟨?_, o⟩)⟩
  rw [upd_ne fun z : b = a => o.1 i (by rw [z]; exact ha)]
  exact e
end
section
variable {X : Cx} {C : Cc} {κ κ1 κ2 κ3 κ' κb : List Sh} {s rs : Sh} {p p1 p2 : Bool} {a e ix : Expr} {es : List Expr} {da di : Den} {pos p2' cpos apos spos : Pos}
/-- vis: the names that are seen, told once a def -/
def VisOk (X : Cx) (vis : List Str) : Prop := ∀ y ∈ vis, Vis X.env.scope y ∧ (y == ("__debug__" : Str)) = false ∧ (y == ("__classdict__" : Str)) = false
def lstSt (i : Nat) (σ : Stt) : Option (List D) := match σ[i]? with
  | some (some (.lst xs)) => some xs
  | _ => none
theorem lstSt_of {i : Nat} {σ : Stt} {xs : List D} (h : lstSt i σ = some xs) : σ[i]? = some (some (.lst xs)) := by
  unfold lstSt at h
  split at h
  · rename_i e; cases h; exact e
  · cases h
/-- x.append(e) -/
def sApp (i : Nat) (da : Den) : SDen := fun σ => match lstSt i σ with
  | none => .stuck
  | some _ => (match da σ with
    | .ok d σ1 => (match lstSt i σ1 with
      | some xs => if xs.length < sizeLine then .nx (σ1.set i (some (.lst (xs ++ [d])))) else .stuck
      | none => .stuck)
    | .exc x σ1 => .exc x σ1
    | .stuck => .stuck)
theorem ss_append {x : Str} {xp : Pos} (i j : Nat) (vis : List Str) (hv : VisOk X vis) (hN : X.N[i]? = some x) (hj : vis[j]? = some x) (hk : kd κ i = .l .f) (ha : EE X C κ e da .f κ1 p) (hk1 : kd κ1 i = .l .f)
    (hline : (apos.endLine == cpos.line) = true := by rfl) (hs : starEach (e :: []) X.env = (false, eval e X.env) :: starEach [] X.env := by rfl) (hbase : attributeBase (.Name x xp) "append" X.env (eval (.Name x xp) X.env) = eval (.Name x xp) X.env := by rfl)
    (hfew : ((backTo cpos (starEach (e :: []) X.env)).all (fun x => !x.1) && (backToKw cpos (keywordEach [] X.env)).all (fun x => x.1.isSome) && decide ((e :: []).length + ([] : List Keyword).length + (if ([] : List Keyword).isEmpty then 0 else 1) < 30)) = true := by rfl)
    (hsw : swapsWith (.Call (.Attribute (.Name x xp) "append" apos) [e] [] cpos) none pos.line X.env = pure false := by rfl) : SS X C κ (.Expr (.Call (.Attribute (.Name x xp) "append" apos) [e] [] cpos) pos) (sApp i da) κ1 κb rs := by
  obtain ⟨t, h1, h2⟩ := ha
  obtain ⟨v1, v2, v3⟩ := hv x (List.mem_of_getElem? hj)
  refine ⟨_, ps_expr (pe_bm PySem.F.plainAttrs_list PySem.F.slot_list_append PySem.F.type_list_append mt_append (pe_var hN v1 v2 v3) (pa_cons h1 pa_nil hs) hbase hfew hline hs) hsw, fun σd σv H l Lo E S ns hn hb hc hr hx => ?_⟩
  unfold sApp at ns
  cases q0 : lstSt i σd with
  | none => rw [q0] at ns; exact absurd rfl ns
  | some xs0 =>
    rw [q0] at ns
    dsimp only at ns
    have e0 := lstSt_of q0
    obtain ⟨_, a0, vs0, _, ev, el, eH, er⟩ := S.lstAt e0 hk
    refine ⟨.ref a0, ev, .inl ⟨rfl, vs0, .inl (.inl eH)⟩, ?_⟩
    refine h2 σd σv H l Lo _ S (fun z => ns (by rw [z])) (fun d σ1 e1 v H1 l1 lx S1 R nd g hp => ?_) (fun x σ1 e1 c dd H' l' => hx x σ1 (by unfold sApp; rw [q0]; dsimp only; rw [e1]) c dd σv H' l')
    rw [e1] at ns
    dsimp only at ns
    obtain ⟨z0, R⟩ := R
    subst z0
    cases q1 : lstSt i σ1 with
    | none => rw [q1] at ns; exact absurd rfl ns
    | some xs =>
      rw [q1] at ns
      dsimp only at ns
      have e2 := lstSt_of q1
      obtain ⟨xs', a1, vs, q2, ev1, el1, eH1, er1⟩ := S1.drop.lstAt e2 hk1
      cases q2
      rw [ev] at ev1
      cases ev1
      by_cases hl : xs.length < sizeLine
      · have R' : Rep X.K C.NT H1 (okOf l1 Lo) d v := R.mono (kp_ok fun a o => ⟨o.1, fun z => o.2 (.inl z)⟩)
        obtain ⟨S2, g2⟩ := S1.drop.mutL ⟨_, e2⟩ hk1 ev el1 eH1 (reps_append er1 (show Reps X.K C.NT H1 (okOf l1 Lo) [d] [v] from ⟨v, [], rfl, R', rfl⟩))
        refine ⟨a0, vs, v, rfl, rfl, eH1, by rw [reps_len er1]; exact hl, hn _ ?_ σv _ l1 S2 (g.trans g2)⟩
        unfold sApp
        rw [q0]
        dsimp only
        rw [e1]
        dsimp only
        rw [q1]
        dsimp only
        rw [if_pos hl]
      · rw [if_neg hl] at ns
        exact absurd rfl ns
/-- x[k] = e -/
def sSetIx (i : Nat) (da di : Den) : SDen := fun σ => match da σ with
  | .ok d σ1 => (match lstSt i σ1 with
    | none => .stuck
    | some _ => (match di σ1 with
      | .ok (.int k) σ2 => (match lstSt i σ2 with
        | some xs => (match ixN xs.length k with
          | some j => .nx (σ2.set i (some (.lst (xs.set j d))))
          | none => .stuck)
        | none => .stuck)
      | .exc x σ2 => .exc x σ2
      | _ => .stuck))
  | .exc x σ1 => .exc x σ1
  | .stuck => .stuck
theorem ss_setix {x : Str} {xp : Pos} (i j : Nat) (vis : List Str) (hv : VisOk X vis) (hN : X.N[i]? = some x) (hj : vis[j]? = some x) (ha : EE X C κ e da .f κ1 p1) (hk1 : kd κ1 i = .l .f) (hi : EE X C κ1 ix di .f κ2 p2) (hk2 : kd κ2 i = .l .f)
    (hasg : ∀ v, assign (.Subscript (.Name x xp) ix spos) X.env v = (do
      let ov ← holding [v] (eval (.Name x xp) X.env)
      let iv ← holding [v, ov] (eval ix X.env)
      standAt spos
      holding [v, ov, iv] (setItem ov iv v)
      release [v, ov, iv] []) := by intro _; rfl)
    (hs : swapsWithSole [(.Subscript (.Name x xp) ix spos)] e pos.line X.env = pure false := by rfl) (hw : swappedStores [(.Subscript (.Name x xp) ix spos)] e X.env = pure none := by rfl)
    (h1' : (assignEach [(.Subscript (.Name x xp) ix spos)] X.env).map (·.2) = [assign (.Subscript (.Name x xp) ix spos) X.env] := by rfl) : SS X C κ (.Assign [.Subscript (.Name x xp) ix spos] e pos) (sSetIx i da di) κ2 κb rs := by
  obtain ⟨t, h1, h2⟩ := ha
  obtain ⟨u, h3, h4⟩ := hi
  obtain ⟨v1, v2, v3⟩ := hv x (List.mem_of_getElem? hj)
  refine ⟨_, ps_asg h1 (pg_sub (pe_var hN v1 v2 v3) h3 set_list hasg) hs hw h1', fun σd σv H l Lo E S ns hn hb hc hr hx => ?_⟩
  unfold sSetIx at ns
  refine h2 σd σv H l Lo _ S (fun z => ns (by rw [z])) (fun d σ1 e1 v H1 l1 lx S1 R nd g hp => ?_) (fun x σ1 e1 c dd H' l' => hx x σ1 (by unfold sSetIx; rw [e1]) c dd σv H' l')
  rw [e1] at ns
  dsimp only at ns
  obtain ⟨z0, R⟩ := R
  subst z0
  cases q0 : lstSt i σ1 with
  | none => rw [q0] at ns; exact absurd rfl ns
  | some xs0 =>
    rw [q0] at ns
    dsimp only at ns
    obtain ⟨_, a0, vs0, _, ev, el, eH, er⟩ := S1.lstAt (lstSt_of q0) hk1
    refine ⟨.ref a0, ev, ?_⟩
    refine h4 σ1 σv H1 l1 Lo _ S1.drop (fun z => ns (by rw [z])) (fun dk σ2 e2 w H2 l2 lx2 S2 R2 nd2 g2 hp2 => ?_) (fun x σ2 e2 c dd H' l' S' R' g' => hx x σ2 (by unfold sSetIx; rw [e1]; dsimp only; rw [q0]; dsimp only; rw [e2]) c dd σv H' l' S' R' (g.trans g'))
    rw [e2] at ns
    obtain ⟨z0, R2⟩ := R2
    subst z0
    cases dk with
    | int k =>
      dsimp only at ns
      cases q1 : lstSt i σ2 with
      | none => rw [q1] at ns; exact absurd rfl ns
      | some xs =>
        rw [q1] at ns
        dsimp only at ns
        have e3 := lstSt_of q1
        obtain ⟨xs', a1, vs, q2, ev1, el1, eH1, er1⟩ := S2.drop.lstAt e3 hk2
        cases q2
        rw [ev] at ev1
        cases ev1
        cases qj : ixN xs.length k with
        | none => rw [qj] at ns; exact absurd rfl ns
        | some jj =>
          have R' : Rep X.K C.NT H2 (okOf l2 Lo) d v := (R.mono (kp_ok fun a o => (⟨o.1, fun z => o.2 (.inl z)⟩ : okOf l1 Lo a))).mono g2.kp
          obtain ⟨S3, g3⟩ := S2.drop.mutL ⟨_, e3⟩ hk2 ev el1 eH1 (reps_set (i := jj) er1 R')
          refine ⟨a0, vs, k, jj, rfl, R2, eH1, by rw [reps_len er1]; exact qj, hn _ ?_ σv _ l2 S3 (g.trans (g2.trans g3))⟩
          unfold sSetIx
          rw [e1]
          dsimp only
          rw [q0]
          dsimp only
          rw [e2]
          dsimp only
          rw [q1]
          dsimp only
          rw [qj]
    | _ => exact absurd rfl ns
end
end Pt
set_option maxRecDepth 100000
set_option maxHeartbeats 1000000
namespace Pt
open PySem PySem.Spec PyProof.Rows L2
/-! ### what a for walks -/
/-- J gives the items, one after another, while what is tracked and let at the start stays -/
def ItOk (K : PySem.W.Frag) (NT : List Str) (J : It) (items : List D) (H0 : Hp) (ok0 : Addr → Prop) : Prop :=
  ∃ (G : Hp → Prop) (Y : Nat → Hp → V → Hp → Prop), Walk J items.length G Y ∧ (∀ H ok, Kp H0 H ok0 ok → G H) ∧
    ∀ i H x H' ok d, Kp H0 H ok0 ok → items[i]? = some d → Y i H x H' → ∃ lx, Grow H H' lx ∧ Rep K NT H' (fun a => ok a ∨ a ∈ lx) d x
abbrev IDen := Stt → Rz (List D)
def SimI (K : PySem.W.Frag) (C : Cc) (κ : List Sh) (wi : TI) (den : IDen) (κ' : List Sh) : Prop :=
  ∀ σd σv H l Lo (R : It → Hp → Prop), SOk K C κ σd σv H l Lo → den σd ≠ .stuck →
    (∀ items σd', den σd = .ok items σd' → ∀ J H' l', SOk K C κ' σd' σv H' l' Lo → Go l H l' [] H' → ItOk K C.NT J items H' (okOf l' Lo) → R J H') →
    ExW K C (fun x σd' => den σd = .exc x σd') σv H l Lo → wi σv H R
def II (X : Cx) (C : Cc) (tg : Expr) (κ : List Sh) (e : Expr) (den : IDen) (κ' : List Sh) : Prop := ∃ wi, PI X tg e wi ∧ SimI X.K C κ wi den κ'
/-- targets -/
abbrev GDen := D → Stt → Option Stt
def SimG (K : PySem.W.Frag) (C : Cc) (κ : List Sh) (g : TG) (bind : GDen) (κ' : List Sh) : Prop :=
  ∀ d v σd σv H l Lo (Q : Sv → Hp → Prop), SOk K C κ σd σv H l Lo → Rep K C.NT H (okOf l Lo) d v → bind d σd ≠ none →
    (∀ σd', bind d σd = some σd' → ∀ σv' l', SOk K C κ' σd' σv' H l' Lo → Go l H l' [] H → Q σv' H) → g v σv H Q
def GG (X : Cx) (C : Cc) (κ : List Sh) (tg : Expr) (bind : GDen) (κ' : List Sh) : Prop := ∃ g, PG X tg g ∧ SimG X.K C κ g bind κ'
abbrev GsDen := List D → Stt → Option Stt
def SimGs (K : PySem.W.Frag) (C : Cc) (κ : List Sh) (g : TGs) (bind : GsDen) (κ' : List Sh) : Prop :=
  ∀ ds vs σd σv H l Lo (Q : Sv → Hp → Prop), SOk K C κ σd σv H l Lo → Reps K C.NT H (okOf l Lo) ds vs → bind ds σd ≠ none →
    (∀ σd', bind ds σd = some σd' → ∀ σv' l', SOk K C κ' σd' σv' H l' Lo → Go l H l' [] H → Q σv' H) → g vs σv H Q
def GGs (X : Cx) (C : Cc) (κ : List Sh) (tgs : List Expr) (bind : GsDen) (κ' : List Sh) : Prop := ∃ g, PGs X tgs g ∧ SimGs X.K C κ g bind κ'
def gdName (i : Nat) : GDen := fun d σ => some (σ.set i (some d))
def gdNil : GsDen := fun ds σ => match ds with
  | [] => some σ
  | _ => none
def gdCons (b : GDen) (bs : GsDen) : GsDen := fun ds σ => match ds with
  | d :: r => (b d σ).bind fun σ1 => bs r σ1
  | [] => none
def gdTup (n : Nat) (bs : GsDen) : GDen := fun d σ => match d with
  | .tup ds => if ds.length = n then bs ds σ else none
  | _ => none
section
variable {X : Cx} {C : Cc} {κ κ1 κ2 κ3 κ' κb κL κg : List Sh} {s rs : Sh} {p p1 p2 : Bool} {a e ix tg : Expr} {es : List Expr} {da di : Den} {pos p2' cpos apos spos : Pos} {bind : GDen} {binds : GsDen}
theorem nin {l : List Nat} {i : Nat} (h : l.contains i = false) : i ∉ l := fun m => by simp [m] at h
theorem gg_name {x : Str} {κ' : List Sh} (i : Nat) (hN : X.N.Nodup) (hi : X.N[i]? = some x) (hx : Loc X.env.scope x) (hf : X.fn x = true ∨ X.env.scope.names.lookup x = some .local) (hM : C.M.contains i = false := by rfl) (hκ : i < κ.length := by decide) (hk' : κ.set i .f = κ' := by rfl) : GG X C κ (.Name x pos) (gdName i) κ' := hk' ▸
  ⟨_, pg_name hN hi hx hf, fun d v σd σv H l Lo Q S R ns hok => by
    have i1 : i < σv.length := by rw [← S.klen]; exact hκ
    exact hok _ rfl (σv.set i (some v)) _ (S.nil.set (by simp) (show RepO X.K C.NT H (okOf l (LoX Lo [])) .f d v [] from ⟨rfl, R.mono (kp_ok fun a o => ⟨o.1, fun z => z.elim o.2 (by simp)⟩)⟩) List.nodup_nil i i1 (nin hM) hκ) ((Go.refl l H).set i)⟩
theorem ggs_nil : GGs X C κ [] gdNil κ := ⟨_, pgs_nil, fun ds vs σd σv H l Lo Q S R ns hok => by
  cases ds with
  | nil => exact ⟨R, hok σd rfl σv l S (Go.refl l H)⟩
  | cons => exact absurd rfl ns⟩
theorem ggs_cons {tgs : List Expr} (h1 : GG X C κ tg bind κ1) (h2 : GGs X C κ1 tgs binds κ2) (hs : (assignEach (tg :: tgs) X.env).map (·.2) = assign tg X.env :: (assignEach tgs X.env).map (·.2) := by rfl) : GGs X C κ (tg :: tgs) (gdCons bind binds) κ2 := by
  obtain ⟨g, a1, a2⟩ := h1
  obtain ⟨gs, b1, b2⟩ := h2
  refine ⟨_, pgs_cons a1 b1 hs, fun ds vs σd σv H l Lo Q S R ns hok => ?_⟩
  cases ds with
  | nil => exact absurd rfl ns
  | cons d ds =>
    obtain ⟨v, r, e, q1, q2⟩ := R
    have ns : (bind d σd).bind (fun σ1 => binds ds σ1) ≠ none := ns
    have hok : ∀ σd', (bind d σd).bind (fun σ1 => binds ds σ1) = some σd' → ∀ σv' l', SOk X.K C κ2 σd' σv' H l' Lo → Go l H l' [] H → Q σv' H := hok
    refine ⟨v, r, e, a2 d v σd σv H l Lo _ S q1 (fun z => ns (by rw [z]; rfl)) fun σ1 e1 σv1 l1 S1 g1 => ?_⟩
    rw [e1] at ns hok
    refine b2 ds r σ1 σv1 H l1 Lo Q S1 (q2.mono g1.kp) ns fun σ2 e2 σv2 l2 S2 g2 => ?_
    exact hok σ2 e2 σv2 l2 S2 (g1.trans g2)
theorem gg_tup {tgs : List Expr} {k n : Nat} (hc : X.calm = true) (h : GGs X C κ tgs binds κ') (hn : (assignEach tgs X.env).length = n := by rfl) (hst : (assignEach tgs X.env).findIdx? (·.1) = none := by rfl) : GG X C κ (.Tuple tgs k pos) (gdTup n binds) κ' := by
  obtain ⟨gs, b1, b2⟩ := h
  refine ⟨_, pg_tup (n := n) hc b1 hn hst, fun d v σd σv H l Lo Q S R ns hok => ?_⟩
  cases d with
  | tup ds =>
    obtain ⟨a, vs, e, t, r⟩ := R
    have ns : (if ds.length = n then binds ds σd else none) ≠ none := ns
    have hok : ∀ σd', (if ds.length = n then binds ds σd else none) = some σd' → ∀ σv' l', SOk X.K C κ' σd' σv' H l' Lo → Go l H l' [] H → Q σv' H := hok
    by_cases hl : ds.length = n
    · rw [if_pos hl] at ns hok
      exact ⟨a, vs, e, t.sq, by rw [reps_len r]; exact hl, b2 ds vs σd σv H l Lo Q S r ns hok⟩
    · rw [if_neg hl] at ns
      exact absurd rfl ns
  | _ => exact absurd rfl ns
/-! lists, tuples, ranges -/
def idLst (da : Den) : IDen := fun σ => match da σ with
  | .ok (.lst xs) σ1 => .ok xs σ1
  | .exc x σ1 => .exc x σ1
  | _ => .stuck
def idTup (da : Den) : IDen := fun σ => match da σ with
  | .ok (.tup xs) σ1 => .ok xs σ1
  | .exc x σ1 => .exc x σ1
  | _ => .stuck
def idScr (da : Den) : IDen := fun σ => match da σ with
  | .ok (.scr ns) σ1 => .ok (ns.map .int) σ1
  | .exc x σ1 => .exc x σ1
  | _ => .stuck
theorem reps_at {K : PySem.W.Frag} {NT : List Str} {H : Hp} {ok : Addr → Prop} {xs : List D} {vs : List V} {i : Nat} {d : D} {x : V} (r : Reps K NT H ok xs vs) (e : xs[i]? = some d) (e2 : vs[i]? = some x) : Rep K NT H ok d x := by
  obtain ⟨v, e3, q⟩ := reps_get r e
  rw [e2] at e3
  cases e3
  exact q
theorem ii_lst (ha : EE X C κ a da .f κ' p) : II X C tg κ a (idLst da) κ' := by
  obtain ⟨t, h1, h2⟩ := ha
  refine ⟨_, pi_list h1, fun σd σv H l Lo R S ns hok hex => ?_⟩
  unfold idLst at ns
  refine h2 σd σv H l Lo _ S (fun z => ns (by rw [z])) (fun d σ1 e v H1 l1 lx S1 Rr nd g hp => ?_) (fun x σ1 e => hex x σ1 (by unfold idLst; rw [e]))
  rw [e] at ns
  obtain ⟨z0, Rr⟩ := Rr
  subst z0
  cases d with
  | lst xs =>
    obtain ⟨b, vs, ev, hs, hr⟩ := Rr
    have hb : okOf l1 Lo b := ⟨hs.1.1, fun z => hs.1.2 (.inl z)⟩
    refine ⟨b, ev, ⟨vs, hs.sq⟩, hok xs σ1 (by unfold idLst; rw [e]) _ H1 l1 S1.drop g ?_⟩
    refine ⟨_, _, by have w := walk_list (K := X.K) (a := b) (xs := vs); rw [reps_len hr] at w; exact w, fun H ok k => Or.inl (Or.inl (k b _ hs.2 hb).1), fun i H x H' ok d k ei y => ?_⟩
    obtain ⟨e1, e2⟩ := y
    subst e1
    have hr' := (hr.mono (kp_ok fun a o => (⟨o.1, fun z => o.2 (.inl z)⟩ : okOf l1 Lo a))).mono k
    exact ⟨[], Grow.refl H', (reps_at hr' ei e2).mono (kp_ok fun a o => .inl o)⟩
  | _ => exact absurd rfl ns
theorem ii_tup (ha : EE X C κ a da .f κ' p) : II X C tg κ a (idTup da) κ' := by
  obtain ⟨t, h1, h2⟩ := ha
  refine ⟨_, pi_tup h1, fun σd σv H l Lo R S ns hok hex => ?_⟩
  unfold idTup at ns
  refine h2 σd σv H l Lo _ S (fun z => ns (by rw [z])) (fun d σ1 e v H1 l1 lx S1 Rr nd g hp => ?_) (fun x σ1 e => hex x σ1 (by unfold idTup; rw [e]))
  rw [e] at ns
  obtain ⟨z0, Rr⟩ := Rr
  subst z0
  cases d with
  | tup xs =>
    obtain ⟨b, vs, ev, hs, hr⟩ := Rr
    have hb : ∀ a, okOf l1 (LoX Lo []) a → okOf l1 Lo a := fun a o => ⟨o.1, fun z => o.2 (.inl z)⟩
    refine ⟨b, ev, ⟨vs, hs.sq⟩, hok xs σ1 (by unfold idTup; rw [e]) _ H1 l1 S1.drop g ?_⟩
    refine ⟨_, _, by have w := walk_tup (K := X.K) (a := b) (xs := vs); rw [reps_len hr] at w; exact w, fun H ok k => ((hs.mono (kp_ok hb)).mono k).sq, fun i H x H' ok d k ei y => ?_⟩
    obtain ⟨e1, e2⟩ := y
    subst e1
    have hr' := (hr.mono (kp_ok hb)).mono k
    exact ⟨[], Grow.refl H', (reps_at hr' ei e2).mono (kp_ok fun a o => .inl o)⟩
  | _ => exact absurd rfl ns
theorem ii_scr (ha : EE X C κ a da .f κ' p) : II X C tg κ a (idScr da) κ' := by
  obtain ⟨t, h1, h2⟩ := ha
  refine ⟨_, pi_list h1, fun σd σv H l Lo R S ns hok hex => ?_⟩
  unfold idScr at ns
  refine h2 σd σv H l Lo _ S (fun z => ns (by rw [z])) (fun d σ1 e v H1 l1 lx S1 Rr nd g hp => ?_) (fun x σ1 e => hex x σ1 (by unfold idScr; rw [e]))
  rw [e] at ns
  obtain ⟨z0, Rr⟩ := Rr
  subst z0
  cases d with
  | scr is =>
    obtain ⟨b, ev, hs⟩ := Rr
    have hb : ∀ a, okOf l1 (LoX Lo []) a → okOf l1 Lo a := fun a o => ⟨o.1, fun z => o.2 (.inl z)⟩
    refine ⟨b, ev, ⟨_, hs.sq⟩, hok _ σ1 (by unfold idScr; rw [e]) _ H1 l1 S1.drop g ?_⟩
    refine ⟨_, _, by have w := walk_list (K := X.K) (a := b) (xs := is.map .int); rw [List.length_map] at w ⊢; exact w, fun H ok k => ((hs.mono (kp_ok hb)).mono k).sq, fun i H x H' ok d k ei y => ?_⟩
    obtain ⟨e1, e2⟩ := y
    subst e1
    rw [List.getElem?_map] at ei e2
    cases q : is[i]? with
    | none => rw [q] at ei; cases ei
    | some n =>
      rw [q] at ei e2
      cases ei
      cases e2
      exact ⟨[], Grow.refl H', rfl⟩
  | _ => exact absurd rfl ns
def rangeD (lo : Int) (n : Nat) : List D := (List.range n).map fun i => .int (lo + (i : Nat))
theorem rangeD_len (lo : Int) (n : Nat) : (rangeD lo n).length = n := by unfold rangeD; simp
def smallI (i : Int) : Bool := decide (-(2 ^ 62) ≤ i ∧ i < 2 ^ 62)
def idRng1 (das : ADen) : IDen := fun σ => match das σ with
  | .ok [.int j] σ1 => if smallI j then .ok (rangeD 0 j.toNat) σ1 else .stuck
  | .exc x σ1 => .exc x σ1
  | _ => .stuck
def idRng2 (das : ADen) : IDen := fun σ => match das σ with
  | .ok [.int i, .int j] σ1 => if smallI i && smallI j then .ok (rangeD i (j - i).toNat) σ1 else .stuck
  | .exc x σ1 => .exc x σ1
  | _ => .stuck
theorem itOk_range {K : PySem.W.Frag} {NT : List Str} {lo : Int} {n : Nat} {H0 : Hp} {ok0 : Addr → Prop} : ItOk K NT (Itr lo n) (rangeD lo n) H0 ok0 := by
  refine ⟨_, _, by rw [rangeD_len]; exact walk_range, fun _ _ _ => trivial, fun i H x H' ok d k ei y => ?_⟩
  obtain ⟨e1, e2⟩ := y
  subst e1
  unfold rangeD at ei
  rw [List.getElem?_map] at ei
  cases q : (List.range n)[i]? with
  | none => rw [q] at ei; cases ei
  | some m =>
    rw [q] at ei
    cases ei
    obtain ⟨h1, h2⟩ := List.getElem?_eq_some_iff.mp q
    rw [List.getElem_range] at h2
    subst h2
    exact ⟨[], Grow.refl H', e2⟩
theorem ii_range1 {q : Pos} (hg : Gl X "range") (hm : X.mg "range" = none) (ha : AE X C κ [a] das κ' p) : II X C tg κ (.Call (.Name "range" q) [a] [] pos) (idRng1 das) κ' := by
  obtain ⟨ts, h1, h2⟩ := ha
  cases h1 with
  | cons q1 q2 q3 =>
    refine ⟨_, pi_range1 hg hm (pa_cons q1 q3.pa q2) (by cases q3; exact q2), fun σd σv H l Lo R S ns hok hex => ?_⟩
    unfold idRng1 at ns
    refine h2 σd σv H l Lo _ S (fun z => ns (by rw [z])) (fun ds σ1 e vs H1 l1 S1 Rr g hp => ?_) (fun x σ1 e => hex x σ1 (by unfold idRng1; rw [e]))
    rw [e] at ns
    match ds, Rr with
    | [.int j], Rr =>
      have ns : (if smallI j then Rz.ok (rangeD 0 j.toNat) σ1 else Rz.stuck) ≠ .stuck := ns
      obtain ⟨v, rfl, r⟩ := c1 Rr
      by_cases hs : smallI j = true
      · obtain ⟨s1, s2⟩ := of_decide_eq_true hs
        exact ⟨j, by rw [show v = .int j from r], s1, s2, hok _ σ1 (by unfold idRng1; rw [e]; dsimp only; rw [if_pos hs]) _ H1 l1 S1 g itOk_range⟩
      · rw [if_neg hs] at ns
        exact absurd rfl ns
    | [], _ => exact absurd rfl ns
    | [.non], _ => exact absurd rfl ns
    | [.bl _], _ => exact absurd rfl ns
    | [.str _], _ => exact absurd rfl ns
    | [.ty _], _ => exact absurd rfl ns
    | [.glo _], _ => exact absurd rfl ns
    | [.tup _], _ => exact absurd rfl ns
    | [.lst _], _ => exact absurd rfl ns
    | [.scr _], _ => exact absurd rfl ns
    | [.dk _], _ => exact absurd rfl ns
    | [.dt _], _ => exact absurd rfl ns
    | [.obj _ _], _ => exact absurd rfl ns
    | [.exc _ _], _ => exact absurd rfl ns
    | .int _ :: _ :: _, _ => exact absurd rfl ns
    | .non :: _ :: _, _ => exact absurd rfl ns
    | .bl _ :: _ :: _, _ => exact absurd rfl ns
    | .str _ :: _ :: _, _ => exact absurd rfl ns
    | .ty _ :: _ :: _, _ => exact absurd rfl ns
    | .glo _ :: _ :: _, _ => exact absurd rfl ns
    | .tup _ :: _ :: _, _ => exact absurd rfl ns
    | .lst _ :: _ :: _, _ => exact absurd rfl ns
    | .scr _ :: _ :: _, _ => exact absurd rfl ns
    | .dk _ :: _ :: _, _ => exact absurd rfl ns
    | .dt _ :: _ :: _, _ => exact absurd rfl ns
    | .obj _ _ :: _ :: _, _ => exact absurd rfl ns
    | .exc _ _ :: _ :: _, _ => exact absurd rfl ns
theorem two_ints {ds : List D} : (∃ i j, ds = [.int i, .int j]) ∨ ∀ (α : Type) (f : Int → Int → α) (g : α), (match ds with | [.int i, .int j] => f i j | _ => g) = g := by
  by_cases h : ∃ i j, ds = [.int i, .int j]
  · exact .inl h
  · refine .inr fun α f g => ?_
    split
    · exact absurd ⟨_, _, rfl⟩ h
    · rfl
theorem ii_range2 {b : Expr} {q : Pos} (hg : Gl X "range") (hm : X.mg "range" = none) (ha : AE X C κ [a, b] das κ' p) : II X C tg κ (.Call (.Name "range" q) [a, b] [] pos) (idRng2 das) κ' := by
  obtain ⟨ts, h1, h2⟩ := ha
  cases h1 with
  | cons q1 q2 q3 =>
    cases q3 with
    | cons q4 q5 q6 =>
      refine ⟨_, pi_range2 hg hm (pa_cons q1 (pa_cons q4 q6.pa q5) q2) (by cases q6; rw [q2, q5]; rfl) (by cases q6; exact q5), fun σd σv H l Lo R S ns hok hex => ?_⟩
      refine h2 σd σv H l Lo _ S (fun z => ns (by unfold idRng2; rw [z])) (fun ds σ1 e vs H1 l1 S1 Rr g hp => ?_) (fun x σ1 e => hex x σ1 (by unfold idRng2; rw [e]))
      by_cases hd : ∃ i j, ds = [.int i, .int j]
      · obtain ⟨i, j, rfl⟩ := hd
        obtain ⟨v, w, rfl, r1, r2⟩ := c2 Rr
        by_cases hs : (smallI i && smallI j) = true
        · obtain ⟨h3, h4⟩ := Bool.and_eq_true_iff.mp hs
          obtain ⟨s1, s2⟩ := of_decide_eq_true h3
          obtain ⟨s3, s4⟩ := of_decide_eq_true h4
          exact ⟨i, j, by rw [show v = .int i from r1, show w = .int j from r2], ⟨s1, s2, s3, s4⟩, hok _ σ1 (by unfold idRng2; rw [e]; dsimp only; rw [if_pos hs]) _ H1 l1 S1 g itOk_range⟩
        · exact absurd (by unfold idRng2; rw [e]; dsimp only; rw [if_neg hs]) ns
      · refine absurd ?_ ns
        unfold idRng2
        rw [e]
        split
        · rename_i z
          cases z
          exact absurd ⟨_, _, rfl⟩ hd
        · rename_i z; cases z
        · rfl
/-! ### for -/
def loopD (bind : GDen) (body : SDen) : List D → SDen
  | [], σ => .nx σ
  | d :: ds, σ => match bind d σ with
    | none => .stuck
    | some σ1 => (match body σ1 with
      | .nx σ2 => loopD bind body ds σ2
      | .ct σ2 => loopD bind body ds σ2
      | .brk σ2 => .nx σ2
      | r => r)
def sFor (iden : IDen) (bind : GDen) (body : SDen) : SDen := fun σ => match iden σ with
  | .ok items σ1 => loopD bind body items σ1
  | .exc x σ1 => .exc x σ1
  | .stuck => .stuck
theorem sim_for {K : PySem.W.Frag} {wi : TI} {g : TG} {tb : TS} {iden : IDen} {body : SDen} (hi : SimI K C κ wi iden κ1) (w1 : wkB κ1 κL = true) (hg : SimG K C κL g bind κg) (hb : SimS K C κg tb body κ2 κL rs) (w2 : wkB κ2 κL = true) : SimS K C κ (tFor wi g tb) (sFor iden bind body) κL κb rs := fun σd σv H l Lo E S ns hn hbk hct hr hx => by
  unfold sFor at ns
  refine hi σd σv H l Lo _ S (fun z => ns (by rw [z])) (fun items σ1 e J H1 l1 S1 g1 it => ?_) (fun x σ1 e c dd H' l' => hx x σ1 (by unfold sFor; rw [e]) c dd σv H' l')
  rw [e] at ns
  dsimp only at ns
  have eqF : sFor iden bind body σd = loopD bind body items σ1 := by unfold sFor; rw [e]
  obtain ⟨S1, gw⟩ := S1.weak (wk_of w1)
  obtain ⟨G, Y, W, hG, hY⟩ := it
  refine for_it W (fun i σv' H' => ∃ σ' l', SOk K C κL σ' σv' H' l' Lo ∧ Go (wkOwn κ1 κL l1) H1 l' [] H' ∧ loopD bind body (items.drop i) σ' = loopD bind body items σ1) ⟨σ1, _, S1, Go.refl _ _, rfl⟩ (fun i σv' H' _ ⟨σ', l', S', g', _⟩ => hG H' (okOf l' Lo) fun a u ea o => (gw.trans g').kp a u ea o) (fun i x σv' H' H'' hi ⟨σ', l', S', g', eq'⟩ y => ?_) (fun σv' H' ⟨σ', l', S', g', eq'⟩ => ?_)
  · obtain ⟨d, ed⟩ : ∃ d, items[i]? = some d := ⟨items[i], by simp [hi]⟩
    have kp : Kp H1 H' (okOf l1 Lo) (okOf l' Lo) := (gw.trans g').kp
    obtain ⟨lx, gr, R⟩ := hY i H' x H'' (okOf l' Lo) d kp ed y
    have S2 := (S'.grow gr)
    have g2 := gr.go S'
    have R2 : Rep K C.NT H'' (okOf l' Lo) d x := R.mono (kp_ok fun a o => o.elim id fun m => ⟨fun j z => S2.lo j a z (.inr m), fun z => g2.newLo S' a m z⟩)
    have edr : items.drop i = d :: items.drop (i + 1) := by
      have hi' : i < items.length := hi
      rw [List.drop_eq_getElem_cons hi']
      have : items[i] = d := by
        have := ed
        rw [List.getElem?_eq_getElem hi'] at this
        exact Option.some.inj this
      rw [this]
    rw [edr] at eq'
    have ns2 : loopD bind body (d :: items.drop (i + 1)) σ' ≠ .stuck := by rw [eq']; exact ns
    refine hg d x σ' σv' H'' l' Lo _ S2.drop R2 (fun z => ns2 (by unfold loopD; rw [z])) fun σ3 e3 σv3 l3 S3 g3 => ?_
    have eq3 : loopD bind body (d :: items.drop (i + 1)) σ' = (match body σ3 with
      | .nx σ2 => loopD bind body (items.drop (i + 1)) σ2
      | .ct σ2 => loopD bind body (items.drop (i + 1)) σ2
      | .brk σ2 => .nx σ2
      | r => r) := by
      conv => lhs; unfold loopD
      rw [e3]
    rw [eq3] at eq' ns2
    have gg : Go l H l3 [] H'' := (g1.trans (gw.trans (g'.trans (g2.drop.trans g3))))
    have gl : Go (wkOwn κ1 κL l1) H1 l3 [] H'' := g'.trans (g2.drop.trans g3)
    refine hb σ3 σv3 H'' l3 Lo _ S3 (fun z => ns2 (by rw [z])) (fun σ4 e4 σv4 H4 l4 S4 g4 => ?_) (fun σ4 e4 σv4 H4 l4 S4 g4 => ?_) (fun σ4 e4 σv4 H4 l4 S4 g4 => ?_) (fun dd σ4 e4 v σv4 H4 l4 lx4 S4 R4 nd4 g4 => ?_) (fun xx σ4 e4 c dd σv4 H4 l4 S4 R4 g4 => ?_)
    · rw [e4] at eq'
      obtain ⟨S5, g5⟩ := S4.weak (wk_of w2)
      exact ⟨σ4, _, S5, gl.trans (g4.trans g5), eq'⟩
    · rw [e4] at eq'
      exact hn σ4 (by rw [eqF]; exact eq'.symm) σv4 H4 l4 S4 (gg.trans g4)
    · rw [e4] at eq'
      exact ⟨σ4, _, S4, gl.trans g4, eq'⟩
    · rw [e4] at eq'
      exact hr dd σ4 (by rw [eqF]; exact eq'.symm) v σv4 H4 l4 lx4 S4 R4 nd4 (gg.trans g4)
    · rw [e4] at eq'
      exact hx xx σ4 (by rw [eqF]; exact eq'.symm) c dd σv4 H4 l4 S4 R4 (gg.trans g4)
  · rw [List.drop_length] at eq'
    exact hn σ' (by rw [eqF]; exact eq'.symm) σv' H' l' S' (g1.trans (gw.trans g'))
theorem ss_for {iter : Expr} {body : List Stmt} {iden : IDen} {sd : SDen} (hp : PassesOwn (model X.prog X.w) X.A X.env X.xe) (hc : X.calm = true) (hi : II X C tg κ iter iden κ1) (hg : GG X C κL tg bind κg) (hb : SSs X C κg body sd κ2 κL rs) (w1 : wkB κ1 κL = true := by rfl) (w2 : wkB κ2 κL = true := by rfl)
    (hs : ∀ x, foldedSetIterable iter X.env x = pure x := by intro _; rfl) : SS X C κ (.For tg iter body [] pos) (sFor iden bind sd) κL κb rs := by
  obtain ⟨wi, a1, a2⟩ := hi
  obtain ⟨g, b1, b2⟩ := hg
  obtain ⟨tb, c1, c2⟩ := hb
  exact ⟨_, ps_for hp hc a1 b1 c1 hs, sim_for a2 w1 b2 c2 w2⟩
/-! ### while -/
def whileD (bd : BDen) (body : SDen) : Nat → SDen
  | 0, _ => .stuck
  | n + 1, σ => match bd σ with
    | .ok true σ1 => (match body σ1 with
      | .nx σ2 => whileD bd body n σ2
      | .ct σ2 => whileD bd body n σ2
      | .brk σ2 => .nx σ2
      | r => r)
    | .ok false σ1 => .nx σ1
    | .exc x σ1 => .exc x σ1
    | .stuck => .stuck
theorem sim_while {K : PySem.W.Frag} {tt : TT} {tb : TS} {bd : BDen} {body : SDen} (n : Nat) (h : SimB K C κL tt bd κL) (hb : SimS K C κL tb body κ2 κL rs) (w2 : wkB κ2 κL = true) : SimS K C κL (tWhile tt tb) (whileD bd body n) κL κb rs := fun σd σv H l Lo E S ns hn hbk hct hr hx => by
  refine ⟨fun m σv' H' => ∃ σ' l', SOk K C κL σ' σv' H' l' Lo ∧ Go l H l' [] H' ∧ whileD bd body m σ' = whileD bd body n σd, ⟨n, σd, l, S, Go.refl _ _, rfl⟩, fun m σv' H' ⟨σ', l', S', g', eq'⟩ => ?_⟩
  cases m with
  | zero => exact absurd eq'.symm ns
  | succ m =>
    have ns2 : whileD bd body (m + 1) σ' ≠ .stuck := by rw [eq']; exact ns
    refine h σ' σv' H' l' Lo _ S' (fun z => ns2 (by unfold whileD; rw [z])) (fun b σ1 e H1 l1 S1 g1 => ?_) (fun x σ1 e c dd H2 l2 S2 R2 g2 => hx x σ1 (by rw [← eq']; unfold whileD; rw [e]) c dd σv' H2 l2 S2 R2 (g'.trans g2))
    cases b with
    | false =>
      refine iteF ?_
      exact hn σ1 (by rw [← eq']; unfold whileD; rw [e]) σv' H1 l1 S1 (g'.trans g1)
    | true =>
      refine iteT ?_
      have eq3 : whileD bd body (m + 1) σ' = (match body σ1 with
        | .nx σ2 => whileD bd body m σ2
        | .ct σ2 => whileD bd body m σ2
        | .brk σ2 => .nx σ2
        | r => r) := by
        conv => lhs; unfold whileD
        rw [e]
      rw [eq3] at eq' ns2
      refine ⟨fun σv4 H4 => ∃ σ4 l4, SOk K C κL σ4 σv4 H4 l4 Lo ∧ Go l H l4 [] H4 ∧ whileD bd body m σ4 = whileD bd body n σd, fun σv4 H4 q => ⟨m, Nat.lt_succ_self m, q⟩, ?_⟩
      refine hb σ1 σv' H1 l1 Lo _ S1 (fun z => ns2 (by rw [z])) (fun σ4 e4 σv4 H4 l4 S4 g4 => ?_) (fun σ4 e4 σv4 H4 l4 S4 g4 => ?_) (fun σ4 e4 σv4 H4 l4 S4 g4 => ?_) (fun dd σ4 e4 v σv4 H4 l4 lx4 S4 R4 nd4 g4 => ?_) (fun xx σ4 e4 c dd σv4 H4 l4 S4 R4 g4 => ?_)
      · rw [e4] at eq'
        obtain ⟨S5, g5⟩ := S4.weak (wk_of w2)
        exact ⟨σ4, _, S5, g'.trans (g1.trans (g4.trans g5)), eq'⟩
      · rw [e4] at eq'
        exact hn σ4 eq'.symm σv4 H4 l4 S4 (g'.trans (g1.trans g4))
      · rw [e4] at eq'
        exact ⟨σ4, _, S4, g'.trans (g1.trans g4), eq'⟩
      · rw [e4] at eq'
        exact hr dd σ4 eq'.symm v σv4 H4 l4 lx4 S4 R4 nd4 (g'.trans (g1.trans g4))
      · rw [e4] at eq'
        exact hx xx σ4 eq'.symm c dd σv4 H4 l4 S4 R4 (g'.trans (g1.trans g4))
theorem ss_while {c : Expr} {body : List Stmt} {bd : BDen} {sd : SDen} (n : Nat) (hp : PassesOwn (model X.prog X.w) X.A X.env X.xe) (h : BB X C κL c bd κL) (hb : SSs X C κL body sd κ2 κL rs) (w2 : wkB κ2 κL = true := by rfl) : SS X C κL (.While c body [] pos) (whileD bd sd n) κL κb rs := by
  obtain ⟨t, a1, a2⟩ := h
  obtain ⟨tb, c1, c2⟩ := hb
  exact ⟨_, ps_while hp a1 c1, sim_while n a2 c2 w2⟩
end
end Pt
set_option maxRecDepth 100000
set_option maxHeartbeats 1000000
/-! an own error whose __init__ says super().__init__('..') and keeps its parameters -/
namespace PtE
open PySem PySem.W PySem.Calls PyProof.Rows

inductive ErrFld : List Str → List Stmt → Prop where
  | nil : ErrFld [] []
  | cons {f : Str} {fs : List Str} {ss : List Stmt} (q1 q2 q3 q4 : Pos) : ErrFld fs ss → ErrFld (f :: fs) (.Assign [.Attribute (.Name "self" q1) f q2] (.Name f q3) q4 :: ss)
/-- what is known of an error's class and of its __init__ -/
structure ErrTxt (prog : Program) (K : Frag) (C : Addr) (fs : List Str) : Prop where
  q : excInitIn K C [.type "ValueError", .type "Exception", .type "BaseException", .type "object"] "ValueError.__new__" = true
  cd : ∃ cd, clsIn K C = some cd ∧ PX.refsVE cd.mro = true ∧ cd.hasDict = true
  sa : findIn K (.ref C) "__setattr__" = some (some (.builtin "object.__setattr__"))
  ga : findIn K (.ref C) "__getattribute__" = some (some (.builtin "BaseException.__getattribute__"))
  gg : findIn K (.ref C) "__getattr__" = some none
  noN : ∀ f ∈ fs, findIn K (.ref C) f = some none
  kC : keepIn K (.ref C) = true
  exC : subIn K (.ref C) (.type "BaseException") = some true
  veC : subIn K (.ref C) (.type "ValueError") = some true
  tyC : typeIn K (.ref C) = some (.type "type")
  hdC : hasDictIn K C = true
  tp : nsIn K cStatics "thirdparty.any" = some none
  sup : nsIn K mainGlobals "super" = some none
  nd : (("self" : Str) :: fs).Nodup
  few : fs.length ≤ 100
  dbg : ∀ f ∈ fs, (f == ("__debug__" : Str)) = false
  ini : ∃ (fI D cda cc : Addr) (cdD : ClassData) (name qual : Str) (params : Arguments) (scope : Scope) (doc pm ct oc ccl cl : Value) (an od cdd cld : Option Addr) (osl ccs csl : Array (Option Value)) (vs : Array Value) (file : Str) (tf : Tok) (p0 p1 p2 p3 p4 p5 : Pos) (txt : Str) (k : Nat) (ss : List Stmt) (ar : Arg),
    findIn K (.ref C) "__init__" = some (some (.ref fI)) ∧ isFn K (.ref fI) = true ∧
    K.lookup fI = some ⟨oc, od, .func (ksFn name qual params (.Expr (.Call (.Attribute (.Call (.Name "super" p0) [] [] p1) "__init__" p2) [.Constant (.str txt) k p3] [] p4) p5 :: ss) scope .none .none doc pm an (.ref cda) ct cc), osl⟩ ∧
    codeIn K (.ref cda) qual = true ∧ K.lookup cda = some ⟨ccl, cdd, .fields vs, ccs⟩ ∧ vs[2]? = some (.str file tf) ∧ ((prog.main.file : Str) == file) = true ∧
    K.lookup cc = some ⟨cl, cld, .cell (some (.ref D)), csl⟩ ∧ clsIn K D = some cdD ∧ mroIn K C (.ref D) = some true ∧ ks_superIn K C D "__init__" = some (some (.builtin "ValueError.__init__")) ∧
    (p2.endLine == p4.line) = true ∧ ErrFld fs ss ∧ scope.names.lookup ("super" : Str) = some .globalImplicit ∧ scope.names.lookup ("__class__" : Str) = some .free ∧ (∀ f ∈ ("self" : Str) :: fs, scope.names.lookup f = some .local) ∧ (∀ x ∈ scope.names, x.2 ≠ .cell) ∧
    scope.kind = .function ∧ scope.isCoroutine = false ∧ scope.isGenerator = false ∧ (params.posonlyargs ++ params.args).head? = some ar ∧ ar.arg = "self" ∧
    (∀ us : List Value, us.length = fs.length + 1 → bindArgs (ksFn name qual params (.Expr (.Call (.Attribute (.Call (.Name "super" p0) [] [] p1) "__init__" p2) [.Constant (.str txt) k p3] [] p4) p5 :: ss) scope .none .none doc pm an (.ref cda) ct cc) ⟨us, []⟩ = pure ((("self" : Str) :: fs).zip us))
  top : (prog.main.scope.names.lookup ("super" : Str)).isSome = false

/-- what is stored: of fs and vs -/
def fldM (fs : List Str) (us : List Value) (y : Str) : Option Value := (fs.zip us).lookup y
structure InitEnd (h h' : Heap) (x C dx t1 : Addr) (fs : List Str) (us : List Value) : Prop where
  keep : ∀ b o, b ≠ x → h.get? b = some o → h'.get? b = some o
  obj : h'.get? x = some { cls := .ref C, dict := some dx, data := .fields #[.ref t1, .none, .none, .none, .bool false, .none] }
  dbig : h.objs.size ≤ dx
  dne : dx ≠ x
  ns : ∃ m, h'.Ns1 dx m ∧ ∀ y, m y = fldM fs us y
structure OwnMade (h h' : Heap) (e C d : Addr) (fs : List Str) (us : List Value) : Prop where
  keep : ∀ b o, h.get? b = some o → h'.get? b = some o
  new : h.objs.size ≤ e
  obj : ∃ oe vs, h'.get? e = some oe ∧ oe.cls = .ref C ∧ oe.dict = some d ∧ oe.data = .fields vs ∧ vs[1]? = some .none
  dbig : h.objs.size ≤ d
  dne : d ≠ e
  ns : ∃ m, h'.Ns1 d m ∧ ∀ y, m y = fldM fs us y
section
variable {prog : Program} {w : World} {A : Around} {E : Value → Shared → Prop} {h : Heap} {g : Array GenState} {d : Drawn} {t : Nat} {os : OsState} {K : Frag} {C : Addr} {fs : List Str}
/-- the bound ValueError.__init__ called -/
theorem call_mw {u e t0 : Addr} {rest : List Value} {Q : Value → Shared → Prop} (X : K.In h) (q : excInitIn K C [.type "ValueError", .type "Exception", .type "BaseException", .type "object"] "ValueError.__new__" = true)
    (he : h.get? e = some (HandSPX.excO C t0)) (hu : h.get? u = some (kxs_mw "ValueError.__init__" e)) (hz : rest.length ≤ sizeLine)
    (hq : ∀ h' t1, (∀ b o, b ≠ e → h.get? b = some o → h'.get? b = some o) → h'.get? e = some (HandSPX.excO C t1) → h.objs.size ≤ h'.objs.size → Q .none ⟨h', g, d, t, os⟩) :
    wpAny (model prog w) A (call (.ref u) rest) Q E ⟨h, g, d, t, os⟩ := by
  obtain ⟨nm, N', qn, bs, bm, hdct, sn, sub, ab, col, dd, k0, k1, k2, k3, k5, hC, hT⟩ := excInit_of X q
  have FB := F.excBase_ValueError
  refine wpAny_call (codeAny_of_tree ?_)
  show wpAny _ A.in1 (callAny (.ref u) ⟨rest, []⟩) _ _ _
  simp only [callAny]
  refine wpAny_bind (wpAny_load hu ?_)
  simp only [kxs_mw, show (Value.type "method-wrapper" == Value.type "method" || Value.type "method-wrapper" == Value.type "builtin_function_or_method" || Value.type "method-wrapper" == Value.type "method-wrapper") = true by decide, if_true]
  refine KFB.if_so (by decide) ?_
  refine wpAny_bind (check_bound_init FB.toExcCallFacts hC he rfl ?_)
  refine wpAny_bind (wpAny_pure (wpAny_pure ?_))
  refine ⟨plainId_quiet FB.init.plain _, codeAny_builtin FB.initEntry ?_⟩
  refine exc_init_tree (cls := .ref C) (t0 := t0) (dv := none) (c2 := .none) (c3 := .none) (b4 := .bool false) he hz fun h' k1 k2 k3 => ?_
  exact hq h' _ k1 k2 (Nat.le_of_lt (Heap.lt_size k3))

theorem fldM_nil (us : List Value) (y : Str) : fldM [] us y = none := by unfold fldM; simp
theorem lookup_snoc {α : Type} (y f : Str) (v : α) : ∀ (l : List (Str × α)), (∀ u, (f, u) ∉ l) → (l ++ [(f, v)]).lookup y = if y = f then some v else l.lookup y
  | [], _ => by
    by_cases q : y = f
    · subst q; simp [List.lookup]
    · have : (y == f) = false := by simpa using q
      simp [List.lookup, this, q]
  | (a, b) :: r, h => by
    have ih := lookup_snoc y f v r fun u m => h u (List.mem_cons_of_mem _ m)
    show List.lookup y ((a, b) :: (r ++ [(f, v)])) = _
    rw [List.lookup_cons, List.lookup_cons, ih]
    by_cases q : y = a
    · subst q
      have : y ≠ f := by rintro rfl; exact h b List.mem_cons_self
      simp [this]
    · have : (y == a) = false := by simpa using q
      simp [this]
theorem lookup_nodup {α : Type} {f : Str} {u : α} : ∀ {l : List (Str × α)}, (l.map (·.1)).Nodup → (f, u) ∈ l → l.lookup f = some u
  | (a, b) :: r, nd, m => by
    rw [List.lookup_cons]
    rw [List.map_cons, List.nodup_cons] at nd
    rcases List.mem_cons.mp m with e | m
    · cases e; simp
    · have : f ≠ a := fun z => nd.1 (z ▸ List.mem_map_of_mem (f := (·.1)) m)
      have q : (f == a) = false := by simpa using this
      rw [q]
      exact lookup_nodup nd.2 m
theorem ns_but {h h' : Heap} {L dx : Addr} {m : Str → Option Value} (hn : h.Ns L m) (k : ∀ b o, b ≠ dx → h.get? b = some o → h'.get? b = some o) (n : L ≠ dx) : h'.Ns L m := by
  obtain ⟨o, es, ep, e, r⟩ := hn
  exact ⟨o, es, ep, k _ _ n e, r⟩
/-- the further fields: the dict is there -/
theorem err_more {env : Env} {E : Value → Shared → Prop} {x dx L : Addr} {fv : Array Value} {m : Str → Option Value} (hen : env.locals = L) (hkind : env.scope.kind = .function) {cd : ClassData} (hcd : clsIn K C = some cd) (hm : PX.refsVE cd.mro = true) (hh : cd.hasDict = true) (hsa : findIn K (.ref C) "__setattr__" = some (some (.builtin "object.__setattr__"))) (hnx : K.lookup dx = none) (hnL : L ≠ dx)
    (hself : env.kindOf "self" = some .local) (ms : m "self" = some (.ref x)) : ∀ (fs2 : List Str) (ss : List Stmt) (us2 : List Value) (done : List (Str × Value)) (s : Shared), ErrFld fs2 ss → fs2.length = us2.length → done.length + fs2.length ≤ 900 →
    (∀ f ∈ fs2, findIn K (.ref C) f = some none ∧ env.kindOf f = some .local ∧ (f == ("__debug__" : Str)) = false) → (∀ (i : Nat) (f : Str) (u : Value), fs2[i]? = some f → us2[i]? = some u → m f = some u) → (done.map (·.1) ++ fs2).Nodup → K.In s.heap → s.heap.Ns L m → s.heap.get? x = some { cls := .ref C, dict := some dx, data := .fields fv } →
    (∃ mm, s.heap.Ns1 dx mm ∧ ∀ y, mm y = done.lookup y) →
    wpAny (model prog w) A (execs ss env) (fun fl s' => fl = .next ∧ ∃ h' tk, s' = { s with heap := h', toks := tk } ∧ (∀ b o, b ≠ dx → s.heap.get? b = some o → h'.get? b = some o) ∧ ∃ mm, h'.Ns1 dx mm ∧ ∀ y, mm y = (done ++ fs2.zip us2).lookup y) E s := by
  intro fs2
  induction fs2 with
  | nil =>
    intro ss us2 done s e hl _ _ _ _ X hn hx hd
    cases e
    refine wpAny_execs_nil ⟨rfl, s.heap, s.toks, rfl, fun b o _ e => e, ?_⟩
    simpa using hd
  | cons f fs2 ih =>
    intro ss us2 done s e hl hz hf hu hnd X hn hx hd
    cases e with
    | cons q1 q2 q3 q4 e =>
      cases us2 with
      | nil => cases hl
      | cons u us2 =>
        obtain ⟨n1, n2, n3⟩ := hf f List.mem_cons_self
        have hv : m f = some u := hu 0 f u rfl rfl
        obtain ⟨mm, hns, hmm⟩ := hd
        have hfd : ∀ u, (f, u) ∉ done := fun u hm => by
          have := (List.nodup_append.mp hnd).2.2 f (List.mem_map_of_mem (f := (·.1)) hm) f List.mem_cons_self
          exact this rfl
        have hw : Within mm (done.map (·.1)) := fun y hy => by
          rw [hmm] at hy
          cases q : done.lookup y with
          | none => exact absurd q hy
          | some z => exact List.mem_map_of_mem (f := (·.1)) (PySem.mem_of_lookup q)
        have hen' : s.heap.Ns env.locals m := by rw [hen]; exact hn
        refine wpAny_execs_cons (plainObj_wpAny_Assign_Attribute ?_ (by rfl))
        refine wpAny_Name (wpAny_loadName_local hkind n2 hen' hv ?_) n3
        refine wpAny_Name (wpAny_loadName_local hkind hself hen' ms ?_) (by decide)
        have hxx := hx
        obtain ⟨oD, esD, epD, hoD, hdD, _⟩ := hns.count hw
        refine set_plain X (ox := { cls := .ref C, dict := some dx, data := .fields fv }) (od := some oD) ⟨hx, rfl, rfl, hoD⟩ hsa ?_
        obtain ⟨hp, g, d, t, os⟩ := s
        refine PX.osa_old X hx hns hw (by rw [List.length_map]; omega) hcd hm hh n1 fun h2 tk2 k2 hn2 => ?_
        show wpAny _ _ (execs _ _) _ _ _
        have xdx : x ≠ dx := fun z => by
          rw [z] at hx
          rw [hoD] at hx
          cases hx
          cases hdD
        refine wpAny_mono (ih _ us2 (done ++ [(f, u)]) ⟨h2, g, d, tk2, os⟩ e (by simpa using hl) (by simp; simp at hz; omega) (fun f' m' => hf f' (List.mem_cons_of_mem _ m')) (fun i f' u' a b => hu (i + 1) f' u' a b) (by simpa using hnd)
          (fun a o ea => k2 a o (fun z => by rw [z, hnx] at ea; cases ea) (X a o ea)) (ns_but hn k2 hnL) (k2 _ _ xdx hx) ⟨_, hn2, fun y => ?_⟩) (fun fl s' hq => ?_) fun _ _ z => z
        · rw [lookup_snoc y f u done hfd, hmm]
        · obtain ⟨r1, h3, tk3, r2, r3, mm3, r4, r5⟩ := hq
          refine ⟨r1, h3, tk3, r2, fun b o hb eb => r3 b o hb (k2 b o hb eb), mm3, r4, fun y => ?_⟩
          rw [r5, List.append_assoc]
          rfl

theorem super_call {env : Env} {p0 p1 p2 p3 p4 : Pos} {txt : Str} {k : Nat} (hlin : (p2.endLine == p4.line) = true) :
    eval (.Call (.Attribute (.Call (.Name "super" p0) [] [] p1) "__init__" p2) [.Constant (.str txt) k p3] [] p4) env = (do
      let ov ← attributeBase (.Call (.Name "super" p0) [] [] p1) "__init__" env (eval (.Call (.Name "super" p0) [] [] p1) env)
      standAt p2.atName
      let (f, first) ← holding [ov] (getMethod ov "__init__" (do return (← importBound (.Call (.Name "super" p0) [] [] p1) env).getD true))
      callWith p4 f first (backTo p4 (starEach [.Constant (.str txt) k p3] env)) []) := by
  rw [arm_eval_Call]
  have e : methodCallForm ([Expr.Constant (.str txt) k p3].length + ([] : List Keyword).length) (backTo p4 (starEach [.Constant (.str txt) k p3] env)) (backToKw p4 (keywordEach [] env)) = true := rfl
  unfold methodCall methodCallPos calleeOf
  rw [e]
  simp only [hlin, Bool.or_true, if_true, pure_bind]
  rfl
theorem err_init (T : ErrTxt prog K C fs) {s : Shared} {R : Result → Shared → Prop} {fI : Addr} (hfI : findIn K (.ref C) "__init__" = some (some (.ref fI))) {x t0 : Addr} {us : List Value} {mg mb : Str → Option Value} (X : K.In s.heap) (hlim : s.heap.NoLimit)
    (hg : s.heap.Ns mainGlobals mg) (hb : s.heap.Ns builtinsNs mb) (hmb : mb "super" = some (.type "super")) (hx : s.heap.get? x = some (HandSPX.excO C t0)) (hnx : K.lookup x = none) (hroom : A.depth < recursionLimit) (hl : us.length = fs.length) (hne : fs ≠ [])
    (hq : ∀ h' tk dx t1, InitEnd s.heap h' x C dx t1 fs us → R (.ok (.ret .none)) { s with heap := h', toks := tk }) :
    codeAny (model prog w) A (.call (.ref fI) ⟨.ref x :: us, []⟩) R s := by
  obtain ⟨fI', D, cda, cc, cdD, name, qual, params, scope, doc, pm, ct, oc, ccl, cl, an, od, cdd, cld, osl, ccs, csl, vs, file, tf, p0, p1, p2, p3, p4, p5, txt, k, ss, ar, hi, hfn, ho, hcd, hcode, hvs, hfile, hcell, hD, hsub, hsup, hlin, hss, ns, nc, nl, ncell, hk, hco, hgen, hpar, har, hbind⟩ := T.ini
  rw [hfI] at hi
  cases hi
  obtain ⟨cdC, hcC, hve, hhd⟩ := T.cd
  have hll : (Value.ref x :: us).length = fs.length + 1 := by simp [hl]
  have hlook : ∀ y ∈ (("self" : Str) :: fs).zip (Value.ref x :: us), scope.names.lookup y.1 = some .local := fun y hy => nl _ (List.of_mem_zip hy).1
  have ndr : ∀ (i : Nat) (f : Str) (u : Value), (("self" : Str) :: fs)[i]? = some f → (Value.ref x :: us)[i]? = some u → ((("self" : Str) :: fs).zip (Value.ref x :: us)).reverse.lookup f = some u := fun i f u a b => by
    have hm : (f, u) ∈ ((("self" : Str) :: fs).zip (Value.ref x :: us)).reverse := by
      rw [List.mem_reverse]
      refine List.mem_of_getElem? (i := i) ?_
      rw [List.getElem?_zip_eq_some]
      exact ⟨a, b⟩
    have hnd : (((("self" : Str) :: fs).zip (Value.ref x :: us)).reverse.map (·.1)).Nodup := by
      rw [List.map_reverse]
      refine (List.reverse_perm _).nodup_iff.mpr ?_
      rw [List.map_fst_zip (by simp [hl])]
      exact T.nd
    exact lookup_nodup hnd hm
  refine ks_codeAny_call_defAt (fd := ksFn name qual params _ scope .none .none doc pm an (.ref cda) ct cc) (binds := (("self" : Str) :: fs).zip (Value.ref x :: us)) hroom (X _ _ ho) rfl hlim (codeRec_of X hcd) rfl (BindsTo.of_eq (hbind _ hll)) ncell hlook (fun h₁ hns hk₁ => ?_) hco hgen hk
  have X₁ : K.In h₁ := X.keeps hk₁
  have hx₁ := hk₁ _ _ hx
  have hslf : ((("self" : Str) :: fs).zip (Value.ref x :: us)).reverse.lookup ("self" : Str) = some (.ref x) := ndr 0 _ _ rfl rfl
  obtain ⟨oD, hD1, hD2⟩ : ∃ oD, h₁.get? D = some oD ∧ oD.data = .cls cdD := by
    unfold clsIn at hD
    split at hD
    · rename_i c d cd' sl ho
      cases hD
      exact ⟨_, X₁ _ _ ho, rfl⟩
    · cases hD
  have xnC : x ≠ C := fun z => by
    unfold clsIn at hcC
    rw [← z, hnx] at hcC
    cases hcC
  have xnL : s.heap.objs.size ≠ x := Nat.ne_of_gt (Heap.lt_size hx)
  refine ks_wpAt_execs_cons (ks_wpAt_Expr_any (ks_wpAt_MethodCall ?_ (super_call hlin)) (by unfold interactive; rw [show (callEnv (ksFn name qual params _ scope .none .none doc pm an (.ref cda) ct cc) s.heap.objs.size fI).scope.kind = .function from hk]; rfl) (by rfl))
  refine ks_wpAt_super_base (env := ksEnv qual scope s.heap.objs.size fI (.ref cda) cc) ns nc (by decide) rfl (X₁ _ _ ho) rfl hpar rfl (X₁ _ _ hcode) rfl hvs hfile T.top ?_
  refine ks_loadName_global hk ns (loadGlobal_builtin (env := ksEnv qual scope s.heap.objs.size fI (.ref cda) cc) (hg.keeps hk₁) (mg_none_of X hg T.sup) (hb.keeps hk₁) hmb ⟨rfl, ?_⟩)
  refine wpAny_loadName_free hk nc rfl ⟨_, X₁ _ _ hcell, rfl⟩ ?_
  rw [har]
  refine wpAny_loadName_local hk (nl _ List.mem_cons_self) hns hslf ?_
  refine ks_wpAny_isType_cls hD1 hD2 ⟨rfl, ?_⟩
  refine ks_wpAny_call_super hD1 hD2 hx₁ rfl (fun c e => by cases e) (looks_mroIn X₁ hsub) (fun h₂ e₂ k₂ => ?_)
  have X₂ : K.In h₂ := X₁.keeps k₂
  have hx₂ := k₂ _ _ hx₁
  have hI : Looks (model prog w) h₂ (isInstance (.ref x) (.type "ValueError")) true := (InstAt.type (M := model prog w) (show InstAt h₂ x (HandSPX.excO C t0) C none from ⟨hx₂, rfl, rfl, trivial⟩)).andThen (looks_subIn X₂ T.veC)
  unfold ks_superIn at hsup
  rw [hcC] at hsup
  refine kxs_getMethod kxs_ValueError e₂ (looks_opaque X₂ T.tp) (l₀ := cdC.mro) (fun A Q E s k q => wpAny_bind ((looks_clsIn X₂ hcC) A _ E s k (wpAny_pure q))) rfl X₂ hsup hI xnC (by decide) ?_
  have hu : (h₂.push (kxs_mw "ValueError.__init__" x)).get? h₂.objs.size = some (kxs_mw "ValueError.__init__" x) := Heap.get?_push_at rfl rfl
  have k₃ : ∀ b o, h₂.get? b = some o → (h₂.push (kxs_mw "ValueError.__init__" x)).get? b = some o := fun b o e => Heap.get?_push_of_some _ e
  refine kxs_callWith (i := "ValueError.__init__") (x := x) (by rfl) ?_
  show wpAny _ _ (evalArgs (.ref h₂.objs.size) true ((false, eval (.Constant (.str txt) k p3) (ksEnv qual scope s.heap.objs.size fI (.ref cda) cc)) :: []) []) _ _ _
  refine evalArgs_plain (spliced_cons (Calls.Constant_str (spliced_nil ⟨hu, ?_⟩)))
  refine call_mw (X₂.keeps k₃) T.q (k₃ _ _ hx₂) hu (by rw [sizeLine_eq]; exact (by decide : 1 ≤ 16777216)) fun h₄ t1 k₄ hx₄ z₄ => ?_
  have kk : ∀ b o, b ≠ x → s.heap.get? b = some o → h₄.get? b = some o := fun b o n e => k₄ b o n (k₃ _ _ (k₂ _ _ (hk₁ _ _ e)))
  have X₄ : K.In h₄ := fun a o e => k₄ a o (fun z => by rw [z, hnx] at e; cases e) (X₂.keeps k₃ a o e)
  have hn₄ : h₄.Ns s.heap.objs.size _ := ns_but (dx := x) (h := h₂.push (kxs_mw "ValueError.__init__" x)) ((hns.keeps k₂).keeps k₃) k₄ xnL
  have big : s.heap.objs.size ≤ h₄.objs.size := by
    have a1 : s.heap.objs.size < h₁.objs.size := hns.lt
    have a2 : s.heap.objs.size < h₄.objs.size := hn₄.lt
    omega
  refine wpAt_of_wpAny ?_
  cases hss with
  | nil => exact absurd rfl hne
  | @cons f fs' ss' q1 q2 q3 q4 hss =>
  cases us with
  | nil => simp at hl
  | cons u us =>
  have hll2 : fs'.length = us.length := by simpa using hl.symm
  refine wpAny_execs_cons (plainObj_wpAny_Assign_Attribute ?_ (by rfl))
  have nof : (f == ("__debug__" : Str)) = false := T.dbg f List.mem_cons_self
  refine wpAny_Name (wpAny_loadName_local hk (nl _ (List.mem_cons_of_mem _ List.mem_cons_self)) hn₄ (ndr 1 f u rfl rfl) ?_) nof
  refine wpAny_Name (wpAny_loadName_local hk (nl _ List.mem_cons_self) hn₄ hslf ?_) (by decide)
  refine set_plain X₄ (ox := HandSPX.excO C t1) (od := none) ⟨hx₄, rfl, rfl, trivial⟩ T.sa ?_
  refine PX.exc_osa X₄ hx₄ hcC hve hhd (T.noN f List.mem_cons_self) fun h₅ tk₅ dx k₅ dn dne hx₅ hn₅ => ?_
  show wpAny _ _ (execs _ _) _ _ _
  have dn : h₄.objs.size ≤ dx := dn
  have dL : s.heap.objs.size ≠ dx := by
    have a2 : s.heap.objs.size < h₄.objs.size := hn₄.lt
    omega
  have hnd : K.lookup dx = none := by
    cases e : K.lookup dx with
    | none => rfl
    | some o =>
      exact absurd (Heap.lt_size (show h₄.get? dx = some o from X₄ _ _ e)) (Nat.not_lt.mpr dn)
  have X₅ : K.In h₅ := fun a o e => k₅ a o (fun z => by rw [z, hnx] at e; cases e) (X₄ a o e)
  refine wpAny_mono (err_more (cd := cdC) (x := x) (dx := dx) (L := s.heap.objs.size) (env := ksEnv qual scope s.heap.objs.size fI (.ref cda) cc) rfl hk hcC hve hhd T.sa hnd dL (nl _ List.mem_cons_self) hslf fs' ss' us [(f, u)] { s with heap := h₅, toks := tk₅ } hss hll2
    (by have := T.few; simp at this ⊢; omega) (fun f' m' => ⟨T.noN f' (List.mem_cons_of_mem _ m'), nl _ (List.mem_cons_of_mem _ (List.mem_cons_of_mem _ m')), T.dbg f' (List.mem_cons_of_mem _ m')⟩) (fun i f' u' a b => ndr (i + 2) f' u' a b) (by have := T.nd; exact (List.nodup_cons.mp this).2)
    X₅ (ns_but hn₄ k₅ xnL) hx₅ ⟨_, hn₅, fun y => ?_⟩) (fun fl s' hh => ?_) fun _ _ z => z
  · have := lookup_snoc y f u [] (fun u m => by simp at m)
    simpa using this.symm
  · obtain ⟨e1, h₆, tk₆, e2, k₆, mm, hn₆, hm₆⟩ := hh
    subst e1 e2
    have dxb : s.heap.objs.size ≤ dx := Nat.le_trans big dn
    refine hq h₆ tk₆ dx t1 ⟨fun b o n e => k₆ b o (fun z => by
      rw [z] at e
      exact absurd (Heap.lt_size (show s.heap.get? dx = some o from e)) (Nat.not_lt.mpr dxb)) (k₅ b o n (kk b o n e)), k₆ _ _ dne.symm hx₅, dxb, dne, mm, hn₆, fun y => ?_⟩
    rw [hm₆]
    rfl

theorem err_made (T : ErrTxt prog K C fs) {s : Shared} {R : Result → Shared → Prop} {us : List Value} {mg mb : Str → Option Value} (X : K.In s.heap) (hlim : s.heap.NoLimit)
    (hg : s.heap.Ns mainGlobals mg) (hb : s.heap.Ns builtinsNs mb) (hmb : mb "super" = some (.type "super")) (hroom : A.depth + 1 < recursionLimit) (hl : us.length = fs.length) (hne : fs ≠ [])
    (hq : ∀ h' tk e d, OwnMade s.heap h' e C d fs us → R (.ok (.ret (.ref e))) { s with heap := h', toks := tk }) :
    codeAny (model prog w) A (.call (.ref C) ⟨us, []⟩) R s := by
  obtain ⟨nm, N', qn, bs, bm, hdct, sn, sub, ab, col, dd, k0, k1, k2, k3, k5, hC, hT⟩ := excInit_of X T.q
  have hini := T.ini
  obtain ⟨fI, D, cda, cc, cdD, name, qual, params, scope, doc, pm, ct, oc, ccl, cl, an, od, cdd, cld, osl, ccs, csl, vs, file, tf, p0, p1, p2, p3, p4, p5, txt, kk, ss, ar, hi, hfn, _⟩ := hini
  have hz : us.length ≤ sizeLine := by
    have := T.few
    rw [sizeLine_eq, hl]
    omega
  obtain ⟨hp, g, dr, tk, os⟩ := s
  have k : ∀ b o, hp.get? b = some o → ((hp.push (kdv_tup us)).push (HandSPX.excO C hp.objs.size)).get? b = some o := fun b o e => Heap.get?_push_of_some _ (Heap.get?_push_of_some _ e)
  have hget : ((hp.push (kdv_tup us)).push (HandSPX.excO C hp.objs.size)).get? (hp.objs.size + 1) = some (HandSPX.excO C hp.objs.size) := by heap_get
  have hnx : K.lookup (hp.objs.size + 1) = none := by
    cases e : K.lookup (hp.objs.size + 1) with
    | none => rfl
    | some o =>
      have z : hp.get? (hp.objs.size + 1) = some o := X _ _ e
      exact absurd (Nat.lt_of_succ_lt (Heap.lt_size z)) (Nat.lt_irrefl _)
  refine HandSPX.call_own F.excBase_ValueError hT hC (looks_findIn X hi) (fun self => bind_fn X self (beq_iff_eq.mp hfn)) hz ?_
  refine err_init (s := ⟨(hp.push (kdv_tup us)).push (HandSPX.excO C hp.objs.size), g, dr, tk, os⟩) T hi (X.keeps k) (hlim.keeps k) (hg.keeps k) (hb.keeps k) hmb hget hnx ?_ hl hne fun h' tk' dx t1 I => ?_
  · show A.depth + 1 < recursionLimit
    exact hroom
  · have old : ∀ b o, hp.get? b = some o → h'.get? b = some o := fun b o e => I.keep b o (Nat.ne_of_lt (Nat.lt_succ_of_lt (Heap.lt_size e))) (k b o e)
    have z : hp.objs.size + 1 + 1 ≤ dx := by
      have q := I.dbig
      first
        | exact q
        | (simpa only [Heap.size_push] using q)
        | (have q2 := q; rw [Heap.size_push, Heap.size_push] at q2; exact q2)
    exact ⟨rfl, hq h' tk' (hp.objs.size + 1) dx ⟨old, Nat.le_succ _, ⟨_, _, I.obj, rfl, rfl, rfl, rfl⟩, (show hp.objs.size ≤ dx by omega), I.dne, I.ns⟩⟩
end
end PtE
namespace L2
open PySem PySem.Spec PyProof.Rows
theorem relO_flds : ∀ {fs : List Str} {vs : List V} {us : List Value}, Vals vs us → ∀ y, RelO ((fs.zip vs).lookup y) (PtE.fldM fs us y)
  | [], _, _, _, y => by unfold PtE.fldM; simp; trivial
  | _ :: _, _, _, .nil, y => by unfold PtE.fldM; simp; trivial
  | f :: fs, v :: vs, u :: us, .cons r rs, y => by
    unfold PtE.fldM
    rw [List.zip_cons_cons, List.zip_cons_cons, List.lookup_cons, List.lookup_cons]
    by_cases q : y = f
    · subst q
      simp only [beq_self_eq_true]
      exact r
    · have q' : (y == f) = false := by simpa using q
      simp only [q']
      exact relO_flds rs y
section
variable {X : Cx} {C : Addr} {fs : List Str}
/-- E(e, ..), an own error with the fields fs -/
def tMkErr (C : Addr) (fs : List Str) (ta : TA) : St → Hp → XK → Prop := fun σ H Q => ta σ H fun vs H1 => vs.length = fs.length ∧ ∀ d, H1 d = none → Q (.ref C) (some d) (upd H1 d (.xd (fs.zip vs)))
theorem pmk_err {x : Str} {a : Expr} {as : List Expr} {ta : TA} {p pos : Pos} {k : Nat} (T : PtE.ErrTxt X.prog X.K C fs) (hne : fs ≠ []) (hr : Room k X.A) (ha : PA X (a :: as) ta) (hg : Gl X x) (hm : X.mg x = some (.ref C)) (hdb : (x == ("__debug__" : Str)) = false := by decide)
    (he : starEach (a :: as) X.env = (false, eval a X.env) :: starEach as X.env := by rfl) (hpl : (backTo pos (starEach as X.env)).any (·.1) = false := by rfl) :
    PMk X (.Call (.Name x p) (a :: as) [] pos) (tMkErr C fs ta) := by
  intro pins s σ H Q I h
  refine wpAny_Call_Name_kw (ld_glob I hg hm ?_ hdb)
  refine PySem.W.callWith_K (h₀ := X.base) I.ok.mod.kin T.kC (thn (ha.run pos pins s σ H _ I h) fun us s1 hh => ?_) he hpl
  obtain ⟨vs, H1, I1, r1, hl, q1⟩ := hh
  refine ⟨I1.kIn, ?_⟩
  have hlim := I1.nolimit
  obtain ⟨mb, hb1, hb2⟩ := I1.mod.blt
  have hG : s1.heap.Ns mainGlobals X.mg := by
    have := I1.mod.glob.keeps I1.bk
    exact this
  obtain ⟨hp, g, dr, tk, os⟩ := s1
  refine wpAny_call (PtE.err_made T I1.kIn hlim hG (hb1.keeps I1.bk) ((hb2 "super" (by decide)).trans (by first | rfl | kernel_rfl)) (by have := hr.dp; omega) (by show us.length = _; rw [← r1.length]; exact hl) hne fun h' tk' e d M => ?_)
  show MkP X pins σ Q (.ref e) ⟨h', g, dr, tk', os⟩
  obtain ⟨oe, fv, hoe, hc, hd, hdat, h1⟩ := M.obj
  obtain ⟨mm, hns, hmm⟩ := M.ns
  obtain ⟨G', g1, g2⟩ := restrict h' fun b => decide (b ≠ e)
  have gk : ∀ b, b ≠ e → G'.get? b = h'.get? b := fun b hb => g1 b (decide_eq_true hb)
  have ge : G'.get? e = none := g2 e (by simp)
  have old : ∀ b o, hp.get? b = some o → G'.get? b = some o := fun b o q => (gk b (Nat.ne_of_lt (Nat.lt_of_lt_of_le (Heap.lt_size q) M.new))).trans (M.keep b o q)
  have ob : ObjOk X.prog X.w (upd H1 d (.xd (fs.zip vs))) G' d (.xd (fs.zip vs)) :=
    ⟨_, hns.at (fun o q => (gk d M.dne).trans q), fun f => by rw [hmm]; exact relO_flds r1 f⟩
  have J : Inv X pins σ (upd H1 d (.xd (fs.zip vs))) ⟨G', g, dr, tk', os⟩ := I1.laid (t' := tk') old M.dbig ob
  refine ⟨e, oe, fv, ⟨G', g, dr, tk', os⟩, _, .ref C, some d, rfl, J, fun b o q => ?_, ge, hoe, ⟨hc, hd⟩, hdat, h1, ?_, rfl, I1.bare, raises_own T.exC T.tyC, q1 d (I1.hok.fresh M.dbig)⟩
  · by_cases hb : b = e
    · have q' : G'.get? b = some o := q
      rw [hb, ge] at q'; cases q'
    · exact (gk b hb).symm.trans q
  · rw [upd_ne (Ne.symm M.dne)]
    exact I1.hok.fresh M.new
/-- e.f, e the exception that the suite holds (at a; its class cls, its dict d) -/
def tErrFld (C : Addr) (fs : List Str) (f : Str) (a : Addr) (cls : Value) (d : Option Addr) (te : TE) : TE := fun σ H Q => te σ H fun x H1 => x = .ref a ∧ cls = .ref C ∧ ∃ (dd : Addr) (fv : List (Str × V)) (v : V), d = some dd ∧ H1 dd = some (.xd fv) ∧ fv.lookup f = some v ∧ Q v H1
theorem pe_errFld {a : Addr} {oe : Obj} {cls : Value} {d : Option Addr} {pn : List (Addr × Obj)} {e : Expr} {te : TE} {pos : Pos} {f : Str} (hfs : f ∈ fs) (T : PtE.ErrTxt X.prog X.K C fs) (hz : Zc cls d oe) (hf : ∃ vs, oe.data = .fields vs) (he : PE (X.suite a ((a, oe) :: pn)) e te)
    (hb : attributeBase e f X.env (eval e X.env) = eval e X.env := by rfl) :
    PE (X.suite a ((a, oe) :: pn)) (.Attribute e f pos) (tErrFld C fs f a cls d te) := by
  refine ⟨fun pins s σ H Q I h => ?_⟩
  refine attr_of hb (thn (he.run pins s σ H _ I h) fun u s1 hh => ?_)
  obtain ⟨x, H1, I1, rx, ex, ec, dd, fv, v, ed, ea, l, q⟩ := hh
  subst ex
  obtain rfl : u = Value.ref a := rx
  subst ec
  subst ed
  obtain ⟨ha, _⟩ := I1.pin (a, oe) (List.mem_append_left _ List.mem_cons_self)
  obtain ⟨vs, hd⟩ := hf
  have hx : ObjOk X.prog X.w H1 s1.heap dd (.xd fv) := I1.hok dd _ ea
  obtain ⟨mA, hns, hr⟩ := hx
  obtain ⟨od, ho, hl⟩ := lookIn_ns hns
  obtain ⟨u, hu, ru⟩ := RelO.some_of (v := v) (o := mA f) (by rw [← l]; exact hr f)
  have J : PySem.W.InstAt s1.heap a oe C (some od) := ⟨ha, hz.1, by unfold PySem.W.notCls; rw [hd] <;> rfl, by rw [hz.2]; exact ho⟩
  exact HandSPX.exc_get I1.kIn J T.ga T.gg T.exC (PySem.W.findObj_own T.hdC (T.noN f hfs) rfl (by rw [hl, hu])) (handed_of ru) ⟨v, H1, I1.tok _, ru, q⟩
end
end L2
set_option maxRecDepth 100000
set_option maxHeartbeats 1000000
namespace Pt
open PySem PySem.Spec PyProof.Rows L2
/-! ### what a def promises -/
/-- a def as a function on trees: o what its lent first parameter is behind it -/
inductive FR where
  | ret (d : D) (o : D) | exc (x : D) (o : D) | stuck
abbrev FDen := List D → FR
def ARep (K : PySem.W.Frag) (NT : List Str) (H : Hp) (ok : Addr → Prop) (m : Option Sh) (ds : List D) (vs : List V) (l0 : List Addr) : Prop := match m with
  | none => l0 = [] ∧ Reps K NT H ok ds vs
  | some s => ∃ d dr v vr, ds = d :: dr ∧ vs = v :: vr ∧ RepO K NT H ok s d v l0 ∧ l0.Nodup ∧ (∀ a ∈ l0, (∃ u, H a = some u) ∧ ¬ ok a) ∧ Reps K NT H ok dr vr
/-- what may be read behind: all but what is lent, what is new and owned, what was not let -/
def okA (H : Hp) (ok : Addr → Prop) (l0 l1 lx : List Addr) : Addr → Prop := fun a => a ∉ l1 ∧ a ∉ lx ∧ ¬ ((∃ u, H a = some u) ∧ ¬ ok a ∧ a ∉ l0)
/-- from the entry to the end -/
structure Aft (H : Hp) (l0 : List Addr) (H' : Hp) (l1 lx : List Addr) : Prop where
  keep : ∀ a u, H a = some u → a ∉ l0 → H' a = some u ∧ a ∉ l1 ∧ a ∉ lx
  dom : ∀ a, H' a = none → H a = none
  n1 : l1.Nodup
  nx : lx.Nodup
  dj : ∀ a ∈ l1, a ∉ lx
  t1 : ∀ a ∈ l1, ∃ u, H' a = some u
  tx : ∀ a ∈ lx, ∃ u, H' a = some u
def LRep (K : PySem.W.Frag) (NT : List Str) (H : Hp) (ok : Addr → Prop) (m : Option Sh) (vs : List V) (o : D) (l1 : List Addr) : Prop := match m with
  | none => l1 = []
  | some s => ∃ v, vs.head? = some v ∧ RepO K NT H ok s o v l1
def spOf (K : PySem.W.Frag) (NT : List Str) (n : Nat) (m : Option Sh) (rs : Sh) (fd : FDen) : Sp := fun vs H Q E =>
  ∃ (ds : List D) (ok : Addr → Prop) (l0 : List Addr), ds.length = n ∧ ARep K NT H ok m ds vs l0 ∧ fd ds ≠ .stuck ∧
    (∀ d o, fd ds = .ret d o → ∀ v H' l1 lx, Aft H l0 H' l1 lx → LRep K NT H' (okA H ok l0 l1 lx) m vs o l1 → RepO K NT H' (okA H ok l0 l1 lx) rs d v lx → Q v H') ∧
    (∀ x o, fd ds = .exc x o → ∀ c dd H' l1, Aft H l0 H' l1 [] → LRep K NT H' (okA H ok l0 l1 []) m vs o l1 → RepX K NT H' (okA H ok l0 l1 []) x c dd → E c dd H')
theorem aRep_len {K : PySem.W.Frag} {NT : List Str} {H : Hp} {ok : Addr → Prop} {m : Option Sh} {ds : List D} {vs : List V} {l0 : List Addr} (h : ARep K NT H ok m ds vs l0) : vs.length = ds.length := by
  cases m with
  | none => exact reps_len h.2
  | some s =>
    obtain ⟨d, dr, v, vr, e1, e2, _, _, _, r⟩ := h
    rw [e1, e2, List.length_cons, List.length_cons, reps_len r]
theorem spOf_len {K : PySem.W.Frag} {NT : List Str} {n : Nat} {m : Option Sh} {rs : Sh} {fd : FDen} (vs : List V) (H : Hp) (Q : VK) (E : XK) (h : spOf K NT n m rs fd vs H Q E) : vs.length = n := by
  obtain ⟨ds, ok, l0, hn, ha, _⟩ := h
  rw [aRep_len ha]
  exact hn
/-- the slots at the entry -/
def startD (N : Nat) (ds : List D) : Stt := ds.map some ++ List.replicate (N - ds.length) none
def outD (m : Option Sh) (σ : Stt) (k : D → FR) : FR := match m with
  | none => k .non
  | some _ => (match σ with
    | some d :: _ => k d
    | _ => .stuck)
def fdOf (N : Nat) (m : Option Sh) (sd : SDen) : FDen := fun ds => match sd (startD N ds) with
  | .nx σ => outD m σ (.ret .non)
  | .ret d σ => outD m σ (.ret d)
  | .exc x σ => outD m σ (.exc x)
  | _ => .stuck
def kap (N : Nat) (m : Option Sh) : List Sh := match m with
  | none => List.replicate N .f
  | some s => s :: List.replicate (N - 1) .f
def mtd (m : Option Sh) : List Nat := match m with
  | none => []
  | some _ => [0]
section
variable {K : PySem.W.Frag} {NT : List Str}
theorem kap_len {N : Nat} {m : Option Sh} (h : m = none ∨ 0 < N) : (kap N m).length = N := by
  cases m with
  | none => simp [kap]
  | some s =>
    have : 0 < N := h.elim (fun e => by cases e) id
    simp [kap]
    omega
theorem kap_kd {N : Nat} {m : Option Sh} (i : Nat) (hi : i ≠ 0 ∨ m = none) : kd (kap N m) i = .f := by
  unfold kd kap
  cases m with
  | none =>
    simp only
    rw [List.getD_eq_getElem?_getD, List.getElem?_replicate]
    split <;> rfl
  | some s =>
    have : i ≠ 0 := hi.elim id (fun e => by cases e)
    cases i with
    | zero => exact absurd rfl this
    | succ i =>
      simp only
      rw [List.getD_eq_getElem?_getD, List.getElem?_cons_succ, List.getElem?_replicate]
      split <;> rfl
theorem startD_get {N : Nat} {ds : List D} {i : Nat} {d : D} (h : (startD N ds)[i]? = some (some d)) : ds[i]? = some d := by
  unfold startD at h
  by_cases hi : i < ds.length
  · rw [List.getElem?_append_left (by simpa using hi), List.getElem?_map] at h
    cases e : ds[i]? with
    | none => rw [e] at h; cases h
    | some a => rw [e] at h; cases h; rfl
  · rw [List.getElem?_append_right (by simpa using hi), List.getElem?_replicate] at h
    split at h <;> cases h
theorem start_get {N : List Str} {vs : List V} {i : Nat} {v : V} (h : vs[i]? = some v) : (L2.start N vs)[i]? = some (some v) := by
  unfold L2.start
  have hi : i < vs.length := (List.getElem?_eq_some_iff.mp h).1
  rw [List.getElem?_append_left (by simpa using hi), List.getElem?_map, h]
  rfl
def ownAt (l0 : List Addr) : Own := fun i => if i = 0 then l0 else []
/-- the entry -/
theorem sok_start {N : List Str} {m : Option Sh} {ds : List D} {vs : List V} {H : Hp} {ok : Addr → Prop} {l0 : List Addr} {pin : Nat → V} {κx : List Sh} {W : WX} (ha : ARep K NT H ok m ds vs l0) (hl : ds.length ≤ N.length) (hp : ∀ i ∈ mtd m, vs[i]? = some (pin i)) :
    SOk K ⟨NT, mtd m, pin, κx, W, ivT⟩ (kap N.length m) (startD N.length ds) (L2.start N vs) H (ownAt l0) (fun a => (∃ u, H a = some u) ∧ ¬ ok a ∧ a ∉ l0) := by
  have hvl := aRep_len ha
  have okl : ∀ a, ok a → a ∉ l0 → okOf (ownAt l0) (fun a => (∃ u, H a = some u) ∧ ¬ ok a ∧ a ∉ l0) a := fun a o n => ⟨fun i => by unfold ownAt; split <;> simp [n], fun z => z.2.1 o⟩
  have hm0 : m = none → l0 = [] := fun e => by subst e; exact ha.1
  have hnd : l0.Nodup ∧ ∀ a ∈ l0, (∃ u, H a = some u) ∧ ¬ ok a := by
    cases m with
    | none => rw [hm0 rfl]; simp
    | some s =>
      obtain ⟨_, _, _, _, _, _, _, q1, q2, _⟩ := ha
      exact ⟨q1, q2⟩
  have kp : Kp H H ok (okOf (ownAt l0) (fun a => (∃ u, H a = some u) ∧ ¬ ok a ∧ a ∉ l0)) := fun a u e o => ⟨e, okl a o fun z => (hnd.2 a z).2 o⟩
  have hN : m = none ∨ 0 < N.length := by
    cases m with
    | none => exact .inl rfl
    | some s =>
      obtain ⟨_, _, _, _, e, _⟩ := ha
      rw [e] at hl
      simp at hl
      exact .inr (by omega)
  refine ⟨fun i d e => ?_, fun i e => ?_, fun i => ?_, fun i j a m1 m2 => ?_, fun i a mm z => ?_, fun i a mm => ?_, fun a z => z.1, fun i hi => start_get (hp i hi), ?_, ?_, trivial⟩
  · have e := startD_get e
    cases m with
    | none =>
      obtain ⟨z, r⟩ := ha
      subst z
      obtain ⟨v, ev, q⟩ := reps_get r e
      rw [kap_kd i (.inr rfl)]
      exact ⟨v, start_get ev, by unfold ownAt; split <;> rfl, q.mono kp⟩
    | some s =>
      obtain ⟨d0, dr, v0, vr, e1, e2, q0, n0, t0, r⟩ := ha
      subst e1 e2
      cases i with
      | zero =>
        simp at e
        subst e
        exact ⟨v0, start_get rfl, q0.mono kp fun a u _ e => e⟩
      | succ i =>
        rw [kap_kd (i + 1) (.inl (by simp))]
        obtain ⟨v, ev, q⟩ := reps_get r (by simpa using e)
        exact ⟨v, start_get (by simpa using ev), rfl, q.mono kp⟩
  · cases m with
    | none => unfold ownAt; rw [hm0 rfl]; split <;> rfl
    | some s =>
      obtain ⟨d0, dr, v0, vr, e1, e2, q0, n0, t0, r⟩ := ha
      unfold ownAt
      by_cases hi : i = 0
      · subst hi
        exact absurd (by rw [e1]; rfl) (e d0)
      · rw [if_neg hi]
  · unfold ownAt
    split
    · exact hnd.1
    · exact List.nodup_nil
  · unfold ownAt at m1 m2
    by_cases h1 : i = 0 <;> by_cases h2 : j = 0
    · rw [h1, h2]
    · rw [if_neg h2] at m2; simp at m2
    · rw [if_neg h1] at m1; simp at m1
    · rw [if_neg h1] at m1; simp at m1
  · unfold ownAt at mm
    split at mm
    · exact z.2.2 mm
    · simp at mm
  · unfold ownAt at mm
    split at mm
    · exact (hnd.2 a mm).1
    · simp at mm
  · unfold startD L2.start
    rw [List.length_append, List.length_append, List.length_map, List.length_map, List.length_replicate, List.length_replicate, hvl]
  · rw [kap_len hN]
    unfold L2.start
    rw [List.length_append, List.length_map, List.length_replicate, hvl]
    omega
/-- at the end only the lent one is owned -/
theorem sok_end {N : List Str} {m : Option Sh} {C : Cc} {σd : Stt} {σv : Sv} {H : Hp} {l : Own} {Lo : Addr → Prop} (S : SOk K C (kap N.length m) σd σv H l Lo) (i : Nat) (hi : i ≠ 0 ∨ m = none) : l i = [] := by
  by_cases h : ∃ d, σd[i]? = some (some d)
  · obtain ⟨d, e⟩ := h
    obtain ⟨v, _, r⟩ := S.val i d e
    rw [kap_kd i hi] at r
    exact r.1
  · exact S.emp i fun d e => h ⟨d, e⟩
theorem sok_aft {N : List Str} {m : Option Sh} {vs : List V} {H H' : Hp} {ok : Addr → Prop} {l0 : List Addr} {pin : Nat → V} {κx : List Sh} {W : WX} {σd : Stt} {σv : Sv} {l : Own} {lx : List Addr} (hp : ∀ i ∈ mtd m, vs[i]? = some (pin i)) (hl0 : m = none → l0 = [])
    (S : SOk K ⟨NT, mtd m, pin, κx, W, ivT⟩ (kap N.length m) σd σv H' l (LoX (fun a => (∃ u, H a = some u) ∧ ¬ ok a ∧ a ∉ l0) lx)) (nd : lx.Nodup) (g : Go (ownAt l0) H l lx H') (k : D → FR) (hk : outD m σd k ≠ .stuck) :
    Aft H l0 H' (l 0) lx ∧ (∀ a, okOf l (LoX (fun a => (∃ u, H a = some u) ∧ ¬ ok a ∧ a ∉ l0) lx) a → okA H ok l0 (l 0) lx a) ∧ ∃ o, outD m σd k = k o ∧ LRep K NT H' (okA H ok l0 (l 0) lx) m vs o (l 0) := by
  have hok : ∀ a, okOf l (LoX (fun a => (∃ u, H a = some u) ∧ ¬ ok a ∧ a ∉ l0) lx) a → okA H ok l0 (l 0) lx a := fun a o => ⟨o.1 0, fun z => o.2 (.inr z), fun z => o.2 (.inl z)⟩
  refine ⟨⟨fun a u e n => ?_, g.dom, S.nd 0, nd, fun a m1 m2 => S.lo 0 a m1 (.inr m2), fun a m1 => S.tr 0 a m1, fun a m1 => S.los a (.inr m1)⟩, hok, ?_⟩
  · obtain ⟨e1, e2, e3⟩ := g.keep a u e fun i => by
      unfold ownAt
      split
      · exact n
      · simp
    exact ⟨e1, e2 0, e3⟩
  · cases m with
    | none => exact ⟨.non, rfl, sok_end S 0 (.inr rfl)⟩
    | some s =>
      unfold outD at hk ⊢
      cases σd with
      | nil => exact absurd rfl hk
      | cons q r =>
        cases q with
        | none => exact absurd rfl hk
        | some d =>
          obtain ⟨v, ev, r⟩ := S.val 0 d rfl
          have h0 : vs[0]? = some (pin 0) := hp 0 List.mem_cons_self
          have h1 := S.pin 0 List.mem_cons_self
          rw [ev] at h1
          have e2 : v = pin 0 := Option.some.inj (Option.some.inj h1)
          refine ⟨d, rfl, pin 0, by rw [← h0]; cases vs <;> rfl, ?_⟩
          rw [← e2]
          exact r.mono (kp_ok hok) fun a u _ e => e
end
/-- A DEF: its body follows its tree function, so it keeps its promise -/
theorem fn_sim {P : Program} {w : World} {K : PySem.W.Frag} {mg : Str → Option Value} {base : Heap} {NT : List Str} {x qual : Str} {params : Arguments} {body : List Stmt} {scope : Scope} {dvs : List V} {kws : List (Str × V)} {f : Addr} {fd : FuncData} {N ps : List Str} {k : Nat} (F : FunD K x qual params body scope dvs kws f fd) (S : FnScope N ps scope)
    (m : Option Sh) (rs : Sh) (sd : SDen) (κ' κb : List Sh)
    (hb : ∀ (cdv : Value) (A : Around) (outer : List Env) (s : Shared) (H : Hp) (E : XK) (pin : Nat → V) (W : WX), Room k (A.deeper (envOfC qual scope s.heap.objs.size f cdv)) → Takes (cxOf (L2.CX P w) P w K mg base N qual scope f cdv A outer s H E) W →
      SSs (cxOf (L2.CX P w) P w K mg base N qual scope f cdv A outer s H E) ⟨NT, mtd m, pin, kap N.length m, W, ivT⟩ (kap N.length m) body sd κ' κb rs)
    (hw : wkB κ' (kap N.length m) = true := by rfl) (hrs : rs = .f ∨ (∀ ds σ, sd (startD N.length ds) ≠ .nx σ) := by exact .inl rfl) :
    FnOk P w K mg base (L2.CX P w) (k + 1) f fd ps (spOf K NT ps.length m rs (fdOf N.length m sd)) := by
  refine F.ok S spOf_len (fun cdv A outer s H vs Q E hr hsp => ?_)
  obtain ⟨ds, ok, l0, hn, ha, ns, hret, hexc⟩ := hsp
  have hNl : ps.length ≤ N.length := by have := congrArg List.length S.pre; rw [List.length_take] at this; omega
  have hvl := aRep_len ha
  have hp : ∀ i ∈ mtd m, vs[i]? = some ((fun _ => vs.headD .non) i) := fun i hi => by
    cases m with
    | none => simp [mtd] at hi
    | some q =>
      simp [mtd] at hi
      subst hi
      obtain ⟨_, _, v, vr, _, e, _⟩ := ha
      rw [e]
      rfl
  have hl0 : m = none → l0 = [] := fun e => by subst e; exact ha.1
  obtain ⟨t, h1, h2⟩ := hb cdv A outer s H E (fun _ => vs.headD .non) (fun c d _ H => E c d H) hr (takes_of rfl rfl rfl rfl)
  refine ⟨t, h1, ?_⟩
  have S0 := sok_start (N := N) (pin := fun _ => vs.headD .non) (κx := kap N.length m) (W := fun c d _ H => E c d H) ha (by rw [hn]; exact hNl) hp
  have ns' : sd (startD N.length ds) ≠ .stuck := fun z => ns (by unfold fdOf; rw [z])
  refine h2 _ _ _ _ _ _ S0 ns' (fun σ1 e σv1 H1 l1 S1 g1 => ?_) (fun σ1 e => absurd (by unfold fdOf; rw [e]) ns) (fun σ1 e => absurd (by unfold fdOf; rw [e]) ns) (fun d σ1 e v σv1 H1 l1 lx S1 R1 nd g1 => ?_) (fun x σ1 e c dd σv1 H1 l1 S1 R1 g1 => ?_)
  · obtain ⟨S2, g2⟩ := S1.weak (wk_of hw)
    have ns2 : outD m σ1 (.ret .non) ≠ .stuck := fun z => ns (by unfold fdOf; rw [e]; exact z)
    obtain ⟨a1, a2, o, a3, a4⟩ := sok_aft (vs := vs) hp hl0 S2.nil List.nodup_nil (g1.trans g2) _ ns2
    rcases hrs with hrs | hrs
    · subst hrs
      exact hret .non o (by unfold fdOf; rw [e]; exact a3) .non H1 _ [] a1 a4 ⟨rfl, rfl⟩
    · exact absurd e (hrs ds σ1)
  · have ns2 : outD m σ1 (.ret d) ≠ .stuck := fun z => ns (by unfold fdOf; rw [e]; exact z)
    obtain ⟨a1, a2, o, a3, a4⟩ := sok_aft (vs := vs) hp hl0 S1 nd g1 _ ns2
    exact hret d o (by unfold fdOf; rw [e]; exact a3) v H1 _ lx a1 a4 (R1.mono (kp_ok a2) fun a u _ e => e)
  · have ns2 : outD m σ1 (.exc x) ≠ .stuck := fun z => ns (by unfold fdOf; rw [e]; exact z)
    obtain ⟨a1, a2, o, a3, a4⟩ := sok_aft (vs := vs) hp hl0 S1.nil List.nodup_nil g1 _ ns2
    exact hexc x o (by unfold fdOf; rw [e]; exact a3) c dd H1 _ a1 a4 (R1.mono (kp_ok fun a q => a2 a ⟨q.1, fun z => z.elim q.2 (by simp)⟩))
end Pt
set_option maxRecDepth 100000
set_option maxHeartbeats 1000000
namespace Pt
open PySem PySem.Spec PyProof.Rows L2
section
variable {K : PySem.W.Frag} {C : Cc} {κ κ' κ1 : List Sh} {σd σd' : Stt} {σv : Sv} {H H' : Hp} {l l' : Own} {Lo Lo' : Addr → Prop} {lx l1 : List Addr} {p : Bool}
/-- behind a call to which nothing is lent -/
theorem SOk.aft0 (S : SOk K C κ σd σv H l Lo) (A : Aft H [] H' [] lx) : SOk K C κ σd σv H' l (LoX Lo lx) ∧ Go l H l lx H' ∧ ∀ a, okA H (okOf l Lo) [] [] lx a → okOf l (LoX Lo lx) a := by
  have ko : ∀ a u, H a = some u → H' a = some u ∧ a ∉ lx := fun a u e => ⟨(A.keep a u e (by simp)).1, (A.keep a u e (by simp)).2.2⟩
  have kp : Kp H H' (okOf l Lo) (okOf l (LoX Lo lx)) := fun a u e o => ⟨(ko a u e).1, o.1, fun z => z.elim o.2 (ko a u e).2⟩
  refine ⟨⟨fun i d e => ?_, S.emp, S.nd, S.dj, fun i a m z => ?_, fun i a m => (S.tr i a m).imp fun u e => (ko a u e).1, fun a z => z.elim (fun z => (S.los a z).imp fun u e => (ko a u e).1) (A.tx a), S.pin, S.len, S.klen, C.iv.mono kp S.iv⟩, ⟨fun a u e n => ⟨(ko a u e).1, n, (ko a u e).2⟩, A.dom⟩, fun a o => ⟨fun i m => ?_, fun z => ?_⟩⟩
  · obtain ⟨v, e1, r⟩ := S.val i d e
    exact ⟨v, e1, r.mono kp fun a u _ e => (ko a u e).1⟩
  · rcases z with z | z
    · exact S.lo i a m z
    · obtain ⟨u, e⟩ := S.tr i a m
      exact (ko a u e).2 z
  · exact o.2.2 ⟨S.tr i a m, fun q => q.1 i m, by simp⟩
  · rcases z with z | z
    · exact o.2.2 ⟨S.los a z, fun q => q.2 z, by simp⟩
    · exact o.2.1 z
/-- behind a call to which slot j's thing is lent -/
theorem SOk.aft1 (S : SOk K C κ σd σv H l Lo) {j : Nat} {d0 o : D} {v : V} (ej : σd[j]? = some (some d0)) (ev : σv[j]? = some (some v)) (A : Aft H (l j) H' l1 lx) (R : RepO K C.NT H' (okA H (okOf l Lo) (l j) l1 lx) (kd κ j) o v l1) :
    SOk K C κ (σd.set j (some o)) σv H' (setOwn l j l1) (LoX Lo lx) ∧ Go l H (setOwn l j l1) lx H' ∧ ∀ a, okA H (okOf l Lo) (l j) l1 lx a → okOf (setOwn l j l1) (LoX Lo lx) a := by
  have ko : ∀ a u, H a = some u → a ∉ l j → H' a = some u ∧ a ∉ l1 ∧ a ∉ lx := A.keep
  have nset : ∀ i a, (i ≠ j → a ∉ l i) → a ∉ l1 → a ∉ setOwn l j l1 i := fun i a h1 h2 m => (mem_setOwn m).elim (fun m => h2 m.2) fun m => h1 m.1 m.2
  have kp : Kp H H' (okOf l Lo) (okOf (setOwn l j l1) (LoX Lo lx)) := fun a u e q => by
    obtain ⟨e1, e2, e3⟩ := ko a u e (q.1 j)
    exact ⟨e1, fun i => nset i a (fun _ => q.1 i) e2, fun z => z.elim q.2 e3⟩
  have hA : ∀ a, okA H (okOf l Lo) (l j) l1 lx a → okOf (setOwn l j l1) (LoX Lo lx) a := fun a q => by
    refine ⟨fun i => nset i a (fun n m => ?_) q.1, fun z => ?_⟩
    · exact q.2.2 ⟨S.tr i a m, fun z => z.1 i m, fun m2 => n (S.dj i j a m m2)⟩
    · rcases z with z | z
      · exact q.2.2 ⟨S.los a z, fun y => y.2 z, fun m2 => S.lo j a m2 z⟩
      · exact q.2.1 z
  have oth : ∀ i a, i ≠ j → a ∈ l i → H' a = H a ∧ a ∉ l1 ∧ a ∉ lx := fun i a n m => by
    obtain ⟨u, e⟩ := S.tr i a m
    obtain ⟨e1, e2, e3⟩ := ko a u e fun m2 => n (S.dj i j a m m2)
    exact ⟨e1.trans e.symm, e2, e3⟩
  have hj : j < σd.length := (List.getElem?_eq_some_iff.mp ej).1
  refine ⟨⟨fun i d e => ?_, fun i he => ?_, fun i => ?_, fun i k a m1 m2 => ?_, fun i a m z => ?_, fun i a m => ?_, fun a z => ?_, S.pin, by rw [List.length_set]; exact S.len, S.klen, C.iv.mono kp S.iv⟩, ⟨fun a u e n => ?_, A.dom⟩, hA⟩
  · by_cases q : i = j
    · subst q
      rw [List.getElem?_set_self hj] at e
      cases e
      refine ⟨v, ev, ?_⟩
      unfold setOwn
      rw [if_pos rfl]
      exact R.mono (kp_ok hA) fun a u _ e => e
    · rw [List.getElem?_set_ne (Ne.symm q)] at e
      obtain ⟨w, e1, r⟩ := S.val i d e
      refine ⟨w, e1, ?_⟩
      unfold setOwn
      rw [if_neg q]
      exact r.mono kp fun a u m e => by rw [(oth i a q m).1]; exact e
  · by_cases q : i = j
    · subst q
      exact absurd (List.getElem?_set_self hj) (he o)
    · unfold setOwn
      rw [if_neg q]
      exact S.emp i fun d e => he d (by rw [List.getElem?_set_ne (Ne.symm q)]; exact e)
  · unfold setOwn
    split
    · exact A.n1
    · exact S.nd i
  · rcases mem_setOwn m1 with ⟨q1, r1⟩ | ⟨q1, r1⟩ <;> rcases mem_setOwn m2 with ⟨q2, r2⟩ | ⟨q2, r2⟩
    · rw [q1, q2]
    · exact absurd r1 (oth k a q2 r2).2.1
    · exact absurd r2 (oth i a q1 r1).2.1
    · exact S.dj i k a r1 r2
  · rcases mem_setOwn m with ⟨q1, r1⟩ | ⟨q1, r1⟩
    · rcases z with z | z
      · obtain ⟨u, e⟩ := S.los a z
        exact (ko a u e fun m2 => S.lo j a m2 z).2.1 r1
      · exact A.dj a r1 z
    · rcases z with z | z
      · exact S.lo i a r1 z
      · exact (oth i a q1 r1).2.2 z
  · rcases mem_setOwn m with ⟨q1, r1⟩ | ⟨q1, r1⟩
    · exact A.t1 a r1
    · rw [(oth i a q1 r1).1]
      exact S.tr i a r1
  · rcases z with z | z
    · obtain ⟨u, e⟩ := S.los a z
      exact ⟨u, (ko a u e fun m2 => S.lo j a m2 z).1⟩
    · exact A.tx a z
  · obtain ⟨e1, e2, e3⟩ := ko a u e (n j)
    exact ⟨e1, fun i => nset i a (fun _ => n i) e2, e3⟩
end
/-! ### callees -/
abbrev Cal := List V → List V → Hp → VK → XK → Prop
def CalR (X : Cx) (W : WX) (f : Addr) (n : Nat) (ks : List Str) (cal : Cal) : Prop :=
  ∀ (pins : List (Addr × Obj)) (s : Shared) (σ : Sv) (H : Hp) (us ws : List Value) (vs zs : List V) (Q : VK), Inv X pins σ H s → Vals vs us → Vals zs ws → vs.length = n → zs.length = ks.length → cal vs zs H Q (WE W σ) →
    wpAny (model X.prog X.w) X.A (call (.ref f) us (ks.zip ws)) (EP X pins σ Q) X.xe s
section
variable {X : Cx} {W : WX} {k n : Nat} {f Cl : Addr} {fd : FuncData} {ps ks : List Str} {sp : Sp} {x m : Str} {p pos apos : Pos} {e o : Expr} {es : List Expr} {kws : List Keyword} {t tk : TA} {te : TE} {g : List Value → List Value → List Value} {gV : List V → List V → List V} {cal : Cal}
theorem cal_fn (F : FnOk X.prog X.w X.K X.mg X.base (L2.CX X.prog X.w) k f fd ps sp) (hr : Room k X.A) (hb : KBn X.K fd ps n ks g gV) (tk : Takes X W) : CalR X W f n ks (fun vs zs => sp (gV vs zs)) := fun pins s σ H us ws vs zs Q I r rz l1 l2 h => by
  have r2 := hb.rel r rz
  refine wpAny_call (codeAny_mono (F.run X.A X.stack s H ⟨us, ks.zip ws⟩ (g us ws) (gV vs zs) Q _ hr I.env0 (hb.to s us ws I.kIn (r.length.symm.trans l1) (rz.length.symm.trans l2)) r2 h) fun r s' hq => ?_)
  cases r with
  | error e => exact passAt tk σ pins H s e s' I hq
  | ok fl =>
    cases fl with
    | ret u => exact I.after hq
    | next => exact False.elim hq
    | brk => exact False.elim hq
    | cont => exact False.elim hq
theorem cal_mk (M : Mk X.K Cl f) (F : FnOk X.prog X.w X.K X.mg X.base (L2.CX X.prog X.w) k f fd ps sp) (hr : Room (k + 1) X.A) (hb : KBn X.K fd ps (n + 1) ks g gV) (tk : Takes X W) :
    CalR X W Cl n ks (fun vs zs H Q E => ∀ x dx, H x = none → H dx = none → dx ≠ x → sp (gV (.ref x :: vs) zs) (upd (upd H dx (.own x)) x (.ins Cl dx [])) (fun v H2 => v = .non ∧ Q (.ref x) H2) E) := fun pins s σ H us ws vs zs Q I r rz l1 l2 h => by
  have hq := h (s.heap.objs.size + 1) s.heap.objs.size (I.hok.fresh (Nat.le_succ _)) (I.hok.fresh (Nat.le_refl _)) (Nat.ne_of_lt (Nat.lt_succ_self _))
  have I2 := Inv.made (C := Cl) I
  have r1 : Vals (V.ref (s.heap.objs.size + 1) :: vs) (Value.ref (s.heap.objs.size + 1) :: us) := .cons rfl r
  have r2 := hb.rel r1 rz
  have e1 : (Value.ref (s.heap.objs.size + 1) :: us).length = n + 1 := r1.length.symm.trans (congrArg Nat.succ l1)
  have e2 : ws.length = ks.length := rz.length.symm.trans l2
  refine wpAny_call (make_map (f := f) I.kIn M.makes M.init (beq_iff_eq.mp M.fn) (codeAny_mono (F.run _ X.stack _ _ ⟨Value.ref (s.heap.objs.size + 1) :: us, ks.zip ws⟩ (g (Value.ref (s.heap.objs.size + 1) :: us) ws) _ _ _ (hr.make Cl us (ks.zip ws))
    (I2.env0.make Cl us (ks.zip ws)) (hb.to _ (Value.ref (s.heap.objs.size + 1) :: us) ws I2.kIn e1 e2) r2 hq) fun r s' hq' => ?_))
  cases r with
  | error e => exact passAt tk σ pins _ _ e s' I2 hq'
  | ok fl =>
    cases fl with
    | ret u =>
      obtain ⟨v, H', I3, rv, ev, q3⟩ := I2.after hq'
      subst ev
      exact ⟨rv, ⟨V.ref (s.heap.objs.size + 1), H', I3, rfl, q3⟩⟩
    | next => exact False.elim hq'
    | brk => exact False.elim hq'
    | cont => exact False.elim hq'
/-! the three ways to call -/
def tCal (n m : Nat) (cal : Cal) (W : WX) (t tk : TA) : TE := fun σ H Q => t σ H fun vs H1 => tk σ H1 fun zs H2 => vs.length = n ∧ zs.length = m ∧ cal vs zs H2 Q (WE W σ)
/-- how positional arguments stand in the text -/
def PosOk (X : Cx) (es : List Expr) (t : TA) : Prop := (es = [] ∧ t = tNil) ∨ ∃ e r, es = e :: r ∧ starEach (e :: r) X.env = (false, eval e X.env) :: starEach r X.env
theorem callwith_any {pins : List (Addr × Obj)} {s : Shared} {σ : Sv} {H : Hp} {Q : VK} {first : List Value} {fv : List V} (hc : CalR X W f n ks cal) (hk : PySem.W.keepIn X.K (.ref f) = true) (ha : PA X es t) (hkw : PK X kws tk) (hpo : PosOk X es t)
    (hall : (backToKw pos (keywordEach kws X.env)).all (·.1.isSome) = true) (hks : (backToKw pos (keywordEach kws X.env)).filterMap (·.1) = ks)
    (hpl : ((backTo pos (starEach es X.env)).any (·.1) || (backToKw pos (keywordEach kws X.env)).any (·.1.isNone)) = false) (I : Inv X pins σ H s) (rf : Vals fv first)
    (h : t σ H fun vs H1 => tk σ H1 fun zs H2 => (fv ++ vs).length = n ∧ zs.length = ks.length ∧ cal (fv ++ vs) zs H2 Q (WE W σ)) :
    wpAny (model X.prog X.w) X.A (callWith pos (.ref f) first (backTo pos (starEach es X.env)) (backToKw pos (keywordEach kws X.env))) (EP X pins σ Q) X.xe s := by
  rcases hpo with ⟨e0, e1⟩ | ⟨e, r, e0, he⟩
  · subst e0 e1
    refine PySem.W.callWith_KW0 (h₀ := X.base) I.ok.mod.kin hk hall ?_ hpl
    refine thn (hkw.run pos pins s σ H _ I h) fun ws s2 ⟨zs, H2, I2, rz, l1, l2, q2⟩ => ⟨I2.kIn, ?_⟩
    rw [hks]
    exact hc pins s2 σ H2 (first ++ []) ws (fv ++ []) zs Q I2 (rf.append .nil) rz l1 l2 q2
  · subst e0
    refine PySem.W.callWith_KW (h₀ := X.base) I.ok.mod.kin hk hall (thn (ha.run pos pins s σ H _ I h) fun us s1 ⟨vs, H1, I1, r1, q⟩ => ?_) hpl he
    refine thn (hkw.run pos pins s1 σ H1 _ I1 q) fun ws s2 ⟨zs, H2, I2, rz, l1, l2, q2⟩ => ⟨I2.kIn, ?_⟩
    rw [hks]
    exact hc pins s2 σ H2 (first ++ us) ws (fv ++ vs) zs Q I2 (rf.append r1) rz l1 l2 q2
theorem PEs.posOk {ts : List TE} (h : PEs X es ts) : PosOk X es (tConses ts) := by
  cases h with
  | nil => exact .inl ⟨rfl, rfl⟩
  | cons h1 h2 h3 => exact .inr ⟨_, _, rfl, h2⟩
/-- f(..), C(..) by a name of the module -/
theorem pe_cal (hc : CalR X W f n ks cal) (hg : Gl X x) (hm : X.mg x = some (.ref f)) (hk : PySem.W.keepIn X.K (.ref f) = true) (ha : PA X es t) (hkw : PK X kws tk) (hpo : PosOk X es t) (hdb : (x == ("__debug__" : Str)) = false)
    (hall : (backToKw pos (keywordEach kws X.env)).all (·.1.isSome) = true) (hks : (backToKw pos (keywordEach kws X.env)).filterMap (·.1) = ks)
    (hpl : ((backTo pos (starEach es X.env)).any (·.1) || (backToKw pos (keywordEach kws X.env)).any (·.1.isNone)) = false) :
    PE X (.Call (.Name x p) es kws pos) (tCal n ks.length cal W t tk) := by
  refine ⟨fun pins s σ H Q I h => ?_⟩
  refine wpAny_Call_Name_kw (ld_glob I hg hm ?_ hdb)
  exact callwith_any (first := []) (fv := []) hc hk ha hkw hpo hall hks hpl I .nil h
/-- o.m(..), o an instance -/
def tCalM (Cl : Addr) (mn : Str) (n m : Nat) (cal : Cal) (W : WX) (te : TE) (t tk : TA) : TE := fun σ H Q => te σ H fun x H0 => ∃ a dx fs, x = .ref a ∧ H0 a = some (.ins Cl dx fs) ∧ fs.lookup mn = none ∧
  t σ H0 fun vs H1 => tk σ H1 fun zs H2 => vs.length = n ∧ zs.length = m ∧ cal (x :: vs) zs H2 Q (WE W σ)
theorem pe_calM {pl : Sem Bool} (hc : CalR X W f (n + 1) ks cal) (he : PE X o te) (c : Cls X.K Cl) (hm : Meth X.K Cl m f) (ha : PA X es t) (hkw : PK X kws tk) (hpo : PosOk X es t)
    (hall : (backToKw pos (keywordEach kws X.env)).all (·.1.isSome) = true) (hks : (backToKw pos (keywordEach kws X.env)).filterMap (·.1) = ks)
    (hpl : ((backTo pos (starEach es X.env)).any (·.1) || (backToKw pos (keywordEach kws X.env)).any (·.1.isNone)) = false)
    (ht : eval (.Call (.Attribute o m apos) es kws pos) X.env = (do
      let ov ← eval o X.env
      standAt apos.atName
      let (f, first) ← holding [ov] (getMethod ov m pl)
      callWith pos f first (backTo pos (starEach es X.env)) (backToKw pos (keywordEach kws X.env)))) :
    PE X (.Call (.Attribute o m apos) es kws pos) (tCalM Cl m n ks.length cal W te t tk) := by
  refine ⟨fun pins s σ H Q I h => ?_⟩
  refine PySem.W.methodCall_KW (pl := pl) (thn (he.run pins s σ H _ I h) fun u s1 ⟨x, H1, I1, rx, a, dx, fs, ex, ea, l, q⟩ => ?_) ht
  subst ex
  obtain rfl : u = Value.ref a := rx
  refine getmeth_ok I1 ea c hm l ?_
  refine callwith_any (first := [.ref a]) (fv := [.ref a]) hc hm.kp ha hkw hpo hall hks hpl I1 (.cons rfl .nil) ?_
  have e1 : (fun (vs : List V) (H1 : Hp) => tk σ H1 fun zs H2 => ([V.ref a] ++ vs).length = n + 1 ∧ zs.length = ks.length ∧ cal ([V.ref a] ++ vs) zs H2 Q (WE W σ)) = fun vs H1 => tk σ H1 fun zs H2 => vs.length = n ∧ zs.length = ks.length ∧ cal (.ref a :: vs) zs H2 Q (WE W σ) := by
    funext vs H1
    congr 1
    funext zs H2
    simp
  rw [e1]
  exact q
/-- C.m(..), m a staticmethod: its record at r, its def at f -/
structure SMet (K : PySem.W.Frag) (C : Addr) (mc : Value) (m : Str) (r f : Addr) : Prop where
  rd : PySem.W.readsIn K C mc = true
  ga : PySem.W.specialIn K (.ref C) "__getattribute__" = some (some (.builtin "type.__getattribute__"))
  at_ : PySem.W.findCls K (.ref C) mc m = some (.get (.builtin "staticmethod.__get__") (.ref r) .none (.ref C))
  rc : ∃ rest, PySem.W.recIn K r "staticmethod" = some (.ref f :: rest)
  kp : PySem.W.keepIn K (.ref f) = true
theorem pe_calS {pl : Sem Bool} {mc : Value} {r : Addr} (hc : CalR X W f n ks cal) (hg : Gl X x) (hx : X.mg x = some (.ref Cl)) (hm : SMet X.K Cl mc m r f) (ha : PA X es t) (hkw : PK X kws tk) (hpo : PosOk X es t) (hdb : (x == ("__debug__" : Str)) = false)
    (hall : (backToKw pos (keywordEach kws X.env)).all (·.1.isSome) = true) (hks : (backToKw pos (keywordEach kws X.env)).filterMap (·.1) = ks)
    (hpl : ((backTo pos (starEach es X.env)).any (·.1) || (backToKw pos (keywordEach kws X.env)).any (·.1.isNone)) = false)
    (ht : eval (.Call (.Attribute (.Name x p) m apos) es kws pos) X.env = (do
      let ov ← eval (.Name x p) X.env
      standAt apos.atName
      let (f, first) ← holding [ov] (getMethod ov m pl)
      callWith pos f first (backTo pos (starEach es X.env)) (backToKw pos (keywordEach kws X.env)))) :
    PE X (.Call (.Attribute (.Name x p) m apos) es kws pos) (tCal n ks.length cal W t tk) := by
  refine ⟨fun pins s σ H Q I h => ?_⟩
  refine PySem.W.methodCall_KW (pl := pl) (ld_glob I hg hx ?_ hdb) ht
  obtain ⟨rest, hp⟩ := hm.rc
  refine PySem.W.method_cls I.kIn hm.ga (PySem.W.cls_bind I.kIn hm.rd hm.at_ (wpAny_call (PySem.W.sm_get (s := { s with toks := s.toks + 1 }) I.kIn hp (PySem.W.handed_on rfl ?_))))
  exact callwith_any (first := []) (fv := []) hc hm.kp ha hkw hpo hall hks hpl (I.tok _) .nil h
end
end Pt
set_option maxRecDepth 100000
set_option maxHeartbeats 1000000
namespace Pt
open PySem PySem.Spec PyProof.Rows L2
/-- the places of xs told by src, in order -/
def sel {α : Type} (src : List Nat) (xs : List α) : List α := src.filterMap fun i => xs[i]?
theorem reps_sel {K : PySem.W.Frag} {NT : List Str} {H : Hp} {ok : Addr → Prop} {xs : List D} {vs : List V} (r : Reps K NT H ok xs vs) : ∀ src : List Nat, Reps K NT H ok (sel src xs) (sel src vs)
  | [] => rfl
  | i :: src => by
    unfold sel
    rw [List.filterMap_cons, List.filterMap_cons]
    cases e : xs[i]? with
    | none =>
      have e2 : vs[i]? = none := by
        rw [List.getElem?_eq_none_iff] at e ⊢
        rw [reps_len r]
        exact e
      rw [e2]
      exact reps_sel r src
    | some d =>
      obtain ⟨v, e2, q⟩ := reps_get r e
      rw [e2]
      exact ⟨v, _, rfl, q, reps_sel r src⟩
/-- what is called with what -/
def callD (n m np : Nat) (src : List Nat) (dds : List D) (fd : FDen) (ds es : List D) : FR :=
  if ds.length = n ∧ es.length = m ∧ (sel src (ds ++ es ++ dds)).length = np then fd (sel src (ds ++ es ++ dds)) else .stuck
def callD1 (n m np : Nat) (src : List Nat) (dds : List D) (fd : FDen) (d0 : D) (ds es : List D) : FR :=
  if ds.length = n ∧ es.length = m ∧ (sel src (ds ++ es ++ dds)).length + 1 = np then fd (d0 :: sel src (ds ++ es ++ dds)) else .stuck
/-- a call to which nothing is lent -/
def dCall (cd : List D → List D → FR) (das dks : ADen) : Den := fun σ => match das σ with
  | .ok ds σ1 => (match dks σ1 with
    | .ok es σ2 => (match cd ds es with
      | .ret d _ => .ok d σ2
      | .exc x _ => .exc x σ2
      | .stuck => .stuck)
    | .exc x σ2 => .exc x σ2
    | .stuck => .stuck)
  | .exc x σ1 => .exc x σ1
  | .stuck => .stuck
/-- slot j's thing is lent -/
def dCallI (j : Nat) (cd : D → List D → List D → FR) (das dks : ADen) : Den := fun σ => match das σ with
  | .ok ds σ1 => (match dks σ1 with
    | .ok es σ2 => (match σ2[j]? with
      | some (some d0) => (match cd d0 ds es with
        | .ret d o => .ok d (σ2.set j (some o))
        | .exc x o => .exc x (σ2.set j (some o))
        | .stuck => .stuck)
      | _ => .stuck)
    | .exc x σ2 => .exc x σ2
    | .stuck => .stuck)
  | .exc x σ1 => .exc x σ1
  | .stuck => .stuck
def dCallM (j : Nat) (cd : D → List D → List D → FR) (das dks : ADen) : Den := fun σ => match σ[j]? with
  | some (some _) => dCallI j cd das dks σ
  | _ => .stuck
/-- a new instance: what __init__ makes of it -/
def dMake (cd : List D → List D → FR) (das dks : ADen) : Den := fun σ => match das σ with
  | .ok ds σ1 => (match dks σ1 with
    | .ok es σ2 => (match cd ds es with
      | .ret .non o => .ok o σ2
      | .exc x _ => .exc x σ2
      | _ => .stuck)
    | .exc x σ2 => .exc x σ2
    | .stuck => .stuck)
  | .exc x σ1 => .exc x σ1
  | .stuck => .stuck
section
variable {K : PySem.W.Frag} {C : Cc} {κ κ1 κ2 : List Sh} {p1 p2 : Bool} {t tk : TA} {das dks : ADen} {n m np : Nat} {src : List Nat} {dds : List D} {dvs : List V} {fd : FDen} {rs : Sh}
theorem ExW.at {r : D → Stt → Prop} {σv : Sv} {H H' : Hp} {l l' : Own} {Lo : Addr → Prop} {σd' : Stt} {x : D} {c : Value} {dd : Option Addr} (h : ExW K C r σv H l Lo) (hr : r x σd') (S : SOk K C κ σd' σv H' l' Lo) (w : wkB κ C.κx = true) (R : RepX K C.NT H' (okOf l' Lo) x c dd) (g : Go l H l' [] H') : C.W c dd σv H' := by
  obtain ⟨S2, g2⟩ := S.weak (wk_of w)
  exact h x σd' hr c dd H' _ S2 (R.mono g2.kp) (g.trans g2)
theorem okNil {l : Own} {Lo : Addr → Prop} : ∀ a, okOf l (LoX Lo []) a → okOf l Lo a := fun a o => ⟨o.1, fun z => o.2 (.inl z)⟩
theorem sim_call (ha : SimF K C κ t das κ1 p1) (hk : SimF K C κ1 tk dks κ2 p2) (hd : ∀ H ok, Reps K C.NT H ok dds dvs) (w : wkB κ2 C.κx = true) :
    SimT K C κ (tCal n m (fun vs zs => spOf K C.NT np none rs fd (sel src (vs ++ zs ++ dvs))) C.W t tk) (dCall (callD n m np src dds fd) das dks) rs κ2 false := fun σd σv H l Lo Q S ns hok hex => by
  unfold dCall at ns
  refine ha σd σv H l Lo _ S (fun z => ns (by rw [z])) (fun ds σ1 e vs H1 l1 S1 R1 g1 _ => ?_) (fun x σ1 e => hex x σ1 (by unfold dCall; rw [e]))
  rw [e] at ns
  dsimp only at ns
  refine hk σ1 σv H1 l1 Lo _ S1 (fun z => ns (by rw [z])) (fun es σ2 e2 zs H2 l2 S2 R2 g2 _ => ?_) (hex.go0 g1 fun x σ e2 => by unfold dCall; rw [e]; dsimp only; rw [e2])
  rw [e2] at ns
  dsimp only at ns
  have R1' := R1.mono (g2.kp (Lo := Lo))
  by_cases hc : ds.length = n ∧ es.length = m ∧ (sel src (ds ++ es ++ dds)).length = np
  · have ec : callD n m np src dds fd ds es = fd (sel src (ds ++ es ++ dds)) := by unfold callD; rw [if_pos hc]
    refine ⟨(reps_len R1').trans hc.1, (reps_len R2).trans hc.2.1, sel src (ds ++ es ++ dds), okOf l2 Lo, [], hc.2.2, ⟨rfl, reps_sel (reps_append (reps_append R1' R2) (hd _ _)) src⟩, fun z => ns (by rw [ec, z]), fun d o e3 v H' l3 lx A L R => ?_, fun x o e3 c dd H' l3 A L R => ?_⟩
    · have L : l3 = [] := L
      subst L
      obtain ⟨S3, g3, hA⟩ := S2.aft0 A
      exact hok d σ2 (by unfold dCall; rw [e]; dsimp only; rw [e2]; dsimp only; rw [ec, e3]) v H' l2 lx S3 (R.mono (kp_ok hA) fun a u _ e => e) A.nx (g1.trans (g2.trans g3)) (fun q => nomatch q)
    · have L : l3 = [] := L
      subst L
      obtain ⟨S3, g3, hA⟩ := S2.aft0 A
      exact hex.at (by unfold dCall; rw [e]; dsimp only; rw [e2]; dsimp only; rw [ec, e3]) S3.drop w (R.mono (kp_ok fun a o => okNil a (hA a o))) (g1.trans (g2.trans g3))
  · exact absurd (by unfold callD; rw [if_neg hc]) ns
theorem sim_callM {j : Nat} {s : Sh} (hj : kd κ2 j = s) (ha : SimF K C κ t das κ1 p1) (hk : SimF K C κ1 tk dks κ2 p2) (hd : ∀ H ok, Reps K C.NT H ok dds dvs) (w : wkB κ2 C.κx = true) :
    SimT K C κ (tCal (n + 1) m (fun vs zs => spOf K C.NT np (some s) rs fd (vs.take 1 ++ sel src (vs.drop 1 ++ zs ++ dvs))) C.W (tCons (tVar j) t) tk) (dCallM j (callD1 n m np src dds fd) das dks) rs κ2 false := fun σd σv H l Lo Q S ns hok hex => by
  cases q0 : σd[j]? with
  | none => exact absurd (by unfold dCallM; rw [q0]) ns
  | some q1 =>
  cases q1 with
  | none => exact absurd (by unfold dCallM; rw [q0]) ns
  | some d00 =>
  have eqD : dCallM j (callD1 n m np src dds fd) das dks σd = dCallI j (callD1 n m np src dds fd) das dks σd := by unfold dCallM; rw [q0]
  rw [eqD] at ns
  simp only [eqD] at hok
  have hex : ExW K C (fun x σd' => dCallI j (callD1 n m np src dds fd) das dks σd = .exc x σd') σv H l Lo := fun x σd' e => hex x σd' (eqD.trans e)
  obtain ⟨v0, ev0, _⟩ := S.val j d00 q0
  unfold dCallI at ns
  refine ⟨v0, ev0, ?_⟩
  refine ha σd σv H l Lo _ S (fun z => ns (by rw [z])) (fun ds σ1 e vs H1 l1 S1 R1 g1 _ => ?_) (fun x σ1 e => hex x σ1 (by unfold dCallI; rw [e]))
  rw [e] at ns
  dsimp only at ns
  refine hk σ1 σv H1 l1 Lo _ S1 (fun z => ns (by rw [z])) (fun es σ2 e2 zs H2 l2 S2 R2 g2 _ => ?_) (hex.go0 g1 fun x σ e2 => by unfold dCallI; rw [e]; dsimp only; rw [e2])
  rw [e2] at ns
  dsimp only at ns
  have R1' := R1.mono (g2.kp (Lo := Lo))
  cases q2 : σ2[j]? with
  | none => rw [q2] at ns; exact absurd rfl ns
  | some q3 =>
  cases q3 with
  | none => rw [q2] at ns; exact absurd rfl ns
  | some d0 =>
  rw [q2] at ns
  dsimp only at ns
  obtain ⟨v, ev, r0⟩ := S2.val j d0 q2
  rw [ev0] at ev
  cases ev
  by_cases hc : ds.length = n ∧ es.length = m ∧ (sel src (ds ++ es ++ dds)).length + 1 = np
  · have ec : callD1 n m np src dds fd d0 ds es = fd (d0 :: sel src (ds ++ es ++ dds)) := by unfold callD1; rw [if_pos hc]
    have hrel := reps_sel (reps_append (reps_append R1' R2) (hd H2 (okOf l2 Lo))) src
    refine ⟨by simp only [List.length_cons]; rw [(reps_len R1').trans hc.1], (reps_len R2).trans hc.2.1, d0 :: sel src (ds ++ es ++ dds), okOf l2 Lo, l2 j, hc.2.2, ⟨d0, _, v0, _, rfl, rfl, by rw [← hj]; exact r0, S2.nd j, fun a ma => ⟨S2.tr j a ma, fun z => z.1 j ma⟩, hrel⟩, fun z => ns (by rw [ec, z]), fun d o e3 v H' l3 lx A L R => ?_, fun x o e3 c dd H' l3 A L R => ?_⟩
    · obtain ⟨v1, hv1, L⟩ := L
      have hv1 : some v0 = some v1 := hv1
      cases hv1
      obtain ⟨S3, g3, hA⟩ := S2.aft1 q2 ev0 A (by rw [hj]; exact L)
      exact hok d _ (by unfold dCallI; rw [e]; dsimp only; rw [e2]; dsimp only; rw [q2]; dsimp only; rw [ec, e3]) v H' _ lx S3 (R.mono (kp_ok hA) fun a u _ e => e) A.nx (g1.trans (g2.trans g3)) (fun q => nomatch q)
    · obtain ⟨v1, hv1, L⟩ := L
      have hv1 : some v0 = some v1 := hv1
      cases hv1
      obtain ⟨S3, g3, hA⟩ := S2.aft1 q2 ev0 A (by rw [hj]; exact L)
      exact hex.at (by unfold dCallI; rw [e]; dsimp only; rw [e2]; dsimp only; rw [q2]; dsimp only; rw [ec, e3]) S3.drop w (R.mono (kp_ok fun a o => okNil a (hA a o))) (g1.trans (g2.trans g3))
  · exact absurd (by unfold callD1; rw [if_neg hc]) ns
end
end Pt
set_option maxRecDepth 100000
set_option maxHeartbeats 1000000
namespace Pt
open PySem PySem.Spec PyProof.Rows L2
/-! ### fields by number -/
section
variable {K : PySem.W.Frag} {NT : List Str} {H H' : Hp} {ok ok' : Addr → Prop}
/-- all numbers are names -/
def fldOk (L : Nat) (fs : List (Nat × D)) : Bool := fs.all fun p => Nat.blt p.1 L
def fldGet (k : Nat) : List (Nat × D) → Option D
  | [] => none
  | (i, d) :: r => if Nat.beq i k then some d else fldGet k r
def fldPut (k : Nat) (d : D) : List (Nat × D) → List (Nat × D)
  | [] => [(k, d)]
  | (i, x) :: r => if Nat.beq i k then (i, d) :: r else (i, x) :: fldPut k d r
theorem nm_ne (hN : NT.Nodup) {i k : Nat} (hi : i < NT.length) (hk : k < NT.length) (h : i ≠ k) : nm NT i ≠ nm NT k := fun e => by
  unfold nm at e
  rw [List.getD_eq_getElem?_getD, List.getD_eq_getElem?_getD, List.getElem?_eq_getElem hi, List.getElem?_eq_getElem hk] at e
  exact h (nodup_ix hN (List.getElem?_eq_getElem hi) ((List.getElem?_eq_getElem hk).trans (congrArg some (by simpa using e.symm))))
theorem repF_get (hN : NT.Nodup) {k : Nat} (hk : k < NT.length) : ∀ {fs : List (Nat × D)} {fv : List (Str × V)}, fldOk NT.length fs = true → RepF K NT H ok fs fv → match fldGet k fs with
    | some d => ∃ v, fv.lookup (nm NT k) = some v ∧ Rep K NT H ok d v
    | none => fv.lookup (nm NT k) = none
  | [], fv, _, r => by rw [show fv = [] from r]; rfl
  | (i, d) :: fs, fv, hb, ⟨v, r, e, q, qs⟩ => by
    subst e
    obtain ⟨h1, h2⟩ := Bool.and_eq_true_iff.mp (show (Nat.blt i NT.length && fldOk NT.length fs) = true from hb)
    have hi : i < NT.length := Nat.blt_eq.mp h1
    unfold fldGet
    by_cases q0 : i = k
    · subst q0
      rw [if_pos (Nat.beq_refl i)]
      exact ⟨v, by simp [List.lookup], q⟩
    · have q1 : Nat.beq i k = false := by
        cases z : Nat.beq i k with
        | false => rfl
        | true => exact absurd (Nat.eq_of_beq_eq_true z) q0
      rw [q1]
      have q2 : (nm NT k == nm NT i) = false := by simpa using nm_ne hN hk hi (Ne.symm q0)
      have ih := repF_get hN hk (fs := fs) (fv := r) h2 qs
      simp only [Bool.false_eq_true, if_false]
      rw [List.lookup_cons, q2]
      exact ih
theorem repF_put (hN : NT.Nodup) {k : Nat} (hk : k < NT.length) {d : D} {v : V} (hd : Rep K NT H ok d v) : ∀ {fs : List (Nat × D)} {fv : List (Str × V)}, fldOk NT.length fs = true → RepF K NT H ok fs fv → RepF K NT H ok (fldPut k d fs) (putF (nm NT k) v fv)
  | [], fv, _, r => by rw [show fv = [] from r]; exact ⟨v, [], rfl, hd, rfl⟩
  | (i, x) :: fs, fv, hb, ⟨w, r, e, q, qs⟩ => by
    subst e
    obtain ⟨h1, h2⟩ := Bool.and_eq_true_iff.mp (show (Nat.blt i NT.length && fldOk NT.length fs) = true from hb)
    have hi : i < NT.length := Nat.blt_eq.mp h1
    unfold fldPut putF
    by_cases q0 : i = k
    · subst q0
      rw [if_pos (Nat.beq_refl i), if_pos rfl]
      exact ⟨v, r, rfl, hd, qs⟩
    · have q1 : Nat.beq i k = false := by
        cases z : Nat.beq i k with
        | false => rfl
        | true => exact absurd (Nat.eq_of_beq_eq_true z) q0
      rw [q1, if_neg (nm_ne hN hi hk q0)]
      exact ⟨w, _, rfl, q, repF_put hN hk hd h2 qs⟩
theorem repF_len : ∀ {fs : List (Nat × D)} {fv : List (Str × V)}, RepF K NT H ok fs fv → fv.length = fs.length
  | [], _, e => by rw [show _ = [] from e]; rfl
  | (_, _) :: _, _, ⟨v, r, e1, q1, q2⟩ => by rw [e1, List.length_cons, List.length_cons, repF_len q2]
end
/-! ### attributes -/
def rFld (K : PySem.W.Frag) (f : Str) : List V → Hp → VK → Prop := fun vs H Q => ∃ a C dx fs v, vs = [.ref a] ∧ H a = some (.ins C dx fs) ∧ Cls K C ∧ NoAttr K C f ∧ fs.lookup f = some v ∧ Q v H
/-- the classes by number whose instances have this field -/
def fFld (L : Nat) (cls : List Nat) (k : Nat) : List D → Option D := fun ds => match ds with
  | [.obj C fs] => if cls.any (Nat.beq C) && fldOk L fs then fldGet k fs else none
  | _ => none
structure FldOk (K : PySem.W.Frag) (NT : List Str) (cls : List Nat) (k : Nat) : Prop where
  hN : NT.Nodup
  hk : k < NT.length
  c : ∀ C, cls.any (Nat.beq C) = true → Cls K (ga K NT C) ∧ NoAttr K (ga K NT C) (nm NT k)
theorem sp_fld {K : PySem.W.Frag} {NT : List Str} {cls : List Nat} {k : Nat} (F : FldOk K NT cls k) : OpSpec K NT (rFld K (nm NT k)) (fFld NT.length cls k) .f true := fun H ok ds vs d Q R ef hq => by
  unfold fFld at ef
  split at ef
  · rename_i C fs
    split at ef
    · rename_i hc
      obtain ⟨h1, h2⟩ := Bool.and_eq_true_iff.mp hc
      obtain ⟨v, r, e, ⟨a, dx, fv, e2, e3, rf⟩, e4⟩ := R
      have e4 : r = [] := e4
      subst e e4 e2
      have g := repF_get F.hN F.hk h2 rf
      rw [ef] at g
      obtain ⟨v, l, q⟩ := g
      obtain ⟨c1, c2⟩ := F.c C h1
      exact ⟨a, _, dx, fv, v, rfl, e3, c1, c2, l, hq v H [] (Grow.refl H) ⟨rfl, q.mono (kp_ok fun a o => ⟨o, by simp⟩)⟩ List.nodup_nil fun _ => ⟨rfl, rfl⟩⟩
    · cases ef
  · cases ef
section
variable {X : Cx} {C : Cc} {κ κ1 κ2 κ3 κ' κb : List Sh} {s rs : Sh} {p p1 p2 : Bool} {a b c e : Expr} {es : List Expr} {da db : Den} {das dks : ADen} {pos apos : Pos} {sd : SDen}
theorem ee_fld {f : Str} {k : Nat} {cls : List Nat} (F : FldOk X.K C.NT cls k) (hf : nm C.NT k = f) (ha : AE X C κ [a] das κ' p) (hb : attributeBase a f X.env (eval a X.env) = eval a X.env := by rfl) : EE X C κ (.Attribute a f pos) (dOp (fFld C.NT.length cls k) das) .f κ' (p && true) := by
  obtain ⟨ta, h1, h3⟩ := ha.one
  subst hf
  refine ⟨_, pe_fld h1 hb, ?_⟩
  have h := sim_op (sp_fld F) h3
  intro σd σv H l Lo Q S ns hok hex
  have z := h σd σv H l Lo Q S ns hok hex
  refine (?_ : tCons ta tNil σv H (fun vs H1 => rFld X.K (nm C.NT k) vs H1 Q) → tFld X.K ta (nm C.NT k) σv H Q) z
  intro z
  have e : (fun x H1 => tNil σv H1 fun xs H2 => (fun vs H1 => rFld X.K (nm C.NT k) vs H1 Q) (x :: xs) H2) = fun x H1 => ∃ a C_1 dx fs v, x = .ref a ∧ H1 a = some (.ins C_1 dx fs) ∧ Cls X.K C_1 ∧ NoAttr X.K C_1 (nm C.NT k) ∧ fs.lookup (nm C.NT k) = some v ∧ Q v H1 := by
    funext x H1
    apply propext
    constructor
    · rintro ⟨a, C, dx, fs, v, e1, r⟩
      cases e1
      exact ⟨a, C, dx, fs, v, rfl, r⟩
    · rintro ⟨a, C, dx, fs, v, e1, r⟩
      subst e1
      exact ⟨a, C, dx, fs, v, rfl, r⟩
  have z2 : ta σv H (fun x H1 => tNil σv H1 fun xs H2 => (fun vs H1 => rFld X.K (nm C.NT k) vs H1 Q) (x :: xs) H2) := z
  rw [e] at z2
  exact z2
/-- x.f = e, x an owned instance -/
def sFldD (i : Nat) (L : Nat) (cls : List Nat) (k : Nat) (da : Den) : SDen := fun σ => match da σ with
  | .ok d σ1 => (match σ1[i]? with
    | some (some (.obj Cl fs)) => if cls.any (Nat.beq Cl) && fldOk L fs && Nat.blt fs.length 1000 then .nx (σ1.set i (some (.obj Cl (fldPut k d fs)))) else .stuck
    | _ => .stuck)
  | .exc x σ1 => .exc x σ1
  | .stuck => .stuck
theorem SOk.objAt {K : PySem.W.Frag} {σd : Stt} {σv : Sv} {H : Hp} {l : Own} {Lo : Addr → Prop} (S : SOk K C κ σd σv H l Lo) {i : Nat} {Cl : Nat} {fs : List (Nat × D)} (e : σd[i]? = some (some (.obj Cl fs))) (hk : kd κ i = .o) :
    ∃ a dx fv, σv[i]? = some (some (.ref a)) ∧ l i = [a] ∧ H a = some (.ins (ga K C.NT Cl) dx fv) ∧ RepF K C.NT H (okOf l Lo) fs fv := by
  obtain ⟨v, ev, r⟩ := S.val i _ e
  rw [hk] at r
  obtain ⟨C', fs', a, dx, fv, e1, e2, e3, e4, r⟩ := r
  cases e1
  subst e2
  exact ⟨a, dx, fv, ev, e3, e4, r⟩
theorem ss_fld {x f : Str} {xp fp : Pos} {cls : List Nat} {k : Nat} (i j : Nat) (vis : List Str) (hv : VisOk X vis) (hN : X.N[i]? = some x) (hj : vis[j]? = some x) (F : FldOk X.K C.NT cls k) (hf : nm C.NT k = f) (he : EE X C κ e da .f κ1 p) (hk : kd κ1 i = .o)
    (hs : swapsWith e (some (.Attribute (.Name x xp) f fp)) pos.line X.env = pure false := by rfl) : SS X C κ (.Assign [.Attribute (.Name x xp) f fp] e pos) (sFldD i C.NT.length cls k da) κ1 κb rs := by
  obtain ⟨t, h1, h2⟩ := he
  obtain ⟨v1, v2, v3⟩ := hv x (List.mem_of_getElem? hj)
  subst hf
  refine ⟨_, ps_fld (pe_var hN v1 v2 v3) h1 hs, fun σd σv H l Lo E S ns hn hb hc hr hx => ?_⟩
  unfold sFldD at ns
  refine h2 σd σv H l Lo _ S (fun z => ns (by rw [z])) (fun d σ1 e1 v H1 l1 lx S1 R nd g hp => ?_) (fun x σ1 e1 c dd H' l' => hx x σ1 (by unfold sFldD; rw [e1]) c dd σv H' l')
  rw [e1] at ns
  obtain ⟨z0, R⟩ := R
  subst z0
  dsimp only at ns
  split at ns
  · rename_i Cl fs e2
    split at ns
    · rename_i hc0
      obtain ⟨h12, h3⟩ := Bool.and_eq_true_iff.mp hc0
      obtain ⟨h1', h2'⟩ := Bool.and_eq_true_iff.mp h12
      obtain ⟨a, dx, fv, ev, el, eH, er⟩ := S1.drop.objAt e2 hk
      obtain ⟨c1, c2⟩ := F.c Cl h1'
      have R' : Rep X.K C.NT H1 (okOf l1 Lo) d v := R.mono (kp_ok okNil)
      have hl : fv.length < 1000 := by rw [repF_len er]; exact Nat.blt_eq.mp h3
      refine ⟨_, ev, a, _, dx, fv, rfl, eH, c1, c2, hl, ?_⟩
      have ha : a ∈ l1 i := by rw [el]; simp
      obtain ⟨S2, g2⟩ := S1.drop.mut (o := .ins (ga X.K C.NT Cl) dx (putF (nm C.NT k) v fv)) (d' := .obj Cl (fldPut k d fs)) ⟨_, e2⟩ ha ⟨_, ev, by
        rw [hk, el]
        refine ⟨Cl, _, a, dx, _, rfl, rfl, rfl, upd_same, (repF_put F.hN F.hk R' h2' er).mono fun b u e o => ⟨?_, o⟩⟩
        rw [upd_ne fun z : b = a => o.1 i (by rw [z]; exact ha)]
        exact e⟩
      exact hn _ (by unfold sFldD; rw [e1]; dsimp only; rw [e2]; dsimp only; rw [if_pos hc0]) σv _ l1 S2 (g.trans g2)
    · exact absurd rfl ns
  · exact absurd rfl ns
end
end Pt
set_option maxRecDepth 100000
set_option maxHeartbeats 1000000
namespace Pt
open PySem PySem.Spec PyProof.Rows L2
def kwE : List Keyword → List Expr
  | [] => []
  | ⟨_, e, _⟩ :: r => e :: kwE r
section
variable {X : Cx}
theorem pk_of : ∀ {kws : List Keyword} {ts : List TE}, PEs X (kwE kws) ts → PK X kws (tConses ts)
  | [], ts, h => by cases h; exact pk_nil
  | ⟨_, e, _⟩ :: r, ts, h => by
    cases h with
    | cons h1 h2 h3 => exact pk_cons h1 (pk_of h3)
end
/-- instances: none of the fields hides the method -/
def recvOk (L Ci mi : Nat) (d : D) : Bool := match d with
  | .obj Cl fs => Nat.beq Cl Ci && fldOk L fs && (fldGet mi fs).isNone
  | _ => false
def dCallO (L Ci mi j : Nat) (cd : D → List D → List D → FR) (das dks : ADen) : Den := fun σ => match σ[j]? with
  | some (some d) => if recvOk L Ci mi d then dCallI j cd das dks σ else .stuck
  | _ => .stuck
def dMethF (L Ci mi : Nat) (cd : List D → List D → FR) (d0 : Den) (das dks : ADen) : Den := fun σ => match d0 σ with
  | .ok d σ0 => if recvOk L Ci mi d then dCall (fun ds es => cd (d :: ds) es) das dks σ0 else .stuck
  | .exc x σ0 => .exc x σ0
  | .stuck => .stuck
section
variable {K : PySem.W.Frag} {C : Cc} {κ κ0 κ1 κ2 : List Sh} {p0 p1 p2 : Bool} {t tk : TA} {te : TE} {d0 : Den} {das dks : ADen} {n m np : Nat} {src : List Nat} {dds : List D} {dvs : List V} {fd : FDen} {rs : Sh}
theorem sim_make {Ci : Nat} (ha : SimF K C κ t das κ1 p1) (hk : SimF K C κ1 tk dks κ2 p2) (hd : ∀ H ok, Reps K C.NT H ok dds dvs) (w : wkB κ2 C.κx = true) :
    SimT K C κ (tCal n m (fun vs zs H Q E => ∀ x dx, H x = none → H dx = none → dx ≠ x → spOf K C.NT np (some .o) .f fd ((V.ref x :: vs).take 1 ++ sel src ((V.ref x :: vs).drop 1 ++ zs ++ dvs)) (upd (upd H dx (.own x)) x (.ins (ga K C.NT Ci) dx [])) (fun v H2 => v = .non ∧ Q (.ref x) H2) E) C.W t tk)
      (dMake (callD1 n m np src dds fd (.obj Ci [])) das dks) .o κ2 false := fun σd σv H l Lo Q S ns hok hex => by
  unfold dMake at ns
  refine ha σd σv H l Lo _ S (fun z => ns (by rw [z])) (fun ds σ1 e vs H1 l1 S1 R1 g1 _ => ?_) (fun x σ1 e => hex x σ1 (by unfold dMake; rw [e]))
  rw [e] at ns
  dsimp only at ns
  refine hk σ1 σv H1 l1 Lo _ S1 (fun z => ns (by rw [z])) (fun es σ2 e2 zs H2 l2 S2 R2 g2 _ => ?_) (hex.go0 g1 fun x σ e2 => by unfold dMake; rw [e]; dsimp only; rw [e2])
  rw [e2] at ns
  dsimp only at ns
  have R1' := R1.mono (g2.kp (Lo := Lo))
  by_cases hc : ds.length = n ∧ es.length = m ∧ (sel src (ds ++ es ++ dds)).length + 1 = np
  · have ec : callD1 n m np src dds fd (.obj Ci []) ds es = fd (.obj Ci [] :: sel src (ds ++ es ++ dds)) := by unfold callD1; rw [if_pos hc]
    refine ⟨(reps_len R1').trans hc.1, (reps_len R2).trans hc.2.1, fun x dx hx hdx hne => ?_⟩
    have h0 : ∀ a u, H2 a = some u → (upd (upd H2 dx (.own x)) x (.ins (ga K C.NT Ci) dx [])) a = some u := fun a u ea => by
      rw [upd_ne (ne_of_none ea hx), upd_ne (ne_of_none ea hdx)]
      exact ea
    have hback : ∀ a, (upd (upd H2 dx (.own x)) x (.ins (ga K C.NT Ci) dx [])) a = none → H2 a = none := fun a ea => by
      cases q : H2 a with
      | none => rfl
      | some u => exact nomatch (h0 a u q).symm.trans ea
    have kp : Kp H2 (upd (upd H2 dx (.own x)) x (.ins (ga K C.NT Ci) dx [])) (okOf l2 Lo) (fun a => okOf l2 Lo a ∧ a ≠ x) := fun a u ea o => ⟨h0 a u ea, o, ne_of_none ea hx⟩
    have hrel := (reps_sel (reps_append (reps_append R1' R2) (hd H2 (okOf l2 Lo))) src).mono kp
    have hx0 : (upd (upd H2 dx (.own x)) x (.ins (ga K C.NT Ci) dx [])) x = some (.ins (ga K C.NT Ci) dx []) := upd_same
    -- what lies behind
    have aft : ∀ H' l3 lx, Aft (upd (upd H2 dx (.own x)) x (.ins (ga K C.NT Ci) dx [])) [x] H' l3 lx → Aft H2 [] H' [] l3 ∧ Aft H2 [] H' [] lx := fun H' l3 lx A =>
      have kk : ∀ a u, H2 a = some u → a ∉ ([] : List Addr) → H' a = some u ∧ a ∉ l3 ∧ a ∉ lx := fun a u ea _ => A.keep a u (h0 a u ea) (by simpa using ne_of_none ea hx)
      ⟨⟨fun a u ea n => ⟨(kk a u ea n).1, by simp, (kk a u ea n).2.1⟩, fun a ea => hback a (A.dom a ea), List.nodup_nil, A.n1, by simp, by simp, A.t1⟩,
       ⟨fun a u ea n => ⟨(kk a u ea n).1, by simp, (kk a u ea n).2.2⟩, fun a ea => hback a (A.dom a ea), List.nodup_nil, A.nx, by simp, by simp, A.tx⟩⟩
    have okk : ∀ l3 lx a, okA (upd (upd H2 dx (.own x)) x (.ins (ga K C.NT Ci) dx [])) (fun a => okOf l2 Lo a ∧ a ≠ x) [x] l3 lx a → okA H2 (okOf l2 Lo) [] [] l3 a ∧ okA H2 (okOf l2 Lo) [] [] lx a := fun l3 lx a o => by
      have z : ¬ ((∃ u, H2 a = some u) ∧ ¬ okOf l2 Lo a ∧ a ∉ ([] : List Addr)) := fun q => by
        obtain ⟨⟨u, eu⟩, q2, _⟩ := q
        exact o.2.2 ⟨⟨u, h0 a u eu⟩, fun z => q2 z.1, by simpa using ne_of_none eu hx⟩
      exact ⟨⟨by simp, o.1, z⟩, ⟨by simp, o.2.1, z⟩⟩
    refine ⟨.obj Ci [] :: sel src (ds ++ es ++ dds), fun a => okOf l2 Lo a ∧ a ≠ x, [x], hc.2.2, ⟨.obj Ci [], _, .ref x, _, rfl, rfl, ⟨Ci, [], x, dx, [], rfl, rfl, rfl, hx0, rfl⟩, by simp, fun a ma => ?_, hrel⟩, fun z => ns (by rw [ec, z]), fun d o e3 v H' l3 lx A L R => ?_, fun xx o e3 c dd H' l3 A L R => ?_⟩
    · simp at ma
      subst ma
      exact ⟨⟨_, hx0⟩, fun z => z.2 rfl⟩
    · obtain ⟨v1, hv1, L⟩ := L
      have hv1 : some (V.ref x) = some v1 := hv1
      cases hv1
      obtain ⟨z0, R⟩ := R
      subst z0
      have e3' : callD1 n m np src dds fd (.obj Ci []) ds es = .ret d o := ec.trans e3
      rw [e3'] at ns
      cases d with
      | non =>
        obtain ⟨A1, A2⟩ := aft H' l3 [] A
        obtain ⟨S3, g3, hA⟩ := S2.aft0 A1
        exact ⟨R, hok o σ2 (by unfold dMake; rw [e]; dsimp only; rw [e2]; dsimp only; rw [e3']) (.ref x) H' l2 l3 S3 (L.mono (kp_ok fun a q => hA a (okk _ _ a q).1) fun a u _ e => e) A.n1 (g1.trans (g2.trans g3)) (fun q => nomatch q)⟩
      | _ => exact absurd rfl ns
    · have e3' : callD1 n m np src dds fd (.obj Ci []) ds es = .exc xx o := ec.trans e3
      obtain ⟨A1, A2⟩ := aft H' l3 [] A
      obtain ⟨S3, g3, hA⟩ := S2.aft0 A2
      exact hex.at (by unfold dMake; rw [e]; dsimp only; rw [e2]; dsimp only; rw [e3']) S3.drop w (R.mono (kp_ok fun a q => okNil a (hA a (okk _ _ a q).2))) (g1.trans (g2.trans g3))
  · exact absurd (by unfold callD1; rw [if_neg hc]) ns
/-- o.m(..), o an owned instance at slot j -/
theorem sim_callO {j Ci mi : Nat} (hN : C.NT.Nodup) (hmi : mi < C.NT.length) (hj0 : kd κ j = .o) (hj : kd κ2 j = .o) (ha : SimF K C κ t das κ1 p1) (hk : SimF K C κ1 tk dks κ2 p2) (hd : ∀ H ok, Reps K C.NT H ok dds dvs) (w : wkB κ2 C.κx = true) :
    SimT K C κ (tCalM (ga K C.NT Ci) (nm C.NT mi) n m (fun vs zs => spOf K C.NT np (some .o) rs fd (vs.take 1 ++ sel src (vs.drop 1 ++ zs ++ dvs))) C.W (tVar j) t tk) (dCallO C.NT.length Ci mi j (callD1 n m np src dds fd) das dks) rs κ2 false := fun σd σv H l Lo Q S ns hok hex => by
  cases q0 : σd[j]? with
  | none => exact absurd (by unfold dCallO; rw [q0]) ns
  | some q1 =>
  cases q1 with
  | none => exact absurd (by unfold dCallO; rw [q0]) ns
  | some d00 =>
  by_cases hr : recvOk C.NT.length Ci mi d00 = true
  · have eqD : dCallO C.NT.length Ci mi j (callD1 n m np src dds fd) das dks σd = dCallM j (callD1 n m np src dds fd) das dks σd := by
      unfold dCallO dCallM
      rw [q0]
      dsimp only
      rw [if_pos hr]
    have base := sim_callM (K := K) (C := C) (κ := κ) (np := np) (src := src) (n := n) (m := m) (fd := fd) (rs := rs) (s := .o) hj ha hk hd w σd σv H l Lo Q S (by rw [← eqD]; exact ns) (by rw [← eqD]; exact hok) (by rw [← eqD]; exact hex)
    cases d00 with
    | obj Cl fs =>
      obtain ⟨h12, h3⟩ := Bool.and_eq_true_iff.mp hr
      obtain ⟨h1, h2⟩ := Bool.and_eq_true_iff.mp h12
      have e0 : Cl = Ci := Nat.eq_of_beq_eq_true h1
      subst e0
      obtain ⟨a, dx, fv, ev, el, eH, er⟩ := S.objAt q0 hj0
      have gl := repF_get hN hmi h2 er
      have h3' : fldGet mi fs = none := Option.isNone_iff_eq_none.mp h3
      rw [h3'] at gl
      obtain ⟨v0, ev0, z⟩ := base
      rw [ev] at ev0
      cases ev0
      refine ⟨_, ev, a, dx, fv, rfl, eH, gl, ?_⟩
      refine (?_ : t σv H (fun vs H1 => (fun ws H1 => tk σv H1 fun zs H2 => ws.length = n + 1 ∧ zs.length = m ∧ spOf K C.NT np (some .o) rs fd (ws.take 1 ++ sel src (ws.drop 1 ++ zs ++ dvs)) H2 Q (WE C.W σv)) (V.ref a :: vs) H1) → _) z
      intro z
      have e1 : (fun (vs : List V) (H1 : Hp) => (fun (ws : List V) (H1 : Hp) => tk σv H1 fun zs H2 => ws.length = n + 1 ∧ zs.length = m ∧ spOf K C.NT np (some .o) rs fd (ws.take 1 ++ sel src (ws.drop 1 ++ zs ++ dvs)) H2 Q (WE C.W σv)) (V.ref a :: vs) H1) =
          fun vs H1 => tk σv H1 fun zs H2 => vs.length = n ∧ zs.length = m ∧ spOf K C.NT np (some .o) rs fd ((V.ref a :: vs).take 1 ++ sel src ((V.ref a :: vs).drop 1 ++ zs ++ dvs)) H2 Q (WE C.W σv) := by
        funext vs H1
        simp only [List.length_cons, Nat.add_right_cancel_iff]
      rw [e1] at z
      exact z
    | _ => cases hr
  · exact absurd (by unfold dCallO; rw [q0]; dsimp only; rw [if_neg hr]) ns
/-- o.m(..), o an instance that is not owned here -/
theorem sim_methF {Ci mi : Nat} (hN : C.NT.Nodup) (hmi : mi < C.NT.length) (h0 : SimT K C κ te d0 .f κ0 p0) (ha : SimF K C κ0 t das κ1 p1) (hk : SimF K C κ1 tk dks κ2 p2) (hd : ∀ H ok, Reps K C.NT H ok dds dvs) (w : wkB κ2 C.κx = true) :
    SimT K C κ (tCalM (ga K C.NT Ci) (nm C.NT mi) n m (fun vs zs => spOf K C.NT np none rs fd (sel src (vs ++ zs ++ dvs))) C.W te t tk) (dMethF C.NT.length Ci mi (callD (n + 1) m np src dds fd) d0 das dks) rs κ2 false := fun σd σv H l Lo Q S ns hok hex => by
  unfold dMethF at ns
  refine h0 σd σv H l Lo _ S (fun z => ns (by rw [z])) (fun d σ0 e v H0 l0 lx S0 R nd g0 hp => ?_) (fun x σ0 e => hex x σ0 (by unfold dMethF; rw [e]))
  rw [e] at ns
  obtain ⟨z0, R⟩ := R
  subst z0
  dsimp only at ns
  by_cases hr : recvOk C.NT.length Ci mi d = true
  · rw [if_pos hr] at ns
    have eqD : dMethF C.NT.length Ci mi (callD (n + 1) m np src dds fd) d0 das dks σd = dCall (fun ds es => callD (n + 1) m np src dds fd (d :: ds) es) das dks σ0 := by
      unfold dMethF
      rw [e]
      dsimp only
      rw [if_pos hr]
    cases d with
    | obj Cl fs =>
      obtain ⟨h12, h3⟩ := Bool.and_eq_true_iff.mp hr
      obtain ⟨h1, h2⟩ := Bool.and_eq_true_iff.mp h12
      have e0 : Cl = Ci := Nat.eq_of_beq_eq_true h1
      subst e0
      have R0 : Rep K C.NT H0 (okOf l0 Lo) (.obj Cl fs) v := R.mono (kp_ok okNil)
      obtain ⟨a, dx, fv, ev, ⟨oa, eH⟩, er⟩ := id R0
      have gl := repF_get hN hmi h2 er
      have h3' : fldGet mi fs = none := Option.isNone_iff_eq_none.mp h3
      rw [h3'] at gl
      refine ⟨a, dx, fv, ev, eH, gl, ?_⟩
      unfold dCall at ns
      refine ha σ0 σv H0 l0 Lo _ S0.drop (fun z => ns (by rw [z])) (fun ds σ1 e1 vs H1 l1 S1 R1 g1 _ => ?_) (hex.go0 g0 fun x σ1 e1 => by rw [eqD]; unfold dCall; rw [e1])
      rw [e1] at ns
      dsimp only at ns
      refine hk σ1 σv H1 l1 Lo _ S1 (fun z => ns (by rw [z])) (fun es σ2 e2 zs H2 l2 S2 R2 g2 _ => ?_) (hex.go0 (g0.trans g1) fun x σ e2 => by rw [eqD]; unfold dCall; rw [e1]; dsimp only; rw [e2])
      rw [e2] at ns
      dsimp only at ns
      have R1' := R1.mono (g2.kp (Lo := Lo))
      have R0' : Rep K C.NT H2 (okOf l2 Lo) (.obj Cl fs) v := (R0.mono g1.kp).mono g2.kp
      have Rr : Reps K C.NT H2 (okOf l2 Lo) (.obj Cl fs :: ds) (v :: vs) := ⟨v, vs, rfl, R0', R1'⟩
      by_cases hc : (.obj Cl fs :: ds).length = n + 1 ∧ es.length = m ∧ (sel src (.obj Cl fs :: ds ++ es ++ dds)).length = np
      · have ec : callD (n + 1) m np src dds fd (.obj Cl fs :: ds) es = fd (sel src (.obj Cl fs :: ds ++ es ++ dds)) := by unfold callD; rw [if_pos hc]
        refine ⟨(reps_len R1').trans (by simpa using hc.1), (reps_len R2).trans hc.2.1, sel src (.obj Cl fs :: ds ++ es ++ dds), okOf l2 Lo, [], hc.2.2, ⟨rfl, reps_sel (reps_append (reps_append Rr R2) (hd _ _)) src⟩, fun z => ns (by rw [ec, z]), fun d o e3 v H' l3 lx A L R => ?_, fun x o e3 c dd H' l3 A L R => ?_⟩
        · have L : l3 = [] := L
          subst L
          obtain ⟨S3, g3, hA⟩ := S2.aft0 A
          exact hok d σ2 (by rw [eqD]; unfold dCall; rw [e1]; dsimp only; rw [e2]; dsimp only; rw [ec, e3]) v H' l2 lx S3 (R.mono (kp_ok hA) fun a u _ e => e) A.nx (g0.trans (g1.trans (g2.trans g3))) (fun q => nomatch q)
        · have L : l3 = [] := L
          subst L
          obtain ⟨S3, g3, hA⟩ := S2.aft0 A
          exact hex.at (by rw [eqD]; unfold dCall; rw [e1]; dsimp only; rw [e2]; dsimp only; rw [ec, e3]) S3.drop w (R.mono (kp_ok fun a o => okNil a (hA a o))) (g0.trans (g1.trans (g2.trans g3)))
      · exact absurd (by unfold callD; rw [if_neg hc]) ns
    | _ => cases hr
  · rw [if_neg hr] at ns
    exact absurd rfl ns
end
end Pt
set_option maxRecDepth 100000
set_option maxHeartbeats 1000000
namespace Pt
open PySem PySem.Spec PyProof.Rows L2
/-! ### how arguments are bound -/
theorem vals_sel : ∀ (src : List Nat) {vs : List V} {us : List Value}, Vals vs us → Vals (sel src vs) (sel src us)
  | [], _, _, _ => .nil
  | i :: src, vs, us, r => by
    unfold sel
    rw [List.filterMap_cons, List.filterMap_cons]
    cases e : vs[i]? with
    | none =>
      have e2 : us[i]? = none := by
        rw [List.getElem?_eq_none_iff] at e ⊢
        rw [← r.length]
        exact e
      rw [e2]
      exact vals_sel src r
    | some v =>
      obtain ⟨u, e2, q⟩ := r.get e
      rw [e2]
      exact .cons q (vals_sel src r)
theorem vals_take {vs : List V} {us : List Value} (r : Vals vs us) : ∀ n : Nat, Vals (vs.take n) (us.take n) := fun n => by
  induction r generalizing n with
  | nil => rw [List.take_nil, List.take_nil]; exact .nil
  | cons a b ih =>
    cases n with
    | zero => exact .nil
    | succ n => exact .cons a (ih n)
theorem vals_drop {vs : List V} {us : List Value} (r : Vals vs us) : ∀ n : Nat, Vals (vs.drop n) (us.drop n) := fun n => by
  induction r generalizing n with
  | nil => rw [List.drop_nil, List.drop_nil]; exact .nil
  | cons a b ih =>
    cases n with
    | zero => exact .cons a b
    | succ n => exact ih n
section
variable {K : PySem.W.Frag} {x qual : Str} {params : Arguments} {body : List Stmt} {scope : Scope} {dvs : List V} {kws : List (Str × V)} {f : Addr} {fd : FuncData} {ps : List Str}
theorem kb_any (F : FunD K x qual params body scope dvs kws f fd) (n : Nat) (ks : List Str) (g : {α : Type} → List α → List α → List α → List α)
    (hrel : ∀ {vs ds zs : List V} {us its ws : List Value}, Vals vs us → Vals ds its → Vals zs ws → Vals (g vs ds zs) (g us its ws))
    (h0 : dvs = [] → ∀ (kV doc pm : Value) (an : Option Addr) (cdv ct : Value) (us ws : List Value), us.length = n → ws.length = ks.length → bindArgs (PySem.W.fnOf x qual params body scope .none kV doc pm an cdv ct) ⟨us, ks.zip ws⟩ = pure (ps.zip (g us [] ws)))
    (h1 : dvs ≠ [] → ∀ (T : Addr) (kV doc pm : Value) (an : Option Addr) (cdv ct : Value) (us its ws : List Value), us.length = n → its.length = dvs.length → ws.length = ks.length →
      ∃ k, bindArgs (PySem.W.fnOf x qual params body scope (.ref T) kV doc pm an cdv ct) ⟨us, ks.zip ws⟩ = seqItems? (.ref T) >>= k ∧ k (some its.toArray) = pure (ps.zip (g us its ws))) :
    ∃ gg, KBn K fd ps n ks gg (fun vs zs => g vs dvs zs) := by
  by_cases hd : dvs = []
  · subst hd
    obtain ⟨oc, od, dV, kV, doc, pm, an, cdv, ct, osl, rfl, lk, hcd, hD, hK⟩ := F.ex
    rcases hD with ⟨_, rfl⟩ | ⟨e, _⟩
    · exact ⟨fun us ws => g us [] ws, ⟨fun s us ws _ l1 l2 => .of_eq (h0 rfl kV doc pm an cdv ct us ws l1 l2), fun r1 r2 => hrel r1 .nil r2⟩⟩
    · exact absurd rfl e
  · obtain ⟨its, h⟩ := F.kbindsD n ks g hd hrel (h1 hd)
    exact ⟨_, h⟩
/-- all positional and named ones in one row, then chosen -/
def gSel (src : List Nat) {α : Type} (vs ds zs : List α) : List α := sel src (vs ++ zs ++ ds)
def gSel1 (src : List Nat) {α : Type} (vs ds zs : List α) : List α := vs.take 1 ++ sel src (vs.drop 1 ++ zs ++ ds)
theorem gSel_rel (src : List Nat) {vs ds zs : List V} {us its ws : List Value} (a : Vals vs us) (b : Vals ds its) (c : Vals zs ws) : Vals (gSel src vs ds zs) (gSel src us its ws) := vals_sel src ((a.append c).append b)
theorem gSel1_rel (src : List Nat) {vs ds zs : List V} {us its ws : List Value} (a : Vals vs us) (b : Vals ds its) (c : Vals zs ws) : Vals (gSel1 src vs ds zs) (gSel1 src us its ws) := (vals_take a 1).append (vals_sel src (((vals_drop a 1).append c).append b))
end
/-- a def that is known: where, its promise -/
structure DefOk (P : Program) (w : World) (K : PySem.W.Frag) (mg : Str → Option Value) (base : Heap) (NT : List Str) (j : Nat) (f : Addr) (fn : FuncData) (ps : List Str) (np : Nat) (m : Option Sh) (rs : Sh) (fd : FDen) : Prop where
  F : FnOk P w K mg base (L2.CX P w) j f fn ps (spOf K NT np m rs fd)
  kp : PySem.W.keepIn K (.ref f) = true
section
variable {X : Cx} {C : Cc} {κ κ0 κ1 κ2 : List Sh} {p0 p1 p2 : Bool} {rs : Sh} {d0 : Den} {das dks : ADen} {n k j np nk : Nat} {src : List Nat} {dds : List D} {dvs : List V} {fd : FDen} {f : Addr} {fn : FuncData} {ps ks : List Str} {x m : Str} {p pos apos : Pos} {o e a : Expr} {es : List Expr} {kws : List Keyword} {gg : List Value → List Value → List Value}
theorem ee_call (G : DefOk X.prog X.w X.K X.mg X.base C.NT j f fn ps np none rs fd) (hr : Room k X.A) (hjk : j ≤ k) (hg : Gl X x) (hm : X.mg x = some (.ref f)) (hb : KBn X.K fn ps n ks gg (fun vs zs => gSel src vs dvs zs)) (hd : ∀ H ok, Reps X.K C.NT H ok dds dvs) (tk : Takes X C.W)
    (ha : FE X C κ es das κ1 p1) (hk : FE X C κ1 (kwE kws) dks κ2 p2) (w : wkB κ2 C.κx = true := by rfl) (hdb : (x == ("__debug__" : Str)) = false := by decide)
    (hkl : ks.length = nk := by rfl) (hall : (backToKw pos (keywordEach kws X.env)).all (·.1.isSome) = true := by rfl) (hks : (backToKw pos (keywordEach kws X.env)).filterMap (·.1) = ks := by rfl)
    (hpl : ((backTo pos (starEach es X.env)).any (·.1) || (backToKw pos (keywordEach kws X.env)).any (·.1.isNone)) = false := by rfl) :
    EE X C κ (.Call (.Name x p) es kws pos) (dCall (callD n nk np src dds fd) das dks) rs κ2 false := by
  subst hkl
  obtain ⟨ts, h1, h2⟩ := ha
  obtain ⟨us, h3, h4⟩ := hk
  exact ⟨_, pe_cal (cal_fn G.F (hr.mono hjk) hb tk) hg hm G.kp h1.pa (pk_of h3) h1.posOk hdb hall hks hpl, sim_call h2 h4 hd w⟩
/-- f(x, ..): x is lent -/
theorem ee_callM {s : Sh} {y : Str} {yp : Pos} (i v : Nat) (vis : List Str) (hv : VisOk X vis) (hN : X.N[i]? = some y) (hj : vis[v]? = some y) (G : DefOk X.prog X.w X.K X.mg X.base C.NT j f fn ps np (some s) rs fd) (hr : Room k X.A) (hjk : j ≤ k) (hg : Gl X x) (hm : X.mg x = some (.ref f)) (hb : KBn X.K fn ps (n + 1) ks gg (fun vs zs => gSel1 src vs dvs zs)) (hd : ∀ H ok, Reps X.K C.NT H ok dds dvs) (tk : Takes X C.W)
    (ha : FE X C κ es das κ1 p1) (hk : FE X C κ1 (kwE kws) dks κ2 p2) (hs : kd κ2 i = s := by rfl) (w : wkB κ2 C.κx = true := by rfl) (hdb : (x == ("__debug__" : Str)) = false := by decide)
    (hst : starEach (.Name y yp :: es) X.env = (false, eval (.Name y yp) X.env) :: starEach es X.env := by rfl)
    (hkl : ks.length = nk := by rfl) (hall : (backToKw pos (keywordEach kws X.env)).all (·.1.isSome) = true := by rfl) (hks : (backToKw pos (keywordEach kws X.env)).filterMap (·.1) = ks := by rfl)
    (hpl : ((backTo pos (starEach (.Name y yp :: es) X.env)).any (·.1) || (backToKw pos (keywordEach kws X.env)).any (·.1.isNone)) = false := by rfl) :
    EE X C κ (.Call (.Name x p) (.Name y yp :: es) kws pos) (dCallM i (callD1 n nk np src dds fd) das dks) rs κ2 false := by
  subst hkl
  obtain ⟨ts, h1, h2⟩ := ha
  obtain ⟨us, h3, h4⟩ := hk
  obtain ⟨v1, v2, v3⟩ := hv y (List.mem_of_getElem? hj)
  have h5 : PEs X (.Name y yp :: es) (tVar i :: ts) := .cons (pe_var hN v1 v2 v3) hst h1
  exact ⟨_, pe_cal (cal_fn G.F (hr.mono hjk) hb tk) hg hm G.kp h5.pa (pk_of h3) h5.posOk hdb hall hks hpl, sim_callM hs h2 h4 hd w⟩
/-- a new instance -/
theorem ee_make {Ci : Nat} {fi : Addr} (M : Mk X.K (ga X.K C.NT Ci) fi) (G : DefOk X.prog X.w X.K X.mg X.base C.NT j fi fn ps np (some .o) .f fd) (hr : Room k X.A) (hjk : j + 1 ≤ k) (hg : Gl X x) (hm : X.mg x = some (.ref (ga X.K C.NT Ci))) (hb : KBn X.K fn ps (n + 1) ks gg (fun vs zs => gSel1 src vs dvs zs)) (hd : ∀ H ok, Reps X.K C.NT H ok dds dvs) (tk : Takes X C.W)
    (ha : FE X C κ es das κ1 p1) (hk : FE X C κ1 (kwE kws) dks κ2 p2) (w : wkB κ2 C.κx = true := by rfl) (hdb : (x == ("__debug__" : Str)) = false := by decide)
    (hkl : ks.length = nk := by rfl) (hall : (backToKw pos (keywordEach kws X.env)).all (·.1.isSome) = true := by rfl) (hks : (backToKw pos (keywordEach kws X.env)).filterMap (·.1) = ks := by rfl)
    (hpl : ((backTo pos (starEach es X.env)).any (·.1) || (backToKw pos (keywordEach kws X.env)).any (·.1.isNone)) = false := by rfl) :
    EE X C κ (.Call (.Name x p) es kws pos) (dMake (callD1 n nk np src dds fd (.obj Ci [])) das dks) .o κ2 false := by
  subst hkl
  obtain ⟨ts, h1, h2⟩ := ha
  obtain ⟨us, h3, h4⟩ := hk
  exact ⟨_, pe_cal (cal_mk M G.F (hr.mono hjk) hb tk) hg hm M.kp h1.pa (pk_of h3) h1.posOk hdb hall hks hpl, sim_make h2 h4 hd w⟩
/-- C.m(..) -/
theorem ee_static {Ci : Nat} {mc : Value} {r : Addr} {pl : Sem Bool} (S : SMet X.K (ga X.K C.NT Ci) mc m r f) (G : DefOk X.prog X.w X.K X.mg X.base C.NT j f fn ps np none rs fd) (hr : Room k X.A) (hjk : j ≤ k) (hg : Gl X x) (hm : X.mg x = some (.ref (ga X.K C.NT Ci))) (hb : KBn X.K fn ps n ks gg (fun vs zs => gSel src vs dvs zs)) (hd : ∀ H ok, Reps X.K C.NT H ok dds dvs) (tk : Takes X C.W)
    (ha : FE X C κ es das κ1 p1) (hk : FE X C κ1 (kwE kws) dks κ2 p2) (w : wkB κ2 C.κx = true := by rfl) (hdb : (x == ("__debug__" : Str)) = false := by decide)
    (hkl : ks.length = nk := by rfl) (hall : (backToKw pos (keywordEach kws X.env)).all (·.1.isSome) = true := by rfl) (hks : (backToKw pos (keywordEach kws X.env)).filterMap (·.1) = ks := by rfl)
    (hpl : ((backTo pos (starEach es X.env)).any (·.1) || (backToKw pos (keywordEach kws X.env)).any (·.1.isNone)) = false := by rfl)
    (ht : eval (.Call (.Attribute (.Name x p) m apos) es kws pos) X.env = (do
      let ov ← eval (.Name x p) X.env
      standAt apos.atName
      let (f, first) ← holding [ov] (getMethod ov m pl)
      callWith pos f first (backTo pos (starEach es X.env)) (backToKw pos (keywordEach kws X.env))) := by rfl) :
    EE X C κ (.Call (.Attribute (.Name x p) m apos) es kws pos) (dCall (callD n nk np src dds fd) das dks) rs κ2 false := by
  subst hkl
  obtain ⟨ts, h1, h2⟩ := ha
  obtain ⟨us, h3, h4⟩ := hk
  exact ⟨_, pe_calS (pl := pl) (cal_fn G.F (hr.mono hjk) hb tk) hg hm S h1.pa (pk_of h3) h1.posOk hdb hall hks hpl ht, sim_call h2 h4 hd w⟩
/-- x.m(..), x an owned instance -/
theorem ee_methO {Ci mi : Nat} {y : Str} {yp : Pos} {pl : Sem Bool} (i v : Nat) (vis : List Str) (hv : VisOk X vis) (hN : X.N[i]? = some y) (hj : vis[v]? = some y) (hNT : C.NT.Nodup) (hmi : mi < C.NT.length) (hmn : nm C.NT mi = m) (c : Cls X.K (ga X.K C.NT Ci)) (hm : Meth X.K (ga X.K C.NT Ci) m f) (G : DefOk X.prog X.w X.K X.mg X.base C.NT j f fn ps np (some .o) rs fd) (hr : Room k X.A) (hjk : j ≤ k)
    (hb : KBn X.K fn ps (n + 1) ks gg (fun vs zs => gSel1 src vs dvs zs)) (hd : ∀ H ok, Reps X.K C.NT H ok dds dvs) (tk : Takes X C.W)
    (ha : FE X C κ es das κ1 p1) (hk : FE X C κ1 (kwE kws) dks κ2 p2) (hs0 : kd κ i = .o := by rfl) (hs : kd κ2 i = .o := by rfl) (w : wkB κ2 C.κx = true := by rfl)
    (hkl : ks.length = nk := by rfl) (hall : (backToKw pos (keywordEach kws X.env)).all (·.1.isSome) = true := by rfl) (hks : (backToKw pos (keywordEach kws X.env)).filterMap (·.1) = ks := by rfl)
    (hpl : ((backTo pos (starEach es X.env)).any (·.1) || (backToKw pos (keywordEach kws X.env)).any (·.1.isNone)) = false := by rfl)
    (ht : eval (.Call (.Attribute (.Name y yp) m apos) es kws pos) X.env = (do
      let ov ← eval (.Name y yp) X.env
      standAt apos.atName
      let (f, first) ← holding [ov] (getMethod ov m pl)
      callWith pos f first (backTo pos (starEach es X.env)) (backToKw pos (keywordEach kws X.env))) := by rfl) :
    EE X C κ (.Call (.Attribute (.Name y yp) m apos) es kws pos) (dCallO C.NT.length Ci mi i (callD1 n nk np src dds fd) das dks) rs κ2 false := by
  subst hkl
  obtain ⟨ts, h1, h2⟩ := ha
  obtain ⟨us, h3, h4⟩ := hk
  obtain ⟨v1, v2, v3⟩ := hv y (List.mem_of_getElem? hj)
  subst hmn
  exact ⟨_, pe_calM (pl := pl) (cal_fn G.F (hr.mono hjk) hb tk) (pe_var hN v1 v2 v3) c hm h1.pa (pk_of h3) h1.posOk hall hks hpl ht, sim_callO hNT hmi hs0 hs h2 h4 hd w⟩
/-- o.m(..), o an instance that is not owned -/
theorem ee_methF {Ci mi : Nat} {pl : Sem Bool} (hNT : C.NT.Nodup) (hmi : mi < C.NT.length) (hmn : nm C.NT mi = m) (h0 : EE X C κ o d0 .f κ0 p0) (c : Cls X.K (ga X.K C.NT Ci)) (hm : Meth X.K (ga X.K C.NT Ci) m f) (G : DefOk X.prog X.w X.K X.mg X.base C.NT j f fn ps np none rs fd) (hr : Room k X.A) (hjk : j ≤ k)
    (hb : KBn X.K fn ps (n + 1) ks gg (fun vs zs => gSel src vs dvs zs)) (hd : ∀ H ok, Reps X.K C.NT H ok dds dvs) (tk : Takes X C.W)
    (ha : FE X C κ0 es das κ1 p1) (hk : FE X C κ1 (kwE kws) dks κ2 p2) (w : wkB κ2 C.κx = true := by rfl)
    (hkl : ks.length = nk := by rfl) (hall : (backToKw pos (keywordEach kws X.env)).all (·.1.isSome) = true := by rfl) (hks : (backToKw pos (keywordEach kws X.env)).filterMap (·.1) = ks := by rfl)
    (hpl : ((backTo pos (starEach es X.env)).any (·.1) || (backToKw pos (keywordEach kws X.env)).any (·.1.isNone)) = false := by rfl)
    (ht : eval (.Call (.Attribute o m apos) es kws pos) X.env = (do
      let ov ← eval o X.env
      standAt apos.atName
      let (f, first) ← holding [ov] (getMethod ov m pl)
      callWith pos f first (backTo pos (starEach es X.env)) (backToKw pos (keywordEach kws X.env))) := by rfl) :
    EE X C κ (.Call (.Attribute o m apos) es kws pos) (dMethF C.NT.length Ci mi (callD (n + 1) nk np src dds fd) d0 das dks) rs κ2 false := by
  subst hkl
  obtain ⟨t0, h00, h01⟩ := h0
  obtain ⟨ts, h1, h2⟩ := ha
  obtain ⟨us, h3, h4⟩ := hk
  subst hmn
  exact ⟨_, pe_calM (pl := pl) (cal_fn G.F (hr.mono hjk) hb tk) h00 c hm h1.pa (pk_of h3) h1.posOk hall hks hpl ht, sim_methF hNT hmi h01 h2 h4 hd w⟩
/-! ### raise -/
def sRaise (Ci : Nat) (fks : List Nat) (das : ADen) : SDen := fun σ => match das σ with
  | .ok ds σ1 => if ds.length = fks.length then .exc (.exc Ci (fks.zip ds)) σ1 else .stuck
  | .exc x σ1 => .exc x σ1
  | .stuck => .stuck
theorem repF_zip {K : PySem.W.Frag} {NT : List Str} {H : Hp} {ok : Addr → Prop} : ∀ {fks : List Nat} {ds : List D} {vs : List V}, ds.length = fks.length → Reps K NT H ok ds vs → RepF K NT H ok (fks.zip ds) ((fks.map (nm NT)).zip vs)
  | [], ds, vs, _, _ => by simp; exact rfl
  | _ :: _, [], _, h, _ => by cases h
  | f :: fks, d :: ds, _, h, ⟨v, r, e, q, qs⟩ => by
    subst e
    exact ⟨v, _, rfl, q, repF_zip (by simpa using h) qs⟩
theorem ss_raise {Ci : Nat} {fks : List Nat} {κ' κb : List Sh} {pos2 : Pos} {as : List Expr} (T : PtE.ErrTxt X.prog X.K (ga X.K C.NT Ci) (fks.map (nm C.NT))) (hne : fks ≠ []) (hc : X.calm = true) (hr : Room k X.A) (hg : Gl X x) (hm : X.mg x = some (.ref (ga X.K C.NT Ci))) (tk : Takes X C.W)
    (ha : FE X C κ (a :: as) das κ1 p1) (w : wkB κ1 C.κx = true := by rfl) (hdb : (x == ("__debug__" : Str)) = false := by decide)
    (he : starEach (a :: as) X.env = (false, eval a X.env) :: starEach as X.env := by rfl) (hpl : (backTo pos (starEach as X.env)).any (·.1) = false := by rfl) :
    SS X C κ (.Raise (some (.Call (.Name x p) (a :: as) [] pos)) none pos2) (sRaise Ci fks das) κ' κb rs := by
  obtain ⟨ts, h1, h2⟩ := ha
  refine ⟨_, ps_raise hc tk (pmk_err T (by simpa using hne) hr h1.pa hg hm hdb he hpl), fun σd σv H l Lo E S ns hn hb hct hr' hx => ?_⟩
  unfold sRaise at ns
  refine h2 σd σv H l Lo _ S (fun z => ns (by rw [z])) (fun ds σ1 e vs H1 l1 S1 R g1 _ => ?_) (fun x σ1 e c dd H' l' => hx x σ1 (by unfold sRaise; rw [e]) c dd σv H' l')
  rw [e] at ns
  dsimp only at ns
  by_cases hl : ds.length = fks.length
  · refine ⟨by rw [reps_len R, List.length_map]; exact hl, fun d hd => ?_⟩
    have gr : Grow H1 (upd H1 d (.xd ((fks.map (nm C.NT)).zip vs))) [] := ⟨fun a u ea => by rw [upd_ne (ne_of_none ea hd)]; exact ea, by simp, by simp⟩
    have S2 := (S1.grow gr).drop
    have g2 := gr.go S1
    obtain ⟨S3, g3⟩ := S2.weak (wk_of w)
    have od1 : ∀ i, d ∉ l1 i := fun i m => by
      obtain ⟨u, eu⟩ := S1.tr i d m
      rw [hd] at eu
      cases eu
    have od2 : ¬ Lo d := fun z => by
      obtain ⟨u, eu⟩ := S1.los d z
      rw [hd] at eu
      cases eu
    have od : okOf l1 Lo d := ⟨od1, od2⟩
    have R2 : RepX X.K C.NT (upd H1 d (.xd ((fks.map (nm C.NT)).zip vs))) (okOf l1 Lo) (.exc Ci (fks.zip ds)) (.ref (ga X.K C.NT Ci)) (some d) :=
      ⟨Ci, _, rfl, rfl, .inr ⟨d, _, rfl, ⟨od, upd_same⟩, (repF_zip hl R).mono fun a u ea o => ⟨gr.kp a u ea, o⟩⟩⟩
    exact hx (.exc Ci (fks.zip ds)) σ1 (by unfold sRaise; rw [e]; dsimp only; rw [if_pos hl]) _ (some d) σv _ _ S3 (R2.mono g3.kp) (g1.trans (g2.trans g3))
  · rw [if_neg hl] at ns
    exact absurd rfl ns
end
end Pt
set_option maxRecDepth 100000
set_option maxHeartbeats 1000000
namespace L2
open PySem PySem.Spec PyProof.Rows
/-! ### try with several clauses, with and without a name -/
abbrev Hnd := Value × Option Nat × (Addr → Value → Option Addr → TS)
def wMix (K : PySem.W.Frag) (Wout : WX) (D : Ends) : List Hnd → WX
  | [] => Wout
  | (c, none, ts) :: r => fun cls d σ H => ∃ b, PySem.W.exmOne K cls c = some b ∧ (b = true → ∀ a, H a = none → ts a cls d D σ H) ∧ (b = false → wMix K Wout D r cls d σ H)
  | (c, some i, ts) :: r => fun cls d σ H => ∃ b, PySem.W.exmOne K cls c = some b ∧ (b = true → ∀ a, H a = none → ts a cls d { nx := fun σ' H' => D.nx (σ'.set i none) H', rt := D.rt, bk := fun σ' H' => D.bk (σ'.set i none) H', ct := fun σ' H' => D.ct (σ'.set i none) H' } (σ.set i (some (.ref a))) H) ∧
      (b = false → wMix K Wout D r cls d σ H)
inductive HdsMix (X : Cx) : List ExceptHandler → List Hnd → Prop
  | nil : HdsMix X [] []
  | plain {x : Str} {c : Value} {ts : Addr → Value → Option Addr → TS} {b₀ : Stmt} {suite : List Stmt} {np pos' : Pos} {hds : List ExceptHandler} {l : List Hnd} (hc : Names X x c)
      (hsu : ∀ (a : Addr) (oe : Obj) (cls : Value) (d : Option Addr) (pn : List (Addr × Obj)), Zc cls d oe → (∃ vs, oe.data = .fields vs) → PSs (X.suite a ((a, oe) :: pn)) (b₀ :: suite) (ts a cls d)) (r : HdsMix X hds l) :
      HdsMix X (.ExceptHandler (some (.Name x np)) none (b₀ :: suite) pos' :: hds) ((c, none, ts) :: l)
  | named {x n : Str} {i : Nat} {c : Value} {ts : Addr → Value → Option Addr → TS} {b₀ : Stmt} {suite : List Stmt} {np pos' : Pos} {hds : List ExceptHandler} {l : List Hnd} (hc : Names X x c) (hi : X.N[i]? = some n) (hln : X.env.kindOf n = some .local)
      (hsu : ∀ (a : Addr) (oe : Obj) (cls : Value) (d : Option Addr) (pn : List (Addr × Obj)), Zc cls d oe → (∃ vs, oe.data = .fields vs) → PSs (X.suite a ((a, oe) :: pn)) (b₀ :: suite) (ts a cls d)) (r : HdsMix X hds l) :
      HdsMix X (.ExceptHandler (some (.Name x np)) (some n) (b₀ :: suite) pos' :: hds) ((c, some i, ts) :: l)
section
variable {X : Cx} {body : List Stmt} {h₀ : ExceptHandler} {hds : List ExceptHandler} {l : List Hnd} {pos : Pos} {tb : WX → TS} {Wout : WX}
theorem ps_try_mix (hs : X.stack = X.env :: X.outer) (hf : X.env.frame = some X.env.locals) (hN : X.N.Nodup) (tk : Takes X Wout)
    (hb : ∀ (W : WX) (pn : List (Addr × Obj)) (xe : Value → Shared → Prop), Takes (X.tr pn xe) W → PassesOwn (model X.prog X.w) X.A X.env xe → PSs (X.tr pn xe) body (tb W))
    (hh : HdsMix X (h₀ :: hds) l) : PS X (.Try body (h₀ :: hds) [] [] pos) (fun D σ H => tb (wMix X.K Wout D l) D σ H) := by
  refine ⟨fun pins s σ H D I h => ?_⟩
  have ok := I.ok
  have hfr : X.A.frames = some (X.env :: X.outer) := by rw [ok.frames, hs]
  refine wpAny_Try_except ?_
  refine wpAny_mono ((hb (wMix X.K Wout D l) (X.pn ++ pins) (fun e s₁ => wpAny (model X.prog X.w) X.A (noteFrame e X.env) (fun _ s₂ => wpAny (model X.prog X.w) X.A (setFlight e none) (fun _ s₃ =>
    wpAny (model X.prog X.w) X.A (handleBy e X.env (h₀ :: hds)) (SP X pins D) X.xe s₃) X.xe s₂) X.xe s₁) (fun u s' xx => ?_) PassesOwn.looking).run [] s σ H D (I.toTry _) h) (fun f s1 hsp => ?_) (fun e s1 he => he)
  · obtain ⟨a, B, sI, pins', σ', H', cls, d, rfl, J', nb, up, sky, na, os, ag, w⟩ := xx
    have J : Inv X pins σ' H' sI := J'.ofTry ok
    have sky' : Sky B (X.env :: X.outer) a (Zc cls d) X.env.locals s'.heap := by rw [← hs]; exact sky
    show wpAny (model X.prog X.w) X.A (noteFrame (.ref a) X.env) _ _ _
    refine Sky.land Zc.steady hfr hf sky' fun h3 fl3 up3 => ?_
    have J3 : Inv X pins σ' H' { s' with heap := h3 } := J.landed nb fl3.1 (up.trans up3) os ag
    obtain ⟨oe3, vs3, he3, hz3, hd3⟩ := fl3.there
    have notFr : ∀ {h : Heap} {o : Obj} {vs : Array Value}, h.FunFrames B (X.env :: X.outer) → h.get? a = some o → o.data = .fields vs → a ∉ frs (X.env :: X.outer) := fun {h o vs} ff e dd hm => by
      obtain ⟨_, o', e', hnf⟩ := ff.mem hm
      rw [e] at e'; cases e'
      exact hnf _ dd
    have nfr := notFr fl3.2.2.1 he3 hd3
    have nL : a ≠ X.env.locals := fun z => nfr (List.mem_filterMap.mpr ⟨X.env, List.mem_cons_self, by rw [hf, z]⟩)
    have nF : a ∉ X.fs := fun hm => by
      obtain ⟨e, he, q⟩ := List.mem_filterMap.mp hm
      exact nfr (List.mem_filterMap.mpr ⟨e, List.mem_cons_of_mem _ he, q⟩)
    have S3 := J3.suite he3 hd3 na nL nF
    have go : ∀ {hds' : List ExceptHandler} {l' : List Hnd}, HdsMix X hds' l' → wMix X.K Wout D l' cls d σ' H' →
        wpAny (model X.prog X.w) X.A (handleBy (.ref a) X.env hds') (SP X pins D) X.xe { s' with heap := h3 } := by
      intro hds' l' hk
      induction hk with
      | nil =>
        intro w
        refine wpAny_handleBy_nil ?_
        obtain ⟨k1, k2, k3, oe, vs, T, oT, ts', he, hz, hd, h1, hr⟩ := id fl3
        unfold PySem.passOn
        refine wpAny_bind (wpAny_field he hd h1 ?_)
        rw [if_neg (show ¬ ((Value.ref T == Value.none) = true) from by simp)]
        have fin : wpAny (model X.prog X.w) X.A (setFlight (.ref a) X.env.frame) (fun _ s4 => wpAny (model X.prog X.w) X.A (throw (.ref a) : Sem Flow) (SP X pins D) X.xe s4) X.xe { s' with heap := h3 } := by
          rw [hf]
          refine HandSPX.setFlight_upZ fl3 fun h4 hh4 up4 => wpAny_throw (tk _ _ ?_)
          exact ⟨a, B, sI, pins, σ', H', cls, d, rfl, J, nb, (up.trans up3).trans up4, .inr (.inr (by rw [hs]; exact hh4)), na, os, ag, w⟩
        first
          | exact wpAny_bind (wpAny_pure (wpAny_bind fin))
          | exact wpAny_bind fin
      | @plain x c ts b₀ suite np pos' hds2 l2 hc hsu r ih =>
        intro w
        obtain ⟨b, hb1, hyes, hno⟩ := w
        refine wpAny_handleBy_cons (codeAny_handlers_test ?_) (by intro q; cases q)
        have LT : PySem.W.Looks (model X.prog X.w) h3 (typeOf (.ref a)) cls := fun A Q E s k q => wpAny_typeOf_ref (k _ _ he3) (by rw [hz3.1]; exact q)
        have LM := PySem.W.exm_one (M := model X.prog X.w) (J3.kIn) LT hb1
        have test : ∀ {Q : Value → Shared → Prop} {E : Value → Shared → Prop}, Q c { s' with heap := h3 } → wpAny (model X.prog X.w) (X.A.mark (some (.ref a))) (eval (.Name x np) X.env) Q E { s' with heap := h3 } := fun {Q E} q => by
          obtain ⟨hg, hdbg, hm | ⟨hm, hv, hnn⟩⟩ := hc
          · exact ld_glob (X := X.suite a ((a, oe3) :: (X.pn ++ pins))) S3 hg hm q hdbg
          · exact ld_blt (X := X.suite a ((a, oe3) :: (X.pn ++ pins))) S3 hg hm hv q hnn hdbg
        refine test (LM.here ?_)
        cases b with
        | true =>
          refine codeAny_handlers_suite ?_
          refine HandSPX.lands_againZ fl3 fun h4 fl4 up4 => ?_
          have J4 : Inv X pins σ' H' { s' with heap := h4 } := J.landed nb fl4.1 ((up.trans up3).trans up4) os ag
          obtain ⟨oe4, vs4, he4, hz4, hd4⟩ := fl4.there
          have S4 := J4.suite he4 hd4 na nL nF
          refine wpAny_mono ((hsu a oe4 cls d (X.pn ++ pins) hz4 ⟨_, hd4⟩).run [] _ _ H' _ S4 (hyes rfl a na)) (fun f s6 hsp => ?_) (fun _ _ z => False.elim z)
          cases f with
          | next =>
            obtain ⟨σ6, H6, S6, q6⟩ := hsp
            exact ⟨_, _, S6.unsuite ok, q6⟩
          | brk =>
            obtain ⟨σ6, H6, S6, q6⟩ := hsp
            exact ⟨_, _, S6.unsuite ok, q6⟩
          | cont =>
            obtain ⟨σ6, H6, S6, q6⟩ := hsp
            exact ⟨_, _, S6.unsuite ok, q6⟩
          | ret u =>
            obtain ⟨v6, σ6, H6, S6, r6, q6⟩ := hsp
            exact ⟨_, _, _, S6.unsuite ok, r6, q6⟩
        | false =>
          show wpAny _ X.A (handleBy (.ref a) X.env hds2) _ _ _
          exact ih (hno rfl)
      | @named x n i c ts b₀ suite np pos' hds2 l2 hc hi hln hsu r ih =>
        intro w
        obtain ⟨b, hb1, hyes, hno⟩ := w
        refine wpAny_handleBy_cons (codeAny_handlers_test ?_) (by intro q; cases q)
        have LT : PySem.W.Looks (model X.prog X.w) h3 (typeOf (.ref a)) cls := fun A Q E s k q => wpAny_typeOf_ref (k _ _ he3) (by rw [hz3.1]; exact q)
        have LM := PySem.W.exm_one (M := model X.prog X.w) (J3.kIn) LT hb1
        have test : ∀ {Q : Value → Shared → Prop} {E : Value → Shared → Prop}, Q c { s' with heap := h3 } → wpAny (model X.prog X.w) (X.A.mark (some (.ref a))) (eval (.Name x np) X.env) Q E { s' with heap := h3 } := fun {Q E} q => by
          obtain ⟨hg, hdbg, hm | ⟨hm, hv, hnn⟩⟩ := hc
          · exact ld_glob (X := X.suite a ((a, oe3) :: (X.pn ++ pins))) S3 hg hm q hdbg
          · exact ld_blt (X := X.suite a ((a, oe3) :: (X.pn ++ pins))) S3 hg hm hv q hnn hdbg
        refine test (LM.here ?_)
        cases b with
        | true =>
          refine codeAny_handlers_suite_as ?_
          refine HandSPX.lands_againZ fl3 fun h4 fl4 up4 => ?_
          have J4 : Inv X pins σ' H' { s' with heap := h4 } := J.landed nb fl4.1 ((up.trans up3).trans up4) os ag
          obtain ⟨oe4, vs4, he4, hz4, hd4⟩ := fl4.there
          have S4 := J4.suite he4 hd4 na nL nF
          refine store_ok (X := X.suite a ((a, oe4) :: (X.pn ++ pins))) (v := .ref a) S4 hN hi (.inl hln) rfl (fun s5 S5 => ?_) (.inr hln)
          refine wpAny_mono ((hsu a oe4 cls d (X.pn ++ pins) hz4 ⟨_, hd4⟩).run [] s5 _ H' _ S5 (hyes rfl a na)) (fun f s6 hsp => ?_) (fun _ _ z => False.elim z)
          have end_ : ∀ {σ6 : St} {H6 : Hp} {Q : Shared → Prop}, Inv (X.suite a ((a, oe4) :: (X.pn ++ pins))) [] σ6 H6 s6 → (∀ s7, Inv X pins (σ6.set i none) H6 s7 → Q s7) →
              wpAny (model X.prog X.w) X.A (do bindName X.env n .none; unbindBehindTheSuite X.env n pos') (fun _ s7 => Q s7) X.xe s6 := fun {σ6 H6 Q} S6 hq => gone_ok (S6.unsuite ok) hN hi hln hq
          cases f with
          | next =>
            obtain ⟨σ6, H6, S6, q6⟩ := hsp
            exact end_ S6 fun s7 J7 => ⟨_, _, J7, q6⟩
          | brk =>
            obtain ⟨σ6, H6, S6, q6⟩ := hsp
            exact end_ S6 fun s7 J7 => ⟨_, _, J7, q6⟩
          | cont =>
            obtain ⟨σ6, H6, S6, q6⟩ := hsp
            exact end_ S6 fun s7 J7 => ⟨_, _, J7, q6⟩
          | ret u =>
            obtain ⟨v6, σ6, H6, S6, r6, q6⟩ := hsp
            exact end_ S6 fun s7 J7 => ⟨_, _, _, J7, r6, q6⟩
        | false =>
          show wpAny _ X.A (handleBy (.ref a) X.env hds2) _ _ _
          exact ih (hno rfl)
    exact go hh w
  · cases f with
    | next =>
      obtain ⟨σ', H', J', q⟩ := hsp
      exact wpAny_execs_nil ⟨σ', H', J'.ofTry ok, q⟩
    | brk =>
      obtain ⟨σ', H', J', q⟩ := hsp
      exact ⟨σ', H', J'.ofTry ok, q⟩
    | cont =>
      obtain ⟨σ', H', J', q⟩ := hsp
      exact ⟨σ', H', J'.ofTry ok, q⟩
    | ret u =>
      obtain ⟨v, σ', H', J', r, q⟩ := hsp
      exact ⟨v, σ', H', J'.ofTry ok, r, q⟩
end
end L2
namespace Pt
open PySem PySem.Spec PyProof.Rows L2
/-! ### a try on trees -/
def wkeep (o : Option Nat) (r : RS) : RS := match o with
  | none => r
  | some i => (match r with
    | .nx σ => .nx (σ.set i none)
    | .brk σ => .brk (σ.set i none)
    | .ct σ => .ct (σ.set i none)
    | r => r)
def clr (o : Option Nat) (σ : Stt) : Stt := match o with
  | none => σ
  | some i => σ.set i none
/-- a clause: which classes it takes, its name's slot, its suite -/
structure HD where
  tab : Nat → Option Bool
  o : Option Nat
  sd : D → SDen
def handleD : List HD → D → SDen
  | [], x, σ => .exc x σ
  | h :: r, x, σ => match x with
    | .exc Cx fs => (match h.tab Cx with
      | some true => (match h.sd (.exc Cx fs) (clr h.o σ) with
        | .exc _ _ => .stuck
        | q => wkeep h.o q)
      | some false => handleD r (.exc Cx fs) σ
      | none => .stuck)
    | _ => .stuck
def sTry (body : SDen) (hds : List HD) : SDen := fun σ => match body σ with
  | .exc x σ1 => handleD hds x σ1
  | r => r
/-- within a suite -/
def ivX (K : PySem.W.Frag) (NT : List Str) (I : Ivt) (x : D) (c : Value) (d : Option Addr) : Ivt := ⟨fun H ok => RepX K NT H ok x c d ∧ I.P H ok, fun h q => ⟨q.1.mono h, I.mono h q.2⟩⟩
abbrev Cc.suite (K : PySem.W.Frag) (C : Cc) (o : Option Nat) (a : Addr) (c : Value) (d : Option Addr) (x : D) : Cc := { C with M := o.toList ++ C.M, pin := fun j => if some j = o then .ref a else C.pin j, W := fun _ _ _ _ => False, iv := ivX K C.NT C.iv x c d }
section
variable {K : PySem.W.Frag} {C : Cc} {κ κ' : List Sh} {σd : Stt} {σv : Sv} {H : Hp} {l : Own} {Lo : Addr → Prop}
theorem SOk.other {W : WX} {κx : List Sh} (S : SOk K C κ σd σv H l Lo) : SOk K { C with W := W, κx := κx } κ σd σv H l Lo := ⟨S.val, S.emp, S.nd, S.dj, S.lo, S.tr, S.los, S.pin, S.len, S.klen, S.iv⟩
theorem SOk.back {W : WX} {κx : List Sh} (S : SOk K { C with W := W, κx := κx } κ σd σv H l Lo) : SOk K C κ σd σv H l Lo := ⟨S.val, S.emp, S.nd, S.dj, S.lo, S.tr, S.los, S.pin, S.len, S.klen, S.iv⟩
theorem getElem?_set_none {σd : Stt} {i j : Nat} {d : D} (h : (σd.set i none)[j]? = some (some d)) : j ≠ i ∧ σd[j]? = some (some d) := by
  by_cases q : j = i
  · subst q
    by_cases hi : j < σd.length
    · rw [List.getElem?_set_self hi] at h; cases h
    · rw [List.getElem?_eq_none (by simpa using hi)] at h; cases h
  · rw [List.getElem?_set_ne (Ne.symm q)] at h
    exact ⟨q, h⟩
/-- a slot is nothing on the tree's side from now on -/
theorem SOk.gone {C2 : Cc} (S : SOk K C κ σd σv H l Lo) (i : Nat) (w : Option V) (hNT : C2.NT = C.NT) (hpin : ∀ j ∈ C2.M, (σv.set i w)[j]? = some (some (C2.pin j))) (hiv : ∀ ok, (∀ a, okOf l Lo a → ok a) → C2.iv.P H ok) :
    SOk K C2 κ (σd.set i none) (σv.set i w) H (setOwn l i []) Lo ∧ Go l H (setOwn l i []) [] H := by
  have sub : ∀ j a, a ∈ setOwn l i [] j → j ≠ i ∧ a ∈ l j := fun j a m => (mem_setOwn m).elim (fun m => by simp at m) id
  have hok : ∀ a, okOf l Lo a → okOf (setOwn l i []) Lo a := fun a o => ⟨fun j m => o.1 j (sub j a m).2, o.2⟩
  refine ⟨⟨fun j d e => ?_, fun j he => ?_, fun j => ?_, fun j k a m1 m2 => S.dj j k a (sub j a m1).2 (sub k a m2).2, fun j a m => S.lo j a (sub j a m).2, fun j a m => S.tr j a (sub j a m).2, S.los, hpin, by rw [List.length_set, List.length_set]; exact S.len, by rw [List.length_set]; exact S.klen, hiv _ hok⟩, ⟨fun a u e n => ⟨e, fun j m => n j (sub j a m).2, by simp⟩, fun _ e => e⟩⟩
  · obtain ⟨q, e⟩ := getElem?_set_none e
    obtain ⟨v, ev, r⟩ := S.val j d e
    refine ⟨v, by rw [List.getElem?_set_ne (Ne.symm q)]; exact ev, ?_⟩
    unfold setOwn
    rw [if_neg q, hNT]
    exact r.mono (kp_ok hok) fun a u _ e => e
  · unfold setOwn
    by_cases q : j = i
    · rw [if_pos q]
    · rw [if_neg q]
      exact S.emp j fun d e => he d (by rw [List.getElem?_set_ne (Ne.symm q)]; exact e)
  · unfold setOwn
    split
    · exact List.nodup_nil
    · exact S.nd j
end
end Pt
set_option maxRecDepth 100000
set_option maxHeartbeats 1000000
namespace Pt
open PySem PySem.Spec PyProof.Rows L2
section
variable {K : PySem.W.Frag} {C : Cc} {κ κ' : List Sh} {σd : Stt} {σv : Sv} {H : Hp} {l : Own} {Lo : Addr → Prop}
/-- into a suite whose clause has no name -/
theorem SOk.suite0 (S : SOk K C κ σd σv H l Lo) {x : D} {c : Value} {d : Option Addr} {a : Addr} (R : RepX K C.NT H (okOf l Lo) x c d) : SOk K (C.suite K none a c d x) κ σd σv H l Lo :=
  ⟨S.val, S.emp, S.nd, S.dj, S.lo, S.tr, S.los, fun j hj => by
    have hj : j ∈ C.M := hj
    have := S.pin j hj
    rw [this]
    show some (some (C.pin j)) = some (some (if some j = none then V.ref a else C.pin j))
    rw [if_neg (by simp)], S.len, S.klen, ⟨R, S.iv⟩⟩
/-- out of a suite, the name not yet gone -/
theorem SOk.unsuite {o : Option Nat} {x : D} {c : Value} {d : Option Addr} {a : Addr} (hi : ∀ i, o = some i → i ∉ C.M) (S : SOk K (C.suite K o a c d x) κ σd σv H l Lo) : SOk K C κ σd σv H l Lo :=
  ⟨S.val, S.emp, S.nd, S.dj, S.lo, S.tr, S.los, fun j hj => by
    have h1 : j ∈ o.toList ++ C.M := List.mem_append_right _ hj
    have h2 := S.pin j h1
    rw [h2]
    show some (some (if some j = o then V.ref a else C.pin j)) = some (some (C.pin j))
    rw [if_neg fun e => hi j e.symm hj], S.len, S.klen, S.iv.2⟩
theorem SOk.suite1 (S : SOk K C κ σd σv H l Lo) {i : Nat} (hi : i ∉ C.M) (hl : i < κ.length) {x : D} {c : Value} {d : Option Addr} {a : Addr} (R : RepX K C.NT H (okOf l Lo) x c d) :
    SOk K (C.suite K (some i) a c d x) κ (σd.set i none) (σv.set i (some (.ref a))) H (setOwn l i []) Lo ∧ Go l H (setOwn l i []) [] H := by
  refine S.gone i (some (.ref a)) rfl (fun j hj => ?_) (fun ok h => ⟨R.mono (kp_ok h), C.iv.mono (kp_ok h) S.iv⟩)
  have hj : j ∈ i :: C.M := hj
  have hlv : i < σv.length := by rw [← S.klen]; exact hl
  show _ = some (some (if some j = some i then V.ref a else C.pin j))
  by_cases q : j = i
  · subst q
    rw [List.getElem?_set_self hlv, if_pos rfl]
  · rw [List.getElem?_set_ne (Ne.symm q), if_neg fun e => q (Option.some.inj e)]
    exact S.pin j ((List.mem_cons.mp hj).resolve_left q)
end
/-- a clause follows its tree function -/
inductive HOk (X : Cx) (C : Cc) (κe κ' κb : List Sh) (rs : Sh) : ExceptHandler → HD → Prop where
  | plain {x : Str} {c : Value} {b₀ : Stmt} {suite : List Stmt} {np pos' : Pos} {tab : Nat → Option Bool} {sd : D → SDen} (hc : Names X x c) (ht : ∀ Cx b, tab Cx = some b → PySem.W.exmOne X.K (.ref (ga X.K C.NT Cx)) c = some b)
      (hs : ∀ (a : Addr) (oe : Obj) (cls : Value) (d : Option Addr) (pn : List (Addr × Obj)) (x : D), Zc cls d oe → (∃ vs, oe.data = .fields vs) → SSs (X.suite a ((a, oe) :: pn)) (C.suite X.K none a cls d x) κe (b₀ :: suite) (sd x) κ' κb rs) :
      HOk X C κe κ' κb rs (.ExceptHandler (some (.Name x np)) none (b₀ :: suite) pos') ⟨tab, none, sd⟩
  | named {x n : Str} {c : Value} {i : Nat} {b₀ : Stmt} {suite : List Stmt} {np pos' : Pos} {tab : Nat → Option Bool} {sd : D → SDen} (hc : Names X x c) (hi : X.N[i]? = some n) (hln : X.env.kindOf n = some .local) (hM : C.M.contains i = false) (hl : i < κe.length) (ht : ∀ Cx b, tab Cx = some b → PySem.W.exmOne X.K (.ref (ga X.K C.NT Cx)) c = some b)
      (hs : ∀ (a : Addr) (oe : Obj) (cls : Value) (d : Option Addr) (pn : List (Addr × Obj)) (x : D), Zc cls d oe → (∃ vs, oe.data = .fields vs) → SSs (X.suite a ((a, oe) :: pn)) (C.suite X.K (some i) a cls d x) κe (b₀ :: suite) (sd x) κ' κb rs) :
      HOk X C κe κ' κb rs (.ExceptHandler (some (.Name x np)) (some n) (b₀ :: suite) pos') ⟨tab, some i, sd⟩
inductive HOks (X : Cx) (C : Cc) (κe κ' κb : List Sh) (rs : Sh) : List ExceptHandler → List HD → Prop where
  | nil : HOks X C κe κ' κb rs [] []
  | cons {h : ExceptHandler} {hs : List ExceptHandler} {d : HD} {ds : List HD} : HOk X C κe κ' κb rs h d → HOks X C κe κ' κb rs hs ds → HOks X C κe κ' κb rs (h :: hs) (d :: ds)
/-- how a state goes on behind a clause -/
structure Out (K : PySem.W.Frag) (C : Cc) (κ' κb : List Sh) (rs : Sh) (E : Ends) (H : Hp) (l : Own) (Lo : Addr → Prop) (r : RS) : Prop where
  nx : ∀ σd', r = .nx σd' → ∀ σv' H' l', SOk K C κ' σd' σv' H' l' Lo → Go l H l' [] H' → E.nx σv' H'
  bk : ∀ σd', r = .brk σd' → ∀ σv' H' l', SOk K C κb σd' σv' H' l' Lo → Go l H l' [] H' → E.bk σv' H'
  ct : ∀ σd', r = .ct σd' → ∀ σv' H' l', SOk K C κb σd' σv' H' l' Lo → Go l H l' [] H' → E.ct σv' H'
  rt : ∀ d σd', r = .ret d σd' → ∀ v σv' H' l' lx, SOk K C C.κx σd' σv' H' l' (LoX Lo lx) → RepO K C.NT H' (okOf l' (LoX Lo lx)) rs d v lx → lx.Nodup → Go l H l' lx H' → E.rt v H'
  ex : ∀ x σd', r = .exc x σd' → ∀ c dd σv' H' l', SOk K C C.κx σd' σv' H' l' Lo → RepX K C.NT H' (okOf l' Lo) x c dd → Go l H l' [] H' → C.W c dd σv' H'
theorem hnd_walk {X : Cx} {C : Cc} {κe κ' κb : List Sh} {rs : Sh} (we : wkB κe C.κx = true) : ∀ {hs : List ExceptHandler} {ds : List HD}, HOks X C κe κ' κb rs hs ds →
    ∃ l : List Hnd, HdsMix X hs l ∧ ∀ (E : Ends) (x : D) (σd : Stt) (σv : Sv) (H : Hp) (lo : Own) (Lo : Addr → Prop) (c : Value) (dd : Option Addr), SOk X.K C κe σd σv H lo Lo → RepX X.K C.NT H (okOf lo Lo) x c dd → handleD ds x σd ≠ .stuck →
      Out X.K C κ' κb rs E H lo Lo (handleD ds x σd) → wMix X.K C.W E l c dd σv H
  | _, _, .nil => ⟨[], .nil, fun E x σd σv H lo Lo c dd S R ns O => by
    obtain ⟨S2, g2⟩ := S.weak (wk_of we)
    exact O.ex x σd rfl c dd σv H _ S2 (R.mono g2.kp) g2⟩
  | _ :: hs', _ :: ds', .cons h r => by
    obtain ⟨l, q1, q2⟩ := hnd_walk we r
    cases h with
    | @plain x c b₀ suite np pos' tab sd hc ht hs =>
      refine ⟨(c, none, fun a cls d D σ H => ∃ x, ∀ oe pn hz hf, (hs a oe cls d pn x hz hf).choose D σ H) :: l, .plain hc (fun a oe cls d pn hz hf => ⟨fun pins s σ H D I h => ?_⟩) q1, fun E x σd σv H lo Lo cc dd S R ns O => ?_⟩
      · obtain ⟨x, hx⟩ := h
        exact (hs a oe cls d pn x hz hf).choose_spec.1.run pins s σ H D I (hx oe pn hz hf)
      · obtain ⟨Cx, fs, ex, ec, _⟩ := id R
        subst ex ec
        unfold handleD at ns
        dsimp only at ns
        cases e : tab Cx with
        | none => rw [e] at ns; exact absurd rfl ns
        | some b =>
          rw [e] at ns
          have eqH : handleD (⟨tab, none, sd⟩ :: ds') (.exc Cx fs) σd = (match some b with
            | some true => (match sd (.exc Cx fs) σd with
              | .exc _ _ => .stuck
              | q => q)
            | some false => handleD ds' (.exc Cx fs) σd
            | none => .stuck) := by
            conv => lhs; unfold handleD
            dsimp only
            rw [e]
            rfl
          refine ⟨b, ht Cx b e, fun hb a na => ?_, fun hb => ?_⟩
          · subst hb
            have eqH : handleD (⟨tab, none, sd⟩ :: ds') (.exc Cx fs) σd = (match sd (.exc Cx fs) σd with
              | .exc _ _ => .stuck
              | q => q) := eqH
            have ns : (match sd (.exc Cx fs) σd with
              | .exc _ _ => RS.stuck
              | q => q) ≠ .stuck := ns
            rw [eqH] at O
            refine ⟨.exc Cx fs, fun oe pn hz hf => ?_⟩
            refine (hs a oe _ dd pn _ hz hf).choose_spec.2 σd σv H lo Lo E (S.suite0 R) (fun z => ns (by rw [z])) (fun σ1 e1 σv1 H1 l1 S1 g1 => ?_) (fun σ1 e1 σv1 H1 l1 S1 g1 => ?_) (fun σ1 e1 σv1 H1 l1 S1 g1 => ?_) (fun d σ1 e1 v σv1 H1 l1 lx S1 R1 nd g1 => ?_) (fun x σ1 e1 => absurd (by rw [e1]) ns)
            · rw [e1] at O
              exact O.nx σ1 rfl σv1 H1 l1 (S1.unsuite (o := none) fun _ z => by cases z) g1
            · rw [e1] at O
              exact O.bk σ1 rfl σv1 H1 l1 (S1.unsuite (o := none) fun _ z => by cases z) g1
            · rw [e1] at O
              exact O.ct σ1 rfl σv1 H1 l1 (S1.unsuite (o := none) fun _ z => by cases z) g1
            · rw [e1] at O
              exact O.rt d σ1 rfl v σv1 H1 l1 lx (S1.unsuite (o := none) fun _ z => by cases z) R1 nd g1
          · subst hb
            exact q2 E _ σd σv H lo Lo _ dd S R ns (by rw [show handleD (⟨tab, none, sd⟩ :: ds') (.exc Cx fs) σd = handleD ds' (.exc Cx fs) σd from eqH] at O; exact O)
    | @named x n c i b₀ suite np pos' tab sd hc hi hln hM0 hl ht hs =>
      have hM := nin hM0
      refine ⟨(c, some i, fun a cls d D σ H => ∃ x, ∀ oe pn hz hf, (hs a oe cls d pn x hz hf).choose D σ H) :: l, .named hc hi hln (fun a oe cls d pn hz hf => ⟨fun pins s σ H D I h => ?_⟩) q1, fun E x σd σv H lo Lo cc dd S R ns O => ?_⟩
      · obtain ⟨x, hx⟩ := h
        exact (hs a oe cls d pn x hz hf).choose_spec.1.run pins s σ H D I (hx oe pn hz hf)
      · obtain ⟨Cx, fs, ex, ec, _⟩ := id R
        subst ex ec
        unfold handleD at ns
        dsimp only at ns
        cases e : tab Cx with
        | none => rw [e] at ns; exact absurd rfl ns
        | some b =>
          rw [e] at ns
          have eqH : handleD (⟨tab, some i, sd⟩ :: ds') (.exc Cx fs) σd = (match some b with
            | some true => (match sd (.exc Cx fs) (σd.set i none) with
              | .exc _ _ => .stuck
              | q => wkeep (some i) q)
            | some false => handleD ds' (.exc Cx fs) σd
            | none => .stuck) := by
            conv => lhs; unfold handleD
            dsimp only
            rw [e]
            rfl
          refine ⟨b, ht Cx b e, fun hb a na => ?_, fun hb => ?_⟩
          · subst hb
            have eqH : handleD (⟨tab, some i, sd⟩ :: ds') (.exc Cx fs) σd = (match sd (.exc Cx fs) (σd.set i none) with
              | .exc _ _ => .stuck
              | q => wkeep (some i) q) := eqH
            have ns : (match sd (.exc Cx fs) (σd.set i none) with
              | .exc _ _ => RS.stuck
              | q => wkeep (some i) q) ≠ .stuck := ns
            rw [eqH] at O
            refine ⟨.exc Cx fs, fun oe pn hz hf => ?_⟩
            obtain ⟨S2, g2⟩ := S.suite1 (a := a) hM hl R
            have un : ∀ {κ2 : List Sh} {σ1 : Stt} {σv1 : Sv} {H1 : Hp} {l1 : Own}, SOk X.K (C.suite X.K (some i) a (.ref (ga X.K C.NT Cx)) dd (.exc Cx fs)) κ2 σ1 σv1 H1 l1 Lo → SOk X.K C κ2 (σ1.set i none) (σv1.set i none) H1 (setOwn l1 i []) Lo ∧ Go l1 H1 (setOwn l1 i []) [] H1 := fun {κ2 σ1 σv1 H1 l1} S1 =>
              S1.gone i none rfl (fun j hj => by
                have q : j ≠ i := fun z => hM (z ▸ hj)
                rw [List.getElem?_set_ne (Ne.symm q)]
                exact (S1.unsuite (o := some i) fun k z => by cases z; exact hM).pin j hj) (fun ok h => C.iv.mono (kp_ok h) S1.iv.2)
            refine (hs a oe _ dd pn _ hz hf).choose_spec.2 _ _ H _ Lo _ S2 (fun z => ns (by rw [z]; rfl)) (fun σ1 e1 σv1 H1 l1 S1 g1 => ?_) (fun σ1 e1 σv1 H1 l1 S1 g1 => ?_) (fun σ1 e1 σv1 H1 l1 S1 g1 => ?_) (fun d σ1 e1 v σv1 H1 l1 lx S1 R1 nd g1 => ?_) (fun x σ1 e1 => absurd (by rw [e1]) ns)
            · rw [e1] at O
              obtain ⟨S3, g3⟩ := un S1
              exact O.nx _ rfl _ H1 _ S3 (g2.trans (g1.trans g3))
            · rw [e1] at O
              obtain ⟨S3, g3⟩ := un S1
              exact O.bk _ rfl _ H1 _ S3 (g2.trans (g1.trans g3))
            · rw [e1] at O
              obtain ⟨S3, g3⟩ := un S1
              exact O.ct _ rfl _ H1 _ S3 (g2.trans (g1.trans g3))
            · rw [e1] at O
              exact O.rt d σ1 rfl v σv1 H1 l1 lx (S1.unsuite fun k z => by cases z; exact hM) R1 nd (g2.trans g1)
          · subst hb
            exact q2 E _ σd σv H lo Lo _ dd S R ns (by rw [show handleD (⟨tab, some i, sd⟩ :: ds') (.exc Cx fs) σd = handleD ds' (.exc Cx fs) σd from eqH] at O; exact O)
section
variable {X : Cx} {C : Cc} {κ κe κ' κb : List Sh} {rs : Sh} {body : List Stmt} {h₀ : ExceptHandler} {hs : List ExceptHandler} {ds : List HD} {sd : SDen} {pos : Pos}
theorem ss_try (hst : X.stack = X.env :: X.outer) (hf : X.env.frame = some X.env.locals) (hN : X.N.Nodup) (tk : Takes X C.W)
    (hb : ∀ (W : WX) (pn : List (Addr × Obj)) (xe : Value → Shared → Prop), Takes (X.tr pn xe) W → PassesOwn (model X.prog X.w) X.A X.env xe → SSs (X.tr pn xe) { C with W := W, κx := κe } κ body sd κ' κb rs)
    (hh : HOks X C κe κ' κb rs (h₀ :: hs) ds) (we : wkB κe C.κx = true := by rfl) : SS X C κ (.Try body (h₀ :: hs) [] [] pos) (sTry sd ds) κ' κb rs := by
  obtain ⟨l, h1, h2⟩ := hnd_walk we hh
  refine ⟨_, ps_try_mix (tb := fun W D σ H => ∀ pn xe (t1 : Takes (X.tr pn xe) W) (t2 : PassesOwn (model X.prog X.w) X.A X.env xe), (hb W pn xe t1 t2).choose D σ H) hst hf hN tk (fun W pn xe t1 t2 => ⟨fun pins s σ H D I h => (hb W pn xe t1 t2).choose_spec.1.run pins s σ H D I (h pn xe t1 t2)⟩) h1, fun σd σv H lo Lo E S ns hn hbk hct hr hx => ?_⟩
  intro pn xe t1 t2
  unfold sTry at ns
  refine (hb _ pn xe t1 t2).choose_spec.2 σd σv H lo Lo E S.other (fun z => ns (by rw [z])) (fun σ1 e => ?_) (fun σ1 e => ?_) (fun σ1 e => ?_) (fun d σ1 e v σv1 H1 l1 lx S1 R1 nd g1 => ?_) (fun x σ1 e c dd σv1 H1 l1 S1 R1 g1 => ?_)
  · exact fun σv1 H1 l1 S1 g1 => hn σ1 (by unfold sTry; rw [e]) σv1 H1 l1 S1.back g1
  · exact fun σv1 H1 l1 S1 g1 => hbk σ1 (by unfold sTry; rw [e]) σv1 H1 l1 S1.back g1
  · exact fun σv1 H1 l1 S1 g1 => hct σ1 (by unfold sTry; rw [e]) σv1 H1 l1 S1.back g1
  · obtain ⟨S2, g2⟩ := S1.back.weak (wk_of we)
    have R2 : RepO X.K C.NT H1 (okOf (wkOwn κe C.κx l1) (LoX Lo lx)) rs d v lx := R1.mono (kp_ok fun a o => ⟨fun i m => o.1 i (by
      unfold wkOwn at m
      split at m
      · exact m
      · simp at m), o.2⟩) fun a u _ e => e
    exact hr d σ1 (by unfold sTry; rw [e]) v σv1 H1 _ lx S2 R2 nd (by
      have := g1.trans g2
      rw [List.append_nil] at this
      exact this.sub (fun _ m => m) |> fun z => ⟨fun a u ea n => by
        obtain ⟨e1, e2, e3⟩ := g1.keep a u ea n
        exact ⟨e1, (g2.keep a u e1 e2).2.1, e3⟩, g1.dom⟩)
  · rw [e] at ns
    have eqT : sTry sd ds σd = handleD ds x σ1 := by unfold sTry; rw [e]
    refine h2 E x σ1 σv1 H1 l1 Lo c dd S1.back R1 ns ⟨fun σ2 e2 σv2 H2 l2 S2 g2 => hn σ2 (eqT.trans e2) σv2 H2 l2 S2 (g1.trans g2), fun σ2 e2 σv2 H2 l2 S2 g2 => hbk σ2 (eqT.trans e2) σv2 H2 l2 S2 (g1.trans g2), fun σ2 e2 σv2 H2 l2 S2 g2 => hct σ2 (eqT.trans e2) σv2 H2 l2 S2 (g1.trans g2),
      fun d σ2 e2 v σv2 H2 l2 lx S2 R2 nd g2 => hr d σ2 (eqT.trans e2) v σv2 H2 l2 lx S2 R2 nd (g1.trans g2), fun y σ2 e2 c2 d2 σv2 H2 l2 S2 R2 g2 => hx y σ2 (eqT.trans e2) c2 d2 σv2 H2 l2 S2 R2 (g1.trans g2)⟩
end
end Pt
set_option maxRecDepth 100000
set_option maxHeartbeats 1000000
namespace Pt
open PySem PySem.Spec PyProof.Rows L2
/-! ### list comprehensions -/
def wipeD (σ : Stt) : List Nat → Stt
  | [] => σ
  | v :: vs => (wipeD σ vs).set v none
def resto (σ1 σ : Stt) : List Nat → Stt
  | [] => σ
  | v :: vs => (resto σ1 σ vs).set v (σ1.getD v none)
theorem wipeD_len (σ : Stt) : ∀ vs, (wipeD σ vs).length = σ.length
  | [] => rfl
  | v :: vs => by unfold wipeD; rw [List.length_set, wipeD_len σ vs]
theorem resto_len (σ1 σ : Stt) : ∀ vs, (resto σ1 σ vs).length = σ.length
  | [] => rfl
  | v :: vs => by unfold resto; rw [List.length_set, resto_len σ1 σ vs]
theorem wipeD_some {σ : Stt} {i : Nat} {d : D} : ∀ {vs : List Nat}, (wipeD σ vs)[i]? = some (some d) → σ[i]? = some (some d) ∧ i ∉ vs
  | [], h => ⟨h, by simp⟩
  | v :: vs, h => by
    unfold wipeD at h
    obtain ⟨q, h⟩ := getElem?_set_none h
    obtain ⟨h1, h2⟩ := wipeD_some h
    exact ⟨h1, by simp [q, h2]⟩
theorem wipeD_out {σ : Stt} {i : Nat} : ∀ {vs : List Nat}, i ∉ vs → (wipeD σ vs)[i]? = σ[i]?
  | [], _ => rfl
  | v :: vs, h => by
    unfold wipeD
    rw [List.getElem?_set_ne (by rintro rfl; exact h List.mem_cons_self), wipeD_out fun m => h (List.mem_cons_of_mem _ m)]
theorem resto_get {σ1 σ : Stt} {i : Nat} {d : D} : ∀ {vs : List Nat}, (resto σ1 σ vs)[i]? = some (some d) → (i ∈ vs ∧ σ1[i]? = some (some d)) ∨ (i ∉ vs ∧ σ[i]? = some (some d))
  | [], h => .inr ⟨by simp, h⟩
  | v :: vs, h => by
    unfold resto at h
    by_cases q : i = v
    · subst q
      by_cases hl : i < (resto σ1 σ vs).length
      · rw [List.getElem?_set_self hl] at h
        refine .inl ⟨List.mem_cons_self, ?_⟩
        have h := Option.some.inj h
        rw [List.getD_eq_getElem?_getD] at h
        cases e : σ1[i]? with
        | none => rw [e] at h; cases h
        | some o => rw [e] at h; rw [show o = some d from h]
      · rw [List.getElem?_eq_none (by simpa using hl)] at h
        cases h
    · rw [List.getElem?_set_ne (Ne.symm q)] at h
      rcases resto_get h with ⟨m, e⟩ | ⟨m, e⟩
      · exact .inl ⟨List.mem_cons_of_mem _ m, e⟩
      · exact .inr ⟨by simp [q, m], e⟩
section
variable {K : PySem.W.Frag} {C : Cc} {κ κ' κ1 : List Sh} {σd σd' σ1 : Stt} {σv : Sv} {H H' : Hp} {l l' : Own} {Lo Lo' : Addr → Prop}
theorem SOk.own_f (S : SOk K C κ σd σv H l Lo) {i : Nat} (h : kd κ i = .f) : l i = [] := by
  by_cases q : ∃ d, σd[i]? = some (some d)
  · obtain ⟨d, e⟩ := q
    obtain ⟨v, _, r⟩ := S.val i d e
    rw [h] at r
    exact r.1
  · exact S.emp i fun d e => q ⟨d, e⟩
theorem SOk.wipe (S : SOk K C κ σd σv H l Lo) {vs : List Nat} (hM : ∀ v ∈ vs, v ∉ C.M) (hf : ∀ v ∈ vs, kd κ v = .f) : SOk K C κ (wipeD σd vs) (L2.wipe σv vs) H l Lo := by
  refine ⟨fun i d e => ?_, fun i he => ?_, S.nd, S.dj, S.lo, S.tr, S.los, fun j hj => ?_, by rw [wipeD_len, wipe_length]; exact S.len, by rw [wipe_length]; exact S.klen, S.iv⟩
  · obtain ⟨e1, e2⟩ := wipeD_some e
    obtain ⟨v, ev, r⟩ := S.val i d e1
    exact ⟨v, by rw [wipe_out e2]; exact ev, r⟩
  · by_cases q : i ∈ vs
    · exact S.own_f (hf i q)
    · exact S.emp i fun d e => he d (by rw [wipeD_out q]; exact e)
  · rw [wipe_out fun m => hM j m hj]
    exact S.pin j hj
theorem SOk.resto {W : WX} {κx : List Sh} (S1 : SOk K C κ1 σ1 σv H l Lo) (S : SOk K { C with W := W, κx := κx } κ σd (L2.wipe σv vs) H' l' Lo') (hf1 : ∀ v ∈ vs, kd κ1 v = .f) (hf : ∀ v ∈ vs, kd κ v = .f) (kp : Kp H H' (okOf l Lo) (okOf l' Lo')) :
    SOk K C κ (resto σ1 σd vs) σv H' l' Lo' := by
  refine ⟨fun i d e => ?_, fun i he => ?_, S.nd, S.dj, S.lo, S.tr, S.los, S1.pin, ?_, ?_, S.iv⟩
  · rcases resto_get e with ⟨m, e⟩ | ⟨m, e⟩
    · obtain ⟨v, ev, r⟩ := S1.val i d e
      rw [hf1 i m] at r
      refine ⟨v, ev, ?_⟩
      rw [hf i m]
      exact ⟨S.own_f (hf i m), r.2.mono kp⟩
    · obtain ⟨v, ev, r⟩ := S.val i d e
      rw [wipe_out m] at ev
      exact ⟨v, ev, r⟩
  · by_cases q : i ∈ vs
    · exact S.own_f (hf i q)
    · refine S.emp i fun d e => he d ?_
      clear he
      have : ∀ {vs : List Nat}, i ∉ vs → (Pt.resto σ1 σd vs)[i]? = σd[i]? := by
        intro vs hq
        induction vs with
        | nil => rfl
        | cons v vs ih =>
          unfold Pt.resto
          rw [List.getElem?_set_ne (by rintro rfl; exact hq List.mem_cons_self), ih fun m => hq (List.mem_cons_of_mem _ m)]
      rw [this q]
      exact e
  · rw [resto_len, S.len, wipe_length]
  · rw [S.klen, wipe_length]
/-- a thing that nobody owns here is changed -/
theorem SOk.updLo (S : SOk K C κ σd σv H l Lo) {a : Addr} {o : HO} (h : Lo a) : SOk K C κ σd σv (upd H a o) l Lo ∧ Kp H (upd H a o) (okOf l Lo) (okOf l Lo) := by
  have ne : ∀ b, okOf l Lo b → b ≠ a := fun b q e => q.2 (e ▸ h)
  have kp : Kp H (upd H a o) (okOf l Lo) (okOf l Lo) := fun b u e q => ⟨by rw [upd_ne (ne b q)]; exact e, q⟩
  have own : ∀ i b, b ∈ l i → b ≠ a := fun i b m e => S.lo i b m (e ▸ h)
  refine ⟨⟨fun i d e => ?_, S.emp, S.nd, S.dj, S.lo, fun i b m => ?_, fun b z => ?_, S.pin, S.len, S.klen, C.iv.mono kp S.iv⟩, kp⟩
  · obtain ⟨v, ev, r⟩ := S.val i d e
    exact ⟨v, ev, r.mono kp fun b u m e => by rw [upd_ne (own i b m)]; exact e⟩
  · rw [upd_ne (own i b m)]
    exact S.tr i b m
  · by_cases q : b = a
    · subst q
      exact ⟨_, upd_same⟩
    · rw [upd_ne q]
      exact S.los b z
end
/-- targets of a comprehension: its own names alone are stored -/
def SimW (vs : List Nat) (K : PySem.W.Frag) (C : Cc) (κ : List Sh) (g : TG) (bind : GDen) (κ' : List Sh) : Prop :=
  ∀ d v σd σv H l Lo (Q : Sv → Hp → Prop), SOk K C κ σd σv H l Lo → Rep K C.NT H (okOf l Lo) d v → bind d σd ≠ none →
    (∀ σd', bind d σd = some σd' → ∀ σv' l', SOk K C κ' σd' σv' H l' Lo → Go l H l' [] H → L2.wipe σv' vs = L2.wipe σv vs → Q σv' H) → g v σv H Q
def SimWs (vs : List Nat) (K : PySem.W.Frag) (C : Cc) (κ : List Sh) (g : TGs) (bind : GsDen) (κ' : List Sh) : Prop :=
  ∀ ds ws σd σv H l Lo (Q : Sv → Hp → Prop), SOk K C κ σd σv H l Lo → Reps K C.NT H (okOf l Lo) ds ws → bind ds σd ≠ none →
    (∀ σd', bind ds σd = some σd' → ∀ σv' l', SOk K C κ' σd' σv' H l' Lo → Go l H l' [] H → L2.wipe σv' vs = L2.wipe σv vs → Q σv' H) → g ws σv H Q
theorem wipe_set {σ : Sv} {i : Nat} {o : Option V} : ∀ {vs : List Nat}, i ∈ vs → L2.wipe (σ.set i o) vs = L2.wipe σ vs
  | [], h => by simp at h
  | v :: vs, h => by
    unfold L2.wipe
    by_cases q : i ∈ vs
    · rw [wipe_set q]
    · have e : i = v := (List.mem_cons.mp h).resolve_right q
      subst e
      have c : ∀ {vs : List Nat}, L2.wipe (σ.set i o) vs = (L2.wipe σ vs).set i o ∨ i ∈ vs := by
        intro vs
        induction vs with
        | nil => exact .inl rfl
        | cons w vs ih =>
          by_cases e : i = w
          · exact .inr (by rw [e]; exact List.mem_cons_self)
          · rcases ih with ih | ih
            · refine .inl ?_
              unfold L2.wipe
              rw [ih, List.set_comm _ _ e]
            · exact .inr (List.mem_cons_of_mem _ ih)
      rw [(c (vs := vs)).resolve_right q, List.set_set]
section
variable {K : PySem.W.Frag} {C : Cc} {κ κ1 κ2 κ' : List Sh} {vs : List Nat}
theorem simW_name (i : Nat) (hi : i ∈ vs) (hM : i ∉ C.M) (hκ : i < κ.length) : SimW vs K C κ (gName i) (gdName i) (κ.set i .f) := fun d v σd σv H l Lo Q S R ns hok => by
  have i1 : i < σv.length := by rw [← S.klen]; exact hκ
  exact hok _ rfl (σv.set i (some v)) _ (S.nil.set (by simp) (show RepO K C.NT H (okOf l (LoX Lo [])) .f d v [] from ⟨rfl, R.mono (kp_ok fun a o => ⟨o.1, fun z => z.elim o.2 (by simp)⟩)⟩) List.nodup_nil i i1 hM hκ) ((Go.refl l H).set i) (wipe_set hi)
end
theorem wipe_in {σ : Sv} {i : Nat} : ∀ {vs : List Nat}, i ∈ vs → (L2.wipe σ vs)[i]? = if i < σ.length then some none else none
  | [], h => by simp at h
  | v :: vs, h => by
    unfold L2.wipe
    by_cases q : i = v
    · subst q
      by_cases hl : i < σ.length
      · rw [List.getElem?_set_self (by rw [wipe_length]; exact hl), if_pos hl]
      · rw [List.getElem?_eq_none (by rw [List.length_set, wipe_length]; omega), if_neg hl]
    · rw [List.getElem?_set_ne (Ne.symm q)]
      exact wipe_in ((List.mem_cons.mp h).resolve_left q)
theorem wipe_wipe {σ : Sv} {vs : List Nat} : L2.wipe (L2.wipe σ vs) vs = L2.wipe σ vs := by
  refine List.ext_getElem? fun i => ?_
  by_cases q : i ∈ vs
  · rw [wipe_in q, wipe_in q, wipe_length]
  · rw [wipe_out q]
def GW (vs : List Nat) (X : Cx) (C : Cc) (κ : List Sh) (tg : Expr) (bind : GDen) (κ' : List Sh) : Prop := ∃ g, PG X tg g ∧ SimW vs X.K C κ g bind κ'
def lcD (bind : GDen) (bd : BDen) (de : Den) (vs : List Nat) : List D → List D → Stt → Rz (List D)
  | [], acc, σ => .ok acc σ
  | d :: ds, acc, σ => match bind d σ with
    | none => .stuck
    | some σ1 => (match bd σ1 with
      | .ok true σ2 => (match de σ2 with
        | .ok y σ3 => if acc.length < sizeLine then lcD bind bd de vs ds (acc ++ [y]) (wipeD σ3 vs) else .stuck
        | _ => .stuck)
      | .ok false σ2 => lcD bind bd de vs ds acc (wipeD σ2 vs)
      | _ => .stuck)
def dLc (iden : IDen) (bind : GDen) (bd : BDen) (de : Den) (vs : List Nat) : Den := fun σ => match iden σ with
  | .ok items σ1 => (match lcD bind bd de vs items [] (wipeD σ1 vs) with
    | .ok acc σ2 => .ok (.lst acc) (resto σ1 σ2 vs)
    | _ => .stuck)
  | .exc x σ1 => .exc x σ1
  | .stuck => .stuck
abbrev Cc.blk (C : Cc) : Cc := { C with W := fun _ _ _ _ => False, κx := C.κx }
theorem sim_lc {K : PySem.W.Frag} {C : Cc} {κ κ1 κL κg κt κ2 : List Sh} {p : Bool} {vs : List Nat} {wi : TI} {g : TG} {tt : TT} {te : TE} {iden : IDen} {bind : GDen} {bd : BDen} {de : Den} (hi : SimI K C κ wi iden κ1) (w1 : wkB κ1 κL = true) (hM : ∀ v ∈ vs, v ∉ C.M) (hf1 : ∀ v ∈ vs, kd κ1 v = .f) (hf : ∀ v ∈ vs, kd κL v = .f)
    (hg : SimW vs K C.blk κL g bind κg) (ht : SimB K C.blk κg tt bd κt) (he : SimT K C.blk κt te de .f κ2 p) (w2 : wkB κ2 κL = true) (w3 : wkB κt κL = true) : SimT K C κ (tLc wi g tt te vs) (dLc iden bind bd de vs) (.l .f) κL false := fun σd σv H l Lo Q S ns hok hex => by
  unfold dLc at ns
  refine hi σd σv H l Lo _ S (fun z => ns (by rw [z])) (fun items σ1 e J H1 l1 S1 g1 it => ?_) (fun x σ1 e => hex x σ1 (by unfold dLc; rw [e]))
  rw [e] at ns
  dsimp only at ns
  intro D hD
  obtain ⟨G, Y, Wk, hG, hY⟩ := it
  obtain ⟨S1w, gw⟩ := S1.weak (wk_of w1)
  have gr : Grow H1 (upd H1 D (.lst [])) [D] := Grow.one hD
  have S2 : SOk K C κL σ1 σv (upd H1 D (.lst [])) (wkOwn κ1 κL l1) (LoX Lo [D]) := S1w.grow gr
  have S3 : SOk K C.blk κL (wipeD σ1 vs) (L2.wipe σv vs) (upd H1 D (.lst [])) (wkOwn κ1 κL l1) (LoX Lo [D]) := (S2.wipe hM hf).other
  have gD : Go l1 H1 (wkOwn κ1 κL l1) [D] (upd H1 D (.lst [])) := gw.trans (gr.go S1w)
  -- what holds at the turns
  refine lc_it Wk (fun i H' => ∃ σ' l' acc ws, SOk K C.blk κL σ' (L2.wipe σv vs) H' l' (LoX Lo [D]) ∧ Go l1 H1 l' [D] H' ∧ H' D = some (.lst ws) ∧ Reps K C.NT H' (okOf l' (LoX Lo [D])) acc ws ∧ lcD bind bd de vs (items.drop i) acc σ' = lcD bind bd de vs items [] (wipeD σ1 vs))
    ⟨_, _, [], [], S3, gD, upd_same, rfl, rfl⟩ (fun i H' _ ⟨σ', l', acc, ws, S', g', _⟩ => hG H' (okOf l' (LoX Lo [D])) fun a u ea o => ⟨(g'.keep a u ea o.1).1, (g'.keep a u ea o.1).2.1, fun z => z.elim o.2 (g'.keep a u ea o.1).2.2⟩) (fun i x H' H'' hlt ⟨σ', l', acc, ws, S', g', eD, R, eq'⟩ y => ?_) (fun H' ⟨σ', l', acc, ws, S', g', eD, R, eq'⟩ => ?_)
  · obtain ⟨d, ed⟩ : ∃ d, items[i]? = some d := ⟨items[i], by simp [hlt]⟩
    have kp0 : Kp H1 H' (okOf l1 Lo) (okOf l' (LoX Lo [D])) := fun a u ea o => ⟨(g'.keep a u ea o.1).1, (g'.keep a u ea o.1).2.1, fun z => z.elim o.2 (g'.keep a u ea o.1).2.2⟩
    obtain ⟨lx, gr2, Rx⟩ := hY i H' x H'' (okOf l' (LoX Lo [D])) d kp0 ed y
    have S4 := S'.grow gr2
    have g2 := gr2.go S'
    have Rx2 : Rep K C.NT H'' (okOf l' (LoX Lo [D])) d x := Rx.mono (kp_ok fun a o => o.elim id fun m => ⟨fun j z => S4.lo j a z (.inr m), fun z => g2.newLo S' a m z⟩)
    have edr : items.drop i = d :: items.drop (i + 1) := by
      have hi' : i < items.length := hlt
      rw [List.drop_eq_getElem_cons hi']
      have : items[i] = d := by
        have := ed
        rw [List.getElem?_eq_getElem hi'] at this
        exact Option.some.inj this
      rw [this]
    have nsL : lcD bind bd de vs items [] (wipeD σ1 vs) ≠ .stuck := fun z => ns (by rw [z])
    rw [edr] at eq'
    have eqL : lcD bind bd de vs (d :: items.drop (i + 1)) acc σ' = (match bind d σ' with
      | none => .stuck
      | some σ1 => (match bd σ1 with
        | .ok true σ2 => (match de σ2 with
          | .ok y σ3 => if acc.length < sizeLine then lcD bind bd de vs (items.drop (i + 1)) (acc ++ [y]) (wipeD σ3 vs) else .stuck
          | _ => .stuck)
        | .ok false σ2 => lcD bind bd de vs (items.drop (i + 1)) acc (wipeD σ2 vs)
        | _ => .stuck)) := by conv => lhs; unfold lcD
    rw [eqL] at eq'
    rw [← eq'] at nsL
    refine hg d x σ' (L2.wipe σv vs) H'' l' (LoX Lo [D]) _ S4.drop Rx2 (fun z => nsL (by rw [z])) fun σ3 e3 σv3 l3 S5 g3 hw => ⟨?_, ?_⟩
    · rw [hw]
      exact wipe_wipe
    rw [e3] at eq' nsL
    dsimp only at eq' nsL
    refine ht σ3 σv3 H'' l3 (LoX Lo [D]) _ S5 (fun z => nsL (by rw [z])) (fun b σ4 e4 H4 l4 S6 g4 => ?_) (fun x σ4 e4 => absurd (by rw [e4]) nsL)
    rw [e4] at eq' nsL
    have gg : Go l1 H1 l4 [D] H4 := by
      have := g'.trans (g2.drop.trans (g3.trans g4))
      exact this
    have eD2 : H'' D = some (.lst ws) := gr2.kp D _ eD
    have nDl : ∀ {σ5 : Stt} {σv5 : Sv} {κ5 : List Sh} {H5 : Hp} {l5 : Own} {C5 : Cc}, SOk K C5 κ5 σ5 σv5 H5 l5 (LoX Lo [D]) → ∀ i, D ∉ l5 i := fun S i m => S.lo i D m (.inr List.mem_cons_self)
    have eD4 : H4 D = some (.lst ws) := (g4.keep D _ eD2 (nDl S5)).1
    have R4 : Reps K C.NT H4 (okOf l4 (LoX Lo [D])) acc ws := ((R.mono (fun a u ea o => ⟨gr2.kp a u ea, o⟩)).mono (g3.kp)).mono g4.kp
    cases b with
    | false =>
      rw [if_neg Bool.false_ne_true]
      obtain ⟨S7, g7⟩ := S6.weak (wk_of w3)
      have S8 := S7.wipe hM hf
      rw [hw, wipe_wipe] at S8
      exact ⟨_, _, acc, ws, S8, gg.trans g7, eD4, R4.mono g7.kp, eq'⟩
    | true =>
      rw [if_pos rfl]
      dsimp only at eq' nsL
      refine he σ4 σv3 H4 l4 (LoX Lo [D]) _ S6 (fun z => nsL (by rw [z])) (fun dy σ5 e5 yv H5 l5 lx5 S7 R7 nd5 g5 _ => ?_) (fun x σ5 e5 => absurd (by rw [e5]) nsL)
      rw [e5] at eq' nsL
      dsimp only at eq' nsL
      obtain ⟨z0, R7⟩ := R7
      subst z0
      have eD5 : H5 D = some (.lst ws) := (g5.keep D _ eD4 (nDl S6)).1
      have R5 : Reps K C.NT H5 (okOf l5 (LoX Lo [D])) acc ws := R4.mono g5.kp
      by_cases hl : acc.length < sizeLine
      · rw [if_pos hl] at eq' nsL
        refine ⟨ws, eD5, by rw [reps_len R5]; exact hl, ?_⟩
        obtain ⟨S8, g8⟩ := S7.drop.weak (wk_of w2)
        have S9 := S8.wipe hM hf
        rw [hw, wipe_wipe] at S9
        obtain ⟨S10, kp10⟩ := S9.updLo (a := D) (o := .lst (ws ++ [yv])) (.inr List.mem_cons_self)
        have Ry : Rep K C.NT H5 (okOf l5 (LoX Lo [D])) dy yv := R7.mono (kp_ok okNil)
        refine ⟨_, _, acc ++ [dy], ws ++ [yv], S10, ?_, upd_same, ((reps_append R5 (show Reps K C.NT H5 (okOf l5 (LoX Lo [D])) [dy] [yv] from ⟨yv, [], rfl, Ry, rfl⟩)).mono g8.kp).mono kp10, eq'⟩
        have g9 : Go l1 H1 _ [D] H5 := gg.trans (g5.trans g8)
        refine ⟨fun a u ea n => ?_, fun a ea => ?_⟩
        · obtain ⟨q1, q2, q3⟩ := g9.keep a u ea n
          exact ⟨by rw [upd_ne (by simpa using q3)]; exact q1, q2, q3⟩
        · by_cases q : a = D
          · rw [q]; exact hD
          · rw [upd_ne q] at ea
            exact g9.dom a ea
      · rw [if_neg hl] at nsL
        exact absurd rfl nsL
  · rw [List.drop_length] at eq'
    have eq2 : lcD bind bd de vs items [] (wipeD σ1 vs) = .ok acc σ' := eq'.symm
    have kp : Kp H1 H' (okOf l1 Lo) (okOf l' (LoX Lo [D])) := fun a u ea o => ⟨(g'.keep a u ea o.1).1, (g'.keep a u ea o.1).2.1, fun z => z.elim o.2 (g'.keep a u ea o.1).2.2⟩
    have S5 : SOk K C κL (resto σ1 σ' vs) σv H' l' (LoX Lo [D]) := SOk.resto S1 S' hf1 hf kp
    exact hok (.lst acc) _ (by unfold dLc; rw [e]; dsimp only; rw [eq2]) (.ref D) H' l' [D] S5 ⟨acc, D, ws, [], rfl, rfl, rfl, eD, reps_list R⟩ (by simp) (g1.trans g') (fun q => nomatch q)
end Pt
set_option maxRecDepth 100000
set_option maxHeartbeats 1000000
namespace Pt
open PySem PySem.Spec PyProof.Rows L2
section
variable {X : Cx} {C : Cc} {κ κ1 κ2 κ3 κ' κb κL κg κt : List Sh} {s rs : Sh} {p p1 p2 : Bool} {a b c e tg : Expr} {es tgs : List Expr} {da db de : Den} {das dks : ADen} {pos apos : Pos} {sd : SDen} {bind : GDen} {binds : GsDen} {iden : IDen} {bd : BDen} {vs : List Nat}
/-! ### stores -/
theorem ss_set {x : Str} {pos' : Pos} {κ' : List Sh} (i : Nat) (hN : X.N.Nodup) (hi : X.N[i]? = some x) (hx : Loc X.env.scope x) (he : EE X C κ e da s κ1 p) (hM : C.M.contains i = false := by rfl) (hκ : i < κ1.length := by decide)
    (hs : swapsWith e (some (.Name x pos')) pos.line X.env = pure false := by rfl) (hf : X.fn x = true ∨ X.env.scope.names.lookup x = some .local := by first | exact .inl rfl | exact .inr rfl) (hk' : κ1.set i s = κ' := by rfl) : SS X C κ (.Assign [.Name x pos'] e pos) (sSet i da) κ' κb rs := by
  subst hk'
  obtain ⟨t, h1, h2⟩ := he
  exact ⟨_, ps_set hN hi hx h1 hs hf, sim_sset h2 (nin hM) hκ⟩
def sAsg (da : Den) (bind : GDen) : SDen := fun σ => match da σ with
  | .ok d σ1 => (match bind d σ1 with
    | some σ2 => .nx σ2
    | none => .stuck)
  | .exc x σ1 => .exc x σ1
  | .stuck => .stuck
theorem ss_asg (he : EE X C κ e da .f κ1 p) (hg : GG X C κ1 tg bind κ2) (hs : swapsWithSole [tg] e pos.line X.env = pure false := by rfl) (hw : swappedStores [tg] e X.env = pure none := by rfl)
    (h1 : (assignEach [tg] X.env).map (·.2) = [assign tg X.env] := by rfl) : SS X C κ (.Assign [tg] e pos) (sAsg da bind) κ2 κb rs := by
  obtain ⟨t, a1, a2⟩ := he
  obtain ⟨g, b1, b2⟩ := hg
  refine ⟨_, ps_asg a1 b1 hs hw h1, fun σd σv H l Lo E S ns hn hb hc hr hx => ?_⟩
  unfold sAsg at ns
  refine a2 σd σv H l Lo _ S (fun z => ns (by rw [z])) (fun d σ1 e v H1 l1 lx S1 R nd g hp => ?_) (fun x σ1 e c dd H' l' => hx x σ1 (by unfold sAsg; rw [e]) c dd σv H' l')
  rw [e] at ns
  dsimp only at ns
  obtain ⟨z0, R⟩ := R
  subst z0
  refine b2 d v σ1 σv H1 l1 Lo _ S1.drop (R.mono (kp_ok okNil)) (fun z => ns (by rw [z])) fun σ2 e2 σv2 l2 S2 g2 => ?_
  exact hn σ2 (by unfold sAsg; rw [e]; dsimp only; rw [e2]) σv2 H1 l2 S2 (g.trans g2)
/-- a, b = e1, e2 by names -/
def sPar (is : List Nat) (das : ADen) : SDen := fun σ => match das σ with
  | .ok ds σ1 => if ds.length = is.length then .nx ((is.zip ds).foldl (fun σ q => σ.set q.1 (some q.2)) σ1) else .stuck
  | .exc x σ1 => .exc x σ1
  | .stuck => .stuck
theorem SOk.put {K : PySem.W.Frag} {σd : Stt} {σv : Sv} {H : Hp} {l : Own} {Lo : Addr → Prop} {d : D} {v : V} (S : SOk K C κ σd σv H l Lo) (R : Rep K C.NT H (okOf l Lo) d v) (i : Nat) (hM : i ∉ C.M) (hκ : i < κ.length) :
    SOk K C (κ.set i .f) (σd.set i (some d)) (σv.set i (some v)) H (setOwn l i []) Lo ∧ Go l H (setOwn l i []) [] H :=
  ⟨S.nil.set (by simp) (show RepO K C.NT H (okOf l (LoX Lo [])) .f d v [] from ⟨rfl, R.mono (kp_ok fun a o => ⟨o.1, fun z => z.elim o.2 (by simp)⟩)⟩) List.nodup_nil i (by rw [← S.klen]; exact hκ) hM hκ, (Go.refl l H).set i⟩
theorem ss_par {x y : Str} {px py pt : Pos} {kt k2 : Nat} {pt2 : Pos} {κ' : List Sh} (i j : Nat) (hc : X.calm = true) (hN : X.N.Nodup) (hi : X.N[i]? = some x) (hj : X.N[j]? = some y) (hij : i ≠ j) (hx : X.env.scope.names.lookup x = some .local) (hy : X.env.scope.names.lookup y = some .local)
    (ha : FE X C κ [a, b] das κ1 p) (hM1 : C.M.contains i = false := by rfl) (hM2 : C.M.contains j = false := by rfl) (hκ1 : i < κ1.length := by decide) (hκ2 : j < κ1.length := by decide)
    (hw : swappedStores [.Tuple [.Name x px, .Name y py] kt pt] (.Tuple [a, b] k2 pt2) X.env = pure (some [x, y]) := by rfl)
    (hs : swapsWithSole [.Tuple [.Name x px, .Name y py] kt pt] (.Tuple [a, b] k2 pt2) pos.line X.env = pure false := by rfl) (hk' : (κ1.set i .f).set j .f = κ' := by rfl) :
    SS X C κ (.Assign [.Tuple [.Name x px, .Name y py] kt pt] (.Tuple [a, b] k2 pt2) pos) (sPar [i, j] das) κ' κb rs := by
  subst hk'
  obtain ⟨ts, h1, h2⟩ := ha
  refine ⟨_, ps_par hc hN hi hj hij hx hy h1.pa hw hs, fun σd σv H l Lo E S ns hn hb hct hr hxx => ?_⟩
  unfold sPar at ns
  refine h2 σd σv H l Lo _ S (fun z => ns (by rw [z])) (fun ds σ1 e ws H1 l1 S1 R g _ => ?_) (fun x σ1 e c dd H' l' => hxx x σ1 (by unfold sPar; rw [e]) c dd σv H' l')
  rw [e] at ns
  dsimp only at ns
  by_cases hl : ds.length = [i, j].length
  · match ds, hl, R with
    | [d1, d2], _, ⟨v1, r, e1, R1, ⟨v2, r2, e2, R2, e3⟩⟩ =>
      have e3 : r2 = [] := e3
      subst e3 e2 e1
      obtain ⟨S2, g2⟩ := S1.put R1 i (nin hM1) hκ1
      obtain ⟨S3, g3⟩ := S2.put (R2.mono g2.kp) j (nin hM2) (by rw [List.length_set]; exact hκ2)
      exact ⟨v1, v2, rfl, hn _ (by unfold sPar; rw [e]; rfl) _ H1 _ S3 (g.trans (g2.trans g3))⟩
  · rw [if_neg hl] at ns
    exact absurd rfl ns
theorem ss_par3 {d : Expr} {x y z : Str} {px py pz pt : Pos} {kt k2 : Nat} {pt2 : Pos} {κ' : List Sh} (i j k : Nat) (hc : X.calm = true) (hN : X.N.Nodup) (hi : X.N[i]? = some x) (hj : X.N[j]? = some y) (hk : X.N[k]? = some z) (hij : i ≠ j) (hik : i ≠ k) (hjk : j ≠ k) (hx : X.env.scope.names.lookup x = some .local) (hy : X.env.scope.names.lookup y = some .local) (hz : X.env.scope.names.lookup z = some .local)
    (ha : FE X C κ [a, b, d] das κ1 p) (hM1 : C.M.contains i = false := by rfl) (hM2 : C.M.contains j = false := by rfl) (hM3 : C.M.contains k = false := by rfl) (hκ1 : i < κ1.length := by decide) (hκ2 : j < κ1.length := by decide) (hκ3 : k < κ1.length := by decide)
    (hw : swappedStores [.Tuple [.Name x px, .Name y py, .Name z pz] kt pt] (.Tuple [a, b, d] k2 pt2) X.env = pure (some [x, y, z]) := by rfl)
    (hs : swapsWithSole [.Tuple [.Name x px, .Name y py, .Name z pz] kt pt] (.Tuple [a, b, d] k2 pt2) pos.line X.env = pure false := by rfl) (hk' : ((κ1.set i .f).set j .f).set k .f = κ' := by rfl) :
    SS X C κ (.Assign [.Tuple [.Name x px, .Name y py, .Name z pz] kt pt] (.Tuple [a, b, d] k2 pt2) pos) (sPar [i, j, k] das) κ' κb rs := by
  subst hk'
  obtain ⟨ts, h1, h2⟩ := ha
  refine ⟨_, ps_par3 hc hN hi hj hk hij hik hjk hx hy hz h1.pa hw hs, fun σd σv H l Lo E S ns hn hb hct hr hxx => ?_⟩
  unfold sPar at ns
  refine h2 σd σv H l Lo _ S (fun z => ns (by rw [z])) (fun ds σ1 e ws H1 l1 S1 R g _ => ?_) (fun x σ1 e c dd H' l' => hxx x σ1 (by unfold sPar; rw [e]) c dd σv H' l')
  rw [e] at ns
  dsimp only at ns
  by_cases hl : ds.length = [i, j, k].length
  · match ds, hl, R with
    | [d1, d2, d3], _, ⟨v1, r, e1, R1, ⟨v2, r2, e2, R2, ⟨v3, r3, e3, R3, e4⟩⟩⟩ =>
      have e4 : r3 = [] := e4
      subst e4 e3 e2 e1
      obtain ⟨S2, g2⟩ := S1.put R1 i (nin hM1) hκ1
      obtain ⟨S3, g3⟩ := S2.put (R2.mono g2.kp) j (nin hM2) (by rw [List.length_set]; exact hκ2)
      obtain ⟨S4, g4⟩ := S3.put ((R3.mono g2.kp).mono g3.kp) k (nin hM3) (by rw [List.length_set, List.length_set]; exact hκ3)
      exact ⟨v1, v2, v3, rfl, hn _ (by unfold sPar; rw [e]; rfl) _ H1 _ S4 (g.trans (g2.trans (g3.trans g4)))⟩
  · rw [if_neg hl] at ns
    exact absurd rfl ns
/-! ### comprehensions -/
theorem gw_name {x : Str} {κ' : List Sh} (i : Nat) (hi : i ∈ vs) (hN : X.N.Nodup) (hx : X.N[i]? = some x) (hl : Loc X.env.scope x) (hf : X.fn x = true ∨ X.env.scope.names.lookup x = some .local) (hM : C.M.contains i = false := by rfl) (hκ : i < κ.length := by decide) (hk' : κ.set i .f = κ' := by rfl) : GW vs X C κ (.Name x pos) (gdName i) κ' := by
  subst hk'
  exact ⟨_, pg_name hN hx hl hf, simW_name i hi (nin hM) hκ⟩
def GWs (vs : List Nat) (X : Cx) (C : Cc) (κ : List Sh) (tgs : List Expr) (bind : GsDen) (κ' : List Sh) : Prop := ∃ g, PGs X tgs g ∧ SimWs vs X.K C κ g bind κ'
theorem gws_nil : GWs vs X C κ [] gdNil κ := ⟨_, pgs_nil, fun ds ws σd σv H l Lo Q S R ns hok => by
  cases ds with
  | nil => exact ⟨R, hok σd rfl σv l S (Go.refl l H) rfl⟩
  | cons => exact absurd rfl ns⟩
theorem gws_cons (h1 : GW vs X C κ tg bind κ1) (h2 : GWs vs X C κ1 tgs binds κ2) (hs : (assignEach (tg :: tgs) X.env).map (·.2) = assign tg X.env :: (assignEach tgs X.env).map (·.2) := by rfl) : GWs vs X C κ (tg :: tgs) (gdCons bind binds) κ2 := by
  obtain ⟨g, a1, a2⟩ := h1
  obtain ⟨gs, b1, b2⟩ := h2
  refine ⟨_, pgs_cons a1 b1 hs, fun ds ws σd σv H l Lo Q S R ns hok => ?_⟩
  cases ds with
  | nil => exact absurd rfl ns
  | cons d ds =>
    obtain ⟨v, r, e, q1, q2⟩ := R
    have ns : (bind d σd).bind (fun σ1 => binds ds σ1) ≠ none := ns
    have hok : ∀ σd', (bind d σd).bind (fun σ1 => binds ds σ1) = some σd' → ∀ σv' l', SOk X.K C κ2 σd' σv' H l' Lo → Go l H l' [] H → L2.wipe σv' vs = L2.wipe σv vs → Q σv' H := hok
    refine ⟨v, r, e, a2 d v σd σv H l Lo _ S q1 (fun z => ns (by rw [z]; rfl)) fun σ1 e1 σv1 l1 S1 g1 hw1 => ?_⟩
    rw [e1] at ns hok
    refine b2 ds r σ1 σv1 H l1 Lo Q S1 (q2.mono g1.kp) ns fun σ2 e2 σv2 l2 S2 g2 hw2 => ?_
    exact hok σ2 e2 σv2 l2 S2 (g1.trans g2) (hw2.trans hw1)
theorem gw_tup {k n : Nat} (hc : X.calm = true) (h : GWs vs X C κ tgs binds κ') (hn : (assignEach tgs X.env).length = n := by rfl) (hst : (assignEach tgs X.env).findIdx? (·.1) = none := by rfl) : GW vs X C κ (.Tuple tgs k pos) (gdTup n binds) κ' := by
  obtain ⟨gs, b1, b2⟩ := h
  refine ⟨_, pg_tup (n := n) hc b1 hn hst, fun d v σd σv H l Lo Q S R ns hok => ?_⟩
  cases d with
  | tup ds =>
    obtain ⟨a, ws, e, t, r⟩ := R
    have ns : (if ds.length = n then binds ds σd else none) ≠ none := ns
    have hok : ∀ σd', (if ds.length = n then binds ds σd else none) = some σd' → ∀ σv' l', SOk X.K C κ' σd' σv' H l' Lo → Go l H l' [] H → L2.wipe σv' vs = L2.wipe σv vs → Q σv' H := hok
    by_cases hl : ds.length = n
    · rw [if_pos hl] at ns hok
      exact ⟨a, ws, e, t.sq, by rw [reps_len r]; exact hl, b2 ds ws σd σv H l Lo Q S r ns hok⟩
    · rw [if_neg hl] at ns
      exact absurd rfl ns
  | _ => exact absurd rfl ns
/-- no test; one test -/
def bTrue : BDen := fun σ => .ok true σ
theorem simB_yes {K : PySem.W.Frag} : SimB K C κ tYes bTrue κ := fun σd σv H l Lo Q S ns hok hex => hok true σd rfl H l S (Go.refl l H)
theorem takes_blk {X : Cx} {W : WX} (h : ∀ c d σ H, W c d σ H → False) : Takes X W := fun u s' ⟨_, _, _, _, _, _, _, _, _, _, _, _, _, _, _, _, w⟩ => (h _ _ _ _ w).elim
/-- a block's context -/
abbrev Blk (X : Cx) (scope : Scope) (q : Shared × Hp × Addr × List (Str × Addr) × List Addr) : Cx := X.blk q.1 q.2.1 scope (compEnvC scope q.2.2.2.1 q.2.2.1 X.env) q.2.2.2.2
theorem ee_blk {scope : Scope} {Cb : Cc} (h : ∀ q, EE (Blk X scope q) Cb κ e de s κ' p) : ∃ t, (∀ (s : Shared) (H : Hp) (A : Addr) (cl : List (Str × Addr)) (fp : List Addr), PE (X.blk s H scope (compEnvC scope cl A X.env) fp) e t) ∧ SimT X.K Cb κ t de s κ' p :=
  ⟨fun σ H Q => ∀ q, (h q).choose σ H Q, fun s H A cl fp => ⟨fun pins s1 σ H1 Q I hq => (h (s, H, A, cl, fp)).choose_spec.1.run pins s1 σ H1 Q I (hq (s, H, A, cl, fp))⟩,
    fun σd σv H l Lo Q S ns hok hex q => (h q).choose_spec.2 σd σv H l Lo Q S ns hok hex⟩
theorem bb_blk {scope : Scope} {Cb : Cc} (h : ∀ q, BB (Blk X scope q) Cb κ e bd κ') : ∃ t, (∀ (s : Shared) (H : Hp) (A : Addr) (cl : List (Str × Addr)) (fp : List Addr), PT (X.blk s H scope (compEnvC scope cl A X.env) fp) e t) ∧ SimB X.K Cb κ t bd κ' :=
  ⟨fun σ H Q => ∀ q, (h q).choose σ H Q, fun s H A cl fp => ⟨fun pins s1 σ H1 Q I hq => (h (s, H, A, cl, fp)).choose_spec.1.run pins s1 σ H1 Q I (hq (s, H, A, cl, fp))⟩,
    fun σd σv H l Lo Q S ns hok hex q => (h q).choose_spec.2 σd σv H l Lo Q S ns hok hex⟩
theorem gw_blk {scope : Scope} {Cb : Cc} (h : ∀ q, GW vs (Blk X scope q) Cb κ tg bind κ') : ∃ g, (∀ (s : Shared) (H : Hp) (A : Addr) (cl : List (Str × Addr)) (fp : List Addr), PG (X.blk s H scope (compEnvC scope cl A X.env) fp) tg g) ∧ SimW vs X.K Cb κ g bind κ' :=
  ⟨fun v σ H Q => ∀ q, (h q).choose v σ H Q, fun s H A cl fp => ⟨fun pins s1 σ H1 v u Q I r hq => (h (s, H, A, cl, fp)).choose_spec.1.run pins s1 σ H1 v u Q I r (hq (s, H, A, cl, fp))⟩,
    fun d v σd σv H l Lo Q S R ns hok q => (h q).choose_spec.2 d v σd σv H l Lo Q S R ns hok⟩
theorem ee_lc {elt iter : Expr} {scope : Scope} (own : List (Str × Nat)) (hc : X.calm = true) (hN : X.N.Nodup) (hi : II X C tg κ iter iden κ1)
    (hg : ∀ q, GW (own.map (·.2)) (Blk X scope q) C.blk κL tg bind κg) (he : ∀ q, EE (Blk X scope q) C.blk κg elt de .f κ2 p2)
    (ok : blkC X.N X.env.scope scope own = true := by rfl) (hM : ((own.map (·.2)).all fun v => !C.M.contains v) = true := by rfl) (hf1 : ((own.map (·.2)).all fun v => decide (kd κ1 v = .f)) = true := by rfl) (hf : ((own.map (·.2)).all fun v => decide (kd κL v = .f)) = true := by rfl)
    (w1 : wkB κ1 κL = true := by rfl) (w2 : wkB κ2 κL = true := by rfl) (w3 : wkB κg κL = true := by rfl) (hs : ∀ x, foldedSetIterable iter X.env x = pure x := by intro _; rfl) :
    EE X C κ (.ListComp elt [⟨tg, iter, [], 0⟩] scope pos) (dLc iden bind bTrue de (own.map (·.2))) (.l .f) κL false := by
  obtain ⟨wi, a1, a2⟩ := hi
  obtain ⟨g, b1, b2⟩ := gw_blk hg
  obtain ⟨t, c1, c2⟩ := ee_blk he
  exact ⟨_, pe_lc hc hN a1 (blkOk_by ok) b1 (fun _ _ _ _ _ => pts_nil) c1 hs, sim_lc a2 w1 (fun v m => nin (by simpa using List.all_eq_true.mp hM v m)) (fun v m => of_decide_eq_true (List.all_eq_true.mp hf1 v m)) (fun v m => of_decide_eq_true (List.all_eq_true.mp hf v m)) b2 simB_yes c2 w2 w3⟩
theorem ee_lcIf {elt iter cond : Expr} {scope : Scope} (own : List (Str × Nat)) (hc : X.calm = true) (hN : X.N.Nodup) (hi : II X C tg κ iter iden κ1)
    (hg : ∀ q, GW (own.map (·.2)) (Blk X scope q) C.blk κL tg bind κg) (ht : ∀ q, BB (Blk X scope q) C.blk κg cond bd κt) (he : ∀ q, EE (Blk X scope q) C.blk κt elt de .f κ2 p2)
    (ok : blkC X.N X.env.scope scope own = true := by rfl) (hM : ((own.map (·.2)).all fun v => !C.M.contains v) = true := by rfl) (hf1 : ((own.map (·.2)).all fun v => decide (kd κ1 v = .f)) = true := by rfl) (hf : ((own.map (·.2)).all fun v => decide (kd κL v = .f)) = true := by rfl)
    (w1 : wkB κ1 κL = true := by rfl) (w2 : wkB κ2 κL = true := by rfl) (w3 : wkB κt κL = true := by rfl) (hs : ∀ x, foldedSetIterable iter X.env x = pure x := by intro _; rfl) :
    EE X C κ (.ListComp elt [⟨tg, iter, [cond], 0⟩] scope pos) (dLc iden bind bd de (own.map (·.2))) (.l .f) κL false := by
  obtain ⟨wi, a1, a2⟩ := hi
  obtain ⟨g, b1, b2⟩ := gw_blk hg
  obtain ⟨tt, d1, d2⟩ := bb_blk ht
  obtain ⟨t, c1, c2⟩ := ee_blk he
  exact ⟨_, pe_lc hc hN a1 (blkOk_by ok) b1 (fun s H A cl fp => pts_one (d1 s H A cl fp)) c1 hs, sim_lc a2 w1 (fun v m => nin (by simpa using List.all_eq_true.mp hM v m)) (fun v m => of_decide_eq_true (List.all_eq_true.mp hf1 v m)) (fun v m => of_decide_eq_true (List.all_eq_true.mp hf v m)) b2 d2 c2 w2 w3⟩
end
end Pt
set_option maxRecDepth 100000
set_option maxHeartbeats 1000000
namespace Pt
open PySem PySem.Spec PyProof.Rows L2
section
variable {X : Cx} {C : Cc} {κ κ1 κ2 κ3 κ' κb κL κg κt : List Sh} {s rs : Sh} {p p1 p2 : Bool} {a b c e tg : Expr} {es tgs : List Expr} {da db de : Den} {das dks : ADen} {pos apos : Pos} {sd : SDen} {bind : GDen} {binds : GsDen} {iden : IDen} {bd : BDen} {vs : List Nat}
/-! ### a caught error's field -/
def dErr (L : Nat) (cls : List Nat) (k : Nat) (x : D) : Den := fun σ => match x with
  | .exc Cx fs => if cls.any (Nat.beq Cx) && fldOk L fs then (match fldGet k fs with
    | some d => .ok d σ
    | none => .stuck) else .stuck
  | _ => .stuck
theorem ee_err {ad : Addr} {oe : Obj} {cls : Value} {d : Option Addr} {pn : List (Addr × Obj)} {x : D} {n f : Str} {xp : Pos} {k : Nat} {cs : List Nat} (i j : Nat) (vis : List Str) (hv : VisOk X vis) (hN : X.N[i]? = some n) (hj : vis[j]? = some n) (hz : Zc cls d oe) (hf : ∃ vs, oe.data = .fields vs)
    (hNT : C.NT.Nodup) (hk : k < C.NT.length) (hfk : nm C.NT k = f) (T : ∀ Cx, cs.any (Nat.beq Cx) = true → ∃ fks : List Nat, k ∈ fks ∧ PtE.ErrTxt X.prog X.K (ga X.K C.NT Cx) (fks.map (nm C.NT)))
    (hb : attributeBase (.Name n xp) f X.env (eval (.Name n xp) X.env) = eval (.Name n xp) X.env := by rfl) :
    EE (X.suite ad ((ad, oe) :: pn)) (C.suite X.K (some i) ad cls d x) κ (.Attribute (.Name n xp) f pos) (dErr C.NT.length cs k x) .f κ true := by
  obtain ⟨v1, v2, v3⟩ := hv n (List.mem_of_getElem? hj)
  have hvar : PE (X.suite ad ((ad, oe) :: pn)) (.Name n xp) (tVar i) := pe_var (X := X.suite ad ((ad, oe) :: pn)) hN v1 v2 v3
  -- the reading asks for the class only where it is run
  refine ⟨fun σ H Q => ∃ (Cx : Nat) (fks : List Nat) (_ : k ∈ fks) (T : PtE.ErrTxt X.prog X.K (ga X.K C.NT Cx) (fks.map (nm C.NT))), tErrFld (ga X.K C.NT Cx) (fks.map (nm C.NT)) f ad cls d (tVar i) σ H Q, ⟨fun pins s1 σ H Q I h => ?_⟩, fun σd σv H l Lo Q S ns hok hex => ?_⟩
  · obtain ⟨Cx, fks, hk2, T2, h⟩ := h
    have hm : f ∈ fks.map (nm C.NT) := by rw [← hfk]; exact List.mem_map_of_mem hk2
    exact (pe_errFld (X := X) hm T2 hz hf hvar hb).run pins s1 σ H Q I h
  · have iv := S.iv.1
    obtain ⟨Cx, fs, ex, ec, rest⟩ := id iv
    subst ex ec
    unfold dErr at ns
    dsimp only at ns
    by_cases h0 : (cs.any (Nat.beq Cx) && fldOk C.NT.length fs) = true
    · rw [if_pos h0] at ns
      obtain ⟨h1, h2⟩ := Bool.and_eq_true_iff.mp h0
      obtain ⟨fks, hk2, T2⟩ := T Cx h1
      cases eg : fldGet k fs with
      | none => rw [eg] at ns; exact absurd rfl ns
      | some df =>
        have hi : some i = some i := rfl
        have pinI : σv[i]? = some (some (.ref ad)) := by
          have := S.pin i (show i ∈ (some i).toList ++ C.M from List.mem_append_left _ (by simp))
          rw [this]
          show some (some (if some i = some i then V.ref ad else C.pin i)) = _
          rw [if_pos rfl]
        rcases rest with ⟨e1, e2⟩ | ⟨dd, fv, e1, ⟨o1, e2⟩, rf⟩
        · subst e1
          cases eg
        · subst e1
          have g := repF_get hNT hk h2 rf
          rw [eg] at g
          obtain ⟨v, l1, r1⟩ := g
          refine ⟨Cx, fks, hk2, T2, .ref ad, pinI, rfl, rfl, dd, fv, v, rfl, e2, by rw [← hfk]; exact l1, ?_⟩
          exact hok df σd (by unfold dErr; dsimp only; rw [if_pos h0, eg]) v H l [] S.nil ⟨rfl, r1.mono (kp_ok fun a o => ⟨o.1, fun z => z.elim o.2 (by simp)⟩)⟩ List.nodup_nil (Go.refl l H) fun _ => ⟨rfl, rfl, rfl, rfl⟩
    · rw [if_neg h0] at ns
      exact absurd rfl ns
/-! ### texts as iterables -/
def idStr (da : Den) : IDen := fun σ => match da σ with
  | .ok (.str x) σ1 => .ok (x.cps.toList.map fun c => .str ⟨#[c]⟩) σ1
  | .exc x σ1 => .exc x σ1
  | _ => .stuck
theorem ii_str (ha : EE X C κ a da .f κ' p) : II X C tg κ a (idStr da) κ' := by
  obtain ⟨t, h1, h2⟩ := ha
  refine ⟨_, pi_str h1, fun σd σv H l Lo R S ns hok hex => ?_⟩
  unfold idStr at ns
  refine h2 σd σv H l Lo _ S (fun z => ns (by rw [z])) (fun d σ1 e v H1 l1 lx S1 Rr nd g hp => ?_) (fun x σ1 e => hex x σ1 (by unfold idStr; rw [e]))
  rw [e] at ns
  obtain ⟨z0, Rr⟩ := Rr
  subst z0
  cases d with
  | str x =>
    refine ⟨x, Rr, hok _ σ1 (by unfold idStr; rw [e]) _ H1 l1 S1.drop g ?_⟩
    refine ⟨_, _, by have w := walk_str (z := x); rw [List.length_map, Array.length_toList]; exact w, fun _ _ _ => trivial, fun i H x' H' ok d k ei y => ?_⟩
    obtain ⟨e1, c, ec, e2⟩ := y
    subst e1 e2
    rw [List.getElem?_map, Array.getElem?_toList, ec] at ei
    cases ei
    exact ⟨[], Grow.refl H', rfl⟩
  | _ => exact absurd rfl ns
/-! ### methods of ints, texts -/
def fBits : List D → Option D
  | [.int i] => some (.int (Builtin.Int.intBits i : Nat))
  | _ => none
theorem ee_bits (ha : AE X C κ [a] das κ' p) (hbase : attributeBase a "bit_length" X.env (eval a X.env) = eval a X.env := by rfl) (hline : (apos.endLine == pos.line) = true := by rfl) : EE X C κ (.Call (.Attribute a "bit_length" apos) [] [] pos) (dOp fBits das) .f κ' (p && true) := by
  obtain ⟨ta, h1, h3⟩ := ha.one
  refine ⟨_, pe_bits h1 hbase hline, ?_⟩
  exact sim_op (r := r1L fun x H Q => ∃ i, x = .int i ∧ Q (.int (Builtin.Int.intBits i : Nat)) H) (spec_pure fun H ok ds vs d Q R e hq => by
    unfold fBits at e
    split at e
    · rename_i i
      cases e
      obtain ⟨v, rfl, r⟩ := c1 R
      exact ⟨i, r, hq _ rfl⟩
    · cases e) h3
/-- x.split(y) -/
def fSplit : List D → Option D
  | [.str x, .str y] => if (y.length == 0) = false ∧ x.length + 2 ≤ sizeLine then some (.lst ((Txt.split x y).map .str)) else none
  | _ => none
theorem reps_strs {K : PySem.W.Frag} {NT : List Str} {H : Hp} {ok : Addr → Prop} : ∀ ys : List Str, Reps K NT H ok (ys.map .str) (ys.map .str)
  | [] => rfl
  | y :: r => ⟨.str y, _, rfl, rfl, reps_strs r⟩
def m1L (r : V → List V → Hp → VK → Prop) : List V → Hp → VK → Prop := fun vs H Q => match vs with
  | [x, y] => r x [y] H Q
  | _ => False
/-- x.m(y), x a text -/
def dM1 (f : List D → Option D) (da db : Den) : Den := fun σ => match da σ with
  | .ok (.str x) σ1 => (match db σ1 with
    | .ok y σ2 => (match f [.str x, y] with
      | some d => .ok d σ2
      | none => .stuck)
    | .exc x σ2 => .exc x σ2
    | .stuck => .stuck)
  | .exc x σ1 => .exc x σ1
  | _ => .stuck
theorem sim_m1 {K : PySem.W.Frag} {r : V → List V → Hp → VK → Prop} {f : List D → Option D} {po : Bool} {ta tb : TE} (ho : OpSpec K C.NT (m1L r) f s po) (ha : SimT K C κ ta da .f κ1 p1) (hb : SimT K C κ1 tb db .f κ2 p2) : SimT K C κ (tM1 r ta tb) (dM1 f da db) s κ2 false := fun σd σv H l Lo Q S ns hok hex => by
  unfold dM1 at ns
  refine ha σd σv H l Lo _ S (fun z => ns (by rw [z])) (fun d σ1 e v H1 l1 lx S1 R nd g hp => ?_) (fun x σ1 e => hex x σ1 (by unfold dM1; rw [e]))
  rw [e] at ns
  obtain ⟨z0, R⟩ := R
  subst z0
  cases d with
  | str x =>
    refine ⟨⟨x, R⟩, ?_⟩
    dsimp only at ns
    refine hb σ1 σv H1 l1 Lo _ S1.drop (fun z => ns (by rw [z])) (fun y σ2 e2 w H2 l2 lx2 S2 R2 nd2 g2 hp2 => ?_) (hex.go0 g fun x σ e2 => by unfold dM1; rw [e]; dsimp only; rw [e2])
    rw [e2] at ns
    obtain ⟨z0, R2⟩ := R2
    subst z0
    dsimp only at ns
    cases ef : f [.str x, y] with
    | none => rw [ef] at ns; exact absurd rfl ns
    | some d =>
      have R2' : Rep K C.NT H2 (okOf l2 Lo) y w := R2.mono (kp_ok okNil)
      refine ho H2 (okOf l2 Lo) [.str x, y] [v, w] d Q ⟨v, _, rfl, R, ⟨w, _, rfl, R2'.c, rfl⟩⟩ ef fun u H' lx gr Ru nd hpo => ?_
      have S3 := S2.drop.grow gr
      have g3 := gr.go S2.drop
      exact hok d σ2 (by unfold dM1; rw [e]; dsimp only; rw [e2]; dsimp only; rw [ef]) u H' l2 lx S3 (Ru.mono (kp_ok fun a o => ⟨o.1.1, fun z => z.elim o.1.2 o.2⟩) fun _ _ _ q => q) nd (g.trans (g2.trans g3)) (fun q => nomatch q)
  | _ => exact absurd rfl ns
theorem ee_split (ha : EE X C κ a da .f κ1 p1) (hb : EE X C κ1 b db .f κ2 p2) (hs : starEach [b] X.env = [(false, eval b X.env)] := by rfl) (hbase : attributeBase a "split" X.env (eval a X.env) = eval a X.env := by rfl) (hline : (apos.endLine == pos.line) = true := by rfl) :
    EE X C κ (.Call (.Attribute a "split" apos) [b] [] pos) (dM1 fSplit da db) (.l .f) κ2 false := by
  obtain ⟨t, h1, h2⟩ := ha
  obtain ⟨u, h3, h4⟩ := hb
  refine ⟨_, pe_split h1 h3 hs hbase hline, sim_m1 (po := false) (spec_list (fun H ok ds vs d Q R e hq => ?_) fun ds d e => ?_) h2 h4⟩
  rotate_left
  · unfold fSplit at e
    split at e
    · split at e
      · cases e; exact ⟨_, rfl⟩
      · cases e
    · cases e
  unfold fSplit at e
  split at e
  · rename_i x y
    split at e
    · rename_i hc
      cases e
      obtain ⟨v, w, rfl, r1, r2⟩ := c2 R
      exact ⟨x, y, r1, by rw [show w = .str y from r2], hc.1, hc.2, fun q hq0 => hq _ _ rfl (reps_strs _) q hq0⟩
    · cases e
  · cases e
/-! ### f-strings -/
def dFmt (da : Den) : Den := fun σ => match da σ with
  | .ok (.str y) σ1 => if y.length ≤ sizeLine then .ok (.str y) σ1 else .stuck
  | .ok (.int i) σ1 => if i.natAbs < 2 ^ 1900 then .ok (.str (toString i : String)) σ1 else .stuck
  | .exc x σ1 => .exc x σ1
  | _ => .stuck
theorem log_ok {i : Int} (h : i.natAbs < 2 ^ 1900) : i.natAbs.log2 < 1920 := by
  by_cases z : i.natAbs = 0
  · rw [z]; decide
  · exact Nat.lt_of_lt_of_le ((Nat.log2_lt z).mpr h) (by decide)
theorem ee_fmt (ha : EE X C κ a da .f κ' p) : EE X C κ (.FormattedValue a (-1) none pos) (dFmt da) .f κ' p := by
  obtain ⟨t, h1, h2⟩ := ha
  refine ⟨_, pe_fmt h1, fun σd σv H l Lo Q S ns hok hex => ?_⟩
  unfold dFmt at ns
  refine h2 σd σv H l Lo _ S (fun z => ns (by rw [z])) (fun d σ1 e v H1 l1 lx S1 R nd g hp => ?_) (fun x σ1 e => hex x σ1 (by unfold dFmt; rw [e]))
  rw [e] at ns
  obtain ⟨z0, R⟩ := R
  subst z0
  cases d with
  | str y =>
    dsimp only at ns
    by_cases hl : y.length ≤ sizeLine
    · exact .inl ⟨y, R, hl, hok (.str y) σ1 (by unfold dFmt; rw [e]; dsimp only; rw [if_pos hl]) (.str y) H1 l1 [] S1 ⟨rfl, rfl⟩ List.nodup_nil g hp⟩
    · rw [if_neg hl] at ns; exact absurd rfl ns
  | int i =>
    dsimp only at ns
    by_cases hl : i.natAbs < 2 ^ 1900
    · exact .inr ⟨i, R, log_ok hl, hok (.str (toString i : String)) σ1 (by unfold dFmt; rw [e]; dsimp only; rw [if_pos hl]) (.str (toString i : String)) H1 l1 [] S1 ⟨rfl, rfl⟩ List.nodup_nil g hp⟩
    · rw [if_neg hl] at ns; exact absurd rfl ns
  | _ => exact absurd rfl ns
/-- the parts one behind the other -/
def dJoin : List Den → Str → Den
  | [], acc, σ => .ok (.str acc) σ
  | d :: ds, acc, σ => match d σ with
    | .ok (.str y) σ1 => if (acc ++ y).length ≤ sizeLine then dJoin ds (acc ++ y) σ1 else .stuck
    | .exc x σ1 => .exc x σ1
    | _ => .stuck
inductive JJ (X : Cx) (C : Cc) (κ : List Sh) : List Expr → List Den → Prop where
  | nil : JJ X C κ [] []
  | cons {e : Expr} {d : Den} {es : List Expr} {ds : List Den} {p : Bool} : EE X C κ e d .f κ p → JJ X C κ es ds → JJ X C κ (e :: es) (d :: ds)
theorem jj_of : ∀ {es : List Expr} {ds : List Den}, JJ X C κ es ds → ∃ ts, PJ X es ts ∧ ∀ acc, SimT X.K C κ (fun σ H Q => tJs ts acc σ H fun out H1 => Q (.str out) H1) (dJoin ds acc) .f κ false
  | _, _, .nil => ⟨[], .nil, fun acc σd σv H l Lo Q S ns hok hex => hok (.str acc) σd rfl (.str acc) H l [] S.nil ⟨rfl, rfl⟩ List.nodup_nil (Go.refl l H) (fun q => nomatch q)⟩
  | _ :: _, dd :: ds, .cons h r => by
    obtain ⟨t, h1, h2⟩ := h
    obtain ⟨ts, h3, h4⟩ := jj_of r
    refine ⟨t :: ts, .cons h1 h3, fun acc σd σv H l Lo Q S ns hok hex => ?_⟩
    unfold dJoin at ns
    refine h2 σd σv H l Lo _ S (fun z => ns (by rw [z])) (fun d σ1 e v H1 l1 lx S1 R nd g hp => ?_) (fun x σ1 e => hex x σ1 (by unfold dJoin; rw [e]))
    rw [e] at ns
    obtain ⟨z0, R⟩ := R
    subst z0
    cases d with
    | str y =>
      dsimp only at ns
      by_cases hl : (acc ++ y).length ≤ sizeLine
      · rw [if_pos hl] at ns
        refine ⟨y, R, hl, ?_⟩
        have eqJ : dJoin (dd :: ds) acc σd = dJoin ds (acc ++ y) σ1 := by
          conv => lhs; unfold dJoin
          rw [e]
          dsimp only
          rw [if_pos hl]
        exact h4 (acc ++ y) σ1 σv H1 l1 Lo Q S1.drop ns (fun d σ2 e2 v H2 l2 lx S2 R2 nd2 g2 hp2 => hok d σ2 (eqJ.trans e2) v H2 l2 lx S2 R2 nd2 (g.trans g2) (fun q => nomatch q)) (hex.go0 g fun x σ e2 => eqJ.trans e2)
      · rw [if_neg hl] at ns; exact absurd rfl ns
    | _ => exact absurd rfl ns
theorem ee_joined {v1 v2 : Expr} {rest : List Expr} {ds : List Den} (h : JJ X C κ (v1 :: v2 :: rest) ds) : EE X C κ (.JoinedStr (v1 :: v2 :: rest) pos) (dJoin ds Str.empty) .f κ false := by
  obtain ⟨ts, h1, h2⟩ := jj_of h
  exact ⟨_, pe_joined h1, h2 Str.empty⟩
/-! ### list(x), tuple(x) of a list or a tuple -/
def fListOf : List D → Option D
  | [.lst xs] => some (.lst xs)
  | [.tup xs] => some (.lst xs)
  | [.scr ns] => some (.lst (ns.map .int))
  | _ => none
theorem reps_ints {K : PySem.W.Frag} {NT : List Str} {H : Hp} {ok : Addr → Prop} : ∀ ns : List Int, Reps K NT H ok (ns.map .int) (ns.map .int)
  | [] => rfl
  | n :: r => ⟨.int n, _, rfl, rfl, reps_ints r⟩
theorem sp_listOf {K : PySem.W.Frag} {NT : List Str} : OpSpec K NT (fun xs H Q => ∃ p ys, xs = [.ref p] ∧ (SqL K H p ys ∨ SqT K H p ys) ∧ ∀ l, H l = none → Q (.ref l) (upd H l (.lst ys))) fListOf (.l .f) false := spec_list (fun H ok ds vs d Q R e hq => by
  unfold fListOf at e
  split at e
  · rename_i xs
    cases e
    obtain ⟨v, rfl, a, ws, e1, e2, r⟩ := c1 R
    subst e1
    exact ⟨a, ws, rfl, .inl (.inl (.inl e2)), fun q hq0 => hq _ _ rfl r q hq0⟩
  · rename_i xs
    cases e
    obtain ⟨v, rfl, a, ws, e1, e2, r⟩ := c1 R
    subst e1
    exact ⟨a, ws, rfl, .inr e2.sq, fun q hq0 => hq _ _ rfl r q hq0⟩
  · rename_i ns
    cases e
    obtain ⟨v, rfl, a, e1, e2⟩ := c1 R
    subst e1
    exact ⟨a, _, rfl, .inl e2.sq, fun q hq0 => hq _ _ rfl (reps_ints ns) q hq0⟩
  · cases e) fun ds d e => by
  unfold fListOf at e
  split at e
  · cases e; exact ⟨_, rfl⟩
  · cases e; exact ⟨_, rfl⟩
  · cases e; exact ⟨_, rfl⟩
  · cases e
end
end Pt
set_option maxRecDepth 100000
set_option maxHeartbeats 1000000
namespace PtE
open PySem PySem.Spec PyProof.Rows L2
theorem slot_ne : Slot "object" "__ne__" "object.__ne__" :=
  .of (owner := "object") (n := "__ne__") (by rw [typeLookup_type, builtinLookup_eq_fast]; kernel_rfl) (by decide +kernel) (by decide +kernel) (by decide +kernel)
    (by first | exact .inl (by decide +kernel) | exact .inr (by decide +kernel)) (by rw [isSubtype_type]; kernel_rfl)
theorem entry_ne : entryFor table "object.__ne__" = some Builtin.«object.__ne__» := entryFor_of_tree (by kernel_rfl)
theorem args_ne (a b : Value) : argsOk "object.__ne__" ⟨[a, b], []⟩ := by unfold argsOk; kernel_rfl
section
variable {prog : Program} {w : World} {A : Around} {E : Value → Shared → Prop} {s : Shared} {K : PySem.W.Frag} {x C f : Addr} {ox od : Obj} {b tb : Value}
/-- x != b by object.__ne__, x an instance with an own ==: b0 what that says -/
theorem ne_own {Q : Value → Shared → Prop} (hu : A.units < cLine) (hu1 : A.in1.units < cLine) (X : K.In s.heap) (I : PySem.W.InstAt s.heap x ox C (some od)) (hb : PySem.W.Looks (model prog w) s.heap (typeOf b) tb) (hn : PySem.W.notFirst K C tb = true)
    (hne : PySem.W.findIn K (.ref C) "__ne__" = some (some (.builtin "object.__ne__"))) (hm : PySem.W.mroIn K C (.type "object") = some true) (hs : PySem.W.findIn K (.ref C) "__eq__" = some (some (.ref f))) (hf : PySem.W.isFn K (.ref f) = true)
    (h : wpAny (model prog w) A.in1 (call (.ref f) [.ref x, b]) (fun v s' => ∃ k, v = .bool k ∧ Q (.bool (!k)) s') (fun _ _ => False) s) : wpAny (model prog w) A (richCompare .NotEq (.ref x) b) Q E s := by
  have sub : PySem.W.Looks (model prog w) s.heap (isInstance (.ref x) (.type "object")) true := I.type.andThen (PySem.W.looks_mroIn X hm)
  have one : wpAny (model prog w) A (tryCompare (.ref x) "__ne__" b) (fun r s' => ∃ v, r = some v ∧ Q v s') E s := by
    unfold tryCompare
    simp only [callSpecialIfBound?, bindSpecialIfBound?]
    have go : wpAny (model prog w) A (call (.builtin "object.__ne__") ([.ref x] ++ [b])) (fun v s' => ∃ k, v = .bool k ∧ Q (.bool k) s') E s := by
      refine wpAny_call (codeAny_call_builtin slot_ne.plain entry_ne (@PySem.W.check_slot (model prog w) _ _ s "object.__ne__" "object" "__ne__" (.ref x) [b] [] _ (by decide +kernel) (by decide +kernel) sub (args_ne _ _) ?_))
      unfold Builtin.«object.__ne__»
      refine wpAny_bind (wpAny_of_eq (a := ((Value.ref x : Value), [b])) (by first | rfl | (simp only [slotArgs]; rfl)) ?_)
      refine wpAny_bind (wpAny_cRoomFor hu1 ?_)
      refine wpAny_bind (PySem.W.ifBound_K X I hs hf (wpAny_mono h (fun v s' hv => ?_) fun _ _ z => z.elim))
      obtain ⟨k, rfl, q⟩ := hv
      show wpAny _ _ (do let r ← truthy (.bool k); ret (.bool (!r))) _ _ _
      exact wpAny_bind (wpAny_pure (wpAny_pure ⟨_, rfl, q⟩))
    refine wpAny_bind (wpAny_holding (wpAny_bind (wpAny_bind (wpAny_bind (I.type.here ((PySem.W.looks_findIn X hne).here ?_))))))
    refine wpAny_bind (wpAny_askSetting (wpAny_ite ?_))
    have fin : wpAny (model prog w) A (call (.builtin "object.__ne__") ([.ref x] ++ [b]) >>= fun v => pure (some v)) (fun r s' => wpAny (model prog w) A (match r with
      | some .notImplemented | none => pure none
      | some v => pure (some v)) (fun r s' => ∃ v, r = some v ∧ Q v s') E s') E s := wpAny_bind (wpAny_mono go (fun v s' h' => by
        obtain ⟨k, rfl, q⟩ := h'
        exact wpAny_pure (wpAny_pure ⟨_, rfl, q⟩)) fun _ _ h' => h')
    split
    · refine wpAny_bind ?_
      rw [slot_ne.bind]
      exact wpAny_pure (by exact wpAny_pure fin)
    · refine wpAny_tryCatch (wpAny_bind ?_)
      rw [slot_ne.bind]
      exact wpAny_pure (by exact wpAny_pure fin)
  unfold richCompare
  simp only [oneThing_ref]
  refine wpAny_holding (wpAny_bind (wpAny_cRoomFor hu ?_))
  refine wpAny_bind (I.type.here (wpAny_bind (hb.here ?_)))
  split
  · rename_i q
    have e : PySem.W.subIn K tb (.ref C) = some false := by
      rcases Bool.or_eq_true_iff.mp hn with e | e
      · rw [beq_iff_eq.mp e] at q; simp at q
      · exact beq_iff_eq.mp e
    refine wpAny_bind ((PySem.W.looks_subIn X e).here ?_)
    simp only [Bool.false_eq_true, if_false]
    refine wpAny_bind (wpAny_mono one (fun r s' z => ?_) fun _ _ e => e)
    obtain ⟨v, rfl, hq⟩ := z
    exact wpAny_pure hq
  · refine wpAny_bind (wpAny_pure ?_)
    simp only [Bool.false_eq_true, if_false]
    refine wpAny_bind (wpAny_mono one (fun r s' z => ?_) fun _ _ e => e)
    obtain ⟨v, rfl, hq⟩ := z
    exact wpAny_pure hq
end
end PtE
namespace Pt
open PySem PySem.Spec PyProof.Rows L2
/-! ### the own ==, !=, str -/
theorem ty_looks {X : Cx} {pins : List (Addr × Obj)} {σ : Sv} {H : Hp} {s : Shared} {x : V} {u t : Value} (I : Inv X pins σ H s) (rx : RelV x u) (ty : TyX X.K H x t) : PySem.W.Looks (model X.prog X.w) s.heap (typeOf u) t := by
  obtain ⟨P, Z, p, _⟩ := kit_of I rx ty
  exact Z.ty _ _ I.kIn p
/-- a def runs below, nothing is let out -/
theorem run_in {X : Cx} {pins : List (Addr × Obj)} {σ : Sv} {H : Hp} {s : Shared} {A : Around} {k : Nat} {f : Addr} {fd : FuncData} {ps : List Str} {sp : Sp} {Q : VK} {us : List Value} {vs : List V} {E : Value → Shared → Prop} (F : FnOk X.prog X.w X.K X.mg X.base (L2.CX X.prog X.w) k f fd ps sp) (hr : Room k A)
    (e0 : Env0 X.prog X.w X.K X.mg X.base A X.stack s H) (hb : Binds X.K fd ps []) (I : Inv X pins σ H s) (r : Vals vs us) (hl : us.length = ps.length) (h : sp vs H Q E0) : wpAny (model X.prog X.w) A (call (.ref f) us) (EP X pins σ Q) E s := by
  refine wpAny_call (codeAny_mono (F.run A X.stack s H ⟨us, []⟩ us vs Q E0 hr e0 (by have := hb s us I.kIn (by simpa using hl); simpa using this) r h) fun r s' hq => ?_)
  cases r with
  | error e =>
    obtain ⟨_, _, _, _, _, _, _, _, _, _, _, _, z⟩ := hq
    exact z.elim
  | ok fl =>
    cases fl with
    | ret u => exact I.after hq
    | next => exact False.elim hq
    | brk => exact False.elim hq
    | cont => exact False.elim hq
/-- x op y by the def of x's class: the answer is a truth -/
def rOwnE (K : PySem.W.Frag) (Cl : Addr) (sp : Sp) (neg : Bool) : R2 := fun x y H Q => ∃ a dx fs t, x = .ref a ∧ H a = some (.ins Cl dx fs) ∧ TyX K H y t ∧ PySem.W.notFirst K Cl t = true ∧ sp [x, y] H (fun v H' => ∃ b, v = .bl b ∧ Q (.bl (if neg then !b else b)) H') E0
section
variable {X : Cx} {Cl f : Addr} {fd : FuncData} {ps : List Str} {sp : Sp} {k : Nat}
theorem op_eqOwn (F : FnOk X.prog X.w X.K X.mg X.base (L2.CX X.prog X.w) k f fd ps sp) (hr : Room k X.A) (hb : Binds X.K fd ps []) (hps : ps.length = 2) (hs : PySem.W.findIn X.K (.ref Cl) "__eq__" = some (some (.ref f))) (hf : PySem.W.isFn X.K (.ref f) = true) : OpR X (compareOp .Eq) (rOwnE X.K Cl sp false) := by
  intro pins s σ H x y v u Q I rx ry h
  obtain ⟨a, dx, fs, t, rfl, ha, ty, hn, q⟩ := h
  cases (show v = Value.ref a from rx)
  obtain ⟨mA, J, _⟩ := ins_get I.hok ha
  obtain ⟨od, J, _⟩ := J.look
  obtain ⟨m, hF⟩ := I.fr
  show wpAny (model X.prog X.w) X.A (richCompare .Eq (.ref a) u) (EP X pins σ Q) X.xe s
  refine PySem.W.cmp_K (op := .Eq) hr.units0 hF I.ok.mod.kin J (ty_looks I ry ty) hn hs hf ?_
  refine wpAny_mono (run_in (us := [.ref a, u]) F hr I.env0 hb I (.cons rx (.cons ry .nil)) (by simp [hps]) q) (fun r s' z => ?_) fun _ _ z => z
  obtain ⟨v', H', I', rv, b, ev, qq⟩ := z
  subst ev
  cases (show r = Value.bool b from rv)
  exact ⟨.bl b, H', I', rfl, qq⟩
theorem op_neOwn (F : FnOk X.prog X.w X.K X.mg X.base (L2.CX X.prog X.w) k f fd ps sp) (hr : Room (k + 1) X.A) (hb : Binds X.K fd ps []) (hps : ps.length = 2) (hne : PySem.W.findIn X.K (.ref Cl) "__ne__" = some (some (.builtin "object.__ne__"))) (hm : PySem.W.mroIn X.K Cl (.type "object") = some true)
    (hs : PySem.W.findIn X.K (.ref Cl) "__eq__" = some (some (.ref f))) (hf : PySem.W.isFn X.K (.ref f) = true) : OpR X (compareOp .NotEq) (rOwnE X.K Cl sp true) := by
  intro pins s σ H x y v u Q I rx ry h
  obtain ⟨a, dx, fs, t, rfl, ha, ty, hn, q⟩ := h
  cases (show v = Value.ref a from rx)
  obtain ⟨mA, J, _⟩ := ins_get I.hok ha
  obtain ⟨od, J, _⟩ := J.look
  show wpAny (model X.prog X.w) X.A (richCompare .NotEq (.ref a) u) (EP X pins σ Q) X.xe s
  refine PtE.ne_own hr.units0 hr.in1.units0 I.kIn J (ty_looks I ry ty) hn hne hm hs hf ?_
  refine wpAny_mono (run_in (us := [.ref a, u]) F hr.in1 I.env0.in1 hb I (.cons rx (.cons ry .nil)) (by simp [hps]) q) (fun r s' z => ?_) fun _ _ z => z
  obtain ⟨v', H', I', rv, b, ev, qq⟩ := z
  subst ev
  cases (show r = Value.bool b from rv)
  exact ⟨b, rfl, .bl (!b), H', I', rfl, qq⟩
/-- str(x) by the def of x's class: a text -/
def rOwnS (Cl : Addr) (sp : Sp) : List V → Hp → VK → Prop := fun xs H Q => ∃ a dx fs, xs = [.ref a] ∧ H a = some (.ins Cl dx fs) ∧ sp xs H (fun v H' => ∃ y, v = .str y ∧ Q (.str y) H') E0
theorem call_strOwn (F : FnOk X.prog X.w X.K X.mg X.base (L2.CX X.prog X.w) k f fd ps sp) (hr : Room (k + 2) X.A) (hb : Binds X.K fd ps []) (hps : ps.length = 1) (hs : PySem.W.findIn X.K (.ref Cl) "__str__" = some (some (.ref f))) (hf : PySem.W.isFn X.K (.ref f) = true) : CallR X (.type "str") (rOwnS Cl sp) := by
  intro pins s σ H xs us Q I r h
  obtain ⟨a, dx, fs, rfl, ha, q⟩ := h
  obtain ⟨u, rfl, ru⟩ := r.one
  cases (show u = Value.ref a from ru)
  obtain ⟨mA, J, _⟩ := ins_get I.hok ha
  obtain ⟨od, J, _⟩ := J.look
  have hr2 : Room k X.A.in1.in1 := (show Room (k + 1) X.A.in1 from Room.in1 hr).in1
  refine PySem.W.kso_call hr2.units0 I.kIn J hs hf ?_
  refine wpAny_mono (run_in (us := [.ref a]) F hr2 I.env0.in1.in1 hb I (.cons ru .nil) (by simp [hps]) q) (fun r s' z => ?_) fun _ _ z => z
  obtain ⟨v', H', I', rv, y, ev, qq⟩ := z
  subst ev
  obtain ⟨tk, e⟩ := (show ∃ t, r = Value.str y t from rv)
  subst e
  exact ⟨.str y, H', I', ⟨tk, rfl⟩, qq⟩
end
end Pt
set_option maxRecDepth 100000
set_option maxHeartbeats 1000000
namespace Pt
open PySem PySem.Spec PyProof.Rows L2
/-! ### types -/
def tys7 : List String := ["NoneType", "bool", "int", "str", "list", "tuple", "dict"]
def tys6 : List String := ["bool", "int", "str", "list", "tuple", "dict"]
/-- what is known of the plain classes of the text -/
structure OwnOk (K : PySem.W.Frag) (NT : List Str) (cls : List Nat) : Prop where
  hn : PySem.W.specialIn K (.builtin "object.__class__") "__get__" = some (some (.builtin "getset_descriptor.__get__"))
  htk : PySem.W.takesIn K (.builtin "object.__class__") = some true
  c : ∀ C, cls.any (Nat.beq C) = true → Cls K (ga K NT C) ∧ PySem.W.findIn K (.ref (ga K NT C)) "__class__" = some (some (.builtin "object.__class__")) ∧ PySem.W.mroIn K (ga K NT C) (.type "object") = some true
  k1 : ∀ C n, cls.any (Nat.beq C) = true → n ∈ tys7 → PySem.W.kitOne K (.type n) (.ref (ga K NT C)) = some false ∧ PySem.W.notFirst K (ga K NT C) (.type n) = true
  k2 : ∀ C n, cls.any (Nat.beq C) = true → n ∈ tys6 → PySem.W.kitOne K (.ref (ga K NT C)) (.type n) = some false
  k3 : ∀ C B, cls.any (Nat.beq C) = true → cls.any (Nat.beq B) = true → PySem.W.kitOne K (.ref (ga K NT C)) (.ref (ga K NT B)) = some (Nat.beq C B) ∧ PySem.W.notFirst K (ga K NT C) (.ref (ga K NT B)) = true
/-- a type: a built-in's name, or an own class -/
def tyD (cls : List Nat) : D → Option (String ⊕ Nat)
  | .non => some (.inl "NoneType")
  | .bl _ => some (.inl "bool")
  | .int _ => some (.inl "int")
  | .str _ => some (.inl "str")
  | .lst _ => some (.inl "list")
  | .scr _ => some (.inl "list")
  | .tup _ => some (.inl "tuple")
  | .dk _ => some (.inl "dict")
  | .obj C _ => if cls.any (Nat.beq C) then some (.inr C) else none
  | _ => none
def tyU (K : PySem.W.Frag) (NT : List Str) : String ⊕ Nat → Value
  | .inl n => .type n
  | .inr C => .ref (ga K NT C)
section
variable {K : PySem.W.Frag} {NT : List Str} {cls : List Nat} {H : Hp} {ok : Addr → Prop}
theorem ty_rep (O : OwnOk K NT cls) {d : D} {v : V} {t : String ⊕ Nat} (r : RepC K NT H ok d v) (e : tyD cls d = some t) : TyX K H v (tyU K NT t) := by
  cases d with
  | non => cases e; rw [show v = .non from r]; exact .base .non
  | bl b => cases e; rw [show v = .bl b from r]; exact .base (.bl b)
  | int b => cases e; rw [show v = .int b from r]; exact .base (.int b)
  | str b => cases e; rw [show v = .str b from r]; exact .base (.str b)
  | lst xs => cases e; obtain ⟨a, ws, rfl, e1, _⟩ := r; exact .base (.lst e1)
  | scr ns =>
    cases e
    obtain ⟨a, rfl, ⟨o, h | ⟨ob, h⟩⟩ | ⟨o, its, n, e1, e2, _⟩⟩ := r
    · exact .base (.lst h)
    · exact .base (.frz h)
    · exact .kList e1 e2
  | tup xs =>
    cases e
    obtain ⟨a, ws, rfl, ⟨o, h | ⟨ob, h⟩⟩ | ⟨o, its, n, e1, e2, _⟩, _⟩ := r
    · exact .base (.tup h)
    · exact .fTuple h
    · exact .kTuple e1 e2
  | dk kvs =>
    cases e
    obtain ⟨a, kv, rfl, h | ⟨ob, h⟩, _⟩ := r
    · exact .base (.dK h)
    · exact .fDict h
  | obj C fs =>
    have e : (if cls.any (Nat.beq C) then some (Sum.inr C) else none) = some t := e
    split at e
    · rename_i hc
      cases e
      obtain ⟨a, dx, fv, rfl, e1, _⟩ := r
      obtain ⟨c1, c2, c3⟩ := O.c C hc
      exact .base (.ins e1 c1 c2 O.hn O.htk c3)
    · cases e
  | _ => cases e
theorem ty_in {d : D} {n : String} (e : tyD cls d = some (.inl n)) : n ∈ tys7 := by
  cases d with
  | obj C fs =>
    have e : (if cls.any (Nat.beq C) then some (Sum.inr C) else none) = some (.inl n) := e
    split at e <;> cases e
  | ty _ => cases e
  | glo _ => cases e
  | dt _ => cases e
  | exc _ _ => cases e
  | _ => cases e; decide
theorem ty_cls {d : D} {C : Nat} (e : tyD cls d = some (.inr C)) : cls.any (Nat.beq C) = true := by
  cases d with
  | obj C2 fs =>
    have e : (if cls.any (Nat.beq C2) then some (Sum.inr C2) else none) = some (.inr C) := e
    split at e
    · rename_i h; cases e; exact h
    · cases e
  | _ => cases e
theorem ty_first (O : OwnOk K NT cls) {C : Nat} (hC : cls.any (Nat.beq C) = true) {d : D} {t : String ⊕ Nat} (e : tyD cls d = some t) : PySem.W.notFirst K (ga K NT C) (tyU K NT t) = true := by
  cases t with
  | inl n => exact (O.k1 C n hC (ty_in e)).2
  | inr B => exact (O.k3 C B hC (ty_cls e)).2
end
/-! ### isinstance -/
/-- of built-ins -/
def kitTab (a n : String) : Bool := decide (a = n) || (decide (a = "bool") && decide (n = "int"))
theorem kit_tab : (tys7.all fun a => tys6.all fun n => decide (kitB a n = some (kitTab a n))) = true := by decide +kernel
def isiD (cls : List Nat) : D → D → Option Bool
  | d, .ty n => if tys6.contains n then (match tyD cls d with
    | some (.inl a) => some (kitTab a n)
    | some (.inr _) => some false
    | none => none) else none
  | d, .glo X => if cls.any (Nat.beq X) then (match tyD cls d with
    | some (.inl _) => some false
    | some (.inr C) => some (Nat.beq C X)
    | none => none) else none
  | _, _ => none
def fIsi (cls : List Nat) : List D → Option D
  | [d, c] => (isiD cls d c).map .bl
  | _ => none
theorem sp_isi {K : PySem.W.Frag} {NT : List Str} {cls : List Nat} (O : OwnOk K NT cls) : OpSpec K NT (rIsi K) (fIsi cls) .f true := spec_pure fun H ok ds vs d Q R e hq => by
  unfold fIsi at e
  split at e
  · rename_i x c
    obtain ⟨v, w, rfl, r1, r2⟩ := c2 R
    obtain ⟨b, eb, ed⟩ := Option.map_eq_some_iff.mp e
    subst ed
    cases c with
    | ty n =>
      have r2 : w = .ty n := r2
      subst r2
      have eb : (if tys6.contains n then (match tyD cls x with
        | some (.inl a) => some (kitTab a n)
        | some (.inr _) => some false
        | none => none) else none) = some b := eb
      split at eb
      · rename_i hn
        have hn' : n ∈ tys6 := by simpa using hn
        cases et : tyD cls x with
        | none => rw [et] at eb; cases eb
        | some t =>
          rw [et] at eb
          refine ⟨v, .ty n, tyU K NT t, .type n, b, rfl, .ty n, ty_rep O r1 et, ?_, hq _ rfl⟩
          cases t with
          | inl a =>
            cases eb
            exact kit_ty (of_decide_eq_true (List.all_eq_true.mp (List.all_eq_true.mp kit_tab a (ty_in et)) n hn'))
          | inr C =>
            cases eb
            exact O.k2 C n (ty_cls et) hn'
      · cases eb
    | glo X =>
      have r2 : w = .ref (ga K NT X) := r2
      subst r2
      have eb : (if cls.any (Nat.beq X) then (match tyD cls x with
        | some (.inl _) => some false
        | some (.inr C) => some (Nat.beq C X)
        | none => none) else none) = some b := eb
      split at eb
      · rename_i hX
        cases et : tyD cls x with
        | none => rw [et] at eb; cases eb
        | some t =>
          rw [et] at eb
          refine ⟨v, .ref (ga K NT X), tyU K NT t, .ref (ga K NT X), b, rfl, .own _, ty_rep O r1 et, ?_, hq _ rfl⟩
          cases t with
          | inl a =>
            cases eb
            exact (O.k1 X a hX (ty_in et)).1
          | inr C =>
            cases eb
            exact (O.k3 C X (ty_cls et) hX).1
      · cases eb
    | _ => cases eb
  · cases e
/-! ### operations on what is frozen -/
def OpSpecF (K : PySem.W.Frag) (NT : List Str) (r : List V → Hp → VK → Prop) (f : List D → Option D) : Prop :=
  ∀ H ok ds vs d Q, Reps K NT H ok ds vs → f ds = some d → (∀ v H' lx, Grow H H' lx → RepO K NT H' (fun a => ok a ∧ a ∉ lx) .f d v lx → Q v H') → r vs H Q
theorem OpSpec.fr {K : PySem.W.Frag} {NT : List Str} {r : List V → Hp → VK → Prop} {f : List D → Option D} {po : Bool} (h : OpSpec K NT r f .f po) : OpSpecF K NT r f := fun H ok ds vs d Q R e hq =>
  h H ok ds vs d Q (reps_repCs R) e fun v H' lx g r nd hp => hq v H' lx g r
def fOr (f f' : List D → Option D) : List D → Option D := fun ds => match f ds with
  | some d => some d
  | none => f' ds
theorem OpSpecF.or {K : PySem.W.Frag} {NT : List Str} {r r' : R2} {f f' : List D → Option D} (h : OpSpecF K NT (r2L r) f) (h' : OpSpecF K NT (r2L r') f') : OpSpecF K NT (r2L fun x y H Q => r x y H Q ∨ r' x y H Q) (fOr f f') := fun H ok ds vs d Q R e hq => by
  unfold fOr at e
  have key : r2L r vs H Q ∨ r2L r' vs H Q := by
    cases q : f ds with
    | some d0 =>
      rw [q] at e
      cases e
      exact .inl (h H ok ds vs _ Q R q hq)
    | none =>
      rw [q] at e
      exact .inr (h' H ok ds vs d Q R e hq)
  match vs, key with
  | [x, y], k => exact k
  | [], k => exact k.elim id id
  | [_], k => exact k.elim id id
  | _ :: _ :: _ :: _, k => exact k.elim id id
section
variable {K : PySem.W.Frag} {C : Cc} {κ κ1 : List Sh} {p : Bool} {tas : TA} {das : ADen}
theorem sim_opF {r : List V → Hp → VK → Prop} {f : List D → Option D} (ho : OpSpecF K C.NT r f) (ha : SimF K C κ tas das κ1 p) :
    SimT K C κ (fun σ H Q => tas σ H fun vs H1 => r vs H1 Q) (dOp f das) .f κ1 false := fun σd σv H l Lo Q S ns hok hex => by
  unfold dOp at ns
  refine ha σd σv H l Lo _ S (fun z => ns (by rw [z])) (fun ds σ1 e vs H1 l1 S1 R g hp => ?_) (fun x σ1 e => hex x σ1 (by unfold dOp; rw [e]))
  rw [e] at ns
  dsimp only at ns
  cases ed : f ds with
  | none => rw [ed] at ns; exact absurd rfl ns
  | some d =>
    refine ho H1 _ ds vs d Q R ed fun v H' lx gr Rv => ?_
    obtain ⟨z0, Rv⟩ := Rv
    subst z0
    have S2 := S1.grow gr
    have g2 := gr.go S1
    exact hok d σ1 (by unfold dOp; rw [e]; dsimp only; rw [ed]) v H' l1 [] S2 ⟨rfl, Rv.mono (kp_ok fun a o => ⟨o.1.1, fun z => z.elim o.1.2 (by simp)⟩)⟩ List.nodup_nil (g.trans g2) (fun q => nomatch q)
end
/-- x == y, x != y, x an instance of class Cl -/
def fOwnE (cls : List Nat) (Cl : Nat) (fd : FDen) (neg : Bool) : List D → Option D
  | [.obj C fs, y] => if Nat.beq C Cl && (tyD cls y).isSome then (match fd [.obj C fs, y] with
    | .ret (.bl b) _ => some (.bl (if neg then !b else b))
    | _ => none) else none
  | _ => none
theorem aft_grow {H H' : Hp} {lx : List Addr} (A : Aft H [] H' [] lx) : Grow H H' lx := ⟨fun a u e => (A.keep a u e (by simp)).1, fun a m => by
  cases e : H a with
  | none => rfl
  | some u => exact absurd m (A.keep a u e (by simp)).2.2, A.tx⟩
theorem sp_ownE {K : PySem.W.Frag} {NT : List Str} {cls : List Nat} {Cl : Nat} {fd : FDen} {neg : Bool} (O : OwnOk K NT cls) (hC : cls.any (Nat.beq Cl) = true) : OpSpecF K NT (r2L (rOwnE K (ga K NT Cl) (spOf K NT 2 none .f fd) neg)) (fOwnE cls Cl fd neg) := fun H ok ds vs d Q R e hq => by
  unfold fOwnE at e
  split at e
  · rename_i Cx fs y
    split at e
    · rename_i hc
      obtain ⟨h1, h2⟩ := Bool.and_eq_true_iff.mp hc
      have e0 : Cx = Cl := Nat.eq_of_beq_eq_true h1
      subst e0
      obtain ⟨t, et⟩ := Option.isSome_iff_exists.mp h2
      have RR := R
      obtain ⟨v, r, e1, ⟨a, dx, fv, e2, ⟨oa, e3⟩, rf⟩, ⟨w, r2, e4, Rw, e5⟩⟩ := R
      have e5 : r2 = [] := e5
      subst e5 e4 e2 e1
      refine ⟨a, dx, fv, tyU K NT t, rfl, e3, ty_rep O Rw.c et, ty_first O hC et, ?_⟩
      refine ⟨_, ok, [], rfl, ⟨rfl, RR⟩, (fun z => by rw [z] at e; cases e), fun d' o e6 v' H' l1 lx A L Rd => ?_, fun x o e6 => by rw [e6] at e; cases e⟩
      rw [e6] at e
      cases d' with
      | bl b =>
        cases e
        have L : l1 = [] := L
        subst L
        obtain ⟨z0, Rd⟩ := Rd
        subst z0
        exact ⟨b, Rd, hq _ H' [] (aft_grow A) ⟨rfl, rfl⟩⟩
      | _ => cases e
    · cases e
  · cases e
def fOwnS (Cl : Nat) (fd : FDen) : List D → Option D
  | [.obj C fs] => if Nat.beq C Cl then (match fd [.obj C fs] with
    | .ret (.str y) _ => some (.str y)
    | _ => none) else none
  | _ => none
theorem sp_ownS {K : PySem.W.Frag} {NT : List Str} {Cl : Nat} {fd : FDen} : OpSpecF K NT (rOwnS (ga K NT Cl) (spOf K NT 1 none .f fd)) (fOwnS Cl fd) := fun H ok ds vs d Q R e hq => by
  unfold fOwnS at e
  split at e
  · rename_i Cx fs
    split at e
    · rename_i h1
      have e0 : Cx = Cl := Nat.eq_of_beq_eq_true h1
      subst e0
      have RR := R
      obtain ⟨v, r, e1, ⟨a, dx, fv, e2, ⟨oa, e3⟩, rf⟩, e5⟩ := R
      have e5 : r = [] := e5
      subst e5 e2 e1
      refine ⟨a, dx, fv, rfl, e3, ?_⟩
      refine ⟨_, ok, [], rfl, ⟨rfl, RR⟩, (fun z => by rw [z] at e; cases e), fun d' o e6 v' H' l1 lx A L Rd => ?_, fun x o e6 => by rw [e6] at e; cases e⟩
      rw [e6] at e
      cases d' with
      | str b =>
        cases e
        have L : l1 = [] := L
        subst L
        obtain ⟨z0, Rd⟩ := Rd
        subst z0
        exact ⟨b, Rd, hq _ H' [] (aft_grow A) ⟨rfl, rfl⟩⟩
      | _ => cases e
    · cases e
  · cases e
section
variable {X : Cx} {C : Cc} {κ κ1 κ2 κ' : List Sh} {p : Bool} {a b e : Expr} {es : List Expr} {das : ADen} {pos : Pos}
theorem FE.two (h : FE X C κ [a, b] das κ' p) : ∃ ta tb, PE X a ta ∧ PE X b tb ∧ SimF X.K C κ (tCons ta (tCons tb tNil)) das κ' p := by
  obtain ⟨ts, h1, h2⟩ := h
  cases h1 with
  | cons h1 _ h3 =>
    cases h3 with
    | cons h4 _ h5 =>
      cases h5
      exact ⟨_, _, h1, h4, h2⟩
theorem ee_cmpF {op : CmpOp} {r : R2} {f : List D → Option D} (ho : OpR X (compareOp op) r) (hs : OpSpecF X.K C.NT (r2L r) f) (ha : FE X C κ [a, b] das κ' p) (hm : behindInMarks op b = false := by first | exact nomark _ | rfl) : EE X C κ (.Compare a [op] [b] pos) (dOp f das) .f κ' false := by
  obtain ⟨ta, tb, h1, h2, h3⟩ := ha.two
  exact ⟨_, pe_cmpR ho h1 h2 hm, sim_opF hs h3⟩
theorem bb_cmpF {op : CmpOp} {r : R2} {f : List D → Option D} (ho : OpR X (compareOp op) r) (hs : OpSpecF X.K C.NT (r2L r) f) (ha : FE X C κ [a, b] das κ' p) (hm : behindInMarks op b = false := by first | exact nomark _ | rfl) : BB X C κ (.Compare a [op] [b] pos) (bVal (dOp f das)) κ' := by
  obtain ⟨ta, tb, h1, h2, h3⟩ := ha.two
  exact ⟨_, pt_cmpR ho h1 h2 hm, sim_btest (sim_opF hs h3)⟩
theorem ee_callTyF {T : String} {x : Str} {pp : Pos} {r : List V → Hp → VK → Prop} {f : List D → Option D} (hc : CallR X (.type T) r) (hs : OpSpecF X.K C.NT r f) (hg : Gl X x) (hm : X.mg x = none) (hv : bootBuiltins x = some (.type T)) (ha : FE X C κ (e :: es) das κ' p) (hn : x ≠ "__name__" := by decide) (hdb : (x == ("__debug__" : Str)) = false := by decide) : EE X C κ (.Call (.Name x pp) (e :: es) [] pos) (dOp f das) .f κ' false := by
  obtain ⟨ts, h1, h2⟩ := ha
  cases h1 with
  | cons q1 q2 q3 => exact ⟨_, pe_callTy hc hg hm hv (pa_cons q1 q3.pa q2) hn hdb q2 (q3.star pos), sim_opF hs h2⟩
/-- {'k': c}, one constant text, one constant -/
def dDict1 (k : Str) (d : D) : Den := fun σ => .ok (.dk [(.inr k, d)]) σ
theorem ee_dict1 {k : Str} {i : Nat} {p1 : Pos} {v : Expr} {d : D} {w : V} (hv : PE X v (tC w)) (hr : ∀ H ok, Rep X.K C.NT H ok d w) : EE X C κ (.Dict [some (.Constant (.str k) i p1)] [v] pos) (dDict1 k d) .d κ false := by
  refine ⟨_, pe_disp (pps_cons pe_str hv pps_nil) rfl rfl (by simp) (by show 1 ≤ 15; decide), fun σd σv H l Lo Q S ns hok hex => ?_⟩
  intro q hq0
  refine ⟨upd_same, [(.inr k, w)], rfl, (by show 1 ≤ 15; decide), ?_⟩
  have e : upd (upd H q (.dK [])) q (.dK (mergeK [] [(Sum.inr k, w)])) = upd H q (.dK [(.inr k, w)]) := by
    funext b
    by_cases z : b = q
    · subst z; rw [upd_same, upd_same]; rfl
    · rw [upd_ne z, upd_ne z, upd_ne z]
  rw [e]
  have gr : Grow H (upd H q (.dK [(.inr k, w)])) [q] := Grow.one hq0
  exact hok _ σd rfl (.ref q) _ l [q] (S.grow gr) ⟨_, q, _, rfl, rfl, rfl, upd_same, ⟨w, [], rfl, hr _ _, rfl⟩⟩ (by simp) (gr.go S) (fun z => nomatch z)
end
end Pt
set_option maxRecDepth 100000
set_option maxHeartbeats 1000000
namespace PtE
open PySem PySem.W PySem.Calls PyProof.Rows
theorem bind2 {name qual : Str} {a1 a2 : Arg} {body : List Stmt} {scope : Scope} {cl : List (Str × Addr)} {doc pm cdv ct : Value} {an : Option Addr} (u v : Value) (h : a1.arg ≠ a2.arg) :
    bindArgs (fnX name qual { posonlyargs := [], args := [a1, a2], vararg := none, kwonlyargs := [], kw_defaults := [], kwarg := none, defaults := [] } body scope cl .none .none doc pm an cdv ct) ⟨[u, v], []⟩ = pure [(a1.arg, u), (a2.arg, v)] := by
  have h1 : (a2.arg == a1.arg) = false := by simpa using Ne.symm h
  have h0 : notAStandIn Value.none = pure () := rfl
  unfold bindArgs
  simp [seqItems?, List.lookup, h1, h0]
theorem bind3 {name qual : Str} {a1 a2 a3 : Arg} {body : List Stmt} {scope : Scope} {cl : List (Str × Addr)} {doc pm cdv ct : Value} {an : Option Addr} (u v w : Value) (h : a1.arg ≠ a2.arg) (h2 : a1.arg ≠ a3.arg) (h3 : a2.arg ≠ a3.arg) :
    bindArgs (fnX name qual { posonlyargs := [], args := [a1, a2, a3], vararg := none, kwonlyargs := [], kw_defaults := [], kwarg := none, defaults := [] } body scope cl .none .none doc pm an cdv ct) ⟨[u, v, w], []⟩ = pure [(a1.arg, u), (a2.arg, v), (a3.arg, w)] := by
  have h1 : (a2.arg == a1.arg) = false := by simpa using Ne.symm h
  have h4 : (a3.arg == a1.arg) = false := by simpa using Ne.symm h2
  have h5 : (a3.arg == a2.arg) = false := by simpa using Ne.symm h3
  have h0 : notAStandIn Value.none = pure () := rfl
  unfold bindArgs
  simp [seqItems?, List.lookup, h1, h4, h5, h0]
/-! ### seen by looking -/
def fldB : List Str → List Stmt → Bool
  | [], [] => true
  | f :: fs, .Assign [.Attribute (.Name a _) g _] (.Name h _) _ :: ss => decide (a = ("self" : Str)) && (decide (g = f) && (decide (h = f) && fldB fs ss))
  | _, _ => false
theorem fldB_ok : ∀ {fs : List Str} {ss : List Stmt}, fldB fs ss = true → ErrFld fs ss
  | [], [], _ => .nil
  | [], _ :: _, h => by cases h
  | f :: fs, ss, h => by
    unfold fldB at h
    split at h
    · rename_i e; cases e
    · rename_i f' fs' a q1 g q2 b q3 q4 ss' e
      cases e
      simp only [Bool.and_eq_true, decide_eq_true_eq] at h
      obtain ⟨h1, h2, h3, h4⟩ := h
      subst h1 h2 h3
      exact .cons q1 q2 q3 q4 (fldB_ok h4)
    · cases h
def supB : Stmt → Bool
  | .Expr (.Call (.Attribute (.Call (.Name s _) [] [] _) i p2) [.Constant (.str _) _ _] [] p4) _ => decide (s = ("super" : Str)) && (decide (i = ("__init__" : Str)) && (p2.endLine == p4.line))
  | _ => false
theorem supB_ok {s : Stmt} (h : supB s = true) : ∃ (p0 p1 p2 p3 p4 p5 : Pos) (txt : Str) (k : Nat), s = .Expr (.Call (.Attribute (.Call (.Name "super" p0) [] [] p1) "__init__" p2) [.Constant (.str txt) k p3] [] p4) p5 ∧ (p2.endLine == p4.line) = true := by
  unfold supB at h
  split at h
  · simp only [Bool.and_eq_true, decide_eq_true_eq] at h
    obtain ⟨h1, h2, h3⟩ := h
    subst h1 h2
    exact ⟨_, _, _, _, _, _, _, _, rfl, h3⟩
  · cases h
def noneB : Value → Bool
  | .none => true
  | _ => false
theorem noneB_ok {v : Value} (h : noneB v = true) : v = .none := by cases v <;> first | rfl | cases h
/-- the parameters: self, then the fields, nothing else -/
def parB (fs : List Str) (p : Arguments) : Bool := p.posonlyargs.isEmpty && (p.vararg.isNone && (p.kwonlyargs.isEmpty && (p.kw_defaults.isEmpty && (p.kwarg.isNone && (p.defaults.isEmpty && decide (p.args.map (·.arg) = ("self" : Str) :: fs))))))
def scB (fs : List Str) (sc : Scope) : Bool := decide (sc.names.lookup ("super" : Str) = some .globalImplicit) && (decide (sc.names.lookup ("__class__" : Str) = some .free) && (((("self" : Str) :: fs).all fun f => decide (sc.names.lookup f = some .local)) &&
  ((sc.names.all fun x => !decide (x.2 = .cell)) && (decide (sc.kind = .function) && (!sc.isCoroutine && !sc.isGenerator)))))
def cellB (K : Frag) (cc : Addr) : Option Addr := match K.lookup cc with
  | some ⟨_, _, .cell (some (.ref D)), _⟩ => some D
  | _ => none
theorem cellB_ok {K : Frag} {cc D : Addr} (h : cellB K cc = some D) : ∃ cl cld csl, K.lookup cc = some ⟨cl, cld, .cell (some (.ref D)), csl⟩ := by
  unfold cellB at h
  split at h
  · rename_i a b D' c e; cases h; exact ⟨_, _, _, e⟩
  · cases h
def codeB (prog : Program) (K : Frag) (cda : Addr) : Bool := match K.lookup cda with
  | some ⟨_, _, .fields vs, _⟩ => (match (vs[2]? : Option Value) with
    | some (Value.str file _) => (prog.main.file : Str) == file
    | _ => false)
  | _ => false
theorem codeB_ok {prog : Program} {K : Frag} {cda : Addr} (h : codeB prog K cda = true) : ∃ ccl cdd vs ccs file tf, K.lookup cda = some ⟨ccl, cdd, .fields vs, ccs⟩ ∧ vs[2]? = some (.str file tf) ∧ ((prog.main.file : Str) == file) = true := by
  unfold codeB at h
  split at h
  · rename_i a b vs c e
    split at h
    · rename_i file tf e2; exact ⟨_, _, _, _, _, _, e, e2, h⟩
    · cases h
  · cases h
def initB (prog : Program) (K : Frag) (C : Addr) (fs : List Str) (fI : Addr) : Bool := isFn K (.ref fI) && (match K.lookup fI with
  | some ⟨_, _, .func ⟨_, qual, params, .stmts (s :: ss), scope, gl, [(cn, cc)], dV, kV, _, _, _, .ref cda, _, bl⟩, _⟩ =>
    decide (gl = mainGlobals) && (decide (bl = builtinsNs) && (decide (cn = ("__class__" : Str)) && (noneB dV && (noneB kV && (codeIn K (.ref cda) qual && (codeB prog K cda && (parB fs params && (scB fs scope && (supB s && (fldB fs ss &&
    (match cellB K cc with
      | some D => (clsIn K D).isSome && (decide (mroIn K C (.ref D) = some true) && decide (ks_superIn K C D "__init__" = some (some (.builtin "ValueError.__init__"))))
      | none => false)))))))))))
  | _ => false)
def errB (prog : Program) (K : Frag) (C : Addr) (fs : List Str) : Bool :=
  excInitIn K C [.type "ValueError", .type "Exception", .type "BaseException", .type "object"] "ValueError.__new__" && ((match clsIn K C with
    | some cd => PX.refsVE cd.mro && cd.hasDict
    | none => false) && (decide (findIn K (.ref C) "__setattr__" = some (some (.builtin "object.__setattr__"))) && (decide (findIn K (.ref C) "__getattribute__" = some (some (.builtin "BaseException.__getattribute__"))) &&
    (decide (findIn K (.ref C) "__getattr__" = some none) && ((fs.all fun f => decide (findIn K (.ref C) f = some none)) && (keepIn K (.ref C) && (decide (subIn K (.ref C) (.type "BaseException") = some true) && (decide (subIn K (.ref C) (.type "ValueError") = some true) &&
    (decide (typeIn K (.ref C) = some (.type "type")) && (hasDictIn K C && (decide (nsIn K cStatics "thirdparty.any" = some none) && (decide (nsIn K mainGlobals "super" = some none) && (decide ((("self" : Str) :: fs).Nodup) && ((decide (fs.length = 1) || decide (fs.length = 2)) &&
    ((fs.all fun f => !(f == ("__debug__" : Str))) && ((match findIn K (.ref C) "__init__" with
      | some (some (.ref fI)) => initB prog K C fs fI
      | _ => false) && !(prog.main.scope.names.lookup ("super" : Str)).isSome))))))))))))))))
theorem ba {a b : Bool} (h : (a && b) = true) : a = true ∧ b = true := Bool.and_eq_true_iff.mp h
theorem errB_ok {prog : Program} {K : Frag} {C : Addr} {fs : List Str} (h : errB prog K C fs = true) : ErrTxt prog K C fs := by
  unfold errB at h
  obtain ⟨h1, h⟩ := ba h
  obtain ⟨h2, h⟩ := ba h
  obtain ⟨h3, h⟩ := ba h
  obtain ⟨h4, h⟩ := ba h
  obtain ⟨h5, h⟩ := ba h
  obtain ⟨h6, h⟩ := ba h
  obtain ⟨h7, h⟩ := ba h
  obtain ⟨h8, h⟩ := ba h
  obtain ⟨h9, h⟩ := ba h
  obtain ⟨h10, h⟩ := ba h
  obtain ⟨h11, h⟩ := ba h
  obtain ⟨h12, h⟩ := ba h
  obtain ⟨h13, h⟩ := ba h
  obtain ⟨h14, h⟩ := ba h
  obtain ⟨h15, h⟩ := ba h
  obtain ⟨h16, h⟩ := ba h
  obtain ⟨h17, h18⟩ := ba h
  have nd : (("self" : Str) :: fs).Nodup := of_decide_eq_true h14
  have len : fs.length = 1 ∨ fs.length = 2 := by simpa using h15
  refine ⟨h1, ?_, of_decide_eq_true h3, of_decide_eq_true h4, of_decide_eq_true h5, fun f m => of_decide_eq_true (List.all_eq_true.mp h6 f m), h7, of_decide_eq_true h8, of_decide_eq_true h9, of_decide_eq_true h10, h11, of_decide_eq_true h12, of_decide_eq_true h13, nd, by omega,
    fun f m => by simpa using List.all_eq_true.mp h16 f m, ?_, by simpa using h18⟩
  · split at h2
    · rename_i cd e
      exact ⟨cd, e, (ba h2).1, (ba h2).2⟩
    · cases h2
  · split at h17
    · rename_i fI hfI
      unfold initB at h17
      obtain ⟨hfn, h17⟩ := ba h17
      split at h17
      · rename_i oc od fname qual params s ss scope gl cn cc dV kV doc pm an cda ct bl osl lk
        obtain ⟨g1, g⟩ := ba h17
        obtain ⟨g2, g⟩ := ba g
        obtain ⟨g3, g⟩ := ba g
        obtain ⟨g4, g⟩ := ba g
        obtain ⟨g5, g⟩ := ba g
        obtain ⟨g6, g⟩ := ba g
        obtain ⟨g7, g⟩ := ba g
        obtain ⟨g8, g⟩ := ba g
        obtain ⟨g9, g⟩ := ba g
        obtain ⟨g10, g⟩ := ba g
        obtain ⟨g11, g12⟩ := ba g
        have e1 := of_decide_eq_true g1
        have e2 := of_decide_eq_true g2
        have e3 := of_decide_eq_true g3
        have e4 := noneB_ok g4
        have e5 := noneB_ok g5
        subst e1 e2 e3 e4 e5
        obtain ⟨ccl, cdd, vs, ccs, file, tf, c1, c2, c3⟩ := codeB_ok g7
        cases eD : cellB K cc with
        | none => rw [eD] at g12; cases g12
        | some D =>
          rw [eD] at g12
          obtain ⟨q1, q⟩ := ba g12
          obtain ⟨q2, q3⟩ := ba q
          obtain ⟨cl, cld, csl, c4⟩ := cellB_ok eD
          obtain ⟨cdD, hcD⟩ := Option.isSome_iff_exists.mp q1
          -- the parameters
          obtain ⟨pa, aa, va, ka, kd, kw, df⟩ := params
          unfold parB at g8
          obtain ⟨p1, g8⟩ := ba g8
          obtain ⟨p2, g8⟩ := ba g8
          obtain ⟨p3, g8⟩ := ba g8
          obtain ⟨p4, g8⟩ := ba g8
          obtain ⟨p5, g8⟩ := ba g8
          obtain ⟨p6, p7⟩ := ba g8
          have w1 : pa = [] := List.isEmpty_iff.mp p1
          have w2 : va = none := Option.isNone_iff_eq_none.mp p2
          have w3 : ka = [] := List.isEmpty_iff.mp p3
          have w4 : kd = [] := List.isEmpty_iff.mp p4
          have w5 : kw = none := Option.isNone_iff_eq_none.mp p5
          have w6 : df = [] := List.isEmpty_iff.mp p6
          have w7 : aa.map (·.arg) = ("self" : Str) :: fs := of_decide_eq_true p7
          subst w1 w2 w3 w4 w5 w6
          -- the first statement
          obtain ⟨sp0, sp1, sp2, sp3, sp4, sp5, stx, sk, es, t3⟩ := supB_ok g10
          subst es
          · skip
            unfold scB at g9
            obtain ⟨s1, g9⟩ := ba g9
            obtain ⟨s2, g9⟩ := ba g9
            obtain ⟨s3, g9⟩ := ba g9
            obtain ⟨s4, g9⟩ := ba g9
            obtain ⟨s5, g9⟩ := ba g9
            obtain ⟨s6, s7⟩ := ba g9
            cases aa with
            | nil => cases w7
            | cons a1 aa =>
              have p71 : a1.arg = ("self" : Str) := by
                have := congrArg List.head? w7
                exact Option.some.inj this
              have p72 : aa.map (·.arg) = fs := by
                have := congrArg List.tail w7
                exact this
              refine ⟨fI, D, cda, cc, cdD, fname, qual, ⟨[], a1 :: aa, none, [], [], none, []⟩, scope, doc, pm, ct, oc, ccl, cl, an, od, cdd, cld, osl, ccs, csl, vs, file, tf, sp0, sp1, sp2, sp3, sp4, sp5, stx, sk, ss, a1, hfI, hfn, lk, g6, c1, c2, c3, c4, hcD, of_decide_eq_true q2, of_decide_eq_true q3, t3, fldB_ok g11,
                of_decide_eq_true s1, of_decide_eq_true s2, fun f m => of_decide_eq_true (List.all_eq_true.mp s3 f m), fun x m => by simpa using List.all_eq_true.mp s4 x m, of_decide_eq_true s5, by simpa using s6, by simpa using s7, rfl, p71, fun us hus => ?_⟩
              rw [← p72] at nd len hus ⊢
              match aa, us, nd, len, hus with
              | [a2], [u, v], nd, _, _ =>
                have n1 : a1.arg ≠ a2.arg := by
                  rw [p71]
                  have := (List.nodup_cons.mp nd).1
                  intro z
                  exact this (by simp [z])
                have := bind2 (name := fname) (qual := qual) (body := .Expr (.Call (.Attribute (.Call (.Name "super" sp0) [] [] sp1) "__init__" sp2) [.Constant (.str stx) sk sp3] [] sp4) sp5 :: ss) (scope := scope) (cl := [("__class__", cc)]) (doc := doc) (pm := pm) (cdv := .ref cda) (ct := ct) (an := an) u v n1
                rw [← p71]
                exact this
              | [a2, a3], [u, v, x], nd, _, _ =>
                have nd1 := (List.nodup_cons.mp nd).1
                have nd2 := (List.nodup_cons.mp (List.nodup_cons.mp nd).2).1
                have n1 : a1.arg ≠ a2.arg := by
                  rw [p71]
                  intro z
                  exact nd1 (by simp [z])
                have n2 : a1.arg ≠ a3.arg := by
                  rw [p71]
                  intro z
                  exact nd1 (by simp [z])
                have n3 : a2.arg ≠ a3.arg := by
                  intro z
                  exact nd2 (by simp [z])
                have := bind3 (name := fname) (qual := qual) (body := .Expr (.Call (.Attribute (.Call (.Name "super" sp0) [] [] sp1) "__init__" sp2) [.Constant (.str stx) sk sp3] [] sp4) sp5 :: ss) (scope := scope) (cl := [("__class__", cc)]) (doc := doc) (pm := pm) (cdv := .ref cda) (ct := ct) (an := an) u v x n1 n2 n3
                rw [← p71]
                exact this
              | [], _, _, len, _ => exact absurd len (by simp)
              | [_], [], _, _, h => exact absurd h (by simp)
              | [_], [_], _, _, h => exact absurd h (by simp)
              | [_], _ :: _ :: _ :: _, _, _, h => exact absurd h (by simp)
              | [_, _], [], _, _, h => exact absurd h (by simp)
              | [_, _], [_], _, _, h => exact absurd h (by simp)
              | [_, _], [_, _], _, _, h => exact absurd h (by simp)
              | [_, _], _ :: _ :: _ :: _ :: _, _, _, h => exact absurd h (by simp)
              | _ :: _ :: _ :: _, _, _, len, _ => exact absurd len (by simp)
      · cases h17
    · cases h17
end PtE
set_option maxRecDepth 100000
set_option maxHeartbeats 1000000
namespace Pt
open PySem PySem.Spec PyProof.Rows L2
open He (Dv dflB kwdB dflB_ok kwdB_ok)
theorem ba {a b : Bool} (h : (a && b) = true) : a = true ∧ b = true := Bool.and_eq_true_iff.mp h
/-! ### defs by their address -/
structure DefG where
  adr : PySem.W.Frag → Addr
  name : Str
  qual : Str
  params : Arguments
  body : List Stmt
  scope : Scope
  dfl : List Dv := []
abbrev FnW : Type := Option (Str × Str × Arguments × FuncBody × Scope × Addr × List (Str × Addr) × Addr)
def fnW (K : PySem.W.Frag) (a : Addr) : FnW := match K.lookup a with
  | some ⟨_, _, .func fd, _⟩ => some (fd.name, fd.qualname, fd.params, fd.body, fd.scope, fd.globals, fd.closure, fd.builtins)
  | _ => none
def DefG.val (d : DefG) : FnW := some (d.name, d.qual, d.params, .stmts d.body, d.scope, mainGlobals, [], builtinsNs)
def DefG.dvs (K : PySem.W.Frag) (d : DefG) : List V := d.dfl.map (Dv.v K)
def DefG.ok (K : PySem.W.Frag) (d : DefG) : Bool := PySem.W.keepIn K (.ref (d.adr K)) && (match K.lookup (d.adr K) with
  | some ⟨_, _, .func fd, _⟩ => PySem.W.codeIn K fd.code d.qual && dflB K fd.defaults (d.dvs K)
  | _ => false)
theorem DefG.funD {K : PySem.W.Frag} {d : DefG} (e : fnW K (d.adr K) = d.val) (c : d.ok K = true) : ∃ fd, FunD K d.name d.qual d.params d.body d.scope (d.dvs K) [] (d.adr K) fd := by
  obtain ⟨kp, c2⟩ := ba c
  unfold fnW at e
  cases q : K.lookup (d.adr K) with
  | none =>
    rw [q] at c2
    cases c2
  | some o =>
    obtain ⟨oc, od, dt, osl⟩ := o
    rw [q] at c2 e
    cases dt with
    | func fd =>
      obtain ⟨n1, n2, n3, n4, n5, n6, n7, n8, n9, n10, n11, n12, n13, n14, n15⟩ := fd
      have e2 : (some (n1, n2, n3, n4, n5, n6, n7, n15) : FnW) = some (d.name, d.qual, d.params, .stmts d.body, d.scope, mainGlobals, [], builtinsNs) := e
      simp only [Option.some.injEq, Prod.mk.injEq] at e2
      obtain ⟨h1, h2, h3, h4, h5, h6, h7, h8⟩ := e2
      subst h1 h2 h3 h4 h5 h6 h7 h8
      have c3 : (PySem.W.codeIn K n13 d.qual && dflB K n8 (d.dvs K)) = true := c2
      obtain ⟨k1, k2⟩ := ba c3
      exact ⟨_, ⟨oc, od, n8, n9, n10, n11, n12, n13, n14, osl, rfl, q, k1, dflB_ok k2, .inl rfl⟩, kp⟩
    | _ => cases c2
/-! ### the hook: facts by names, defs, errors, plain classes, staticmethods -/
def tysB (K : PySem.W.Frag) (NT : List Str) (cls : List Nat) : Bool :=
  He.eqO (PySem.W.specialIn K (.builtin "object.__class__") "__get__") (some (some (.builtin "getset_descriptor.__get__"))) && (decide (PySem.W.takesIn K (.builtin "object.__class__") = some true) &&
  (cls.all fun C => (He.Fa.cls (nm NT C)).ok K && (He.eqO (PySem.W.findIn K (.ref (ga K NT C)) "__class__") (some (some (.builtin "object.__class__"))) && (decide (PySem.W.mroIn K (ga K NT C) (.type "object") = some true) &&
    ((tys7.all fun n => decide (PySem.W.kitOne K (.type n) (.ref (ga K NT C)) = some false) && PySem.W.notFirst K (ga K NT C) (.type n)) &&
    ((tys6.all fun n => decide (PySem.W.kitOne K (.ref (ga K NT C)) (.type n) = some false)) &&
    (cls.all fun B => decide (PySem.W.kitOne K (.ref (ga K NT C)) (.ref (ga K NT B)) = some (Nat.beq C B)) && PySem.W.notFirst K (ga K NT C) (.ref (ga K NT B)))))))))
theorem any_beq {cls : List Nat} {C : Nat} (h : cls.any (Nat.beq C) = true) : C ∈ cls := by
  obtain ⟨x, hx, e⟩ := List.any_eq_true.mp h
  rw [Nat.eq_of_beq_eq_true e]
  exact hx
theorem tysB_ok {K : PySem.W.Frag} {NT : List Str} {cls : List Nat} (h : tysB K NT cls = true) : OwnOk K NT cls := by
  unfold tysB at h
  obtain ⟨h1, h⟩ := ba h
  obtain ⟨h2, h3⟩ := ba h
  have each : ∀ C, cls.any (Nat.beq C) = true → _ := fun C hC => List.all_eq_true.mp h3 C (any_beq hC)
  refine ⟨He.eqO_ok h1, of_decide_eq_true h2, fun C hC => ?_, fun C n hC hn => ?_, fun C n hC hn => ?_, fun C B hC hB => ?_⟩
  · obtain ⟨q1, q⟩ := ba (each C hC)
    obtain ⟨q2, q⟩ := ba q
    obtain ⟨q3, q⟩ := ba q
    exact ⟨He.cls_ok q1, He.eqO_ok q2, of_decide_eq_true q3⟩
  · obtain ⟨q1, q⟩ := ba (each C hC)
    obtain ⟨q2, q⟩ := ba q
    obtain ⟨q3, q⟩ := ba q
    obtain ⟨q4, q⟩ := ba q
    obtain ⟨r1, r2⟩ := ba (List.all_eq_true.mp q4 n hn)
    exact ⟨of_decide_eq_true r1, r2⟩
  · obtain ⟨q1, q⟩ := ba (each C hC)
    obtain ⟨q2, q⟩ := ba q
    obtain ⟨q3, q⟩ := ba q
    obtain ⟨q4, q⟩ := ba q
    obtain ⟨q5, q6⟩ := ba q
    exact of_decide_eq_true (List.all_eq_true.mp q5 n hn)
  · obtain ⟨q1, q⟩ := ba (each C hC)
    obtain ⟨q2, q⟩ := ba q
    obtain ⟨q3, q⟩ := ba q
    obtain ⟨q4, q⟩ := ba q
    obtain ⟨q5, q6⟩ := ba q
    obtain ⟨r1, r2⟩ := ba (List.all_eq_true.mp q6 B (any_beq hB))
    exact ⟨of_decide_eq_true r1, r2⟩
/-- further facts -/
inductive Fb where
  | err (C : Nat) (fs : List Nat)
  | own (cls : List Nat)
  | sta (C : Nat) (m : Str)
  | neq (C : Nat)
  | noa (cls : List Nat) (k : Nat)
  | exs (X : Nat) (l : List (Nat × Bool))
def Fb.ok (prog : Program) (NT : List Str) (K : PySem.W.Frag) : Fb → Bool
  | .err C fs => PtE.errB prog K (ga K NT C) (fs.map (nm NT))
  | .own cls => tysB K NT cls
  | .sta C m => PySem.W.readsIn K (ga K NT C) (.type "type") && (He.eqO (PySem.W.specialIn K (.ref (ga K NT C)) "__getattribute__") (some (some (.builtin "type.__getattribute__"))) && (He5.wrapB K (ga K NT C) "staticmethod" "staticmethod.__get__" m && PySem.W.keepIn K (.ref (He5.wf K (ga K NT C) "staticmethod" m))))
  | .noa cls k => cls.all fun C => He.eqO (PySem.W.findIn K (.ref (ga K NT C)) (nm NT k)) (some none)
  | .exs X l => l.all fun q => decide (PySem.W.exmOne K (.ref (ga K NT q.1)) (.ref (ga K NT X)) = some q.2)
  | .neq C => He.eqO (PySem.W.findIn K (.ref (ga K NT C)) "__ne__") (some (some (.builtin "object.__ne__")))
theorem sta_ok {prog : Program} {NT : List Str} {K : PySem.W.Frag} {C : Nat} {m : Str} (h : (Fb.sta C m).ok prog NT K = true) : SMet K (ga K NT C) (.type "type") m (He.ma K (ga K NT C) m) (He5.wf K (ga K NT C) "staticmethod" m) := by
  obtain ⟨h1, h⟩ := ba h
  obtain ⟨h2, h⟩ := ba h
  obtain ⟨h3, h4⟩ := ba h
  obtain ⟨q1, q2⟩ := He5.wrapB_ok h3
  exact ⟨h1, He.eqO_ok h2, q1, q2, h4⟩
theorem noa_ok {prog : Program} {NT : List Str} {K : PySem.W.Frag} {cls : List Nat} {k : Nat} (h : (Fb.noa cls k).ok prog NT K = true) (hN : NT.Nodup) (hk : k < NT.length) (O : OwnOk K NT cls) : FldOk K NT cls k :=
  ⟨hN, hk, fun C hC => ⟨(O.c C hC).1, He.eqO_ok (List.all_eq_true.mp h C (any_beq hC))⟩⟩
theorem lookupN_mem {b : Bool} {c : Nat} : ∀ {l : List (Nat × Bool)}, l.lookup c = some b → (c, b) ∈ l
  | (x, y) :: r, h => by
    rw [List.lookup_cons] at h
    by_cases q : c = x
    · subst q
      simp at h
      subst h
      exact List.mem_cons_self
    · have : (c == x) = false := by simpa using q
      rw [this] at h
      exact List.mem_cons_of_mem _ (lookupN_mem h)
theorem exs_ok {prog : Program} {NT : List Str} {K : PySem.W.Frag} {X : Nat} {l : List (Nat × Bool)} (h : (Fb.exs X l).ok prog NT K = true) : ∀ Cx b, l.lookup Cx = some b → PySem.W.exmOne K (.ref (ga K NT Cx)) (.ref (ga K NT X)) = some b := fun Cx b e =>
  of_decide_eq_true (List.all_eq_true.mp h (Cx, b) (lookupN_mem e))
theorem one_err {prog : Program} {NT : List Str} {K : PySem.W.Frag} {ci k : Nat} (fk : List Nat) (hk : k ∈ fk) (T : PtE.ErrTxt prog K (ga K NT ci) (fk.map (nm NT))) : ∀ Cx, [ci].any (Nat.beq Cx) = true → ∃ fks : List Nat, k ∈ fks ∧ PtE.ErrTxt prog K (ga K NT Cx) (fks.map (nm NT)) := fun Cx h => by
  have := any_beq h
  simp at this
  subst this
  exact ⟨fk, hk, T⟩
abbrev AlE : Type := Bool × List FnW
def obsE (prog : Program) (NT : List Str) (fa : List He.Fa) (fb : List Fb) (fn : List DefG) (K : PySem.W.Frag) : AlE := ((fa.all fun f => f.ok K) && ((fb.all fun f => f.ok prog NT K) && fn.all fun d => d.ok K), fn.map fun d => fnW K (d.adr K))
def valE (fn : List DefG) : AlE := (true, fn.map DefG.val)
def SaysE (prog : Program) (NT : List Str) (fa : List He.Fa) (fb : List Fb) (fn : List DefG) (K : PySem.W.Frag) : Prop := obsE prog NT fa fb fn K = valE fn
def obsEG (n : Nat) (prog : Program) (NT : List Str) (fa : List He.Fa) (fb : List Fb) (fn : List DefG) (g : Addr → Option Obj) : AlE := obsE prog NT fa fb fn (He.frG g (PySem.cStatics :: He.asD g n))
def hookE (n : Nat) (prog : Program) (NT : List Str) (fa : List He.Fa) (fb : List Fb) (fn : List DefG) : PySem.W.Hook where
  α := AlE
  obs := fun s => obsEG n prog NT fa fb fn s.heap.get?
  val := fun _ => valE fn
  says := fun _ h => ∃ K : PySem.W.Frag, K.In h ∧ SaysE prog NT fa fb fn K
  of := fun _ _ e => ⟨_, He.frG_in, e⟩
  keeps := fun _ _ _ ⟨K, hK, c⟩ k => ⟨K, PySem.W.Frag.In.keeps hK k, c⟩
section
variable {n : Nat} {prog : Program} {NT : List Str} {fa : List He.Fa} {fb : List Fb} {fn : List DefG} {K : PySem.W.Frag}
theorem obsEG_eq {g : Addr → Option Obj} {s : Shared} (h : ∀ a, g a = s.heap.get? a) : obsEG n prog NT fa fb fn g = (hookE n prog NT fa fb fn).obs s := by
  have e : g = s.heap.get? := funext h
  rw [e] <;> rfl
theorem SaysE.fact (c : SaysE prog NT fa fb fn K) (i : Nat) {f : He.Fa} (h : fa[i]? = some f := by rfl) : f.ok K = true :=
  List.all_eq_true.mp (ba (show ((fa.all fun f => f.ok K) && ((fb.all fun f => f.ok prog NT K) && fn.all fun d => d.ok K)) = true from congrArg (fun z : AlE => z.1) c)).1 f (List.mem_of_getElem? h)
theorem SaysE.more (c : SaysE prog NT fa fb fn K) (i : Nat) {f : Fb} (h : fb[i]? = some f := by rfl) : f.ok prog NT K = true :=
  List.all_eq_true.mp (ba (ba (show ((fa.all fun f => f.ok K) && ((fb.all fun f => f.ok prog NT K) && fn.all fun d => d.ok K)) = true from congrArg (fun z : AlE => z.1) c)).2).1 f (List.mem_of_getElem? h)
theorem SaysE.def_ (c : SaysE prog NT fa fb fn K) (i : Nat) {d : DefG} (h : fn[i]? = some d := by rfl) : ∃ fd, FunD K d.name d.qual d.params d.body d.scope (d.dvs K) [] (d.adr K) fd := by
  have c2 := (ba (ba (show ((fa.all fun f => f.ok K) && ((fb.all fun f => f.ok prog NT K) && fn.all fun d => d.ok K)) = true from congrArg (fun z : AlE => z.1) c)).2).2
  have e : fn.map (fun d => fnW K (d.adr K)) = fn.map DefG.val := congrArg (fun z : AlE => z.2) c
  have e2 : (fn.map fun d => fnW K (d.adr K))[i]? = (fn.map DefG.val)[i]? := by rw [e]
  rw [List.getElem?_map, List.getElem?_map, h] at e2
  exact DefG.funD (Option.some.inj e2) (List.all_eq_true.mp c2 d (List.mem_of_getElem? h))
end
end Pt
set_option maxRecDepth 100000
set_option maxHeartbeats 1000000
namespace Pt
open PySem PySem.Spec PyProof.Rows L2
/-! ### small things for the printed proofs -/
def FUEL : Nat := 1000000
theorem bt_len : bootBuiltins "len" = some (.builtin "len") := by first | rfl | kernel_rfl
theorem bt_abs : bootBuiltins "abs" = some (.builtin "abs") := by first | rfl | kernel_rfl
theorem bt_all : bootBuiltins "all" = some (.builtin "all") := by first | rfl | kernel_rfl
theorem bt_any : bootBuiltins "any" = some (.builtin "any") := by first | rfl | kernel_rfl
theorem bt_sum : bootBuiltins "sum" = some (.builtin "sum") := by first | rfl | kernel_rfl
theorem bt_isinstance : bootBuiltins "isinstance" = some (.builtin "isinstance") := by first | rfl | kernel_rfl
theorem bt_int : bootBuiltins "int" = some (.type "int") := by first | rfl | kernel_rfl
theorem bt_str : bootBuiltins "str" = some (.type "str") := by first | rfl | kernel_rfl
theorem bt_bool : bootBuiltins "bool" = some (.type "bool") := by first | rfl | kernel_rfl
theorem bt_list : bootBuiltins "list" = some (.type "list") := by first | rfl | kernel_rfl
theorem bt_tuple : bootBuiltins "tuple" = some (.type "tuple") := by first | rfl | kernel_rfl
theorem bt_dict : bootBuiltins "dict" = some (.type "dict") := by first | rfl | kernel_rfl
def visB (sc : Scope) (vis : List Str) : Bool := vis.all fun y => (match sc.names.lookup y with
  | some .local => true
  | some .cell => true
  | some .free => true
  | _ => false) && (!(y == ("__debug__" : Str)) && !(y == ("__classdict__" : Str)))
def VisS (sc : Scope) (vis : List Str) : Prop := ∀ y ∈ vis, Vis sc y ∧ (y == ("__debug__" : Str)) = false ∧ (y == ("__classdict__" : Str)) = false
theorem visS_of {sc : Scope} {vis : List Str} (h : visB sc vis = true) : VisS sc vis := fun y hy => by
  have q := List.all_eq_true.mp h y hy
  obtain ⟨q1, q⟩ := ba q
  obtain ⟨q2, q3⟩ := ba q
  refine ⟨?_, by simpa using q2, by simpa using q3⟩
  split at q1
  · rename_i e; exact .inl e
  · rename_i e; exact .inr (.inl e)
  · rename_i e; exact .inr (.inr e)
  · cases q1
theorem visOk_of {X : Cx} {vis : List Str} (h : visB X.env.scope vis = true) : VisOk X vis := fun y hy => by
  have q := List.all_eq_true.mp h y hy
  obtain ⟨q1, q⟩ := ba q
  obtain ⟨q2, q3⟩ := ba q
  refine ⟨?_, by simpa using q2, by simpa using q3⟩
  split at q1
  · rename_i e; exact .inl e
  · rename_i e; exact .inr (.inl e)
  · rename_i e; exact .inr (.inr e)
  · cases q1
/-- a def of which nothing is promised -/
theorem fn_none {P : Program} {w : World} {K : PySem.W.Frag} {mg : Str → Option Value} {base : Heap} {NT : List Str} {x qual : Str} {params : Arguments} {body : List Stmt} {scope : Scope} {dvs : List V} {kws : List (Str × V)} {f : Addr} {fd : FuncData} {N ps : List Str} {k : Nat} (F : FunD K x qual params body scope dvs kws f fd) (S : FnScope N ps scope)
    (m : Option Sh) (rs : Sh) : FnOk P w K mg base (L2.CX P w) (k + 1) f fd ps (spOf K NT ps.length m rs fun _ => .stuck) :=
  F.ok S spOf_len (fun cdv A outer s H vs Q E hr hsp => by
    obtain ⟨ds, ok, l0, hn, ha, ns, _⟩ := hsp
    exact absurd rfl ns)
/-- the first statement of a class's text and so on -/
def clsBody (s : Stmt) : List Stmt := match s with
  | .ClassDef _ _ _ b _ _ _ _ _ _ _ => b
  | _ => []
abbrev Pas : Stmt := .Pass ⟨0, 0, 0, 0⟩
theorem scope_by {N P : List Str} {sc : Scope} (h1 : sc.kind = .function) (h2 : sc.isCoroutine = false) (h3 : sc.isGenerator = false) (h4 : N.Nodup) (h5 : N.take P.length = P) (h6 : (P.all fun x => decide (sc.names.lookup x = some .local) || decide (sc.names.lookup x = some .cell)) = true) (h7 : (sc.names.all fun y => !decide (y.2 = .free)) = true) : FnScope N P sc :=
  ⟨h1, h2, h3, h4, h5, fun x m => by simpa using List.all_eq_true.mp h6 x m, fun y m => by simpa using List.all_eq_true.mp h7 y m⟩
def fStrI : List D → Option D := fI fun i => if i.natAbs < 2 ^ 1900 then some (.str (toString i : String)) else none
theorem sp_strI {X : Cx} {NT : List Str} : OpSpec X.K NT (fun xs H Q => (∃ i, xs = [.int i] ∧ i.natAbs.log2 < 1920 ∧ Q (.str (toString i)) H)) fStrI .f true := sp_str
theorem sRet_nx {da : Den} {σ σ' : Stt} : sRet da σ ≠ .nx σ' := fun h => by
  unfold sRet at h
  split at h <;> cases h
end Pt
set_option maxRecDepth 100000
set_option maxHeartbeats 1000000
namespace Pt
open PySem PySem.Spec L2
theorem sp_law {K : PySem.W.Frag} {NT : List Str} {H : Hp} {a : Addr} {ns : List Int} {f : FDen} (hS : SqL K H a (ns.map V.int)) (hf : ∃ o, f [.scr ns] = .ret (.bl true) o) : spOf K NT 1 none .f f [.ref a] H (fun v _ => v = .bl true) (fun _ _ _ => False) := by
  obtain ⟨o, e⟩ := hf
  refine ⟨[.scr ns], fun _ => True, [], rfl, ⟨rfl, .ref a, [], rfl, ⟨a, rfl, ?_⟩, rfl⟩, ?_, ?_, ?_⟩
  · rcases hS with h | h
    · exact .inl ⟨trivial, h⟩
    · exact .inr h
  · intro z
    rw [e] at z
    cases z
  · intro d o' z v H' l1 lx _ _ r
    rw [e] at z
    cases z
    exact r.2
  · intro x o' z
    rw [e] at z
    cases z
theorem noCX {P : Program} (w : World) (H : Hp) (s : Shared) (e : Value) (s' : Shared) (h : L2.CX P w [] H s (fun _ _ _ => False) e s') : False := by
  obtain ⟨_, _, _, _, _, _, _, _, _, _, h⟩ := h
  simp at h
  
end Pt
set_option maxRecDepth 100000
set_option maxHeartbeats 1000000
/-! tree functions are run by simp: each piece is opened only when the state is known -/
namespace Pt
open PySem PySem.Spec L2
section
variable {da db d0 de : Den} {das dks : ADen} {bd be : BDen} {sd se : SDen} {σ σ1 : Stt} {d x o : D} {ds es : List D} {i j : Nat} {f : List D → Option D} {m : Option Sh} {bind : GDen} {bs : GsDen} {iden : IDen} {items : List D} {cd : List D → List D → FR} {cd1 : D → List D → List D → FR} {vs : List Nat}
@[simp] theorem dC_k : dC d σ = .ok d σ := rfl
def varK (r : Option (Option D)) (σ : Stt) : Rz D := match r with
  | some (some d) => .ok d σ
  | _ => .stuck
@[simp] theorem dVar_k : dVar i σ = varK σ[i]? σ := rfl
@[simp] theorem varK_s : varK (some (some d)) σ = .ok d σ := rfl
@[simp] theorem aNil_k : aNil σ = .ok [] σ := rfl
def aConsK2 (d : D) (r : Rz (List D)) : Rz (List D) := match r with
  | .ok ds σ2 => .ok (d :: ds) σ2
  | .exc x σ2 => .exc x σ2
  | .stuck => .stuck
def aConsK (r : Rz D) (das : ADen) : Rz (List D) := match r with
  | .ok d σ1 => aConsK2 d (das σ1)
  | .exc x σ1 => .exc x σ1
  | .stuck => .stuck
@[simp] theorem aCons_k : aCons da das σ = aConsK (da σ) das := by
  unfold aCons aConsK aConsK2; rfl
@[simp] theorem aConsK_ok : aConsK (.ok d σ) das = aConsK2 d (das σ) := rfl
@[simp] theorem aConsK_exc : aConsK (.exc d σ) das = .exc d σ := rfl
@[simp] theorem aConsK2_ok : aConsK2 d (.ok ds σ) = .ok (d :: ds) σ := rfl
@[simp] theorem aConsK2_exc : aConsK2 d (.exc x σ) = .exc x σ := rfl
def optK (r : Option D) (σ : Stt) : Rz D := match r with
  | some d => .ok d σ
  | none => .stuck
@[simp] theorem optK_s : optK (some d) σ = .ok d σ := rfl
def dOpK (f : List D → Option D) (r : Rz (List D)) : Rz D := match r with
  | .ok ds σ1 => optK (f ds) σ1
  | .exc x σ1 => .exc x σ1
  | .stuck => .stuck
@[simp] theorem dOp_k : dOp f das σ = dOpK f (das σ) := by
  unfold dOp dOpK optK; rfl
@[simp] theorem dOpK_ok : dOpK f (.ok ds σ) = optK (f ds) σ := rfl
@[simp] theorem dOpK_exc : dOpK f (.exc x σ) = .exc x σ := rfl
def bValK (r : Rz D) : Rz Bool := match r with
  | .ok (.bl b) σ1 => .ok b σ1
  | .exc x σ1 => .exc x σ1
  | _ => .stuck
@[simp] theorem bVal_k : bVal da σ = bValK (da σ) := rfl
@[simp] theorem bValK_ok {b : Bool} : bValK (.ok (.bl b) σ) = .ok b σ := rfl
@[simp] theorem bValK_exc : bValK (.exc x σ) = .exc x σ := rfl
def truK (r : Option Bool) (σ : Stt) : Rz Bool := match r with
  | some b => .ok b σ
  | none => .stuck
@[simp] theorem truK_s {b : Bool} : truK (some b) σ = .ok b σ := rfl
def bTruK (r : Rz (List D)) : Rz Bool := match r with
  | .ok [d] σ1 => truK (truD d) σ1
  | .exc x σ1 => .exc x σ1
  | _ => .stuck
@[simp] theorem bTru_k : bTru das σ = bTruK (das σ) := by
  unfold bTru bTruK truK; rfl
@[simp] theorem bTruK_ok : bTruK (.ok [d] σ) = truK (truD d) σ := rfl
def bNotK (r : Rz Bool) : Rz Bool := match r with
  | .ok b σ1 => .ok (!b) σ1
  | .exc x σ1 => .exc x σ1
  | .stuck => .stuck
@[simp] theorem bNot_k : bNot bd σ = bNotK (bd σ) := rfl
@[simp] theorem bNotK_ok {b : Bool} : bNotK (.ok b σ) = .ok (!b) σ := rfl
@[simp] theorem bNotK_exc : bNotK (.exc x σ) = .exc x σ := rfl
def bAndK (r : Rz Bool) (be : BDen) : Rz Bool := match r with
  | .ok true σ1 => be σ1
  | r => r
@[simp] theorem bAnd_k : bAnd bd be σ = bAndK (bd σ) be := rfl
@[simp] theorem bAndK_t : bAndK (.ok true σ) be = be σ := rfl
@[simp] theorem bAndK_f : bAndK (.ok false σ) be = .ok false σ := rfl
@[simp] theorem bAndK_exc : bAndK (.exc x σ) be = .exc x σ := rfl
def bOrK (r : Rz Bool) (be : BDen) : Rz Bool := match r with
  | .ok false σ1 => be σ1
  | r => r
@[simp] theorem bOr_k : bOr bd be σ = bOrK (bd σ) be := rfl
@[simp] theorem bOrK_f : bOrK (.ok false σ) be = be σ := rfl
@[simp] theorem bOrK_t : bOrK (.ok true σ) be = .ok true σ := rfl
@[simp] theorem bOrK_exc : bOrK (.exc x σ) be = .exc x σ := rfl
def dAndK (r : Rz D) (db : Den) : Rz D := match r with
  | .ok (.bl true) σ1 => db σ1
  | .ok (.bl false) σ1 => .ok (.bl false) σ1
  | .exc x σ1 => .exc x σ1
  | _ => .stuck
@[simp] theorem dAnd_k : dAnd da db σ = dAndK (da σ) db := rfl
@[simp] theorem dAndK_t : dAndK (.ok (.bl true) σ) db = db σ := rfl
@[simp] theorem dAndK_f : dAndK (.ok (.bl false) σ) db = .ok (.bl false) σ := rfl
@[simp] theorem dAndK_exc : dAndK (.exc x σ) db = .exc x σ := rfl
def dOrK (r : Rz D) (db : Den) : Rz D := match r with
  | .ok (.bl false) σ1 => db σ1
  | .ok (.bl true) σ1 => .ok (.bl true) σ1
  | .exc x σ1 => .exc x σ1
  | _ => .stuck
@[simp] theorem dOr_k : dOr da db σ = dOrK (da σ) db := rfl
@[simp] theorem dOrK_f : dOrK (.ok (.bl false) σ) db = db σ := rfl
@[simp] theorem dOrK_t : dOrK (.ok (.bl true) σ) db = .ok (.bl true) σ := rfl
@[simp] theorem dOrK_exc : dOrK (.exc x σ) db = .exc x σ := rfl
def dIfK (r : Rz Bool) (da db : Den) : Rz D := match r with
  | .ok true σ1 => da σ1
  | .ok false σ1 => db σ1
  | .exc x σ1 => .exc x σ1
  | .stuck => .stuck
@[simp] theorem dIf_k : dIf bd da db σ = dIfK (bd σ) da db := rfl
@[simp] theorem dIfK_t : dIfK (.ok true σ) da db = da σ := rfl
@[simp] theorem dIfK_f : dIfK (.ok false σ) da db = db σ := rfl
@[simp] theorem dIfK_exc : dIfK (.exc x σ) da db = .exc x σ := rfl
def dNotK (r : Rz D) : Rz D := match r with
  | .ok (.bl b) σ1 => .ok (.bl (!b)) σ1
  | .exc x σ1 => .exc x σ1
  | _ => .stuck
@[simp] theorem dNot_k : dNot da σ = dNotK (da σ) := rfl
@[simp] theorem dNotK_ok {b : Bool} : dNotK (.ok (.bl b) σ) = .ok (.bl (!b)) σ := rfl
@[simp] theorem dNotK_exc : dNotK (.exc x σ) = .exc x σ := rfl
/-! statements -/
@[simp] theorem sNext_k : sNext σ = .nx σ := rfl
@[simp] theorem sBrk_k : sBrk σ = .brk σ := rfl
@[simp] theorem sCt_k : sCt σ = .ct σ := rfl
@[simp] theorem sRetN_k : sRetN σ = .ret .non σ := rfl
def sSeqK (r : RS) (se : SDen) : RS := match r with
  | .nx σ1 => se σ1
  | r => r
@[simp] theorem sSeq_k : sSeq sd se σ = sSeqK (sd σ) se := rfl
@[simp] theorem sSeqK_nx : sSeqK (.nx σ) se = se σ := rfl
@[simp] theorem sSeqK_ret : sSeqK (.ret d σ) se = .ret d σ := rfl
@[simp] theorem sSeqK_brk : sSeqK (.brk σ) se = .brk σ := rfl
@[simp] theorem sSeqK_ct : sSeqK (.ct σ) se = .ct σ := rfl
@[simp] theorem sSeqK_exc : sSeqK (.exc d σ) se = .exc d σ := rfl
def sExprK (r : Rz D) : RS := match r with
  | .ok _ σ1 => .nx σ1
  | .exc x σ1 => .exc x σ1
  | .stuck => .stuck
@[simp] theorem sExpr_k : sExpr da σ = sExprK (da σ) := rfl
@[simp] theorem sExprK_ok : sExprK (.ok d σ) = .nx σ := rfl
@[simp] theorem sExprK_exc : sExprK (.exc d σ) = .exc d σ := rfl
def sRetK (r : Rz D) : RS := match r with
  | .ok d σ1 => .ret d σ1
  | .exc x σ1 => .exc x σ1
  | .stuck => .stuck
@[simp] theorem sRet_k : sRet da σ = sRetK (da σ) := rfl
@[simp] theorem sRetK_ok : sRetK (.ok d σ) = .ret d σ := rfl
@[simp] theorem sRetK_exc : sRetK (.exc d σ) = .exc d σ := rfl
def sIfK (r : Rz Bool) (sd se : SDen) : RS := match r with
  | .ok true σ1 => sd σ1
  | .ok false σ1 => se σ1
  | .exc x σ1 => .exc x σ1
  | .stuck => .stuck
@[simp] theorem sIf_k : sIf bd sd se σ = sIfK (bd σ) sd se := rfl
@[simp] theorem sIfK_t : sIfK (.ok true σ) sd se = sd σ := rfl
@[simp] theorem sIfK_f : sIfK (.ok false σ) sd se = se σ := rfl
@[simp] theorem sIfK_exc : sIfK (.exc x σ) sd se = .exc x σ := rfl
def sSetK (i : Nat) (r : Rz D) : RS := match r with
  | .ok d σ1 => .nx (σ1.set i (some d))
  | .exc x σ1 => .exc x σ1
  | .stuck => .stuck
@[simp] theorem sSet_k : sSet i da σ = sSetK i (da σ) := rfl
@[simp] theorem sSetK_ok : sSetK i (.ok d σ) = .nx (σ.set i (some d)) := rfl
@[simp] theorem sSetK_exc : sSetK i (.exc d σ) = .exc d σ := rfl
def sParK (is : List Nat) (r : Rz (List D)) : RS := match r with
  | .ok ds σ1 => if ds.length = is.length then .nx ((is.zip ds).foldl (fun σ q => σ.set q.1 (some q.2)) σ1) else .stuck
  | .exc x σ1 => .exc x σ1
  | .stuck => .stuck
@[simp] theorem sPar_k {is : List Nat} : sPar is das σ = sParK is (das σ) := rfl
@[simp] theorem sParK_ok {is : List Nat} : sParK is (.ok ds σ) = if ds.length = is.length then .nx ((is.zip ds).foldl (fun σ q => σ.set q.1 (some q.2)) σ) else .stuck := rfl
@[simp] theorem sParK_exc {is : List Nat} : sParK is (.exc d σ) = .exc d σ := rfl
def nxK (r : Option Stt) : RS := match r with
  | some σ => .nx σ
  | none => .stuck
@[simp] theorem nxK_s : nxK (some σ) = .nx σ := rfl
def sAsgK (r : Rz D) (bind : GDen) : RS := match r with
  | .ok d σ1 => nxK (bind d σ1)
  | .exc x σ1 => .exc x σ1
  | .stuck => .stuck
@[simp] theorem sAsg_k : sAsg da bind σ = sAsgK (da σ) bind := by
  unfold sAsg sAsgK nxK; rfl
@[simp] theorem sAsgK_ok : sAsgK (.ok d σ) bind = nxK (bind d σ) := rfl
@[simp] theorem sAsgK_exc : sAsgK (.exc d σ) bind = .exc d σ := rfl
@[simp] theorem gdName_k : gdName i d σ = some (σ.set i (some d)) := rfl
@[simp] theorem gdNil_k : gdNil [] σ = some σ := rfl
def gsK (r : Option Stt) (bs : GsDen) (ds : List D) : Option Stt := match r with
  | some σ => bs ds σ
  | none => none
@[simp] theorem gsK_s : gsK (some σ) bs ds = bs ds σ := rfl
@[simp] theorem gdCons_k : gdCons bind bs (d :: ds) σ = gsK (bind d σ) bs ds := by
  show (bind d σ).bind _ = _
  cases bind d σ <;> rfl
@[simp] theorem gdTup_k {n : Nat} : gdTup n bs (.tup ds) σ = if ds.length = n then bs ds σ else none := rfl
def lstK (r : Option (Option D)) : Option (List D) := match r with
  | some (some (.lst xs)) => some xs
  | _ => none
@[simp] theorem lstSt_k : lstSt i σ = lstK σ[i]? := rfl
@[simp] theorem lstK_s : lstK (some (some (.lst ds))) = some ds := rfl
def setIxK2 (i : Nat) (d : D) (xs : List D) (r : Option Nat) (σ : Stt) : RS := match r with
  | some j => .nx (σ.set i (some (.lst (xs.set j d))))
  | none => .stuck
@[simp] theorem setIxK2_s : setIxK2 i d ds (some j) σ = .nx (σ.set i (some (.lst (ds.set j d)))) := rfl
def setIxK1 (i : Nat) (d : D) (r : Rz D) : RS := match r with
  | .ok (.int k) σ2 => (match lstSt i σ2 with
        | some xs => setIxK2 i d xs (ixN xs.length k) σ2
        | none => .stuck)
  | .exc x σ2 => .exc x σ2
  | _ => .stuck
def setIxK3 (i : Nat) (d : D) (k : Int) (r : Option (List D)) (σ : Stt) : RS := match r with
  | some xs => setIxK2 i d xs (ixN xs.length k) σ
  | none => .stuck
@[simp] theorem setIxK3_s {k : Int} : setIxK3 i d k (some ds) σ = setIxK2 i d ds (ixN ds.length k) σ := rfl
@[simp] theorem setIxK1_ok {k : Int} : setIxK1 i d (.ok (.int k) σ) = setIxK3 i d k (lstSt i σ) σ := rfl
def setIxK0 (i : Nat) (d : D) (r : Option (List D)) (di : Den) (σ : Stt) : RS := match r with
  | none => .stuck
  | some _ => setIxK1 i d (di σ)
@[simp] theorem setIxK0_s : setIxK0 i d (some ds) da σ = setIxK1 i d (da σ) := rfl
def setIxK (i : Nat) (r : Rz D) (di : Den) : RS := match r with
  | .ok d σ1 => setIxK0 i d (lstSt i σ1) di σ1
  | .exc x σ1 => .exc x σ1
  | .stuck => .stuck
@[simp] theorem sSetIx_k : sSetIx i da db σ = setIxK i (da σ) db := by
  unfold sSetIx setIxK setIxK0 setIxK1 setIxK2
  cases da σ with
  | ok d σ1 =>
    dsimp only
    all_goals (cases lstSt i σ1 <;> first | rfl | (dsimp only; all_goals (cases db σ1 <;> first | rfl | (rename_i k σ2; cases k <;> first | rfl | (dsimp only; all_goals (cases lstSt i σ2 <;> rfl))))))
  | exc x σ1 => rfl
  | stuck => rfl
@[simp] theorem setIxK_ok : setIxK i (.ok d σ) db = setIxK0 i d (lstSt i σ) db σ := rfl
@[simp] theorem setIxK_exc : setIxK i (.exc d σ) db = .exc d σ := rfl
def appK1 (i : Nat) (d : D) (r : Option (List D)) (σ : Stt) : RS := match r with
  | some xs => if xs.length < sizeLine then .nx (σ.set i (some (.lst (xs ++ [d])))) else .stuck
  | none => .stuck
@[simp] theorem appK1_s : appK1 i d (some ds) σ = if ds.length < sizeLine then .nx (σ.set i (some (.lst (ds ++ [d])))) else .stuck := rfl
def appK0 (i : Nat) (r : Rz D) : RS := match r with
  | .ok d σ1 => appK1 i d (lstSt i σ1) σ1
  | .exc x σ1 => .exc x σ1
  | .stuck => .stuck
@[simp] theorem appK0_ok : appK0 i (.ok d σ) = appK1 i d (lstSt i σ) σ := rfl
@[simp] theorem appK0_exc : appK0 i (.exc d σ) = .exc d σ := rfl
def appK (i : Nat) (r : Option (List D)) (da : Den) (σ : Stt) : RS := match r with
  | none => .stuck
  | some _ => appK0 i (da σ)
@[simp] theorem appK_s : appK i (some ds) da σ = appK0 i (da σ) := rfl
@[simp] theorem sApp_k : sApp i da σ = appK i (lstSt i σ) da σ := by
  unfold sApp appK appK0 appK1
  cases lstSt i σ <;> first | rfl | (dsimp only; rfl)
/-! loops over known rows -/
def sForK (r : Rz (List D)) (bind : GDen) (body : SDen) : RS := match r with
  | .ok items σ1 => loopD bind body items σ1
  | .exc x σ1 => .exc x σ1
  | .stuck => .stuck
@[simp] theorem sFor_k : sFor iden bind sd σ = sForK (iden σ) bind sd := rfl
@[simp] theorem sForK_ok : sForK (.ok items σ) bind sd = loopD bind sd items σ := rfl
@[simp] theorem sForK_exc : sForK (.exc x σ) bind sd = .exc x σ := rfl
def loopK (bind : GDen) (body : SDen) (ds : List D) (r : RS) : RS := match r with
  | .nx σ2 => loopD bind body ds σ2
  | .ct σ2 => loopD bind body ds σ2
  | .brk σ2 => .nx σ2
  | r => r
@[simp] theorem loopK_nx : loopK bind sd ds (.nx σ) = loopD bind sd ds σ := rfl
@[simp] theorem loopK_ct : loopK bind sd ds (.ct σ) = loopD bind sd ds σ := rfl
@[simp] theorem loopK_brk : loopK bind sd ds (.brk σ) = .nx σ := rfl
@[simp] theorem loopK_ret : loopK bind sd ds (.ret d σ) = .ret d σ := rfl
@[simp] theorem loopK_exc : loopK bind sd ds (.exc d σ) = .exc d σ := rfl
def loopB (bind : GDen) (body : SDen) (ds : List D) (r : Option Stt) : RS := match r with
  | none => .stuck
  | some σ1 => loopK bind body ds (body σ1)
@[simp] theorem loopB_s : loopB bind sd ds (some σ) = loopK bind sd ds (sd σ) := rfl
@[simp] theorem loopD_nil : loopD bind sd [] σ = .nx σ := rfl
theorem loopD_cons : loopD bind sd (d :: ds) σ = loopB bind sd ds (bind d σ) := by
  conv => lhs; unfold loopD
  unfold loopB loopK; rfl
def whK2 (bd : BDen) (body : SDen) (n : Nat) (r : RS) : RS := match r with
  | .nx σ2 => whileD bd body n σ2
  | .ct σ2 => whileD bd body n σ2
  | .brk σ2 => .nx σ2
  | r => r
@[simp] theorem whK2_nx {n : Nat} : whK2 bd sd n (.nx σ) = whileD bd sd n σ := rfl
@[simp] theorem whK2_ct {n : Nat} : whK2 bd sd n (.ct σ) = whileD bd sd n σ := rfl
@[simp] theorem whK2_brk {n : Nat} : whK2 bd sd n (.brk σ) = .nx σ := rfl
@[simp] theorem whK2_ret {n : Nat} : whK2 bd sd n (.ret d σ) = .ret d σ := rfl
@[simp] theorem whK2_exc {n : Nat} : whK2 bd sd n (.exc d σ) = .exc d σ := rfl
def whK (bd : BDen) (body : SDen) (n : Nat) (r : Rz Bool) : RS := match r with
  | .ok true σ1 => whK2 bd body n (body σ1)
  | .ok false σ1 => .nx σ1
  | .exc x σ1 => .exc x σ1
  | .stuck => .stuck
@[simp] theorem whK_t {n : Nat} : whK bd sd n (.ok true σ) = whK2 bd sd n (sd σ) := rfl
@[simp] theorem whK_f {n : Nat} : whK bd sd n (.ok false σ) = .nx σ := rfl
@[simp] theorem whK_exc {n : Nat} : whK bd sd n (.exc d σ) = .exc d σ := rfl
theorem whileD_k {n : Nat} : whileD bd sd (n + 1) σ = whK bd sd n (bd σ) := by
  conv => lhs; unfold whileD
  unfold whK whK2; rfl
def idLstK (r : Rz D) : Rz (List D) := match r with
  | .ok (.lst xs) σ1 => .ok xs σ1
  | .exc x σ1 => .exc x σ1
  | _ => .stuck
@[simp] theorem idLst_k : idLst da σ = idLstK (da σ) := rfl
@[simp] theorem idLstK_ok : idLstK (.ok (.lst ds) σ) = .ok ds σ := rfl
@[simp] theorem idLstK_exc : idLstK (.exc x σ) = .exc x σ := rfl
def idTupK (r : Rz D) : Rz (List D) := match r with
  | .ok (.tup xs) σ1 => .ok xs σ1
  | .exc x σ1 => .exc x σ1
  | _ => .stuck
@[simp] theorem idTup_k : idTup da σ = idTupK (da σ) := rfl
@[simp] theorem idTupK_ok : idTupK (.ok (.tup ds) σ) = .ok ds σ := rfl
@[simp] theorem idTupK_exc : idTupK (.exc x σ) = .exc x σ := rfl
def idScrK (r : Rz D) : Rz (List D) := match r with
  | .ok (.scr ns) σ1 => .ok (ns.map .int) σ1
  | .exc x σ1 => .exc x σ1
  | _ => .stuck
@[simp] theorem idScr_k : idScr da σ = idScrK (da σ) := rfl
@[simp] theorem idScrK_ok {ns : List Int} : idScrK (.ok (.scr ns) σ) = .ok (ns.map .int) σ := rfl
def idStrK (r : Rz D) : Rz (List D) := match r with
  | .ok (.str x) σ1 => .ok (x.cps.toList.map fun c => .str ⟨#[c]⟩) σ1
  | .exc x σ1 => .exc x σ1
  | _ => .stuck
@[simp] theorem idStr_k : idStr da σ = idStrK (da σ) := rfl
@[simp] theorem idStrK_ok {z : Str} : idStrK (.ok (.str z) σ) = .ok (z.cps.toList.map fun c => .str ⟨#[c]⟩) σ := rfl
def idRng1K (r : Rz (List D)) : Rz (List D) := match r with
  | .ok [.int j] σ1 => if smallI j then .ok (rangeD 0 j.toNat) σ1 else .stuck
  | .exc x σ1 => .exc x σ1
  | _ => .stuck
@[simp] theorem idRng1_k : idRng1 das σ = idRng1K (das σ) := rfl
@[simp] theorem idRng1K_ok {k : Int} : idRng1K (.ok [.int k] σ) = if smallI k then .ok (rangeD 0 k.toNat) σ else .stuck := rfl
def idRng2K (r : Rz (List D)) : Rz (List D) := match r with
  | .ok [.int i, .int j] σ1 => if smallI i && smallI j then .ok (rangeD i (j - i).toNat) σ1 else .stuck
  | .exc x σ1 => .exc x σ1
  | _ => .stuck
@[simp] theorem idRng2_k : idRng2 das σ = idRng2K (das σ) := rfl
@[simp] theorem idRng2K_ok {h k : Int} : idRng2K (.ok [.int h, .int k] σ) = if smallI h && smallI k then .ok (rangeD h (k - h).toNat) σ else .stuck := rfl
theorem smallI_of {k : Int} (h : -(2 ^ 62) ≤ k) (h2 : k < 2 ^ 62) : smallI k = true := by
  unfold smallI; exact decide_eq_true ⟨h, h2⟩
theorem rangeD_succ {lo : Int} {n : Nat} : rangeD lo (n + 1) = .int lo :: rangeD (lo + 1) n := by
  unfold rangeD
  rw [List.range_succ_eq_map, List.map_cons, List.map_map]
  congr 1
  · simp
  · apply List.map_congr_left
    intro a _
    simp
    omega
@[simp] theorem rangeD_zero {lo : Int} : rangeD lo 0 = [] := rfl
/-! comprehensions -/
@[simp] theorem bTrue_k : bTrue σ = .ok true σ := rfl
def lcK2 (bind : GDen) (bd : BDen) (de : Den) (vs : List Nat) (ds acc : List D) (r : Rz D) : Rz (List D) := match r with
  | .ok y σ3 => if acc.length < sizeLine then lcD bind bd de vs ds (acc ++ [y]) (wipeD σ3 vs) else .stuck
  | _ => .stuck
@[simp] theorem lcK2_ok {acc : List D} : lcK2 bind bd de vs ds acc (.ok d σ) = if acc.length < sizeLine then lcD bind bd de vs ds (acc ++ [d]) (wipeD σ vs) else .stuck := rfl
def lcK1 (bind : GDen) (bd : BDen) (de : Den) (vs : List Nat) (ds acc : List D) (r : Rz Bool) : Rz (List D) := match r with
  | .ok true σ2 => lcK2 bind bd de vs ds acc (de σ2)
  | .ok false σ2 => lcD bind bd de vs ds acc (wipeD σ2 vs)
  | _ => .stuck
@[simp] theorem lcK1_t {acc : List D} : lcK1 bind bd de vs ds acc (.ok true σ) = lcK2 bind bd de vs ds acc (de σ) := rfl
@[simp] theorem lcK1_f {acc : List D} : lcK1 bind bd de vs ds acc (.ok false σ) = lcD bind bd de vs ds acc (wipeD σ vs) := rfl
def lcK0 (bind : GDen) (bd : BDen) (de : Den) (vs : List Nat) (ds acc : List D) (r : Option Stt) : Rz (List D) := match r with
  | none => .stuck
  | some σ1 => lcK1 bind bd de vs ds acc (bd σ1)
@[simp] theorem lcK0_s {acc : List D} : lcK0 bind bd de vs ds acc (some σ) = lcK1 bind bd de vs ds acc (bd σ) := rfl
@[simp] theorem lcD_nil {acc : List D} : lcD bind bd de vs [] acc σ = .ok acc σ := rfl
theorem lcD_cons {acc : List D} : lcD bind bd de vs (d :: ds) acc σ = lcK0 bind bd de vs ds acc (bind d σ) := by
  conv => lhs; unfold lcD
  unfold lcK0 lcK1 lcK2; rfl
def dLcK2 (σ1 : Stt) (vs : List Nat) (r : Rz (List D)) : Rz D := match r with
  | .ok acc σ2 => .ok (.lst acc) (resto σ1 σ2 vs)
  | _ => .stuck
@[simp] theorem dLcK2_ok : dLcK2 σ1 vs (.ok ds σ) = .ok (.lst ds) (resto σ1 σ vs) := rfl
def dLcK (r : Rz (List D)) (bind : GDen) (bd : BDen) (de : Den) (vs : List Nat) : Rz D := match r with
  | .ok items σ1 => dLcK2 σ1 vs (lcD bind bd de vs items [] (wipeD σ1 vs))
  | .exc x σ1 => .exc x σ1
  | .stuck => .stuck
@[simp] theorem dLc_k : dLc iden bind bd de vs σ = dLcK (iden σ) bind bd de vs := by
  unfold dLc dLcK dLcK2; rfl
@[simp] theorem dLcK_ok : dLcK (.ok items σ) bind bd de vs = dLcK2 σ vs (lcD bind bd de vs items [] (wipeD σ vs)) := rfl
@[simp] theorem dLcK_exc : dLcK (.exc x σ) bind bd de vs = .exc x σ := rfl
@[simp] theorem wipeD_nil : wipeD σ [] = σ := rfl
@[simp] theorem wipeD_cons : wipeD σ (i :: vs) = (wipeD σ vs).set i none := rfl
@[simp] theorem resto_nil : resto σ1 σ [] = σ := rfl
@[simp] theorem resto_cons : resto σ1 σ (i :: vs) = (resto σ1 σ vs).set i (σ1.getD i none) := rfl
/-! calls -/
def frK (r : FR) (σ : Stt) : Rz D := match r with
  | .ret d _ => .ok d σ
  | .exc x _ => .exc x σ
  | .stuck => .stuck
@[simp] theorem frK_ret : frK (.ret d o) σ = .ok d σ := rfl
@[simp] theorem frK_exc : frK (.exc d o) σ = .exc d σ := rfl
def dCallK2 (cd : List D → List D → FR) (ds : List D) (r : Rz (List D)) : Rz D := match r with
  | .ok es σ2 => frK (cd ds es) σ2
  | .exc x σ2 => .exc x σ2
  | .stuck => .stuck
@[simp] theorem dCallK2_ok : dCallK2 cd ds (.ok es σ) = frK (cd ds es) σ := rfl
@[simp] theorem dCallK2_exc : dCallK2 cd ds (.exc x σ) = .exc x σ := rfl
def dCallK (cd : List D → List D → FR) (r : Rz (List D)) (dks : ADen) : Rz D := match r with
  | .ok ds σ1 => dCallK2 cd ds (dks σ1)
  | .exc x σ1 => .exc x σ1
  | .stuck => .stuck
@[simp] theorem dCall_k : dCall cd das dks σ = dCallK cd (das σ) dks := by
  unfold dCall dCallK dCallK2 frK; rfl
@[simp] theorem dCallK_ok : dCallK cd (.ok ds σ) dks = dCallK2 cd ds (dks σ) := rfl
@[simp] theorem dCallK_exc : dCallK cd (.exc x σ) dks = .exc x σ := rfl
def frIK (j : Nat) (r : FR) (σ : Stt) : Rz D := match r with
  | .ret d o => .ok d (σ.set j (some o))
  | .exc x o => .exc x (σ.set j (some o))
  | .stuck => .stuck
@[simp] theorem frIK_ret : frIK j (.ret d o) σ = .ok d (σ.set j (some o)) := rfl
@[simp] theorem frIK_exc : frIK j (.exc d o) σ = .exc d (σ.set j (some o)) := rfl
def dCallIK3 (j : Nat) (cd : D → List D → List D → FR) (ds es : List D) (r : Option (Option D)) (σ : Stt) : Rz D := match r with
  | some (some d0) => frIK j (cd d0 ds es) σ
  | _ => .stuck
@[simp] theorem dCallIK3_s : dCallIK3 j cd1 ds es (some (some d)) σ = frIK j (cd1 d ds es) σ := rfl
def dCallIK2 (j : Nat) (cd : D → List D → List D → FR) (ds : List D) (r : Rz (List D)) : Rz D := match r with
  | .ok es σ2 => dCallIK3 j cd ds es σ2[j]? σ2
  | .exc x σ2 => .exc x σ2
  | .stuck => .stuck
@[simp] theorem dCallIK2_ok : dCallIK2 j cd1 ds (.ok es σ) = dCallIK3 j cd1 ds es σ[j]? σ := rfl
@[simp] theorem dCallIK2_exc : dCallIK2 j cd1 ds (.exc x σ) = .exc x σ := rfl
def dCallIK (j : Nat) (cd : D → List D → List D → FR) (r : Rz (List D)) (dks : ADen) : Rz D := match r with
  | .ok ds σ1 => dCallIK2 j cd ds (dks σ1)
  | .exc x σ1 => .exc x σ1
  | .stuck => .stuck
@[simp] theorem dCallIK_ok : dCallIK j cd1 (.ok ds σ) dks = dCallIK2 j cd1 ds (dks σ) := rfl
@[simp] theorem dCallIK_exc : dCallIK j cd1 (.exc x σ) dks = .exc x σ := rfl
theorem dCallI_k : dCallI j cd1 das dks σ = dCallIK j cd1 (das σ) dks := by
  unfold dCallI dCallIK dCallIK2 dCallIK3 frIK; rfl
def dCallMK (j : Nat) (cd : D → List D → List D → FR) (das dks : ADen) (r : Option (Option D)) (σ : Stt) : Rz D := match r with
  | some (some _) => dCallIK j cd (das σ) dks
  | _ => .stuck
@[simp] theorem dCallM_k : dCallM j cd1 das dks σ = dCallMK j cd1 das dks σ[j]? σ := by
  unfold dCallM dCallMK
  simp only [dCallI_k]
  all_goals rfl
@[simp] theorem dCallMK_s : dCallMK j cd1 das dks (some (some d)) σ = dCallIK j cd1 (das σ) dks := rfl
def dCallOK (L Ci mi j : Nat) (cd : D → List D → List D → FR) (das dks : ADen) (r : Option (Option D)) (σ : Stt) : Rz D := match r with
  | some (some d) => if recvOk L Ci mi d then dCallIK j cd (das σ) dks else .stuck
  | _ => .stuck
@[simp] theorem dCallO_k {L Ci mi : Nat} : dCallO L Ci mi j cd1 das dks σ = dCallOK L Ci mi j cd1 das dks σ[j]? σ := by
  unfold dCallO dCallOK
  simp only [dCallI_k]
  all_goals rfl
theorem dCallOK_s {L Ci mi : Nat} (h : recvOk L Ci mi d = true) : dCallOK L Ci mi j cd1 das dks (some (some d)) σ = dCallIK j cd1 (das σ) dks := by
  unfold dCallOK; simp only [h, if_true]
def dMethFK (L Ci mi : Nat) (cd : List D → List D → FR) (r : Rz D) (das dks : ADen) : Rz D := match r with
  | .ok d σ0 => if recvOk L Ci mi d then dCallK (fun ds es => cd (d :: ds) es) (das σ0) dks else .stuck
  | .exc x σ0 => .exc x σ0
  | .stuck => .stuck
@[simp] theorem dMethF_k {L Ci mi : Nat} : dMethF L Ci mi cd d0 das dks σ = dMethFK L Ci mi cd (d0 σ) das dks := by
  unfold dMethF dMethFK
  simp only [dCall_k]
  all_goals rfl
theorem dMethFK_ok {L Ci mi : Nat} (h : recvOk L Ci mi d = true) : dMethFK L Ci mi cd (.ok d σ) das dks = dCallK (fun ds es => cd (d :: ds) es) (das σ) dks := by
  unfold dMethFK; simp only [h, if_true]
def frMK (r : FR) (σ : Stt) : Rz D := match r with
  | .ret .non o => .ok o σ
  | .exc x _ => .exc x σ
  | _ => .stuck
@[simp] theorem frMK_ret : frMK (.ret .non o) σ = .ok o σ := rfl
@[simp] theorem frMK_exc : frMK (.exc d o) σ = .exc d σ := rfl
def dMakeK2 (cd : List D → List D → FR) (ds : List D) (r : Rz (List D)) : Rz D := match r with
  | .ok es σ2 => frMK (cd ds es) σ2
  | .exc x σ2 => .exc x σ2
  | .stuck => .stuck
@[simp] theorem dMakeK2_ok : dMakeK2 cd ds (.ok es σ) = frMK (cd ds es) σ := rfl
@[simp] theorem dMakeK2_exc : dMakeK2 cd ds (.exc x σ) = .exc x σ := rfl
def dMakeK (cd : List D → List D → FR) (r : Rz (List D)) (dks : ADen) : Rz D := match r with
  | .ok ds σ1 => dMakeK2 cd ds (dks σ1)
  | .exc x σ1 => .exc x σ1
  | .stuck => .stuck
@[simp] theorem dMake_k : dMake cd das dks σ = dMakeK cd (das σ) dks := by
  unfold dMake dMakeK dMakeK2 frMK; rfl
@[simp] theorem dMakeK_ok : dMakeK cd (.ok ds σ) dks = dMakeK2 cd ds (dks σ) := rfl
@[simp] theorem dMakeK_exc : dMakeK cd (.exc x σ) dks = .exc x σ := rfl
@[simp] theorem callD_k {n m np : Nat} {src : List Nat} {dds : List D} {fd : FDen} : callD n m np src dds fd ds es = if ds.length = n ∧ es.length = m ∧ (sel src (ds ++ es ++ dds)).length = np then fd (sel src (ds ++ es ++ dds)) else .stuck := rfl
@[simp] theorem callD1_k {n m np : Nat} {src : List Nat} {dds : List D} {fd : FDen} : callD1 n m np src dds fd d ds es = if ds.length = n ∧ es.length = m ∧ (sel src (ds ++ es ++ dds)).length + 1 = np then fd (d :: sel src (ds ++ es ++ dds)) else .stuck := rfl
@[simp] theorem sel_nil {α : Type} {xs : List α} : sel [] xs = [] := rfl
def selK {α : Type} (r : Option α) (l : List α) : List α := match r with
  | some x => x :: l
  | none => l
@[simp] theorem selK_s {α : Type} {y : α} {l : List α} : selK (some y) l = y :: l := rfl
@[simp] theorem sel_cons {α : Type} {xs : List α} : sel (i :: vs) xs = selK xs[i]? (sel vs xs) := by
  unfold sel selK
  rw [List.filterMap_cons]
  cases xs[i]? <;> rfl
/-! defs -/
def outK (m : Option Sh) (r : RS) : FR := match r with
  | .nx σ => outD m σ (.ret .non)
  | .ret d σ => outD m σ (.ret d)
  | .exc x σ => outD m σ (.exc x)
  | _ => .stuck
@[simp] theorem fdOf_k {N : Nat} : fdOf N m sd ds = outK m (sd (startD N ds)) := rfl
@[simp] theorem outK_nx0 : outK none (.nx σ) = .ret .non .non := rfl
@[simp] theorem outK_ret0 : outK none (.ret d σ) = .ret d .non := rfl
@[simp] theorem outK_exc0 : outK none (.exc d σ) = .exc d .non := rfl
@[simp] theorem outK_nx1 {s : Sh} : outK (some s) (.nx (some d :: σ)) = .ret .non d := rfl
@[simp] theorem outK_ret1 {s : Sh} : outK (some s) (.ret x (some d :: σ)) = .ret x d := rfl
@[simp] theorem outK_exc1 {s : Sh} : outK (some s) (.exc x (some d :: σ)) = .exc x d := rfl
@[simp] theorem startD_k {N : Nat} : startD N ds = ds.map some ++ List.replicate (N - ds.length) none := rfl
/-! errors -/
def sRaiseK (Ci : Nat) (fks : List Nat) (r : Rz (List D)) : RS := match r with
  | .ok ds σ1 => if ds.length = fks.length then .exc (.exc Ci (fks.zip ds)) σ1 else .stuck
  | .exc x σ1 => .exc x σ1
  | .stuck => .stuck
@[simp] theorem sRaise_k : sRaise i vs das σ = sRaiseK i vs (das σ) := rfl
@[simp] theorem sRaiseK_ok : sRaiseK i vs (.ok ds σ) = if ds.length = vs.length then .exc (.exc i (vs.zip ds)) σ else .stuck := rfl
@[simp] theorem sRaiseK_exc : sRaiseK i vs (.exc d σ) = .exc d σ := rfl
def sTryK (hds : List HD) (r : RS) : RS := match r with
  | .exc x σ1 => handleD hds x σ1
  | r => r
variable {hds : List HD}
@[simp] theorem sTry_k : sTry sd hds σ = sTryK hds (sd σ) := rfl
@[simp] theorem sTryK_exc : sTryK hds (.exc x σ) = handleD hds x σ := rfl
@[simp] theorem sTryK_nx : sTryK hds (.nx σ) = .nx σ := rfl
@[simp] theorem sTryK_ret : sTryK hds (.ret x σ) = .ret x σ := rfl
@[simp] theorem sTryK_brk : sTryK hds (.brk σ) = .brk σ := rfl
@[simp] theorem sTryK_ct : sTryK hds (.ct σ) = .ct σ := rfl
def hdlK2 (o : Option Nat) (r : RS) : RS := match r with
  | .exc _ _ => .stuck
  | q => wkeep o q
@[simp] theorem hdlK2_nx {o : Option Nat} : hdlK2 o (.nx σ) = wkeep o (.nx σ) := rfl
@[simp] theorem hdlK2_ret {o : Option Nat} : hdlK2 o (.ret d σ) = wkeep o (.ret d σ) := rfl
@[simp] theorem hdlK2_brk {o : Option Nat} : hdlK2 o (.brk σ) = wkeep o (.brk σ) := rfl
@[simp] theorem hdlK2_ct {o : Option Nat} : hdlK2 o (.ct σ) = wkeep o (.ct σ) := rfl
def hdlK (h : HD) (r : List HD) (Cx : Nat) (fs : List (Nat × D)) (σ : Stt) (t : Option Bool) : RS := match t with
  | some true => hdlK2 h.o (h.sd (.exc Cx fs) (clr h.o σ))
  | some false => handleD r (.exc Cx fs) σ
  | none => .stuck
@[simp] theorem hdlK_t {tab : Nat → Option Bool} {oo : Option Nat} {sf : D → SDen} {fs : List (Nat × D)} : hdlK ⟨tab, oo, sf⟩ hds i fs σ (some true) = hdlK2 oo (sf (.exc i fs) (clr oo σ)) := rfl
@[simp] theorem hdlK_f {h : HD} {fs : List (Nat × D)} : hdlK h hds i fs σ (some false) = handleD hds (.exc i fs) σ := rfl
@[simp] theorem handleD_nil : handleD [] x σ = .exc x σ := rfl
@[simp] theorem handleD_cons {tab : Nat → Option Bool} {oo : Option Nat} {sf : D → SDen} {fs : List (Nat × D)} : handleD (⟨tab, oo, sf⟩ :: hds) (.exc i fs) σ = hdlK ⟨tab, oo, sf⟩ hds i fs σ (tab i) := by
  conv => lhs; unfold handleD
  unfold hdlK hdlK2
  dsimp only
  all_goals (cases tab i <;> first | rfl | (rename_i b; cases b <;> rfl))
@[simp] theorem clr_n : clr none σ = σ := rfl
@[simp] theorem clr_s : clr (some i) σ = σ.set i none := rfl
@[simp] theorem wkeep_n {r : RS} : wkeep none r = r := rfl
@[simp] theorem wkeep_nx : wkeep (some i) (.nx σ) = .nx (σ.set i none) := rfl
@[simp] theorem wkeep_brk : wkeep (some i) (.brk σ) = .brk (σ.set i none) := rfl
@[simp] theorem wkeep_ct : wkeep (some i) (.ct σ) = .ct (σ.set i none) := rfl
@[simp] theorem wkeep_ret : wkeep (some i) (.ret d σ) = .ret d σ := rfl
@[simp] theorem dErr_k {L k : Nat} {fs : List (Nat × D)} : dErr L vs k (.exc i fs) σ = if vs.any (Nat.beq i) && fldOk L fs then optK (fldGet k fs) σ else .stuck := by
  unfold dErr optK; rfl
/-! fields -/
@[simp] theorem fldGet_nil {k : Nat} : fldGet k [] = none := rfl
@[simp] theorem fldGet_cons {k : Nat} {r : List (Nat × D)} : fldGet k ((i, d) :: r) = if Nat.beq i k then some d else fldGet k r := rfl
@[simp] theorem fldPut_nil {k : Nat} : fldPut k d [] = [(k, d)] := rfl
@[simp] theorem fldPut_cons {k : Nat} {r : List (Nat × D)} : fldPut k d ((i, x) :: r) = if Nat.beq i k then (i, d) :: r else (i, x) :: fldPut k d r := rfl
@[simp] theorem fldOk_nil {L : Nat} : fldOk L [] = true := rfl
@[simp] theorem fldOk_cons {L : Nat} {r : List (Nat × D)} : fldOk L ((i, d) :: r) = (Nat.blt i L && fldOk L r) := rfl
@[simp] theorem fFld_k {L k C : Nat} {fs : List (Nat × D)} : fFld L vs k [.obj C fs] = if vs.any (Nat.beq C) && fldOk L fs then fldGet k fs else none := rfl
def sFldK2 (i L : Nat) (cls : List Nat) (k : Nat) (d : D) (r : Option (Option D)) (σ1 : Stt) : RS := match r with
  | some (some (.obj Cl fs)) => if cls.any (Nat.beq Cl) && fldOk L fs && Nat.blt fs.length 1000 then .nx (σ1.set i (some (.obj Cl (fldPut k d fs)))) else .stuck
  | _ => .stuck
@[simp] theorem sFldK2_s {L k C : Nat} {fs : List (Nat × D)} : sFldK2 i L vs k d (some (some (.obj C fs))) σ = if vs.any (Nat.beq C) && fldOk L fs && Nat.blt fs.length 1000 then .nx (σ.set i (some (.obj C (fldPut k d fs)))) else .stuck := rfl
def sFldK (i L : Nat) (cls : List Nat) (k : Nat) (r : Rz D) : RS := match r with
  | .ok d σ1 => sFldK2 i L cls k d σ1[i]? σ1
  | .exc x σ1 => .exc x σ1
  | .stuck => .stuck
@[simp] theorem sFldD_k {L k : Nat} : sFldD i L vs k da σ = sFldK i L vs k (da σ) := by
  unfold sFldD sFldK sFldK2; rfl
@[simp] theorem sFldK_ok {L k : Nat} : sFldK i L vs k (.ok d σ) = sFldK2 i L vs k d σ[i]? σ := rfl
@[simp] theorem sFldK_exc {L k : Nat} : sFldK i L vs k (.exc d σ) = .exc d σ := rfl
@[simp] theorem recvOk_k {L Ci mi C : Nat} {fs : List (Nat × D)} : recvOk L Ci mi (.obj C fs) = (Nat.beq C Ci && fldOk L fs && (fldGet mi fs).isNone) := rfl
/-! texts -/
def dFmtK (r : Rz D) : Rz D := match r with
  | .ok (.str y) σ1 => if y.length ≤ sizeLine then .ok (.str y) σ1 else .stuck
  | .ok (.int i) σ1 => if i.natAbs < 2 ^ 1900 then .ok (.str (toString i : String)) σ1 else .stuck
  | .exc x σ1 => .exc x σ1
  | _ => .stuck
@[simp] theorem dFmt_k : dFmt da σ = dFmtK (da σ) := rfl
@[simp] theorem dFmtK_str {y : Str} : dFmtK (.ok (.str y) σ) = if y.length ≤ sizeLine then .ok (.str y) σ else .stuck := rfl
@[simp] theorem dFmtK_int {k : Int} : dFmtK (.ok (.int k) σ) = if k.natAbs < 2 ^ 1900 then .ok (.str (toString k : String)) σ else .stuck := rfl
def dJoinK (acc : Str) (r : Rz D) (ds : List Den) : Rz D := match r with
  | .ok (.str y) σ1 => if (acc ++ y).length ≤ sizeLine then dJoin ds (acc ++ y) σ1 else .stuck
  | .exc x σ1 => .exc x σ1
  | _ => .stuck
@[simp] theorem dJoin_nil {acc : Str} : dJoin [] acc σ = .ok (.str acc) σ := rfl
@[simp] theorem dJoin_cons {acc : Str} {l : List Den} : dJoin (da :: l) acc σ = dJoinK acc (da σ) l := by
  conv => lhs; unfold dJoin
  unfold dJoinK; rfl
@[simp] theorem dJoinK_ok {acc y : Str} {l : List Den} : dJoinK acc (.ok (.str y) σ) l = if (acc ++ y).length ≤ sizeLine then dJoin l (acc ++ y) σ else .stuck := rfl
def dM1K2 (f : List D → Option D) (x : Str) (r : Rz D) : Rz D := match r with
  | .ok y σ2 => optK (f [.str x, y]) σ2
  | .exc x σ2 => .exc x σ2
  | .stuck => .stuck
@[simp] theorem dM1K2_ok {z : Str} : dM1K2 f z (.ok d σ) = optK (f [.str z, d]) σ := rfl
def dM1K (f : List D → Option D) (r : Rz D) (db : Den) : Rz D := match r with
  | .ok (.str x) σ1 => dM1K2 f x (db σ1)
  | .exc x σ1 => .exc x σ1
  | _ => .stuck
@[simp] theorem dM1_k : dM1 f da db σ = dM1K f (da σ) db := by
  unfold dM1 dM1K dM1K2 optK; rfl
@[simp] theorem dM1K_ok {z : Str} : dM1K f (.ok (.str z) σ) db = dM1K2 f z (db σ) := rfl
/-! slices -/
@[simp] theorem oNone_k : oNone σ = .ok none σ := rfl
def oSomeK (r : Rz D) : Rz (Option Int) := match r with
  | .ok (.int i) σ1 => .ok (some i) σ1
  | .exc x σ1 => .exc x σ1
  | _ => .stuck
@[simp] theorem oSome_k : oSome da σ = oSomeK (da σ) := rfl
@[simp] theorem oSomeK_ok {k : Int} : oSomeK (.ok (.int k) σ) = .ok (some k) σ := rfl
variable {g : D → Option Int → Option Int → Option D} {ol oh : ODen}
def dSlK3 (g : D → Option Int → Option Int → Option D) (d : D) (lo : Option Int) (r : Rz (Option Int)) : Rz D := match r with
  | .ok hi σ3 => optK (g d lo hi) σ3
  | .exc x σ3 => .exc x σ3
  | .stuck => .stuck
@[simp] theorem dSlK3_ok {lo hi : Option Int} : dSlK3 g d lo (.ok hi σ) = optK (g d lo hi) σ := rfl
def dSlK2 (g : D → Option Int → Option Int → Option D) (d : D) (r : Rz (Option Int)) (oh : ODen) : Rz D := match r with
  | .ok lo σ2 => dSlK3 g d lo (oh σ2)
  | .exc x σ3 => .exc x σ3
  | .stuck => .stuck
@[simp] theorem dSlK2_ok {lo : Option Int} : dSlK2 g d (.ok lo σ) oh = dSlK3 g d lo (oh σ) := rfl
def dSlK (g : D → Option Int → Option Int → Option D) (r : Rz D) (ol oh : ODen) : Rz D := match r with
  | .ok d σ1 => dSlK2 g d (ol σ1) oh
  | .exc x σ3 => .exc x σ3
  | .stuck => .stuck
@[simp] theorem dSl_k : dSl g da ol oh σ = dSlK g (da σ) ol oh := by
  unfold dSl dSlK dSlK2 dSlK3 optK; rfl
@[simp] theorem dSlK_ok : dSlK g (.ok d σ) ol oh = dSlK2 g d (ol σ) oh := rfl
@[simp] theorem fSlL_lst {lo hi : Option Int} : fSlL (.lst ds) lo hi = some (.lst (cutG ds lo hi)) := rfl
@[simp] theorem fSlL_scr {ns : List Int} {lo hi : Option Int} : fSlL (.scr ns) lo hi = some (.lst ((cutG ns lo hi).map .int)) := rfl
@[simp] theorem fSlS_str {z : Str} {lo hi : Option Int} : fSlS (.str z) lo hi = if z.length ≤ sizeLine then some (.str (cutS z lo hi)) else none := rfl
@[simp] theorem dDict1_k {k : Str} : dDict1 k d σ = .ok (.dk [(.inr k, d)]) σ := rfl
/-! operators -/
@[simp] theorem fTup_k : fTup ds = if ds.length ≤ sizeLine then some (.tup ds) else none := rfl
@[simp] theorem fLst_k : fLst ds = if ds.length ≤ sizeLine then some (.lst ds) else none := rfl
variable {a b : Int}
@[simp] theorem fII_k {h : Int → Int → Option D} : fII h [.int a, .int b] = h a b := rfl
@[simp] theorem fI_k {h : Int → Option D} : fI h [.int a] = h a := rfl
@[simp] theorem iAdd_k : iAdd a b = some (.int (a + b)) := rfl
@[simp] theorem iSub_k : iSub a b = some (.int (a - b)) := rfl
@[simp] theorem iMul_k : iMul a b = if mulOk a b then some (.int (a * b)) else none := rfl
@[simp] theorem iDiv_k : iDiv a b = if divOk b then some (.int (a / b)) else none := rfl
@[simp] theorem iMod_k : iMod a b = if 0 < b then some (.int (a % b)) else none := rfl
@[simp] theorem iPow_k : iPow a b = if powOk a b then some (.int (a ^ b.toNat)) else none := rfl
@[simp] theorem iShl_k : iShl a b = if powOk a b then some (.int (a * 2 ^ b.toNat)) else none := rfl
@[simp] theorem iShr_k : iShr a b = if 0 ≤ b then some (.int (a / 2 ^ b.toNat)) else none := rfl
@[simp] theorem iLt_k : iLt a b = some (.bl (decide (a < b))) := rfl
@[simp] theorem iLe_k : iLe a b = some (.bl (decide (a ≤ b))) := rfl
@[simp] theorem iGt_k : iGt a b = some (.bl (decide (b < a))) := rfl
@[simp] theorem iGe_k : iGe a b = some (.bl (decide (b ≤ a))) := rfl
@[simp] theorem iNeg_k : iNeg a = some (.int (-a)) := rfl
@[simp] theorem iAbs_k : iAbs a = some (.int (if a < 0 then -a else a)) := rfl
@[simp] theorem fIx_lst : fIx [.lst ds, .int a] = atI ds a := rfl
@[simp] theorem fIx_tup : fIx [.tup ds, .int a] = atI ds a := rfl
@[simp] theorem fIx_str {z : Str} : fIx [.str z, .int a] = if z.length ≤ sizeLine then (atI z.cps.toList a).map fun c => .str ⟨#[c]⟩ else none := rfl
@[simp] theorem fLen_lst : fLen [.lst ds] = some (.int ds.length) := rfl
@[simp] theorem fLen_tup : fLen [.tup ds] = some (.int ds.length) := rfl
@[simp] theorem fLen_str {z : Str} : fLen [.str z] = if z.length ≤ sizeLine then some (.int z.length) else none := rfl
@[simp] theorem fInt1_int : fInt1 [.int a] = some (.int a) := rfl
@[simp] theorem fInt1_bl {b : Bool} : fInt1 [.bl b] = some (.int (if b then 1 else 0)) := rfl
@[simp] theorem fInt1_str {z : Str} : fInt1 [.str z] = if z.length ≤ 640 then (PySem.intText? z).map .int else none := rfl
@[simp] theorem fStrI_int : fStrI [.int a] = if a.natAbs < 2 ^ 1900 then some (.str (toString a : String)) else none := rfl
@[simp] theorem fCat_k {y z : Str} : fCat [.str y, .str z] = if y.length + z.length ≤ sizeLine then some (.str (y ++ z)) else none := rfl
@[simp] theorem fCatL_k : fCatL [.lst ds, .lst es] = if ds.length + es.length ≤ sizeLine then some (.lst (ds ++ es)) else none := rfl
@[simp] theorem fRep_k : fRep [.lst ds, .int a] = if -(2 ^ 63) ≤ a ∧ a < 2 ^ 63 ∧ ds.length * a.toNat ≤ sizeLine then some (.lst (List.replicate a.toNat ds).flatten) else none := rfl
@[simp] theorem fBits_k : fBits [.int a] = some (.int (Builtin.Int.intBits a : Nat)) := rfl
@[simp] theorem fSplit_k {y z : Str} : fSplit [.str y, .str z] = if (z.length == 0) = false ∧ y.length + 2 ≤ sizeLine then some (.lst ((Txt.split y z).map .str)) else none := rfl
@[simp] theorem fListOf_lst : fListOf [.lst ds] = some (.lst ds) := rfl
@[simp] theorem fListOf_tup : fListOf [.tup ds] = some (.lst ds) := rfl
@[simp] theorem fIsN_k : fIsN [d, .non] = some (.bl (isNonD d)) := rfl
@[simp] theorem fNotN_k : fNotN [d, .non] = some (.bl (!isNonD d)) := rfl
@[simp] theorem isNonD_non : isNonD .non = true := rfl
@[simp] theorem isNonD_int : isNonD (.int a) = false := rfl
@[simp] theorem isNonD_str {z : Str} : isNonD (.str z) = false := rfl
@[simp] theorem isNonD_lst : isNonD (.lst ds) = false := rfl
@[simp] theorem isNonD_tup : isNonD (.tup ds) = false := rfl
@[simp] theorem isNonD_bl {b : Bool} : isNonD (.bl b) = false := rfl
@[simp] theorem isNonD_obj {C : Nat} {fs : List (Nat × D)} : isNonD (.obj C fs) = false := rfl
/-! equality -/
@[simp] theorem scal_int : scal (.int a) (.int b) = true := rfl
@[simp] theorem scal_bl {b c : Bool} : scal (.bl b) (.bl c) = true := rfl
@[simp] theorem eqI : fEq [.int a, .int b] = some (.bl (decide (a = b))) := by
  simp [fEq, eqD, scV]
@[simp] theorem neI : fNe [.int a, .int b] = some (.bl (!decide (a = b))) := by
  simp [fNe, eqD, scV]
@[simp] theorem eqB {b c : Bool} : fEq [.bl b, .bl c] = some (.bl (decide (b = c))) := by
  simp [fEq, eqD, scV]
@[simp] theorem neB {b c : Bool} : fNe [.bl b, .bl c] = some (.bl (!decide (b = c))) := by
  simp [fNe, eqD, scV]
theorem mulOk_l (h : a.natAbs < 2 ^ 64) : mulOk a b = true := by
  unfold mulOk
  rw [decide_eq_true h]; rfl
theorem mulOk_r (h : b.natAbs < 2 ^ 64) : mulOk a b = true := by
  unfold mulOk
  rw [decide_eq_true h, Bool.or_true]; rfl
theorem mulOk_of (ha : a.natAbs < 2 ^ 400000) (hb : b.natAbs < 2 ^ 400000) : mulOk a b = true := by
  unfold mulOk
  simp only [Bool.or_eq_true, decide_eq_true_eq]
  exact .inr ⟨ha, hb⟩
theorem divOk_of (h : 0 < a) (h2 : a < 2 ^ 8000) : divOk a = true := by
  unfold divOk
  exact decide_eq_true ⟨h, h2⟩
theorem powOk_of (h : 0 ≤ b) (h1 : b ≤ 1000000) (h2 : a.natAbs < 2 ^ 64) : powOk a b = true := by
  unfold powOk
  exact decide_eq_true ⟨h, h1, h2⟩
theorem fOr_l {f' : List D → Option D} (h : f ds = some d) : fOr f f' ds = some d := by
  unfold fOr; rw [h]
theorem fOr_r {f' : List D → Option D} (h : f ds = none) : fOr f f' ds = f' ds := by
  unfold fOr; rw [h]
end
end Pt
set_option maxRecDepth 100000
set_option maxHeartbeats 1000000
namespace Pt
open PySem PySem.Spec L2
theorem ixN_nat {L n : Nat} : ixN L (n : Int) = if n < L then some n else none := by
  unfold ixN
  rw [if_pos (by omega)]
  by_cases h : n < L
  · rw [if_pos (by omega), if_pos h, Int.toNat_natCast]
  · rw [if_neg (by omega), if_neg h]
@[simp] theorem ixN_lit {L n : Nat} : ixN L (no_index (OfNat.ofNat n)) = if n < L then some n else none := ixN_nat
theorem ixN_of {L : Nat} {k : Int} (h : 0 ≤ k) (h2 : k < L) : ixN L k = some k.toNat := by
  unfold ixN
  rw [if_pos h, if_pos h2]
theorem ixN_negnat {L n : Nat} (h : 0 < n) : ixN L (-(n : Int)) = if n ≤ L then some (L - n) else none := by
  unfold ixN
  rw [if_neg (by omega)]
  by_cases q : n ≤ L
  · rw [if_pos (by omega), if_pos q]
    congr 1
    omega
  · rw [if_neg (by omega), if_neg q]
section
variable {α : Type} {xs : List α}
theorem atI_nat {n : Nat} : atI xs (n : Int) = xs[n]? := by
  unfold atI
  rw [ixN_nat]
  by_cases h : n < xs.length
  · rw [if_pos h]; rfl
  · rw [if_neg h, List.getElem?_eq_none (by omega)]; rfl
@[simp] theorem atI_lit {n : Nat} : atI xs (no_index (OfNat.ofNat n)) = xs[n]? := atI_nat
theorem atI_of {k : Int} (h : 0 ≤ k) (h2 : k < xs.length) : atI xs k = xs[k.toNat]? := by
  unfold atI
  rw [ixN_of h h2]; rfl
@[simp] theorem atI_m1 : atI xs (-1) = xs.getLast? := by
  unfold atI
  rw [show (-1 : Int) = -((1 : Nat) : Int) from rfl, ixN_negnat (by omega), List.getLast?_eq_getElem?]
  by_cases h : 1 ≤ xs.length
  · rw [if_pos h]; rfl
  · have : xs = [] := List.length_eq_zero_iff.mp (by omega)
    subst this
    rfl
@[simp] theorem cutG_all : cutG xs none none = xs := by
  simp [cutG, HT.sIx]
theorem cutG_to_nat {n : Nat} : cutG xs none (some (n : Int)) = xs.take n := by
  simp only [cutG, HT.sIx_none, HT.sIx_nat, List.drop_zero, Nat.sub_zero]
  by_cases h : n ≤ xs.length
  · rw [Nat.min_eq_left h]
  · rw [Nat.min_eq_right (by omega), List.take_of_length_le (by omega), List.take_of_length_le (by omega)]
@[simp] theorem cutG_to {n : Nat} : cutG xs none (some (no_index (OfNat.ofNat n))) = xs.take n := cutG_to_nat
theorem cutG_from_nat {n : Nat} : cutG xs (some (n : Int)) none = xs.drop n := by
  simp only [cutG, HT.sIx_none, HT.sIx_nat]
  by_cases h : n ≤ xs.length
  · rw [Nat.min_eq_left h, List.take_of_length_le (by simp)]
  · rw [Nat.min_eq_right (by omega), List.drop_of_length_le (by omega), List.drop_of_length_le (by omega), List.take_nil]
@[simp] theorem cutG_from {n : Nat} : cutG xs (some (no_index (OfNat.ofNat n))) none = xs.drop n := cutG_from_nat
theorem cutG_mid_nat {n m : Nat} : cutG xs (some (n : Int)) (some (m : Int)) = (xs.take m).drop n := by
  simp only [cutG, HT.sIx_nat]
  rw [List.drop_take]
  by_cases h : n ≤ xs.length
  · rw [Nat.min_eq_left h]
    by_cases h2 : m ≤ xs.length
    · rw [Nat.min_eq_left h2]
    · have q : (xs.drop n).length = xs.length - n := List.length_drop
      rw [Nat.min_eq_right (by omega), List.take_of_length_le (i := xs.length - n) (by omega), List.take_of_length_le (i := m - n) (by omega)]
  · rw [Nat.min_eq_right (a := n) (by omega), List.drop_of_length_le (i := xs.length) (by omega), List.drop_of_length_le (i := n) (by omega), List.take_nil, List.take_nil]
end
/-! rows: a comprehension whose block leaves the state as it was -/
section
variable {bind : GDen} {bd : BDen} {de : Den} {vs : List Nat} {body : SDen}
theorem lcD_one {F : D → List D} : ∀ (ds acc : List D) (σ : Stt), (∀ d ∈ ds, lcD bind bd de vs [d] [] σ = .ok (F d) σ) → acc.length + ds.length ≤ sizeLine → lcD bind bd de vs ds acc σ = .ok (acc ++ ds.flatMap F) σ
  | [], acc, σ, _, _ => by simp
  | d :: ds, acc, σ, h, hl => by
    have h1 := h d List.mem_cons_self
    rw [lcD_cons] at h1 ⊢
    simp only [List.length_cons] at hl
    cases e1 : bind d σ with
    | none => rw [e1] at h1; cases h1
    | some σ1 =>
      rw [e1] at h1
      simp only [lcK0_s] at h1 ⊢
      cases e2 : bd σ1 with
      | exc x s => rw [e2] at h1; cases h1
      | stuck => rw [e2] at h1; cases h1
      | ok b σ2 =>
        rw [e2] at h1
        cases b with
        | false =>
          simp only [lcK1_f, lcD_nil, Rz.ok.injEq] at h1 ⊢
          rw [h1.2, lcD_one ds acc σ (fun d hd => h d (List.mem_cons_of_mem _ hd)) (by omega), List.flatMap_cons, ← h1.1, List.nil_append]
        | true =>
          simp only [lcK1_t] at h1 ⊢
          cases e3 : de σ2 with
          | exc x s => rw [e3] at h1; cases h1
          | stuck => rw [e3] at h1; cases h1
          | ok y σ3 =>
            rw [e3] at h1
            rw [lcK2_ok, if_pos (show ([] : List D).length < sizeLine by decide)] at h1
            simp only [lcD_nil, Rz.ok.injEq, List.nil_append] at h1
            rw [lcK2_ok, if_pos (by omega), h1.2, lcD_one ds (acc ++ [y]) σ (fun d hd => h d (List.mem_cons_of_mem _ hd)) (by simp; omega), List.flatMap_cons, ← h1.1, List.append_assoc]
theorem lcD_map' {α : Type} {e : α → D} {g : α → D} {ds : List α} {σ : Stt} (h : ∀ d ∈ ds, lcD bind bd de vs [e d] [] σ = .ok [g d] σ) (hl : ds.length ≤ sizeLine) : lcD bind bd de vs (ds.map e) [] σ = .ok (ds.map g) σ := by
  suffices ∀ acc, acc.length + ds.length ≤ sizeLine → lcD bind bd de vs (ds.map e) acc σ = .ok (acc ++ ds.map g) σ by simpa using this [] (by simpa using hl)
  clear hl
  induction ds with
  | nil => intro acc _; simp
  | cons d ds ih =>
    intro acc hl
    have h1 := lcD_one (F := fun _ => [g d]) [e d] acc σ (fun x hx => by
      have : x = e d := by simpa using hx
      subst this
      exact h d List.mem_cons_self) (by simp at hl ⊢; omega)
    have ih := ih (fun d hd => h d (List.mem_cons_of_mem _ hd)) (acc ++ [g d]) (by simp at hl ⊢; omega)
    rw [List.map_cons, lcD_cons]
    rw [lcD_cons] at h1
    cases e1 : bind (e d) σ with
    | none => rw [e1] at h1; cases h1
    | some σ1 =>
      rw [e1] at h1
      simp only [lcK0_s] at h1 ⊢
      cases e2 : bd σ1 with
      | exc x s => rw [e2] at h1; cases h1
      | stuck => rw [e2] at h1; cases h1
      | ok b σ2 =>
        rw [e2] at h1
        cases b with
        | false =>
          simp at h1
        | true =>
          simp only [lcK1_t] at h1 ⊢
          cases e3 : de σ2 with
          | exc x s => rw [e3] at h1; cases h1
          | stuck => rw [e3] at h1; cases h1
          | ok y σ3 =>
            rw [e3] at h1
            simp at hl
            rw [lcK2_ok, if_pos (by omega)] at h1
            simp at h1
            rw [lcK2_ok, if_pos (by omega), h1.1, h1.2, ih]
            simp
theorem lcD_map {g : D → D} {ds : List D} {σ : Stt} (h : ∀ d ∈ ds, lcD bind bd de vs [d] [] σ = .ok [g d] σ) (hl : ds.length ≤ sizeLine) : lcD bind bd de vs ds [] σ = .ok (ds.map g) σ := by
  have := lcD_map' (e := id) h hl
  rwa [List.map_id] at this
end
end Pt
set_option maxRecDepth 100000
set_option maxHeartbeats 1000000
namespace Pt
open PySem PySem.Spec L2
/-! ### == on trees -/
def b2i (b : Bool) : Int := if b then 1 else 0
mutual
def deqv : D → D → Bool
  | .non, .non => true
  | .bl a, .bl b => decide (a = b)
  | .bl a, .int j => decide (b2i a = j)
  | .int i, .bl b => decide (i = b2i b)
  | .int i, .int j => decide (i = j)
  | .str x, .str y => decide (x = y)
  | .lst xs, .lst ys => deqvs xs ys
  | .tup xs, .tup ys => deqvs xs ys
  | _, _ => false
def deqvs : List D → List D → Bool
  | [], [] => true
  | x :: xs, y :: ys => deqv x y && deqvs xs ys
  | _, _ => false
end
def okE : Nat → D → Bool
  | _, .non => true
  | _, .bl _ => true
  | _, .int _ => true
  | _, .str x => PyData.strOk x
  | k + 1, .lst xs => xs.all (okE k)
  | k + 1, .tup xs => xs.all (okE k)
  | _, _ => false
section
variable {a b : Int} {p q : Bool} {x y : Str} {d e : D} {xs ys : List D} {k : Nat}
@[simp] theorem deqv_nn : deqv .non .non = true := by simp [deqv]
@[simp] theorem deqv_bb : deqv (.bl p) (.bl q) = decide (p = q) := by simp [deqv]
@[simp] theorem deqv_ii : deqv (.int a) (.int b) = decide (a = b) := by simp [deqv]
@[simp] theorem deqv_bi : deqv (.bl p) (.int b) = decide (b2i p = b) := by simp [deqv]
@[simp] theorem deqv_ib : deqv (.int a) (.bl q) = decide (a = b2i q) := by simp [deqv]
@[simp] theorem deqv_ss : deqv (.str x) (.str y) = decide (x = y) := by simp [deqv]
@[simp] theorem deqv_ll : deqv (.lst xs) (.lst ys) = deqvs xs ys := by simp [deqv]
@[simp] theorem deqv_tt : deqv (.tup xs) (.tup ys) = deqvs xs ys := by simp [deqv]
@[simp] theorem deqv_lt : deqv (.lst xs) (.tup ys) = false := by simp [deqv]
@[simp] theorem deqv_tl : deqv (.tup xs) (.lst ys) = false := by simp [deqv]
@[simp] theorem deqv_ni : deqv .non (.int b) = false := by simp [deqv]
@[simp] theorem deqv_ns : deqv .non (.str y) = false := by simp [deqv]
@[simp] theorem deqv_nl : deqv .non (.lst ys) = false := by simp [deqv]
@[simp] theorem deqv_nt : deqv .non (.tup ys) = false := by simp [deqv]
@[simp] theorem deqv_nb : deqv .non (.bl q) = false := by simp [deqv]
@[simp] theorem deqv_in : deqv (.int a) .non = false := by simp [deqv]
@[simp] theorem deqv_sn : deqv (.str x) .non = false := by simp [deqv]
@[simp] theorem deqv_ln : deqv (.lst xs) .non = false := by simp [deqv]
@[simp] theorem deqv_tn : deqv (.tup xs) .non = false := by simp [deqv]
@[simp] theorem deqv_bn : deqv (.bl p) .non = false := by simp [deqv]
@[simp] theorem deqv_is : deqv (.int a) (.str y) = false := by simp [deqv]
@[simp] theorem deqv_si : deqv (.str x) (.int b) = false := by simp [deqv]
@[simp] theorem deqv_bs : deqv (.bl p) (.str y) = false := by simp [deqv]
@[simp] theorem deqv_sb : deqv (.str x) (.bl q) = false := by simp [deqv]
@[simp] theorem deqv_il : deqv (.int a) (.lst ys) = false := by simp [deqv]
@[simp] theorem deqv_it : deqv (.int a) (.tup ys) = false := by simp [deqv]
@[simp] theorem deqv_li : deqv (.lst xs) (.int b) = false := by simp [deqv]
@[simp] theorem deqv_ti : deqv (.tup xs) (.int b) = false := by simp [deqv]
@[simp] theorem deqv_bL : deqv (.bl p) (.lst ys) = false := by simp [deqv]
@[simp] theorem deqv_bT : deqv (.bl p) (.tup ys) = false := by simp [deqv]
@[simp] theorem deqv_lb : deqv (.lst xs) (.bl q) = false := by simp [deqv]
@[simp] theorem deqv_tb : deqv (.tup xs) (.bl q) = false := by simp [deqv]
@[simp] theorem deqv_sl : deqv (.str x) (.lst ys) = false := by simp [deqv]
@[simp] theorem deqv_st : deqv (.str x) (.tup ys) = false := by simp [deqv]
@[simp] theorem deqv_ls : deqv (.lst xs) (.str y) = false := by simp [deqv]
@[simp] theorem deqv_ts : deqv (.tup xs) (.str y) = false := by simp [deqv]
@[simp] theorem deqvs_nil : deqvs [] [] = true := by simp [deqvs]
@[simp] theorem deqvs_nc : deqvs [] (d :: ys) = false := by simp [deqvs]
@[simp] theorem deqvs_cn : deqvs (d :: xs) [] = false := by simp [deqvs]
@[simp] theorem deqvs_cons : deqvs (d :: xs) (e :: ys) = (deqv d e && deqvs xs ys) := by simp [deqvs]
@[simp] theorem okE_n : okE k .non = true := by cases k <;> rfl
@[simp] theorem okE_b : okE k (.bl p) = true := by cases k <;> rfl
@[simp] theorem okE_i : okE k (.int a) = true := by cases k <;> rfl
@[simp] theorem okE_s : okE k (.str x) = PyData.strOk x := by cases k <;> rfl
@[simp] theorem okE_l : okE (k + 1) (.lst xs) = xs.all (okE k) := by simp only [okE]
@[simp] theorem okE_t : okE (k + 1) (.tup xs) = xs.all (okE k) := by simp only [okE]
@[simp] theorem deqvs_ints : ∀ {is js : List Int}, deqvs (is.map .int) (js.map .int) = decide (is = js)
  | [], [] => by simp
  | [], _ :: _ => by simp
  | _ :: _, [] => by simp
  | i :: is, j :: js => by simp [deqvs_ints (is := is) (js := js)]
@[simp high] theorem all_ints {is : List Int} : (is.map D.int).all (okE k) = true := by simp [List.all_eq_true]
@[simp] theorem le_size {n : Nat} (h : n ≤ 16777216) : n ≤ sizeLine := h
@[simp] theorem lt_size {n : Nat} (h : n < 16777216) : n < sizeLine := h
@[simp] theorem deqvs_nil_l {ys : List D} : deqvs [] ys = decide (ys = []) := by cases ys <;> simp
@[simp] theorem deqvs_nil_r {xs : List D} : deqvs xs [] = decide (xs = []) := by cases xs <;> simp
theorem ok_all : ∀ (k : Nat) (d : D), okE k d = true → ∃ a, toPy d = some a ∧ a.canLay0 = true ∧ a.depth ≤ k
  | k, .non, _ => ⟨.none, by simp [toPy], rfl, by simp [PyData.depth]⟩
  | k, .bl b, _ => ⟨.bool b, by simp [toPy], rfl, by simp [PyData.depth]⟩
  | k, .int b, _ => ⟨.int b, by simp [toPy], rfl, by simp [PyData.depth]⟩
  | k, .str b, h => ⟨.str b, by simp [toPy], by simpa [PyData.canLay0] using h, by simp [PyData.depth]⟩
  | k + 1, .lst xs, h => by
    replace h : xs.all (okE k) = true := h
    suffices ∃ as, toPys xs = some as ∧ PyData.canLayAll0 as = true ∧ PyData.depthAll as ≤ k by
      obtain ⟨as, e1, e2, e3⟩ := this
      exact ⟨.list as, by simp [toPy, e1], by simpa [PyData.canLay0] using e2, by simpa [PyData.depth] using e3⟩
    induction xs with
    | nil => exact ⟨[], by simp [toPys], by simp [PyData.canLayAll0], by simp [PyData.depthAll]⟩
    | cons x xs ih =>
      rw [List.all_cons, Bool.and_eq_true_iff] at h
      obtain ⟨as, e1, e2, e3⟩ := ih h.2
      obtain ⟨a, q1, q2, q3⟩ := ok_all k x h.1
      exact ⟨a :: as, by simp [toPys, q1, e1], by simp [PyData.canLayAll0, q2, e2], by simp [PyData.depthAll]; omega⟩
  | k + 1, .tup xs, h => by
    replace h : xs.all (okE k) = true := h
    suffices ∃ as, toPys xs = some as ∧ PyData.canLayAll0 as = true ∧ PyData.depthAll as ≤ k by
      obtain ⟨as, e1, e2, e3⟩ := this
      exact ⟨.tuple as, by simp [toPy, e1], by simpa [PyData.canLay0] using e2, by simpa [PyData.depth] using e3⟩
    induction xs with
    | nil => exact ⟨[], by simp [toPys], by simp [PyData.canLayAll0], by simp [PyData.depthAll]⟩
    | cons x xs ih =>
      rw [List.all_cons, Bool.and_eq_true_iff] at h
      obtain ⟨as, e1, e2, e3⟩ := ih h.2
      obtain ⟨a, q1, q2, q3⟩ := ok_all k x h.1
      exact ⟨a :: as, by simp [toPys, q1, e1], by simp [PyData.canLayAll0, q2, e2], by simp [PyData.depthAll]; omega⟩
  | 0, .lst _, h => nomatch h
  | 0, .tup _, h => nomatch h
  | 0, .scr _, h => nomatch h
  | 0, .ty _, h => nomatch h
  | 0, .glo _, h => nomatch h
  | 0, .dk _, h => nomatch h
  | 0, .dt _, h => nomatch h
  | 0, .obj _ _, h => nomatch h
  | 0, .exc _ _, h => nomatch h
  | _ + 1, .scr _, h => nomatch h
  | _ + 1, .ty _, h => nomatch h
  | _ + 1, .glo _, h => nomatch h
  | _ + 1, .dk _, h => nomatch h
  | _ + 1, .dt _, h => nomatch h
  | _ + 1, .obj _ _, h => nomatch h
  | _ + 1, .exc _ _, h => nomatch h
theorem beq_dec (a b : Int) : (a == b) = decide (a = b) := by
  by_cases h : a = b <;> simp [h]
mutual
theorem eqv_deqv : ∀ (d e : D) (a b : PyData), toPy d = some a → toPy e = some b → PyData.eqv a b = deqv d e := by
  intro d e a b h1 h2
  cases d with
  | lst xs =>
    simp only [toPy, Option.map_eq_some_iff] at h1
    obtain ⟨as, q1, rfl⟩ := h1
    cases e with
    | lst ys =>
      simp only [toPy, Option.map_eq_some_iff] at h2
      obtain ⟨bs, q2, rfl⟩ := h2
      simp only [PyData.eqv, deqv]
      exact eqvs_deqvs xs ys as bs q1 q2
    | tup ys =>
      simp only [toPy, Option.map_eq_some_iff] at h2
      obtain ⟨bs, q2, rfl⟩ := h2
      simp [PyData.eqv, deqv]
    | _ => simp [toPy] at h2 <;> subst h2 <;> simp [PyData.eqv, deqv]
  | tup xs =>
    simp only [toPy, Option.map_eq_some_iff] at h1
    obtain ⟨as, q1, rfl⟩ := h1
    cases e with
    | tup ys =>
      simp only [toPy, Option.map_eq_some_iff] at h2
      obtain ⟨bs, q2, rfl⟩ := h2
      simp only [PyData.eqv, deqv]
      exact eqvs_deqvs xs ys as bs q1 q2
    | lst ys =>
      simp only [toPy, Option.map_eq_some_iff] at h2
      obtain ⟨bs, q2, rfl⟩ := h2
      simp [PyData.eqv, deqv]
    | _ => simp [toPy] at h2 <;> subst h2 <;> simp [PyData.eqv, deqv]
  | _ =>
    simp [toPy] at h1 <;> subst h1 <;> cases e <;> simp [toPy] at h2 <;> (first | subst h2 | obtain ⟨bs, q2, rfl⟩ := h2) <;> simp [PyData.eqv, deqv, b2i, beq_dec] <;> rfl
theorem eqvs_deqvs : ∀ (xs ys : List D) (as bs : List PyData), toPys xs = some as → toPys ys = some bs → PyData.eqvAll as bs = deqvs xs ys := by
  intro xs ys as bs h1 h2
  cases xs with
  | nil =>
    simp only [toPys, Option.some.injEq] at h1
    subst h1
    cases ys with
    | nil =>
      simp only [toPys, Option.some.injEq] at h2
      subst h2
      simp [PyData.eqvAll]
    | cons y ys =>
      simp only [toPys, Option.bind_eq_some_iff, Option.map_eq_some_iff] at h2
      obtain ⟨b, q1, bs', q2, rfl⟩ := h2
      simp [PyData.eqvAll]
  | cons x xs =>
    simp only [toPys, Option.bind_eq_some_iff, Option.map_eq_some_iff] at h1
    obtain ⟨a, p1, as', p2, rfl⟩ := h1
    cases ys with
    | nil =>
      simp only [toPys, Option.some.injEq] at h2
      subst h2
      simp [PyData.eqvAll]
    | cons y ys =>
      simp only [toPys, Option.bind_eq_some_iff, Option.map_eq_some_iff] at h2
      obtain ⟨b, q1, bs', q2, rfl⟩ := h2
      simp only [PyData.eqvAll, deqvs]
      rw [eqv_deqv x y a b p1 q1, eqvs_deqvs xs ys as' bs' p2 q2]
end
theorem pyEq_ok (h1 : okE 16 d = true) (h2 : okE 16 e = true) : pyEq d e = some (deqv d e) := by
  obtain ⟨a, e1, l1, d1⟩ := ok_all _ _ h1
  obtain ⟨b, e2, l2, d2⟩ := ok_all _ _ h2
  unfold pyEq
  rw [e1, e2]
  have s1 : SeqAt.shaped a = true := by unfold SeqAt.shaped; rw [l1, decide_eq_true (by omega)]; rfl
  have s2 : SeqAt.shaped b = true := by unfold SeqAt.shaped; rw [l2, decide_eq_true (by omega)]; rfl
  dsimp only
  rw [s1, s2, eqv_deqv _ _ _ _ e1 e2]
  rfl
theorem scV_deqv {v w : V} (h1 : scV d = some v) (h2 : scV e = some w) (h : scal v w = true) : decide (v = w) = deqv d e := by
  cases d <;> simp only [scV, Option.some.injEq, reduceCtorEq] at h1 <;> subst h1 <;> cases e <;> simp only [scV, Option.some.injEq, reduceCtorEq] at h2 <;> subst h2 <;> first | (simp; done) | cases h
theorem eqD_eq (h1 : okE 16 d = true) (h2 : okE 16 e = true) : eqD d e = some (deqv d e) := by
  unfold eqD
  split
  · rename_i v w e1 e2
    split
    · rename_i hs
      rw [scV_deqv e1 e2 hs]
    · exact pyEq_ok h1 h2
  · exact pyEq_ok h1 h2
@[simp] theorem fEq_ok (h1 : okE 16 d = true) (h2 : okE 16 e = true) : fEq [d, e] = some (.bl (deqv d e)) := by
  show (eqD d e).map _ = _
  rw [eqD_eq h1 h2]; rfl
@[simp] theorem fNe_ok (h1 : okE 16 d = true) (h2 : okE 16 e = true) : fNe [d, e] = some (.bl (!deqv d e)) := by
  show (eqD d e).map _ = _
  rw [eqD_eq h1 h2]; rfl
section
variable {cls : List Nat} {Cl : Nat} {fd : FDen} {neg : Bool} {g : List D → Option D}
def orK (r s : Option D) : Option D := match r with
  | some d => some d
  | none => s
@[simp] theorem orK_s {r : Option D} : orK (some d) r = some d := rfl
@[simp] theorem orK_n {r : Option D} : orK none r = r := rfl
@[simp] theorem fOr_obj {C : Nat} {fs : List (Nat × D)} : fOr (fOwnE cls Cl fd neg) g [.obj C fs, e] = orK (fOwnE cls Cl fd neg [.obj C fs, e]) (g [.obj C fs, e]) := rfl
def ownK (neg : Bool) (r : FR) : Option D := match r with
  | .ret (.bl b) _ => some (.bl (if neg then !b else b))
  | _ => none
@[simp] theorem ownK_f {o : D} : ownK false (.ret (.bl p) o) = some (.bl p) := rfl
@[simp] theorem ownK_t {o : D} : ownK true (.ret (.bl p) o) = some (.bl (!p)) := rfl
@[simp] theorem fOwnE_k {C : Nat} {fs : List (Nat × D)} : fOwnE cls Cl fd neg [.obj C fs, e] = if Nat.beq C Cl && (tyD cls e).isSome then ownK neg (fd [.obj C fs, e]) else none := rfl
def ownSK (r : FR) : Option D := match r with
  | .ret (.str y) _ => some (.str y)
  | _ => none
@[simp] theorem ownSK_s {o : D} : ownSK (.ret (.str x) o) = some (.str x) := rfl
@[simp] theorem fOwnS_k {C : Nat} {fs : List (Nat × D)} : fOwnS Cl fd [.obj C fs] = if Nat.beq C Cl then ownSK (fd [.obj C fs]) else none := rfl
@[simp] theorem tyD_n : (tyD cls .non).isSome = true := rfl
@[simp] theorem tyD_b : (tyD cls (.bl p)).isSome = true := rfl
@[simp] theorem tyD_i : (tyD cls (.int a)).isSome = true := rfl
@[simp] theorem tyD_s : (tyD cls (.str x)).isSome = true := rfl
@[simp] theorem tyD_l : (tyD cls (.lst xs)).isSome = true := rfl
@[simp] theorem tyD_t : (tyD cls (.tup xs)).isSome = true := rfl
@[simp] theorem tyD_d {l : List (Key × D)} : (tyD cls (.dk l)).isSome = true := rfl
@[simp] theorem tyD_o {C : Nat} {fs : List (Nat × D)} (h : cls.any (Nat.beq C) = true) : (tyD cls (.obj C fs)).isSome = true := by
  simp only [tyD, h, if_true]; rfl
@[simp] theorem fOr_lst : fOr (fOwnE cls Cl fd neg) g [.lst xs, e] = g [.lst xs, e] := rfl
@[simp] theorem fOr_tup : fOr (fOwnE cls Cl fd neg) g [.tup xs, e] = g [.tup xs, e] := rfl
@[simp] theorem fOr_int : fOr (fOwnE cls Cl fd neg) g [.int a, e] = g [.int a, e] := rfl
@[simp] theorem fOr_bl : fOr (fOwnE cls Cl fd neg) g [.bl p, e] = g [.bl p, e] := rfl
@[simp] theorem fOr_str : fOr (fOwnE cls Cl fd neg) g [.str x, e] = g [.str x, e] := rfl
@[simp] theorem fOr_non : fOr (fOwnE cls Cl fd neg) g [.non, e] = g [.non, e] := rfl
@[simp] theorem fOr_dk {l : List (Key × D)} : fOr (fOwnE cls Cl fd neg) g [.dk l, e] = g [.dk l, e] := rfl
end
section
variable {cls : List Nat} {C X : Nat} {fs : List (Nat × D)}
@[simp] theorem isi_0_bool : fIsi cls [.non, .ty "bool"] = some (.bl false) := rfl
@[simp] theorem isi_0_int : fIsi cls [.non, .ty "int"] = some (.bl false) := rfl
@[simp] theorem isi_0_str : fIsi cls [.non, .ty "str"] = some (.bl false) := rfl
@[simp] theorem isi_0_list : fIsi cls [.non, .ty "list"] = some (.bl false) := rfl
@[simp] theorem isi_0_tuple : fIsi cls [.non, .ty "tuple"] = some (.bl false) := rfl
@[simp] theorem isi_0_dict : fIsi cls [.non, .ty "dict"] = some (.bl false) := rfl
@[simp] theorem isi_0_g : fIsi cls [.non, .glo X] = if cls.any (Nat.beq X) then some (.bl false) else none := by
  show (if cls.any (Nat.beq X) then some false else none).map D.bl = _
  split <;> rfl
@[simp] theorem isi_1_bool : fIsi cls [.bl p, .ty "bool"] = some (.bl true) := rfl
@[simp] theorem isi_1_int : fIsi cls [.bl p, .ty "int"] = some (.bl true) := rfl
@[simp] theorem isi_1_str : fIsi cls [.bl p, .ty "str"] = some (.bl false) := rfl
@[simp] theorem isi_1_list : fIsi cls [.bl p, .ty "list"] = some (.bl false) := rfl
@[simp] theorem isi_1_tuple : fIsi cls [.bl p, .ty "tuple"] = some (.bl false) := rfl
@[simp] theorem isi_1_dict : fIsi cls [.bl p, .ty "dict"] = some (.bl false) := rfl
@[simp] theorem isi_1_g : fIsi cls [.bl p, .glo X] = if cls.any (Nat.beq X) then some (.bl false) else none := by
  show (if cls.any (Nat.beq X) then some false else none).map D.bl = _
  split <;> rfl
@[simp] theorem isi_2_bool : fIsi cls [.int a, .ty "bool"] = some (.bl false) := rfl
@[simp] theorem isi_2_int : fIsi cls [.int a, .ty "int"] = some (.bl true) := rfl
@[simp] theorem isi_2_str : fIsi cls [.int a, .ty "str"] = some (.bl false) := rfl
@[simp] theorem isi_2_list : fIsi cls [.int a, .ty "list"] = some (.bl false) := rfl
@[simp] theorem isi_2_tuple : fIsi cls [.int a, .ty "tuple"] = some (.bl false) := rfl
@[simp] theorem isi_2_dict : fIsi cls [.int a, .ty "dict"] = some (.bl false) := rfl
@[simp] theorem isi_2_g : fIsi cls [.int a, .glo X] = if cls.any (Nat.beq X) then some (.bl false) else none := by
  show (if cls.any (Nat.beq X) then some false else none).map D.bl = _
  split <;> rfl
@[simp] theorem isi_3_bool : fIsi cls [.str x, .ty "bool"] = some (.bl false) := rfl
@[simp] theorem isi_3_int : fIsi cls [.str x, .ty "int"] = some (.bl false) := rfl
@[simp] theorem isi_3_str : fIsi cls [.str x, .ty "str"] = some (.bl true) := rfl
@[simp] theorem isi_3_list : fIsi cls [.str x, .ty "list"] = some (.bl false) := rfl
@[simp] theorem isi_3_tuple : fIsi cls [.str x, .ty "tuple"] = some (.bl false) := rfl
@[simp] theorem isi_3_dict : fIsi cls [.str x, .ty "dict"] = some (.bl false) := rfl
@[simp] theorem isi_3_g : fIsi cls [.str x, .glo X] = if cls.any (Nat.beq X) then some (.bl false) else none := by
  show (if cls.any (Nat.beq X) then some false else none).map D.bl = _
  split <;> rfl
@[simp] theorem isi_4_bool : fIsi cls [.tup xs, .ty "bool"] = some (.bl false) := rfl
@[simp] theorem isi_4_int : fIsi cls [.tup xs, .ty "int"] = some (.bl false) := rfl
@[simp] theorem isi_4_str : fIsi cls [.tup xs, .ty "str"] = some (.bl false) := rfl
@[simp] theorem isi_4_list : fIsi cls [.tup xs, .ty "list"] = some (.bl false) := rfl
@[simp] theorem isi_4_tuple : fIsi cls [.tup xs, .ty "tuple"] = some (.bl true) := rfl
@[simp] theorem isi_4_dict : fIsi cls [.tup xs, .ty "dict"] = some (.bl false) := rfl
@[simp] theorem isi_4_g : fIsi cls [.tup xs, .glo X] = if cls.any (Nat.beq X) then some (.bl false) else none := by
  show (if cls.any (Nat.beq X) then some false else none).map D.bl = _
  split <;> rfl
@[simp] theorem isi_5_bool : fIsi cls [.lst xs, .ty "bool"] = some (.bl false) := rfl
@[simp] theorem isi_5_int : fIsi cls [.lst xs, .ty "int"] = some (.bl false) := rfl
@[simp] theorem isi_5_str : fIsi cls [.lst xs, .ty "str"] = some (.bl false) := rfl
@[simp] theorem isi_5_list : fIsi cls [.lst xs, .ty "list"] = some (.bl true) := rfl
@[simp] theorem isi_5_tuple : fIsi cls [.lst xs, .ty "tuple"] = some (.bl false) := rfl
@[simp] theorem isi_5_dict : fIsi cls [.lst xs, .ty "dict"] = some (.bl false) := rfl
@[simp] theorem isi_5_g : fIsi cls [.lst xs, .glo X] = if cls.any (Nat.beq X) then some (.bl false) else none := by
  show (if cls.any (Nat.beq X) then some false else none).map D.bl = _
  split <;> rfl
@[simp] theorem isi_6_bool {l : List (Key × D)} : fIsi cls [.dk l, .ty "bool"] = some (.bl false) := rfl
@[simp] theorem isi_6_int {l : List (Key × D)} : fIsi cls [.dk l, .ty "int"] = some (.bl false) := rfl
@[simp] theorem isi_6_str {l : List (Key × D)} : fIsi cls [.dk l, .ty "str"] = some (.bl false) := rfl
@[simp] theorem isi_6_list {l : List (Key × D)} : fIsi cls [.dk l, .ty "list"] = some (.bl false) := rfl
@[simp] theorem isi_6_tuple {l : List (Key × D)} : fIsi cls [.dk l, .ty "tuple"] = some (.bl false) := rfl
@[simp] theorem isi_6_dict {l : List (Key × D)} : fIsi cls [.dk l, .ty "dict"] = some (.bl true) := rfl
@[simp] theorem isi_6_g {l : List (Key × D)} : fIsi cls [.dk l, .glo X] = if cls.any (Nat.beq X) then some (.bl false) else none := by
  show (if cls.any (Nat.beq X) then some false else none).map D.bl = _
  split <;> rfl
@[simp] theorem isi_7_bool {ns : List Int} : fIsi cls [.scr ns, .ty "bool"] = some (.bl false) := rfl
@[simp] theorem isi_7_int {ns : List Int} : fIsi cls [.scr ns, .ty "int"] = some (.bl false) := rfl
@[simp] theorem isi_7_str {ns : List Int} : fIsi cls [.scr ns, .ty "str"] = some (.bl false) := rfl
@[simp] theorem isi_7_list {ns : List Int} : fIsi cls [.scr ns, .ty "list"] = some (.bl true) := rfl
@[simp] theorem isi_7_tuple {ns : List Int} : fIsi cls [.scr ns, .ty "tuple"] = some (.bl false) := rfl
@[simp] theorem isi_7_dict {ns : List Int} : fIsi cls [.scr ns, .ty "dict"] = some (.bl false) := rfl
@[simp] theorem isi_7_g {ns : List Int} : fIsi cls [.scr ns, .glo X] = if cls.any (Nat.beq X) then some (.bl false) else none := by
  show (if cls.any (Nat.beq X) then some false else none).map D.bl = _
  split <;> rfl
@[simp] theorem isi_o_bool (h : cls.any (Nat.beq C) = true) : fIsi cls [.obj C fs, .ty "bool"] = some (.bl false) := by
  simp only [fIsi, isiD, tyD, h, if_true]; rfl
@[simp] theorem isi_o_int (h : cls.any (Nat.beq C) = true) : fIsi cls [.obj C fs, .ty "int"] = some (.bl false) := by
  simp only [fIsi, isiD, tyD, h, if_true]; rfl
@[simp] theorem isi_o_str (h : cls.any (Nat.beq C) = true) : fIsi cls [.obj C fs, .ty "str"] = some (.bl false) := by
  simp only [fIsi, isiD, tyD, h, if_true]; rfl
@[simp] theorem isi_o_list (h : cls.any (Nat.beq C) = true) : fIsi cls [.obj C fs, .ty "list"] = some (.bl false) := by
  simp only [fIsi, isiD, tyD, h, if_true]; rfl
@[simp] theorem isi_o_tuple (h : cls.any (Nat.beq C) = true) : fIsi cls [.obj C fs, .ty "tuple"] = some (.bl false) := by
  simp only [fIsi, isiD, tyD, h, if_true]; rfl
@[simp] theorem isi_o_dict (h : cls.any (Nat.beq C) = true) : fIsi cls [.obj C fs, .ty "dict"] = some (.bl false) := by
  simp only [fIsi, isiD, tyD, h, if_true]; rfl
@[simp] theorem isi_o_g (h : cls.any (Nat.beq C) = true) : fIsi cls [.obj C fs, .glo X] = if cls.any (Nat.beq X) then some (.bl (Nat.beq C X)) else none := by
  simp only [fIsi, isiD, tyD, h, if_true]
  split <;> rfl
end
@[simp] theorem smallI_lit {n : Nat} (h : n < 4611686018427387904) : smallI (no_index (OfNat.ofNat n)) = true := smallI_of (by show _ ≤ (n : Int); omega) (by show (n : Int) < _; omega)
@[simp] theorem mulOk_lit {n : Nat} (h : n < 18446744073709551616) : mulOk (no_index (OfNat.ofNat n)) b = true := mulOk_l (by show n < _; exact Nat.lt_of_lt_of_le h (by decide))
@[simp] theorem mulOk_lit2 {n : Nat} (h : n < 18446744073709551616) : mulOk b (no_index (OfNat.ofNat n)) = true := mulOk_r (by show n < _; exact Nat.lt_of_lt_of_le h (by decide))
@[simp] theorem divOk_lit {n : Nat} (h : n ≠ 0) (h2 : n < 18446744073709551616) : divOk (no_index (OfNat.ofNat n)) = true := divOk_of (by show 0 < (n : Int); omega) (by show (n : Int) < _; exact Int.lt_of_lt_of_le (b := 18446744073709551616) (by omega) (by decide +kernel))
@[simp] theorem powOk_lit {n : Nat} (h : n ≤ 1000000) (h2 : a.natAbs < 18446744073709551616) : powOk a (no_index (OfNat.ofNat n)) = true := powOk_of (by show 0 ≤ (n : Int); omega) (by show (n : Int) ≤ _; omega) (by omega)
end
end Pt
set_option maxRecDepth 100000
set_option maxHeartbeats 1000000
namespace Pt
open PySem PySem.Spec L2 SX
/-! ### texts of integers -/
def intL (i : Int) : List Nat := if i < 0 then 45 :: TL.numL i.natAbs else TL.numL i.natAbs
theorem str_int (i : Int) : ((toString i : String) : Str) = S (intL i) := by
  unfold intL
  cases i with
  | ofNat n =>
    rw [if_neg (by simp)]
    exact num_S n
  | negSucc n =>
    rw [if_pos (Int.negSucc_lt_zero n)]
    apply TL.ext_tl
    show TL.tl (Str.ofString _) = _
    rw [TL.tl_ofString]
    show (("-" ++ toString (n + 1) : String)).toList.map Char.toNat = 45 :: TL.numL (n + 1)
    rw [String.toList_append, List.map_append]
    have h := TL.tl_num (n + 1)
    rw [TL.tl_ofString] at h
    have e : toString ((n + 1 : Nat) : Int) = toString (n + 1) := rfl
    rw [e] at h
    rw [h]
    rfl
@[simp] theorem str_repr (i : Int) : Str.ofString (Int.repr i) = S (intL i) := str_int i
@[simp] theorem empty_S : Str.empty = S [] := rfl
theorem lt1900 {n : Nat} (h : n < 10 ^ 60) : n < 2 ^ 1900 := Nat.lt_trans h (by decide +kernel)
theorem numL_len60 {n : Nat} (h : n < 10 ^ 60) : (TL.numL n).length ≤ 60 := TL.numL_len (by decide) h
theorem numL_head : ∀ (n : Nat), 0 < n → ∃ c r, TL.numL n = c :: r ∧ 49 ≤ c ∧ c ≤ 57 := by
  intro n
  induction n using Nat.strongRecOn with
  | ind n ih =>
    intro h
    by_cases q : n < 10
    · exact ⟨48 + n, [], TL.numL_lt q, by omega, by omega⟩
    · obtain ⟨c, r, e, h1, h2⟩ := ih (n / 10) (by omega) (by omega)
      exact ⟨c, r ++ [48 + n % 10], by rw [TL.numL_step (by omega), e]; rfl, h1, h2⟩
theorem numL_zero : TL.numL 0 = [48] := by decide +kernel
theorem numL_dig {n c : Nat} (h : c ∈ TL.numL n) : 48 ≤ c ∧ c ≤ 57 := TL.numL_digits n c h
theorem intL_free {i : Int} : 32 ∉ intL i := by
  unfold intL
  split
  · intro h
    rcases List.mem_cons.mp h with h | h
    · cases h
    · have := numL_dig h
      omega
  · intro h
    have := numL_dig h
    omega
theorem intL_len {i : Int} (h : i.natAbs < 10 ^ 60) : (intL i).length ≤ 61 := by
  have := numL_len60 h
  unfold intL
  split <;> simp <;> omega
theorem intL_sign {i : Int} {c : Nat} (h : c ∈ intL i) : c = 45 ∨ (48 ≤ c ∧ c ≤ 57) := by
  unfold intL at h
  split at h
  · rcases List.mem_cons.mp h with h | h
    · exact .inl h
    · exact .inr (numL_dig h)
  · exact .inr (numL_dig h)
theorem int_back {i : Int} (h : i.natAbs < 10 ^ 60) : intText? (S (intL i)) = some i := by
  have hl := numL_len60 h
  unfold intL
  split
  · rw [intText_neg (cs := TL.numL i.natAbs) rfl (TL.numL_digits _) (TL.numL_ne _) (by simp [Str.length]; omega), TL.numL_val]
    congr 1
    omega
  · have := TL.int_num (n := i.natAbs) (by omega)
    rw [num_S] at this
    rw [this]
    congr 1
    omega
/-! texts as rows of signs -/
@[simp] theorem S_length {l : List Nat} : (S l).length = l.length := S_len l
@[simp] theorem S_append {a b : List Nat} : S a ++ S b = S (a ++ b) := S_cat a b
@[simp] theorem S_cps {l : List Nat} : (S l).cps.toList = l := rfl
theorem S_eq {a b : List Nat} : (S a = S b) = (a = b) := propext ⟨S_inj, fun h => by rw [h]⟩
@[simp] theorem cutS_to {a : List Nat} {n : Nat} : cutS (S a) none (some (no_index (OfNat.ofNat n))) = S (a.take n) := by
  rw [C8.cutS_slice]
  exact slice_to (i := ((n : Nat) : Int)) (by omega)
@[simp] theorem cutS_from {a : List Nat} {n : Nat} : cutS (S a) (some (no_index (OfNat.ofNat n))) none = S (a.drop n) := by
  rw [C8.cutS_slice]
  exact slice_from (i := ((n : Nat) : Int)) (by omega)
theorem lit_dash : ("-" : Str) = S [45] := rfl
theorem lit_empty : ("" : Str) = S [] := rfl
theorem lit_zero : ("0" : Str) = S [48] := rfl
theorem lit_blank : (" " : Str) = S [32] := rfl
theorem lit_digits : ("0123456789" : Str) = S [48, 49, 50, 51, 52, 53, 54, 55, 56, 57] := rfl
theorem okS {l : List Nat} (h : ∀ c ∈ l, c < 1114112) : PyData.strOk (S l) = true := by
  unfold PyData.strOk
  rw [show (S l).cps = l.toArray from rfl, List.all_toArray, List.all_eq_true]
  exact fun c hc => decide_eq_true (h c hc)
@[simp] theorem strOk_lit (s : String) : PyData.strOk (Str.ofString s) = true := by
  rw [← TL.mk_tl (Str.ofString s), TL.tl_ofString]
  refine okS fun c hc => ?_
  obtain ⟨a, _, rfl⟩ := List.mem_map.mp hc
  have := a.valid
  rcases this with h | h <;> (simp only [Char.toNat]; omega)
theorem toNat_inj {a b : Char} (h : a.toNat = b.toNat) : a = b := Char.ext (UInt32.toNat_inj.mp h)
@[simp] theorem ofString_inj {s t : String} : (Str.ofString s = Str.ofString t) = (s = t) := propext ⟨fun h => by
  have e := congrArg TL.tl h
  rw [TL.tl_ofString, TL.tl_ofString] at e
  have : s.toList = t.toList := by
    revert e
    generalize s.toList = l
    generalize t.toList = m
    intro e
    induction l generalizing m with
    | nil => cases m with
      | nil => rfl
      | cons _ _ => simp at e
    | cons x l ih => cases m with
      | nil => simp at e
      | cons y m =>
        simp at e
        rw [toNat_inj e.1, ih m e.2]
  exact String.toList_inj.mp this, fun h => by rw [h]⟩
theorem okS1 {c : Nat} (h : c < 1114112) : PyData.strOk ⟨#[c]⟩ = true := okS (l := [c]) fun x hx => by simp at hx; omega
@[simp] theorem one_eq {c d : Nat} : ((⟨#[c]⟩ : Str) = S [d]) = (c = d) := by
  show (S [c] = S [d]) = _
  rw [S_eq]; simp
theorem okI {i : Int} : PyData.strOk (S (intL i)) = true := okS fun c hc => by
  rcases intL_sign hc with h | h <;> omega
end Pt
set_option maxHeartbeats 0
namespace K03
theorem root_ex (n : Nat) : ∃ s : Nat, s * s ≤ n ∧ n < (s + 1) * (s + 1) := by
  induction n with
  | zero => exact ⟨0, by decide, by decide⟩
  | succ n ih =>
    obtain ⟨s, h1, h2⟩ := ih
    by_cases h : n + 1 < (s + 1) * (s + 1)
    · exact ⟨s, by omega, h⟩
    · refine ⟨s + 1, by omega, ?_⟩
      have e : (s + 1 + 1) * (s + 1 + 1) = (s + 1) * (s + 1) + 2 * s + 3 := by grind
      omega
theorem root_ex' (n : Int) (h : 0 ≤ n) : ∃ s : Int, 0 ≤ s ∧ s * s ≤ n ∧ n < (s + 1) * (s + 1) := by
  obtain ⟨m, rfl⟩ := Int.eq_ofNat_of_zero_le h
  obtain ⟨s, h1, h2⟩ := root_ex m
  refine ⟨s, by omega, ?_, ?_⟩
  · exact_mod_cast h1
  · exact_mod_cast h2
theorem sq_le_sq {a b : Int} (ha : 0 ≤ a) (h : a ≤ b) : a * a ≤ b * b :=
  Int.mul_le_mul h h ha (by omega)
theorem newton {n s x : Int} (hs : 0 ≤ s) (h1 : s * s ≤ n) (h2 : n < (s + 1) * (s + 1)) (hx : s + 1 ≤ x) : s ≤ (x + n / x) / 2 ∧ (x + n / x) / 2 - s ≤ (x - s) / 2 := by
  have px : 0 < x := by omega
  have a : n / x ≤ s := by
    have : n / x < s + 1 := by
      apply Int.ediv_lt_of_lt_mul px
      have : (s + 1) * (s + 1) ≤ (s + 1) * x := Int.mul_le_mul_of_nonneg_left hx (by omega)
      omega
    omega
  have b : 2 * s - x ≤ n / x := by
    apply Int.le_ediv_of_mul_le px
    have q : 0 ≤ (x - s) * (x - s) := Int.mul_nonneg (by omega) (by omega)
    have e : (2 * s - x) * x = s * s - (x - s) * (x - s) := by grind
    omega
  omega
def sg (w p c : Int) : Int := if 0 ≤ w ∧ 0 ≤ p then (if 0 < w + p * p * c then 1 else 0) else if w ≤ 0 ∧ p ≤ 0 then (if 0 < p * p * c - w then -1 else 0) else if w * w = p * p * c then 0 else if decide (p * p * c < w * w) = decide (0 < w) then 1 else -1
theorem sq_nn (a : Int) : 0 ≤ a * a := by
  rcases Int.le_total 0 a with h | h
  · exact Int.mul_nonneg h h
  · have := Int.mul_nonneg (a := -a) (b := -a) (by omega) (by omega)
    have e : -a * -a = a * a := by grind
    omega
theorem sq_pos {a : Int} (h : a ≠ 0) : 0 < a * a := by
  have := sq_nn a
  have : a * a ≠ 0 := Int.mul_ne_zero h h
  omega
theorem sg_neg (w p c : Int) (hc : 0 ≤ c) : sg (-w) (-p) c = - sg w p c := by
  have e1 : -p * -p = p * p := by grind
  have e2 : -w * -w = w * w := by grind
  have S0 : 0 ≤ p * p * c := Int.mul_nonneg (sq_nn p) hc
  have P0 : p = 0 → p * p * c = 0 := fun h => by rw [h]; simp
  have W0 : w ≠ 0 → 0 < w * w := sq_pos
  have W1 : w = 0 → w * w = 0 := fun h => by rw [h]; simp
  have m1 : (0 < -w) = (w < 0) := propext ⟨fun h => by omega, fun h => by omega⟩
  unfold sg
  rw [e1, e2]
  generalize p * p * c = S at *
  generalize w * w = W at *
  by_cases a1 : 0 < w <;> by_cases a2 : w < 0 <;> by_cases a3 : 0 < p <;> by_cases a4 : p < 0 <;> by_cases a5 : W = S <;> by_cases a6 : S < W <;> simp only [m1, a1, a2, a5, a6, decide_true, decide_false, if_true, if_false, decide_eq_decide, reduceCtorEq] <;> split <;> (try split) <;> (try split) <;> (try split) <;> (try split) <;> (try split) <;> (try split) <;> omega
theorem sg_root (w p c r : Int) (hp : 0 ≤ p) (hc : 0 ≤ c) (hr : 0 ≤ r) (h1 : r * r ≤ p * p * c) (h2 : p * p * c < (r + 1) * (r + 1)) : sg w p c = if w + r ≠ 0 then (if 0 < w + r then 1 else -1) else (if r * r < p * p * c then 1 else 0) := by
  have S0 : 0 ≤ p * p * c := Int.mul_nonneg (sq_nn p) hc
  have P0 : p = 0 → p * p * c = 0 := fun h => by rw [h]; simp
  have R1 : r ≠ 0 → 0 < r * r := sq_pos
  have R0 : r = 0 → r * r = 0 ∧ (r + 1) * (r + 1) = 1 := fun h => by rw [h]; simp
  have n1 : w < 0 → 0 < w + r → w * w < r * r := fun a b => by
    have := sq_le_sq (a := -w + 1) (b := r) (by omega) (by omega)
    have e2 : (-w + 1) * (-w + 1) = w * w - 2 * w + 1 := by grind
    omega
  have n2 : w + r < 0 → (r + 1) * (r + 1) ≤ w * w := fun b => by
    have := sq_le_sq (a := r + 1) (b := -w) (by omega) (by omega)
    have e2 : -w * -w = w * w := by grind
    omega
  have n3 : w + r = 0 → w * w = r * r := fun b => by
    have : w = -r := by omega
    rw [this]; grind
  unfold sg
  generalize p * p * c = S at *
  generalize w * w = W at *
  generalize (r + 1) * (r + 1) = R2 at *
  generalize r * r = R at *
  by_cases a1 : 0 < w <;> by_cases a2 : w < 0 <;> by_cases a3 : 0 < p <;> by_cases a5 : W = S <;> by_cases a6 : S < W <;> simp only [a1, a2, a5, a6, decide_true, decide_false, if_true, if_false, decide_eq_decide, reduceCtorEq] <;> split <;> (try split) <;> (try split) <;> (try split) <;> (try split) <;> (try split) <;> (try split) <;> omega
end K03
set_option maxHeartbeats 0
namespace K03
def sn (x : Int) : Int := if 0 < x then 1 else if x < 0 then -1 else 0
theorem sg_wide {w p c : Int} (hc : 0 ≤ c) (h : p * p * c < w * w) : sg w p c = sn w := by
  have S0 : 0 ≤ p * p * c := Int.mul_nonneg (sq_nn p) hc
  have W1 : w = 0 → w * w = 0 := fun h => by rw [h]; simp
  unfold sg sn
  generalize p * p * c = S at *
  generalize w * w = W at *
  by_cases a1 : 0 < w <;> by_cases a2 : w < 0 <;> simp only [a1, a2, h, decide_true, decide_false, if_true, if_false, reduceCtorEq] <;> (repeat' split) <;> omega
theorem sg_deep {w p c : Int} (h : w * w < p * p * c) : sg w p c = sn p := by
  have W0 := sq_nn w
  have P0 : p = 0 → p * p * c = 0 := fun h => by rw [h]; simp
  have q : ¬ p * p * c < w * w := by omega
  unfold sg sn
  generalize p * p * c = S at *
  generalize w * w = W at *
  by_cases a1 : 0 < w <;> by_cases a2 : w < 0 <;> simp only [a1, a2, q, decide_true, decide_false, if_true, if_false, reduceCtorEq] <;> (repeat' split) <;> omega
theorem sg_flat {w p c : Int} (h : w * w = p * p * c) : sg w p c = if 0 < w ∧ 0 < p then 1 else if w < 0 ∧ p < 0 then -1 else 0 := by
  have W0 := sq_nn w
  have W1 : w = 0 → w * w = 0 := fun h => by rw [h]; simp
  have W2 : w ≠ 0 → 0 < w * w := sq_pos
  have P0 : p = 0 → p * p * c = 0 := fun h => by rw [h]; simp
  have q : ¬ p * p * c < w * w := by omega
  unfold sg
  generalize p * p * c = S at *
  generalize w * w = W at *
  by_cases a1 : 0 < w <;> by_cases a2 : w < 0 <;> simp only [a1, a2, q, h, eq_self, true_and, false_and, decide_true, decide_false, if_true, if_false, reduceCtorEq] <;> (repeat' split) <;> omega
end K03
set_option maxHeartbeats 0
namespace K03
theorem sn_mul (a b : Int) : sn (a * b) = sn a * sn b := by
  unfold sn
  rcases Int.lt_trichotomy a 0 with h | h | h
  · rcases Int.lt_trichotomy b 0 with k | k | k
    · have := Int.mul_pos_of_neg_of_neg h k
      simp [this, show ¬ 0 < a by omega, show ¬ 0 < b by omega, h, k]
    · subst k; simp
    · have := Int.mul_neg_of_neg_of_pos h k
      simp [this, show ¬ 0 < a by omega, show ¬ 0 < a * b by omega, h, k]
  · subst h; simp
  · rcases Int.lt_trichotomy b 0 with k | k | k
    · have := Int.mul_neg_of_pos_of_neg h k
      simp [this, show ¬ 0 < b by omega, show ¬ 0 < a * b by omega, h, k]
    · subst k; simp
    · have := Int.mul_pos h k
      simp [this, h, k]
theorem sq_lt_abs {a b : Int} (h : a * a < b * b) : (0 < b ∧ -b < a ∧ a < b) ∨ (b < 0 ∧ b < a ∧ a < -b) := by
  by_cases hb : 0 ≤ b
  · refine .inl ?_
    have h1 : a < b := by
      by_cases q : b ≤ a
      · have := sq_le_sq hb q
        omega
      · omega
    have h2 : -b < a := by
      by_cases q : a ≤ -b
      · have := sq_le_sq hb (show b ≤ -a by omega)
        have e : -a * -a = a * a := by grind
        omega
      · omega
    omega
  · refine .inr ?_
    have e2 : -b * -b = b * b := by grind
    have h1 : a < -b := by
      by_cases q : -b ≤ a
      · have := sq_le_sq (show 0 ≤ -b by omega) q
        omega
      · omega
    have h2 : b < a := by
      by_cases q : a ≤ b
      · have := sq_le_sq (show 0 ≤ -b by omega) (show -b ≤ -a by omega)
        have e : -a * -a = a * a := by grind
        omega
      · omega
    omega
/-- the sign of a sum is that of the part with the greater square -/
theorem sn_add {a b : Int} (h : a * a < b * b) : sn (a + b) = sn b := by
  unfold sn
  rcases sq_lt_abs h with h | h <;> (repeat' split) <;> omega
theorem sg_sq (w p k : Int) (hk : 0 ≤ k) : sg w p (k * k) = sn (w + p * k) := by
  have e : p * p * (k * k) = (p * k) * (p * k) := by grind
  rcases Int.lt_trichotomy (w * w) (p * p * (k * k)) with h | h | h
  · rw [sg_deep h]
    rw [e] at h
    rw [sn_add h, sn_mul]
    have : k ≠ 0 := fun z => by
      subst z
      have := sq_nn w
      simp at h
      omega
    have : sn k = 1 := by unfold sn; rw [if_pos (by omega)]
    rw [this, Int.mul_one]
  · rw [sg_flat h]
    rw [e] at h
    have h2 : (w - p * k) * (w + p * k) = 0 := by grind
    rcases Int.mul_eq_zero.mp h2 with z | z
    · have z : w = p * k := by omega
      by_cases k0 : k = 0
      · subst k0
        have : w = 0 := by omega
        subst this
        simp [sn]
      · have kp : 0 < k := by omega
        have a1 : 0 < p → 0 < p * k := fun q => Int.mul_pos q kp
        have a2 : p < 0 → p * k < 0 := fun q => Int.mul_neg_of_neg_of_pos q kp
        have a3 : p = 0 → p * k = 0 := fun q => by rw [q]; simp
        unfold sn
        (repeat' split) <;> omega
    · have a1 : 0 < p → 0 ≤ p * k := fun q => Int.mul_nonneg (by omega) hk
      have a2 : p < 0 → p * k ≤ 0 := fun q => Int.mul_nonpos_of_nonpos_of_nonneg (by omega) hk
      unfold sn
      (repeat' split) <;> omega
  · rw [sg_wide (Int.mul_nonneg hk hk) h]
    rw [e] at h
    rw [Int.add_comm, sn_add h]
/-- where the under is no square only 0 has the norm 0 -/
theorem nonsq {w p c : Int} (hc : 0 ≤ c) (hn : ∀ k, 0 ≤ k → k * k ≠ c) (h : w * w = p * p * c) : w = 0 ∧ p = 0 := by
  have hp : p = 0 := by
    by_cases hp : p = 0
    · exact hp
    · exfalso
      have d : p ^ 2 ∣ w ^ 2 := ⟨c, by grind⟩
      rw [Int.pow_dvd_pow_iff (by decide)] at d
      obtain ⟨k, rfl⟩ := d
      have e : (p * p) * (k * k) = (p * p) * c := by rw [← h]; grind
      have e2 : k * k = c := Int.eq_of_mul_eq_mul_left (Int.mul_ne_zero hp hp) e
      rcases Int.le_total 0 k with q | q
      · exact hn k q e2
      · exact hn (-k) (by omega) (by rw [← e2]; grind)
  subst hp
  refine ⟨?_, rfl⟩
  have h : w * w = 0 := by rw [h]; simp
  rcases Int.mul_eq_zero.mp h with z | z <;> exact z
theorem sg_mul (w p u q c : Int) (hc : 0 ≤ c) : sg (w * u + p * q * c) (w * q + p * u) c = sg w p c * sg u q c := by
  by_cases hn : ∃ k, 0 ≤ k ∧ k * k = c
  · obtain ⟨k, hk, rfl⟩ := hn
    rw [sg_sq _ _ _ hk, sg_sq _ _ _ hk, sg_sq _ _ _ hk, ← sn_mul]
    congr 1
    grind
  · have hn : ∀ k, 0 ≤ k → k * k ≠ c := fun k a b => hn ⟨k, a, b⟩
    have cp : 0 < c := by
      have := hn 0 (by omega)
      omega
    have snc : sn c = 1 := by unfold sn; rw [if_pos cp]
    have Z1 : ∀ {w p : Int}, w * w = p * p * c → w = 0 ∧ p = 0 := nonsq hc hn
    have N : (w * u + p * q * c) * (w * u + p * q * c) - (w * q + p * u) * (w * q + p * u) * c = (w * w - p * p * c) * (u * u - q * q * c) := by grind
    have zero : sg 0 0 c = 0 := by simp [sg]
    rcases Int.lt_trichotomy (w * w) (p * p * c) with h | h | h
    · rcases Int.lt_trichotomy (u * u) (q * q * c) with k | k | k
      · have N1 := Int.mul_pos_of_neg_of_neg (show w * w - p * p * c < 0 by omega) (show u * u - q * q * c < 0 by omega)
        rw [sg_deep h, sg_deep k, sg_wide hc (by omega)]
        have : (w * u) * (w * u) < (p * q * c) * (p * q * c) := by
          have e1 : (w * u) * (w * u) = (w * w) * (u * u) := by grind
          have e2 : (p * q * c) * (p * q * c) = (p * p * c) * (q * q * c) := by grind
          rw [e1, e2]
          have a := Int.mul_le_mul_of_nonneg_right (Int.le_of_lt h) (sq_nn u)
          have b := Int.mul_lt_mul_of_pos_left k (show 0 < p * p * c by have := sq_nn w; omega)
          omega
        rw [sn_add this, sn_mul, sn_mul, snc, Int.mul_one]
      · obtain ⟨rfl, rfl⟩ := Z1 k
        simp [zero]
      · have N1 := Int.mul_neg_of_neg_of_pos (show w * w - p * p * c < 0 by omega) (show 0 < u * u - q * q * c by omega)
        rw [sg_deep h, sg_wide hc k, sg_deep (by omega)]
        have : (w * q) * (w * q) < (p * u) * (p * u) := by
          have e1 : (w * q) * (w * q) * c = (w * w) * (q * q * c) := by grind
          have e2 : (p * u) * (p * u) * c = (p * p * c) * (u * u) := by grind
          have a := Int.mul_le_mul_of_nonneg_right (Int.le_of_lt h) (show 0 ≤ q * q * c from Int.mul_nonneg (sq_nn q) hc)
          have b := Int.mul_lt_mul_of_pos_left k (show 0 < p * p * c by have := sq_nn w; omega)
          exact Int.lt_of_mul_lt_mul_right (a := c) (by omega) hc
        rw [sn_add this, sn_mul]
    · obtain ⟨rfl, rfl⟩ := Z1 h
      simp [zero]
    · rcases Int.lt_trichotomy (u * u) (q * q * c) with k | k | k
      · have N1 := Int.mul_neg_of_pos_of_neg (show 0 < w * w - p * p * c by omega) (show u * u - q * q * c < 0 by omega)
        rw [sg_wide hc h, sg_deep k, sg_deep (by omega)]
        have : (p * u) * (p * u) < (w * q) * (w * q) := by
          have e1 : (w * q) * (w * q) * c = (w * w) * (q * q * c) := by grind
          have e2 : (p * u) * (p * u) * c = (p * p * c) * (u * u) := by grind
          have a := Int.mul_le_mul_of_nonneg_right (Int.le_of_lt h) (sq_nn u)
          have b := Int.mul_lt_mul_of_pos_left k (show 0 < w * w by have := Int.mul_nonneg (sq_nn p) hc; omega)
          exact Int.lt_of_mul_lt_mul_right (a := c) (by omega) hc
        rw [Int.add_comm, sn_add this, sn_mul]
      · obtain ⟨rfl, rfl⟩ := Z1 k
        simp [zero]
      · have N1 := Int.mul_pos (show 0 < w * w - p * p * c by omega) (show 0 < u * u - q * q * c by omega)
        rw [sg_wide hc h, sg_wide hc k, sg_wide hc (by omega)]
        have : (p * q * c) * (p * q * c) < (w * u) * (w * u) := by
          have e1 : (w * u) * (w * u) = (w * w) * (u * u) := by grind
          have e2 : (p * q * c) * (p * q * c) = (p * p * c) * (q * q * c) := by grind
          rw [e1, e2]
          have a := Int.mul_le_mul_of_nonneg_right (Int.le_of_lt h) (show 0 ≤ q * q * c from Int.mul_nonneg (sq_nn q) hc)
          have b := Int.mul_lt_mul_of_pos_left k (show 0 < w * w by have := Int.mul_nonneg (sq_nn p) hc; omega)
          omega
        rw [Int.add_comm, sn_add this, sn_mul]
theorem sg_part0 (w c d : Int) : sg w 0 c = sg w 0 d := by simp [sg]
end K03
set_option maxRecDepth 100000
set_option maxHeartbeats 1000000
namespace K03
open PySem PySem.Spec L2 Pt
abbrev PG : Program := PySem.Challenge.pw_goodsigns_k03_bounds_by_own_squares
def top (i : Nat) : Stmt := PG.main.body.getD i Pas
def NT : List Str := ["SignsError", "BadNumber", "BadBound", "Misfit", "BadText", "Scan", "Bound", "whole", "part", "under", "line", "item", "pieces", "at", "ahead", "refuse", "take", "take_number", "finish"]
theorem nt_nd : NT.Nodup := by decide +kernel
abbrev cls : List Nat := [5, 6]
abbrev st_is_integer : Stmt := top 9
abbrev ps_is_integer : List Str := ["value"]
abbrev N_is_integer : List Str := ["value"]
abbrev vl_is_integer : List Str := ["value"]
def dg_is_integer : DefG := ⟨(fun K => He.ga K "is_integer"), "is_integer", "is_integer", defArgs st_is_integer, defBody st_is_integer, defScope st_is_integer, []⟩
theorem sc_is_integer : FnScope N_is_integer ps_is_integer (defScope st_is_integer) := scope_by rfl rfl rfl (by decide +kernel) rfl (by decide +kernel) (by decide +kernel)
theorem vs_is_integer : VisS (defScope st_is_integer) vl_is_integer := visS_of (by decide +kernel)
abbrev st_Bound_eq : Stmt := (clsBody (top 17)).getD 2 Pas
abbrev ps_Bound_eq : List Str := ["self", "other"]
abbrev N_Bound_eq : List Str := ["self", "other"]
abbrev vl_Bound_eq : List Str := ["self", "other"]
def dg_Bound_eq : DefG := ⟨(fun K => He.ma K (He.ga K "Bound") "__eq__"), "__eq__", "Bound.__eq__", defArgs st_Bound_eq, defBody st_Bound_eq, defScope st_Bound_eq, []⟩
theorem sc_Bound_eq : FnScope N_Bound_eq ps_Bound_eq (defScope st_Bound_eq) := scope_by rfl rfl rfl (by decide +kernel) rfl (by decide +kernel) (by decide +kernel)
theorem vs_Bound_eq : VisS (defScope st_Bound_eq) vl_Bound_eq := visS_of (by decide +kernel)
abbrev st_is_within : Stmt := top 10
abbrev ps_is_within : List Str := ["value", "least", "most"]
abbrev N_is_within : List Str := ["value", "least", "most"]
abbrev vl_is_within : List Str := ["value", "least", "most"]
def dg_is_within : DefG := ⟨(fun K => He.ga K "is_within"), "is_within", "is_within", defArgs st_is_within, defBody st_is_within, defScope st_is_within, []⟩
theorem sc_is_within : FnScope N_is_within ps_is_within (defScope st_is_within) := scope_by rfl rfl rfl (by decide +kernel) rfl (by decide +kernel) (by decide +kernel)
theorem vs_is_within : VisS (defScope st_is_within) vl_is_within := visS_of (by decide +kernel)
abbrev st_need_number : Stmt := top 11
abbrev ps_need_number : List Str := ["value", "part", "least", "most"]
abbrev N_need_number : List Str := ["value", "part", "least", "most"]
abbrev vl_need_number : List Str := ["value", "part", "least", "most"]
def dg_need_number : DefG := ⟨(fun K => He.ga K "need_number"), "need_number", "need_number", defArgs st_need_number, defBody st_need_number, defScope st_need_number, []⟩
theorem sc_need_number : FnScope N_need_number ps_need_number (defScope st_need_number) := scope_by rfl rfl rfl (by decide +kernel) rfl (by decide +kernel) (by decide +kernel)
theorem vs_need_number : VisS (defScope st_need_number) vl_need_number := visS_of (by decide +kernel)
abbrev st_is_written : Stmt := top 14
abbrev ps_is_written : List Str := ["item"]
abbrev N_is_written : List Str := ["item", "digits", "sign"]
abbrev vl_is_written : List Str := ["item", "digits"]
abbrev vl_is_written_b0 : List Str := ["sign"]
def dg_is_written : DefG := ⟨(fun K => He.ga K "is_written"), "is_written", "is_written", defArgs st_is_written, defBody st_is_written, defScope st_is_written, []⟩
theorem sc_is_written : FnScope N_is_written ps_is_written (defScope st_is_written) := scope_by rfl rfl rfl (by decide +kernel) rfl (by decide +kernel) (by decide +kernel)
theorem vs_is_written : VisS (defScope st_is_written) vl_is_written := visS_of (by decide +kernel)
abbrev st_need_bound : Stmt := top 18
abbrev ps_need_bound : List Str := ["value", "part"]
abbrev N_need_bound : List Str := ["value", "part"]
abbrev vl_need_bound : List Str := ["value", "part"]
def dg_need_bound : DefG := ⟨(fun K => He.ga K "need_bound"), "need_bound", "need_bound", defArgs st_need_bound, defBody st_need_bound, defScope st_need_bound, [.str "bound"]⟩
theorem sc_need_bound : FnScope N_need_bound ps_need_bound (defScope st_need_bound) := scope_by rfl rfl rfl (by decide +kernel) rfl (by decide +kernel) (by decide +kernel)
theorem vs_need_bound : VisS (defScope st_need_bound) vl_need_bound := visS_of (by decide +kernel)
abbrev st_sign_by : Stmt := top 19
abbrev ps_sign_by : List Str := ["whole", "part", "under"]
abbrev N_sign_by : List Str := ["whole", "part", "under", "square"]
abbrev vl_sign_by : List Str := ["whole", "part", "under", "square"]
def dg_sign_by : DefG := ⟨(fun K => He.ga K "sign_by"), "sign_by", "sign_by", defArgs st_sign_by, defBody st_sign_by, defScope st_sign_by, []⟩
theorem sc_sign_by : FnScope N_sign_by ps_sign_by (defScope st_sign_by) := scope_by rfl rfl rfl (by decide +kernel) rfl (by decide +kernel) (by decide +kernel)
theorem vs_sign_by : VisS (defScope st_sign_by) vl_sign_by := visS_of (by decide +kernel)
abbrev st_common_under : Stmt := top 20
abbrev ps_common_under : List Str := ["one", "other"]
abbrev N_common_under : List Str := ["one", "other"]
abbrev vl_common_under : List Str := ["one", "other"]
def dg_common_under : DefG := ⟨(fun K => He.ga K "common_under"), "common_under", "common_under", defArgs st_common_under, defBody st_common_under, defScope st_common_under, []⟩
theorem sc_common_under : FnScope N_common_under ps_common_under (defScope st_common_under) := scope_by rfl rfl rfl (by decide +kernel) rfl (by decide +kernel) (by decide +kernel)
theorem vs_common_under : VisS (defScope st_common_under) vl_common_under := visS_of (by decide +kernel)
abbrev st_sign_of : Stmt := top 21
abbrev ps_sign_of : List Str := ["bound"]
abbrev N_sign_of : List Str := ["bound"]
abbrev vl_sign_of : List Str := ["bound"]
def dg_sign_of : DefG := ⟨(fun K => He.ga K "sign_of"), "sign_of", "sign_of", defArgs st_sign_of, defBody st_sign_of, defScope st_sign_of, []⟩
theorem sc_sign_of : FnScope N_sign_of ps_sign_of (defScope st_sign_of) := scope_by rfl rfl rfl (by decide +kernel) rfl (by decide +kernel) (by decide +kernel)
theorem vs_sign_of : VisS (defScope st_sign_of) vl_sign_of := visS_of (by decide +kernel)
abbrev st_Bound_init : Stmt := (clsBody (top 17)).getD 0 Pas
abbrev ps_Bound_init : List Str := ["self", "whole", "part", "under"]
abbrev N_Bound_init : List Str := ["self", "whole", "part", "under"]
abbrev vl_Bound_init : List Str := ["self", "whole", "part", "under"]
def dg_Bound_init : DefG := ⟨(fun K => He.ma K (He.ga K "Bound") "__init__"), "__init__", "Bound.__init__", defArgs st_Bound_init, defBody st_Bound_init, defScope st_Bound_init, []⟩
theorem sc_Bound_init : FnScope N_Bound_init ps_Bound_init (defScope st_Bound_init) := scope_by rfl rfl rfl (by decide +kernel) rfl (by decide +kernel) (by decide +kernel)
theorem vs_Bound_init : VisS (defScope st_Bound_init) vl_Bound_init := visS_of (by decide +kernel)
abbrev st_added : Stmt := top 22
abbrev ps_added : List Str := ["one", "other"]
abbrev N_added : List Str := ["one", "other", "under"]
abbrev vl_added : List Str := ["one", "other", "under"]
def dg_added : DefG := ⟨(fun K => He.ga K "added"), "added", "added", defArgs st_added, defBody st_added, defScope st_added, []⟩
theorem sc_added : FnScope N_added ps_added (defScope st_added) := scope_by rfl rfl rfl (by decide +kernel) rfl (by decide +kernel) (by decide +kernel)
theorem vs_added : VisS (defScope st_added) vl_added := visS_of (by decide +kernel)
abbrev st_multiplied : Stmt := top 23
abbrev ps_multiplied : List Str := ["one", "other"]
abbrev N_multiplied : List Str := ["one", "other", "under", "whole"]
abbrev vl_multiplied : List Str := ["one", "other", "under", "whole"]
def dg_multiplied : DefG := ⟨(fun K => He.ga K "multiplied"), "multiplied", "multiplied", defArgs st_multiplied, defBody st_multiplied, defScope st_multiplied, []⟩
theorem sc_multiplied : FnScope N_multiplied ps_multiplied (defScope st_multiplied) := scope_by rfl rfl rfl (by decide +kernel) rfl (by decide +kernel) (by decide +kernel)
theorem vs_multiplied : VisS (defScope st_multiplied) vl_multiplied := visS_of (by decide +kernel)
abbrev st_at_most : Stmt := top 24
abbrev ps_at_most : List Str := ["one", "other"]
abbrev N_at_most : List Str := ["one", "other", "under"]
abbrev vl_at_most : List Str := ["one", "other", "under"]
def dg_at_most : DefG := ⟨(fun K => He.ga K "at_most"), "at_most", "at_most", defArgs st_at_most, defBody st_at_most, defScope st_at_most, []⟩
theorem sc_at_most : FnScope N_at_most ps_at_most (defScope st_at_most) := scope_by rfl rfl rfl (by decide +kernel) rfl (by decide +kernel) (by decide +kernel)
theorem vs_at_most : VisS (defScope st_at_most) vl_at_most := visS_of (by decide +kernel)
abbrev st__law_bag : Stmt := top 26
abbrev ps__law_bag : List Str := ["script"]
abbrev N__law_bag : List Str := ["script", "cell"]
abbrev vl__law_bag : List Str := ["script"]
abbrev vl__law_bag_b0 : List Str := ["cell"]
def dg__law_bag : DefG := ⟨(fun K => He.ga K "_law_bag"), "_law_bag", "_law_bag", defArgs st__law_bag, defBody st__law_bag, defScope st__law_bag, []⟩
theorem sc__law_bag : FnScope N__law_bag ps__law_bag (defScope st__law_bag) := scope_by rfl rfl rfl (by decide +kernel) rfl (by decide +kernel) (by decide +kernel)
theorem vs__law_bag : VisS (defScope st__law_bag) vl__law_bag := visS_of (by decide +kernel)
abbrev st__law_draw : Stmt := top 27
abbrev ps__law_draw : List Str := ["bag", "many"]
abbrev N__law_draw : List Str := ["bag", "many", "left", "at", "cell", "mixed"]
abbrev vl__law_draw : List Str := ["bag", "many", "left", "at", "cell", "mixed"]
def dg__law_draw : DefG := ⟨(fun K => He.ga K "_law_draw"), "_law_draw", "_law_draw", defArgs st__law_draw, defBody st__law_draw, defScope st__law_draw, []⟩
theorem sc__law_draw : FnScope N__law_draw ps__law_draw (defScope st__law_draw) := scope_by rfl rfl rfl (by decide +kernel) rfl (by decide +kernel) (by decide +kernel)
theorem vs__law_draw : VisS (defScope st__law_draw) vl__law_draw := visS_of (by decide +kernel)
abbrev st__law_pick : Stmt := top 28
abbrev ps__law_pick : List Str := ["bag", "some"]
abbrev N__law_pick : List Str := ["bag", "some"]
abbrev vl__law_pick : List Str := ["bag", "some"]
def dg__law_pick : DefG := ⟨(fun K => He.ga K "_law_pick"), "_law_pick", "_law_pick", defArgs st__law_pick, defBody st__law_pick, defScope st__law_pick, []⟩
theorem sc__law_pick : FnScope N__law_pick ps__law_pick (defScope st__law_pick) := scope_by rfl rfl rfl (by decide +kernel) rfl (by decide +kernel) (by decide +kernel)
theorem vs__law_pick : VisS (defScope st__law_pick) vl__law_pick := visS_of (by decide +kernel)
abbrev st__law_great : Stmt := top 29
abbrev ps__law_great : List Str := ["bag"]
abbrev N__law_great : List Str := ["bag"]
abbrev vl__law_great : List Str := ["bag"]
def dg__law_great : DefG := ⟨(fun K => He.ga K "_law_great"), "_law_great", "_law_great", defArgs st__law_great, defBody st__law_great, defScope st__law_great, []⟩
theorem sc__law_great : FnScope N__law_great ps__law_great (defScope st__law_great) := scope_by rfl rfl rfl (by decide +kernel) rfl (by decide +kernel) (by decide +kernel)
theorem vs__law_great : VisS (defScope st__law_great) vl__law_great := visS_of (by decide +kernel)
abbrev st__law_signed : Stmt := top 30
abbrev ps__law_signed : List Str := ["bag", "number"]
abbrev N__law_signed : List Str := ["bag", "number"]
abbrev vl__law_signed : List Str := ["bag", "number"]
def dg__law_signed : DefG := ⟨(fun K => He.ga K "_law_signed"), "_law_signed", "_law_signed", defArgs st__law_signed, defBody st__law_signed, defScope st__law_signed, []⟩
theorem sc__law_signed : FnScope N__law_signed ps__law_signed (defScope st__law_signed) := scope_by rfl rfl rfl (by decide +kernel) rfl (by decide +kernel) (by decide +kernel)
theorem vs__law_signed : VisS (defScope st__law_signed) vl__law_signed := visS_of (by decide +kernel)
abbrev st__law_root : Stmt := top 31
abbrev ps__law_root : List Str := ["number"]
abbrev N__law_root : List Str := ["number", "near"]
abbrev vl__law_root : List Str := ["number", "near"]
def dg__law_root : DefG := ⟨(fun K => He.ga K "_law_root"), "_law_root", "_law_root", defArgs st__law_root, defBody st__law_root, defScope st__law_root, []⟩
theorem sc__law_root : FnScope N__law_root ps__law_root (defScope st__law_root) := scope_by rfl rfl rfl (by decide +kernel) rfl (by decide +kernel) (by decide +kernel)
theorem vs__law_root : VisS (defScope st__law_root) vl__law_root := visS_of (by decide +kernel)
abbrev st__law_sign : Stmt := top 32
abbrev ps__law_sign : List Str := ["told"]
abbrev N__law_sign : List Str := ["told", "whole", "part", "under", "square", "low"]
abbrev vl__law_sign : List Str := ["told", "whole", "part", "under", "square", "low"]
def dg__law_sign : DefG := ⟨(fun K => He.ga K "_law_sign"), "_law_sign", "_law_sign", defArgs st__law_sign, defBody st__law_sign, defScope st__law_sign, []⟩
theorem sc__law_sign : FnScope N__law_sign ps__law_sign (defScope st__law_sign) := scope_by rfl rfl rfl (by decide +kernel) rfl (by decide +kernel) (by decide +kernel)
theorem vs__law_sign : VisS (defScope st__law_sign) vl__law_sign := visS_of (by decide +kernel)
abbrev st__law_told : Stmt := top 33
abbrev ps__law_told : List Str := ["bag"]
abbrev N__law_told : List Str := ["bag", "way", "part", "under", "near", "root"]
abbrev vl__law_told : List Str := ["bag", "way", "part", "under", "near", "root"]
def dg__law_told : DefG := ⟨(fun K => He.ga K "_law_told"), "_law_told", "_law_told", defArgs st__law_told, defBody st__law_told, defScope st__law_told, []⟩
theorem sc__law_told : FnScope N__law_told ps__law_told (defScope st__law_told) := scope_by rfl rfl rfl (by decide +kernel) rfl (by decide +kernel) (by decide +kernel)
theorem vs__law_told : VisS (defScope st__law_told) vl__law_told := visS_of (by decide +kernel)
abbrev st__law_is : Stmt := top 34
abbrev ps__law_is : List Str := ["bound", "told"]
abbrev N__law_is : List Str := ["bound", "told", "part"]
abbrev vl__law_is : List Str := ["bound", "told"]
abbrev vl__law_is_b0 : List Str := ["part"]
def dg__law_is : DefG := ⟨(fun K => He.ga K "_law_is"), "_law_is", "_law_is", defArgs st__law_is, defBody st__law_is, defScope st__law_is, []⟩
theorem sc__law_is : FnScope N__law_is ps__law_is (defScope st__law_is) := scope_by rfl rfl rfl (by decide +kernel) rfl (by decide +kernel) (by decide +kernel)
theorem vs__law_is : VisS (defScope st__law_is) vl__law_is := visS_of (by decide +kernel)
abbrev st_Scan_init : Stmt := (clsBody (top 15)).getD 0 Pas
abbrev ps_Scan_init : List Str := ["self", "text", "line"]
abbrev N_Scan_init : List Str := ["self", "text", "line"]
abbrev vl_Scan_init : List Str := ["self", "text", "line"]
def dg_Scan_init : DefG := ⟨(fun K => He.ma K (He.ga K "Scan") "__init__"), "__init__", "Scan.__init__", defArgs st_Scan_init, defBody st_Scan_init, defScope st_Scan_init, [.int 0]⟩
theorem sc_Scan_init : FnScope N_Scan_init ps_Scan_init (defScope st_Scan_init) := scope_by rfl rfl rfl (by decide +kernel) rfl (by decide +kernel) (by decide +kernel)
theorem vs_Scan_init : VisS (defScope st_Scan_init) vl_Scan_init := visS_of (by decide +kernel)
abbrev st_Scan_ahead : Stmt := (clsBody (top 15)).getD 1 Pas
abbrev ps_Scan_ahead : List Str := ["self"]
abbrev N_Scan_ahead : List Str := ["self"]
abbrev vl_Scan_ahead : List Str := ["self"]
def dg_Scan_ahead : DefG := ⟨(fun K => He.ma K (He.ga K "Scan") "ahead"), "ahead", "Scan.ahead", defArgs st_Scan_ahead, defBody st_Scan_ahead, defScope st_Scan_ahead, []⟩
theorem sc_Scan_ahead : FnScope N_Scan_ahead ps_Scan_ahead (defScope st_Scan_ahead) := scope_by rfl rfl rfl (by decide +kernel) rfl (by decide +kernel) (by decide +kernel)
theorem vs_Scan_ahead : VisS (defScope st_Scan_ahead) vl_Scan_ahead := visS_of (by decide +kernel)
abbrev st_Scan_refuse : Stmt := (clsBody (top 15)).getD 2 Pas
abbrev ps_Scan_refuse : List Str := ["self"]
abbrev N_Scan_refuse : List Str := ["self"]
abbrev vl_Scan_refuse : List Str := ["self"]
def dg_Scan_refuse : DefG := ⟨(fun K => He.ma K (He.ga K "Scan") "refuse"), "refuse", "Scan.refuse", defArgs st_Scan_refuse, defBody st_Scan_refuse, defScope st_Scan_refuse, []⟩
theorem sc_Scan_refuse : FnScope N_Scan_refuse ps_Scan_refuse (defScope st_Scan_refuse) := scope_by rfl rfl rfl (by decide +kernel) rfl (by decide +kernel) (by decide +kernel)
theorem vs_Scan_refuse : VisS (defScope st_Scan_refuse) vl_Scan_refuse := visS_of (by decide +kernel)
abbrev st_Scan_take : Stmt := (clsBody (top 15)).getD 4 Pas
abbrev ps_Scan_take : List Str := ["self"]
abbrev N_Scan_take : List Str := ["self", "item"]
abbrev vl_Scan_take : List Str := ["self", "item"]
def dg_Scan_take : DefG := ⟨(fun K => He.ma K (He.ga K "Scan") "take"), "take", "Scan.take", defArgs st_Scan_take, defBody st_Scan_take, defScope st_Scan_take, []⟩
theorem sc_Scan_take : FnScope N_Scan_take ps_Scan_take (defScope st_Scan_take) := scope_by rfl rfl rfl (by decide +kernel) rfl (by decide +kernel) (by decide +kernel)
theorem vs_Scan_take : VisS (defScope st_Scan_take) vl_Scan_take := visS_of (by decide +kernel)
abbrev st_Scan_take_number : Stmt := (clsBody (top 15)).getD 6 Pas
abbrev ps_Scan_take_number : List Str := ["self", "least", "most"]
abbrev N_Scan_take_number : List Str := ["self", "least", "most", "item", "number"]
abbrev vl_Scan_take_number : List Str := ["self", "least", "most", "item", "number"]
def dg_Scan_take_number : DefG := ⟨(fun K => He.ma K (He.ga K "Scan") "take_number"), "take_number", "Scan.take_number", defArgs st_Scan_take_number, defBody st_Scan_take_number, defScope st_Scan_take_number, [.non, .non]⟩
theorem sc_Scan_take_number : FnScope N_Scan_take_number ps_Scan_take_number (defScope st_Scan_take_number) := scope_by rfl rfl rfl (by decide +kernel) rfl (by decide +kernel) (by decide +kernel)
theorem vs_Scan_take_number : VisS (defScope st_Scan_take_number) vl_Scan_take_number := visS_of (by decide +kernel)
abbrev st_Scan_finish : Stmt := (clsBody (top 15)).getD 7 Pas
abbrev ps_Scan_finish : List Str := ["self"]
abbrev N_Scan_finish : List Str := ["self"]
abbrev vl_Scan_finish : List Str := ["self"]
def dg_Scan_finish : DefG := ⟨(fun K => He.ma K (He.ga K "Scan") "finish"), "finish", "Scan.finish", defArgs st_Scan_finish, defBody st_Scan_finish, defScope st_Scan_finish, []⟩
theorem sc_Scan_finish : FnScope N_Scan_finish ps_Scan_finish (defScope st_Scan_finish) := scope_by rfl rfl rfl (by decide +kernel) rfl (by decide +kernel) (by decide +kernel)
theorem vs_Scan_finish : VisS (defScope st_Scan_finish) vl_Scan_finish := visS_of (by decide +kernel)
abbrev st_Bound_read : Stmt := (clsBody (top 17)).getD 1 Pas
abbrev ps_Bound_read : List Str := ["text"]
abbrev N_Bound_read : List Str := ["text", "scan", "whole", "part", "under"]
abbrev vl_Bound_read : List Str := ["text", "scan", "whole", "part", "under"]
def dg_Bound_read : DefG := ⟨(fun K => He5.wf K (He.ga K "Bound") "staticmethod" "read"), "read", "Bound.read", defArgs st_Bound_read, defBody st_Bound_read, defScope st_Bound_read, []⟩
theorem sc_Bound_read : FnScope N_Bound_read ps_Bound_read (defScope st_Bound_read) := scope_by rfl rfl rfl (by decide +kernel) rfl (by decide +kernel) (by decide +kernel)
theorem vs_Bound_read : VisS (defScope st_Bound_read) vl_Bound_read := visS_of (by decide +kernel)
abbrev st_Bound_str : Stmt := (clsBody (top 17)).getD 3 Pas
abbrev ps_Bound_str : List Str := ["self"]
abbrev N_Bound_str : List Str := ["self"]
abbrev vl_Bound_str : List Str := ["self"]
def dg_Bound_str : DefG := ⟨(fun K => He.ma K (He.ga K "Bound") "__str__"), "__str__", "Bound.__str__", defArgs st_Bound_str, defBody st_Bound_str, defScope st_Bound_str, []⟩
theorem sc_Bound_str : FnScope N_Bound_str ps_Bound_str (defScope st_Bound_str) := scope_by rfl rfl rfl (by decide +kernel) rfl (by decide +kernel) (by decide +kernel)
theorem vs_Bound_str : VisS (defScope st_Bound_str) vl_Bound_str := visS_of (by decide +kernel)
abbrev st__law_one_right : Stmt := top 35
abbrev ps__law_one_right : List Str := ["bag", "told"]
abbrev N__law_one_right : List Str := ["bag", "told", "whole", "part", "under", "bound", "other"]
abbrev vl__law_one_right : List Str := ["bag", "told", "whole", "part", "under", "bound", "other"]
def dg__law_one_right : DefG := ⟨(fun K => He.ga K "_law_one_right"), "_law_one_right", "_law_one_right", defArgs st__law_one_right, defBody st__law_one_right, defScope st__law_one_right, []⟩
theorem sc__law_one_right : FnScope N__law_one_right ps__law_one_right (defScope st__law_one_right) := scope_by rfl rfl rfl (by decide +kernel) rfl (by decide +kernel) (by decide +kernel)
theorem vs__law_one_right : VisS (defScope st__law_one_right) vl__law_one_right := visS_of (by decide +kernel)
abbrev st__law_other : Stmt := top 36
abbrev ps__law_other : List Str := ["bag", "told"]
abbrev N__law_other : List Str := ["bag", "told", "way", "other"]
abbrev vl__law_other : List Str := ["bag", "told", "way", "other"]
def dg__law_other : DefG := ⟨(fun K => He.ga K "_law_other"), "_law_other", "_law_other", defArgs st__law_other, defBody st__law_other, defScope st__law_other, []⟩
theorem sc__law_other : FnScope N__law_other ps__law_other (defScope st__law_other) := scope_by rfl rfl rfl (by decide +kernel) rfl (by decide +kernel) (by decide +kernel)
theorem vs__law_other : VisS (defScope st__law_other) vl__law_other := visS_of (by decide +kernel)
abbrev st__law_common : Stmt := top 37
abbrev ps__law_common : List Str := ["one", "other"]
abbrev N__law_common : List Str := ["one", "other"]
abbrev vl__law_common : List Str := ["one", "other"]
def dg__law_common : DefG := ⟨(fun K => He.ga K "_law_common"), "_law_common", "_law_common", defArgs st__law_common, defBody st__law_common, defScope st__law_common, []⟩
theorem sc__law_common : FnScope N__law_common ps__law_common (defScope st__law_common) := scope_by rfl rfl rfl (by decide +kernel) rfl (by decide +kernel) (by decide +kernel)
theorem vs__law_common : VisS (defScope st__law_common) vl__law_common := visS_of (by decide +kernel)
abbrev st__law_done : Stmt := top 38
abbrev ps__law_done : List Str := ["way", "one", "other"]
abbrev N__law_done : List Str := ["way", "one", "other", "error"]
abbrev vl__law_done : List Str := ["way", "one", "other", "error"]
def dg__law_done : DefG := ⟨(fun K => He.ga K "_law_done"), "_law_done", "_law_done", defArgs st__law_done, defBody st__law_done, defScope st__law_done, []⟩
theorem sc__law_done : FnScope N__law_done ps__law_done (defScope st__law_done) := scope_by rfl rfl rfl (by decide +kernel) rfl (by decide +kernel) (by decide +kernel)
theorem vs__law_done : VisS (defScope st__law_done) vl__law_done := visS_of (by decide +kernel)
abbrev st__law_two_right : Stmt := top 39
abbrev ps__law_two_right : List Str := ["bag", "one", "other"]
abbrev N__law_two_right : List Str := ["bag", "one", "other", "mine", "its", "under", "told", "total", "product", "left", "gain", "way"]
abbrev vl__law_two_right : List Str := ["bag", "one", "other", "mine", "its", "under", "told", "total", "product", "left", "gain"]
abbrev vl__law_two_right_b0 : List Str := ["way", "mine", "its"]
abbrev vl__law_two_right_b1 : List Str := ["way", "its", "mine"]
def dg__law_two_right : DefG := ⟨(fun K => He.ga K "_law_two_right"), "_law_two_right", "_law_two_right", defArgs st__law_two_right, defBody st__law_two_right, defScope st__law_two_right, []⟩
theorem sc__law_two_right : FnScope N__law_two_right ps__law_two_right (defScope st__law_two_right) := scope_by rfl rfl rfl (by decide +kernel) rfl (by decide +kernel) (by decide +kernel)
theorem vs__law_two_right : VisS (defScope st__law_two_right) vl__law_two_right := visS_of (by decide +kernel)
abbrev st__law_made : Stmt := top 40
abbrev ps__law_made : List Str := ["whole", "part", "under"]
abbrev N__law_made : List Str := ["whole", "part", "under", "error"]
abbrev vl__law_made : List Str := ["whole", "part", "under", "error"]
def dg__law_made : DefG := ⟨(fun K => He.ga K "_law_made"), "_law_made", "_law_made", defArgs st__law_made, defBody st__law_made, defScope st__law_made, []⟩
theorem sc__law_made : FnScope N__law_made ps__law_made (defScope st__law_made) := scope_by rfl rfl rfl (by decide +kernel) rfl (by decide +kernel) (by decide +kernel)
theorem vs__law_made : VisS (defScope st__law_made) vl__law_made := visS_of (by decide +kernel)
abbrev st__law_refused : Stmt := top 41
abbrev ps__law_refused : List Str := ["bag", "told"]
abbrev N__law_refused : List Str := ["bag", "told", "whole", "part", "under", "odd", "one", "other", "below", "made", "bound", "strange", "way", "told_errors", "error", "word"]
abbrev vl__law_refused : List Str := ["bag", "told", "whole", "part", "under", "odd", "one", "other", "below", "made", "bound", "strange", "way", "told_errors", "error"]
abbrev vl__law_refused_b0 : List Str := ["word"]
def dg__law_refused : DefG := ⟨(fun K => He.ga K "_law_refused"), "_law_refused", "_law_refused", defArgs st__law_refused, defBody st__law_refused, defScope st__law_refused, []⟩
theorem sc__law_refused : FnScope N__law_refused ps__law_refused (defScope st__law_refused) := scope_by rfl rfl rfl (by decide +kernel) rfl (by decide +kernel) (by decide +kernel)
theorem vs__law_refused : VisS (defScope st__law_refused) vl__law_refused := visS_of (by decide +kernel)
abbrev st_law : Stmt := top 42
abbrev ps_law : List Str := ["script"]
abbrev N_law : List Str := ["script", "bag", "turn", "told", "other"]
abbrev vl_law : List Str := ["script", "bag", "turn", "told", "other"]
def dg_law : DefG := ⟨(fun K => He.ga K "law"), "law", "law", defArgs st_law, defBody st_law, defScope st_law, []⟩
theorem sc_law : FnScope N_law ps_law (defScope st_law) := scope_by rfl rfl rfl (by decide +kernel) rfl (by decide +kernel) (by decide +kernel)
theorem vs_law : VisS (defScope st_law) vl_law := visS_of (by decide +kernel)
def tb_BadBound : Nat → Option Bool := fun c => ([(1, false), (2, true), (3, false), (4, false)] : List (Nat × Bool)).lookup c
def tb_BadNumber : Nat → Option Bool := fun c => ([(1, true), (2, false), (3, false), (4, false)] : List (Nat × Bool)).lookup c
def tb_Misfit : Nat → Option Bool := fun c => ([(1, false), (2, false), (3, true), (4, false)] : List (Nat × Bool)).lookup c
def tb_SignsError : Nat → Option Bool := fun c => ([(1, true), (2, true), (3, true), (4, true)] : List (Nat × Bool)).lookup c
def fa : List He.Fa := [.glo "BadBound", .glo "BadNumber", .glo "BadText", .glo "Bound", .glo "Misfit", .glo "Scan", .glo "SignsError", .glo "_law_bag", .glo "_law_common", .glo "_law_done", .glo "_law_draw", .glo "_law_great", .glo "_law_is", .glo "_law_made", .glo "_law_one_right", .glo "_law_other", .glo "_law_pick", .glo "_law_refused", .glo "_law_root", .glo "_law_sign", .glo "_law_signed", .glo "_law_told", .glo "_law_two_right", .glo "added", .glo "at_most", .glo "common_under", .glo "is_integer", .glo "is_within", .glo "is_written", .glo "law", .glo "multiplied", .glo "need_bound", .glo "need_number", .glo "sign_by", .glo "sign_of", .free "abs", .free "all", .free "bool", .free "int", .free "isinstance", .free "len", .free "list", .free "range", .free "str", .int "MOST_DIGITS" 60, .str "DIGITS" "0123456789", .mkr "Scan", .mkr "Bound", .meth "Bound" "__eq__", .meth "Bound" "__str__", .meth "Scan" "ahead", .meth "Scan" "finish", .meth "Scan" "refuse", .meth "Scan" "take", .meth "Scan" "take_number"]
def fb : List Fb := [.own cls, .err 1 [8], .err 2 [8], .err 3 [8], .err 4 [10, 11], .sta 6 "read", .neq 6, .noa cls 13, .noa cls 10, .noa cls 8, .noa cls 12, .noa cls 9, .noa cls 7, .exs 2 [(1, false), (2, true), (3, false), (4, false)], .exs 1 [(1, true), (2, false), (3, false), (4, false)], .exs 3 [(1, false), (2, false), (3, true), (4, false)], .exs 0 [(1, true), (2, true), (3, true), (4, true)]]
def fn : List DefG := [dg_is_integer, dg_Bound_eq, dg_is_within, dg_need_number, dg_is_written, dg_need_bound, dg_sign_by, dg_common_under, dg_sign_of, dg_Bound_init, dg_added, dg_multiplied, dg_at_most, dg__law_bag, dg__law_draw, dg__law_pick, dg__law_great, dg__law_signed, dg__law_root, dg__law_sign, dg__law_told, dg__law_is, dg_Scan_init, dg_Scan_ahead, dg_Scan_refuse, dg_Scan_take, dg_Scan_take_number, dg_Scan_finish, dg_Bound_read, dg_Bound_str, dg__law_one_right, dg__law_other, dg__law_common, dg__law_done, dg__law_two_right, dg__law_made, dg__law_refused, dg_law]
structure Tx (K : PySem.W.Frag) (mg : Str → Option Value) : Prop where
  ex : ∃ h : Heap, K.In h ∧ h.Ns mainGlobals mg
  c : SaysE PG NT fa fb fn K
section
variable {K : PySem.W.Frag} {mg : Str → Option Value}
theorem Tx.gl_BadBound (T : Tx K mg) : mg "BadBound" = some (.ref (He.ga K "BadBound")) := let ⟨_, X, G⟩ := T.ex; He.glo_ok X G (T.c.fact 0 (f := .glo "BadBound") rfl)
theorem Tx.gl_BadNumber (T : Tx K mg) : mg "BadNumber" = some (.ref (He.ga K "BadNumber")) := let ⟨_, X, G⟩ := T.ex; He.glo_ok X G (T.c.fact 1 (f := .glo "BadNumber") rfl)
theorem Tx.gl_BadText (T : Tx K mg) : mg "BadText" = some (.ref (He.ga K "BadText")) := let ⟨_, X, G⟩ := T.ex; He.glo_ok X G (T.c.fact 2 (f := .glo "BadText") rfl)
theorem Tx.gl_Bound (T : Tx K mg) : mg "Bound" = some (.ref (He.ga K "Bound")) := let ⟨_, X, G⟩ := T.ex; He.glo_ok X G (T.c.fact 3 (f := .glo "Bound") rfl)
theorem Tx.gl_Misfit (T : Tx K mg) : mg "Misfit" = some (.ref (He.ga K "Misfit")) := let ⟨_, X, G⟩ := T.ex; He.glo_ok X G (T.c.fact 4 (f := .glo "Misfit") rfl)
theorem Tx.gl_Scan (T : Tx K mg) : mg "Scan" = some (.ref (He.ga K "Scan")) := let ⟨_, X, G⟩ := T.ex; He.glo_ok X G (T.c.fact 5 (f := .glo "Scan") rfl)
theorem Tx.gl_SignsError (T : Tx K mg) : mg "SignsError" = some (.ref (He.ga K "SignsError")) := let ⟨_, X, G⟩ := T.ex; He.glo_ok X G (T.c.fact 6 (f := .glo "SignsError") rfl)
theorem Tx.gl__law_bag (T : Tx K mg) : mg "_law_bag" = some (.ref (He.ga K "_law_bag")) := let ⟨_, X, G⟩ := T.ex; He.glo_ok X G (T.c.fact 7 (f := .glo "_law_bag") rfl)
theorem Tx.gl__law_common (T : Tx K mg) : mg "_law_common" = some (.ref (He.ga K "_law_common")) := let ⟨_, X, G⟩ := T.ex; He.glo_ok X G (T.c.fact 8 (f := .glo "_law_common") rfl)
theorem Tx.gl__law_done (T : Tx K mg) : mg "_law_done" = some (.ref (He.ga K "_law_done")) := let ⟨_, X, G⟩ := T.ex; He.glo_ok X G (T.c.fact 9 (f := .glo "_law_done") rfl)
theorem Tx.gl__law_draw (T : Tx K mg) : mg "_law_draw" = some (.ref (He.ga K "_law_draw")) := let ⟨_, X, G⟩ := T.ex; He.glo_ok X G (T.c.fact 10 (f := .glo "_law_draw") rfl)
theorem Tx.gl__law_great (T : Tx K mg) : mg "_law_great" = some (.ref (He.ga K "_law_great")) := let ⟨_, X, G⟩ := T.ex; He.glo_ok X G (T.c.fact 11 (f := .glo "_law_great") rfl)
theorem Tx.gl__law_is (T : Tx K mg) : mg "_law_is" = some (.ref (He.ga K "_law_is")) := let ⟨_, X, G⟩ := T.ex; He.glo_ok X G (T.c.fact 12 (f := .glo "_law_is") rfl)
theorem Tx.gl__law_made (T : Tx K mg) : mg "_law_made" = some (.ref (He.ga K "_law_made")) := let ⟨_, X, G⟩ := T.ex; He.glo_ok X G (T.c.fact 13 (f := .glo "_law_made") rfl)
theorem Tx.gl__law_one_right (T : Tx K mg) : mg "_law_one_right" = some (.ref (He.ga K "_law_one_right")) := let ⟨_, X, G⟩ := T.ex; He.glo_ok X G (T.c.fact 14 (f := .glo "_law_one_right") rfl)
theorem Tx.gl__law_other (T : Tx K mg) : mg "_law_other" = some (.ref (He.ga K "_law_other")) := let ⟨_, X, G⟩ := T.ex; He.glo_ok X G (T.c.fact 15 (f := .glo "_law_other") rfl)
theorem Tx.gl__law_pick (T : Tx K mg) : mg "_law_pick" = some (.ref (He.ga K "_law_pick")) := let ⟨_, X, G⟩ := T.ex; He.glo_ok X G (T.c.fact 16 (f := .glo "_law_pick") rfl)
theorem Tx.gl__law_refused (T : Tx K mg) : mg "_law_refused" = some (.ref (He.ga K "_law_refused")) := let ⟨_, X, G⟩ := T.ex; He.glo_ok X G (T.c.fact 17 (f := .glo "_law_refused") rfl)
theorem Tx.gl__law_root (T : Tx K mg) : mg "_law_root" = some (.ref (He.ga K "_law_root")) := let ⟨_, X, G⟩ := T.ex; He.glo_ok X G (T.c.fact 18 (f := .glo "_law_root") rfl)
theorem Tx.gl__law_sign (T : Tx K mg) : mg "_law_sign" = some (.ref (He.ga K "_law_sign")) := let ⟨_, X, G⟩ := T.ex; He.glo_ok X G (T.c.fact 19 (f := .glo "_law_sign") rfl)
theorem Tx.gl__law_signed (T : Tx K mg) : mg "_law_signed" = some (.ref (He.ga K "_law_signed")) := let ⟨_, X, G⟩ := T.ex; He.glo_ok X G (T.c.fact 20 (f := .glo "_law_signed") rfl)
theorem Tx.gl__law_told (T : Tx K mg) : mg "_law_told" = some (.ref (He.ga K "_law_told")) := let ⟨_, X, G⟩ := T.ex; He.glo_ok X G (T.c.fact 21 (f := .glo "_law_told") rfl)
theorem Tx.gl__law_two_right (T : Tx K mg) : mg "_law_two_right" = some (.ref (He.ga K "_law_two_right")) := let ⟨_, X, G⟩ := T.ex; He.glo_ok X G (T.c.fact 22 (f := .glo "_law_two_right") rfl)
theorem Tx.gl_added (T : Tx K mg) : mg "added" = some (.ref (He.ga K "added")) := let ⟨_, X, G⟩ := T.ex; He.glo_ok X G (T.c.fact 23 (f := .glo "added") rfl)
theorem Tx.gl_at_most (T : Tx K mg) : mg "at_most" = some (.ref (He.ga K "at_most")) := let ⟨_, X, G⟩ := T.ex; He.glo_ok X G (T.c.fact 24 (f := .glo "at_most") rfl)
theorem Tx.gl_common_under (T : Tx K mg) : mg "common_under" = some (.ref (He.ga K "common_under")) := let ⟨_, X, G⟩ := T.ex; He.glo_ok X G (T.c.fact 25 (f := .glo "common_under") rfl)
theorem Tx.gl_is_integer (T : Tx K mg) : mg "is_integer" = some (.ref (He.ga K "is_integer")) := let ⟨_, X, G⟩ := T.ex; He.glo_ok X G (T.c.fact 26 (f := .glo "is_integer") rfl)
theorem Tx.gl_is_within (T : Tx K mg) : mg "is_within" = some (.ref (He.ga K "is_within")) := let ⟨_, X, G⟩ := T.ex; He.glo_ok X G (T.c.fact 27 (f := .glo "is_within") rfl)
theorem Tx.gl_is_written (T : Tx K mg) : mg "is_written" = some (.ref (He.ga K "is_written")) := let ⟨_, X, G⟩ := T.ex; He.glo_ok X G (T.c.fact 28 (f := .glo "is_written") rfl)
theorem Tx.gl_law (T : Tx K mg) : mg "law" = some (.ref (He.ga K "law")) := let ⟨_, X, G⟩ := T.ex; He.glo_ok X G (T.c.fact 29 (f := .glo "law") rfl)
theorem Tx.gl_multiplied (T : Tx K mg) : mg "multiplied" = some (.ref (He.ga K "multiplied")) := let ⟨_, X, G⟩ := T.ex; He.glo_ok X G (T.c.fact 30 (f := .glo "multiplied") rfl)
theorem Tx.gl_need_bound (T : Tx K mg) : mg "need_bound" = some (.ref (He.ga K "need_bound")) := let ⟨_, X, G⟩ := T.ex; He.glo_ok X G (T.c.fact 31 (f := .glo "need_bound") rfl)
theorem Tx.gl_need_number (T : Tx K mg) : mg "need_number" = some (.ref (He.ga K "need_number")) := let ⟨_, X, G⟩ := T.ex; He.glo_ok X G (T.c.fact 32 (f := .glo "need_number") rfl)
theorem Tx.gl_sign_by (T : Tx K mg) : mg "sign_by" = some (.ref (He.ga K "sign_by")) := let ⟨_, X, G⟩ := T.ex; He.glo_ok X G (T.c.fact 33 (f := .glo "sign_by") rfl)
theorem Tx.gl_sign_of (T : Tx K mg) : mg "sign_of" = some (.ref (He.ga K "sign_of")) := let ⟨_, X, G⟩ := T.ex; He.glo_ok X G (T.c.fact 34 (f := .glo "sign_of") rfl)
theorem Tx.fr_abs (T : Tx K mg) : mg "abs" = none := let ⟨_, X, G⟩ := T.ex; He.free_ok X G (T.c.fact 35 (f := .free "abs") rfl)
theorem Tx.fr_all (T : Tx K mg) : mg "all" = none := let ⟨_, X, G⟩ := T.ex; He.free_ok X G (T.c.fact 36 (f := .free "all") rfl)
theorem Tx.fr_bool (T : Tx K mg) : mg "bool" = none := let ⟨_, X, G⟩ := T.ex; He.free_ok X G (T.c.fact 37 (f := .free "bool") rfl)
theorem Tx.fr_int (T : Tx K mg) : mg "int" = none := let ⟨_, X, G⟩ := T.ex; He.free_ok X G (T.c.fact 38 (f := .free "int") rfl)
theorem Tx.fr_isinstance (T : Tx K mg) : mg "isinstance" = none := let ⟨_, X, G⟩ := T.ex; He.free_ok X G (T.c.fact 39 (f := .free "isinstance") rfl)
theorem Tx.fr_len (T : Tx K mg) : mg "len" = none := let ⟨_, X, G⟩ := T.ex; He.free_ok X G (T.c.fact 40 (f := .free "len") rfl)
theorem Tx.fr_list (T : Tx K mg) : mg "list" = none := let ⟨_, X, G⟩ := T.ex; He.free_ok X G (T.c.fact 41 (f := .free "list") rfl)
theorem Tx.fr_range (T : Tx K mg) : mg "range" = none := let ⟨_, X, G⟩ := T.ex; He.free_ok X G (T.c.fact 42 (f := .free "range") rfl)
theorem Tx.fr_str (T : Tx K mg) : mg "str" = none := let ⟨_, X, G⟩ := T.ex; He.free_ok X G (T.c.fact 43 (f := .free "str") rfl)
theorem Tx.gc_MOST_DIGITS (T : Tx K mg) : ∃ t, mg "MOST_DIGITS" = some (.int 60 t) := let ⟨_, X, G⟩ := T.ex; He.int_ok X G (T.c.fact 44 (f := .int "MOST_DIGITS" 60) rfl)
theorem Tx.gc_DIGITS (T : Tx K mg) : ∃ t, mg "DIGITS" = some (.str "0123456789" t) := let ⟨_, X, G⟩ := T.ex; He.str_ok X G (T.c.fact 45 (f := .str "DIGITS" "0123456789") rfl)
theorem Tx.own (T : Tx K mg) : OwnOk K NT cls := tysB_ok (T.c.more 0 (f := .own cls) rfl)
theorem Tx.er_BadNumber (T : Tx K mg) : PtE.ErrTxt PG K (ga K NT 1) (([8] : List Nat).map (nm NT)) := PtE.errB_ok (T.c.more 1 (f := .err 1 [8]) rfl)
theorem Tx.er_BadBound (T : Tx K mg) : PtE.ErrTxt PG K (ga K NT 2) (([8] : List Nat).map (nm NT)) := PtE.errB_ok (T.c.more 2 (f := .err 2 [8]) rfl)
theorem Tx.er_Misfit (T : Tx K mg) : PtE.ErrTxt PG K (ga K NT 3) (([8] : List Nat).map (nm NT)) := PtE.errB_ok (T.c.more 3 (f := .err 3 [8]) rfl)
theorem Tx.er_BadText (T : Tx K mg) : PtE.ErrTxt PG K (ga K NT 4) (([10, 11] : List Nat).map (nm NT)) := PtE.errB_ok (T.c.more 4 (f := .err 4 [10, 11]) rfl)
theorem Tx.st_Bound_read (T : Tx K mg) : SMet K (ga K NT 6) (.type "type") "read" (He.ma K (ga K NT 6) "read") (He5.wf K (ga K NT 6) "staticmethod" "read") := sta_ok (T.c.more 5 (f := .sta 6 "read") rfl)
theorem Tx.ne_Bound (T : Tx K mg) : PySem.W.findIn K (.ref (ga K NT 6)) "__ne__" = some (some (.builtin "object.__ne__")) := He.eqO_ok (T.c.more 6 (f := .neq 6) rfl)
theorem Tx.fd_at (T : Tx K mg) : FldOk K NT cls 13 := noa_ok (T.c.more 7 (f := .noa cls 13) rfl) nt_nd (by decide) T.own
theorem Tx.fd_line (T : Tx K mg) : FldOk K NT cls 10 := noa_ok (T.c.more 8 (f := .noa cls 10) rfl) nt_nd (by decide) T.own
theorem Tx.fd_part (T : Tx K mg) : FldOk K NT cls 8 := noa_ok (T.c.more 9 (f := .noa cls 8) rfl) nt_nd (by decide) T.own
theorem Tx.fd_pieces (T : Tx K mg) : FldOk K NT cls 12 := noa_ok (T.c.more 10 (f := .noa cls 12) rfl) nt_nd (by decide) T.own
theorem Tx.fd_under (T : Tx K mg) : FldOk K NT cls 9 := noa_ok (T.c.more 11 (f := .noa cls 9) rfl) nt_nd (by decide) T.own
theorem Tx.fd_whole (T : Tx K mg) : FldOk K NT cls 7 := noa_ok (T.c.more 12 (f := .noa cls 7) rfl) nt_nd (by decide) T.own
theorem Tx.tb_BadBound (T : Tx K mg) : ∀ Cx b, tb_BadBound Cx = some b → PySem.W.exmOne K (.ref (ga K NT Cx)) (.ref (He.ga K "BadBound")) = some b := exs_ok (T.c.more 13 (f := .exs 2 [(1, false), (2, true), (3, false), (4, false)]) rfl)
theorem Tx.tb_BadNumber (T : Tx K mg) : ∀ Cx b, tb_BadNumber Cx = some b → PySem.W.exmOne K (.ref (ga K NT Cx)) (.ref (He.ga K "BadNumber")) = some b := exs_ok (T.c.more 14 (f := .exs 1 [(1, true), (2, false), (3, false), (4, false)]) rfl)
theorem Tx.tb_Misfit (T : Tx K mg) : ∀ Cx b, tb_Misfit Cx = some b → PySem.W.exmOne K (.ref (ga K NT Cx)) (.ref (He.ga K "Misfit")) = some b := exs_ok (T.c.more 15 (f := .exs 3 [(1, false), (2, false), (3, true), (4, false)]) rfl)
theorem Tx.tb_SignsError (T : Tx K mg) : ∀ Cx b, tb_SignsError Cx = some b → PySem.W.exmOne K (.ref (ga K NT Cx)) (.ref (He.ga K "SignsError")) = some b := exs_ok (T.c.more 16 (f := .exs 0 [(1, true), (2, true), (3, true), (4, true)]) rfl)
theorem Tx.mk_Scan (T : Tx K mg) : Mk K (He.ga K "Scan") (He.ma K (He.ga K "Scan") "__init__") := He.mkr_ok (T.c.fact 46 (f := .mkr "Scan") rfl)
theorem Tx.mk_Bound (T : Tx K mg) : Mk K (He.ga K "Bound") (He.ma K (He.ga K "Bound") "__init__") := He.mkr_ok (T.c.fact 47 (f := .mkr "Bound") rfl)
theorem Tx.me_Bound_eq (T : Tx K mg) : Meth K (He.ga K "Bound") "__eq__" (He.ma K (He.ga K "Bound") "__eq__") := He.meth_ok (T.c.fact 48 (f := .meth "Bound" "__eq__") rfl)
theorem Tx.me_Bound_str (T : Tx K mg) : Meth K (He.ga K "Bound") "__str__" (He.ma K (He.ga K "Bound") "__str__") := He.meth_ok (T.c.fact 49 (f := .meth "Bound" "__str__") rfl)
theorem Tx.me_Scan_ahead (T : Tx K mg) : Meth K (He.ga K "Scan") "ahead" (He.ma K (He.ga K "Scan") "ahead") := He.meth_ok (T.c.fact 50 (f := .meth "Scan" "ahead") rfl)
theorem Tx.me_Scan_finish (T : Tx K mg) : Meth K (He.ga K "Scan") "finish" (He.ma K (He.ga K "Scan") "finish") := He.meth_ok (T.c.fact 51 (f := .meth "Scan" "finish") rfl)
theorem Tx.me_Scan_refuse (T : Tx K mg) : Meth K (He.ga K "Scan") "refuse" (He.ma K (He.ga K "Scan") "refuse") := He.meth_ok (T.c.fact 52 (f := .meth "Scan" "refuse") rfl)
theorem Tx.me_Scan_take (T : Tx K mg) : Meth K (He.ga K "Scan") "take" (He.ma K (He.ga K "Scan") "take") := He.meth_ok (T.c.fact 53 (f := .meth "Scan" "take") rfl)
theorem Tx.me_Scan_take_number (T : Tx K mg) : Meth K (He.ga K "Scan") "take_number" (He.ma K (He.ga K "Scan") "take_number") := He.meth_ok (T.c.fact 54 (f := .meth "Scan" "take_number") rfl)
theorem kb_Bound_init_1_under_whole_part {f : Addr} {fn : FuncData} (F : FunD K "__init__" "Bound.__init__" (defArgs st_Bound_init) (defBody st_Bound_init) (defScope st_Bound_init) ((dg_Bound_init).dvs K) [] f fn) : ∃ gg, KBn K fn ps_Bound_init 1 (["under", "whole", "part"] : List Str) gg (fun vs zs => gSel1 [1, 2, 0] vs ((dg_Bound_init).dvs K) zs) :=
  kb_any F 1 (["under", "whole", "part"] : List Str) (gSel1 [1, 2, 0]) (gSel1_rel [1, 2, 0]) (fun _ kV doc pm an cdv ct us ws l1 l2 => match us, ws, l1, l2 with | [_], [_, _, _], _, _ => rfl) (fun e => absurd rfl e)
theorem kb_Bound_init_4 {f : Addr} {fn : FuncData} (F : FunD K "__init__" "Bound.__init__" (defArgs st_Bound_init) (defBody st_Bound_init) (defScope st_Bound_init) ((dg_Bound_init).dvs K) [] f fn) : ∃ gg, KBn K fn ps_Bound_init 4 ([] : List Str) gg (fun vs zs => gSel1 [0, 1, 2] vs ((dg_Bound_init).dvs K) zs) :=
  kb_any F 4 ([] : List Str) (gSel1 [0, 1, 2]) (gSel1_rel [0, 1, 2]) (fun _ kV doc pm an cdv ct us ws l1 l2 => match us, ws, l1, l2 with | [_, _, _, _], [], _, _ => rfl) (fun e => absurd rfl e)
theorem kb_Bound_read_1 {f : Addr} {fn : FuncData} (F : FunD K "read" "Bound.read" (defArgs st_Bound_read) (defBody st_Bound_read) (defScope st_Bound_read) ((dg_Bound_read).dvs K) [] f fn) : ∃ gg, KBn K fn ps_Bound_read 1 ([] : List Str) gg (fun vs zs => gSel [0] vs ((dg_Bound_read).dvs K) zs) :=
  kb_any F 1 ([] : List Str) (gSel [0]) (gSel_rel [0]) (fun _ kV doc pm an cdv ct us ws l1 l2 => match us, ws, l1, l2 with | [_], [], _, _ => rfl) (fun e => absurd rfl e)
theorem kb_Scan_ahead_1 {f : Addr} {fn : FuncData} (F : FunD K "ahead" "Scan.ahead" (defArgs st_Scan_ahead) (defBody st_Scan_ahead) (defScope st_Scan_ahead) ((dg_Scan_ahead).dvs K) [] f fn) : ∃ gg, KBn K fn ps_Scan_ahead 1 ([] : List Str) gg (fun vs zs => gSel1 [] vs ((dg_Scan_ahead).dvs K) zs) :=
  kb_any F 1 ([] : List Str) (gSel1 []) (gSel1_rel []) (fun _ kV doc pm an cdv ct us ws l1 l2 => match us, ws, l1, l2 with | [_], [], _, _ => rfl) (fun e => absurd rfl e)
theorem kb_Scan_finish_1 {f : Addr} {fn : FuncData} (F : FunD K "finish" "Scan.finish" (defArgs st_Scan_finish) (defBody st_Scan_finish) (defScope st_Scan_finish) ((dg_Scan_finish).dvs K) [] f fn) : ∃ gg, KBn K fn ps_Scan_finish 1 ([] : List Str) gg (fun vs zs => gSel1 [] vs ((dg_Scan_finish).dvs K) zs) :=
  kb_any F 1 ([] : List Str) (gSel1 []) (gSel1_rel []) (fun _ kV doc pm an cdv ct us ws l1 l2 => match us, ws, l1, l2 with | [_], [], _, _ => rfl) (fun e => absurd rfl e)
theorem kb_Scan_init_2 {f : Addr} {fn : FuncData} (F : FunD K "__init__" "Scan.__init__" (defArgs st_Scan_init) (defBody st_Scan_init) (defScope st_Scan_init) ((dg_Scan_init).dvs K) [] f fn) : ∃ gg, KBn K fn ps_Scan_init 2 ([] : List Str) gg (fun vs zs => gSel1 [0, 1] vs ((dg_Scan_init).dvs K) zs) :=
  kb_any F 2 ([] : List Str) (gSel1 [0, 1]) (gSel1_rel [0, 1]) (fun e => nomatch e) (fun _ T kV doc pm an cdv ct us its ws l1 l2 l3 => match us, its, ws, l1, l2, l3 with | [_, _], [_], [], _, _, _ => ⟨_, rfl, rfl⟩)
theorem kb_Scan_refuse_1 {f : Addr} {fn : FuncData} (F : FunD K "refuse" "Scan.refuse" (defArgs st_Scan_refuse) (defBody st_Scan_refuse) (defScope st_Scan_refuse) ((dg_Scan_refuse).dvs K) [] f fn) : ∃ gg, KBn K fn ps_Scan_refuse 1 ([] : List Str) gg (fun vs zs => gSel1 [] vs ((dg_Scan_refuse).dvs K) zs) :=
  kb_any F 1 ([] : List Str) (gSel1 []) (gSel1_rel []) (fun _ kV doc pm an cdv ct us ws l1 l2 => match us, ws, l1, l2 with | [_], [], _, _ => rfl) (fun e => absurd rfl e)
theorem kb_Scan_take_1 {f : Addr} {fn : FuncData} (F : FunD K "take" "Scan.take" (defArgs st_Scan_take) (defBody st_Scan_take) (defScope st_Scan_take) ((dg_Scan_take).dvs K) [] f fn) : ∃ gg, KBn K fn ps_Scan_take 1 ([] : List Str) gg (fun vs zs => gSel1 [] vs ((dg_Scan_take).dvs K) zs) :=
  kb_any F 1 ([] : List Str) (gSel1 []) (gSel1_rel []) (fun _ kV doc pm an cdv ct us ws l1 l2 => match us, ws, l1, l2 with | [_], [], _, _ => rfl) (fun e => absurd rfl e)
theorem kb_Scan_take_number_1 {f : Addr} {fn : FuncData} (F : FunD K "take_number" "Scan.take_number" (defArgs st_Scan_take_number) (defBody st_Scan_take_number) (defScope st_Scan_take_number) ((dg_Scan_take_number).dvs K) [] f fn) : ∃ gg, KBn K fn ps_Scan_take_number 1 ([] : List Str) gg (fun vs zs => gSel1 [0, 1] vs ((dg_Scan_take_number).dvs K) zs) :=
  kb_any F 1 ([] : List Str) (gSel1 [0, 1]) (gSel1_rel [0, 1]) (fun e => nomatch e) (fun _ T kV doc pm an cdv ct us its ws l1 l2 l3 => match us, its, ws, l1, l2, l3 with | [_], [_, _], [], _, _, _ => ⟨_, rfl, rfl⟩)
theorem kb_Scan_take_number_2 {f : Addr} {fn : FuncData} (F : FunD K "take_number" "Scan.take_number" (defArgs st_Scan_take_number) (defBody st_Scan_take_number) (defScope st_Scan_take_number) ((dg_Scan_take_number).dvs K) [] f fn) : ∃ gg, KBn K fn ps_Scan_take_number 2 ([] : List Str) gg (fun vs zs => gSel1 [0, 2] vs ((dg_Scan_take_number).dvs K) zs) :=
  kb_any F 2 ([] : List Str) (gSel1 [0, 2]) (gSel1_rel [0, 2]) (fun e => nomatch e) (fun _ T kV doc pm an cdv ct us its ws l1 l2 l3 => match us, its, ws, l1, l2, l3 with | [_, _], [_, _], [], _, _, _ => ⟨_, rfl, rfl⟩)
theorem kb__law_bag_1 {f : Addr} {fn : FuncData} (F : FunD K "_law_bag" "_law_bag" (defArgs st__law_bag) (defBody st__law_bag) (defScope st__law_bag) ((dg__law_bag).dvs K) [] f fn) : ∃ gg, KBn K fn ps__law_bag 1 ([] : List Str) gg (fun vs zs => gSel [0] vs ((dg__law_bag).dvs K) zs) :=
  kb_any F 1 ([] : List Str) (gSel [0]) (gSel_rel [0]) (fun _ kV doc pm an cdv ct us ws l1 l2 => match us, ws, l1, l2 with | [_], [], _, _ => rfl) (fun e => absurd rfl e)
theorem kb__law_common_2 {f : Addr} {fn : FuncData} (F : FunD K "_law_common" "_law_common" (defArgs st__law_common) (defBody st__law_common) (defScope st__law_common) ((dg__law_common).dvs K) [] f fn) : ∃ gg, KBn K fn ps__law_common 2 ([] : List Str) gg (fun vs zs => gSel [0, 1] vs ((dg__law_common).dvs K) zs) :=
  kb_any F 2 ([] : List Str) (gSel [0, 1]) (gSel_rel [0, 1]) (fun _ kV doc pm an cdv ct us ws l1 l2 => match us, ws, l1, l2 with | [_, _], [], _, _ => rfl) (fun e => absurd rfl e)
theorem kb__law_done_3 {f : Addr} {fn : FuncData} (F : FunD K "_law_done" "_law_done" (defArgs st__law_done) (defBody st__law_done) (defScope st__law_done) ((dg__law_done).dvs K) [] f fn) : ∃ gg, KBn K fn ps__law_done 3 ([] : List Str) gg (fun vs zs => gSel [0, 1, 2] vs ((dg__law_done).dvs K) zs) :=
  kb_any F 3 ([] : List Str) (gSel [0, 1, 2]) (gSel_rel [0, 1, 2]) (fun _ kV doc pm an cdv ct us ws l1 l2 => match us, ws, l1, l2 with | [_, _, _], [], _, _ => rfl) (fun e => absurd rfl e)
theorem kb__law_draw_2 {f : Addr} {fn : FuncData} (F : FunD K "_law_draw" "_law_draw" (defArgs st__law_draw) (defBody st__law_draw) (defScope st__law_draw) ((dg__law_draw).dvs K) [] f fn) : ∃ gg, KBn K fn ps__law_draw 2 ([] : List Str) gg (fun vs zs => gSel1 [0] vs ((dg__law_draw).dvs K) zs) :=
  kb_any F 2 ([] : List Str) (gSel1 [0]) (gSel1_rel [0]) (fun _ kV doc pm an cdv ct us ws l1 l2 => match us, ws, l1, l2 with | [_, _], [], _, _ => rfl) (fun e => absurd rfl e)
theorem kb__law_great_1 {f : Addr} {fn : FuncData} (F : FunD K "_law_great" "_law_great" (defArgs st__law_great) (defBody st__law_great) (defScope st__law_great) ((dg__law_great).dvs K) [] f fn) : ∃ gg, KBn K fn ps__law_great 1 ([] : List Str) gg (fun vs zs => gSel1 [] vs ((dg__law_great).dvs K) zs) :=
  kb_any F 1 ([] : List Str) (gSel1 []) (gSel1_rel []) (fun _ kV doc pm an cdv ct us ws l1 l2 => match us, ws, l1, l2 with | [_], [], _, _ => rfl) (fun e => absurd rfl e)
theorem kb__law_is_2 {f : Addr} {fn : FuncData} (F : FunD K "_law_is" "_law_is" (defArgs st__law_is) (defBody st__law_is) (defScope st__law_is) ((dg__law_is).dvs K) [] f fn) : ∃ gg, KBn K fn ps__law_is 2 ([] : List Str) gg (fun vs zs => gSel [0, 1] vs ((dg__law_is).dvs K) zs) :=
  kb_any F 2 ([] : List Str) (gSel [0, 1]) (gSel_rel [0, 1]) (fun _ kV doc pm an cdv ct us ws l1 l2 => match us, ws, l1, l2 with | [_, _], [], _, _ => rfl) (fun e => absurd rfl e)
theorem kb__law_made_3 {f : Addr} {fn : FuncData} (F : FunD K "_law_made" "_law_made" (defArgs st__law_made) (defBody st__law_made) (defScope st__law_made) ((dg__law_made).dvs K) [] f fn) : ∃ gg, KBn K fn ps__law_made 3 ([] : List Str) gg (fun vs zs => gSel [0, 1, 2] vs ((dg__law_made).dvs K) zs) :=
  kb_any F 3 ([] : List Str) (gSel [0, 1, 2]) (gSel_rel [0, 1, 2]) (fun _ kV doc pm an cdv ct us ws l1 l2 => match us, ws, l1, l2 with | [_, _, _], [], _, _ => rfl) (fun e => absurd rfl e)
theorem kb__law_one_right_2 {f : Addr} {fn : FuncData} (F : FunD K "_law_one_right" "_law_one_right" (defArgs st__law_one_right) (defBody st__law_one_right) (defScope st__law_one_right) ((dg__law_one_right).dvs K) [] f fn) : ∃ gg, KBn K fn ps__law_one_right 2 ([] : List Str) gg (fun vs zs => gSel1 [0] vs ((dg__law_one_right).dvs K) zs) :=
  kb_any F 2 ([] : List Str) (gSel1 [0]) (gSel1_rel [0]) (fun _ kV doc pm an cdv ct us ws l1 l2 => match us, ws, l1, l2 with | [_, _], [], _, _ => rfl) (fun e => absurd rfl e)
theorem kb__law_other_2 {f : Addr} {fn : FuncData} (F : FunD K "_law_other" "_law_other" (defArgs st__law_other) (defBody st__law_other) (defScope st__law_other) ((dg__law_other).dvs K) [] f fn) : ∃ gg, KBn K fn ps__law_other 2 ([] : List Str) gg (fun vs zs => gSel1 [0] vs ((dg__law_other).dvs K) zs) :=
  kb_any F 2 ([] : List Str) (gSel1 [0]) (gSel1_rel [0]) (fun _ kV doc pm an cdv ct us ws l1 l2 => match us, ws, l1, l2 with | [_, _], [], _, _ => rfl) (fun e => absurd rfl e)
theorem kb__law_pick_2 {f : Addr} {fn : FuncData} (F : FunD K "_law_pick" "_law_pick" (defArgs st__law_pick) (defBody st__law_pick) (defScope st__law_pick) ((dg__law_pick).dvs K) [] f fn) : ∃ gg, KBn K fn ps__law_pick 2 ([] : List Str) gg (fun vs zs => gSel1 [0] vs ((dg__law_pick).dvs K) zs) :=
  kb_any F 2 ([] : List Str) (gSel1 [0]) (gSel1_rel [0]) (fun _ kV doc pm an cdv ct us ws l1 l2 => match us, ws, l1, l2 with | [_, _], [], _, _ => rfl) (fun e => absurd rfl e)
theorem kb__law_refused_2 {f : Addr} {fn : FuncData} (F : FunD K "_law_refused" "_law_refused" (defArgs st__law_refused) (defBody st__law_refused) (defScope st__law_refused) ((dg__law_refused).dvs K) [] f fn) : ∃ gg, KBn K fn ps__law_refused 2 ([] : List Str) gg (fun vs zs => gSel1 [0] vs ((dg__law_refused).dvs K) zs) :=
  kb_any F 2 ([] : List Str) (gSel1 [0]) (gSel1_rel [0]) (fun _ kV doc pm an cdv ct us ws l1 l2 => match us, ws, l1, l2 with | [_, _], [], _, _ => rfl) (fun e => absurd rfl e)
theorem kb__law_root_1 {f : Addr} {fn : FuncData} (F : FunD K "_law_root" "_law_root" (defArgs st__law_root) (defBody st__law_root) (defScope st__law_root) ((dg__law_root).dvs K) [] f fn) : ∃ gg, KBn K fn ps__law_root 1 ([] : List Str) gg (fun vs zs => gSel [0] vs ((dg__law_root).dvs K) zs) :=
  kb_any F 1 ([] : List Str) (gSel [0]) (gSel_rel [0]) (fun _ kV doc pm an cdv ct us ws l1 l2 => match us, ws, l1, l2 with | [_], [], _, _ => rfl) (fun e => absurd rfl e)
theorem kb__law_sign_1 {f : Addr} {fn : FuncData} (F : FunD K "_law_sign" "_law_sign" (defArgs st__law_sign) (defBody st__law_sign) (defScope st__law_sign) ((dg__law_sign).dvs K) [] f fn) : ∃ gg, KBn K fn ps__law_sign 1 ([] : List Str) gg (fun vs zs => gSel [0] vs ((dg__law_sign).dvs K) zs) :=
  kb_any F 1 ([] : List Str) (gSel [0]) (gSel_rel [0]) (fun _ kV doc pm an cdv ct us ws l1 l2 => match us, ws, l1, l2 with | [_], [], _, _ => rfl) (fun e => absurd rfl e)
theorem kb__law_signed_2 {f : Addr} {fn : FuncData} (F : FunD K "_law_signed" "_law_signed" (defArgs st__law_signed) (defBody st__law_signed) (defScope st__law_signed) ((dg__law_signed).dvs K) [] f fn) : ∃ gg, KBn K fn ps__law_signed 2 ([] : List Str) gg (fun vs zs => gSel1 [0] vs ((dg__law_signed).dvs K) zs) :=
  kb_any F 2 ([] : List Str) (gSel1 [0]) (gSel1_rel [0]) (fun _ kV doc pm an cdv ct us ws l1 l2 => match us, ws, l1, l2 with | [_, _], [], _, _ => rfl) (fun e => absurd rfl e)
theorem kb__law_told_1 {f : Addr} {fn : FuncData} (F : FunD K "_law_told" "_law_told" (defArgs st__law_told) (defBody st__law_told) (defScope st__law_told) ((dg__law_told).dvs K) [] f fn) : ∃ gg, KBn K fn ps__law_told 1 ([] : List Str) gg (fun vs zs => gSel1 [] vs ((dg__law_told).dvs K) zs) :=
  kb_any F 1 ([] : List Str) (gSel1 []) (gSel1_rel []) (fun _ kV doc pm an cdv ct us ws l1 l2 => match us, ws, l1, l2 with | [_], [], _, _ => rfl) (fun e => absurd rfl e)
theorem kb__law_two_right_3 {f : Addr} {fn : FuncData} (F : FunD K "_law_two_right" "_law_two_right" (defArgs st__law_two_right) (defBody st__law_two_right) (defScope st__law_two_right) ((dg__law_two_right).dvs K) [] f fn) : ∃ gg, KBn K fn ps__law_two_right 3 ([] : List Str) gg (fun vs zs => gSel1 [0, 1] vs ((dg__law_two_right).dvs K) zs) :=
  kb_any F 3 ([] : List Str) (gSel1 [0, 1]) (gSel1_rel [0, 1]) (fun _ kV doc pm an cdv ct us ws l1 l2 => match us, ws, l1, l2 with | [_, _, _], [], _, _ => rfl) (fun e => absurd rfl e)
theorem kb_added_0_other_one {f : Addr} {fn : FuncData} (F : FunD K "added" "added" (defArgs st_added) (defBody st_added) (defScope st_added) ((dg_added).dvs K) [] f fn) : ∃ gg, KBn K fn ps_added 0 (["other", "one"] : List Str) gg (fun vs zs => gSel [1, 0] vs ((dg_added).dvs K) zs) :=
  kb_any F 0 (["other", "one"] : List Str) (gSel [1, 0]) (gSel_rel [1, 0]) (fun _ kV doc pm an cdv ct us ws l1 l2 => match us, ws, l1, l2 with | [], [_, _], _, _ => rfl) (fun e => absurd rfl e)
theorem kb_added_2 {f : Addr} {fn : FuncData} (F : FunD K "added" "added" (defArgs st_added) (defBody st_added) (defScope st_added) ((dg_added).dvs K) [] f fn) : ∃ gg, KBn K fn ps_added 2 ([] : List Str) gg (fun vs zs => gSel [0, 1] vs ((dg_added).dvs K) zs) :=
  kb_any F 2 ([] : List Str) (gSel [0, 1]) (gSel_rel [0, 1]) (fun _ kV doc pm an cdv ct us ws l1 l2 => match us, ws, l1, l2 with | [_, _], [], _, _ => rfl) (fun e => absurd rfl e)
theorem kb_at_most_0_other_one {f : Addr} {fn : FuncData} (F : FunD K "at_most" "at_most" (defArgs st_at_most) (defBody st_at_most) (defScope st_at_most) ((dg_at_most).dvs K) [] f fn) : ∃ gg, KBn K fn ps_at_most 0 (["other", "one"] : List Str) gg (fun vs zs => gSel [1, 0] vs ((dg_at_most).dvs K) zs) :=
  kb_any F 0 (["other", "one"] : List Str) (gSel [1, 0]) (gSel_rel [1, 0]) (fun _ kV doc pm an cdv ct us ws l1 l2 => match us, ws, l1, l2 with | [], [_, _], _, _ => rfl) (fun e => absurd rfl e)
theorem kb_at_most_2 {f : Addr} {fn : FuncData} (F : FunD K "at_most" "at_most" (defArgs st_at_most) (defBody st_at_most) (defScope st_at_most) ((dg_at_most).dvs K) [] f fn) : ∃ gg, KBn K fn ps_at_most 2 ([] : List Str) gg (fun vs zs => gSel [0, 1] vs ((dg_at_most).dvs K) zs) :=
  kb_any F 2 ([] : List Str) (gSel [0, 1]) (gSel_rel [0, 1]) (fun _ kV doc pm an cdv ct us ws l1 l2 => match us, ws, l1, l2 with | [_, _], [], _, _ => rfl) (fun e => absurd rfl e)
theorem kb_common_under_2 {f : Addr} {fn : FuncData} (F : FunD K "common_under" "common_under" (defArgs st_common_under) (defBody st_common_under) (defScope st_common_under) ((dg_common_under).dvs K) [] f fn) : ∃ gg, KBn K fn ps_common_under 2 ([] : List Str) gg (fun vs zs => gSel [0, 1] vs ((dg_common_under).dvs K) zs) :=
  kb_any F 2 ([] : List Str) (gSel [0, 1]) (gSel_rel [0, 1]) (fun _ kV doc pm an cdv ct us ws l1 l2 => match us, ws, l1, l2 with | [_, _], [], _, _ => rfl) (fun e => absurd rfl e)
theorem kb_is_integer_1 {f : Addr} {fn : FuncData} (F : FunD K "is_integer" "is_integer" (defArgs st_is_integer) (defBody st_is_integer) (defScope st_is_integer) ((dg_is_integer).dvs K) [] f fn) : ∃ gg, KBn K fn ps_is_integer 1 ([] : List Str) gg (fun vs zs => gSel [0] vs ((dg_is_integer).dvs K) zs) :=
  kb_any F 1 ([] : List Str) (gSel [0]) (gSel_rel [0]) (fun _ kV doc pm an cdv ct us ws l1 l2 => match us, ws, l1, l2 with | [_], [], _, _ => rfl) (fun e => absurd rfl e)
theorem kb_is_within_3 {f : Addr} {fn : FuncData} (F : FunD K "is_within" "is_within" (defArgs st_is_within) (defBody st_is_within) (defScope st_is_within) ((dg_is_within).dvs K) [] f fn) : ∃ gg, KBn K fn ps_is_within 3 ([] : List Str) gg (fun vs zs => gSel [0, 1, 2] vs ((dg_is_within).dvs K) zs) :=
  kb_any F 3 ([] : List Str) (gSel [0, 1, 2]) (gSel_rel [0, 1, 2]) (fun _ kV doc pm an cdv ct us ws l1 l2 => match us, ws, l1, l2 with | [_, _, _], [], _, _ => rfl) (fun e => absurd rfl e)
theorem kb_is_written_1 {f : Addr} {fn : FuncData} (F : FunD K "is_written" "is_written" (defArgs st_is_written) (defBody st_is_written) (defScope st_is_written) ((dg_is_written).dvs K) [] f fn) : ∃ gg, KBn K fn ps_is_written 1 ([] : List Str) gg (fun vs zs => gSel [0] vs ((dg_is_written).dvs K) zs) :=
  kb_any F 1 ([] : List Str) (gSel [0]) (gSel_rel [0]) (fun _ kV doc pm an cdv ct us ws l1 l2 => match us, ws, l1, l2 with | [_], [], _, _ => rfl) (fun e => absurd rfl e)
theorem kb_multiplied_0_one_other {f : Addr} {fn : FuncData} (F : FunD K "multiplied" "multiplied" (defArgs st_multiplied) (defBody st_multiplied) (defScope st_multiplied) ((dg_multiplied).dvs K) [] f fn) : ∃ gg, KBn K fn ps_multiplied 0 (["one", "other"] : List Str) gg (fun vs zs => gSel [0, 1] vs ((dg_multiplied).dvs K) zs) :=
  kb_any F 0 (["one", "other"] : List Str) (gSel [0, 1]) (gSel_rel [0, 1]) (fun _ kV doc pm an cdv ct us ws l1 l2 => match us, ws, l1, l2 with | [], [_, _], _, _ => rfl) (fun e => absurd rfl e)
theorem kb_multiplied_2 {f : Addr} {fn : FuncData} (F : FunD K "multiplied" "multiplied" (defArgs st_multiplied) (defBody st_multiplied) (defScope st_multiplied) ((dg_multiplied).dvs K) [] f fn) : ∃ gg, KBn K fn ps_multiplied 2 ([] : List Str) gg (fun vs zs => gSel [0, 1] vs ((dg_multiplied).dvs K) zs) :=
  kb_any F 2 ([] : List Str) (gSel [0, 1]) (gSel_rel [0, 1]) (fun _ kV doc pm an cdv ct us ws l1 l2 => match us, ws, l1, l2 with | [_, _], [], _, _ => rfl) (fun e => absurd rfl e)
theorem kb_need_bound_1 {f : Addr} {fn : FuncData} (F : FunD K "need_bound" "need_bound" (defArgs st_need_bound) (defBody st_need_bound) (defScope st_need_bound) ((dg_need_bound).dvs K) [] f fn) : ∃ gg, KBn K fn ps_need_bound 1 ([] : List Str) gg (fun vs zs => gSel [0, 1] vs ((dg_need_bound).dvs K) zs) :=
  kb_any F 1 ([] : List Str) (gSel [0, 1]) (gSel_rel [0, 1]) (fun e => nomatch e) (fun _ T kV doc pm an cdv ct us its ws l1 l2 l3 => match us, its, ws, l1, l2, l3 with | [_], [_], [], _, _, _ => ⟨_, rfl, rfl⟩)
theorem kb_need_bound_2 {f : Addr} {fn : FuncData} (F : FunD K "need_bound" "need_bound" (defArgs st_need_bound) (defBody st_need_bound) (defScope st_need_bound) ((dg_need_bound).dvs K) [] f fn) : ∃ gg, KBn K fn ps_need_bound 2 ([] : List Str) gg (fun vs zs => gSel [0, 1] vs ((dg_need_bound).dvs K) zs) :=
  kb_any F 2 ([] : List Str) (gSel [0, 1]) (gSel_rel [0, 1]) (fun e => nomatch e) (fun _ T kV doc pm an cdv ct us its ws l1 l2 l3 => match us, its, ws, l1, l2, l3 with | [_, _], [_], [], _, _, _ => ⟨_, rfl, rfl⟩)
theorem kb_need_number_4 {f : Addr} {fn : FuncData} (F : FunD K "need_number" "need_number" (defArgs st_need_number) (defBody st_need_number) (defScope st_need_number) ((dg_need_number).dvs K) [] f fn) : ∃ gg, KBn K fn ps_need_number 4 ([] : List Str) gg (fun vs zs => gSel [0, 1, 2, 3] vs ((dg_need_number).dvs K) zs) :=
  kb_any F 4 ([] : List Str) (gSel [0, 1, 2, 3]) (gSel_rel [0, 1, 2, 3]) (fun _ kV doc pm an cdv ct us ws l1 l2 => match us, ws, l1, l2 with | [_, _, _, _], [], _, _ => rfl) (fun e => absurd rfl e)
theorem kb_sign_by_3 {f : Addr} {fn : FuncData} (F : FunD K "sign_by" "sign_by" (defArgs st_sign_by) (defBody st_sign_by) (defScope st_sign_by) ((dg_sign_by).dvs K) [] f fn) : ∃ gg, KBn K fn ps_sign_by 3 ([] : List Str) gg (fun vs zs => gSel [0, 1, 2] vs ((dg_sign_by).dvs K) zs) :=
  kb_any F 3 ([] : List Str) (gSel [0, 1, 2]) (gSel_rel [0, 1, 2]) (fun _ kV doc pm an cdv ct us ws l1 l2 => match us, ws, l1, l2 with | [_, _, _], [], _, _ => rfl) (fun e => absurd rfl e)
theorem kb_sign_of_0_bound {f : Addr} {fn : FuncData} (F : FunD K "sign_of" "sign_of" (defArgs st_sign_of) (defBody st_sign_of) (defScope st_sign_of) ((dg_sign_of).dvs K) [] f fn) : ∃ gg, KBn K fn ps_sign_of 0 (["bound"] : List Str) gg (fun vs zs => gSel [0] vs ((dg_sign_of).dvs K) zs) :=
  kb_any F 0 (["bound"] : List Str) (gSel [0]) (gSel_rel [0]) (fun _ kV doc pm an cdv ct us ws l1 l2 => match us, ws, l1, l2 with | [], [_], _, _ => rfl) (fun e => absurd rfl e)
theorem kb_sign_of_1 {f : Addr} {fn : FuncData} (F : FunD K "sign_of" "sign_of" (defArgs st_sign_of) (defBody st_sign_of) (defScope st_sign_of) ((dg_sign_of).dvs K) [] f fn) : ∃ gg, KBn K fn ps_sign_of 1 ([] : List Str) gg (fun vs zs => gSel [0] vs ((dg_sign_of).dvs K) zs) :=
  kb_any F 1 ([] : List Str) (gSel [0]) (gSel_rel [0]) (fun _ kV doc pm an cdv ct us ws l1 l2 => match us, ws, l1, l2 with | [_], [], _, _ => rfl) (fun e => absurd rfl e)
theorem rd_is_integer : ∀ (H : Hp) (ok : Addr → Prop), Reps K NT H ok [] ((dg_is_integer).dvs K) := fun _ _ => rfl
theorem rd_Bound_eq : ∀ (H : Hp) (ok : Addr → Prop), Reps K NT H ok [] ((dg_Bound_eq).dvs K) := fun _ _ => rfl
theorem rd_is_within : ∀ (H : Hp) (ok : Addr → Prop), Reps K NT H ok [] ((dg_is_within).dvs K) := fun _ _ => rfl
theorem rd_need_number : ∀ (H : Hp) (ok : Addr → Prop), Reps K NT H ok [] ((dg_need_number).dvs K) := fun _ _ => rfl
theorem rd_is_written : ∀ (H : Hp) (ok : Addr → Prop), Reps K NT H ok [] ((dg_is_written).dvs K) := fun _ _ => rfl
theorem rd_need_bound : ∀ (H : Hp) (ok : Addr → Prop), Reps K NT H ok [(.str "bound")] ((dg_need_bound).dvs K) := fun _ _ => ⟨_, _, rfl, rfl, rfl⟩
theorem rd_sign_by : ∀ (H : Hp) (ok : Addr → Prop), Reps K NT H ok [] ((dg_sign_by).dvs K) := fun _ _ => rfl
theorem rd_common_under : ∀ (H : Hp) (ok : Addr → Prop), Reps K NT H ok [] ((dg_common_under).dvs K) := fun _ _ => rfl
theorem rd_sign_of : ∀ (H : Hp) (ok : Addr → Prop), Reps K NT H ok [] ((dg_sign_of).dvs K) := fun _ _ => rfl
theorem rd_Bound_init : ∀ (H : Hp) (ok : Addr → Prop), Reps K NT H ok [] ((dg_Bound_init).dvs K) := fun _ _ => rfl
theorem rd_added : ∀ (H : Hp) (ok : Addr → Prop), Reps K NT H ok [] ((dg_added).dvs K) := fun _ _ => rfl
theorem rd_multiplied : ∀ (H : Hp) (ok : Addr → Prop), Reps K NT H ok [] ((dg_multiplied).dvs K) := fun _ _ => rfl
theorem rd_at_most : ∀ (H : Hp) (ok : Addr → Prop), Reps K NT H ok [] ((dg_at_most).dvs K) := fun _ _ => rfl
theorem rd__law_bag : ∀ (H : Hp) (ok : Addr → Prop), Reps K NT H ok [] ((dg__law_bag).dvs K) := fun _ _ => rfl
theorem rd__law_draw : ∀ (H : Hp) (ok : Addr → Prop), Reps K NT H ok [] ((dg__law_draw).dvs K) := fun _ _ => rfl
theorem rd__law_pick : ∀ (H : Hp) (ok : Addr → Prop), Reps K NT H ok [] ((dg__law_pick).dvs K) := fun _ _ => rfl
theorem rd__law_great : ∀ (H : Hp) (ok : Addr → Prop), Reps K NT H ok [] ((dg__law_great).dvs K) := fun _ _ => rfl
theorem rd__law_signed : ∀ (H : Hp) (ok : Addr → Prop), Reps K NT H ok [] ((dg__law_signed).dvs K) := fun _ _ => rfl
theorem rd__law_root : ∀ (H : Hp) (ok : Addr → Prop), Reps K NT H ok [] ((dg__law_root).dvs K) := fun _ _ => rfl
theorem rd__law_sign : ∀ (H : Hp) (ok : Addr → Prop), Reps K NT H ok [] ((dg__law_sign).dvs K) := fun _ _ => rfl
theorem rd__law_told : ∀ (H : Hp) (ok : Addr → Prop), Reps K NT H ok [] ((dg__law_told).dvs K) := fun _ _ => rfl
theorem rd__law_is : ∀ (H : Hp) (ok : Addr → Prop), Reps K NT H ok [] ((dg__law_is).dvs K) := fun _ _ => rfl
theorem rd_Scan_init : ∀ (H : Hp) (ok : Addr → Prop), Reps K NT H ok [(.int 0)] ((dg_Scan_init).dvs K) := fun _ _ => ⟨_, _, rfl, rfl, rfl⟩
theorem rd_Scan_ahead : ∀ (H : Hp) (ok : Addr → Prop), Reps K NT H ok [] ((dg_Scan_ahead).dvs K) := fun _ _ => rfl
theorem rd_Scan_refuse : ∀ (H : Hp) (ok : Addr → Prop), Reps K NT H ok [] ((dg_Scan_refuse).dvs K) := fun _ _ => rfl
theorem rd_Scan_take : ∀ (H : Hp) (ok : Addr → Prop), Reps K NT H ok [] ((dg_Scan_take).dvs K) := fun _ _ => rfl
theorem rd_Scan_take_number : ∀ (H : Hp) (ok : Addr → Prop), Reps K NT H ok [.non, .non] ((dg_Scan_take_number).dvs K) := fun _ _ => ⟨_, _, rfl, rfl, ⟨_, _, rfl, rfl, rfl⟩⟩
theorem rd_Scan_finish : ∀ (H : Hp) (ok : Addr → Prop), Reps K NT H ok [] ((dg_Scan_finish).dvs K) := fun _ _ => rfl
theorem rd_Bound_read : ∀ (H : Hp) (ok : Addr → Prop), Reps K NT H ok [] ((dg_Bound_read).dvs K) := fun _ _ => rfl
theorem rd_Bound_str : ∀ (H : Hp) (ok : Addr → Prop), Reps K NT H ok [] ((dg_Bound_str).dvs K) := fun _ _ => rfl
theorem rd__law_one_right : ∀ (H : Hp) (ok : Addr → Prop), Reps K NT H ok [] ((dg__law_one_right).dvs K) := fun _ _ => rfl
theorem rd__law_other : ∀ (H : Hp) (ok : Addr → Prop), Reps K NT H ok [] ((dg__law_other).dvs K) := fun _ _ => rfl
theorem rd__law_common : ∀ (H : Hp) (ok : Addr → Prop), Reps K NT H ok [] ((dg__law_common).dvs K) := fun _ _ => rfl
theorem rd__law_done : ∀ (H : Hp) (ok : Addr → Prop), Reps K NT H ok [] ((dg__law_done).dvs K) := fun _ _ => rfl
theorem rd__law_two_right : ∀ (H : Hp) (ok : Addr → Prop), Reps K NT H ok [] ((dg__law_two_right).dvs K) := fun _ _ => rfl
theorem rd__law_made : ∀ (H : Hp) (ok : Addr → Prop), Reps K NT H ok [] ((dg__law_made).dvs K) := fun _ _ => rfl
theorem rd__law_refused : ∀ (H : Hp) (ok : Addr → Prop), Reps K NT H ok [] ((dg__law_refused).dvs K) := fun _ _ => rfl
theorem rd_law : ∀ (H : Hp) (ok : Addr → Prop), Reps K NT H ok [] ((dg_law).dvs K) := fun _ _ => rfl
end
def f_is_integer : FDen := fdOf 1 none (sRet (dAnd (dOp (fIsi cls) (aCons (dVar 0) (aCons (dC (.ty "int")) aNil))) (dNot (dOp (fIsi cls) (aCons (dVar 0) (aCons (dC (.ty "bool")) aNil))))))
theorem ok_is_integer {w : World} {K : PySem.W.Frag} {mg : Str → Option Value} {base : Heap} (T : Tx K mg) : ∃ fn, FunD K "is_integer" "is_integer" (defArgs st_is_integer) (defBody st_is_integer) (defScope st_is_integer) ((dg_is_integer).dvs K) [] (He.ga K "is_integer") fn ∧ DefOk PG w K mg base NT 2 (He.ga K "is_integer") fn ps_is_integer 1 none .f f_is_integer := by
  obtain ⟨fn, F0⟩ := T.c.def_ 0 (d := dg_is_integer) rfl
  refine ⟨fn, F0, ⟨?_, F0.kp⟩⟩
  exact fn_sim (NT := NT) F0 sc_is_integer none .f _ [.f] [.f] (fun cdv A outer s H E pin W hr tk =>
    sss_one (ss_ret (ee_and (ee_callB call_isi (sp_isi T.own) rfl T.fr_isinstance bt_isinstance (ae_cons (ee_var 0 0 vl_is_integer vs_is_integer rfl rfl) (ae_cons (ee_ty rfl T.fr_int bt_int) ae_nil))) (ee_one (ee_not (ee_callB call_isi (sp_isi T.own) rfl T.fr_isinstance bt_isinstance (ae_cons (ee_var 0 0 vl_is_integer vs_is_integer rfl rfl) (ae_cons (ee_ty rfl T.fr_bool bt_bool) ae_nil))))))))
def f_Bound_eq : FDen := fdOf 2 none (sSeq (sIf (bNot (bVal (dOp (fIsi cls) (aCons (dVar 1) (aCons (dC (.glo 6)) aNil))))) (sRet (dC (.bl false))) sNext) (sRet (dAnd (dOp (fEq) (aCons (dOp (fFld NT.length cls 7) (aCons (dVar 0) aNil)) (aCons (dOp (fFld NT.length cls 7) (aCons (dVar 1) aNil)) aNil))) (dAnd (dOp (fEq) (aCons (dOp (fFld NT.length cls 8) (aCons (dVar 0) aNil)) (aCons (dOp (fFld NT.length cls 8) (aCons (dVar 1) aNil)) aNil))) (dOp (fEq) (aCons (dOp (fFld NT.length cls 9) (aCons (dVar 0) aNil)) (aCons (dOp (fFld NT.length cls 9) (aCons (dVar 1) aNil)) aNil)))))))
theorem ok_Bound_eq {w : World} {K : PySem.W.Frag} {mg : Str → Option Value} {base : Heap} (T : Tx K mg) : ∃ fn, FunD K "__eq__" "Bound.__eq__" (defArgs st_Bound_eq) (defBody st_Bound_eq) (defScope st_Bound_eq) ((dg_Bound_eq).dvs K) [] (He.ma K (He.ga K "Bound") "__eq__") fn ∧ DefOk PG w K mg base NT 2 (He.ma K (He.ga K "Bound") "__eq__") fn ps_Bound_eq 2 none .f f_Bound_eq := by
  obtain ⟨fn, F0⟩ := T.c.def_ 1 (d := dg_Bound_eq) rfl
  refine ⟨fn, F0, ⟨?_, F0.kp⟩⟩
  exact fn_sim (NT := NT) F0 sc_Bound_eq none .f _ [.f, .f] [.f, .f] (fun cdv A outer s H E pin W hr tk =>
    sss_cons (ss_if (κ2 := [.f, .f]) (bb_not (bb_val (ee_callB call_isi (sp_isi T.own) rfl T.fr_isinstance bt_isinstance (ae_cons (ee_var 1 1 vl_Bound_eq vs_Bound_eq rfl rfl) (ae_cons (ee_gc (d := .glo 6) (v := .ref (He.ga _ "Bound")) rfl T.gl_Bound rfl (fun _ _ => rfl)) ae_nil)))))
      (sss_one (ss_ret ee_bl))
      sss_nil)
      (sss_one (ss_ret (ee_and (ee_cmp (op_eq2 hr.units) sp_eq (ae_cons (ee_fld T.fd_whole rfl (ae_cons (ee_var 0 0 vl_Bound_eq vs_Bound_eq rfl rfl) ae_nil)) (ae_cons (ee_fld T.fd_whole rfl (ae_cons (ee_var 1 1 vl_Bound_eq vs_Bound_eq rfl rfl) ae_nil)) ae_nil))) (ee_and (ee_cmp (op_eq2 hr.units) sp_eq (ae_cons (ee_fld T.fd_part rfl (ae_cons (ee_var 0 0 vl_Bound_eq vs_Bound_eq rfl rfl) ae_nil)) (ae_cons (ee_fld T.fd_part rfl (ae_cons (ee_var 1 1 vl_Bound_eq vs_Bound_eq rfl rfl) ae_nil)) ae_nil))) (ee_one (ee_cmp (op_eq2 hr.units) sp_eq (ae_cons (ee_fld T.fd_under rfl (ae_cons (ee_var 0 0 vl_Bound_eq vs_Bound_eq rfl rfl) ae_nil)) (ae_cons (ee_fld T.fd_under rfl (ae_cons (ee_var 1 1 vl_Bound_eq vs_Bound_eq rfl rfl) ae_nil)) ae_nil)))))))))
def f_is_within : FDen := fdOf 3 none (sSeq (sIf (bNot (bVal (dCall (callD 1 0 1 [0] [] f_is_integer) (aCons (dVar 0) aNil) aNil))) (sRet (dC (.bl false))) sNext) (sRet (dAnd (dOr (dOp (fIsN) (aCons (dVar 1) (aCons (dC .non) aNil))) (dOp (fII iGe) (aCons (dVar 0) (aCons (dVar 1) aNil)))) (dOr (dOp (fIsN) (aCons (dVar 2) (aCons (dC .non) aNil))) (dOp (fII iLe) (aCons (dVar 0) (aCons (dVar 2) aNil)))))))
theorem ok_is_within {w : World} {K : PySem.W.Frag} {mg : Str → Option Value} {base : Heap} (T : Tx K mg) : ∃ fn, FunD K "is_within" "is_within" (defArgs st_is_within) (defBody st_is_within) (defScope st_is_within) ((dg_is_within).dvs K) [] (He.ga K "is_within") fn ∧ DefOk PG w K mg base NT 4 (He.ga K "is_within") fn ps_is_within 3 none .f f_is_within := by
  obtain ⟨fn, F0⟩ := T.c.def_ 2 (d := dg_is_within) rfl
  obtain ⟨n_is_integer, D_is_integer, F_is_integer⟩ := ok_is_integer (w := w) (base := base) T
  obtain ⟨_, H_kb_is_integer_1⟩ := kb_is_integer_1 D_is_integer
  refine ⟨fn, F0, ⟨?_, F0.kp⟩⟩
  exact fn_sim (NT := NT) F0 sc_is_within none .f _ [.f, .f, .f] [.f, .f, .f] (fun cdv A outer s H E pin W hr tk =>
    sss_cons (ss_if (κ2 := [.f, .f, .f]) (bb_not (bb_val (ee_call (ks := ([] : List Str)) (src := [0]) (dds := []) F_is_integer hr (by omega) rfl T.gl_is_integer H_kb_is_integer_1 rd_is_integer tk (fe_cons (ee_var 0 0 vl_is_within vs_is_within rfl rfl) fe_nil) fe_nil)))
      (sss_one (ss_ret ee_bl))
      sss_nil)
      (sss_one (ss_ret (ee_and (ee_or (ee_cmp op_isN sp_isN (ae_cons (ee_var 1 1 vl_is_within vs_is_within rfl rfl) (ae_cons ee_non ae_nil))) (ee_one (ee_cmp op_ge sp_ge (ae_cons (ee_var 0 0 vl_is_within vs_is_within rfl rfl) (ae_cons (ee_var 1 1 vl_is_within vs_is_within rfl rfl) ae_nil))))) (ee_one (ee_or (ee_cmp op_isN sp_isN (ae_cons (ee_var 2 2 vl_is_within vs_is_within rfl rfl) (ae_cons ee_non ae_nil))) (ee_one (ee_cmp op_le sp_le (ae_cons (ee_var 0 0 vl_is_within vs_is_within rfl rfl) (ae_cons (ee_var 2 2 vl_is_within vs_is_within rfl rfl) ae_nil))))))))))
def f_need_number : FDen := fdOf 4 none (sIf (bNot (bVal (dCall (callD 3 0 3 [0, 1, 2] [] f_is_within) (aCons (dVar 0) (aCons (dVar 2) (aCons (dVar 3) aNil))) aNil))) (sRaise 1 [8] (aCons (dVar 1) aNil)) sNext)
theorem ok_need_number {w : World} {K : PySem.W.Frag} {mg : Str → Option Value} {base : Heap} (T : Tx K mg) : ∃ fn, FunD K "need_number" "need_number" (defArgs st_need_number) (defBody st_need_number) (defScope st_need_number) ((dg_need_number).dvs K) [] (He.ga K "need_number") fn ∧ DefOk PG w K mg base NT 6 (He.ga K "need_number") fn ps_need_number 4 none .f f_need_number := by
  obtain ⟨fn, F0⟩ := T.c.def_ 3 (d := dg_need_number) rfl
  obtain ⟨n_is_within, D_is_within, F_is_within⟩ := ok_is_within (w := w) (base := base) T
  obtain ⟨_, H_kb_is_within_3⟩ := kb_is_within_3 D_is_within
  refine ⟨fn, F0, ⟨?_, F0.kp⟩⟩
  exact fn_sim (NT := NT) F0 sc_need_number none .f _ [.f, .f, .f, .f] [.f, .f, .f, .f] (fun cdv A outer s H E pin W hr tk =>
    sss_one (ss_if (κ2 := [.f, .f, .f, .f]) (bb_not (bb_val (ee_call (ks := ([] : List Str)) (src := [0, 1, 2]) (dds := []) F_is_within hr (by omega) rfl T.gl_is_within H_kb_is_within_3 rd_is_within tk (fe_cons (ee_var 0 0 vl_need_number vs_need_number rfl rfl) (fe_cons (ee_var 2 2 vl_need_number vs_need_number rfl rfl) (fe_cons (ee_var 3 3 vl_need_number vs_need_number rfl rfl) fe_nil))) fe_nil)))
      (sss_one (ss_raise (Ci := 1) (fks := [8]) T.er_BadNumber (by decide) rfl hr rfl T.gl_BadNumber tk (fe_cons (ee_var 1 1 vl_need_number vs_need_number rfl rfl) fe_nil)))
      sss_nil))
def f_is_written : FDen := fdOf 3 none (sSeq (sSet 1 (dIf (bVal (dOp (fEq) (aCons (dSl fSlS (dVar 0) oNone (oSome (dC (.int 1)))) (aCons (dC (.str "-")) aNil)))) (dSl fSlS (dVar 0) (oSome (dC (.int 1))) oNone) (dVar 0))) (sSeq (sIf (bOr (bVal (dOp (fEq) (aCons (dVar 1) (aCons (dC (.str "")) aNil)))) (bOr (bVal (dOp (fII iGt) (aCons (dOp (fLen) (aCons (dVar 1) aNil)) (aCons (dC (.int 60)) aNil)))) (bNot (bVal (dOp (fAll) (aCons (dLc (idStr (dVar 1)) (gdName 2) bTrue (dOp (fInS) (aCons (dVar 2) (aCons (dC (.str "0123456789")) aNil))) [2]) aNil)))))) (sRet (dC (.bl false))) sNext) (sRet (dOr (dOp (fNe) (aCons (dOp fIx (aCons (dVar 1) (aCons (dC (.int 0)) aNil))) (aCons (dC (.str "0")) aNil))) (dOp (fEq) (aCons (dVar 0) (aCons (dC (.str "0")) aNil)))))))
theorem ok_is_written {w : World} {K : PySem.W.Frag} {mg : Str → Option Value} {base : Heap} (T : Tx K mg) : ∃ fn, FunD K "is_written" "is_written" (defArgs st_is_written) (defBody st_is_written) (defScope st_is_written) ((dg_is_written).dvs K) [] (He.ga K "is_written") fn ∧ DefOk PG w K mg base NT 2 (He.ga K "is_written") fn ps_is_written 1 none .f f_is_written := by
  obtain ⟨fn, F0⟩ := T.c.def_ 4 (d := dg_is_written) rfl
  obtain ⟨_, hg_DIGITS⟩ := T.gc_DIGITS
  obtain ⟨_, hg_MOST_DIGITS⟩ := T.gc_MOST_DIGITS
  refine ⟨fn, F0, ⟨?_, F0.kp⟩⟩
  exact fn_sim (NT := NT) F0 sc_is_written none .f _ [.f, .f, .f] [.f, .f, .f] (fun cdv A outer s H E pin W hr tk =>
    sss_cons (ss_set (κ' := [.f, .f, .f]) 1 sc_is_written.nd rfl (.inl rfl) (ee_if (bb_cmp (op_eq2 hr.units) sp_eq (ae_cons (ee_slS (ee_var 0 0 vl_is_written vs_is_written rfl rfl) oo_none (oo_some ee_int)) (ae_cons ee_str ae_nil))) (ee_slS (ee_var 0 0 vl_is_written vs_is_written rfl rfl) (oo_some ee_int) oo_none) (ee_var 0 0 vl_is_written vs_is_written rfl rfl)))
      (sss_cons (ss_if (κ2 := [.f, .f, .f]) (BW.bb (bw_or (bb_cmp (op_eq2 hr.units) sp_eq (ae_cons (ee_var 1 1 vl_is_written vs_is_written rfl rfl) (ae_cons ee_str ae_nil))) (bw_or (bb_cmp op_gt sp_gt (ae_cons (ee_callB call_len sp_len rfl T.fr_len bt_len (ae_cons (ee_var 1 1 vl_is_written vs_is_written rfl rfl) ae_nil)) (ae_cons (ee_gc (d := (.int 60)) (v := (.int 60)) rfl hg_MOST_DIGITS ⟨_, rfl⟩ (fun _ _ => rfl)) ae_nil))) (bw_or1 (bb_not (bb_val (ee_callB (cr_all rfl) sp_all rfl T.fr_all bt_all (ae_cons (ee_lc (κL := [.f, .f, .f]) [("sign", 2)] rfl sc_is_written.nd (ii_str (ee_var 1 1 vl_is_written vs_is_written rfl rfl)) (fun q => gw_name (κ' := [.f, .f, .f]) 2 (by decide) sc_is_written.nd rfl (.inl rfl) (.inr rfl)) (fun q => ee_cmp op_in_sign sp_inS (ae_cons (ee_var 2 0 vl_is_written_b0 (visOk_of (vis := vl_is_written_b0) rfl) rfl rfl) (ae_cons (ee_gc (d := (.str "0123456789")) (v := (.str "0123456789")) rfl hg_DIGITS ⟨_, rfl⟩ (fun _ _ => rfl)) ae_nil)))) ae_nil))))))))
      (sss_one (ss_ret ee_bl))
      sss_nil)
      (sss_one (ss_ret (ee_or (ee_cmp (op_ne2 hr.units) sp_ne (ae_cons (ee_ix ix_seq sp_ix (ae_cons (ee_var 1 1 vl_is_written vs_is_written rfl rfl) (ae_cons ee_int ae_nil))) (ae_cons ee_str ae_nil))) (ee_one (ee_cmp (op_eq2 hr.units) sp_eq (ae_cons (ee_var 0 0 vl_is_written vs_is_written rfl rfl) (ae_cons ee_str ae_nil)))))))))
def f_need_bound : FDen := fdOf 2 none (sIf (bNot (bVal (dOp (fIsi cls) (aCons (dVar 0) (aCons (dC (.glo 6)) aNil))))) (sRaise 2 [8] (aCons (dVar 1) aNil)) sNext)
theorem ok_need_bound {w : World} {K : PySem.W.Frag} {mg : Str → Option Value} {base : Heap} (T : Tx K mg) : ∃ fn, FunD K "need_bound" "need_bound" (defArgs st_need_bound) (defBody st_need_bound) (defScope st_need_bound) ((dg_need_bound).dvs K) [] (He.ga K "need_bound") fn ∧ DefOk PG w K mg base NT 2 (He.ga K "need_bound") fn ps_need_bound 2 none .f f_need_bound := by
  obtain ⟨fn, F0⟩ := T.c.def_ 5 (d := dg_need_bound) rfl
  refine ⟨fn, F0, ⟨?_, F0.kp⟩⟩
  exact fn_sim (NT := NT) F0 sc_need_bound none .f _ [.f, .f] [.f, .f] (fun cdv A outer s H E pin W hr tk =>
    sss_one (ss_if (κ2 := [.f, .f]) (bb_not (bb_val (ee_callB call_isi (sp_isi T.own) rfl T.fr_isinstance bt_isinstance (ae_cons (ee_var 0 0 vl_need_bound vs_need_bound rfl rfl) (ae_cons (ee_gc (d := .glo 6) (v := .ref (He.ga _ "Bound")) rfl T.gl_Bound rfl (fun _ _ => rfl)) ae_nil)))))
      (sss_one (ss_raise (Ci := 2) (fks := [8]) T.er_BadBound (by decide) rfl hr rfl T.gl_BadBound tk (fe_cons (ee_var 1 1 vl_need_bound vs_need_bound rfl rfl) fe_nil)))
      sss_nil))
def f_sign_by : FDen := fdOf 4 none (sSeq (sSet 3 (dOp (fII iMul) (aCons (dOp (fII iMul) (aCons (dVar 1) (aCons (dVar 1) aNil))) (aCons (dVar 2) aNil)))) (sSeq (sIf (bAnd (bVal (dOp (fII iGe) (aCons (dVar 0) (aCons (dC (.int 0)) aNil)))) (bVal (dOp (fII iGe) (aCons (dVar 1) (aCons (dC (.int 0)) aNil))))) (sRet (dIf (bVal (dOp (fII iGt) (aCons (dOp (fII iAdd) (aCons (dVar 0) (aCons (dVar 3) aNil))) (aCons (dC (.int 0)) aNil)))) (dC (.int 1)) (dC (.int 0)))) sNext) (sSeq (sIf (bAnd (bVal (dOp (fII iLe) (aCons (dVar 0) (aCons (dC (.int 0)) aNil)))) (bVal (dOp (fII iLe) (aCons (dVar 1) (aCons (dC (.int 0)) aNil))))) (sRet (dIf (bVal (dOp (fII iGt) (aCons (dOp (fII iSub) (aCons (dVar 3) (aCons (dVar 0) aNil))) (aCons (dC (.int 0)) aNil)))) (dOp (fI iNeg) (aCons (dC (.int 1)) aNil)) (dC (.int 0)))) sNext) (sSeq (sIf (bVal (dOp (fEq) (aCons (dOp (fII iMul) (aCons (dVar 0) (aCons (dVar 0) aNil))) (aCons (dVar 3) aNil)))) (sRet (dC (.int 0))) sNext) (sRet (dIf (bVal (dOp (fEq) (aCons (dOp (fII iGt) (aCons (dOp (fII iMul) (aCons (dVar 0) (aCons (dVar 0) aNil))) (aCons (dVar 3) aNil))) (aCons (dOp (fII iGt) (aCons (dVar 0) (aCons (dC (.int 0)) aNil))) aNil)))) (dC (.int 1)) (dOp (fI iNeg) (aCons (dC (.int 1)) aNil))))))))
theorem ok_sign_by {w : World} {K : PySem.W.Frag} {mg : Str → Option Value} {base : Heap} (T : Tx K mg) : ∃ fn, FunD K "sign_by" "sign_by" (defArgs st_sign_by) (defBody st_sign_by) (defScope st_sign_by) ((dg_sign_by).dvs K) [] (He.ga K "sign_by") fn ∧ DefOk PG w K mg base NT 2 (He.ga K "sign_by") fn ps_sign_by 3 none .f f_sign_by := by
  obtain ⟨fn, F0⟩ := T.c.def_ 6 (d := dg_sign_by) rfl
  refine ⟨fn, F0, ⟨?_, F0.kp⟩⟩
  exact fn_sim (NT := NT) F0 sc_sign_by none .f _ [.f, .f, .f, .f] [.f, .f, .f, .f] (fun cdv A outer s H E pin W hr tk =>
    sss_cons (ss_set (κ' := [.f, .f, .f, .f]) 3 sc_sign_by.nd rfl (.inl rfl) (ee_bin op_mul2 sp_mul (ae_cons (ee_bin op_mul2 sp_mul (ae_cons (ee_var 1 1 vl_sign_by vs_sign_by rfl rfl) (ae_cons (ee_var 1 1 vl_sign_by vs_sign_by rfl rfl) ae_nil))) (ae_cons (ee_var 2 2 vl_sign_by vs_sign_by rfl rfl) ae_nil))))
      (sss_cons (ss_if (κ2 := [.f, .f, .f, .f]) (BW.bb (bw_and (bb_cmp op_ge sp_ge (ae_cons (ee_var 0 0 vl_sign_by vs_sign_by rfl rfl) (ae_cons ee_int ae_nil))) (bw_and1 (bb_cmp op_ge sp_ge (ae_cons (ee_var 1 1 vl_sign_by vs_sign_by rfl rfl) (ae_cons ee_int ae_nil))))))
      (sss_one (ss_ret (ee_if (bb_cmp op_gt sp_gt (ae_cons (ee_bin op_add sp_add (ae_cons (ee_var 0 0 vl_sign_by vs_sign_by rfl rfl) (ae_cons (ee_var 3 3 vl_sign_by vs_sign_by rfl rfl) ae_nil))) (ae_cons ee_int ae_nil))) ee_int ee_int)))
      sss_nil)
      (sss_cons (ss_if (κ2 := [.f, .f, .f, .f]) (BW.bb (bw_and (bb_cmp op_le sp_le (ae_cons (ee_var 0 0 vl_sign_by vs_sign_by rfl rfl) (ae_cons ee_int ae_nil))) (bw_and1 (bb_cmp op_le sp_le (ae_cons (ee_var 1 1 vl_sign_by vs_sign_by rfl rfl) (ae_cons ee_int ae_nil))))))
      (sss_one (ss_ret (ee_if (bb_cmp op_gt sp_gt (ae_cons (ee_bin op_sub sp_sub (ae_cons (ee_var 3 3 vl_sign_by vs_sign_by rfl rfl) (ae_cons (ee_var 0 0 vl_sign_by vs_sign_by rfl rfl) ae_nil))) (ae_cons ee_int ae_nil))) (ee_un un_neg sp_neg (ae_cons ee_int ae_nil)) ee_int)))
      sss_nil)
      (sss_cons (ss_if (κ2 := [.f, .f, .f, .f]) (bb_cmp (op_eq2 hr.units) sp_eq (ae_cons (ee_bin op_mul2 sp_mul (ae_cons (ee_var 0 0 vl_sign_by vs_sign_by rfl rfl) (ae_cons (ee_var 0 0 vl_sign_by vs_sign_by rfl rfl) ae_nil))) (ae_cons (ee_var 3 3 vl_sign_by vs_sign_by rfl rfl) ae_nil)))
      (sss_one (ss_ret ee_int))
      sss_nil)
      (sss_one (ss_ret (ee_if (bb_cmp (op_eq2 hr.units) sp_eq (ae_cons (ee_cmp op_gt sp_gt (ae_cons (ee_bin op_mul2 sp_mul (ae_cons (ee_var 0 0 vl_sign_by vs_sign_by rfl rfl) (ae_cons (ee_var 0 0 vl_sign_by vs_sign_by rfl rfl) ae_nil))) (ae_cons (ee_var 3 3 vl_sign_by vs_sign_by rfl rfl) ae_nil))) (ae_cons (ee_cmp op_gt sp_gt (ae_cons (ee_var 0 0 vl_sign_by vs_sign_by rfl rfl) (ae_cons ee_int ae_nil))) ae_nil))) ee_int (ee_un un_neg sp_neg (ae_cons ee_int ae_nil)))))))))
def f_common_under : FDen := fdOf 2 none (sSeq (sExpr (dCall (callD 2 0 2 [0, 1] [(.str "bound")] f_need_bound) (aCons (dVar 0) (aCons (dC (.str "one")) aNil)) aNil)) (sSeq (sExpr (dCall (callD 2 0 2 [0, 1] [(.str "bound")] f_need_bound) (aCons (dVar 1) (aCons (dC (.str "other")) aNil)) aNil)) (sSeq (sIf (bAnd (bVal (dOp (fNe) (aCons (dOp (fFld NT.length cls 9) (aCons (dVar 0) aNil)) (aCons (dOp (fFld NT.length cls 9) (aCons (dVar 1) aNil)) aNil)))) (bAnd (bVal (dOp (fNe) (aCons (dOp (fFld NT.length cls 8) (aCons (dVar 0) aNil)) (aCons (dC (.int 0)) aNil)))) (bVal (dOp (fNe) (aCons (dOp (fFld NT.length cls 8) (aCons (dVar 1) aNil)) (aCons (dC (.int 0)) aNil)))))) (sRaise 3 [8] (aCons (dC (.str "under")) aNil)) sNext) (sSeq (sIf (bOr (bVal (dOp (fNe) (aCons (dOp (fFld NT.length cls 8) (aCons (dVar 0) aNil)) (aCons (dC (.int 0)) aNil)))) (bVal (dOp (fEq) (aCons (dOp (fFld NT.length cls 8) (aCons (dVar 1) aNil)) (aCons (dC (.int 0)) aNil))))) (sRet (dOp (fFld NT.length cls 9) (aCons (dVar 0) aNil))) sNext) (sRet (dOp (fFld NT.length cls 9) (aCons (dVar 1) aNil)))))))
theorem ok_common_under {w : World} {K : PySem.W.Frag} {mg : Str → Option Value} {base : Heap} (T : Tx K mg) : ∃ fn, FunD K "common_under" "common_under" (defArgs st_common_under) (defBody st_common_under) (defScope st_common_under) ((dg_common_under).dvs K) [] (He.ga K "common_under") fn ∧ DefOk PG w K mg base NT 4 (He.ga K "common_under") fn ps_common_under 2 none .f f_common_under := by
  obtain ⟨fn, F0⟩ := T.c.def_ 7 (d := dg_common_under) rfl
  obtain ⟨n_need_bound, D_need_bound, F_need_bound⟩ := ok_need_bound (w := w) (base := base) T
  obtain ⟨_, H_kb_need_bound_2⟩ := kb_need_bound_2 D_need_bound
  refine ⟨fn, F0, ⟨?_, F0.kp⟩⟩
  exact fn_sim (NT := NT) F0 sc_common_under none .f _ [.f, .f] [.f, .f] (fun cdv A outer s H E pin W hr tk =>
    sss_cons (ss_expr (ee_call (ks := ([] : List Str)) (src := [0, 1]) (dds := [(.str "bound")]) F_need_bound hr (by omega) rfl T.gl_need_bound H_kb_need_bound_2 rd_need_bound tk (fe_cons (ee_var 0 0 vl_common_under vs_common_under rfl rfl) (fe_cons ee_str fe_nil)) fe_nil))
      (sss_cons (ss_expr (ee_call (ks := ([] : List Str)) (src := [0, 1]) (dds := [(.str "bound")]) F_need_bound hr (by omega) rfl T.gl_need_bound H_kb_need_bound_2 rd_need_bound tk (fe_cons (ee_var 1 1 vl_common_under vs_common_under rfl rfl) (fe_cons ee_str fe_nil)) fe_nil))
      (sss_cons (ss_if (κ2 := [.f, .f]) (BW.bb (bw_and (bb_cmp (op_ne2 hr.units) sp_ne (ae_cons (ee_fld T.fd_under rfl (ae_cons (ee_var 0 0 vl_common_under vs_common_under rfl rfl) ae_nil)) (ae_cons (ee_fld T.fd_under rfl (ae_cons (ee_var 1 1 vl_common_under vs_common_under rfl rfl) ae_nil)) ae_nil))) (bw_and (bb_cmp (op_ne2 hr.units) sp_ne (ae_cons (ee_fld T.fd_part rfl (ae_cons (ee_var 0 0 vl_common_under vs_common_under rfl rfl) ae_nil)) (ae_cons ee_int ae_nil))) (bw_and1 (bb_cmp (op_ne2 hr.units) sp_ne (ae_cons (ee_fld T.fd_part rfl (ae_cons (ee_var 1 1 vl_common_under vs_common_under rfl rfl) ae_nil)) (ae_cons ee_int ae_nil)))))))
      (sss_one (ss_raise (Ci := 3) (fks := [8]) T.er_Misfit (by decide) rfl hr rfl T.gl_Misfit tk (fe_cons ee_str fe_nil)))
      sss_nil)
      (sss_cons (ss_if (κ2 := [.f, .f]) (BW.bb (bw_or (bb_cmp (op_ne2 hr.units) sp_ne (ae_cons (ee_fld T.fd_part rfl (ae_cons (ee_var 0 0 vl_common_under vs_common_under rfl rfl) ae_nil)) (ae_cons ee_int ae_nil))) (bw_or1 (bb_cmp (op_eq2 hr.units) sp_eq (ae_cons (ee_fld T.fd_part rfl (ae_cons (ee_var 1 1 vl_common_under vs_common_under rfl rfl) ae_nil)) (ae_cons ee_int ae_nil))))))
      (sss_one (ss_ret (ee_fld T.fd_under rfl (ae_cons (ee_var 0 0 vl_common_under vs_common_under rfl rfl) ae_nil))))
      sss_nil)
      (sss_one (ss_ret (ee_fld T.fd_under rfl (ae_cons (ee_var 1 1 vl_common_under vs_common_under rfl rfl) ae_nil))))))))
def f_sign_of : FDen := fdOf 1 none (sSeq (sExpr (dCall (callD 1 0 2 [0, 1] [(.str "bound")] f_need_bound) (aCons (dVar 0) aNil) aNil)) (sRet (dCall (callD 3 0 3 [0, 1, 2] [] f_sign_by) (aCons (dOp (fFld NT.length cls 7) (aCons (dVar 0) aNil)) (aCons (dOp (fFld NT.length cls 8) (aCons (dVar 0) aNil)) (aCons (dOp (fFld NT.length cls 9) (aCons (dVar 0) aNil)) aNil))) aNil)))
theorem ok_sign_of {w : World} {K : PySem.W.Frag} {mg : Str → Option Value} {base : Heap} (T : Tx K mg) : ∃ fn, FunD K "sign_of" "sign_of" (defArgs st_sign_of) (defBody st_sign_of) (defScope st_sign_of) ((dg_sign_of).dvs K) [] (He.ga K "sign_of") fn ∧ DefOk PG w K mg base NT 4 (He.ga K "sign_of") fn ps_sign_of 1 none .f f_sign_of := by
  obtain ⟨fn, F0⟩ := T.c.def_ 8 (d := dg_sign_of) rfl
  obtain ⟨n_need_bound, D_need_bound, F_need_bound⟩ := ok_need_bound (w := w) (base := base) T
  obtain ⟨n_sign_by, D_sign_by, F_sign_by⟩ := ok_sign_by (w := w) (base := base) T
  obtain ⟨_, H_kb_need_bound_1⟩ := kb_need_bound_1 D_need_bound
  obtain ⟨_, H_kb_sign_by_3⟩ := kb_sign_by_3 D_sign_by
  refine ⟨fn, F0, ⟨?_, F0.kp⟩⟩
  exact fn_sim (NT := NT) F0 sc_sign_of none .f _ [.f] [.f] (fun cdv A outer s H E pin W hr tk =>
    sss_cons (ss_expr (ee_call (ks := ([] : List Str)) (src := [0, 1]) (dds := [(.str "bound")]) F_need_bound hr (by omega) rfl T.gl_need_bound H_kb_need_bound_1 rd_need_bound tk (fe_cons (ee_var 0 0 vl_sign_of vs_sign_of rfl rfl) fe_nil) fe_nil))
      (sss_one (ss_ret (ee_call (ks := ([] : List Str)) (src := [0, 1, 2]) (dds := []) F_sign_by hr (by omega) rfl T.gl_sign_by H_kb_sign_by_3 rd_sign_by tk (fe_cons (ee_fld T.fd_whole rfl (ae_cons (ee_var 0 0 vl_sign_of vs_sign_of rfl rfl) ae_nil)) (fe_cons (ee_fld T.fd_part rfl (ae_cons (ee_var 0 0 vl_sign_of vs_sign_of rfl rfl) ae_nil)) (fe_cons (ee_fld T.fd_under rfl (ae_cons (ee_var 0 0 vl_sign_of vs_sign_of rfl rfl) ae_nil)) fe_nil))) fe_nil))))
def f_Bound_init : FDen := fdOf 4 (some (.o)) (sSeq (sExpr (dCall (callD 4 0 4 [0, 1, 2, 3] [] f_need_number) (aCons (dVar 1) (aCons (dC (.str "whole")) (aCons (dC .non) (aCons (dC .non) aNil)))) aNil)) (sSeq (sExpr (dCall (callD 4 0 4 [0, 1, 2, 3] [] f_need_number) (aCons (dVar 2) (aCons (dC (.str "part")) (aCons (dC .non) (aCons (dC .non) aNil)))) aNil)) (sSeq (sExpr (dCall (callD 4 0 4 [0, 1, 2, 3] [] f_need_number) (aCons (dVar 3) (aCons (dC (.str "under")) (aCons (dC (.int 0)) (aCons (dC .non) aNil)))) aNil)) (sSeq (sFldD 0 NT.length cls 7 (dVar 1)) (sSeq (sFldD 0 NT.length cls 8 (dVar 2)) (sFldD 0 NT.length cls 9 (dVar 3)))))))
theorem ok_Bound_init {w : World} {K : PySem.W.Frag} {mg : Str → Option Value} {base : Heap} (T : Tx K mg) : ∃ fn, FunD K "__init__" "Bound.__init__" (defArgs st_Bound_init) (defBody st_Bound_init) (defScope st_Bound_init) ((dg_Bound_init).dvs K) [] (He.ma K (He.ga K "Bound") "__init__") fn ∧ DefOk PG w K mg base NT 8 (He.ma K (He.ga K "Bound") "__init__") fn ps_Bound_init 4 (some (.o)) .f f_Bound_init := by
  obtain ⟨fn, F0⟩ := T.c.def_ 9 (d := dg_Bound_init) rfl
  obtain ⟨n_need_number, D_need_number, F_need_number⟩ := ok_need_number (w := w) (base := base) T
  obtain ⟨_, H_kb_need_number_4⟩ := kb_need_number_4 D_need_number
  refine ⟨fn, F0, ⟨?_, F0.kp⟩⟩
  exact fn_sim (NT := NT) F0 sc_Bound_init (some (.o)) .f _ [.o, .f, .f, .f] [.o, .f, .f, .f] (fun cdv A outer s H E pin W hr tk =>
    sss_cons (ss_expr (ee_call (ks := ([] : List Str)) (src := [0, 1, 2, 3]) (dds := []) F_need_number hr (by omega) rfl T.gl_need_number H_kb_need_number_4 rd_need_number tk (fe_cons (ee_var 1 1 vl_Bound_init vs_Bound_init rfl rfl) (fe_cons ee_str (fe_cons ee_non (fe_cons ee_non fe_nil)))) fe_nil))
      (sss_cons (ss_expr (ee_call (ks := ([] : List Str)) (src := [0, 1, 2, 3]) (dds := []) F_need_number hr (by omega) rfl T.gl_need_number H_kb_need_number_4 rd_need_number tk (fe_cons (ee_var 2 2 vl_Bound_init vs_Bound_init rfl rfl) (fe_cons ee_str (fe_cons ee_non (fe_cons ee_non fe_nil)))) fe_nil))
      (sss_cons (ss_expr (ee_call (ks := ([] : List Str)) (src := [0, 1, 2, 3]) (dds := []) F_need_number hr (by omega) rfl T.gl_need_number H_kb_need_number_4 rd_need_number tk (fe_cons (ee_var 3 3 vl_Bound_init vs_Bound_init rfl rfl) (fe_cons ee_str (fe_cons ee_int (fe_cons ee_non fe_nil)))) fe_nil))
      (sss_cons (ss_fld 0 0 vl_Bound_init vs_Bound_init rfl rfl T.fd_whole rfl (ee_var 1 1 vl_Bound_init vs_Bound_init rfl rfl) rfl)
      (sss_cons (ss_fld 0 0 vl_Bound_init vs_Bound_init rfl rfl T.fd_part rfl (ee_var 2 2 vl_Bound_init vs_Bound_init rfl rfl) rfl)
      (sss_one (ss_fld 0 0 vl_Bound_init vs_Bound_init rfl rfl T.fd_under rfl (ee_var 3 3 vl_Bound_init vs_Bound_init rfl rfl) rfl)))))))
def f_added : FDen := fdOf 3 none (sSeq (sSet 2 (dCall (callD 2 0 2 [0, 1] [] f_common_under) (aCons (dVar 0) (aCons (dVar 1) aNil)) aNil)) (sRet (dMake (callD1 3 0 4 [0, 1, 2] [] f_Bound_init (.obj 6 [])) (aCons (dOp (fII iAdd) (aCons (dOp (fFld NT.length cls 7) (aCons (dVar 0) aNil)) (aCons (dOp (fFld NT.length cls 7) (aCons (dVar 1) aNil)) aNil))) (aCons (dOp (fII iAdd) (aCons (dOp (fFld NT.length cls 8) (aCons (dVar 0) aNil)) (aCons (dOp (fFld NT.length cls 8) (aCons (dVar 1) aNil)) aNil))) (aCons (dVar 2) aNil))) aNil)))
theorem ok_added {w : World} {K : PySem.W.Frag} {mg : Str → Option Value} {base : Heap} (T : Tx K mg) : ∃ fn, FunD K "added" "added" (defArgs st_added) (defBody st_added) (defScope st_added) ((dg_added).dvs K) [] (He.ga K "added") fn ∧ DefOk PG w K mg base NT 11 (He.ga K "added") fn ps_added 2 none .f f_added := by
  obtain ⟨fn, F0⟩ := T.c.def_ 10 (d := dg_added) rfl
  obtain ⟨n_Bound_init, D_Bound_init, F_Bound_init⟩ := ok_Bound_init (w := w) (base := base) T
  obtain ⟨n_common_under, D_common_under, F_common_under⟩ := ok_common_under (w := w) (base := base) T
  obtain ⟨_, H_kb_Bound_init_4⟩ := kb_Bound_init_4 D_Bound_init
  obtain ⟨_, H_kb_common_under_2⟩ := kb_common_under_2 D_common_under
  refine ⟨fn, F0, ⟨?_, F0.kp⟩⟩
  exact fn_sim (NT := NT) F0 sc_added none .f _ [.f, .f, .f] [.f, .f, .f] (fun cdv A outer s H E pin W hr tk =>
    sss_cons (ss_set (κ' := [.f, .f, .f]) 2 sc_added.nd rfl (.inl rfl) (ee_call (ks := ([] : List Str)) (src := [0, 1]) (dds := []) F_common_under hr (by omega) rfl T.gl_common_under H_kb_common_under_2 rd_common_under tk (fe_cons (ee_var 0 0 vl_added vs_added rfl rfl) (fe_cons (ee_var 1 1 vl_added vs_added rfl rfl) fe_nil)) fe_nil))
      (sss_one (ss_ret (EE.frz (ee_make (ks := ([] : List Str)) (src := [0, 1, 2]) (dds := []) T.mk_Bound F_Bound_init hr (by omega) rfl T.gl_Bound H_kb_Bound_init_4 rd_Bound_init tk (fe_cons (ee_bin op_add sp_add (ae_cons (ee_fld T.fd_whole rfl (ae_cons (ee_var 0 0 vl_added vs_added rfl rfl) ae_nil)) (ae_cons (ee_fld T.fd_whole rfl (ae_cons (ee_var 1 1 vl_added vs_added rfl rfl) ae_nil)) ae_nil))) (fe_cons (ee_bin op_add sp_add (ae_cons (ee_fld T.fd_part rfl (ae_cons (ee_var 0 0 vl_added vs_added rfl rfl) ae_nil)) (ae_cons (ee_fld T.fd_part rfl (ae_cons (ee_var 1 1 vl_added vs_added rfl rfl) ae_nil)) ae_nil))) (fe_cons (ee_var 2 2 vl_added vs_added rfl rfl) fe_nil))) fe_nil)))))
def f_multiplied : FDen := fdOf 4 none (sSeq (sSet 2 (dCall (callD 2 0 2 [0, 1] [] f_common_under) (aCons (dVar 0) (aCons (dVar 1) aNil)) aNil)) (sSeq (sSet 3 (dOp (fII iAdd) (aCons (dOp (fII iMul) (aCons (dOp (fFld NT.length cls 7) (aCons (dVar 0) aNil)) (aCons (dOp (fFld NT.length cls 7) (aCons (dVar 1) aNil)) aNil))) (aCons (dOp (fII iMul) (aCons (dOp (fII iMul) (aCons (dOp (fFld NT.length cls 8) (aCons (dVar 0) aNil)) (aCons (dOp (fFld NT.length cls 8) (aCons (dVar 1) aNil)) aNil))) (aCons (dVar 2) aNil))) aNil)))) (sRet (dMake (callD1 3 0 4 [0, 1, 2] [] f_Bound_init (.obj 6 [])) (aCons (dVar 3) (aCons (dOp (fII iAdd) (aCons (dOp (fII iMul) (aCons (dOp (fFld NT.length cls 7) (aCons (dVar 0) aNil)) (aCons (dOp (fFld NT.length cls 8) (aCons (dVar 1) aNil)) aNil))) (aCons (dOp (fII iMul) (aCons (dOp (fFld NT.length cls 8) (aCons (dVar 0) aNil)) (aCons (dOp (fFld NT.length cls 7) (aCons (dVar 1) aNil)) aNil))) aNil))) (aCons (dVar 2) aNil))) aNil))))
theorem ok_multiplied {w : World} {K : PySem.W.Frag} {mg : Str → Option Value} {base : Heap} (T : Tx K mg) : ∃ fn, FunD K "multiplied" "multiplied" (defArgs st_multiplied) (defBody st_multiplied) (defScope st_multiplied) ((dg_multiplied).dvs K) [] (He.ga K "multiplied") fn ∧ DefOk PG w K mg base NT 11 (He.ga K "multiplied") fn ps_multiplied 2 none .f f_multiplied := by
  obtain ⟨fn, F0⟩ := T.c.def_ 11 (d := dg_multiplied) rfl
  obtain ⟨n_Bound_init, D_Bound_init, F_Bound_init⟩ := ok_Bound_init (w := w) (base := base) T
  obtain ⟨n_common_under, D_common_under, F_common_under⟩ := ok_common_under (w := w) (base := base) T
  obtain ⟨_, H_kb_Bound_init_4⟩ := kb_Bound_init_4 D_Bound_init
  obtain ⟨_, H_kb_common_under_2⟩ := kb_common_under_2 D_common_under
  refine ⟨fn, F0, ⟨?_, F0.kp⟩⟩
  exact fn_sim (NT := NT) F0 sc_multiplied none .f _ [.f, .f, .f, .f] [.f, .f, .f, .f] (fun cdv A outer s H E pin W hr tk =>
    sss_cons (ss_set (κ' := [.f, .f, .f, .f]) 2 sc_multiplied.nd rfl (.inl rfl) (ee_call (ks := ([] : List Str)) (src := [0, 1]) (dds := []) F_common_under hr (by omega) rfl T.gl_common_under H_kb_common_under_2 rd_common_under tk (fe_cons (ee_var 0 0 vl_multiplied vs_multiplied rfl rfl) (fe_cons (ee_var 1 1 vl_multiplied vs_multiplied rfl rfl) fe_nil)) fe_nil))
      (sss_cons (ss_set (κ' := [.f, .f, .f, .f]) 3 sc_multiplied.nd rfl (.inl rfl) (ee_bin op_add sp_add (ae_cons (ee_bin op_mul2 sp_mul (ae_cons (ee_fld T.fd_whole rfl (ae_cons (ee_var 0 0 vl_multiplied vs_multiplied rfl rfl) ae_nil)) (ae_cons (ee_fld T.fd_whole rfl (ae_cons (ee_var 1 1 vl_multiplied vs_multiplied rfl rfl) ae_nil)) ae_nil))) (ae_cons (ee_bin op_mul2 sp_mul (ae_cons (ee_bin op_mul2 sp_mul (ae_cons (ee_fld T.fd_part rfl (ae_cons (ee_var 0 0 vl_multiplied vs_multiplied rfl rfl) ae_nil)) (ae_cons (ee_fld T.fd_part rfl (ae_cons (ee_var 1 1 vl_multiplied vs_multiplied rfl rfl) ae_nil)) ae_nil))) (ae_cons (ee_var 2 2 vl_multiplied vs_multiplied rfl rfl) ae_nil))) ae_nil))))
      (sss_one (ss_ret (EE.frz (ee_make (ks := ([] : List Str)) (src := [0, 1, 2]) (dds := []) T.mk_Bound F_Bound_init hr (by omega) rfl T.gl_Bound H_kb_Bound_init_4 rd_Bound_init tk (fe_cons (ee_var 3 3 vl_multiplied vs_multiplied rfl rfl) (fe_cons (ee_bin op_add sp_add (ae_cons (ee_bin op_mul2 sp_mul (ae_cons (ee_fld T.fd_whole rfl (ae_cons (ee_var 0 0 vl_multiplied vs_multiplied rfl rfl) ae_nil)) (ae_cons (ee_fld T.fd_part rfl (ae_cons (ee_var 1 1 vl_multiplied vs_multiplied rfl rfl) ae_nil)) ae_nil))) (ae_cons (ee_bin op_mul2 sp_mul (ae_cons (ee_fld T.fd_part rfl (ae_cons (ee_var 0 0 vl_multiplied vs_multiplied rfl rfl) ae_nil)) (ae_cons (ee_fld T.fd_whole rfl (ae_cons (ee_var 1 1 vl_multiplied vs_multiplied rfl rfl) ae_nil)) ae_nil))) ae_nil))) (fe_cons (ee_var 2 2 vl_multiplied vs_multiplied rfl rfl) fe_nil))) fe_nil))))))
def f_at_most : FDen := fdOf 3 none (sSeq (sSet 2 (dCall (callD 2 0 2 [0, 1] [] f_common_under) (aCons (dVar 0) (aCons (dVar 1) aNil)) aNil)) (sRet (dOp (fII iGe) (aCons (dCall (callD 3 0 3 [0, 1, 2] [] f_sign_by) (aCons (dOp (fII iSub) (aCons (dOp (fFld NT.length cls 7) (aCons (dVar 1) aNil)) (aCons (dOp (fFld NT.length cls 7) (aCons (dVar 0) aNil)) aNil))) (aCons (dOp (fII iSub) (aCons (dOp (fFld NT.length cls 8) (aCons (dVar 1) aNil)) (aCons (dOp (fFld NT.length cls 8) (aCons (dVar 0) aNil)) aNil))) (aCons (dVar 2) aNil))) aNil) (aCons (dC (.int 0)) aNil)))))
theorem ok_at_most {w : World} {K : PySem.W.Frag} {mg : Str → Option Value} {base : Heap} (T : Tx K mg) : ∃ fn, FunD K "at_most" "at_most" (defArgs st_at_most) (defBody st_at_most) (defScope st_at_most) ((dg_at_most).dvs K) [] (He.ga K "at_most") fn ∧ DefOk PG w K mg base NT 6 (He.ga K "at_most") fn ps_at_most 2 none .f f_at_most := by
  obtain ⟨fn, F0⟩ := T.c.def_ 12 (d := dg_at_most) rfl
  obtain ⟨n_common_under, D_common_under, F_common_under⟩ := ok_common_under (w := w) (base := base) T
  obtain ⟨n_sign_by, D_sign_by, F_sign_by⟩ := ok_sign_by (w := w) (base := base) T
  obtain ⟨_, H_kb_common_under_2⟩ := kb_common_under_2 D_common_under
  obtain ⟨_, H_kb_sign_by_3⟩ := kb_sign_by_3 D_sign_by
  refine ⟨fn, F0, ⟨?_, F0.kp⟩⟩
  exact fn_sim (NT := NT) F0 sc_at_most none .f _ [.f, .f, .f] [.f, .f, .f] (fun cdv A outer s H E pin W hr tk =>
    sss_cons (ss_set (κ' := [.f, .f, .f]) 2 sc_at_most.nd rfl (.inl rfl) (ee_call (ks := ([] : List Str)) (src := [0, 1]) (dds := []) F_common_under hr (by omega) rfl T.gl_common_under H_kb_common_under_2 rd_common_under tk (fe_cons (ee_var 0 0 vl_at_most vs_at_most rfl rfl) (fe_cons (ee_var 1 1 vl_at_most vs_at_most rfl rfl) fe_nil)) fe_nil))
      (sss_one (ss_ret (ee_cmp op_ge sp_ge (ae_cons (ee_call (ks := ([] : List Str)) (src := [0, 1, 2]) (dds := []) F_sign_by hr (by omega) rfl T.gl_sign_by H_kb_sign_by_3 rd_sign_by tk (fe_cons (ee_bin op_sub sp_sub (ae_cons (ee_fld T.fd_whole rfl (ae_cons (ee_var 1 1 vl_at_most vs_at_most rfl rfl) ae_nil)) (ae_cons (ee_fld T.fd_whole rfl (ae_cons (ee_var 0 0 vl_at_most vs_at_most rfl rfl) ae_nil)) ae_nil))) (fe_cons (ee_bin op_sub sp_sub (ae_cons (ee_fld T.fd_part rfl (ae_cons (ee_var 1 1 vl_at_most vs_at_most rfl rfl) ae_nil)) (ae_cons (ee_fld T.fd_part rfl (ae_cons (ee_var 0 0 vl_at_most vs_at_most rfl rfl) ae_nil)) ae_nil))) (fe_cons (ee_var 2 2 vl_at_most vs_at_most rfl rfl) fe_nil))) fe_nil) (ae_cons ee_int ae_nil))))))
def f__law_bag : FDen := fdOf 2 none (sRet (dOp fLst (aCons (dLc (idLst (dSl fSlL (dVar 0) oNone (oSome (dC (.int 60))))) (gdName 1) bTrue (dOp (fInt1) (aCons (dVar 1) aNil)) [1]) (aCons (dC (.int 0)) (aCons (dC (.int 0)) aNil)))))
theorem ok__law_bag {w : World} {K : PySem.W.Frag} {mg : Str → Option Value} {base : Heap} (T : Tx K mg) : ∃ fn, FunD K "_law_bag" "_law_bag" (defArgs st__law_bag) (defBody st__law_bag) (defScope st__law_bag) ((dg__law_bag).dvs K) [] (He.ga K "_law_bag") fn ∧ DefOk PG w K mg base NT 2 (He.ga K "_law_bag") fn ps__law_bag 1 none (.l .f) f__law_bag := by
  obtain ⟨fn, F0⟩ := T.c.def_ 13 (d := dg__law_bag) rfl
  refine ⟨fn, F0, ⟨?_, F0.kp⟩⟩
  exact fn_sim (NT := NT) F0 sc__law_bag none (.l .f) _ [.f, .f] [.f, .f] (fun cdv A outer s H E pin W hr tk =>
    sss_one (ss_ret (ee_lst (fe_cons (EE.frz (ee_lc (κL := [.f, .f]) [("cell", 1)] rfl sc__law_bag.nd (ii_lst (EE.frz (ee_slL (ee_var 0 0 vl__law_bag vs__law_bag rfl rfl) oo_none (oo_some ee_int)))) (fun q => gw_name (κ' := [.f, .f]) 1 (by decide) sc__law_bag.nd rfl (.inl rfl) (.inr rfl)) (fun q => ee_callTy call_int3 sp_int1 rfl T.fr_int bt_int (ae_cons (ee_var 1 0 vl__law_bag_b0 (visOk_of (vis := vl__law_bag_b0) rfl) rfl rfl) ae_nil)))) (fe_cons ee_int (fe_cons ee_int fe_nil)))))) (hrs := .inr fun ds σ => sRet_nx)
def f__law_draw : FDen := fdOf 6 (some (.l .f)) (sSeq (sIf (bVal (dOp (fII iGt) (aCons (dOp fIx (aCons (dVar 0) (aCons (dC (.int 2)) aNil))) (aCons (dC (.int 0)) aNil)))) (sSeq (sSet 2 (dOp fIx (aCons (dVar 0) (aCons (dC (.int 2)) aNil)))) (sSeq (sSetIx 0 (dOp (fII iDiv) (aCons (dOp (fInt1) (aCons (dVar 2) aNil)) (aCons (dVar 1) aNil))) (dC (.int 2))) (sRet (dOp (fII iMod) (aCons (dOp (fInt1) (aCons (dVar 2) aNil)) (aCons (dVar 1) aNil)))))) sNext) (sSeq (sSet 3 (dOp fIx (aCons (dVar 0) (aCons (dC (.int 1)) aNil)))) (sSeq (sSetIx 0 (dOp (fII iAdd) (aCons (dVar 3) (aCons (dC (.int 1)) aNil))) (dC (.int 1))) (sSeq (sSet 4 (dOp (fII iAdd) (aCons (dOp (fII iMul) (aCons (dC (.int 58013)) (aCons (dVar 3) aNil))) (aCons (dC (.int 2903)) aNil)))) (sSeq (sIf (bVal (dOp (fOr (fOwnE cls 6 f_Bound_eq true) (fNe)) (aCons (dOp fIx (aCons (dVar 0) (aCons (dC (.int 0)) aNil))) (aCons (dOp fLst aNil) aNil)))) (sSet 4 (dOp fIx (aCons (dOp fIx (aCons (dVar 0) (aCons (dC (.int 0)) aNil))) (aCons (dOp (fII iMod) (aCons (dOp (fInt1) (aCons (dVar 3) aNil)) (aCons (dOp (fLen) (aCons (dOp fIx (aCons (dVar 0) (aCons (dC (.int 0)) aNil))) aNil)) aNil))) aNil)))) sNext) (sSeq (sIf (bAnd (bVal (dOp (fII iLt) (aCons (dVar 3) (aCons (dOp (fLen) (aCons (dOp fIx (aCons (dVar 0) (aCons (dC (.int 0)) aNil))) aNil)) aNil)))) (bVal (dOp (fII iGe) (aCons (dOp (fI iAbs) (aCons (dVar 4) aNil)) (aCons (dOp (fII iPow) (aCons (dC (.int 10)) (aCons (dC (.int 18)) aNil))) aNil))))) (sSeq (sSet 2 (dOp (fII iAdd) (aCons (dOp (fII iMul) (aCons (dC (.int 2)) (aCons (dOp (fII iSub) (aCons (dOp (fI iAbs) (aCons (dVar 4) aNil)) (aCons (dOp (fII iPow) (aCons (dC (.int 10)) (aCons (dC (.int 18)) aNil))) aNil))) aNil))) (aCons (dOp (fInt1) (aCons (dOp (fII iLt) (aCons (dVar 4) (aCons (dC (.int 0)) aNil))) aNil)) aNil)))) (sSeq (sSetIx 0 (dOp (fII iDiv) (aCons (dOp (fInt1) (aCons (dVar 2) aNil)) (aCons (dVar 1) aNil))) (dC (.int 2))) (sRet (dOp (fII iMod) (aCons (dOp (fInt1) (aCons (dVar 2) aNil)) (aCons (dVar 1) aNil)))))) sNext) (sSeq (sSet 5 (dOp (fII iMod) (aCons (dOp (fInt1) (aCons (dOp (fII iPow) (aCons (dOp (fII iAdd) (aCons (dOp (fII iAdd) (aCons (dOp (fII iMod) (aCons (dOp (fInt1) (aCons (dVar 4) aNil)) (aCons (dC (.int 2147483543)) aNil))) (aCons (dOp (fII iMul) (aCons (dC (.int 74093)) (aCons (dVar 3) aNil))) aNil))) (aCons (dC (.int 2903)) aNil))) (aCons (dC (.int 5)) aNil))) aNil)) (aCons (dC (.int 2147483497)) aNil)))) (sSeq (sSet 5 (dOp (fII iMod) (aCons (dOp (fInt1) (aCons (dOp (fII iPow) (aCons (dOp (fII iAdd) (aCons (dOp (fII iAdd) (aCons (dOp (fII iMul) (aCons (dVar 5) (aCons (dOp (fII iAdd) (aCons (dOp (fII iMul) (aCons (dC (.int 2)) (aCons (dVar 3) aNil))) (aCons (dC (.int 3169)) aNil))) aNil))) (aCons (dOp (fII iMul) (aCons (dOp (fII iMul) (aCons (dC (.int 58013)) (aCons (dVar 3) aNil))) (aCons (dVar 3) aNil))) aNil))) (aCons (dC (.int 74093)) aNil))) (aCons (dC (.int 3)) aNil))) aNil)) (aCons (dC (.int 2147483477)) aNil)))) (sRet (dOp (fII iMod) (aCons (dOp (fInt1) (aCons (dOp (fII iDiv) (aCons (dVar 5) (aCons (dC (.int 64)) aNil))) aNil)) (aCons (dVar 1) aNil))))))))))))
theorem ok__law_draw {w : World} {K : PySem.W.Frag} {mg : Str → Option Value} {base : Heap} (T : Tx K mg) : ∃ fn, FunD K "_law_draw" "_law_draw" (defArgs st__law_draw) (defBody st__law_draw) (defScope st__law_draw) ((dg__law_draw).dvs K) [] (He.ga K "_law_draw") fn ∧ DefOk PG w K mg base NT 5 (He.ga K "_law_draw") fn ps__law_draw 2 (some (.l .f)) .f f__law_draw := by
  obtain ⟨fn, F0⟩ := T.c.def_ 14 (d := dg__law_draw) rfl
  obtain ⟨n_Bound_eq, D_Bound_eq, F_Bound_eq⟩ := ok_Bound_eq (w := w) (base := base) T
  have B_Bound_eq := D_Bound_eq.bindsN (ps := ps_Bound_eq) (fun _ _ _ _ _ _ us hl => match us, hl with | [_, _], _ => rfl)
  refine ⟨fn, F0, ⟨?_, F0.kp⟩⟩
  exact fn_sim (NT := NT) F0 sc__law_draw (some (.l .f)) .f _ [.l .f, .f, .f, .f, .f, .f] [.l .f, .f, .f, .f, .f, .f] (fun cdv A outer s H E pin W hr tk =>
    sss_cons (ss_if (κ2 := [.l .f, .f, .f, .f, .f, .f]) (bb_cmp op_gt sp_gt (ae_cons (ee_ix ix_seq sp_ix (ae_peek 0 0 vl__law_draw vs__law_draw (ae_cons ee_int ae_nil) rfl rfl)) (ae_cons ee_int ae_nil)))
      (sss_cons (ss_set (κ' := [.l .f, .f, .f, .f, .f, .f]) 2 sc__law_draw.nd rfl (.inl rfl) (ee_ix ix_seq sp_ix (ae_peek 0 0 vl__law_draw vs__law_draw (ae_cons ee_int ae_nil) rfl rfl)))
      (sss_cons (ss_setix 0 0 vl__law_draw vs__law_draw rfl rfl (ee_bin op_fdivW sp_div (ae_cons (ee_callTy call_int3 sp_int1 rfl T.fr_int bt_int (ae_cons (ee_var 2 2 vl__law_draw vs__law_draw rfl rfl) ae_nil)) (ae_cons (ee_var 1 1 vl__law_draw vs__law_draw rfl rfl) ae_nil))) rfl ee_int rfl)
      (sss_one (ss_ret (ee_bin op_mod sp_mod (ae_cons (ee_callTy call_int3 sp_int1 rfl T.fr_int bt_int (ae_cons (ee_var 2 2 vl__law_draw vs__law_draw rfl rfl) ae_nil)) (ae_cons (ee_var 1 1 vl__law_draw vs__law_draw rfl rfl) ae_nil)))))))
      sss_nil)
      (sss_cons (ss_set (κ' := [.l .f, .f, .f, .f, .f, .f]) 3 sc__law_draw.nd rfl (.inl rfl) (ee_ix ix_seq sp_ix (ae_peek 0 0 vl__law_draw vs__law_draw (ae_cons ee_int ae_nil) rfl rfl)))
      (sss_cons (ss_setix 0 0 vl__law_draw vs__law_draw rfl rfl (ee_bin op_add sp_add (ae_cons (ee_var 3 3 vl__law_draw vs__law_draw rfl rfl) (ae_cons ee_int ae_nil))) rfl ee_int rfl)
      (sss_cons (ss_set (κ' := [.l .f, .f, .f, .f, .f, .f]) 4 sc__law_draw.nd rfl (.inl rfl) (ee_bin op_add sp_add (ae_cons (ee_bin op_mul2 sp_mul (ae_cons ee_int (ae_cons (ee_var 3 3 vl__law_draw vs__law_draw rfl rfl) ae_nil))) (ae_cons ee_int ae_nil))))
      (sss_cons (ss_if (κ2 := [.l .f, .f, .f, .f, .f, .f]) (bb_cmpF (OpR.or (op_neOwn (F_Bound_eq).F (hr.mono (by omega)) B_Bound_eq rfl T.ne_Bound (T.own.c 6 rfl).2.2 (T.me_Bound_eq).at_ (T.me_Bound_eq).fn) (op_ne2 hr.units)) (OpSpecF.or (sp_ownE (neg := true) T.own (Cl := 6) rfl) sp_ne.fr) (fe_cons (ee_ix ix_seq sp_ix (ae_peek 0 0 vl__law_draw vs__law_draw (ae_cons ee_int ae_nil) rfl rfl)) (fe_cons (EE.frz (ee_lst fe_nil)) fe_nil)))
      (sss_one (ss_set (κ' := [.l .f, .f, .f, .f, .f, .f]) 4 sc__law_draw.nd rfl (.inl rfl) (ee_ix ix_seq sp_ix (ae_cons (ee_ix ix_seq sp_ix (ae_peek 0 0 vl__law_draw vs__law_draw (ae_cons ee_int ae_nil) rfl rfl)) (ae_cons (ee_bin op_mod sp_mod (ae_cons (ee_callTy call_int3 sp_int1 rfl T.fr_int bt_int (ae_cons (ee_var 3 3 vl__law_draw vs__law_draw rfl rfl) ae_nil)) (ae_cons (ee_callB call_len sp_len rfl T.fr_len bt_len (ae_cons (ee_ix ix_seq sp_ix (ae_peek 0 0 vl__law_draw vs__law_draw (ae_cons ee_int ae_nil) rfl rfl)) ae_nil)) ae_nil))) ae_nil)))))
      sss_nil)
      (sss_cons (ss_if (κ2 := [.l .f, .f, .f, .f, .f, .f]) (BW.bb (bw_and (bb_cmp op_lt sp_lt (ae_cons (ee_var 3 3 vl__law_draw vs__law_draw rfl rfl) (ae_cons (ee_callB call_len sp_len rfl T.fr_len bt_len (ae_cons (ee_ix ix_seq sp_ix (ae_peek 0 0 vl__law_draw vs__law_draw (ae_cons ee_int ae_nil) rfl rfl)) ae_nil)) ae_nil))) (bw_and1 (bb_cmp op_ge sp_ge (ae_cons (ee_callB call_abs sp_abs rfl T.fr_abs bt_abs (ae_cons (ee_var 4 4 vl__law_draw vs__law_draw rfl rfl) ae_nil)) (ae_cons (ee_bin op_pow sp_pow (ae_cons ee_int (ae_cons ee_int ae_nil))) ae_nil))))))
      (sss_cons (ss_set (κ' := [.l .f, .f, .f, .f, .f, .f]) 2 sc__law_draw.nd rfl (.inl rfl) (ee_bin op_add sp_add (ae_cons (ee_bin op_mul2 sp_mul (ae_cons ee_int (ae_cons (ee_bin op_sub sp_sub (ae_cons (ee_callB call_abs sp_abs rfl T.fr_abs bt_abs (ae_cons (ee_var 4 4 vl__law_draw vs__law_draw rfl rfl) ae_nil)) (ae_cons (ee_bin op_pow sp_pow (ae_cons ee_int (ae_cons ee_int ae_nil))) ae_nil))) ae_nil))) (ae_cons (ee_callTy call_int3 sp_int1 rfl T.fr_int bt_int (ae_cons (ee_cmp op_lt sp_lt (ae_cons (ee_var 4 4 vl__law_draw vs__law_draw rfl rfl) (ae_cons ee_int ae_nil))) ae_nil)) ae_nil))))
      (sss_cons (ss_setix 0 0 vl__law_draw vs__law_draw rfl rfl (ee_bin op_fdivW sp_div (ae_cons (ee_callTy call_int3 sp_int1 rfl T.fr_int bt_int (ae_cons (ee_var 2 2 vl__law_draw vs__law_draw rfl rfl) ae_nil)) (ae_cons (ee_var 1 1 vl__law_draw vs__law_draw rfl rfl) ae_nil))) rfl ee_int rfl)
      (sss_one (ss_ret (ee_bin op_mod sp_mod (ae_cons (ee_callTy call_int3 sp_int1 rfl T.fr_int bt_int (ae_cons (ee_var 2 2 vl__law_draw vs__law_draw rfl rfl) ae_nil)) (ae_cons (ee_var 1 1 vl__law_draw vs__law_draw rfl rfl) ae_nil)))))))
      sss_nil)
      (sss_cons (ss_set (κ' := [.l .f, .f, .f, .f, .f, .f]) 5 sc__law_draw.nd rfl (.inl rfl) (ee_bin op_mod sp_mod (ae_cons (ee_callTy call_int3 sp_int1 rfl T.fr_int bt_int (ae_cons (ee_bin op_pow sp_pow (ae_cons (ee_bin op_add sp_add (ae_cons (ee_bin op_add sp_add (ae_cons (ee_bin op_mod sp_mod (ae_cons (ee_callTy call_int3 sp_int1 rfl T.fr_int bt_int (ae_cons (ee_var 4 4 vl__law_draw vs__law_draw rfl rfl) ae_nil)) (ae_cons ee_int ae_nil))) (ae_cons (ee_bin op_mul2 sp_mul (ae_cons ee_int (ae_cons (ee_var 3 3 vl__law_draw vs__law_draw rfl rfl) ae_nil))) ae_nil))) (ae_cons ee_int ae_nil))) (ae_cons ee_int ae_nil))) ae_nil)) (ae_cons ee_int ae_nil))))
      (sss_cons (ss_set (κ' := [.l .f, .f, .f, .f, .f, .f]) 5 sc__law_draw.nd rfl (.inl rfl) (ee_bin op_mod sp_mod (ae_cons (ee_callTy call_int3 sp_int1 rfl T.fr_int bt_int (ae_cons (ee_bin op_pow sp_pow (ae_cons (ee_bin op_add sp_add (ae_cons (ee_bin op_add sp_add (ae_cons (ee_bin op_mul2 sp_mul (ae_cons (ee_var 5 5 vl__law_draw vs__law_draw rfl rfl) (ae_cons (ee_bin op_add sp_add (ae_cons (ee_bin op_mul2 sp_mul (ae_cons ee_int (ae_cons (ee_var 3 3 vl__law_draw vs__law_draw rfl rfl) ae_nil))) (ae_cons ee_int ae_nil))) ae_nil))) (ae_cons (ee_bin op_mul2 sp_mul (ae_cons (ee_bin op_mul2 sp_mul (ae_cons ee_int (ae_cons (ee_var 3 3 vl__law_draw vs__law_draw rfl rfl) ae_nil))) (ae_cons (ee_var 3 3 vl__law_draw vs__law_draw rfl rfl) ae_nil))) ae_nil))) (ae_cons ee_int ae_nil))) (ae_cons ee_int ae_nil))) ae_nil)) (ae_cons ee_int ae_nil))))
      (sss_one (ss_ret (ee_bin op_mod sp_mod (ae_cons (ee_callTy call_int3 sp_int1 rfl T.fr_int bt_int (ae_cons (ee_bin op_fdivW sp_div (ae_cons (ee_var 5 5 vl__law_draw vs__law_draw rfl rfl) (ae_cons ee_int ae_nil))) ae_nil)) (ae_cons (ee_var 1 1 vl__law_draw vs__law_draw rfl rfl) ae_nil)))))))))))))
def f__law_pick : FDen := fdOf 2 (some (.l .f)) (sRet (dOp fIx (aCons (dVar 1) (aCons (dCallM 0 (callD1 1 0 2 [0] [] f__law_draw) (aCons (dOp (fLen) (aCons (dVar 1) aNil)) aNil) aNil) aNil))))
theorem ok__law_pick {w : World} {K : PySem.W.Frag} {mg : Str → Option Value} {base : Heap} (T : Tx K mg) : ∃ fn, FunD K "_law_pick" "_law_pick" (defArgs st__law_pick) (defBody st__law_pick) (defScope st__law_pick) ((dg__law_pick).dvs K) [] (He.ga K "_law_pick") fn ∧ DefOk PG w K mg base NT 7 (He.ga K "_law_pick") fn ps__law_pick 2 (some (.l .f)) .f f__law_pick := by
  obtain ⟨fn, F0⟩ := T.c.def_ 15 (d := dg__law_pick) rfl
  obtain ⟨n__law_draw, D__law_draw, F__law_draw⟩ := ok__law_draw (w := w) (base := base) T
  obtain ⟨_, H_kb__law_draw_2⟩ := kb__law_draw_2 D__law_draw
  refine ⟨fn, F0, ⟨?_, F0.kp⟩⟩
  exact fn_sim (NT := NT) F0 sc__law_pick (some (.l .f)) .f _ [.l .f, .f] [.l .f, .f] (fun cdv A outer s H E pin W hr tk =>
    sss_one (ss_ret (ee_ix ix_seq sp_ix (ae_cons (ee_var 1 1 vl__law_pick vs__law_pick rfl rfl) (ae_cons (ee_callM (ks := ([] : List Str)) (src := [0]) (dds := []) 0 0 vl__law_pick vs__law_pick rfl rfl F__law_draw hr (by omega) rfl T.gl__law_draw H_kb__law_draw_2 rd__law_draw tk (fe_cons (ee_callB call_len sp_len rfl T.fr_len bt_len (ae_cons (ee_var 1 1 vl__law_pick vs__law_pick rfl rfl) ae_nil)) fe_nil) fe_nil) ae_nil)))))
def f__law_great : FDen := fdOf 1 (some (.l .f)) (sRet (dOp (fII iAdd) (aCons (dOp (fII iMul) (aCons (dOp (fII iAdd) (aCons (dOp (fII iMul) (aCons (dCallM 0 (callD1 1 0 2 [0] [] f__law_draw) (aCons (dOp (fII iPow) (aCons (dC (.int 10)) (aCons (dC (.int 7)) aNil))) aNil) aNil) (aCons (dOp (fII iPow) (aCons (dC (.int 10)) (aCons (dC (.int 7)) aNil))) aNil))) (aCons (dCallM 0 (callD1 1 0 2 [0] [] f__law_draw) (aCons (dOp (fII iPow) (aCons (dC (.int 10)) (aCons (dC (.int 7)) aNil))) aNil) aNil) aNil))) (aCons (dOp (fII iPow) (aCons (dC (.int 10)) (aCons (dC (.int 6)) aNil))) aNil))) (aCons (dCallM 0 (callD1 1 0 2 [0] [] f__law_draw) (aCons (dOp (fII iPow) (aCons (dC (.int 10)) (aCons (dC (.int 6)) aNil))) aNil) aNil) aNil))))
theorem ok__law_great {w : World} {K : PySem.W.Frag} {mg : Str → Option Value} {base : Heap} (T : Tx K mg) : ∃ fn, FunD K "_law_great" "_law_great" (defArgs st__law_great) (defBody st__law_great) (defScope st__law_great) ((dg__law_great).dvs K) [] (He.ga K "_law_great") fn ∧ DefOk PG w K mg base NT 7 (He.ga K "_law_great") fn ps__law_great 1 (some (.l .f)) .f f__law_great := by
  obtain ⟨fn, F0⟩ := T.c.def_ 16 (d := dg__law_great) rfl
  obtain ⟨n__law_draw, D__law_draw, F__law_draw⟩ := ok__law_draw (w := w) (base := base) T
  obtain ⟨_, H_kb__law_draw_2⟩ := kb__law_draw_2 D__law_draw
  refine ⟨fn, F0, ⟨?_, F0.kp⟩⟩
  exact fn_sim (NT := NT) F0 sc__law_great (some (.l .f)) .f _ [.l .f] [.l .f] (fun cdv A outer s H E pin W hr tk =>
    sss_one (ss_ret (ee_bin op_add sp_add (ae_cons (ee_bin op_mul2 sp_mul (ae_cons (ee_bin op_add sp_add (ae_cons (ee_bin op_mul2 sp_mul (ae_cons (ee_callM (ks := ([] : List Str)) (src := [0]) (dds := []) 0 0 vl__law_great vs__law_great rfl rfl F__law_draw hr (by omega) rfl T.gl__law_draw H_kb__law_draw_2 rd__law_draw tk (fe_cons (ee_bin op_pow sp_pow (ae_cons ee_int (ae_cons ee_int ae_nil))) fe_nil) fe_nil) (ae_cons (ee_bin op_pow sp_pow (ae_cons ee_int (ae_cons ee_int ae_nil))) ae_nil))) (ae_cons (ee_callM (ks := ([] : List Str)) (src := [0]) (dds := []) 0 0 vl__law_great vs__law_great rfl rfl F__law_draw hr (by omega) rfl T.gl__law_draw H_kb__law_draw_2 rd__law_draw tk (fe_cons (ee_bin op_pow sp_pow (ae_cons ee_int (ae_cons ee_int ae_nil))) fe_nil) fe_nil) ae_nil))) (ae_cons (ee_bin op_pow sp_pow (ae_cons ee_int (ae_cons ee_int ae_nil))) ae_nil))) (ae_cons (ee_callM (ks := ([] : List Str)) (src := [0]) (dds := []) 0 0 vl__law_great vs__law_great rfl rfl F__law_draw hr (by omega) rfl T.gl__law_draw H_kb__law_draw_2 rd__law_draw tk (fe_cons (ee_bin op_pow sp_pow (ae_cons ee_int (ae_cons ee_int ae_nil))) fe_nil) fe_nil) ae_nil)))))
def f__law_signed : FDen := fdOf 2 (some (.l .f)) (sRet (dOp (fII iSub) (aCons (dVar 1) (aCons (dOp (fII iMul) (aCons (dOp (fII iMul) (aCons (dC (.int 2)) (aCons (dVar 1) aNil))) (aCons (dCallM 0 (callD1 1 0 2 [0] [] f__law_draw) (aCons (dC (.int 2)) aNil) aNil) aNil))) aNil))))
theorem ok__law_signed {w : World} {K : PySem.W.Frag} {mg : Str → Option Value} {base : Heap} (T : Tx K mg) : ∃ fn, FunD K "_law_signed" "_law_signed" (defArgs st__law_signed) (defBody st__law_signed) (defScope st__law_signed) ((dg__law_signed).dvs K) [] (He.ga K "_law_signed") fn ∧ DefOk PG w K mg base NT 7 (He.ga K "_law_signed") fn ps__law_signed 2 (some (.l .f)) .f f__law_signed := by
  obtain ⟨fn, F0⟩ := T.c.def_ 17 (d := dg__law_signed) rfl
  obtain ⟨n__law_draw, D__law_draw, F__law_draw⟩ := ok__law_draw (w := w) (base := base) T
  obtain ⟨_, H_kb__law_draw_2⟩ := kb__law_draw_2 D__law_draw
  refine ⟨fn, F0, ⟨?_, F0.kp⟩⟩
  exact fn_sim (NT := NT) F0 sc__law_signed (some (.l .f)) .f _ [.l .f, .f] [.l .f, .f] (fun cdv A outer s H E pin W hr tk =>
    sss_one (ss_ret (ee_bin op_sub sp_sub (ae_cons (ee_var 1 1 vl__law_signed vs__law_signed rfl rfl) (ae_cons (ee_bin op_mul2 sp_mul (ae_cons (ee_bin op_mul2 sp_mul (ae_cons ee_int (ae_cons (ee_var 1 1 vl__law_signed vs__law_signed rfl rfl) ae_nil))) (ae_cons (ee_callM (ks := ([] : List Str)) (src := [0]) (dds := []) 0 0 vl__law_signed vs__law_signed rfl rfl F__law_draw hr (by omega) rfl T.gl__law_draw H_kb__law_draw_2 rd__law_draw tk (fe_cons ee_int fe_nil) fe_nil) ae_nil))) ae_nil)))))
def f__law_root : FDen := fdOf 2 none (sSeq (sIf (bVal (dOp (fII iLt) (aCons (dVar 0) (aCons (dC (.int 2)) aNil)))) (sRet (dVar 0)) sNext) (sSeq (sSet 1 (dOp (fII iShl) (aCons (dC (.int 2)) (aCons (dOp (fII iDiv) (aCons (dOp fBits (aCons (dVar 0) aNil)) (aCons (dC (.int 2)) aNil))) aNil)))) (sSeq (whileD (bVal (dOp (fII iGt) (aCons (dOp (fII iMul) (aCons (dVar 1) (aCons (dVar 1) aNil))) (aCons (dVar 0) aNil)))) (sSet 1 (dOp (fII iDiv) (aCons (dOp (fII iAdd) (aCons (dVar 1) (aCons (dOp (fII iDiv) (aCons (dVar 0) (aCons (dVar 1) aNil))) aNil))) (aCons (dC (.int 2)) aNil)))) FUEL) (sRet (dVar 1)))))
theorem ok__law_root {w : World} {K : PySem.W.Frag} {mg : Str → Option Value} {base : Heap} (T : Tx K mg) : ∃ fn, FunD K "_law_root" "_law_root" (defArgs st__law_root) (defBody st__law_root) (defScope st__law_root) ((dg__law_root).dvs K) [] (He.ga K "_law_root") fn ∧ DefOk PG w K mg base NT 2 (He.ga K "_law_root") fn ps__law_root 1 none .f f__law_root := by
  obtain ⟨fn, F0⟩ := T.c.def_ 18 (d := dg__law_root) rfl
  refine ⟨fn, F0, ⟨?_, F0.kp⟩⟩
  exact fn_sim (NT := NT) F0 sc__law_root none .f _ [.f, .f] [.f, .f] (fun cdv A outer s H E pin W hr tk =>
    sss_cons (ss_if (κ2 := [.f, .f]) (bb_cmp op_lt sp_lt (ae_cons (ee_var 0 0 vl__law_root vs__law_root rfl rfl) (ae_cons ee_int ae_nil)))
      (sss_one (ss_ret (ee_var 0 0 vl__law_root vs__law_root rfl rfl)))
      sss_nil)
      (sss_cons (ss_set (κ' := [.f, .f]) 1 sc__law_root.nd rfl (.inl rfl) (ee_bin op_shl sp_shl (ae_cons ee_int (ae_cons (ee_bin op_fdivW sp_div (ae_cons (ee_bits (ae_cons (ee_var 0 0 vl__law_root vs__law_root rfl rfl) ae_nil)) (ae_cons ee_int ae_nil))) ae_nil))))
      (sss_cons (ss_while FUEL (passes_of rfl) (bb_cmp op_gt sp_gt (ae_cons (ee_bin op_mul2 sp_mul (ae_cons (ee_var 1 1 vl__law_root vs__law_root rfl rfl) (ae_cons (ee_var 1 1 vl__law_root vs__law_root rfl rfl) ae_nil))) (ae_cons (ee_var 0 0 vl__law_root vs__law_root rfl rfl) ae_nil))) (sss_one (ss_set (κ' := [.f, .f]) 1 sc__law_root.nd rfl (.inl rfl) (ee_bin op_fdivW sp_div (ae_cons (ee_bin op_add sp_add (ae_cons (ee_var 1 1 vl__law_root vs__law_root rfl rfl) (ae_cons (ee_bin op_fdivW sp_div (ae_cons (ee_var 0 0 vl__law_root vs__law_root rfl rfl) (ae_cons (ee_var 1 1 vl__law_root vs__law_root rfl rfl) ae_nil))) ae_nil))) (ae_cons ee_int ae_nil))))))
      (sss_one (ss_ret (ee_var 1 1 vl__law_root vs__law_root rfl rfl))))))
def g__law_sign : Nat → FDen
  | 0 => fun _ => .stuck
  | r + 1 => fdOf 6 none (sSeq (sAsg (dVar 0) (gdTup 3 (gdCons (gdName 1) (gdCons (gdName 2) (gdCons (gdName 3) gdNil))))) (sSeq (sIf (bVal (dOp (fII iLt) (aCons (dVar 2) (aCons (dC (.int 0)) aNil)))) (sRet (dOp (fI iNeg) (aCons (dCall (callD 1 0 1 [0] [] (g__law_sign r)) (aCons (dOp fTup (aCons (dOp (fI iNeg) (aCons (dVar 1) aNil)) (aCons (dOp (fI iNeg) (aCons (dVar 2) aNil)) (aCons (dVar 3) aNil)))) aNil) aNil) aNil))) sNext) (sSeq (sSet 4 (dOp (fII iMul) (aCons (dOp (fII iMul) (aCons (dVar 2) (aCons (dVar 2) aNil))) (aCons (dVar 3) aNil)))) (sSeq (sSet 5 (dCall (callD 1 0 1 [0] [] f__law_root) (aCons (dVar 4) aNil) aNil)) (sSeq (sIf (bVal (dOp (fNe) (aCons (dOp (fII iAdd) (aCons (dVar 1) (aCons (dVar 5) aNil))) (aCons (dC (.int 0)) aNil)))) (sRet (dIf (bVal (dOp (fII iGt) (aCons (dOp (fII iAdd) (aCons (dVar 1) (aCons (dVar 5) aNil))) (aCons (dC (.int 0)) aNil)))) (dC (.int 1)) (dOp (fI iNeg) (aCons (dC (.int 1)) aNil)))) sNext) (sRet (dOp (fInt1) (aCons (dOp (fII iLt) (aCons (dOp (fII iMul) (aCons (dVar 5) (aCons (dVar 5) aNil))) (aCons (dVar 4) aNil))) aNil))))))))
theorem okr__law_sign {w : World} {K : PySem.W.Frag} {mg : Str → Option Value} {base : Heap} (T : Tx K mg) (r : Nat) : ∃ fn, FunD K "_law_sign" "_law_sign" (defArgs st__law_sign) (defBody st__law_sign) (defScope st__law_sign) ((dg__law_sign).dvs K) [] (He.ga K "_law_sign") fn ∧ DefOk PG w K mg base NT (4 + 2 * r) (He.ga K "_law_sign") fn ps__law_sign 1 none .f (g__law_sign r) := by
  obtain ⟨fn, F0⟩ := T.c.def_ 19 (d := dg__law_sign) rfl
  obtain ⟨n__law_root, D__law_root, F__law_root⟩ := ok__law_root (w := w) (base := base) T
  obtain ⟨_, H_kb__law_root_1⟩ := kb__law_root_1 D__law_root
  obtain ⟨_, H_kb__law_sign_1⟩ := kb__law_sign_1 F0
  refine ⟨fn, F0, ?_⟩
  induction r with
  | zero => exact ⟨(fn_none (k := 0) F0 sc__law_sign none .f).mono (by omega), F0.kp⟩
  | succ r Fr =>
  refine ⟨FnOk.mono (j := (4 + 2 * r) + 1) (fn_sim (NT := NT) F0 sc__law_sign none .f _ [.f, .f, .f, .f, .f, .f] [.f, .f, .f, .f, .f, .f] (fun cdv A outer s H E pin W hr tk =>
    sss_cons (ss_asg (ee_var 0 0 vl__law_sign vs__law_sign rfl rfl) (gg_tup rfl (ggs_cons (gg_name (κ' := [.f, .f, .f, .f, .f, .f]) 1 sc__law_sign.nd rfl (.inl rfl) (.inl rfl)) (ggs_cons (gg_name (κ' := [.f, .f, .f, .f, .f, .f]) 2 sc__law_sign.nd rfl (.inl rfl) (.inl rfl)) (ggs_cons (gg_name (κ' := [.f, .f, .f, .f, .f, .f]) 3 sc__law_sign.nd rfl (.inl rfl) (.inl rfl)) ggs_nil)))))
      (sss_cons (ss_if (κ2 := [.f, .f, .f, .f, .f, .f]) (bb_cmp op_lt sp_lt (ae_cons (ee_var 2 2 vl__law_sign vs__law_sign rfl rfl) (ae_cons ee_int ae_nil)))
      (sss_one (ss_ret (ee_un un_neg sp_neg (ae_cons (ee_call (ks := ([] : List Str)) (src := [0]) (dds := []) Fr hr (by omega) rfl T.gl__law_sign H_kb__law_sign_1 rd__law_sign tk (fe_cons (ee_tup (fe_cons (ee_un un_neg sp_neg (ae_cons (ee_var 1 1 vl__law_sign vs__law_sign rfl rfl) ae_nil)) (fe_cons (ee_un un_neg sp_neg (ae_cons (ee_var 2 2 vl__law_sign vs__law_sign rfl rfl) ae_nil)) (fe_cons (ee_var 3 3 vl__law_sign vs__law_sign rfl rfl) fe_nil)))) fe_nil) fe_nil) ae_nil))))
      sss_nil)
      (sss_cons (ss_set (κ' := [.f, .f, .f, .f, .f, .f]) 4 sc__law_sign.nd rfl (.inl rfl) (ee_bin op_mul2 sp_mul (ae_cons (ee_bin op_mul2 sp_mul (ae_cons (ee_var 2 2 vl__law_sign vs__law_sign rfl rfl) (ae_cons (ee_var 2 2 vl__law_sign vs__law_sign rfl rfl) ae_nil))) (ae_cons (ee_var 3 3 vl__law_sign vs__law_sign rfl rfl) ae_nil))))
      (sss_cons (ss_set (κ' := [.f, .f, .f, .f, .f, .f]) 5 sc__law_sign.nd rfl (.inl rfl) (ee_call (ks := ([] : List Str)) (src := [0]) (dds := []) F__law_root hr (by omega) rfl T.gl__law_root H_kb__law_root_1 rd__law_root tk (fe_cons (ee_var 4 4 vl__law_sign vs__law_sign rfl rfl) fe_nil) fe_nil))
      (sss_cons (ss_if (κ2 := [.f, .f, .f, .f, .f, .f]) (bb_cmp (op_ne2 hr.units) sp_ne (ae_cons (ee_bin op_add sp_add (ae_cons (ee_var 1 1 vl__law_sign vs__law_sign rfl rfl) (ae_cons (ee_var 5 5 vl__law_sign vs__law_sign rfl rfl) ae_nil))) (ae_cons ee_int ae_nil)))
      (sss_one (ss_ret (ee_if (bb_cmp op_gt sp_gt (ae_cons (ee_bin op_add sp_add (ae_cons (ee_var 1 1 vl__law_sign vs__law_sign rfl rfl) (ae_cons (ee_var 5 5 vl__law_sign vs__law_sign rfl rfl) ae_nil))) (ae_cons ee_int ae_nil))) ee_int (ee_un un_neg sp_neg (ae_cons ee_int ae_nil)))))
      sss_nil)
      (sss_one (ss_ret (ee_callTy call_int3 sp_int1 rfl T.fr_int bt_int (ae_cons (ee_cmp op_lt sp_lt (ae_cons (ee_bin op_mul2 sp_mul (ae_cons (ee_var 5 5 vl__law_sign vs__law_sign rfl rfl) (ae_cons (ee_var 5 5 vl__law_sign vs__law_sign rfl rfl) ae_nil))) (ae_cons (ee_var 4 4 vl__law_sign vs__law_sign rfl rfl) ae_nil))) ae_nil)))))))))) (by omega), F0.kp⟩
def f__law_told : FDen := fdOf 6 (some (.l .f)) (sSeq (sSet 1 (dCallM 0 (callD1 1 0 2 [0] [] f__law_draw) (aCons (dC (.int 6)) aNil) aNil)) (sSeq (sIf (bVal (dOp (fEq) (aCons (dVar 1) (aCons (dC (.int 0)) aNil)))) (sRet (dOp fTup (aCons (dCallM 0 (callD1 1 0 2 [0] [] f__law_signed) (aCons (dCallM 0 (callD1 1 0 2 [0] [] f__law_draw) (aCons (dC (.int 10)) aNil) aNil) aNil) aNil) (aCons (dCallM 0 (callD1 1 0 2 [0] [] f__law_signed) (aCons (dCallM 0 (callD1 1 0 2 [0] [] f__law_draw) (aCons (dC (.int 10)) aNil) aNil) aNil) aNil) (aCons (dCallM 0 (callD1 1 0 2 [0] [] f__law_draw) (aCons (dC (.int 13)) aNil) aNil) aNil))))) sNext) (sSeq (sIf (bVal (dOp (fEq) (aCons (dVar 1) (aCons (dC (.int 1)) aNil)))) (sSeq (sPar [2, 3] (aCons (dCallM 0 (callD1 1 0 2 [0] [] f__law_signed) (aCons (dCallM 0 (callD1 1 0 2 [0] [] f__law_draw) (aCons (dOp (fII iPow) (aCons (dC (.int 10)) (aCons (dC (.int 6)) aNil))) aNil) aNil) aNil) aNil) (aCons (dCallM 0 (callD1 1 0 2 [0] [] f__law_draw) (aCons (dOp (fII iPow) (aCons (dC (.int 10)) (aCons (dC (.int 7)) aNil))) aNil) aNil) aNil))) (sSeq (sSet 4 (dCall (callD 1 0 1 [0] [] f__law_root) (aCons (dOp (fII iMul) (aCons (dOp (fII iMul) (aCons (dVar 2) (aCons (dVar 2) aNil))) (aCons (dVar 3) aNil))) aNil) aNil)) (sRet (dOp fTup (aCons (dOp (fII iSub) (aCons (dOp (fII iAdd) (aCons (dIf (bVal (dOp (fII iLt) (aCons (dVar 2) (aCons (dC (.int 0)) aNil)))) (dVar 4) (dOp (fI iNeg) (aCons (dVar 4) aNil))) (aCons (dCallM 0 (callD1 1 0 2 [0] [] f__law_draw) (aCons (dC (.int 3)) aNil) aNil) aNil))) (aCons (dC (.int 1)) aNil))) (aCons (dVar 2) (aCons (dVar 3) aNil))))))) sNext) (sSeq (sIf (bVal (dOp (fEq) (aCons (dVar 1) (aCons (dC (.int 2)) aNil)))) (sSeq (sPar [2, 5] (aCons (dCallM 0 (callD1 1 0 2 [0] [] f__law_signed) (aCons (dCallM 0 (callD1 0 0 1 [] [] f__law_great) aNil aNil) aNil) aNil) (aCons (dCallM 0 (callD1 1 0 2 [0] [] f__law_draw) (aCons (dOp (fII iPow) (aCons (dC (.int 10)) (aCons (dC (.int 5)) aNil))) aNil) aNil) aNil))) (sRet (dOp fTup (aCons (dOp (fII iSub) (aCons (dOp (fII iAdd) (aCons (dOp (fII iMul) (aCons (dOp (fI iNeg) (aCons (dVar 2) aNil)) (aCons (dVar 5) aNil))) (aCons (dCallM 0 (callD1 1 0 2 [0] [] f__law_draw) (aCons (dC (.int 3)) aNil) aNil) aNil))) (aCons (dC (.int 1)) aNil))) (aCons (dVar 2) (aCons (dOp (fII iMul) (aCons (dVar 5) (aCons (dVar 5) aNil))) aNil)))))) sNext) (sSeq (sIf (bVal (dOp (fEq) (aCons (dVar 1) (aCons (dC (.int 3)) aNil)))) (sSeq (sPar [2, 3] (aCons (dCallM 0 (callD1 1 0 2 [0] [] f__law_signed) (aCons (dCallM 0 (callD1 0 0 1 [] [] f__law_great) aNil aNil) aNil) aNil) (aCons (dCallM 0 (callD1 0 0 1 [] [] f__law_great) aNil aNil) aNil))) (sSeq (sSet 4 (dCall (callD 1 0 1 [0] [] f__law_root) (aCons (dOp (fII iMul) (aCons (dOp (fII iMul) (aCons (dVar 2) (aCons (dVar 2) aNil))) (aCons (dVar 3) aNil))) aNil) aNil)) (sRet (dOp fTup (aCons (dOp (fII iSub) (aCons (dOp (fII iAdd) (aCons (dIf (bVal (dOp (fII iLt) (aCons (dVar 2) (aCons (dC (.int 0)) aNil)))) (dVar 4) (dOp (fI iNeg) (aCons (dVar 4) aNil))) (aCons (dCallM 0 (callD1 1 0 2 [0] [] f__law_draw) (aCons (dC (.int 3)) aNil) aNil) aNil))) (aCons (dC (.int 1)) aNil))) (aCons (dVar 2) (aCons (dVar 3) aNil))))))) sNext) (sSeq (sIf (bVal (dOp (fEq) (aCons (dVar 1) (aCons (dC (.int 4)) aNil)))) (sRet (dOp fTup (aCons (dCallM 0 (callD1 1 0 2 [0] [] f__law_signed) (aCons (dCallM 0 (callD1 0 0 1 [] [] f__law_great) aNil aNil) aNil) aNil) (aCons (dC (.int 0)) (aCons (dCallM 0 (callD1 0 0 1 [] [] f__law_great) aNil aNil) aNil))))) sNext) (sRet (dOp fTup (aCons (dCallM 0 (callD1 1 0 2 [0] [] f__law_signed) (aCons (dCallM 0 (callD1 0 0 1 [] [] f__law_great) aNil aNil) aNil) aNil) (aCons (dCallM 0 (callD1 1 0 2 [0] [] f__law_signed) (aCons (dCallM 0 (callD1 0 0 1 [] [] f__law_great) aNil aNil) aNil) aNil) (aCons (dCallM 0 (callD1 0 0 1 [] [] f__law_great) aNil aNil) aNil)))))))))))
theorem ok__law_told {w : World} {K : PySem.W.Frag} {mg : Str → Option Value} {base : Heap} (T : Tx K mg) : ∃ fn, FunD K "_law_told" "_law_told" (defArgs st__law_told) (defBody st__law_told) (defScope st__law_told) ((dg__law_told).dvs K) [] (He.ga K "_law_told") fn ∧ DefOk PG w K mg base NT 9 (He.ga K "_law_told") fn ps__law_told 1 (some (.l .f)) .f f__law_told := by
  obtain ⟨fn, F0⟩ := T.c.def_ 20 (d := dg__law_told) rfl
  obtain ⟨n__law_draw, D__law_draw, F__law_draw⟩ := ok__law_draw (w := w) (base := base) T
  obtain ⟨n__law_great, D__law_great, F__law_great⟩ := ok__law_great (w := w) (base := base) T
  obtain ⟨n__law_root, D__law_root, F__law_root⟩ := ok__law_root (w := w) (base := base) T
  obtain ⟨n__law_signed, D__law_signed, F__law_signed⟩ := ok__law_signed (w := w) (base := base) T
  obtain ⟨_, H_kb__law_draw_2⟩ := kb__law_draw_2 D__law_draw
  obtain ⟨_, H_kb__law_great_1⟩ := kb__law_great_1 D__law_great
  obtain ⟨_, H_kb__law_root_1⟩ := kb__law_root_1 D__law_root
  obtain ⟨_, H_kb__law_signed_2⟩ := kb__law_signed_2 D__law_signed
  refine ⟨fn, F0, ⟨?_, F0.kp⟩⟩
  exact fn_sim (NT := NT) F0 sc__law_told (some (.l .f)) .f _ [.l .f, .f, .f, .f, .f, .f] [.l .f, .f, .f, .f, .f, .f] (fun cdv A outer s H E pin W hr tk =>
    sss_cons (ss_set (κ' := [.l .f, .f, .f, .f, .f, .f]) 1 sc__law_told.nd rfl (.inl rfl) (ee_callM (ks := ([] : List Str)) (src := [0]) (dds := []) 0 0 vl__law_told vs__law_told rfl rfl F__law_draw hr (by omega) rfl T.gl__law_draw H_kb__law_draw_2 rd__law_draw tk (fe_cons ee_int fe_nil) fe_nil))
      (sss_cons (ss_if (κ2 := [.l .f, .f, .f, .f, .f, .f]) (bb_cmp (op_eq2 hr.units) sp_eq (ae_cons (ee_var 1 1 vl__law_told vs__law_told rfl rfl) (ae_cons ee_int ae_nil)))
      (sss_one (ss_ret (ee_tup (fe_cons (ee_callM (ks := ([] : List Str)) (src := [0]) (dds := []) 0 0 vl__law_told vs__law_told rfl rfl F__law_signed hr (by omega) rfl T.gl__law_signed H_kb__law_signed_2 rd__law_signed tk (fe_cons (ee_callM (ks := ([] : List Str)) (src := [0]) (dds := []) 0 0 vl__law_told vs__law_told rfl rfl F__law_draw hr (by omega) rfl T.gl__law_draw H_kb__law_draw_2 rd__law_draw tk (fe_cons ee_int fe_nil) fe_nil) fe_nil) fe_nil) (fe_cons (ee_callM (ks := ([] : List Str)) (src := [0]) (dds := []) 0 0 vl__law_told vs__law_told rfl rfl F__law_signed hr (by omega) rfl T.gl__law_signed H_kb__law_signed_2 rd__law_signed tk (fe_cons (ee_callM (ks := ([] : List Str)) (src := [0]) (dds := []) 0 0 vl__law_told vs__law_told rfl rfl F__law_draw hr (by omega) rfl T.gl__law_draw H_kb__law_draw_2 rd__law_draw tk (fe_cons ee_int fe_nil) fe_nil) fe_nil) fe_nil) (fe_cons (ee_callM (ks := ([] : List Str)) (src := [0]) (dds := []) 0 0 vl__law_told vs__law_told rfl rfl F__law_draw hr (by omega) rfl T.gl__law_draw H_kb__law_draw_2 rd__law_draw tk (fe_cons ee_int fe_nil) fe_nil) fe_nil))))))
      sss_nil)
      (sss_cons (ss_if (κ2 := [.l .f, .f, .f, .f, .f, .f]) (bb_cmp (op_eq2 hr.units) sp_eq (ae_cons (ee_var 1 1 vl__law_told vs__law_told rfl rfl) (ae_cons ee_int ae_nil)))
      (sss_cons (ss_par (κ' := [.l .f, .f, .f, .f, .f, .f]) 2 3 rfl sc__law_told.nd rfl rfl  (by decide) rfl rfl (fe_cons (ee_callM (ks := ([] : List Str)) (src := [0]) (dds := []) 0 0 vl__law_told vs__law_told rfl rfl F__law_signed hr (by omega) rfl T.gl__law_signed H_kb__law_signed_2 rd__law_signed tk (fe_cons (ee_callM (ks := ([] : List Str)) (src := [0]) (dds := []) 0 0 vl__law_told vs__law_told rfl rfl F__law_draw hr (by omega) rfl T.gl__law_draw H_kb__law_draw_2 rd__law_draw tk (fe_cons (ee_bin op_pow sp_pow (ae_cons ee_int (ae_cons ee_int ae_nil))) fe_nil) fe_nil) fe_nil) fe_nil) (fe_cons (ee_callM (ks := ([] : List Str)) (src := [0]) (dds := []) 0 0 vl__law_told vs__law_told rfl rfl F__law_draw hr (by omega) rfl T.gl__law_draw H_kb__law_draw_2 rd__law_draw tk (fe_cons (ee_bin op_pow sp_pow (ae_cons ee_int (ae_cons ee_int ae_nil))) fe_nil) fe_nil) fe_nil)))
      (sss_cons (ss_set (κ' := [.l .f, .f, .f, .f, .f, .f]) 4 sc__law_told.nd rfl (.inl rfl) (ee_call (ks := ([] : List Str)) (src := [0]) (dds := []) F__law_root hr (by omega) rfl T.gl__law_root H_kb__law_root_1 rd__law_root tk (fe_cons (ee_bin op_mul2 sp_mul (ae_cons (ee_bin op_mul2 sp_mul (ae_cons (ee_var 2 2 vl__law_told vs__law_told rfl rfl) (ae_cons (ee_var 2 2 vl__law_told vs__law_told rfl rfl) ae_nil))) (ae_cons (ee_var 3 3 vl__law_told vs__law_told rfl rfl) ae_nil))) fe_nil) fe_nil))
      (sss_one (ss_ret (ee_tup (fe_cons (ee_bin op_sub sp_sub (ae_cons (ee_bin op_add sp_add (ae_cons (ee_if (bb_cmp op_lt sp_lt (ae_cons (ee_var 2 2 vl__law_told vs__law_told rfl rfl) (ae_cons ee_int ae_nil))) (ee_var 4 4 vl__law_told vs__law_told rfl rfl) (ee_un un_neg sp_neg (ae_cons (ee_var 4 4 vl__law_told vs__law_told rfl rfl) ae_nil))) (ae_cons (ee_callM (ks := ([] : List Str)) (src := [0]) (dds := []) 0 0 vl__law_told vs__law_told rfl rfl F__law_draw hr (by omega) rfl T.gl__law_draw H_kb__law_draw_2 rd__law_draw tk (fe_cons ee_int fe_nil) fe_nil) ae_nil))) (ae_cons ee_int ae_nil))) (fe_cons (ee_var 2 2 vl__law_told vs__law_told rfl rfl) (fe_cons (ee_var 3 3 vl__law_told vs__law_told rfl rfl) fe_nil))))))))
      sss_nil)
      (sss_cons (ss_if (κ2 := [.l .f, .f, .f, .f, .f, .f]) (bb_cmp (op_eq2 hr.units) sp_eq (ae_cons (ee_var 1 1 vl__law_told vs__law_told rfl rfl) (ae_cons ee_int ae_nil)))
      (sss_cons (ss_par (κ' := [.l .f, .f, .f, .f, .f, .f]) 2 5 rfl sc__law_told.nd rfl rfl  (by decide) rfl rfl (fe_cons (ee_callM (ks := ([] : List Str)) (src := [0]) (dds := []) 0 0 vl__law_told vs__law_told rfl rfl F__law_signed hr (by omega) rfl T.gl__law_signed H_kb__law_signed_2 rd__law_signed tk (fe_cons (ee_callM (ks := ([] : List Str)) (src := []) (dds := []) 0 0 vl__law_told vs__law_told rfl rfl F__law_great hr (by omega) rfl T.gl__law_great H_kb__law_great_1 rd__law_great tk fe_nil fe_nil) fe_nil) fe_nil) (fe_cons (ee_callM (ks := ([] : List Str)) (src := [0]) (dds := []) 0 0 vl__law_told vs__law_told rfl rfl F__law_draw hr (by omega) rfl T.gl__law_draw H_kb__law_draw_2 rd__law_draw tk (fe_cons (ee_bin op_pow sp_pow (ae_cons ee_int (ae_cons ee_int ae_nil))) fe_nil) fe_nil) fe_nil)))
      (sss_one (ss_ret (ee_tup (fe_cons (ee_bin op_sub sp_sub (ae_cons (ee_bin op_add sp_add (ae_cons (ee_bin op_mul2 sp_mul (ae_cons (ee_un un_neg sp_neg (ae_cons (ee_var 2 2 vl__law_told vs__law_told rfl rfl) ae_nil)) (ae_cons (ee_var 5 5 vl__law_told vs__law_told rfl rfl) ae_nil))) (ae_cons (ee_callM (ks := ([] : List Str)) (src := [0]) (dds := []) 0 0 vl__law_told vs__law_told rfl rfl F__law_draw hr (by omega) rfl T.gl__law_draw H_kb__law_draw_2 rd__law_draw tk (fe_cons ee_int fe_nil) fe_nil) ae_nil))) (ae_cons ee_int ae_nil))) (fe_cons (ee_var 2 2 vl__law_told vs__law_told rfl rfl) (fe_cons (ee_bin op_mul2 sp_mul (ae_cons (ee_var 5 5 vl__law_told vs__law_told rfl rfl) (ae_cons (ee_var 5 5 vl__law_told vs__law_told rfl rfl) ae_nil))) fe_nil)))))))
      sss_nil)
      (sss_cons (ss_if (κ2 := [.l .f, .f, .f, .f, .f, .f]) (bb_cmp (op_eq2 hr.units) sp_eq (ae_cons (ee_var 1 1 vl__law_told vs__law_told rfl rfl) (ae_cons ee_int ae_nil)))
      (sss_cons (ss_par (κ' := [.l .f, .f, .f, .f, .f, .f]) 2 3 rfl sc__law_told.nd rfl rfl  (by decide) rfl rfl (fe_cons (ee_callM (ks := ([] : List Str)) (src := [0]) (dds := []) 0 0 vl__law_told vs__law_told rfl rfl F__law_signed hr (by omega) rfl T.gl__law_signed H_kb__law_signed_2 rd__law_signed tk (fe_cons (ee_callM (ks := ([] : List Str)) (src := []) (dds := []) 0 0 vl__law_told vs__law_told rfl rfl F__law_great hr (by omega) rfl T.gl__law_great H_kb__law_great_1 rd__law_great tk fe_nil fe_nil) fe_nil) fe_nil) (fe_cons (ee_callM (ks := ([] : List Str)) (src := []) (dds := []) 0 0 vl__law_told vs__law_told rfl rfl F__law_great hr (by omega) rfl T.gl__law_great H_kb__law_great_1 rd__law_great tk fe_nil fe_nil) fe_nil)))
      (sss_cons (ss_set (κ' := [.l .f, .f, .f, .f, .f, .f]) 4 sc__law_told.nd rfl (.inl rfl) (ee_call (ks := ([] : List Str)) (src := [0]) (dds := []) F__law_root hr (by omega) rfl T.gl__law_root H_kb__law_root_1 rd__law_root tk (fe_cons (ee_bin op_mul2 sp_mul (ae_cons (ee_bin op_mul2 sp_mul (ae_cons (ee_var 2 2 vl__law_told vs__law_told rfl rfl) (ae_cons (ee_var 2 2 vl__law_told vs__law_told rfl rfl) ae_nil))) (ae_cons (ee_var 3 3 vl__law_told vs__law_told rfl rfl) ae_nil))) fe_nil) fe_nil))
      (sss_one (ss_ret (ee_tup (fe_cons (ee_bin op_sub sp_sub (ae_cons (ee_bin op_add sp_add (ae_cons (ee_if (bb_cmp op_lt sp_lt (ae_cons (ee_var 2 2 vl__law_told vs__law_told rfl rfl) (ae_cons ee_int ae_nil))) (ee_var 4 4 vl__law_told vs__law_told rfl rfl) (ee_un un_neg sp_neg (ae_cons (ee_var 4 4 vl__law_told vs__law_told rfl rfl) ae_nil))) (ae_cons (ee_callM (ks := ([] : List Str)) (src := [0]) (dds := []) 0 0 vl__law_told vs__law_told rfl rfl F__law_draw hr (by omega) rfl T.gl__law_draw H_kb__law_draw_2 rd__law_draw tk (fe_cons ee_int fe_nil) fe_nil) ae_nil))) (ae_cons ee_int ae_nil))) (fe_cons (ee_var 2 2 vl__law_told vs__law_told rfl rfl) (fe_cons (ee_var 3 3 vl__law_told vs__law_told rfl rfl) fe_nil))))))))
      sss_nil)
      (sss_cons (ss_if (κ2 := [.l .f, .f, .f, .f, .f, .f]) (bb_cmp (op_eq2 hr.units) sp_eq (ae_cons (ee_var 1 1 vl__law_told vs__law_told rfl rfl) (ae_cons ee_int ae_nil)))
      (sss_one (ss_ret (ee_tup (fe_cons (ee_callM (ks := ([] : List Str)) (src := [0]) (dds := []) 0 0 vl__law_told vs__law_told rfl rfl F__law_signed hr (by omega) rfl T.gl__law_signed H_kb__law_signed_2 rd__law_signed tk (fe_cons (ee_callM (ks := ([] : List Str)) (src := []) (dds := []) 0 0 vl__law_told vs__law_told rfl rfl F__law_great hr (by omega) rfl T.gl__law_great H_kb__law_great_1 rd__law_great tk fe_nil fe_nil) fe_nil) fe_nil) (fe_cons ee_int (fe_cons (ee_callM (ks := ([] : List Str)) (src := []) (dds := []) 0 0 vl__law_told vs__law_told rfl rfl F__law_great hr (by omega) rfl T.gl__law_great H_kb__law_great_1 rd__law_great tk fe_nil fe_nil) fe_nil))))))
      sss_nil)
      (sss_one (ss_ret (ee_tup (fe_cons (ee_callM (ks := ([] : List Str)) (src := [0]) (dds := []) 0 0 vl__law_told vs__law_told rfl rfl F__law_signed hr (by omega) rfl T.gl__law_signed H_kb__law_signed_2 rd__law_signed tk (fe_cons (ee_callM (ks := ([] : List Str)) (src := []) (dds := []) 0 0 vl__law_told vs__law_told rfl rfl F__law_great hr (by omega) rfl T.gl__law_great H_kb__law_great_1 rd__law_great tk fe_nil fe_nil) fe_nil) fe_nil) (fe_cons (ee_callM (ks := ([] : List Str)) (src := [0]) (dds := []) 0 0 vl__law_told vs__law_told rfl rfl F__law_signed hr (by omega) rfl T.gl__law_signed H_kb__law_signed_2 rd__law_signed tk (fe_cons (ee_callM (ks := ([] : List Str)) (src := []) (dds := []) 0 0 vl__law_told vs__law_told rfl rfl F__law_great hr (by omega) rfl T.gl__law_great H_kb__law_great_1 rd__law_great tk fe_nil fe_nil) fe_nil) fe_nil) (fe_cons (ee_callM (ks := ([] : List Str)) (src := []) (dds := []) 0 0 vl__law_told vs__law_told rfl rfl F__law_great hr (by omega) rfl T.gl__law_great H_kb__law_great_1 rd__law_great tk fe_nil fe_nil) fe_nil))))))))))))
def f__law_is : FDen := fdOf 3 none (sSeq (sIf (bOr (bNot (bVal (dOp (fIsi cls) (aCons (dVar 0) (aCons (dC (.glo 6)) aNil))))) (bVal (dOp (fNe) (aCons (dLc (idTup (dOp fTup (aCons (dOp (fFld NT.length cls 7) (aCons (dVar 0) aNil)) (aCons (dOp (fFld NT.length cls 8) (aCons (dVar 0) aNil)) (aCons (dOp (fFld NT.length cls 9) (aCons (dVar 0) aNil)) aNil))))) (gdName 2) (bOr (bVal (dOp (fIsi cls) (aCons (dVar 2) (aCons (dC (.ty "bool")) aNil)))) (bNot (bVal (dOp (fIsi cls) (aCons (dVar 2) (aCons (dC (.ty "int")) aNil)))))) (dVar 2) [2]) (aCons (dOp fLst aNil) aNil))))) (sRet (dC (.bl false))) sNext) (sRet (dOp (fEq) (aCons (dOp fTup (aCons (dOp (fFld NT.length cls 7) (aCons (dVar 0) aNil)) (aCons (dOp (fFld NT.length cls 8) (aCons (dVar 0) aNil)) (aCons (dOp (fFld NT.length cls 9) (aCons (dVar 0) aNil)) aNil)))) (aCons (dVar 1) aNil)))))
theorem ok__law_is {w : World} {K : PySem.W.Frag} {mg : Str → Option Value} {base : Heap} (T : Tx K mg) : ∃ fn, FunD K "_law_is" "_law_is" (defArgs st__law_is) (defBody st__law_is) (defScope st__law_is) ((dg__law_is).dvs K) [] (He.ga K "_law_is") fn ∧ DefOk PG w K mg base NT 2 (He.ga K "_law_is") fn ps__law_is 2 none .f f__law_is := by
  obtain ⟨fn, F0⟩ := T.c.def_ 21 (d := dg__law_is) rfl
  refine ⟨fn, F0, ⟨?_, F0.kp⟩⟩
  exact fn_sim (NT := NT) F0 sc__law_is none .f _ [.f, .f, .f] [.f, .f, .f] (fun cdv A outer s H E pin W hr tk =>
    sss_cons (ss_if (κ2 := [.f, .f, .f]) (BW.bb (bw_or (bb_not (bb_val (ee_callB call_isi (sp_isi T.own) rfl T.fr_isinstance bt_isinstance (ae_cons (ee_var 0 0 vl__law_is vs__law_is rfl rfl) (ae_cons (ee_gc (d := .glo 6) (v := .ref (He.ga _ "Bound")) rfl T.gl_Bound rfl (fun _ _ => rfl)) ae_nil))))) (bw_or1 (bb_cmp (op_ne2 hr.units) sp_ne (ae_cons (ee_lcIf (κL := [.f, .f, .f]) [("part", 2)] rfl sc__law_is.nd (ii_tup (ee_tup (fe_cons (ee_fld T.fd_whole rfl (ae_cons (ee_var 0 0 vl__law_is vs__law_is rfl rfl) ae_nil)) (fe_cons (ee_fld T.fd_part rfl (ae_cons (ee_var 0 0 vl__law_is vs__law_is rfl rfl) ae_nil)) (fe_cons (ee_fld T.fd_under rfl (ae_cons (ee_var 0 0 vl__law_is vs__law_is rfl rfl) ae_nil)) fe_nil))))) (fun q => gw_name (κ' := [.f, .f, .f]) 2 (by decide) sc__law_is.nd rfl (.inl rfl) (.inr rfl)) (fun q => BW.bb (bw_or (bb_val (ee_callB call_isi (sp_isi T.own) rfl T.fr_isinstance bt_isinstance (ae_cons (ee_var 2 0 vl__law_is_b0 (visOk_of (vis := vl__law_is_b0) rfl) rfl rfl) (ae_cons (ee_ty rfl T.fr_bool bt_bool) ae_nil)))) (bw_or1 (bb_not (bb_val (ee_callB call_isi (sp_isi T.own) rfl T.fr_isinstance bt_isinstance (ae_cons (ee_var 2 0 vl__law_is_b0 (visOk_of (vis := vl__law_is_b0) rfl) rfl rfl) (ae_cons (ee_ty rfl T.fr_int bt_int) ae_nil)))))))) (fun q => ee_var 2 0 vl__law_is_b0 (visOk_of (vis := vl__law_is_b0) rfl) rfl rfl)) (ae_cons (ee_lst fe_nil) ae_nil))))))
      (sss_one (ss_ret ee_bl))
      sss_nil)
      (sss_one (ss_ret (ee_cmp (op_eq2 hr.units) sp_eq (ae_cons (ee_tup (fe_cons (ee_fld T.fd_whole rfl (ae_cons (ee_var 0 0 vl__law_is vs__law_is rfl rfl) ae_nil)) (fe_cons (ee_fld T.fd_part rfl (ae_cons (ee_var 0 0 vl__law_is vs__law_is rfl rfl) ae_nil)) (fe_cons (ee_fld T.fd_under rfl (ae_cons (ee_var 0 0 vl__law_is vs__law_is rfl rfl) ae_nil)) fe_nil)))) (ae_cons (ee_var 1 1 vl__law_is vs__law_is rfl rfl) ae_nil))))))
def f_Scan_init : FDen := fdOf 3 (some (.o)) (sSeq (sIf (bNot (bVal (dOp (fIsi cls) (aCons (dVar 1) (aCons (dC (.ty "str")) aNil))))) (sRaise 4 [10, 11] (aCons (dVar 2) (aCons (dC (.int 0)) aNil))) sNext) (sSeq (sFldD 0 NT.length cls 10 (dVar 2)) (sSeq (sFldD 0 NT.length cls 12 (dM1 fSplit (dVar 1) (dC (.str " ")))) (sFldD 0 NT.length cls 13 (dC (.int 0))))))
theorem ok_Scan_init {w : World} {K : PySem.W.Frag} {mg : Str → Option Value} {base : Heap} (T : Tx K mg) : ∃ fn, FunD K "__init__" "Scan.__init__" (defArgs st_Scan_init) (defBody st_Scan_init) (defScope st_Scan_init) ((dg_Scan_init).dvs K) [] (He.ma K (He.ga K "Scan") "__init__") fn ∧ DefOk PG w K mg base NT 2 (He.ma K (He.ga K "Scan") "__init__") fn ps_Scan_init 3 (some (.o)) .f f_Scan_init := by
  obtain ⟨fn, F0⟩ := T.c.def_ 22 (d := dg_Scan_init) rfl
  refine ⟨fn, F0, ⟨?_, F0.kp⟩⟩
  exact fn_sim (NT := NT) F0 sc_Scan_init (some (.o)) .f _ [.o, .f, .f] [.o, .f, .f] (fun cdv A outer s H E pin W hr tk =>
    sss_cons (ss_if (κ2 := [.o, .f, .f]) (bb_not (bb_val (ee_callB call_isi (sp_isi T.own) rfl T.fr_isinstance bt_isinstance (ae_cons (ee_var 1 1 vl_Scan_init vs_Scan_init rfl rfl) (ae_cons (ee_ty rfl T.fr_str bt_str) ae_nil)))))
      (sss_one (ss_raise (Ci := 4) (fks := [10, 11]) T.er_BadText (by decide) rfl hr rfl T.gl_BadText tk (fe_cons (ee_var 2 2 vl_Scan_init vs_Scan_init rfl rfl) (fe_cons ee_int fe_nil))))
      sss_nil)
      (sss_cons (ss_fld 0 0 vl_Scan_init vs_Scan_init rfl rfl T.fd_line rfl (ee_var 2 2 vl_Scan_init vs_Scan_init rfl rfl) rfl)
      (sss_cons (ss_fld 0 0 vl_Scan_init vs_Scan_init rfl rfl T.fd_pieces rfl (EE.frz (ee_split (ee_var 1 1 vl_Scan_init vs_Scan_init rfl rfl) ee_str)) rfl)
      (sss_one (ss_fld 0 0 vl_Scan_init vs_Scan_init rfl rfl T.fd_at rfl ee_int rfl)))))
def f_Scan_ahead : FDen := fdOf 1 (some (.o)) (sRet (dIf (bVal (dOp (fII iLt) (aCons (dOp (fFld NT.length cls 13) (aCons (dVar 0) aNil)) (aCons (dOp (fLen) (aCons (dOp (fFld NT.length cls 12) (aCons (dVar 0) aNil)) aNil)) aNil)))) (dOp fIx (aCons (dOp (fFld NT.length cls 12) (aCons (dVar 0) aNil)) (aCons (dOp (fFld NT.length cls 13) (aCons (dVar 0) aNil)) aNil))) (dC .non)))
theorem ok_Scan_ahead {w : World} {K : PySem.W.Frag} {mg : Str → Option Value} {base : Heap} (T : Tx K mg) : ∃ fn, FunD K "ahead" "Scan.ahead" (defArgs st_Scan_ahead) (defBody st_Scan_ahead) (defScope st_Scan_ahead) ((dg_Scan_ahead).dvs K) [] (He.ma K (He.ga K "Scan") "ahead") fn ∧ DefOk PG w K mg base NT 2 (He.ma K (He.ga K "Scan") "ahead") fn ps_Scan_ahead 1 (some (.o)) .f f_Scan_ahead := by
  obtain ⟨fn, F0⟩ := T.c.def_ 23 (d := dg_Scan_ahead) rfl
  refine ⟨fn, F0, ⟨?_, F0.kp⟩⟩
  exact fn_sim (NT := NT) F0 sc_Scan_ahead (some (.o)) .f _ [.o] [.o] (fun cdv A outer s H E pin W hr tk =>
    sss_one (ss_ret (ee_if (bb_cmp op_lt sp_lt (ae_cons (ee_fld T.fd_at rfl (ae_peek 0 0 vl_Scan_ahead vs_Scan_ahead ae_nil rfl rfl)) (ae_cons (ee_callB call_len sp_len rfl T.fr_len bt_len (ae_cons (ee_fld T.fd_pieces rfl (ae_peek 0 0 vl_Scan_ahead vs_Scan_ahead ae_nil rfl rfl)) ae_nil)) ae_nil))) (ee_ix ix_seq sp_ix (ae_cons (ee_fld T.fd_pieces rfl (ae_peek 0 0 vl_Scan_ahead vs_Scan_ahead ae_nil rfl rfl)) (ae_cons (ee_fld T.fd_at rfl (ae_peek 0 0 vl_Scan_ahead vs_Scan_ahead ae_nil rfl rfl)) ae_nil))) ee_non)))
def f_Scan_refuse : FDen := fdOf 1 (some (.o)) (sRaise 4 [10, 11] (aCons (dOp (fFld NT.length cls 10) (aCons (dVar 0) aNil)) (aCons (dOp (fFld NT.length cls 13) (aCons (dVar 0) aNil)) aNil)))
theorem ok_Scan_refuse {w : World} {K : PySem.W.Frag} {mg : Str → Option Value} {base : Heap} (T : Tx K mg) : ∃ fn, FunD K "refuse" "Scan.refuse" (defArgs st_Scan_refuse) (defBody st_Scan_refuse) (defScope st_Scan_refuse) ((dg_Scan_refuse).dvs K) [] (He.ma K (He.ga K "Scan") "refuse") fn ∧ DefOk PG w K mg base NT 2 (He.ma K (He.ga K "Scan") "refuse") fn ps_Scan_refuse 1 (some (.o)) .f f_Scan_refuse := by
  obtain ⟨fn, F0⟩ := T.c.def_ 24 (d := dg_Scan_refuse) rfl
  refine ⟨fn, F0, ⟨?_, F0.kp⟩⟩
  exact fn_sim (NT := NT) F0 sc_Scan_refuse (some (.o)) .f _ [.o] [.o] (fun cdv A outer s H E pin W hr tk =>
    sss_one (ss_raise (Ci := 4) (fks := [10, 11]) T.er_BadText (by decide) rfl hr rfl T.gl_BadText tk (fe_cons (ee_fld T.fd_line rfl (ae_peek 0 0 vl_Scan_refuse vs_Scan_refuse ae_nil rfl rfl)) (fe_cons (ee_fld T.fd_at rfl (ae_peek 0 0 vl_Scan_refuse vs_Scan_refuse ae_nil rfl rfl)) fe_nil))))
def f_Scan_take : FDen := fdOf 2 (some (.o)) (sSeq (sSet 1 (dCallO NT.length 5 14 0 (callD1 0 0 1 [] [] f_Scan_ahead) aNil aNil)) (sSeq (sIf (bVal (dOp (fIsN) (aCons (dVar 1) (aCons (dC .non) aNil)))) (sExpr (dCallO NT.length 5 15 0 (callD1 0 0 1 [] [] f_Scan_refuse) aNil aNil)) sNext) (sSeq (sFldD 0 NT.length cls 13 (dOp (fII iAdd) (aCons (dOp (fFld NT.length cls 13) (aCons (dVar 0) aNil)) (aCons (dC (.int 1)) aNil)))) (sRet (dVar 1)))))
theorem ok_Scan_take {w : World} {K : PySem.W.Frag} {mg : Str → Option Value} {base : Heap} (T : Tx K mg) : ∃ fn, FunD K "take" "Scan.take" (defArgs st_Scan_take) (defBody st_Scan_take) (defScope st_Scan_take) ((dg_Scan_take).dvs K) [] (He.ma K (He.ga K "Scan") "take") fn ∧ DefOk PG w K mg base NT 4 (He.ma K (He.ga K "Scan") "take") fn ps_Scan_take 1 (some (.o)) .f f_Scan_take := by
  obtain ⟨fn, F0⟩ := T.c.def_ 25 (d := dg_Scan_take) rfl
  obtain ⟨n_Scan_ahead, D_Scan_ahead, F_Scan_ahead⟩ := ok_Scan_ahead (w := w) (base := base) T
  obtain ⟨n_Scan_refuse, D_Scan_refuse, F_Scan_refuse⟩ := ok_Scan_refuse (w := w) (base := base) T
  obtain ⟨_, H_kb_Scan_ahead_1⟩ := kb_Scan_ahead_1 D_Scan_ahead
  obtain ⟨_, H_kb_Scan_refuse_1⟩ := kb_Scan_refuse_1 D_Scan_refuse
  refine ⟨fn, F0, ⟨?_, F0.kp⟩⟩
  exact fn_sim (NT := NT) F0 sc_Scan_take (some (.o)) .f _ [.o, .f] [.o, .f] (fun cdv A outer s H E pin W hr tk =>
    sss_cons (ss_set (κ' := [.o, .f]) 1 sc_Scan_take.nd rfl (.inl rfl) (ee_methO (Ci := 5) (mi := 14) (ks := ([] : List Str)) (src := []) (dds := []) 0 0 vl_Scan_take vs_Scan_take rfl rfl nt_nd (show 14 < NT.length by decide) rfl (T.own.c 5 rfl).1 T.me_Scan_ahead F_Scan_ahead hr (by omega) H_kb_Scan_ahead_1 rd_Scan_ahead tk fe_nil fe_nil))
      (sss_cons (ss_if (κ2 := [.o, .f]) (bb_cmp op_isN sp_isN (ae_cons (ee_var 1 1 vl_Scan_take vs_Scan_take rfl rfl) (ae_cons ee_non ae_nil)))
      (sss_one (ss_expr (ee_methO (Ci := 5) (mi := 15) (ks := ([] : List Str)) (src := []) (dds := []) 0 0 vl_Scan_take vs_Scan_take rfl rfl nt_nd (show 15 < NT.length by decide) rfl (T.own.c 5 rfl).1 T.me_Scan_refuse F_Scan_refuse hr (by omega) H_kb_Scan_refuse_1 rd_Scan_refuse tk fe_nil fe_nil)))
      sss_nil)
      (sss_cons (ss_fld 0 0 vl_Scan_take vs_Scan_take rfl rfl T.fd_at rfl (ee_bin op_add sp_add (ae_cons (ee_fld T.fd_at rfl (ae_peek 0 0 vl_Scan_take vs_Scan_take ae_nil rfl rfl)) (ae_cons ee_int ae_nil))) rfl)
      (sss_one (ss_ret (ee_var 1 1 vl_Scan_take vs_Scan_take rfl rfl))))))
def f_Scan_take_number : FDen := fdOf 5 (some (.o)) (sSeq (sSet 3 (dCallO NT.length 5 14 0 (callD1 0 0 1 [] [] f_Scan_ahead) aNil aNil)) (sSeq (sIf (bOr (bVal (dOp (fIsN) (aCons (dVar 3) (aCons (dC .non) aNil)))) (bNot (bVal (dCall (callD 1 0 1 [0] [] f_is_written) (aCons (dVar 3) aNil) aNil)))) (sExpr (dCallO NT.length 5 15 0 (callD1 0 0 1 [] [] f_Scan_refuse) aNil aNil)) sNext) (sSeq (sSet 4 (dOp (fInt1) (aCons (dVar 3) aNil))) (sSeq (sIf (bOr (bAnd (bVal (dOp (fNotN) (aCons (dVar 1) (aCons (dC .non) aNil)))) (bVal (dOp (fII iLt) (aCons (dVar 4) (aCons (dVar 1) aNil))))) (bAnd (bVal (dOp (fNotN) (aCons (dVar 2) (aCons (dC .non) aNil)))) (bVal (dOp (fII iGt) (aCons (dVar 4) (aCons (dVar 2) aNil)))))) (sExpr (dCallO NT.length 5 15 0 (callD1 0 0 1 [] [] f_Scan_refuse) aNil aNil)) sNext) (sSeq (sExpr (dCallO NT.length 5 16 0 (callD1 0 0 1 [] [] f_Scan_take) aNil aNil)) (sRet (dVar 4)))))))
theorem ok_Scan_take_number {w : World} {K : PySem.W.Frag} {mg : Str → Option Value} {base : Heap} (T : Tx K mg) : ∃ fn, FunD K "take_number" "Scan.take_number" (defArgs st_Scan_take_number) (defBody st_Scan_take_number) (defScope st_Scan_take_number) ((dg_Scan_take_number).dvs K) [] (He.ma K (He.ga K "Scan") "take_number") fn ∧ DefOk PG w K mg base NT 6 (He.ma K (He.ga K "Scan") "take_number") fn ps_Scan_take_number 3 (some (.o)) .f f_Scan_take_number := by
  obtain ⟨fn, F0⟩ := T.c.def_ 26 (d := dg_Scan_take_number) rfl
  obtain ⟨n_Scan_ahead, D_Scan_ahead, F_Scan_ahead⟩ := ok_Scan_ahead (w := w) (base := base) T
  obtain ⟨n_Scan_refuse, D_Scan_refuse, F_Scan_refuse⟩ := ok_Scan_refuse (w := w) (base := base) T
  obtain ⟨n_Scan_take, D_Scan_take, F_Scan_take⟩ := ok_Scan_take (w := w) (base := base) T
  obtain ⟨n_is_written, D_is_written, F_is_written⟩ := ok_is_written (w := w) (base := base) T
  obtain ⟨_, H_kb_Scan_ahead_1⟩ := kb_Scan_ahead_1 D_Scan_ahead
  obtain ⟨_, H_kb_Scan_refuse_1⟩ := kb_Scan_refuse_1 D_Scan_refuse
  obtain ⟨_, H_kb_Scan_take_1⟩ := kb_Scan_take_1 D_Scan_take
  obtain ⟨_, H_kb_is_written_1⟩ := kb_is_written_1 D_is_written
  refine ⟨fn, F0, ⟨?_, F0.kp⟩⟩
  exact fn_sim (NT := NT) F0 sc_Scan_take_number (some (.o)) .f _ [.o, .f, .f, .f, .f] [.o, .f, .f, .f, .f] (fun cdv A outer s H E pin W hr tk =>
    sss_cons (ss_set (κ' := [.o, .f, .f, .f, .f]) 3 sc_Scan_take_number.nd rfl (.inl rfl) (ee_methO (Ci := 5) (mi := 14) (ks := ([] : List Str)) (src := []) (dds := []) 0 0 vl_Scan_take_number vs_Scan_take_number rfl rfl nt_nd (show 14 < NT.length by decide) rfl (T.own.c 5 rfl).1 T.me_Scan_ahead F_Scan_ahead hr (by omega) H_kb_Scan_ahead_1 rd_Scan_ahead tk fe_nil fe_nil))
      (sss_cons (ss_if (κ2 := [.o, .f, .f, .f, .f]) (BW.bb (bw_or (bb_cmp op_isN sp_isN (ae_cons (ee_var 3 3 vl_Scan_take_number vs_Scan_take_number rfl rfl) (ae_cons ee_non ae_nil))) (bw_or1 (bb_not (bb_val (ee_call (ks := ([] : List Str)) (src := [0]) (dds := []) F_is_written hr (by omega) rfl T.gl_is_written H_kb_is_written_1 rd_is_written tk (fe_cons (ee_var 3 3 vl_Scan_take_number vs_Scan_take_number rfl rfl) fe_nil) fe_nil))))))
      (sss_one (ss_expr (ee_methO (Ci := 5) (mi := 15) (ks := ([] : List Str)) (src := []) (dds := []) 0 0 vl_Scan_take_number vs_Scan_take_number rfl rfl nt_nd (show 15 < NT.length by decide) rfl (T.own.c 5 rfl).1 T.me_Scan_refuse F_Scan_refuse hr (by omega) H_kb_Scan_refuse_1 rd_Scan_refuse tk fe_nil fe_nil)))
      sss_nil)
      (sss_cons (ss_set (κ' := [.o, .f, .f, .f, .f]) 4 sc_Scan_take_number.nd rfl (.inl rfl) (ee_callTy call_int3 sp_int1 rfl T.fr_int bt_int (ae_cons (ee_var 3 3 vl_Scan_take_number vs_Scan_take_number rfl rfl) ae_nil)))
      (sss_cons (ss_if (κ2 := [.o, .f, .f, .f, .f]) (BW.bb (bw_or (BW.bb (bw_and (bb_cmp op_notN sp_notN (ae_cons (ee_var 1 1 vl_Scan_take_number vs_Scan_take_number rfl rfl) (ae_cons ee_non ae_nil))) (bw_and1 (bb_cmp op_lt sp_lt (ae_cons (ee_var 4 4 vl_Scan_take_number vs_Scan_take_number rfl rfl) (ae_cons (ee_var 1 1 vl_Scan_take_number vs_Scan_take_number rfl rfl) ae_nil)))))) (bw_or1 (BW.bb (bw_and (bb_cmp op_notN sp_notN (ae_cons (ee_var 2 2 vl_Scan_take_number vs_Scan_take_number rfl rfl) (ae_cons ee_non ae_nil))) (bw_and1 (bb_cmp op_gt sp_gt (ae_cons (ee_var 4 4 vl_Scan_take_number vs_Scan_take_number rfl rfl) (ae_cons (ee_var 2 2 vl_Scan_take_number vs_Scan_take_number rfl rfl) ae_nil)))))))))
      (sss_one (ss_expr (ee_methO (Ci := 5) (mi := 15) (ks := ([] : List Str)) (src := []) (dds := []) 0 0 vl_Scan_take_number vs_Scan_take_number rfl rfl nt_nd (show 15 < NT.length by decide) rfl (T.own.c 5 rfl).1 T.me_Scan_refuse F_Scan_refuse hr (by omega) H_kb_Scan_refuse_1 rd_Scan_refuse tk fe_nil fe_nil)))
      sss_nil)
      (sss_cons (ss_expr (ee_methO (Ci := 5) (mi := 16) (ks := ([] : List Str)) (src := []) (dds := []) 0 0 vl_Scan_take_number vs_Scan_take_number rfl rfl nt_nd (show 16 < NT.length by decide) rfl (T.own.c 5 rfl).1 T.me_Scan_take F_Scan_take hr (by omega) H_kb_Scan_take_1 rd_Scan_take tk fe_nil fe_nil))
      (sss_one (ss_ret (ee_var 4 4 vl_Scan_take_number vs_Scan_take_number rfl rfl))))))))
def f_Scan_finish : FDen := fdOf 1 (some (.o)) (sIf (bVal (dOp (fII iLt) (aCons (dOp (fFld NT.length cls 13) (aCons (dVar 0) aNil)) (aCons (dOp (fLen) (aCons (dOp (fFld NT.length cls 12) (aCons (dVar 0) aNil)) aNil)) aNil)))) (sExpr (dCallO NT.length 5 15 0 (callD1 0 0 1 [] [] f_Scan_refuse) aNil aNil)) sNext)
theorem ok_Scan_finish {w : World} {K : PySem.W.Frag} {mg : Str → Option Value} {base : Heap} (T : Tx K mg) : ∃ fn, FunD K "finish" "Scan.finish" (defArgs st_Scan_finish) (defBody st_Scan_finish) (defScope st_Scan_finish) ((dg_Scan_finish).dvs K) [] (He.ma K (He.ga K "Scan") "finish") fn ∧ DefOk PG w K mg base NT 4 (He.ma K (He.ga K "Scan") "finish") fn ps_Scan_finish 1 (some (.o)) .f f_Scan_finish := by
  obtain ⟨fn, F0⟩ := T.c.def_ 27 (d := dg_Scan_finish) rfl
  obtain ⟨n_Scan_refuse, D_Scan_refuse, F_Scan_refuse⟩ := ok_Scan_refuse (w := w) (base := base) T
  obtain ⟨_, H_kb_Scan_refuse_1⟩ := kb_Scan_refuse_1 D_Scan_refuse
  refine ⟨fn, F0, ⟨?_, F0.kp⟩⟩
  exact fn_sim (NT := NT) F0 sc_Scan_finish (some (.o)) .f _ [.o] [.o] (fun cdv A outer s H E pin W hr tk =>
    sss_one (ss_if (κ2 := [.o]) (bb_cmp op_lt sp_lt (ae_cons (ee_fld T.fd_at rfl (ae_peek 0 0 vl_Scan_finish vs_Scan_finish ae_nil rfl rfl)) (ae_cons (ee_callB call_len sp_len rfl T.fr_len bt_len (ae_cons (ee_fld T.fd_pieces rfl (ae_peek 0 0 vl_Scan_finish vs_Scan_finish ae_nil rfl rfl)) ae_nil)) ae_nil)))
      (sss_one (ss_expr (ee_methO (Ci := 5) (mi := 15) (ks := ([] : List Str)) (src := []) (dds := []) 0 0 vl_Scan_finish vs_Scan_finish rfl rfl nt_nd (show 15 < NT.length by decide) rfl (T.own.c 5 rfl).1 T.me_Scan_refuse F_Scan_refuse hr (by omega) H_kb_Scan_refuse_1 rd_Scan_refuse tk fe_nil fe_nil)))
      sss_nil))
def f_Bound_read : FDen := fdOf 5 none (sSeq (sSet 1 (dMake (callD1 1 0 3 [0, 1] [(.int 0)] f_Scan_init (.obj 5 [])) (aCons (dVar 0) aNil) aNil)) (sSeq (sSet 2 (dCallO NT.length 5 17 1 (callD1 0 0 3 [0, 1] [.non, .non] f_Scan_take_number) aNil aNil)) (sSeq (sSet 3 (dCallO NT.length 5 17 1 (callD1 0 0 3 [0, 1] [.non, .non] f_Scan_take_number) aNil aNil)) (sSeq (sSet 4 (dCallO NT.length 5 17 1 (callD1 1 0 3 [0, 2] [.non, .non] f_Scan_take_number) (aCons (dC (.int 0)) aNil) aNil)) (sSeq (sExpr (dCallO NT.length 5 18 1 (callD1 0 0 1 [] [] f_Scan_finish) aNil aNil)) (sRet (dMake (callD1 3 0 4 [0, 1, 2] [] f_Bound_init (.obj 6 [])) (aCons (dVar 2) (aCons (dVar 3) (aCons (dVar 4) aNil))) aNil)))))))
theorem ok_Bound_read {w : World} {K : PySem.W.Frag} {mg : Str → Option Value} {base : Heap} (T : Tx K mg) : ∃ fn, FunD K "read" "Bound.read" (defArgs st_Bound_read) (defBody st_Bound_read) (defScope st_Bound_read) ((dg_Bound_read).dvs K) [] (He5.wf K (He.ga K "Bound") "staticmethod" "read") fn ∧ DefOk PG w K mg base NT 11 (He5.wf K (He.ga K "Bound") "staticmethod" "read") fn ps_Bound_read 1 none .f f_Bound_read := by
  obtain ⟨fn, F0⟩ := T.c.def_ 28 (d := dg_Bound_read) rfl
  obtain ⟨n_Bound_init, D_Bound_init, F_Bound_init⟩ := ok_Bound_init (w := w) (base := base) T
  obtain ⟨n_Scan_init, D_Scan_init, F_Scan_init⟩ := ok_Scan_init (w := w) (base := base) T
  obtain ⟨n_Scan_finish, D_Scan_finish, F_Scan_finish⟩ := ok_Scan_finish (w := w) (base := base) T
  obtain ⟨n_Scan_take_number, D_Scan_take_number, F_Scan_take_number⟩ := ok_Scan_take_number (w := w) (base := base) T
  obtain ⟨_, H_kb_Bound_init_4⟩ := kb_Bound_init_4 D_Bound_init
  obtain ⟨_, H_kb_Scan_finish_1⟩ := kb_Scan_finish_1 D_Scan_finish
  obtain ⟨_, H_kb_Scan_init_2⟩ := kb_Scan_init_2 D_Scan_init
  obtain ⟨_, H_kb_Scan_take_number_1⟩ := kb_Scan_take_number_1 D_Scan_take_number
  obtain ⟨_, H_kb_Scan_take_number_2⟩ := kb_Scan_take_number_2 D_Scan_take_number
  refine ⟨fn, F0, ⟨?_, F0.kp⟩⟩
  exact fn_sim (NT := NT) F0 sc_Bound_read none .f _ [.f, .f, .f, .f, .f] [.f, .f, .f, .f, .f] (fun cdv A outer s H E pin W hr tk =>
    sss_cons (ss_set (κ' := [.f, .o, .f, .f, .f]) 1 sc_Bound_read.nd rfl (.inl rfl) (ee_make (ks := ([] : List Str)) (src := [0, 1]) (dds := [(.int 0)]) T.mk_Scan F_Scan_init hr (by omega) rfl T.gl_Scan H_kb_Scan_init_2 rd_Scan_init tk (fe_cons (ee_var 0 0 vl_Bound_read vs_Bound_read rfl rfl) fe_nil) fe_nil))
      (sss_cons (ss_set (κ' := [.f, .o, .f, .f, .f]) 2 sc_Bound_read.nd rfl (.inl rfl) (ee_methO (Ci := 5) (mi := 17) (ks := ([] : List Str)) (src := [0, 1]) (dds := [.non, .non]) 1 1 vl_Bound_read vs_Bound_read rfl rfl nt_nd (show 17 < NT.length by decide) rfl (T.own.c 5 rfl).1 T.me_Scan_take_number F_Scan_take_number hr (by omega) H_kb_Scan_take_number_1 rd_Scan_take_number tk fe_nil fe_nil))
      (sss_cons (ss_set (κ' := [.f, .o, .f, .f, .f]) 3 sc_Bound_read.nd rfl (.inl rfl) (ee_methO (Ci := 5) (mi := 17) (ks := ([] : List Str)) (src := [0, 1]) (dds := [.non, .non]) 1 1 vl_Bound_read vs_Bound_read rfl rfl nt_nd (show 17 < NT.length by decide) rfl (T.own.c 5 rfl).1 T.me_Scan_take_number F_Scan_take_number hr (by omega) H_kb_Scan_take_number_1 rd_Scan_take_number tk fe_nil fe_nil))
      (sss_cons (ss_set (κ' := [.f, .o, .f, .f, .f]) 4 sc_Bound_read.nd rfl (.inl rfl) (ee_methO (Ci := 5) (mi := 17) (ks := ([] : List Str)) (src := [0, 2]) (dds := [.non, .non]) 1 1 vl_Bound_read vs_Bound_read rfl rfl nt_nd (show 17 < NT.length by decide) rfl (T.own.c 5 rfl).1 T.me_Scan_take_number F_Scan_take_number hr (by omega) H_kb_Scan_take_number_2 rd_Scan_take_number tk (fe_cons ee_int fe_nil) fe_nil))
      (sss_cons (ss_expr (ee_methO (Ci := 5) (mi := 18) (ks := ([] : List Str)) (src := []) (dds := []) 1 1 vl_Bound_read vs_Bound_read rfl rfl nt_nd (show 18 < NT.length by decide) rfl (T.own.c 5 rfl).1 T.me_Scan_finish F_Scan_finish hr (by omega) H_kb_Scan_finish_1 rd_Scan_finish tk fe_nil fe_nil))
      (sss_one (ss_ret (EE.frz (ee_make (ks := ([] : List Str)) (src := [0, 1, 2]) (dds := []) T.mk_Bound F_Bound_init hr (by omega) rfl T.gl_Bound H_kb_Bound_init_4 rd_Bound_init tk (fe_cons (ee_var 2 2 vl_Bound_read vs_Bound_read rfl rfl) (fe_cons (ee_var 3 3 vl_Bound_read vs_Bound_read rfl rfl) (fe_cons (ee_var 4 4 vl_Bound_read vs_Bound_read rfl rfl) fe_nil))) fe_nil)))))))))
def f_Bound_str : FDen := fdOf 1 none (sRet (dJoin [dFmt (dOp (fFld NT.length cls 7) (aCons (dVar 0) aNil)), dC (.str " "), dFmt (dOp (fFld NT.length cls 8) (aCons (dVar 0) aNil)), dC (.str " "), dFmt (dOp (fFld NT.length cls 9) (aCons (dVar 0) aNil))] Str.empty))
theorem ok_Bound_str {w : World} {K : PySem.W.Frag} {mg : Str → Option Value} {base : Heap} (T : Tx K mg) : ∃ fn, FunD K "__str__" "Bound.__str__" (defArgs st_Bound_str) (defBody st_Bound_str) (defScope st_Bound_str) ((dg_Bound_str).dvs K) [] (He.ma K (He.ga K "Bound") "__str__") fn ∧ DefOk PG w K mg base NT 2 (He.ma K (He.ga K "Bound") "__str__") fn ps_Bound_str 1 none .f f_Bound_str := by
  obtain ⟨fn, F0⟩ := T.c.def_ 29 (d := dg_Bound_str) rfl
  refine ⟨fn, F0, ⟨?_, F0.kp⟩⟩
  exact fn_sim (NT := NT) F0 sc_Bound_str none .f _ [.f] [.f] (fun cdv A outer s H E pin W hr tk =>
    sss_one (ss_ret (ee_joined (.cons (ee_fmt (ee_fld T.fd_whole rfl (ae_cons (ee_var 0 0 vl_Bound_str vs_Bound_str rfl rfl) ae_nil))) (.cons ee_str (.cons (ee_fmt (ee_fld T.fd_part rfl (ae_cons (ee_var 0 0 vl_Bound_str vs_Bound_str rfl rfl) ae_nil))) (.cons ee_str (.cons (ee_fmt (ee_fld T.fd_under rfl (ae_cons (ee_var 0 0 vl_Bound_str vs_Bound_str rfl rfl) ae_nil))) .nil))))))))
def f__law_one_right : FDen := fdOf 7 (some (.l .f)) (sSeq (sAsg (dVar 1) (gdTup 3 (gdCons (gdName 2) (gdCons (gdName 3) (gdCons (gdName 4) gdNil))))) (sSeq (sSet 5 (dMake (callD1 3 0 4 [0, 1, 2] [] f_Bound_init (.obj 6 [])) (aCons (dVar 2) (aCons (dVar 3) (aCons (dVar 4) aNil))) aNil)) (sSeq (sIf (bOr (bNot (bVal (dCall (callD 2 0 2 [0, 1] [] f__law_is) (aCons (dVar 5) (aCons (dVar 1) aNil)) aNil))) (bNot (bVal (dCall (callD 2 0 2 [0, 1] [] f__law_is) (aCons (dMake (callD1 0 3 4 [1, 2, 0] [] f_Bound_init (.obj 6 [])) aNil (aCons (dVar 4) (aCons (dVar 2) (aCons (dVar 3) aNil)))) (aCons (dVar 1) aNil)) aNil)))) (sRet (dC (.bl false))) sNext) (sSeq (sIf (bOr (bVal (dOp (fNe) (aCons (dCall (callD 1 0 1 [0] [] f_sign_of) (aCons (dVar 5) aNil) aNil) (aCons (dCall (callD 1 0 1 [0] [] (g__law_sign 3)) (aCons (dVar 1) aNil) aNil) aNil)))) (bVal (dOp (fNe) (aCons (dCall (callD 0 1 1 [0] [] f_sign_of) aNil (aCons (dMake (callD1 3 0 4 [0, 1, 2] [] f_Bound_init (.obj 6 [])) (aCons (dOp (fI iNeg) (aCons (dVar 2) aNil)) (aCons (dOp (fI iNeg) (aCons (dVar 3) aNil)) (aCons (dVar 4) aNil))) aNil) aNil)) (aCons (dOp (fI iNeg) (aCons (dCall (callD 1 0 1 [0] [] (g__law_sign 3)) (aCons (dVar 1) aNil) aNil) aNil)) aNil))))) (sRet (dC (.bl false))) sNext) (sSeq (sIf (bOr (bVal (dOp (fNe) (aCons (dOp (fOwnS 6 f_Bound_str) (aCons (dVar 5) aNil)) (aCons (dOp fCat (aCons (dOp fCat (aCons (dOp fCat (aCons (dOp fCat (aCons (dOp fStrI (aCons (dVar 2) aNil)) (aCons (dC (.str " ")) aNil))) (aCons (dOp fStrI (aCons (dVar 3) aNil)) aNil))) (aCons (dC (.str " ")) aNil))) (aCons (dOp fStrI (aCons (dVar 4) aNil)) aNil))) aNil)))) (bNot (bVal (dCall (callD 2 0 2 [0, 1] [] f__law_is) (aCons (dCall (callD 1 0 1 [0] [] f_Bound_read) (aCons (dOp (fOwnS 6 f_Bound_str) (aCons (dVar 5) aNil)) aNil) aNil) (aCons (dVar 1) aNil)) aNil)))) (sRet (dC (.bl false))) sNext) (sSeq (sSet 6 (dCallM 0 (callD1 1 0 2 [0] [] f__law_pick) (aCons (dOp fLst (aCons (dOp fTup (aCons (dOp (fII iAdd) (aCons (dVar 2) (aCons (dC (.int 1)) aNil))) (aCons (dVar 3) (aCons (dVar 4) aNil)))) (aCons (dOp fTup (aCons (dVar 2) (aCons (dOp (fII iSub) (aCons (dVar 3) (aCons (dC (.int 1)) aNil))) (aCons (dVar 4) aNil)))) (aCons (dOp fTup (aCons (dVar 2) (aCons (dVar 3) (aCons (dOp (fII iAdd) (aCons (dVar 4) (aCons (dC (.int 1)) aNil))) aNil)))) (aCons (dOp fTup (aCons (dOp (fII iSub) (aCons (dOp (fI iNeg) (aCons (dVar 2) aNil)) (aCons (dC (.int 1)) aNil))) (aCons (dVar 3) (aCons (dVar 4) aNil)))) aNil))))) aNil) aNil)) (sSeq (sIf (bOr (bVal (dOp (fOwnE cls 6 f_Bound_eq false) (aCons (dMake (callD1 3 0 4 [0, 1, 2] [] f_Bound_init (.obj 6 [])) (aCons (dOp fIx (aCons (dVar 6) (aCons (dC (.int 0)) aNil))) (aCons (dOp fIx (aCons (dVar 6) (aCons (dC (.int 1)) aNil))) (aCons (dOp fIx (aCons (dVar 6) (aCons (dC (.int 2)) aNil))) aNil))) aNil) (aCons (dVar 5) aNil)))) (bOr (bNot (bVal (dOp (fOwnE cls 6 f_Bound_eq false) (aCons (dVar 5) (aCons (dMake (callD1 3 0 4 [0, 1, 2] [] f_Bound_init (.obj 6 [])) (aCons (dVar 2) (aCons (dVar 3) (aCons (dVar 4) aNil))) aNil) aNil))))) (bOr (bVal (dOp (fOwnE cls 6 f_Bound_eq false) (aCons (dVar 5) (aCons (dVar 1) aNil)))) (bVal (dOp (fOwnE cls 6 f_Bound_eq false) (aCons (dVar 5) (aCons (dVar 2) aNil))))))) (sRet (dC (.bl false))) sNext) (sRet (dAnd (dOp (fEq) (aCons (dOp (fOwnE cls 6 f_Bound_eq false) (aCons (dVar 5) (aCons (dMake (callD1 3 0 4 [0, 1, 2] [] f_Bound_init (.obj 6 [])) (aCons (dOp (fII iAdd) (aCons (dVar 2) (aCons (dOp (fII iMul) (aCons (dC (.int 2)) (aCons (dVar 3) aNil))) aNil))) (aCons (dC (.int 0)) (aCons (dC (.int 4)) aNil))) aNil) aNil))) (aCons (dAnd (dOp (fOr (fOwnE cls 6 f_Bound_eq false) (fEq)) (aCons (dVar 3) (aCons (dC (.int 0)) aNil))) (dOp (fOr (fOwnE cls 6 f_Bound_eq false) (fEq)) (aCons (dVar 4) (aCons (dC (.int 4)) aNil)))) aNil))) (dNot (dOp (fOwnE cls 6 f_Bound_eq true) (aCons (dVar 5) (aCons (dCall (callD 1 0 1 [0] [] f_Bound_read) (aCons (dOp (fOwnS 6 f_Bound_str) (aCons (dVar 5) aNil)) aNil) aNil) aNil)))))))))))))
theorem ok__law_one_right {w : World} {K : PySem.W.Frag} {mg : Str → Option Value} {base : Heap} (T : Tx K mg) : ∃ fn, FunD K "_law_one_right" "_law_one_right" (defArgs st__law_one_right) (defBody st__law_one_right) (defScope st__law_one_right) ((dg__law_one_right).dvs K) [] (He.ga K "_law_one_right") fn ∧ DefOk PG w K mg base NT 13 (He.ga K "_law_one_right") fn ps__law_one_right 2 (some (.l .f)) .f f__law_one_right := by
  obtain ⟨fn, F0⟩ := T.c.def_ 30 (d := dg__law_one_right) rfl
  obtain ⟨n_Bound_eq, D_Bound_eq, F_Bound_eq⟩ := ok_Bound_eq (w := w) (base := base) T
  have B_Bound_eq := D_Bound_eq.bindsN (ps := ps_Bound_eq) (fun _ _ _ _ _ _ us hl => match us, hl with | [_, _], _ => rfl)
  obtain ⟨n_Bound_init, D_Bound_init, F_Bound_init⟩ := ok_Bound_init (w := w) (base := base) T
  obtain ⟨n_Bound_str, D_Bound_str, F_Bound_str⟩ := ok_Bound_str (w := w) (base := base) T
  have B_Bound_str := D_Bound_str.bindsN (ps := ps_Bound_str) (fun _ _ _ _ _ _ us hl => match us, hl with | [_], _ => rfl)
  obtain ⟨n_Bound_read, D_Bound_read, F_Bound_read⟩ := ok_Bound_read (w := w) (base := base) T
  obtain ⟨n__law_is, D__law_is, F__law_is⟩ := ok__law_is (w := w) (base := base) T
  obtain ⟨n__law_pick, D__law_pick, F__law_pick⟩ := ok__law_pick (w := w) (base := base) T
  obtain ⟨n__law_sign, D__law_sign, F__law_sign⟩ := okr__law_sign (w := w) (base := base) T 3
  obtain ⟨n_sign_of, D_sign_of, F_sign_of⟩ := ok_sign_of (w := w) (base := base) T
  obtain ⟨_, H_kb_Bound_init_1_under_whole_part⟩ := kb_Bound_init_1_under_whole_part D_Bound_init
  obtain ⟨_, H_kb_Bound_init_4⟩ := kb_Bound_init_4 D_Bound_init
  obtain ⟨_, H_kb_Bound_read_1⟩ := kb_Bound_read_1 D_Bound_read
  obtain ⟨_, H_kb__law_is_2⟩ := kb__law_is_2 D__law_is
  obtain ⟨_, H_kb__law_pick_2⟩ := kb__law_pick_2 D__law_pick
  obtain ⟨_, H_kb__law_sign_1⟩ := kb__law_sign_1 D__law_sign
  obtain ⟨_, H_kb_sign_of_0_bound⟩ := kb_sign_of_0_bound D_sign_of
  obtain ⟨_, H_kb_sign_of_1⟩ := kb_sign_of_1 D_sign_of
  refine ⟨fn, F0, ⟨?_, F0.kp⟩⟩
  exact fn_sim (NT := NT) F0 sc__law_one_right (some (.l .f)) .f _ [.l .f, .f, .f, .f, .f, .f, .f] [.l .f, .f, .f, .f, .f, .f, .f] (fun cdv A outer s H E pin W hr tk =>
    sss_cons (ss_asg (ee_var 1 1 vl__law_one_right vs__law_one_right rfl rfl) (gg_tup rfl (ggs_cons (gg_name (κ' := [.l .f, .f, .f, .f, .f, .f, .f]) 2 sc__law_one_right.nd rfl (.inl rfl) (.inl rfl)) (ggs_cons (gg_name (κ' := [.l .f, .f, .f, .f, .f, .f, .f]) 3 sc__law_one_right.nd rfl (.inl rfl) (.inl rfl)) (ggs_cons (gg_name (κ' := [.l .f, .f, .f, .f, .f, .f, .f]) 4 sc__law_one_right.nd rfl (.inl rfl) (.inl rfl)) ggs_nil)))))
      (sss_cons (ss_set (κ' := [.l .f, .f, .f, .f, .f, .f, .f]) 5 sc__law_one_right.nd rfl (.inl rfl) (EE.frz (ee_make (ks := ([] : List Str)) (src := [0, 1, 2]) (dds := []) T.mk_Bound F_Bound_init hr (by omega) rfl T.gl_Bound H_kb_Bound_init_4 rd_Bound_init tk (fe_cons (ee_var 2 2 vl__law_one_right vs__law_one_right rfl rfl) (fe_cons (ee_var 3 3 vl__law_one_right vs__law_one_right rfl rfl) (fe_cons (ee_var 4 4 vl__law_one_right vs__law_one_right rfl rfl) fe_nil))) fe_nil)))
      (sss_cons (ss_if (κ2 := [.l .f, .f, .f, .f, .f, .f, .f]) (BW.bb (bw_or (bb_not (bb_val (ee_call (ks := ([] : List Str)) (src := [0, 1]) (dds := []) F__law_is hr (by omega) rfl T.gl__law_is H_kb__law_is_2 rd__law_is tk (fe_cons (ee_var 5 5 vl__law_one_right vs__law_one_right rfl rfl) (fe_cons (ee_var 1 1 vl__law_one_right vs__law_one_right rfl rfl) fe_nil)) fe_nil))) (bw_or1 (bb_not (bb_val (ee_call (ks := ([] : List Str)) (src := [0, 1]) (dds := []) F__law_is hr (by omega) rfl T.gl__law_is H_kb__law_is_2 rd__law_is tk (fe_cons (EE.frz (ee_make (ks := (["under", "whole", "part"] : List Str)) (src := [1, 2, 0]) (dds := []) T.mk_Bound F_Bound_init hr (by omega) rfl T.gl_Bound H_kb_Bound_init_1_under_whole_part rd_Bound_init tk fe_nil (fe_cons (ee_var 4 4 vl__law_one_right vs__law_one_right rfl rfl) (fe_cons (ee_var 2 2 vl__law_one_right vs__law_one_right rfl rfl) (fe_cons (ee_var 3 3 vl__law_one_right vs__law_one_right rfl rfl) fe_nil))))) (fe_cons (ee_var 1 1 vl__law_one_right vs__law_one_right rfl rfl) fe_nil)) fe_nil))))))
      (sss_one (ss_ret ee_bl))
      sss_nil)
      (sss_cons (ss_if (κ2 := [.l .f, .f, .f, .f, .f, .f, .f]) (BW.bb (bw_or (bb_cmp (op_ne2 hr.units) sp_ne (ae_cons (ee_call (ks := ([] : List Str)) (src := [0]) (dds := []) F_sign_of hr (by omega) rfl T.gl_sign_of H_kb_sign_of_1 rd_sign_of tk (fe_cons (ee_var 5 5 vl__law_one_right vs__law_one_right rfl rfl) fe_nil) fe_nil) (ae_cons (ee_call (ks := ([] : List Str)) (src := [0]) (dds := []) F__law_sign hr (by omega) rfl T.gl__law_sign H_kb__law_sign_1 rd__law_sign tk (fe_cons (ee_var 1 1 vl__law_one_right vs__law_one_right rfl rfl) fe_nil) fe_nil) ae_nil))) (bw_or1 (bb_cmp (op_ne2 hr.units) sp_ne (ae_cons (ee_call (ks := (["bound"] : List Str)) (src := [0]) (dds := []) F_sign_of hr (by omega) rfl T.gl_sign_of H_kb_sign_of_0_bound rd_sign_of tk fe_nil (fe_cons (EE.frz (ee_make (ks := ([] : List Str)) (src := [0, 1, 2]) (dds := []) T.mk_Bound F_Bound_init hr (by omega) rfl T.gl_Bound H_kb_Bound_init_4 rd_Bound_init tk (fe_cons (ee_un un_neg sp_neg (ae_cons (ee_var 2 2 vl__law_one_right vs__law_one_right rfl rfl) ae_nil)) (fe_cons (ee_un un_neg sp_neg (ae_cons (ee_var 3 3 vl__law_one_right vs__law_one_right rfl rfl) ae_nil)) (fe_cons (ee_var 4 4 vl__law_one_right vs__law_one_right rfl rfl) fe_nil))) fe_nil)) fe_nil)) (ae_cons (ee_un un_neg sp_neg (ae_cons (ee_call (ks := ([] : List Str)) (src := [0]) (dds := []) F__law_sign hr (by omega) rfl T.gl__law_sign H_kb__law_sign_1 rd__law_sign tk (fe_cons (ee_var 1 1 vl__law_one_right vs__law_one_right rfl rfl) fe_nil) fe_nil) ae_nil)) ae_nil))))))
      (sss_one (ss_ret ee_bl))
      sss_nil)
      (sss_cons (ss_if (κ2 := [.l .f, .f, .f, .f, .f, .f, .f]) (BW.bb (bw_or (bb_cmp (op_ne2 hr.units) sp_ne (ae_cons (ee_callTyF (call_strOwn (F_Bound_str).F (hr.mono (by omega)) B_Bound_str rfl (T.me_Bound_str).at_ (T.me_Bound_str).fn) sp_ownS rfl T.fr_str bt_str (fe_cons (ee_var 5 5 vl__law_one_right vs__law_one_right rfl rfl) fe_nil)) (ae_cons (ee_bin op_add_str sp_cat (ae_cons (ee_bin op_add_str sp_cat (ae_cons (ee_bin op_add_str sp_cat (ae_cons (ee_bin op_add_str sp_cat (ae_cons (ee_callTy call_str2 sp_strI rfl T.fr_str bt_str (ae_cons (ee_var 2 2 vl__law_one_right vs__law_one_right rfl rfl) ae_nil)) (ae_cons ee_str ae_nil))) (ae_cons (ee_callTy call_str2 sp_strI rfl T.fr_str bt_str (ae_cons (ee_var 3 3 vl__law_one_right vs__law_one_right rfl rfl) ae_nil)) ae_nil))) (ae_cons ee_str ae_nil))) (ae_cons (ee_callTy call_str2 sp_strI rfl T.fr_str bt_str (ae_cons (ee_var 4 4 vl__law_one_right vs__law_one_right rfl rfl) ae_nil)) ae_nil))) ae_nil))) (bw_or1 (bb_not (bb_val (ee_call (ks := ([] : List Str)) (src := [0, 1]) (dds := []) F__law_is hr (by omega) rfl T.gl__law_is H_kb__law_is_2 rd__law_is tk (fe_cons (ee_static (Ci := 6) (ks := ([] : List Str)) (src := [0]) (dds := []) T.st_Bound_read F_Bound_read hr (by omega) rfl T.gl_Bound H_kb_Bound_read_1 rd_Bound_read tk (fe_cons (ee_callTyF (call_strOwn (F_Bound_str).F (hr.mono (by omega)) B_Bound_str rfl (T.me_Bound_str).at_ (T.me_Bound_str).fn) sp_ownS rfl T.fr_str bt_str (fe_cons (ee_var 5 5 vl__law_one_right vs__law_one_right rfl rfl) fe_nil)) fe_nil) fe_nil) (fe_cons (ee_var 1 1 vl__law_one_right vs__law_one_right rfl rfl) fe_nil)) fe_nil))))))
      (sss_one (ss_ret ee_bl))
      sss_nil)
      (sss_cons (ss_set (κ' := [.l .f, .f, .f, .f, .f, .f, .f]) 6 sc__law_one_right.nd rfl (.inl rfl) (ee_callM (ks := ([] : List Str)) (src := [0]) (dds := []) 0 0 vl__law_one_right vs__law_one_right rfl rfl F__law_pick hr (by omega) rfl T.gl__law_pick H_kb__law_pick_2 rd__law_pick tk (fe_cons (EE.frz (ee_lst (fe_cons (ee_tup (fe_cons (ee_bin op_add sp_add (ae_cons (ee_var 2 2 vl__law_one_right vs__law_one_right rfl rfl) (ae_cons ee_int ae_nil))) (fe_cons (ee_var 3 3 vl__law_one_right vs__law_one_right rfl rfl) (fe_cons (ee_var 4 4 vl__law_one_right vs__law_one_right rfl rfl) fe_nil)))) (fe_cons (ee_tup (fe_cons (ee_var 2 2 vl__law_one_right vs__law_one_right rfl rfl) (fe_cons (ee_bin op_sub sp_sub (ae_cons (ee_var 3 3 vl__law_one_right vs__law_one_right rfl rfl) (ae_cons ee_int ae_nil))) (fe_cons (ee_var 4 4 vl__law_one_right vs__law_one_right rfl rfl) fe_nil)))) (fe_cons (ee_tup (fe_cons (ee_var 2 2 vl__law_one_right vs__law_one_right rfl rfl) (fe_cons (ee_var 3 3 vl__law_one_right vs__law_one_right rfl rfl) (fe_cons (ee_bin op_add sp_add (ae_cons (ee_var 4 4 vl__law_one_right vs__law_one_right rfl rfl) (ae_cons ee_int ae_nil))) fe_nil)))) (fe_cons (ee_tup (fe_cons (ee_bin op_sub sp_sub (ae_cons (ee_un un_neg sp_neg (ae_cons (ee_var 2 2 vl__law_one_right vs__law_one_right rfl rfl) ae_nil)) (ae_cons ee_int ae_nil))) (fe_cons (ee_var 3 3 vl__law_one_right vs__law_one_right rfl rfl) (fe_cons (ee_var 4 4 vl__law_one_right vs__law_one_right rfl rfl) fe_nil)))) fe_nil)))))) fe_nil) fe_nil))
      (sss_cons (ss_if (κ2 := [.l .f, .f, .f, .f, .f, .f, .f]) (BW.bb (bw_or (bb_cmpF (op_eqOwn (F_Bound_eq).F (hr.mono (by omega)) B_Bound_eq rfl (T.me_Bound_eq).at_ (T.me_Bound_eq).fn) (sp_ownE (neg := false) T.own (Cl := 6) rfl) (fe_cons (EE.frz (ee_make (ks := ([] : List Str)) (src := [0, 1, 2]) (dds := []) T.mk_Bound F_Bound_init hr (by omega) rfl T.gl_Bound H_kb_Bound_init_4 rd_Bound_init tk (fe_cons (ee_ix ix_seq sp_ix (ae_cons (ee_var 6 6 vl__law_one_right vs__law_one_right rfl rfl) (ae_cons ee_int ae_nil))) (fe_cons (ee_ix ix_seq sp_ix (ae_cons (ee_var 6 6 vl__law_one_right vs__law_one_right rfl rfl) (ae_cons ee_int ae_nil))) (fe_cons (ee_ix ix_seq sp_ix (ae_cons (ee_var 6 6 vl__law_one_right vs__law_one_right rfl rfl) (ae_cons ee_int ae_nil))) fe_nil))) fe_nil)) (fe_cons (ee_var 5 5 vl__law_one_right vs__law_one_right rfl rfl) fe_nil))) (bw_or (bb_not (bb_cmpF (op_eqOwn (F_Bound_eq).F (hr.mono (by omega)) B_Bound_eq rfl (T.me_Bound_eq).at_ (T.me_Bound_eq).fn) (sp_ownE (neg := false) T.own (Cl := 6) rfl) (fe_cons (ee_var 5 5 vl__law_one_right vs__law_one_right rfl rfl) (fe_cons (EE.frz (ee_make (ks := ([] : List Str)) (src := [0, 1, 2]) (dds := []) T.mk_Bound F_Bound_init hr (by omega) rfl T.gl_Bound H_kb_Bound_init_4 rd_Bound_init tk (fe_cons (ee_var 2 2 vl__law_one_right vs__law_one_right rfl rfl) (fe_cons (ee_var 3 3 vl__law_one_right vs__law_one_right rfl rfl) (fe_cons (ee_var 4 4 vl__law_one_right vs__law_one_right rfl rfl) fe_nil))) fe_nil)) fe_nil)))) (bw_or (bb_cmpF (op_eqOwn (F_Bound_eq).F (hr.mono (by omega)) B_Bound_eq rfl (T.me_Bound_eq).at_ (T.me_Bound_eq).fn) (sp_ownE (neg := false) T.own (Cl := 6) rfl) (fe_cons (ee_var 5 5 vl__law_one_right vs__law_one_right rfl rfl) (fe_cons (ee_var 1 1 vl__law_one_right vs__law_one_right rfl rfl) fe_nil))) (bw_or1 (bb_cmpF (op_eqOwn (F_Bound_eq).F (hr.mono (by omega)) B_Bound_eq rfl (T.me_Bound_eq).at_ (T.me_Bound_eq).fn) (sp_ownE (neg := false) T.own (Cl := 6) rfl) (fe_cons (ee_var 5 5 vl__law_one_right vs__law_one_right rfl rfl) (fe_cons (ee_var 2 2 vl__law_one_right vs__law_one_right rfl rfl) fe_nil))))))))
      (sss_one (ss_ret ee_bl))
      sss_nil)
      (sss_one (ss_ret (ee_and (ee_cmp (op_eq2 hr.units) sp_eq (ae_cons (ee_cmpF (op_eqOwn (F_Bound_eq).F (hr.mono (by omega)) B_Bound_eq rfl (T.me_Bound_eq).at_ (T.me_Bound_eq).fn) (sp_ownE (neg := false) T.own (Cl := 6) rfl) (fe_cons (ee_var 5 5 vl__law_one_right vs__law_one_right rfl rfl) (fe_cons (EE.frz (ee_make (ks := ([] : List Str)) (src := [0, 1, 2]) (dds := []) T.mk_Bound F_Bound_init hr (by omega) rfl T.gl_Bound H_kb_Bound_init_4 rd_Bound_init tk (fe_cons (ee_bin op_add sp_add (ae_cons (ee_var 2 2 vl__law_one_right vs__law_one_right rfl rfl) (ae_cons (ee_bin op_mul2 sp_mul (ae_cons ee_int (ae_cons (ee_var 3 3 vl__law_one_right vs__law_one_right rfl rfl) ae_nil))) ae_nil))) (fe_cons ee_int (fe_cons ee_int fe_nil))) fe_nil)) fe_nil))) (ae_cons (ee_and (ee_cmpF (OpR.or (op_eqOwn (F_Bound_eq).F (hr.mono (by omega)) B_Bound_eq rfl (T.me_Bound_eq).at_ (T.me_Bound_eq).fn) (op_eq2 hr.units)) (OpSpecF.or (sp_ownE (neg := false) T.own (Cl := 6) rfl) sp_eq.fr) (fe_cons (ee_var 3 3 vl__law_one_right vs__law_one_right rfl rfl) (fe_cons ee_int fe_nil))) (ee_one (ee_cmpF (OpR.or (op_eqOwn (F_Bound_eq).F (hr.mono (by omega)) B_Bound_eq rfl (T.me_Bound_eq).at_ (T.me_Bound_eq).fn) (op_eq2 hr.units)) (OpSpecF.or (sp_ownE (neg := false) T.own (Cl := 6) rfl) sp_eq.fr) (fe_cons (ee_var 4 4 vl__law_one_right vs__law_one_right rfl rfl) (fe_cons ee_int fe_nil))))) ae_nil))) (ee_one (ee_not (ee_cmpF (op_neOwn (F_Bound_eq).F (hr.mono (by omega)) B_Bound_eq rfl T.ne_Bound (T.own.c 6 rfl).2.2 (T.me_Bound_eq).at_ (T.me_Bound_eq).fn) (sp_ownE (neg := true) T.own (Cl := 6) rfl) (fe_cons (ee_var 5 5 vl__law_one_right vs__law_one_right rfl rfl) (fe_cons (ee_static (Ci := 6) (ks := ([] : List Str)) (src := [0]) (dds := []) T.st_Bound_read F_Bound_read hr (by omega) rfl T.gl_Bound H_kb_Bound_read_1 rd_Bound_read tk (fe_cons (ee_callTyF (call_strOwn (F_Bound_str).F (hr.mono (by omega)) B_Bound_str rfl (T.me_Bound_str).at_ (T.me_Bound_str).fn) sp_ownS rfl T.fr_str bt_str (fe_cons (ee_var 5 5 vl__law_one_right vs__law_one_right rfl rfl) fe_nil)) fe_nil) fe_nil) fe_nil)))))))))))))))
def f__law_other : FDen := fdOf 4 (some (.l .f)) (sSeq (sSet 2 (dCallM 0 (callD1 1 0 2 [0] [] f__law_draw) (aCons (dC (.int 5)) aNil) aNil)) (sSeq (sSet 3 (dCallM 0 (callD1 0 0 1 [] [] f__law_told) aNil aNil)) (sSeq (sIf (bVal (dOp (fII iLt) (aCons (dVar 2) (aCons (dC (.int 2)) aNil)))) (sRet (dOp fTup (aCons (dOp fIx (aCons (dVar 3) (aCons (dC (.int 0)) aNil))) (aCons (dOp fIx (aCons (dVar 3) (aCons (dC (.int 1)) aNil))) (aCons (dOp fIx (aCons (dVar 1) (aCons (dC (.int 2)) aNil))) aNil))))) sNext) (sSeq (sIf (bVal (dOp (fEq) (aCons (dVar 2) (aCons (dC (.int 2)) aNil)))) (sRet (dOp fTup (aCons (dOp (fII iSub) (aCons (dOp (fII iAdd) (aCons (dOp fIx (aCons (dVar 1) (aCons (dC (.int 0)) aNil))) (aCons (dCallM 0 (callD1 1 0 2 [0] [] f__law_draw) (aCons (dC (.int 3)) aNil) aNil) aNil))) (aCons (dC (.int 1)) aNil))) (aCons (dOp fIx (aCons (dVar 1) (aCons (dC (.int 1)) aNil))) (aCons (dOp fIx (aCons (dVar 1) (aCons (dC (.int 2)) aNil))) aNil))))) sNext) (sRet (dIf (bVal (dOp (fEq) (aCons (dVar 2) (aCons (dC (.int 3)) aNil)))) (dOp fTup (aCons (dOp fIx (aCons (dVar 3) (aCons (dC (.int 0)) aNil))) (aCons (dC (.int 0)) (aCons (dOp fIx (aCons (dVar 3) (aCons (dC (.int 2)) aNil))) aNil)))) (dVar 3)))))))
theorem ok__law_other {w : World} {K : PySem.W.Frag} {mg : Str → Option Value} {base : Heap} (T : Tx K mg) : ∃ fn, FunD K "_law_other" "_law_other" (defArgs st__law_other) (defBody st__law_other) (defScope st__law_other) ((dg__law_other).dvs K) [] (He.ga K "_law_other") fn ∧ DefOk PG w K mg base NT 11 (He.ga K "_law_other") fn ps__law_other 2 (some (.l .f)) .f f__law_other := by
  obtain ⟨fn, F0⟩ := T.c.def_ 31 (d := dg__law_other) rfl
  obtain ⟨n__law_draw, D__law_draw, F__law_draw⟩ := ok__law_draw (w := w) (base := base) T
  obtain ⟨n__law_told, D__law_told, F__law_told⟩ := ok__law_told (w := w) (base := base) T
  obtain ⟨_, H_kb__law_draw_2⟩ := kb__law_draw_2 D__law_draw
  obtain ⟨_, H_kb__law_told_1⟩ := kb__law_told_1 D__law_told
  refine ⟨fn, F0, ⟨?_, F0.kp⟩⟩
  exact fn_sim (NT := NT) F0 sc__law_other (some (.l .f)) .f _ [.l .f, .f, .f, .f] [.l .f, .f, .f, .f] (fun cdv A outer s H E pin W hr tk =>
    sss_cons (ss_set (κ' := [.l .f, .f, .f, .f]) 2 sc__law_other.nd rfl (.inl rfl) (ee_callM (ks := ([] : List Str)) (src := [0]) (dds := []) 0 0 vl__law_other vs__law_other rfl rfl F__law_draw hr (by omega) rfl T.gl__law_draw H_kb__law_draw_2 rd__law_draw tk (fe_cons ee_int fe_nil) fe_nil))
      (sss_cons (ss_set (κ' := [.l .f, .f, .f, .f]) 3 sc__law_other.nd rfl (.inl rfl) (ee_callM (ks := ([] : List Str)) (src := []) (dds := []) 0 0 vl__law_other vs__law_other rfl rfl F__law_told hr (by omega) rfl T.gl__law_told H_kb__law_told_1 rd__law_told tk fe_nil fe_nil))
      (sss_cons (ss_if (κ2 := [.l .f, .f, .f, .f]) (bb_cmp op_lt sp_lt (ae_cons (ee_var 2 2 vl__law_other vs__law_other rfl rfl) (ae_cons ee_int ae_nil)))
      (sss_one (ss_ret (ee_tup (fe_cons (ee_ix ix_seq sp_ix (ae_cons (ee_var 3 3 vl__law_other vs__law_other rfl rfl) (ae_cons ee_int ae_nil))) (fe_cons (ee_ix ix_seq sp_ix (ae_cons (ee_var 3 3 vl__law_other vs__law_other rfl rfl) (ae_cons ee_int ae_nil))) (fe_cons (ee_ix ix_seq sp_ix (ae_cons (ee_var 1 1 vl__law_other vs__law_other rfl rfl) (ae_cons ee_int ae_nil))) fe_nil))))))
      sss_nil)
      (sss_cons (ss_if (κ2 := [.l .f, .f, .f, .f]) (bb_cmp (op_eq2 hr.units) sp_eq (ae_cons (ee_var 2 2 vl__law_other vs__law_other rfl rfl) (ae_cons ee_int ae_nil)))
      (sss_one (ss_ret (ee_tup (fe_cons (ee_bin op_sub sp_sub (ae_cons (ee_bin op_add sp_add (ae_cons (ee_ix ix_seq sp_ix (ae_cons (ee_var 1 1 vl__law_other vs__law_other rfl rfl) (ae_cons ee_int ae_nil))) (ae_cons (ee_callM (ks := ([] : List Str)) (src := [0]) (dds := []) 0 0 vl__law_other vs__law_other rfl rfl F__law_draw hr (by omega) rfl T.gl__law_draw H_kb__law_draw_2 rd__law_draw tk (fe_cons ee_int fe_nil) fe_nil) ae_nil))) (ae_cons ee_int ae_nil))) (fe_cons (ee_ix ix_seq sp_ix (ae_cons (ee_var 1 1 vl__law_other vs__law_other rfl rfl) (ae_cons ee_int ae_nil))) (fe_cons (ee_ix ix_seq sp_ix (ae_cons (ee_var 1 1 vl__law_other vs__law_other rfl rfl) (ae_cons ee_int ae_nil))) fe_nil))))))
      sss_nil)
      (sss_one (ss_ret (ee_if (bb_cmp (op_eq2 hr.units) sp_eq (ae_cons (ee_var 2 2 vl__law_other vs__law_other rfl rfl) (ae_cons ee_int ae_nil))) (ee_tup (fe_cons (ee_ix ix_seq sp_ix (ae_cons (ee_var 3 3 vl__law_other vs__law_other rfl rfl) (ae_cons ee_int ae_nil))) (fe_cons ee_int (fe_cons (ee_ix ix_seq sp_ix (ae_cons (ee_var 3 3 vl__law_other vs__law_other rfl rfl) (ae_cons ee_int ae_nil))) fe_nil)))) (ee_var 3 3 vl__law_other vs__law_other rfl rfl))))))))
def f__law_common : FDen := fdOf 2 none (sSeq (sIf (bAnd (bVal (dOp (fOr (fOwnE cls 6 f_Bound_eq true) (fNe)) (aCons (dOp fIx (aCons (dVar 0) (aCons (dC (.int 1)) aNil))) (aCons (dC (.int 0)) aNil)))) (bVal (dOp (fOr (fOwnE cls 6 f_Bound_eq true) (fNe)) (aCons (dOp fIx (aCons (dVar 1) (aCons (dC (.int 1)) aNil))) (aCons (dC (.int 0)) aNil))))) (sRet (dIf (bVal (dOp (fOr (fOwnE cls 6 f_Bound_eq false) (fEq)) (aCons (dOp fIx (aCons (dVar 0) (aCons (dC (.int 2)) aNil))) (aCons (dOp fIx (aCons (dVar 1) (aCons (dC (.int 2)) aNil))) aNil)))) (dOp fIx (aCons (dVar 0) (aCons (dC (.int 2)) aNil))) (dC .non))) sNext) (sRet (dIf (bAnd (bVal (dOp (fOr (fOwnE cls 6 f_Bound_eq false) (fEq)) (aCons (dOp fIx (aCons (dVar 0) (aCons (dC (.int 1)) aNil))) (aCons (dC (.int 0)) aNil)))) (bVal (dOp (fOr (fOwnE cls 6 f_Bound_eq true) (fNe)) (aCons (dOp fIx (aCons (dVar 1) (aCons (dC (.int 1)) aNil))) (aCons (dC (.int 0)) aNil))))) (dOp fIx (aCons (dVar 1) (aCons (dC (.int 2)) aNil))) (dOp fIx (aCons (dVar 0) (aCons (dC (.int 2)) aNil))))))
theorem ok__law_common {w : World} {K : PySem.W.Frag} {mg : Str → Option Value} {base : Heap} (T : Tx K mg) : ∃ fn, FunD K "_law_common" "_law_common" (defArgs st__law_common) (defBody st__law_common) (defScope st__law_common) ((dg__law_common).dvs K) [] (He.ga K "_law_common") fn ∧ DefOk PG w K mg base NT 5 (He.ga K "_law_common") fn ps__law_common 2 none .f f__law_common := by
  obtain ⟨fn, F0⟩ := T.c.def_ 32 (d := dg__law_common) rfl
  obtain ⟨n_Bound_eq, D_Bound_eq, F_Bound_eq⟩ := ok_Bound_eq (w := w) (base := base) T
  have B_Bound_eq := D_Bound_eq.bindsN (ps := ps_Bound_eq) (fun _ _ _ _ _ _ us hl => match us, hl with | [_, _], _ => rfl)
  refine ⟨fn, F0, ⟨?_, F0.kp⟩⟩
  exact fn_sim (NT := NT) F0 sc__law_common none .f _ [.f, .f] [.f, .f] (fun cdv A outer s H E pin W hr tk =>
    sss_cons (ss_if (κ2 := [.f, .f]) (BW.bb (bw_and (bb_cmpF (OpR.or (op_neOwn (F_Bound_eq).F (hr.mono (by omega)) B_Bound_eq rfl T.ne_Bound (T.own.c 6 rfl).2.2 (T.me_Bound_eq).at_ (T.me_Bound_eq).fn) (op_ne2 hr.units)) (OpSpecF.or (sp_ownE (neg := true) T.own (Cl := 6) rfl) sp_ne.fr) (fe_cons (ee_ix ix_seq sp_ix (ae_cons (ee_var 0 0 vl__law_common vs__law_common rfl rfl) (ae_cons ee_int ae_nil))) (fe_cons ee_int fe_nil))) (bw_and1 (bb_cmpF (OpR.or (op_neOwn (F_Bound_eq).F (hr.mono (by omega)) B_Bound_eq rfl T.ne_Bound (T.own.c 6 rfl).2.2 (T.me_Bound_eq).at_ (T.me_Bound_eq).fn) (op_ne2 hr.units)) (OpSpecF.or (sp_ownE (neg := true) T.own (Cl := 6) rfl) sp_ne.fr) (fe_cons (ee_ix ix_seq sp_ix (ae_cons (ee_var 1 1 vl__law_common vs__law_common rfl rfl) (ae_cons ee_int ae_nil))) (fe_cons ee_int fe_nil))))))
      (sss_one (ss_ret (ee_if (bb_cmpF (OpR.or (op_eqOwn (F_Bound_eq).F (hr.mono (by omega)) B_Bound_eq rfl (T.me_Bound_eq).at_ (T.me_Bound_eq).fn) (op_eq2 hr.units)) (OpSpecF.or (sp_ownE (neg := false) T.own (Cl := 6) rfl) sp_eq.fr) (fe_cons (ee_ix ix_seq sp_ix (ae_cons (ee_var 0 0 vl__law_common vs__law_common rfl rfl) (ae_cons ee_int ae_nil))) (fe_cons (ee_ix ix_seq sp_ix (ae_cons (ee_var 1 1 vl__law_common vs__law_common rfl rfl) (ae_cons ee_int ae_nil))) fe_nil))) (ee_ix ix_seq sp_ix (ae_cons (ee_var 0 0 vl__law_common vs__law_common rfl rfl) (ae_cons ee_int ae_nil))) ee_non)))
      sss_nil)
      (sss_one (ss_ret (ee_if (BW.bb (bw_and (bb_cmpF (OpR.or (op_eqOwn (F_Bound_eq).F (hr.mono (by omega)) B_Bound_eq rfl (T.me_Bound_eq).at_ (T.me_Bound_eq).fn) (op_eq2 hr.units)) (OpSpecF.or (sp_ownE (neg := false) T.own (Cl := 6) rfl) sp_eq.fr) (fe_cons (ee_ix ix_seq sp_ix (ae_cons (ee_var 0 0 vl__law_common vs__law_common rfl rfl) (ae_cons ee_int ae_nil))) (fe_cons ee_int fe_nil))) (bw_and1 (bb_cmpF (OpR.or (op_neOwn (F_Bound_eq).F (hr.mono (by omega)) B_Bound_eq rfl T.ne_Bound (T.own.c 6 rfl).2.2 (T.me_Bound_eq).at_ (T.me_Bound_eq).fn) (op_ne2 hr.units)) (OpSpecF.or (sp_ownE (neg := true) T.own (Cl := 6) rfl) sp_ne.fr) (fe_cons (ee_ix ix_seq sp_ix (ae_cons (ee_var 1 1 vl__law_common vs__law_common rfl rfl) (ae_cons ee_int ae_nil))) (fe_cons ee_int fe_nil)))))) (ee_ix ix_seq sp_ix (ae_cons (ee_var 1 1 vl__law_common vs__law_common rfl rfl) (ae_cons ee_int ae_nil))) (ee_ix ix_seq sp_ix (ae_cons (ee_var 0 0 vl__law_common vs__law_common rfl rfl) (ae_cons ee_int ae_nil)))))))
def f__law_done : FDen := fdOf 4 none (sTry (sSeq (sIf (bVal (dOp (fOr (fOwnE cls 6 f_Bound_eq false) (fEq)) (aCons (dVar 0) (aCons (dC (.int 0)) aNil)))) (sRet (dCall (callD 2 0 2 [0, 1] [] f_added) (aCons (dVar 1) (aCons (dVar 2) aNil)) aNil)) sNext) (sSeq (sIf (bVal (dOp (fOr (fOwnE cls 6 f_Bound_eq false) (fEq)) (aCons (dVar 0) (aCons (dC (.int 1)) aNil)))) (sRet (dCall (callD 2 0 2 [0, 1] [] f_multiplied) (aCons (dVar 1) (aCons (dVar 2) aNil)) aNil)) sNext) (sRet (dCall (callD 2 0 2 [0, 1] [] f_at_most) (aCons (dVar 1) (aCons (dVar 2) aNil)) aNil)))) [⟨tb_BadBound, some 3, fun x => sRet (dOp fTup (aCons (dC (.str "badbound")) (aCons (dErr NT.length [2] 8 x) aNil)))⟩, ⟨tb_Misfit, some 3, fun x => sRet (dOp fTup (aCons (dC (.str "misfit")) (aCons (dErr NT.length [3] 8 x) aNil)))⟩, ⟨tb_SignsError, none, fun x => sRet (dOp fTup (aCons (dC (.str "another")) aNil))⟩])
theorem ok__law_done {w : World} {K : PySem.W.Frag} {mg : Str → Option Value} {base : Heap} (T : Tx K mg) : ∃ fn, FunD K "_law_done" "_law_done" (defArgs st__law_done) (defBody st__law_done) (defScope st__law_done) ((dg__law_done).dvs K) [] (He.ga K "_law_done") fn ∧ DefOk PG w K mg base NT 13 (He.ga K "_law_done") fn ps__law_done 3 none .f f__law_done := by
  obtain ⟨fn, F0⟩ := T.c.def_ 33 (d := dg__law_done) rfl
  obtain ⟨n_Bound_eq, D_Bound_eq, F_Bound_eq⟩ := ok_Bound_eq (w := w) (base := base) T
  have B_Bound_eq := D_Bound_eq.bindsN (ps := ps_Bound_eq) (fun _ _ _ _ _ _ us hl => match us, hl with | [_, _], _ => rfl)
  obtain ⟨n_added, D_added, F_added⟩ := ok_added (w := w) (base := base) T
  obtain ⟨n_at_most, D_at_most, F_at_most⟩ := ok_at_most (w := w) (base := base) T
  obtain ⟨n_multiplied, D_multiplied, F_multiplied⟩ := ok_multiplied (w := w) (base := base) T
  obtain ⟨_, H_kb_added_2⟩ := kb_added_2 D_added
  obtain ⟨_, H_kb_at_most_2⟩ := kb_at_most_2 D_at_most
  obtain ⟨_, H_kb_multiplied_2⟩ := kb_multiplied_2 D_multiplied
  refine ⟨fn, F0, ⟨?_, F0.kp⟩⟩
  exact fn_sim (NT := NT) F0 sc__law_done none .f _ [.f, .f, .f, .f] [.f, .f, .f, .f] (fun cdv A outer s H E pin W hr tk =>
    sss_one (ss_try (κe := [.f, .f, .f, .f]) rfl rfl sc__law_done.nd tk (fun W pn xe t1 t2 => sss_cons (ss_if (κ2 := [.f, .f, .f, .f]) (bb_cmpF (OpR.or (op_eqOwn (F_Bound_eq).F (hr.mono (by omega)) B_Bound_eq rfl (T.me_Bound_eq).at_ (T.me_Bound_eq).fn) (op_eq2 hr.units)) (OpSpecF.or (sp_ownE (neg := false) T.own (Cl := 6) rfl) sp_eq.fr) (fe_cons (ee_var 0 0 vl__law_done vs__law_done rfl rfl) (fe_cons ee_int fe_nil)))
      (sss_one (ss_ret (ee_call (ks := ([] : List Str)) (src := [0, 1]) (dds := []) F_added hr (by omega) rfl T.gl_added H_kb_added_2 rd_added t1 (fe_cons (ee_var 1 1 vl__law_done vs__law_done rfl rfl) (fe_cons (ee_var 2 2 vl__law_done vs__law_done rfl rfl) fe_nil)) fe_nil)))
      sss_nil)
      (sss_cons (ss_if (κ2 := [.f, .f, .f, .f]) (bb_cmpF (OpR.or (op_eqOwn (F_Bound_eq).F (hr.mono (by omega)) B_Bound_eq rfl (T.me_Bound_eq).at_ (T.me_Bound_eq).fn) (op_eq2 hr.units)) (OpSpecF.or (sp_ownE (neg := false) T.own (Cl := 6) rfl) sp_eq.fr) (fe_cons (ee_var 0 0 vl__law_done vs__law_done rfl rfl) (fe_cons ee_int fe_nil)))
      (sss_one (ss_ret (ee_call (ks := ([] : List Str)) (src := [0, 1]) (dds := []) F_multiplied hr (by omega) rfl T.gl_multiplied H_kb_multiplied_2 rd_multiplied t1 (fe_cons (ee_var 1 1 vl__law_done vs__law_done rfl rfl) (fe_cons (ee_var 2 2 vl__law_done vs__law_done rfl rfl) fe_nil)) fe_nil)))
      sss_nil)
      (sss_one (ss_ret (ee_call (ks := ([] : List Str)) (src := [0, 1]) (dds := []) F_at_most hr (by omega) rfl T.gl_at_most H_kb_at_most_2 rd_at_most t1 (fe_cons (ee_var 1 1 vl__law_done vs__law_done rfl rfl) (fe_cons (ee_var 2 2 vl__law_done vs__law_done rfl rfl) fe_nil)) fe_nil)))))
      (.cons (.named ⟨rfl, by decide, .inl T.gl_BadBound⟩ rfl rfl rfl (by decide) T.tb_BadBound (fun a oe cls d pn x hz hf => sss_one (ss_ret (ee_tup (fe_cons ee_str (fe_cons (ee_err (C := _) (cs := [2]) 3 3 vl__law_done vs__law_done rfl rfl hz hf nt_nd (show 8 < NT.length by decide) rfl (one_err [8] (by decide) T.er_BadBound)) fe_nil))))))
      (.cons (.named ⟨rfl, by decide, .inl T.gl_Misfit⟩ rfl rfl rfl (by decide) T.tb_Misfit (fun a oe cls d pn x hz hf => sss_one (ss_ret (ee_tup (fe_cons ee_str (fe_cons (ee_err (C := _) (cs := [3]) 3 3 vl__law_done vs__law_done rfl rfl hz hf nt_nd (show 8 < NT.length by decide) rfl (one_err [8] (by decide) T.er_Misfit)) fe_nil))))))
      (.cons (.plain ⟨rfl, by decide, .inl T.gl_SignsError⟩ T.tb_SignsError (fun a oe cls d pn x hz hf => sss_one (ss_ret (ee_tup (fe_cons ee_str fe_nil)))))
      .nil)))))
def f__law_two_right : FDen := fdOf 12 (some (.l .f)) (sSeq (sAsg (dOp fTup (aCons (dMake (callD1 3 0 4 [0, 1, 2] [] f_Bound_init (.obj 6 [])) (aCons (dOp fIx (aCons (dVar 1) (aCons (dC (.int 0)) aNil))) (aCons (dOp fIx (aCons (dVar 1) (aCons (dC (.int 1)) aNil))) (aCons (dOp fIx (aCons (dVar 1) (aCons (dC (.int 2)) aNil))) aNil))) aNil) (aCons (dMake (callD1 3 0 4 [0, 1, 2] [] f_Bound_init (.obj 6 [])) (aCons (dOp fIx (aCons (dVar 2) (aCons (dC (.int 0)) aNil))) (aCons (dOp fIx (aCons (dVar 2) (aCons (dC (.int 1)) aNil))) (aCons (dOp fIx (aCons (dVar 2) (aCons (dC (.int 2)) aNil))) aNil))) aNil) aNil))) (gdTup 2 (gdCons (gdName 3) (gdCons (gdName 4) gdNil)))) (sSeq (sSet 5 (dCall (callD 2 0 2 [0, 1] [] f__law_common) (aCons (dVar 1) (aCons (dVar 2) aNil)) aNil)) (sSeq (sIf (bVal (dOp (fIsN) (aCons (dVar 5) (aCons (dC .non) aNil)))) (sSeq (sSet 6 (dOp fCatL (aCons (dLc (idRng1 (aCons (dC (.int 3)) aNil)) (gdName 11) bTrue (dCall (callD 3 0 3 [0, 1, 2] [] f__law_done) (aCons (dVar 11) (aCons (dVar 3) (aCons (dVar 4) aNil))) aNil) [11]) (aCons (dLc (idRng1 (aCons (dC (.int 3)) aNil)) (gdName 11) bTrue (dCall (callD 3 0 3 [0, 1, 2] [] f__law_done) (aCons (dVar 11) (aCons (dVar 4) (aCons (dVar 3) aNil))) aNil) [11]) aNil)))) (sRet (dOp (fEq) (aCons (dVar 6) (aCons (dOp fRep (aCons (dOp fLst (aCons (dOp fTup (aCons (dC (.str "misfit")) (aCons (dC (.str "under")) aNil))) aNil)) (aCons (dC (.int 6)) aNil))) aNil))))) sNext) (sSeq (sSet 7 (dOp fTup (aCons (dOp (fII iAdd) (aCons (dOp fIx (aCons (dVar 1) (aCons (dC (.int 0)) aNil))) (aCons (dOp fIx (aCons (dVar 2) (aCons (dC (.int 0)) aNil))) aNil))) (aCons (dOp (fII iAdd) (aCons (dOp fIx (aCons (dVar 1) (aCons (dC (.int 1)) aNil))) (aCons (dOp fIx (aCons (dVar 2) (aCons (dC (.int 1)) aNil))) aNil))) (aCons (dVar 5) aNil))))) (sSeq (sSet 8 (dOp fTup (aCons (dOp (fII iAdd) (aCons (dOp (fII iMul) (aCons (dOp fIx (aCons (dVar 1) (aCons (dC (.int 0)) aNil))) (aCons (dOp fIx (aCons (dVar 2) (aCons (dC (.int 0)) aNil))) aNil))) (aCons (dOp (fII iMul) (aCons (dOp (fII iMul) (aCons (dOp fIx (aCons (dVar 1) (aCons (dC (.int 1)) aNil))) (aCons (dOp fIx (aCons (dVar 2) (aCons (dC (.int 1)) aNil))) aNil))) (aCons (dVar 5) aNil))) aNil))) (aCons (dOp (fII iAdd) (aCons (dOp (fII iMul) (aCons (dOp fIx (aCons (dVar 1) (aCons (dC (.int 0)) aNil))) (aCons (dOp fIx (aCons (dVar 2) (aCons (dC (.int 1)) aNil))) aNil))) (aCons (dOp (fII iMul) (aCons (dOp fIx (aCons (dVar 1) (aCons (dC (.int 1)) aNil))) (aCons (dOp fIx (aCons (dVar 2) (aCons (dC (.int 0)) aNil))) aNil))) aNil))) (aCons (dVar 5) aNil))))) (sSeq (sIf (bOr (bNot (bVal (dCall (callD 2 0 2 [0, 1] [] f__law_is) (aCons (dCall (callD 2 0 2 [0, 1] [] f_added) (aCons (dVar 3) (aCons (dVar 4) aNil)) aNil) (aCons (dVar 7) aNil)) aNil))) (bNot (bVal (dCall (callD 2 0 2 [0, 1] [] f__law_is) (aCons (dCall (callD 0 2 2 [0, 1] [] f_multiplied) aNil (aCons (dVar 3) (aCons (dVar 4) aNil))) (aCons (dVar 8) aNil)) aNil)))) (sRet (dC (.bl false))) sNext) (sSeq (sIf (bOr (bVal (dOp (fNe) (aCons (dCall (callD 1 0 1 [0] [] f_sign_of) (aCons (dCall (callD 2 0 2 [0, 1] [] f_multiplied) (aCons (dVar 3) (aCons (dVar 4) aNil)) aNil) aNil) aNil) (aCons (dOp (fII iMul) (aCons (dCall (callD 1 0 1 [0] [] (g__law_sign 3)) (aCons (dVar 1) aNil) aNil) (aCons (dCall (callD 1 0 1 [0] [] (g__law_sign 3)) (aCons (dVar 2) aNil) aNil) aNil))) aNil)))) (bVal (dOp (fNe) (aCons (dCall (callD 1 0 1 [0] [] f_sign_of) (aCons (dCall (callD 0 2 2 [1, 0] [] f_added) aNil (aCons (dVar 4) (aCons (dVar 3) aNil))) aNil) aNil) (aCons (dCall (callD 1 0 1 [0] [] (g__law_sign 3)) (aCons (dVar 7) aNil) aNil) aNil))))) (sRet (dC (.bl false))) sNext) (sSeq (sSet 9 (dCall (callD 1 0 1 [0] [] (g__law_sign 3)) (aCons (dOp fTup (aCons (dOp (fII iSub) (aCons (dOp fIx (aCons (dVar 2) (aCons (dC (.int 0)) aNil))) (aCons (dOp fIx (aCons (dVar 1) (aCons (dC (.int 0)) aNil))) aNil))) (aCons (dOp (fII iSub) (aCons (dOp fIx (aCons (dVar 2) (aCons (dC (.int 1)) aNil))) (aCons (dOp fIx (aCons (dVar 1) (aCons (dC (.int 1)) aNil))) aNil))) (aCons (dVar 5) aNil)))) aNil) aNil)) (sSeq (sIf (bOr (bVal (dOp (fNe) (aCons (dOp fLst (aCons (dCall (callD 2 0 2 [0, 1] [] f_at_most) (aCons (dVar 3) (aCons (dVar 4) aNil)) aNil) (aCons (dCall (callD 0 2 2 [1, 0] [] f_at_most) aNil (aCons (dVar 3) (aCons (dVar 4) aNil))) aNil))) (aCons (dOp fLst (aCons (dOp (fII iGe) (aCons (dVar 9) (aCons (dC (.int 0)) aNil))) (aCons (dOp (fII iLe) (aCons (dVar 9) (aCons (dC (.int 0)) aNil))) aNil))) aNil)))) (bNot (bVal (dOp (fIsi cls) (aCons (dCall (callD 2 0 2 [0, 1] [] f_at_most) (aCons (dVar 3) (aCons (dVar 4) aNil)) aNil) (aCons (dC (.ty "bool")) aNil)))))) (sRet (dC (.bl false))) sNext) (sSeq (sSet 10 (dMake (callD1 3 0 4 [0, 1, 2] [] f_Bound_init (.obj 6 [])) (aCons (dCallM 0 (callD1 1 0 2 [0] [] f__law_signed) (aCons (dCallM 0 (callD1 0 0 1 [] [] f__law_great) aNil aNil) aNil) aNil) (aCons (dC (.int 0)) (aCons (dCallM 0 (callD1 1 0 2 [0] [] f__law_draw) (aCons (dC (.int 9)) aNil) aNil) aNil))) aNil)) (sSeq (sIf (bVal (dOp (fNe) (aCons (dCall (callD 2 0 2 [0, 1] [] f_at_most) (aCons (dCall (callD 2 0 2 [0, 1] [] f_added) (aCons (dVar 3) (aCons (dVar 10) aNil)) aNil) (aCons (dCall (callD 2 0 2 [0, 1] [] f_added) (aCons (dVar 10) (aCons (dVar 4) aNil)) aNil) aNil)) aNil) (aCons (dOp (fII iGe) (aCons (dVar 9) (aCons (dC (.int 0)) aNil))) aNil)))) (sRet (dC (.bl false))) sNext) (sRet (dAnd (dCall (callD 2 0 2 [0, 1] [] f__law_is) (aCons (dVar 3) (aCons (dVar 1) aNil)) aNil) (dCall (callD 2 0 2 [0, 1] [] f__law_is) (aCons (dVar 4) (aCons (dVar 2) aNil)) aNil))))))))))))))
theorem ok__law_two_right {w : World} {K : PySem.W.Frag} {mg : Str → Option Value} {base : Heap} (T : Tx K mg) : ∃ fn, FunD K "_law_two_right" "_law_two_right" (defArgs st__law_two_right) (defBody st__law_two_right) (defScope st__law_two_right) ((dg__law_two_right).dvs K) [] (He.ga K "_law_two_right") fn ∧ DefOk PG w K mg base NT 15 (He.ga K "_law_two_right") fn ps__law_two_right 3 (some (.l .f)) .f f__law_two_right := by
  obtain ⟨fn, F0⟩ := T.c.def_ 34 (d := dg__law_two_right) rfl
  obtain ⟨n_Bound_init, D_Bound_init, F_Bound_init⟩ := ok_Bound_init (w := w) (base := base) T
  obtain ⟨n__law_common, D__law_common, F__law_common⟩ := ok__law_common (w := w) (base := base) T
  obtain ⟨n__law_done, D__law_done, F__law_done⟩ := ok__law_done (w := w) (base := base) T
  obtain ⟨n__law_draw, D__law_draw, F__law_draw⟩ := ok__law_draw (w := w) (base := base) T
  obtain ⟨n__law_great, D__law_great, F__law_great⟩ := ok__law_great (w := w) (base := base) T
  obtain ⟨n__law_is, D__law_is, F__law_is⟩ := ok__law_is (w := w) (base := base) T
  obtain ⟨n__law_sign, D__law_sign, F__law_sign⟩ := okr__law_sign (w := w) (base := base) T 3
  obtain ⟨n__law_signed, D__law_signed, F__law_signed⟩ := ok__law_signed (w := w) (base := base) T
  obtain ⟨n_added, D_added, F_added⟩ := ok_added (w := w) (base := base) T
  obtain ⟨n_at_most, D_at_most, F_at_most⟩ := ok_at_most (w := w) (base := base) T
  obtain ⟨n_multiplied, D_multiplied, F_multiplied⟩ := ok_multiplied (w := w) (base := base) T
  obtain ⟨n_sign_of, D_sign_of, F_sign_of⟩ := ok_sign_of (w := w) (base := base) T
  obtain ⟨_, H_kb_Bound_init_4⟩ := kb_Bound_init_4 D_Bound_init
  obtain ⟨_, H_kb__law_common_2⟩ := kb__law_common_2 D__law_common
  obtain ⟨_, H_kb__law_done_3⟩ := kb__law_done_3 D__law_done
  obtain ⟨_, H_kb__law_draw_2⟩ := kb__law_draw_2 D__law_draw
  obtain ⟨_, H_kb__law_great_1⟩ := kb__law_great_1 D__law_great
  obtain ⟨_, H_kb__law_is_2⟩ := kb__law_is_2 D__law_is
  obtain ⟨_, H_kb__law_sign_1⟩ := kb__law_sign_1 D__law_sign
  obtain ⟨_, H_kb__law_signed_2⟩ := kb__law_signed_2 D__law_signed
  obtain ⟨_, H_kb_added_0_other_one⟩ := kb_added_0_other_one D_added
  obtain ⟨_, H_kb_added_2⟩ := kb_added_2 D_added
  obtain ⟨_, H_kb_at_most_0_other_one⟩ := kb_at_most_0_other_one D_at_most
  obtain ⟨_, H_kb_at_most_2⟩ := kb_at_most_2 D_at_most
  obtain ⟨_, H_kb_multiplied_0_one_other⟩ := kb_multiplied_0_one_other D_multiplied
  obtain ⟨_, H_kb_multiplied_2⟩ := kb_multiplied_2 D_multiplied
  obtain ⟨_, H_kb_sign_of_1⟩ := kb_sign_of_1 D_sign_of
  refine ⟨fn, F0, ⟨?_, F0.kp⟩⟩
  exact fn_sim (NT := NT) F0 sc__law_two_right (some (.l .f)) .f _ [.l .f, .f, .f, .f, .f, .f, .f, .f, .f, .f, .f, .f] [.l .f, .f, .f, .f, .f, .f, .f, .f, .f, .f, .f, .f] (fun cdv A outer s H E pin W hr tk =>
    sss_cons (ss_asg (ee_tup (fe_cons (EE.frz (ee_make (ks := ([] : List Str)) (src := [0, 1, 2]) (dds := []) T.mk_Bound F_Bound_init hr (by omega) rfl T.gl_Bound H_kb_Bound_init_4 rd_Bound_init tk (fe_cons (ee_ix ix_seq sp_ix (ae_cons (ee_var 1 1 vl__law_two_right vs__law_two_right rfl rfl) (ae_cons ee_int ae_nil))) (fe_cons (ee_ix ix_seq sp_ix (ae_cons (ee_var 1 1 vl__law_two_right vs__law_two_right rfl rfl) (ae_cons ee_int ae_nil))) (fe_cons (ee_ix ix_seq sp_ix (ae_cons (ee_var 1 1 vl__law_two_right vs__law_two_right rfl rfl) (ae_cons ee_int ae_nil))) fe_nil))) fe_nil)) (fe_cons (EE.frz (ee_make (ks := ([] : List Str)) (src := [0, 1, 2]) (dds := []) T.mk_Bound F_Bound_init hr (by omega) rfl T.gl_Bound H_kb_Bound_init_4 rd_Bound_init tk (fe_cons (ee_ix ix_seq sp_ix (ae_cons (ee_var 2 2 vl__law_two_right vs__law_two_right rfl rfl) (ae_cons ee_int ae_nil))) (fe_cons (ee_ix ix_seq sp_ix (ae_cons (ee_var 2 2 vl__law_two_right vs__law_two_right rfl rfl) (ae_cons ee_int ae_nil))) (fe_cons (ee_ix ix_seq sp_ix (ae_cons (ee_var 2 2 vl__law_two_right vs__law_two_right rfl rfl) (ae_cons ee_int ae_nil))) fe_nil))) fe_nil)) fe_nil))) (gg_tup rfl (ggs_cons (gg_name (κ' := [.l .f, .f, .f, .f, .f, .f, .f, .f, .f, .f, .f, .f]) 3 sc__law_two_right.nd rfl (.inr rfl) (.inl rfl)) (ggs_cons (gg_name (κ' := [.l .f, .f, .f, .f, .f, .f, .f, .f, .f, .f, .f, .f]) 4 sc__law_two_right.nd rfl (.inr rfl) (.inl rfl)) ggs_nil))))
      (sss_cons (ss_set (κ' := [.l .f, .f, .f, .f, .f, .f, .f, .f, .f, .f, .f, .f]) 5 sc__law_two_right.nd rfl (.inl rfl) (ee_call (ks := ([] : List Str)) (src := [0, 1]) (dds := []) F__law_common hr (by omega) rfl T.gl__law_common H_kb__law_common_2 rd__law_common tk (fe_cons (ee_var 1 1 vl__law_two_right vs__law_two_right rfl rfl) (fe_cons (ee_var 2 2 vl__law_two_right vs__law_two_right rfl rfl) fe_nil)) fe_nil))
      (sss_cons (ss_if (κ2 := [.l .f, .f, .f, .f, .f, .f, .f, .f, .f, .f, .f, .f]) (bb_cmp op_isN sp_isN (ae_cons (ee_var 5 5 vl__law_two_right vs__law_two_right rfl rfl) (ae_cons ee_non ae_nil)))
      (sss_cons (ss_set (κ' := [.l .f, .f, .f, .f, .f, .f, .f, .f, .f, .f, .f, .f]) 6 sc__law_two_right.nd rfl (.inl rfl) (EE.frz (ee_bin op_cat sp_catL (ae_cons (ee_lc (κL := [.l .f, .f, .f, .f, .f, .f, .f, .f, .f, .f, .f, .f]) [("way", 11)] rfl sc__law_two_right.nd (ii_range1 rfl T.fr_range (ae_cons ee_int ae_nil)) (fun q => gw_name (κ' := [.l .f, .f, .f, .f, .f, .f, .f, .f, .f, .f, .f, .f]) 11 (by decide) sc__law_two_right.nd rfl (.inl rfl) (.inr rfl)) (fun q => ee_call (ks := ([] : List Str)) (src := [0, 1, 2]) (dds := []) F__law_done hr (by omega) rfl T.gl__law_done H_kb__law_done_3 rd__law_done (takes_blk fun _ _ _ _ z => z) (fe_cons (ee_var 11 0 vl__law_two_right_b0 (visOk_of (vis := vl__law_two_right_b0) rfl) rfl rfl) (fe_cons (ee_var 3 1 vl__law_two_right_b0 (visOk_of (vis := vl__law_two_right_b0) rfl) rfl rfl) (fe_cons (ee_var 4 2 vl__law_two_right_b0 (visOk_of (vis := vl__law_two_right_b0) rfl) rfl rfl) fe_nil))) fe_nil)) (ae_cons (ee_lc (κL := [.l .f, .f, .f, .f, .f, .f, .f, .f, .f, .f, .f, .f]) [("way", 11)] rfl sc__law_two_right.nd (ii_range1 rfl T.fr_range (ae_cons ee_int ae_nil)) (fun q => gw_name (κ' := [.l .f, .f, .f, .f, .f, .f, .f, .f, .f, .f, .f, .f]) 11 (by decide) sc__law_two_right.nd rfl (.inl rfl) (.inr rfl)) (fun q => ee_call (ks := ([] : List Str)) (src := [0, 1, 2]) (dds := []) F__law_done hr (by omega) rfl T.gl__law_done H_kb__law_done_3 rd__law_done (takes_blk fun _ _ _ _ z => z) (fe_cons (ee_var 11 0 vl__law_two_right_b1 (visOk_of (vis := vl__law_two_right_b1) rfl) rfl rfl) (fe_cons (ee_var 4 1 vl__law_two_right_b1 (visOk_of (vis := vl__law_two_right_b1) rfl) rfl rfl) (fe_cons (ee_var 3 2 vl__law_two_right_b1 (visOk_of (vis := vl__law_two_right_b1) rfl) rfl rfl) fe_nil))) fe_nil)) ae_nil)))))
      (sss_one (ss_ret (ee_cmp (op_eq2 hr.units) sp_eq (ae_cons (ee_var 6 6 vl__law_two_right vs__law_two_right rfl rfl) (ae_cons (ee_bin op_rep sp_rep (ae_cons (ee_lst (fe_cons (ee_tup (fe_cons ee_str (fe_cons ee_str fe_nil))) fe_nil)) (ae_cons ee_int ae_nil))) ae_nil))))))
      sss_nil)
      (sss_cons (ss_set (κ' := [.l .f, .f, .f, .f, .f, .f, .f, .f, .f, .f, .f, .f]) 7 sc__law_two_right.nd rfl (.inl rfl) (ee_tup (fe_cons (ee_bin op_add sp_add (ae_cons (ee_ix ix_seq sp_ix (ae_cons (ee_var 1 1 vl__law_two_right vs__law_two_right rfl rfl) (ae_cons ee_int ae_nil))) (ae_cons (ee_ix ix_seq sp_ix (ae_cons (ee_var 2 2 vl__law_two_right vs__law_two_right rfl rfl) (ae_cons ee_int ae_nil))) ae_nil))) (fe_cons (ee_bin op_add sp_add (ae_cons (ee_ix ix_seq sp_ix (ae_cons (ee_var 1 1 vl__law_two_right vs__law_two_right rfl rfl) (ae_cons ee_int ae_nil))) (ae_cons (ee_ix ix_seq sp_ix (ae_cons (ee_var 2 2 vl__law_two_right vs__law_two_right rfl rfl) (ae_cons ee_int ae_nil))) ae_nil))) (fe_cons (ee_var 5 5 vl__law_two_right vs__law_two_right rfl rfl) fe_nil)))))
      (sss_cons (ss_set (κ' := [.l .f, .f, .f, .f, .f, .f, .f, .f, .f, .f, .f, .f]) 8 sc__law_two_right.nd rfl (.inl rfl) (ee_tup (fe_cons (ee_bin op_add sp_add (ae_cons (ee_bin op_mul2 sp_mul (ae_cons (ee_ix ix_seq sp_ix (ae_cons (ee_var 1 1 vl__law_two_right vs__law_two_right rfl rfl) (ae_cons ee_int ae_nil))) (ae_cons (ee_ix ix_seq sp_ix (ae_cons (ee_var 2 2 vl__law_two_right vs__law_two_right rfl rfl) (ae_cons ee_int ae_nil))) ae_nil))) (ae_cons (ee_bin op_mul2 sp_mul (ae_cons (ee_bin op_mul2 sp_mul (ae_cons (ee_ix ix_seq sp_ix (ae_cons (ee_var 1 1 vl__law_two_right vs__law_two_right rfl rfl) (ae_cons ee_int ae_nil))) (ae_cons (ee_ix ix_seq sp_ix (ae_cons (ee_var 2 2 vl__law_two_right vs__law_two_right rfl rfl) (ae_cons ee_int ae_nil))) ae_nil))) (ae_cons (ee_var 5 5 vl__law_two_right vs__law_two_right rfl rfl) ae_nil))) ae_nil))) (fe_cons (ee_bin op_add sp_add (ae_cons (ee_bin op_mul2 sp_mul (ae_cons (ee_ix ix_seq sp_ix (ae_cons (ee_var 1 1 vl__law_two_right vs__law_two_right rfl rfl) (ae_cons ee_int ae_nil))) (ae_cons (ee_ix ix_seq sp_ix (ae_cons (ee_var 2 2 vl__law_two_right vs__law_two_right rfl rfl) (ae_cons ee_int ae_nil))) ae_nil))) (ae_cons (ee_bin op_mul2 sp_mul (ae_cons (ee_ix ix_seq sp_ix (ae_cons (ee_var 1 1 vl__law_two_right vs__law_two_right rfl rfl) (ae_cons ee_int ae_nil))) (ae_cons (ee_ix ix_seq sp_ix (ae_cons (ee_var 2 2 vl__law_two_right vs__law_two_right rfl rfl) (ae_cons ee_int ae_nil))) ae_nil))) ae_nil))) (fe_cons (ee_var 5 5 vl__law_two_right vs__law_two_right rfl rfl) fe_nil)))))
      (sss_cons (ss_if (κ2 := [.l .f, .f, .f, .f, .f, .f, .f, .f, .f, .f, .f, .f]) (BW.bb (bw_or (bb_not (bb_val (ee_call (ks := ([] : List Str)) (src := [0, 1]) (dds := []) F__law_is hr (by omega) rfl T.gl__law_is H_kb__law_is_2 rd__law_is tk (fe_cons (ee_call (ks := ([] : List Str)) (src := [0, 1]) (dds := []) F_added hr (by omega) rfl T.gl_added H_kb_added_2 rd_added tk (fe_cons (ee_var 3 3 vl__law_two_right vs__law_two_right rfl rfl) (fe_cons (ee_var 4 4 vl__law_two_right vs__law_two_right rfl rfl) fe_nil)) fe_nil) (fe_cons (ee_var 7 7 vl__law_two_right vs__law_two_right rfl rfl) fe_nil)) fe_nil))) (bw_or1 (bb_not (bb_val (ee_call (ks := ([] : List Str)) (src := [0, 1]) (dds := []) F__law_is hr (by omega) rfl T.gl__law_is H_kb__law_is_2 rd__law_is tk (fe_cons (ee_call (ks := (["one", "other"] : List Str)) (src := [0, 1]) (dds := []) F_multiplied hr (by omega) rfl T.gl_multiplied H_kb_multiplied_0_one_other rd_multiplied tk fe_nil (fe_cons (ee_var 3 3 vl__law_two_right vs__law_two_right rfl rfl) (fe_cons (ee_var 4 4 vl__law_two_right vs__law_two_right rfl rfl) fe_nil))) (fe_cons (ee_var 8 8 vl__law_two_right vs__law_two_right rfl rfl) fe_nil)) fe_nil))))))
      (sss_one (ss_ret ee_bl))
      sss_nil)
      (sss_cons (ss_if (κ2 := [.l .f, .f, .f, .f, .f, .f, .f, .f, .f, .f, .f, .f]) (BW.bb (bw_or (bb_cmp (op_ne2 hr.units) sp_ne (ae_cons (ee_call (ks := ([] : List Str)) (src := [0]) (dds := []) F_sign_of hr (by omega) rfl T.gl_sign_of H_kb_sign_of_1 rd_sign_of tk (fe_cons (ee_call (ks := ([] : List Str)) (src := [0, 1]) (dds := []) F_multiplied hr (by omega) rfl T.gl_multiplied H_kb_multiplied_2 rd_multiplied tk (fe_cons (ee_var 3 3 vl__law_two_right vs__law_two_right rfl rfl) (fe_cons (ee_var 4 4 vl__law_two_right vs__law_two_right rfl rfl) fe_nil)) fe_nil) fe_nil) fe_nil) (ae_cons (ee_bin op_mul2 sp_mul (ae_cons (ee_call (ks := ([] : List Str)) (src := [0]) (dds := []) F__law_sign hr (by omega) rfl T.gl__law_sign H_kb__law_sign_1 rd__law_sign tk (fe_cons (ee_var 1 1 vl__law_two_right vs__law_two_right rfl rfl) fe_nil) fe_nil) (ae_cons (ee_call (ks := ([] : List Str)) (src := [0]) (dds := []) F__law_sign hr (by omega) rfl T.gl__law_sign H_kb__law_sign_1 rd__law_sign tk (fe_cons (ee_var 2 2 vl__law_two_right vs__law_two_right rfl rfl) fe_nil) fe_nil) ae_nil))) ae_nil))) (bw_or1 (bb_cmp (op_ne2 hr.units) sp_ne (ae_cons (ee_call (ks := ([] : List Str)) (src := [0]) (dds := []) F_sign_of hr (by omega) rfl T.gl_sign_of H_kb_sign_of_1 rd_sign_of tk (fe_cons (ee_call (ks := (["other", "one"] : List Str)) (src := [1, 0]) (dds := []) F_added hr (by omega) rfl T.gl_added H_kb_added_0_other_one rd_added tk fe_nil (fe_cons (ee_var 4 4 vl__law_two_right vs__law_two_right rfl rfl) (fe_cons (ee_var 3 3 vl__law_two_right vs__law_two_right rfl rfl) fe_nil))) fe_nil) fe_nil) (ae_cons (ee_call (ks := ([] : List Str)) (src := [0]) (dds := []) F__law_sign hr (by omega) rfl T.gl__law_sign H_kb__law_sign_1 rd__law_sign tk (fe_cons (ee_var 7 7 vl__law_two_right vs__law_two_right rfl rfl) fe_nil) fe_nil) ae_nil))))))
      (sss_one (ss_ret ee_bl))
      sss_nil)
      (sss_cons (ss_set (κ' := [.l .f, .f, .f, .f, .f, .f, .f, .f, .f, .f, .f, .f]) 9 sc__law_two_right.nd rfl (.inl rfl) (ee_call (ks := ([] : List Str)) (src := [0]) (dds := []) F__law_sign hr (by omega) rfl T.gl__law_sign H_kb__law_sign_1 rd__law_sign tk (fe_cons (ee_tup (fe_cons (ee_bin op_sub sp_sub (ae_cons (ee_ix ix_seq sp_ix (ae_cons (ee_var 2 2 vl__law_two_right vs__law_two_right rfl rfl) (ae_cons ee_int ae_nil))) (ae_cons (ee_ix ix_seq sp_ix (ae_cons (ee_var 1 1 vl__law_two_right vs__law_two_right rfl rfl) (ae_cons ee_int ae_nil))) ae_nil))) (fe_cons (ee_bin op_sub sp_sub (ae_cons (ee_ix ix_seq sp_ix (ae_cons (ee_var 2 2 vl__law_two_right vs__law_two_right rfl rfl) (ae_cons ee_int ae_nil))) (ae_cons (ee_ix ix_seq sp_ix (ae_cons (ee_var 1 1 vl__law_two_right vs__law_two_right rfl rfl) (ae_cons ee_int ae_nil))) ae_nil))) (fe_cons (ee_var 5 5 vl__law_two_right vs__law_two_right rfl rfl) fe_nil)))) fe_nil) fe_nil))
      (sss_cons (ss_if (κ2 := [.l .f, .f, .f, .f, .f, .f, .f, .f, .f, .f, .f, .f]) (BW.bb (bw_or (bb_cmp (op_ne2 hr.units) sp_ne (ae_cons (ee_lst (fe_cons (ee_call (ks := ([] : List Str)) (src := [0, 1]) (dds := []) F_at_most hr (by omega) rfl T.gl_at_most H_kb_at_most_2 rd_at_most tk (fe_cons (ee_var 3 3 vl__law_two_right vs__law_two_right rfl rfl) (fe_cons (ee_var 4 4 vl__law_two_right vs__law_two_right rfl rfl) fe_nil)) fe_nil) (fe_cons (ee_call (ks := (["other", "one"] : List Str)) (src := [1, 0]) (dds := []) F_at_most hr (by omega) rfl T.gl_at_most H_kb_at_most_0_other_one rd_at_most tk fe_nil (fe_cons (ee_var 3 3 vl__law_two_right vs__law_two_right rfl rfl) (fe_cons (ee_var 4 4 vl__law_two_right vs__law_two_right rfl rfl) fe_nil))) fe_nil))) (ae_cons (ee_lst (fe_cons (ee_cmp op_ge sp_ge (ae_cons (ee_var 9 9 vl__law_two_right vs__law_two_right rfl rfl) (ae_cons ee_int ae_nil))) (fe_cons (ee_cmp op_le sp_le (ae_cons (ee_var 9 9 vl__law_two_right vs__law_two_right rfl rfl) (ae_cons ee_int ae_nil))) fe_nil))) ae_nil))) (bw_or1 (bb_not (bb_val (ee_callB call_isi (sp_isi T.own) rfl T.fr_isinstance bt_isinstance (ae_cons (ee_call (ks := ([] : List Str)) (src := [0, 1]) (dds := []) F_at_most hr (by omega) rfl T.gl_at_most H_kb_at_most_2 rd_at_most tk (fe_cons (ee_var 3 3 vl__law_two_right vs__law_two_right rfl rfl) (fe_cons (ee_var 4 4 vl__law_two_right vs__law_two_right rfl rfl) fe_nil)) fe_nil) (ae_cons (ee_ty rfl T.fr_bool bt_bool) ae_nil))))))))
      (sss_one (ss_ret ee_bl))
      sss_nil)
      (sss_cons (ss_set (κ' := [.l .f, .f, .f, .f, .f, .f, .f, .f, .f, .f, .f, .f]) 10 sc__law_two_right.nd rfl (.inl rfl) (EE.frz (ee_make (ks := ([] : List Str)) (src := [0, 1, 2]) (dds := []) T.mk_Bound F_Bound_init hr (by omega) rfl T.gl_Bound H_kb_Bound_init_4 rd_Bound_init tk (fe_cons (ee_callM (ks := ([] : List Str)) (src := [0]) (dds := []) 0 0 vl__law_two_right vs__law_two_right rfl rfl F__law_signed hr (by omega) rfl T.gl__law_signed H_kb__law_signed_2 rd__law_signed tk (fe_cons (ee_callM (ks := ([] : List Str)) (src := []) (dds := []) 0 0 vl__law_two_right vs__law_two_right rfl rfl F__law_great hr (by omega) rfl T.gl__law_great H_kb__law_great_1 rd__law_great tk fe_nil fe_nil) fe_nil) fe_nil) (fe_cons ee_int (fe_cons (ee_callM (ks := ([] : List Str)) (src := [0]) (dds := []) 0 0 vl__law_two_right vs__law_two_right rfl rfl F__law_draw hr (by omega) rfl T.gl__law_draw H_kb__law_draw_2 rd__law_draw tk (fe_cons ee_int fe_nil) fe_nil) fe_nil))) fe_nil)))
      (sss_cons (ss_if (κ2 := [.l .f, .f, .f, .f, .f, .f, .f, .f, .f, .f, .f, .f]) (bb_cmp (op_ne2 hr.units) sp_ne (ae_cons (ee_call (ks := ([] : List Str)) (src := [0, 1]) (dds := []) F_at_most hr (by omega) rfl T.gl_at_most H_kb_at_most_2 rd_at_most tk (fe_cons (ee_call (ks := ([] : List Str)) (src := [0, 1]) (dds := []) F_added hr (by omega) rfl T.gl_added H_kb_added_2 rd_added tk (fe_cons (ee_var 3 3 vl__law_two_right vs__law_two_right rfl rfl) (fe_cons (ee_var 10 10 vl__law_two_right vs__law_two_right rfl rfl) fe_nil)) fe_nil) (fe_cons (ee_call (ks := ([] : List Str)) (src := [0, 1]) (dds := []) F_added hr (by omega) rfl T.gl_added H_kb_added_2 rd_added tk (fe_cons (ee_var 10 10 vl__law_two_right vs__law_two_right rfl rfl) (fe_cons (ee_var 4 4 vl__law_two_right vs__law_two_right rfl rfl) fe_nil)) fe_nil) fe_nil)) fe_nil) (ae_cons (ee_cmp op_ge sp_ge (ae_cons (ee_var 9 9 vl__law_two_right vs__law_two_right rfl rfl) (ae_cons ee_int ae_nil))) ae_nil)))
      (sss_one (ss_ret ee_bl))
      sss_nil)
      (sss_one (ss_ret (ee_and (ee_call (ks := ([] : List Str)) (src := [0, 1]) (dds := []) F__law_is hr (by omega) rfl T.gl__law_is H_kb__law_is_2 rd__law_is tk (fe_cons (ee_var 3 3 vl__law_two_right vs__law_two_right rfl rfl) (fe_cons (ee_var 1 1 vl__law_two_right vs__law_two_right rfl rfl) fe_nil)) fe_nil) (ee_one (ee_call (ks := ([] : List Str)) (src := [0, 1]) (dds := []) F__law_is hr (by omega) rfl T.gl__law_is H_kb__law_is_2 rd__law_is tk (fe_cons (ee_var 4 4 vl__law_two_right vs__law_two_right rfl rfl) (fe_cons (ee_var 2 2 vl__law_two_right vs__law_two_right rfl rfl) fe_nil)) fe_nil))))))))))))))))
def f__law_made : FDen := fdOf 4 none (sSeq (sTry (sExpr (dMake (callD1 3 0 4 [0, 1, 2] [] f_Bound_init (.obj 6 [])) (aCons (dVar 0) (aCons (dVar 1) (aCons (dVar 2) aNil))) aNil)) [⟨tb_BadNumber, some 3, fun x => sRet (dOp fTup (aCons (dC (.str "number")) (aCons (dErr NT.length [1] 8 x) aNil)))⟩, ⟨tb_SignsError, none, fun x => sRet (dOp fTup (aCons (dC (.str "another")) aNil))⟩]) (sRet (dOp fTup (aCons (dC (.str "none")) aNil))))
theorem ok__law_made {w : World} {K : PySem.W.Frag} {mg : Str → Option Value} {base : Heap} (T : Tx K mg) : ∃ fn, FunD K "_law_made" "_law_made" (defArgs st__law_made) (defBody st__law_made) (defScope st__law_made) ((dg__law_made).dvs K) [] (He.ga K "_law_made") fn ∧ DefOk PG w K mg base NT 11 (He.ga K "_law_made") fn ps__law_made 3 none .f f__law_made := by
  obtain ⟨fn, F0⟩ := T.c.def_ 35 (d := dg__law_made) rfl
  obtain ⟨n_Bound_init, D_Bound_init, F_Bound_init⟩ := ok_Bound_init (w := w) (base := base) T
  obtain ⟨_, H_kb_Bound_init_4⟩ := kb_Bound_init_4 D_Bound_init
  refine ⟨fn, F0, ⟨?_, F0.kp⟩⟩
  exact fn_sim (NT := NT) F0 sc__law_made none .f _ [.f, .f, .f, .f] [.f, .f, .f, .f] (fun cdv A outer s H E pin W hr tk =>
    sss_cons (ss_try (κe := [.f, .f, .f, .f]) (κ' := [.f, .f, .f, .f]) rfl rfl sc__law_made.nd tk (fun W pn xe t1 t2 => sss_one (ss_expr (ee_make (ks := ([] : List Str)) (src := [0, 1, 2]) (dds := []) T.mk_Bound F_Bound_init hr (by omega) rfl T.gl_Bound H_kb_Bound_init_4 rd_Bound_init t1 (fe_cons (ee_var 0 0 vl__law_made vs__law_made rfl rfl) (fe_cons (ee_var 1 1 vl__law_made vs__law_made rfl rfl) (fe_cons (ee_var 2 2 vl__law_made vs__law_made rfl rfl) fe_nil))) fe_nil)))
      (.cons (.named ⟨rfl, by decide, .inl T.gl_BadNumber⟩ rfl rfl rfl (by decide) T.tb_BadNumber (fun a oe cls d pn x hz hf => sss_one (ss_ret (ee_tup (fe_cons ee_str (fe_cons (ee_err (C := _) (cs := [1]) 3 3 vl__law_made vs__law_made rfl rfl hz hf nt_nd (show 8 < NT.length by decide) rfl (one_err [8] (by decide) T.er_BadNumber)) fe_nil))))))
      (.cons (.plain ⟨rfl, by decide, .inl T.gl_SignsError⟩ T.tb_SignsError (fun a oe cls d pn x hz hf => sss_one (ss_ret (ee_tup (fe_cons ee_str fe_nil)))))
      .nil)))
      (sss_one (ss_ret (ee_tup (fe_cons ee_str fe_nil)))))
def f__law_refused : FDen := fdOf 16 (some (.l .f)) (sSeq (sAsg (dVar 1) (gdTup 3 (gdCons (gdName 2) (gdCons (gdName 3) (gdCons (gdName 4) gdNil))))) (sSeq (sSet 5 (dOp fLst (aCons (dC (.bl true)) (aCons (dC .non) (aCons (dC (.str "1")) (aCons (dOp fLst (aCons (dC (.int 1)) aNil)) (aCons (dOp fTup (aCons (dC (.int 1)) aNil)) (aCons (dMake (callD1 3 0 4 [0, 1, 2] [] f_Bound_init (.obj 6 [])) (aCons (dC (.int 1)) (aCons (dC (.int 0)) (aCons (dC (.int 0)) aNil))) aNil) (aCons (dDict1 "a" (.int 1)) aNil))))))))) (sSeq (sPar [6, 7] (aCons (dCallM 0 (callD1 1 0 2 [0] [] f__law_pick) (aCons (dVar 5) aNil) aNil) (aCons (dCallM 0 (callD1 1 0 2 [0] [] f__law_pick) (aCons (dVar 5) aNil) aNil) aNil))) (sSeq (sSet 8 (dOp (fII iSub) (aCons (dOp (fI iNeg) (aCons (dC (.int 1)) aNil)) (aCons (dCallM 0 (callD1 0 0 1 [] [] f__law_great) aNil aNil) aNil)))) (sSeq (sSet 9 (dOp fLst (aCons (dCall (callD 3 0 3 [0, 1, 2] [] f__law_made) (aCons (dVar 6) (aCons (dVar 3) (aCons (dVar 4) aNil))) aNil) (aCons (dCall (callD 3 0 3 [0, 1, 2] [] f__law_made) (aCons (dVar 6) (aCons (dVar 7) (aCons (dVar 8) aNil))) aNil) (aCons (dCall (callD 3 0 3 [0, 1, 2] [] f__law_made) (aCons (dVar 2) (aCons (dVar 6) (aCons (dVar 8) aNil))) aNil) (aCons (dCall (callD 3 0 3 [0, 1, 2] [] f__law_made) (aCons (dVar 2) (aCons (dVar 3) (aCons (dVar 6) aNil))) aNil) aNil)))))) (sSeq (sSet 9 (dOp fCatL (aCons (dVar 9) (aCons (dOp fLst (aCons (dCall (callD 3 0 3 [0, 1, 2] [] f__law_made) (aCons (dVar 2) (aCons (dVar 3) (aCons (dVar 8) aNil))) aNil) (aCons (dCall (callD 3 0 3 [0, 1, 2] [] f__law_made) (aCons (dVar 2) (aCons (dVar 3) (aCons (dC (.bl false)) aNil))) aNil) aNil))) aNil)))) (sSeq (sIf (bVal (dOp (fNe) (aCons (dVar 9) (aCons (dLc (idTup (dOp fTup (aCons (dC (.str "whole")) (aCons (dC (.str "whole")) (aCons (dC (.str "part")) (aCons (dC (.str "under")) (aCons (dC (.str "under")) (aCons (dC (.str "under")) aNil)))))))) (gdName 15) bTrue (dOp fTup (aCons (dC (.str "number")) (aCons (dVar 15) aNil))) [15]) aNil)))) (sRet (dC (.bl false))) sNext) (sSeq (sSet 10 (dMake (callD1 3 0 4 [0, 1, 2] [] f_Bound_init (.obj 6 [])) (aCons (dVar 2) (aCons (dVar 3) (aCons (dVar 4) aNil))) aNil)) (sSeq (sSet 11 (dCallM 0 (callD1 1 0 2 [0] [] f__law_pick) (aCons (dOp fLst (aCons (dVar 1) (aCons (dOp fListOf (aCons (dVar 1) aNil)) (aCons (dC .non) (aCons (dVar 2) (aCons (dOp (fOwnS 6 f_Bound_str) (aCons (dVar 10) aNil)) (aCons (dC (.bl false)) aNil))))))) aNil) aNil)) (sSeq (sFor (idRng1 (aCons (dC (.int 3)) aNil)) (gdName 12) (sSeq (sSet 13 (dOp fLst (aCons (dCall (callD 3 0 3 [0, 1, 2] [] f__law_done) (aCons (dVar 12) (aCons (dVar 11) (aCons (dVar 11) aNil))) aNil) (aCons (dCall (callD 3 0 3 [0, 1, 2] [] f__law_done) (aCons (dVar 12) (aCons (dVar 11) (aCons (dVar 10) aNil))) aNil) (aCons (dCall (callD 3 0 3 [0, 1, 2] [] f__law_done) (aCons (dVar 12) (aCons (dVar 10) (aCons (dVar 11) aNil))) aNil) aNil))))) (sIf (bVal (dOp (fNe) (aCons (dVar 13) (aCons (dOp fLst (aCons (dOp fTup (aCons (dC (.str "badbound")) (aCons (dC (.str "one")) aNil))) (aCons (dOp fTup (aCons (dC (.str "badbound")) (aCons (dC (.str "one")) aNil))) (aCons (dOp fTup (aCons (dC (.str "badbound")) (aCons (dC (.str "other")) aNil))) aNil)))) aNil)))) (sRet (dC (.bl false))) sNext))) (sSeq (sTry (sExpr (dCall (callD 1 0 1 [0] [] f_sign_of) (aCons (dVar 11) aNil) aNil)) [⟨tb_BadBound, some 14, fun x => sRet (dOp (fEq) (aCons (dErr NT.length [2] 8 x) (aCons (dC (.str "bound")) aNil)))⟩, ⟨tb_SignsError, none, fun x => sRet (dC (.bl false))⟩]) (sRet (dC (.bl false))))))))))))))
theorem ok__law_refused {w : World} {K : PySem.W.Frag} {mg : Str → Option Value} {base : Heap} (T : Tx K mg) : ∃ fn, FunD K "_law_refused" "_law_refused" (defArgs st__law_refused) (defBody st__law_refused) (defScope st__law_refused) ((dg__law_refused).dvs K) [] (He.ga K "_law_refused") fn ∧ DefOk PG w K mg base NT 15 (He.ga K "_law_refused") fn ps__law_refused 2 (some (.l .f)) .f f__law_refused := by
  obtain ⟨fn, F0⟩ := T.c.def_ 36 (d := dg__law_refused) rfl
  obtain ⟨n_Bound_init, D_Bound_init, F_Bound_init⟩ := ok_Bound_init (w := w) (base := base) T
  obtain ⟨n_Bound_str, D_Bound_str, F_Bound_str⟩ := ok_Bound_str (w := w) (base := base) T
  have B_Bound_str := D_Bound_str.bindsN (ps := ps_Bound_str) (fun _ _ _ _ _ _ us hl => match us, hl with | [_], _ => rfl)
  obtain ⟨n__law_done, D__law_done, F__law_done⟩ := ok__law_done (w := w) (base := base) T
  obtain ⟨n__law_great, D__law_great, F__law_great⟩ := ok__law_great (w := w) (base := base) T
  obtain ⟨n__law_made, D__law_made, F__law_made⟩ := ok__law_made (w := w) (base := base) T
  obtain ⟨n__law_pick, D__law_pick, F__law_pick⟩ := ok__law_pick (w := w) (base := base) T
  obtain ⟨n_sign_of, D_sign_of, F_sign_of⟩ := ok_sign_of (w := w) (base := base) T
  obtain ⟨_, H_kb_Bound_init_4⟩ := kb_Bound_init_4 D_Bound_init
  obtain ⟨_, H_kb__law_done_3⟩ := kb__law_done_3 D__law_done
  obtain ⟨_, H_kb__law_great_1⟩ := kb__law_great_1 D__law_great
  obtain ⟨_, H_kb__law_made_3⟩ := kb__law_made_3 D__law_made
  obtain ⟨_, H_kb__law_pick_2⟩ := kb__law_pick_2 D__law_pick
  obtain ⟨_, H_kb_sign_of_1⟩ := kb_sign_of_1 D_sign_of
  refine ⟨fn, F0, ⟨?_, F0.kp⟩⟩
  exact fn_sim (NT := NT) F0 sc__law_refused (some (.l .f)) .f _ [.l .f, .f, .f, .f, .f, .f, .f, .f, .f, .f, .f, .f, .f, .f, .f, .f] [.l .f, .f, .f, .f, .f, .f, .f, .f, .f, .f, .f, .f, .f, .f, .f, .f] (fun cdv A outer s H E pin W hr tk =>
    sss_cons (ss_asg (ee_var 1 1 vl__law_refused vs__law_refused rfl rfl) (gg_tup rfl (ggs_cons (gg_name (κ' := [.l .f, .f, .f, .f, .f, .f, .f, .f, .f, .f, .f, .f, .f, .f, .f, .f]) 2 sc__law_refused.nd rfl (.inl rfl) (.inl rfl)) (ggs_cons (gg_name (κ' := [.l .f, .f, .f, .f, .f, .f, .f, .f, .f, .f, .f, .f, .f, .f, .f, .f]) 3 sc__law_refused.nd rfl (.inl rfl) (.inl rfl)) (ggs_cons (gg_name (κ' := [.l .f, .f, .f, .f, .f, .f, .f, .f, .f, .f, .f, .f, .f, .f, .f, .f]) 4 sc__law_refused.nd rfl (.inl rfl) (.inl rfl)) ggs_nil)))))
      (sss_cons (ss_set (κ' := [.l .f, .f, .f, .f, .f, .f, .f, .f, .f, .f, .f, .f, .f, .f, .f, .f]) 5 sc__law_refused.nd rfl (.inl rfl) (EE.frz (ee_lst (fe_cons ee_bl (fe_cons ee_non (fe_cons ee_str (fe_cons (EE.frz (ee_lst (fe_cons ee_int fe_nil))) (fe_cons (ee_tup (fe_cons ee_int fe_nil)) (fe_cons (EE.frz (ee_make (ks := ([] : List Str)) (src := [0, 1, 2]) (dds := []) T.mk_Bound F_Bound_init hr (by omega) rfl T.gl_Bound H_kb_Bound_init_4 rd_Bound_init tk (fe_cons ee_int (fe_cons ee_int (fe_cons ee_int fe_nil))) fe_nil)) (fe_cons (EE.frz (ee_dict1 pe_int (fun _ _ => rfl))) fe_nil))))))))))
      (sss_cons (ss_par (κ' := [.l .f, .f, .f, .f, .f, .f, .f, .f, .f, .f, .f, .f, .f, .f, .f, .f]) 6 7 rfl sc__law_refused.nd rfl rfl  (by decide) rfl rfl (fe_cons (ee_callM (ks := ([] : List Str)) (src := [0]) (dds := []) 0 0 vl__law_refused vs__law_refused rfl rfl F__law_pick hr (by omega) rfl T.gl__law_pick H_kb__law_pick_2 rd__law_pick tk (fe_cons (ee_var 5 5 vl__law_refused vs__law_refused rfl rfl) fe_nil) fe_nil) (fe_cons (ee_callM (ks := ([] : List Str)) (src := [0]) (dds := []) 0 0 vl__law_refused vs__law_refused rfl rfl F__law_pick hr (by omega) rfl T.gl__law_pick H_kb__law_pick_2 rd__law_pick tk (fe_cons (ee_var 5 5 vl__law_refused vs__law_refused rfl rfl) fe_nil) fe_nil) fe_nil)))
      (sss_cons (ss_set (κ' := [.l .f, .f, .f, .f, .f, .f, .f, .f, .f, .f, .f, .f, .f, .f, .f, .f]) 8 sc__law_refused.nd rfl (.inl rfl) (ee_bin op_sub sp_sub (ae_cons (ee_un un_neg sp_neg (ae_cons ee_int ae_nil)) (ae_cons (ee_callM (ks := ([] : List Str)) (src := []) (dds := []) 0 0 vl__law_refused vs__law_refused rfl rfl F__law_great hr (by omega) rfl T.gl__law_great H_kb__law_great_1 rd__law_great tk fe_nil fe_nil) ae_nil))))
      (sss_cons (ss_set (κ' := [.l .f, .f, .f, .f, .f, .f, .f, .f, .f, .f, .f, .f, .f, .f, .f, .f]) 9 sc__law_refused.nd rfl (.inl rfl) (EE.frz (ee_lst (fe_cons (ee_call (ks := ([] : List Str)) (src := [0, 1, 2]) (dds := []) F__law_made hr (by omega) rfl T.gl__law_made H_kb__law_made_3 rd__law_made tk (fe_cons (ee_var 6 6 vl__law_refused vs__law_refused rfl rfl) (fe_cons (ee_var 3 3 vl__law_refused vs__law_refused rfl rfl) (fe_cons (ee_var 4 4 vl__law_refused vs__law_refused rfl rfl) fe_nil))) fe_nil) (fe_cons (ee_call (ks := ([] : List Str)) (src := [0, 1, 2]) (dds := []) F__law_made hr (by omega) rfl T.gl__law_made H_kb__law_made_3 rd__law_made tk (fe_cons (ee_var 6 6 vl__law_refused vs__law_refused rfl rfl) (fe_cons (ee_var 7 7 vl__law_refused vs__law_refused rfl rfl) (fe_cons (ee_var 8 8 vl__law_refused vs__law_refused rfl rfl) fe_nil))) fe_nil) (fe_cons (ee_call (ks := ([] : List Str)) (src := [0, 1, 2]) (dds := []) F__law_made hr (by omega) rfl T.gl__law_made H_kb__law_made_3 rd__law_made tk (fe_cons (ee_var 2 2 vl__law_refused vs__law_refused rfl rfl) (fe_cons (ee_var 6 6 vl__law_refused vs__law_refused rfl rfl) (fe_cons (ee_var 8 8 vl__law_refused vs__law_refused rfl rfl) fe_nil))) fe_nil) (fe_cons (ee_call (ks := ([] : List Str)) (src := [0, 1, 2]) (dds := []) F__law_made hr (by omega) rfl T.gl__law_made H_kb__law_made_3 rd__law_made tk (fe_cons (ee_var 2 2 vl__law_refused vs__law_refused rfl rfl) (fe_cons (ee_var 3 3 vl__law_refused vs__law_refused rfl rfl) (fe_cons (ee_var 6 6 vl__law_refused vs__law_refused rfl rfl) fe_nil))) fe_nil) fe_nil)))))))
      (sss_cons (ss_set (κ' := [.l .f, .f, .f, .f, .f, .f, .f, .f, .f, .f, .f, .f, .f, .f, .f, .f]) 9 sc__law_refused.nd rfl (.inl rfl) (EE.frz (ee_bin op_cat sp_catL (ae_cons (ee_var 9 9 vl__law_refused vs__law_refused rfl rfl) (ae_cons (ee_lst (fe_cons (ee_call (ks := ([] : List Str)) (src := [0, 1, 2]) (dds := []) F__law_made hr (by omega) rfl T.gl__law_made H_kb__law_made_3 rd__law_made tk (fe_cons (ee_var 2 2 vl__law_refused vs__law_refused rfl rfl) (fe_cons (ee_var 3 3 vl__law_refused vs__law_refused rfl rfl) (fe_cons (ee_var 8 8 vl__law_refused vs__law_refused rfl rfl) fe_nil))) fe_nil) (fe_cons (ee_call (ks := ([] : List Str)) (src := [0, 1, 2]) (dds := []) F__law_made hr (by omega) rfl T.gl__law_made H_kb__law_made_3 rd__law_made tk (fe_cons (ee_var 2 2 vl__law_refused vs__law_refused rfl rfl) (fe_cons (ee_var 3 3 vl__law_refused vs__law_refused rfl rfl) (fe_cons ee_bl fe_nil))) fe_nil) fe_nil))) ae_nil)))))
      (sss_cons (ss_if (κ2 := [.l .f, .f, .f, .f, .f, .f, .f, .f, .f, .f, .f, .f, .f, .f, .f, .f]) (bb_cmp (op_ne2 hr.units) sp_ne (ae_cons (ee_var 9 9 vl__law_refused vs__law_refused rfl rfl) (ae_cons (ee_lc (κL := [.l .f, .f, .f, .f, .f, .f, .f, .f, .f, .f, .f, .f, .f, .f, .f, .f]) [("word", 15)] rfl sc__law_refused.nd (ii_tup (ee_tup (fe_cons ee_str (fe_cons ee_str (fe_cons ee_str (fe_cons ee_str (fe_cons ee_str (fe_cons ee_str fe_nil)))))))) (fun q => gw_name (κ' := [.l .f, .f, .f, .f, .f, .f, .f, .f, .f, .f, .f, .f, .f, .f, .f, .f]) 15 (by decide) sc__law_refused.nd rfl (.inl rfl) (.inr rfl)) (fun q => ee_tup (fe_cons ee_str (fe_cons (ee_var 15 0 vl__law_refused_b0 (visOk_of (vis := vl__law_refused_b0) rfl) rfl rfl) fe_nil)))) ae_nil)))
      (sss_one (ss_ret ee_bl))
      sss_nil)
      (sss_cons (ss_set (κ' := [.l .f, .f, .f, .f, .f, .f, .f, .f, .f, .f, .f, .f, .f, .f, .f, .f]) 10 sc__law_refused.nd rfl (.inl rfl) (EE.frz (ee_make (ks := ([] : List Str)) (src := [0, 1, 2]) (dds := []) T.mk_Bound F_Bound_init hr (by omega) rfl T.gl_Bound H_kb_Bound_init_4 rd_Bound_init tk (fe_cons (ee_var 2 2 vl__law_refused vs__law_refused rfl rfl) (fe_cons (ee_var 3 3 vl__law_refused vs__law_refused rfl rfl) (fe_cons (ee_var 4 4 vl__law_refused vs__law_refused rfl rfl) fe_nil))) fe_nil)))
      (sss_cons (ss_set (κ' := [.l .f, .f, .f, .f, .f, .f, .f, .f, .f, .f, .f, .f, .f, .f, .f, .f]) 11 sc__law_refused.nd rfl (.inl rfl) (ee_callM (ks := ([] : List Str)) (src := [0]) (dds := []) 0 0 vl__law_refused vs__law_refused rfl rfl F__law_pick hr (by omega) rfl T.gl__law_pick H_kb__law_pick_2 rd__law_pick tk (fe_cons (EE.frz (ee_lst (fe_cons (ee_var 1 1 vl__law_refused vs__law_refused rfl rfl) (fe_cons (EE.frz (ee_callTy call_list_of sp_listOf rfl T.fr_list bt_list (ae_cons (ee_var 1 1 vl__law_refused vs__law_refused rfl rfl) ae_nil))) (fe_cons ee_non (fe_cons (ee_var 2 2 vl__law_refused vs__law_refused rfl rfl) (fe_cons (ee_callTyF (call_strOwn (F_Bound_str).F (hr.mono (by omega)) B_Bound_str rfl (T.me_Bound_str).at_ (T.me_Bound_str).fn) sp_ownS rfl T.fr_str bt_str (fe_cons (ee_var 10 10 vl__law_refused vs__law_refused rfl rfl) fe_nil)) (fe_cons ee_bl fe_nil)))))))) fe_nil) fe_nil))
      (sss_cons (ss_for (κL := [.l .f, .f, .f, .f, .f, .f, .f, .f, .f, .f, .f, .f, .f, .f, .f, .f]) (passes_of rfl) rfl (ii_range1 rfl T.fr_range (ae_cons ee_int ae_nil)) (gg_name (κ' := [.l .f, .f, .f, .f, .f, .f, .f, .f, .f, .f, .f, .f, .f, .f, .f, .f]) 12 sc__law_refused.nd rfl (.inl rfl) (.inl rfl)) (sss_cons (ss_set (κ' := [.l .f, .f, .f, .f, .f, .f, .f, .f, .f, .f, .f, .f, .f, .f, .f, .f]) 13 sc__law_refused.nd rfl (.inl rfl) (EE.frz (ee_lst (fe_cons (ee_call (ks := ([] : List Str)) (src := [0, 1, 2]) (dds := []) F__law_done hr (by omega) rfl T.gl__law_done H_kb__law_done_3 rd__law_done tk (fe_cons (ee_var 12 12 vl__law_refused vs__law_refused rfl rfl) (fe_cons (ee_var 11 11 vl__law_refused vs__law_refused rfl rfl) (fe_cons (ee_var 11 11 vl__law_refused vs__law_refused rfl rfl) fe_nil))) fe_nil) (fe_cons (ee_call (ks := ([] : List Str)) (src := [0, 1, 2]) (dds := []) F__law_done hr (by omega) rfl T.gl__law_done H_kb__law_done_3 rd__law_done tk (fe_cons (ee_var 12 12 vl__law_refused vs__law_refused rfl rfl) (fe_cons (ee_var 11 11 vl__law_refused vs__law_refused rfl rfl) (fe_cons (ee_var 10 10 vl__law_refused vs__law_refused rfl rfl) fe_nil))) fe_nil) (fe_cons (ee_call (ks := ([] : List Str)) (src := [0, 1, 2]) (dds := []) F__law_done hr (by omega) rfl T.gl__law_done H_kb__law_done_3 rd__law_done tk (fe_cons (ee_var 12 12 vl__law_refused vs__law_refused rfl rfl) (fe_cons (ee_var 10 10 vl__law_refused vs__law_refused rfl rfl) (fe_cons (ee_var 11 11 vl__law_refused vs__law_refused rfl rfl) fe_nil))) fe_nil) fe_nil))))))
      (sss_one (ss_if (κ2 := [.l .f, .f, .f, .f, .f, .f, .f, .f, .f, .f, .f, .f, .f, .f, .f, .f]) (bb_cmp (op_ne2 hr.units) sp_ne (ae_cons (ee_var 13 13 vl__law_refused vs__law_refused rfl rfl) (ae_cons (ee_lst (fe_cons (ee_tup (fe_cons ee_str (fe_cons ee_str fe_nil))) (fe_cons (ee_tup (fe_cons ee_str (fe_cons ee_str fe_nil))) (fe_cons (ee_tup (fe_cons ee_str (fe_cons ee_str fe_nil))) fe_nil)))) ae_nil)))
      (sss_one (ss_ret ee_bl))
      sss_nil))))
      (sss_cons (ss_try (κe := [.l .f, .f, .f, .f, .f, .f, .f, .f, .f, .f, .f, .f, .f, .f, .f, .f]) (κ' := [.l .f, .f, .f, .f, .f, .f, .f, .f, .f, .f, .f, .f, .f, .f, .f, .f]) rfl rfl sc__law_refused.nd tk (fun W pn xe t1 t2 => sss_one (ss_expr (ee_call (ks := ([] : List Str)) (src := [0]) (dds := []) F_sign_of hr (by omega) rfl T.gl_sign_of H_kb_sign_of_1 rd_sign_of t1 (fe_cons (ee_var 11 11 vl__law_refused vs__law_refused rfl rfl) fe_nil) fe_nil)))
      (.cons (.named ⟨rfl, by decide, .inl T.gl_BadBound⟩ rfl rfl rfl (by decide) T.tb_BadBound (fun a oe cls d pn x hz hf => sss_one (ss_ret (ee_cmp (op_eq2 hr.units) sp_eq (ae_cons (ee_err (C := _) (cs := [2]) 14 14 vl__law_refused vs__law_refused rfl rfl hz hf nt_nd (show 8 < NT.length by decide) rfl (one_err [8] (by decide) T.er_BadBound)) (ae_cons ee_str ae_nil))))))
      (.cons (.plain ⟨rfl, by decide, .inl T.gl_SignsError⟩ T.tb_SignsError (fun a oe cls d pn x hz hf => sss_one (ss_ret ee_bl)))
      .nil)))
      (sss_one (ss_ret ee_bl)))))))))))))
def f_law : FDen := fdOf 5 none (sSeq (sSet 1 (dCall (callD 1 0 1 [0] [] f__law_bag) (aCons (dVar 0) aNil) aNil)) (sSeq (sFor (idRng1 (aCons (dC (.int 6)) aNil)) (gdName 2) (sSeq (sSet 3 (dCallM 1 (callD1 0 0 1 [] [] f__law_told) aNil aNil)) (sSeq (sSet 4 (dCallM 1 (callD1 1 0 2 [0] [] f__law_other) (aCons (dVar 3) aNil) aNil)) (sIf (bOr (bNot (bVal (dCallM 1 (callD1 1 0 2 [0] [] f__law_one_right) (aCons (dVar 3) aNil) aNil))) (bOr (bNot (bVal (dCallM 1 (callD1 2 0 3 [0, 1] [] f__law_two_right) (aCons (dVar 3) (aCons (dVar 4) aNil)) aNil))) (bNot (bVal (dCallM 1 (callD1 2 0 3 [0, 1] [] f__law_two_right) (aCons (dVar 4) (aCons (dVar 3) aNil)) aNil))))) (sRet (dC (.bl false))) sNext)))) (sRet (dCallM 1 (callD1 1 0 2 [0] [] f__law_refused) (aCons (dCallM 1 (callD1 0 0 1 [] [] f__law_told) aNil aNil) aNil) aNil))))
theorem ok_law {w : World} {K : PySem.W.Frag} {mg : Str → Option Value} {base : Heap} (T : Tx K mg) : ∃ fn, FunD K "law" "law" (defArgs st_law) (defBody st_law) (defScope st_law) ((dg_law).dvs K) [] (He.ga K "law") fn ∧ DefOk PG w K mg base NT 17 (He.ga K "law") fn ps_law 1 none .f f_law := by
  obtain ⟨fn, F0⟩ := T.c.def_ 37 (d := dg_law) rfl
  obtain ⟨n__law_bag, D__law_bag, F__law_bag⟩ := ok__law_bag (w := w) (base := base) T
  obtain ⟨n__law_one_right, D__law_one_right, F__law_one_right⟩ := ok__law_one_right (w := w) (base := base) T
  obtain ⟨n__law_other, D__law_other, F__law_other⟩ := ok__law_other (w := w) (base := base) T
  obtain ⟨n__law_refused, D__law_refused, F__law_refused⟩ := ok__law_refused (w := w) (base := base) T
  obtain ⟨n__law_told, D__law_told, F__law_told⟩ := ok__law_told (w := w) (base := base) T
  obtain ⟨n__law_two_right, D__law_two_right, F__law_two_right⟩ := ok__law_two_right (w := w) (base := base) T
  obtain ⟨_, H_kb__law_bag_1⟩ := kb__law_bag_1 D__law_bag
  obtain ⟨_, H_kb__law_one_right_2⟩ := kb__law_one_right_2 D__law_one_right
  obtain ⟨_, H_kb__law_other_2⟩ := kb__law_other_2 D__law_other
  obtain ⟨_, H_kb__law_refused_2⟩ := kb__law_refused_2 D__law_refused
  obtain ⟨_, H_kb__law_told_1⟩ := kb__law_told_1 D__law_told
  obtain ⟨_, H_kb__law_two_right_3⟩ := kb__law_two_right_3 D__law_two_right
  refine ⟨fn, F0, ⟨?_, F0.kp⟩⟩
  exact fn_sim (NT := NT) F0 sc_law none .f _ [.f, .f, .f, .f, .f] [.f, .f, .f, .f, .f] (fun cdv A outer s H E pin W hr tk =>
    sss_cons (ss_set (κ' := [.f, .l .f, .f, .f, .f]) 1 sc_law.nd rfl (.inl rfl) (ee_call (ks := ([] : List Str)) (src := [0]) (dds := []) F__law_bag hr (by omega) rfl T.gl__law_bag H_kb__law_bag_1 rd__law_bag tk (fe_cons (ee_var 0 0 vl_law vs_law rfl rfl) fe_nil) fe_nil))
      (sss_cons (ss_for (κL := [.f, .l .f, .f, .f, .f]) (passes_of rfl) rfl (ii_range1 rfl T.fr_range (ae_cons ee_int ae_nil)) (gg_name (κ' := [.f, .l .f, .f, .f, .f]) 2 sc_law.nd rfl (.inl rfl) (.inl rfl)) (sss_cons (ss_set (κ' := [.f, .l .f, .f, .f, .f]) 3 sc_law.nd rfl (.inl rfl) (ee_callM (ks := ([] : List Str)) (src := []) (dds := []) 1 1 vl_law vs_law rfl rfl F__law_told hr (by omega) rfl T.gl__law_told H_kb__law_told_1 rd__law_told tk fe_nil fe_nil))
      (sss_cons (ss_set (κ' := [.f, .l .f, .f, .f, .f]) 4 sc_law.nd rfl (.inl rfl) (ee_callM (ks := ([] : List Str)) (src := [0]) (dds := []) 1 1 vl_law vs_law rfl rfl F__law_other hr (by omega) rfl T.gl__law_other H_kb__law_other_2 rd__law_other tk (fe_cons (ee_var 3 3 vl_law vs_law rfl rfl) fe_nil) fe_nil))
      (sss_one (ss_if (κ2 := [.f, .l .f, .f, .f, .f]) (BW.bb (bw_or (bb_not (bb_val (ee_callM (ks := ([] : List Str)) (src := [0]) (dds := []) 1 1 vl_law vs_law rfl rfl F__law_one_right hr (by omega) rfl T.gl__law_one_right H_kb__law_one_right_2 rd__law_one_right tk (fe_cons (ee_var 3 3 vl_law vs_law rfl rfl) fe_nil) fe_nil))) (bw_or (bb_not (bb_val (ee_callM (ks := ([] : List Str)) (src := [0, 1]) (dds := []) 1 1 vl_law vs_law rfl rfl F__law_two_right hr (by omega) rfl T.gl__law_two_right H_kb__law_two_right_3 rd__law_two_right tk (fe_cons (ee_var 3 3 vl_law vs_law rfl rfl) (fe_cons (ee_var 4 4 vl_law vs_law rfl rfl) fe_nil)) fe_nil))) (bw_or1 (bb_not (bb_val (ee_callM (ks := ([] : List Str)) (src := [0, 1]) (dds := []) 1 1 vl_law vs_law rfl rfl F__law_two_right hr (by omega) rfl T.gl__law_two_right H_kb__law_two_right_3 rd__law_two_right tk (fe_cons (ee_var 4 4 vl_law vs_law rfl rfl) (fe_cons (ee_var 3 3 vl_law vs_law rfl rfl) fe_nil)) fe_nil)))))))
      (sss_one (ss_ret ee_bl))
      sss_nil)))))
      (sss_one (ss_ret (ee_callM (ks := ([] : List Str)) (src := [0]) (dds := []) 1 1 vl_law vs_law rfl rfl F__law_refused hr (by omega) rfl T.gl__law_refused H_kb__law_refused_2 rd__law_refused tk (fe_cons (ee_callM (ks := ([] : List Str)) (src := []) (dds := []) 1 1 vl_law vs_law rfl rfl F__law_told hr (by omega) rfl T.gl__law_told H_kb__law_told_1 rd__law_told tk fe_nil fe_nil) fe_nil) fe_nil)))))
end K03
set_option maxRecDepth 100000
set_option maxHeartbeats 0
namespace K03
open PySem PySem.Spec PyProof.Rows L2
abbrev R : PySem.W.OpenRow := PySem.W.OpenLaw.row PySem.Challenge.rw_goodsigns_k03_bounds_by_own_squares
abbrev hk : PySem.W.Hook := Pt.hookE 6 PG NT fa fb fn
def ob (s : PySem.W.SharedT) : Pt.AlE := Pt.obsEG 6 PG NT fa fb fn (HandSHeadRun.getT s)
theorem ob_eq (s : PySem.W.SharedT) : ob s = hk.obs s.abs := Pt.obsEG_eq (HandSHeadRun.getT_eq s)
def loose : List PySem.Str := (["_wall", "__name__", "SignsError", "BadNumber", "BadBound", "Misfit", "BadText", "DIGITS", "is_integer", "is_within", "need_number", "MOST_DIGITS"] : List PySem.Str) ++ (["is_written", "Scan", "Bound", "need_bound", "sign_by", "common_under", "sign_of", "added", "multiplied", "at_most", "_law_bag", "_law_draw"] : List PySem.Str) ++ (["_law_pick", "_law_great", "_law_signed", "_law_root", "_law_sign", "_law_told", "_law_is", "_law_one_right", "_law_other", "_law_common", "_law_done", "_law_two_right"] : List PySem.Str) ++ (["_law_made", "_law_refused"] : List PySem.Str)
theorem run (w : World) : HandSHeadRun.RunEq R (PySem.W.view R.prog [42]) hk ob 4000 loose w := by
  intro os
  kernel_rfl
end K03
set_option maxRecDepth 100000
set_option maxHeartbeats 0
namespace K03
open PySem PySem.Spec L2 Pt
theorem at_law (hm : ∀ ns : List Int, ns.length ≤ 63 → ∃ o, f_law [.scr ns] = .ret (.bl true) o) (w : World) (K : PySem.W.Frag) (mg : Str → Option Value) (fA : Addr) (h : Heap) (KX : K.In h) (c : SaysE PG NT fa fb fn K) (G : h.Ns mainGlobals mg) (e : mg ("law" : Str) = some (.ref fA)) :
    LamX.LawAtS PySem.Challenge.rw_goodsigns_k03_bounds_by_own_squares w K (L2.CX PG w) 17 63 "script" mg fA h := by
  have T : Tx K mg := ⟨⟨h, KX, G⟩, c⟩
  have e2 := e.symm.trans T.gl_law
  cases e2
  obtain ⟨fd, F, D⟩ := ok_law (w := w) (base := h) T
  have b := FunD.bindsA (ps := ps_law) F fun _ _ _ _ _ _ us hl => match us, hl with | [_], _ => rfl
  refine ⟨fd, [], spOf K NT 1 none .f f_law, nofun, nofun, nofun, fun s u => b s [u] rfl, fun H a ns hl _ _ hS => sp_law hS (hm ns hl), fun base KB GB _ => ?_⟩
  obtain ⟨fd2, F2, D2⟩ := ok_law (w := w) (base := base) T
  have q : fd2 = fd := by
    obtain ⟨_, _, _, _, _, _, _, _, _, _, _, q1, _⟩ := F.ex
    obtain ⟨_, _, _, _, _, _, _, _, _, _, _, q2, _⟩ := F2.ex
    have q := q2.symm.trans q1
    simp only [Option.some.injEq, Obj.mk.injEq, Data.func.injEq] at q
    exact q.2.2.1
  exact q ▸ D2.F
end K03
open PySem PySem.W PySem.Calls PyProof.Rows
theorem K03.holds_of (hm : ∀ ns : List Int, ns.length ≤ 63 → ∃ o, K03.f_law [.scr ns] = .ret (.bl true) o) : PySem.Challenge.rw_goodsigns_k03_bounds_by_own_squares.Holds := by
  w_on; o_law
  refine HandSHeadRun.head_any (r := OpenLaw.row PySem.Challenge.rw_goodsigns_k03_bounds_by_own_squares) (q := view (OpenLaw.row PySem.Challenge.rw_goodsigns_k03_bounds_by_own_squares).prog [42]) (H := K03.hk) (ob := K03.ob) (M := 4000) (loose := K03.loose) (d := HandSHeadRun.topDef (OpenLaw.row PySem.Challenge.rw_goodsigns_k03_bounds_by_own_squares).prog 42) (kwd := []) K03.ob_eq
    (by kernel_rfl) (fun s => by kernel_rfl) K03.run (by kernel_rfl) (by kernel_rfl) (by kernel_rfl) (by rfl) (by first | assumption | decide +kernel) (by decide +kernel) ⟨rfl, rfl, rfl, rfl, rfl, by decide +kernel⟩ ?hw ?hc
  case hw => w_witness2
  case hc =>
    refine LamX.walk_ofTsE (l := PySem.Challenge.rw_goodsigns_k03_bounds_by_own_squares) (n := 63) (k := 17) (x := "script") (CX := fun w => L2.CX K03.PG w) rfl (by decide) (by kernel_rfl) ⟨rfl, by decide, by decide⟩ ?F (fun w H s e s' h => Pt.noCX w H s e s' h)
    intro w mg fA h Y G hmg0
    obtain ⟨K, KX, c⟩ := Y
    have hmg : mg ("law" : PySem.Str) = some (.ref fA) := by
      have e : (HandSHeadRun.topDef (OpenLaw.row PySem.Challenge.rw_goodsigns_k03_bounds_by_own_squares).prog 42).name = ("law" : PySem.Str) := by kernel_rfl
      rw [← e]
      exact hmg0
    exact ⟨K, KX, K03.at_law hm w K mg fA h KX c G hmg⟩
set_option maxRecDepth 100000
set_option maxHeartbeats 1000000
namespace K03
open PySem PySem.Spec L2 Pt
theorem x_is_integer (i : Int) : f_is_integer [.int i] = .ret (.bl true) .non := by
  rfl
theorem x_is_integer_bl (b : Bool) : f_is_integer [.bl b] = .ret (.bl false) .non := by
  cases b <;> rfl
theorem x_is_within0 (i : Int) : f_is_within [.int i, .non, .non] = .ret (.bl true) .non := by
  rfl
theorem x_is_within1 (i : Int) : f_is_within [.int i, .int 0, .non] = .ret (.bl (decide (0 ≤ i))) .non := by
  show f_is_within [.int i, .int 0, .non] = _
  by_cases h : 0 ≤ i
  · simp [f_is_within, x_is_integer, h]
  · simp [f_is_within, x_is_integer, h]
theorem x_need_number0 (i : Int) (s : Str) : f_need_number [.int i, .str s, .non, .non] = .ret .non .non := by
  simp [f_need_number, x_is_within0]
theorem x_need_number1 (i : Int) (s : Str) (h : 0 ≤ i) : f_need_number [.int i, .str s, .int 0, .non] = .ret .non .non := by
  simp [f_need_number, x_is_within1, h]
@[simp] theorem NTlen : NT.length = 19 := rfl
abbrev bd (a b c : Int) : D := .obj 6 [(7, .int a), (8, .int b), (9, .int c)]
theorem x_Bound_init (a b c : Int) (h : 0 ≤ c) : f_Bound_init [.obj 6 [], .int a, .int b, .int c] = .ret .non (bd a b c) := by
  simp [f_Bound_init, x_need_number0, x_need_number1, h]
theorem x_need_bound (a b c : Int) (s : Str) : f_need_bound [bd a b c, .str s] = .ret .non .non := by
  rfl
theorem x_sign_by (w p c : Int) (h1 : mulOk p p = true) (h2 : mulOk (p * p) c = true) (h3 : mulOk w w = true) : f_sign_by [.int w, .int p, .int c] = .ret (.int (sg w p c)) .non := by
  unfold sg
  by_cases b1 : 0 ≤ w <;> by_cases b2 : 0 ≤ p <;> by_cases b3 : w ≤ 0 <;> by_cases b4 : p ≤ 0 <;> by_cases b5 : w * w = p * p * c <;> by_cases b6 : p * p * c < w * w <;> by_cases b7 : 0 < w <;> by_cases b8 : 0 < w + p * p * c <;> by_cases b9 : w < p * p * c <;> first | (exfalso; omega) | simp [f_sign_by, h1, h2, h3, b1, b2, b3, b4, b5, b6, b7, b8, b9]
theorem divOk_of {j : Int} (h : 0 < j) (h2 : j < 2 ^ 8000) : divOk j = true := by
  unfold divOk
  exact decide_eq_true ⟨h, h2⟩
theorem nat_lt {a : Int} {b : Nat} (h : 0 ≤ a) (h2 : a < (b : Int)) : a.natAbs < b := by omega
abbrev rBd : BDen := bVal (dOp (fII iGt) (aCons (dOp (fII iMul) (aCons (dVar 1) (aCons (dVar 1) aNil))) (aCons (dVar 0) aNil)))
abbrev rSd : SDen := sSet 1 (dOp (fII iDiv) (aCons (dOp (fII iAdd) (aCons (dVar 1) (aCons (dOp (fII iDiv) (aCons (dVar 0) (aCons (dVar 1) aNil))) aNil))) (aCons (dC (.int 2)) aNil)))
theorem x_loop (n s : Int) (hs : 0 ≤ s) (h1 : s * s ≤ n) (h2 : n < (s + 1) * (s + 1)) : ∀ (k m : Nat) (x : Int), s ≤ x → x - s < 2 ^ k → k < m → (x < 2 ^ 7000) → whileD rBd rSd m [some (.int n), some (.int x)] = .nx [some (.int n), some (.int s)]
  | k, 0, x, _, _, hm, _ => absurd hm (by omega)
  | k, m + 1, x, hx, hk, hm, hb => by
    have x0 : 0 ≤ x := by omega
    have p7 : (2 : Int) ^ 7000 ≤ 2 ^ 8000 := by decide +kernel
    have p4 : (2 : Nat) ^ 7000 ≤ 2 ^ 400000 := Nat.pow_le_pow_right (by omega) (by omega)
    have mo : mulOk x x = true := mulOk_of (Nat.lt_of_lt_of_le (nat_lt x0 (by exact_mod_cast hb)) p4) (Nat.lt_of_lt_of_le (nat_lt x0 (by exact_mod_cast hb)) p4)
    by_cases c : n < x * x
    · have hx1 : s + 1 ≤ x := by
        by_cases e : x = s
        · subst e
          omega
        · omega
      have dk : divOk x = true := divOk_of (by omega) (Int.lt_of_lt_of_le hb p7)
      obtain ⟨a1, a2⟩ := newton hs h1 h2 hx1
      have d2 : divOk 2 = true := by decide +kernel
      cases k with
      | zero => 
        simp at hk
        omega
      | succ k =>
        have e : (2 : Int) ^ (k + 1) = 2 * 2 ^ k := by rw [Int.pow_succ]; omega
        have r := x_loop n s hs h1 h2 k m ((x + n / x) / 2) a1 (by omega) (by omega) (by omega)
        rw [← r]
        conv => lhs; unfold whileD
        simp [mo, c, dk, d2]
    · have e : x = s := by
        have : ¬ s + 1 ≤ x := fun z => by
          have := sq_le_sq (by omega) z
          omega
        omega
      subst e
      unfold whileD
      simp [mo, c]
theorem x_root (n : Int) (h0 : 0 ≤ n) (hn : n < 2 ^ 6000) : ∃ s : Int, 0 ≤ s ∧ s * s ≤ n ∧ n < (s + 1) * (s + 1) ∧ f__law_root [.int n] = .ret (.int s) .non := by
  by_cases c : n < 2
  · refine ⟨n, h0, ?_, ?_, ?_⟩
    · have : n = 0 ∨ n = 1 := by omega
      rcases this with rfl | rfl <;> decide
    · have : n = 0 ∨ n = 1 := by omega
      rcases this with rfl | rfl <;> decide
    · simp [f__law_root, c]
  · obtain ⟨s, hs, h1, h2⟩ := root_ex' n h0
    refine ⟨s, hs, h1, h2, ?_⟩
    have hb := intBits_le_iff.mp (Nat.le_refl (Builtin.Int.intBits n))
    have hb2 : Builtin.Int.intBits n ≤ 6000 := intBits_le_iff.mpr (nat_lt h0 (by exact_mod_cast hn))
    generalize eb : Builtin.Int.intBits n = b at hb hb2
    have en : ((b : Int) / 2).toNat = b / 2 := by omega
    have q1 : (2 : Int) ^ (b / 2) ≤ 2 ^ 3000 := by
      have : (2 : Nat) ^ (b / 2) ≤ 2 ^ 3000 := Nat.pow_le_pow_right (by omega) (by omega)
      exact_mod_cast this
    have q2 : (2 : Int) ^ b ≤ 2 * (2 ^ (b / 2) * 2 ^ (b / 2)) := by
      have : (2 : Nat) ^ b ≤ 2 ^ (b / 2 + b / 2 + 1) := Nat.pow_le_pow_right (by omega) (by omega)
      rw [Nat.pow_succ, Nat.pow_add] at this
      have z : (2 : Nat) ^ b ≤ 2 * (2 ^ (b / 2) * 2 ^ (b / 2)) := by omega
      exact_mod_cast z
    have q3 : n < 2 ^ b := by
      have : (n.natAbs : Int) < ((2 ^ b : Nat) : Int) := by exact_mod_cast hb
      have z : ((2 ^ b : Nat) : Int) = (2 : Int) ^ b := by push_cast; rfl
      omega
    have q0 : (0 : Int) < 2 ^ (b / 2) := Int.pow_pos (by decide)
    generalize ep : (2 : Int) ^ (b / 2) = P at q1 q2 q0
    have hx : s ≤ 2 * P := by
      by_cases z : s ≤ 2 * P
      · exact z
      · have := sq_le_sq (a := 2 * P) (b := s) (by omega) (by omega)
        have e : 2 * P * (2 * P) = 4 * (P * P) := by grind
        have pp : 0 < P * P := Int.mul_pos q0 q0
        omega
    have k3 : (2 : Int) * 2 ^ 3000 < 2 ^ 3002 := by decide +kernel
    have k7 : (2 : Int) * 2 ^ 3000 < 2 ^ 7000 := by decide +kernel
    have L := x_loop n s hs h1 h2 3002 FUEL (2 * P) hx (by omega) (by decide) (by omega)
    have pk : powOk 2 ((b : Int) / 2) = true := by
      unfold powOk
      refine decide_eq_true ⟨by omega, by omega, by decide⟩
    have d2 : divOk 2 = true := by decide +kernel
    simp [f__law_root, c, fBits, eb, pk, d2, en, ep, L]
end K03
set_option maxRecDepth 100000
set_option maxHeartbeats 1000000
namespace K03
open PySem PySem.Spec L2 Pt
/-- a number of a size that we meet -/
def Sm (x : Int) : Prop := x.natAbs < 2 ^ 1000
theorem sm_mul {i j : Int} (hi : Sm i) (hj : Sm j) : mulOk i j = true :=
  mulOk_of (Nat.lt_of_lt_of_le hi (Nat.pow_le_pow_right (by omega) (by omega))) (Nat.lt_of_lt_of_le hj (Nat.pow_le_pow_right (by omega) (by omega)))
theorem sm_mul2 {i j k : Int} (hi : Sm i) (hj : Sm j) (hk : Sm k) : mulOk (i * j) k = true := by
  refine mulOk_of ?_ (Nat.lt_of_lt_of_le hk (Nat.pow_le_pow_right (by omega) (by omega)))
  rw [Int.natAbs_mul]
  refine Nat.lt_of_lt_of_le (Nat.mul_lt_mul_of_lt_of_lt hi hj) ?_
  rw [← Nat.pow_add]
  exact Nat.pow_le_pow_right (by omega) (by omega)
theorem sm_neg {i : Int} (h : Sm i) : Sm (-i) := by
  unfold Sm
  rw [Int.natAbs_neg]
  exact h
theorem sm_prod {p c : Int} (hp : Sm p) (hc : Sm c) : p * p * c < 2 ^ 6000 := by
  have h : (p * p * c).natAbs < 2 ^ 6000 := by
    rw [Int.natAbs_mul, Int.natAbs_mul]
    refine Nat.lt_of_lt_of_le (Nat.mul_lt_mul_of_lt_of_lt (Nat.mul_lt_mul_of_lt_of_lt hp hp) hc) ?_
    rw [← Nat.pow_add, ← Nat.pow_add]
    exact Nat.pow_le_pow_right (by omega) (by omega)
  have z : ((p * p * c).natAbs : Int) < ((2 ^ 6000 : Nat) : Int) := by exact_mod_cast h
  have e : ((2 ^ 6000 : Nat) : Int) = (2 : Int) ^ 6000 := by push_cast; rfl
  omega
theorem x_sign0 (k : Nat) (w p c : Int) (hp : Sm p) (hc : Sm c) (c0 : 0 ≤ c) (p0 : 0 ≤ p) : g__law_sign (k + 1) [.tup [.int w, .int p, .int c]] = .ret (.int (sg w p c)) .non := by
  have S0 : 0 ≤ p * p * c := Int.mul_nonneg (sq_nn p) c0
  obtain ⟨r, r0, r1, r2, R⟩ := x_root (p * p * c) S0 (sm_prod hp hc)
  rw [sg_root w p c r p0 c0 r0 r1 r2]
  have q : ¬ p < 0 := by omega
  have m1 := sm_mul hp hp
  have m2 := sm_mul2 hp hp hc
  have m3 : mulOk r r = true := by
    have b : r.natAbs < 2 ^ 6000 := by
      have z := sm_prod hp hc
      have y : r ≤ r * r := by
        by_cases e : r = 0
        · subst e; decide
        · have := Int.mul_le_mul_of_nonneg_left (a := 1) (b := r) (c := r) (by omega) r0
          omega
      have e : ((2 ^ 6000 : Nat) : Int) = (2 : Int) ^ 6000 := by push_cast; rfl
      omega
    have b2 := Nat.lt_of_lt_of_le b (show (2:Nat) ^ 6000 ≤ 2 ^ 400000 from Nat.pow_le_pow_right (by omega) (by omega))
    exact mulOk_of b2 b2
  unfold g__law_sign
  by_cases e : w + r = 0
  · by_cases e2 : r * r < p * p * c <;> simp [R, e, e2, q, m1, m2, m3]
  · by_cases e2 : 0 < w + r <;> simp [R, e, e2, q, m1, m2, m3]
theorem x_sign (w p c : Int) (hw : Sm w) (hp : Sm p) (hc : Sm c) (c0 : 0 ≤ c) : g__law_sign 3 [.tup [.int w, .int p, .int c]] = .ret (.int (sg w p c)) .non := by
  by_cases q : p < 0
  · have h := x_sign0 1 (-w) (-p) c (sm_neg hp) hc c0 (by omega)
    rw [sg_neg w p c c0] at h
    show g__law_sign (2 + 1) _ = _
    unfold g__law_sign
    have e : (3 : Nat) ≤ sizeLine := by decide
    simp [q, h, e]
  · exact x_sign0 2 w p c hp hc c0 (by omega)
end K03
set_option maxRecDepth 100000
set_option maxHeartbeats 1000000
namespace K03
open PySem PySem.Spec L2 Pt
def Bg (n : Nat) (d : D) : Prop := ∃ (xs : List Int) (a l : Int), d = .lst [.lst (xs.map .int), .int a, .int l] ∧ xs.length ≤ 60 ∧ 0 ≤ a ∧ a ≤ n ∧ 0 ≤ l
theorem Bg.mono {n m : Nat} {d : D} (h : Bg n d) (q : n ≤ m) : Bg m d := by
  obtain ⟨xs, a, l, e, h1, h2, h3, h4⟩ := h
  exact ⟨xs, a, l, e, h1, h2, by omega, h4⟩
theorem x_bag (ns : List Int) (h : ns.length ≤ 63) : f__law_bag [.scr ns] = .ret (.lst [.lst ((ns.take 60).map .int), .int 0, .int 0]) .non := by
  have L := lcD_map' (bind := gdName 1) (bd := bTrue) (de := dOp fInt1 (aCons (dVar 1) aNil)) (vs := [1]) (e := D.int) (g := D.int) (ds := ns.take 60) (σ := [some (D.scr ns), none]) (fun d _ => by simp [lcD_cons]) (by simp; exact Nat.le_trans (Nat.min_le_left _ _) (by decide))
  rw [List.map_take] at L
  simp [f__law_bag, L]
theorem x_draw {n : Nat} {d : D} (m : Int) (B : Bg n d) (hn : n < 1000000) (m0 : 0 < m) (m1 : m < 2 ^ 8000) : ∃ v d', 0 ≤ v ∧ v < m ∧ Bg (n + 1) d' ∧ f__law_draw [d, .int m] = .ret (.int v) d' := by
  obtain ⟨xs, a, l, rfl, h1, h2, h3, h4⟩ := B
  have dm : divOk m = true := divOk_of m0 m1
  by_cases c : 0 < l
  · refine ⟨l % m, .lst [.lst (xs.map .int), .int a, .int (l / m)], Int.emod_nonneg _ (by omega), Int.emod_lt_of_pos _ m0, ⟨xs, a, l / m, rfl, h1, h2, by omega, Int.ediv_nonneg h4 (by omega)⟩, ?_⟩
    simp [f__law_draw, c, dm, m0]
  · have mix : ∀ cell : Int, powOk (cell % 2147483543 + 74093 * a + 2903) 5 = true := fun cell => by
      apply powOk_of (by omega) (by omega)
      have := Int.emod_nonneg cell (b := 2147483543) (by omega)
      have := Int.emod_lt_of_pos cell (b := 2147483543) (by omega)
      omega
    have mix2 : ∀ y : Int, mulOk (y % 2147483497) (2 * a + 3169) = true := fun y => mulOk_r (by omega)
    have ma : ∀ y : Int, mulOk y a = true := fun y => mulOk_r (by omega)
    have mix3 : ∀ y : Int, powOk (y % 2147483497 * (2 * a + 3169) + 58013 * a * a + 74093) 3 = true := fun y => by
      apply powOk_of (by omega) (by omega)
      have q1 := Int.emod_nonneg y (b := 2147483497) (by omega)
      have q2 := Int.emod_lt_of_pos y (b := 2147483497) (by omega)
      have q3 : 0 ≤ y % 2147483497 * (2 * a + 3169) := Int.mul_nonneg q1 (by omega)
      have q4 : y % 2147483497 * (2 * a + 3169) ≤ 2147483497 * 2003169 := Int.mul_le_mul (by omega) (by omega) (by omega) (by omega)
      have q5 : 58013 * a * a ≤ 58013 * 1000000 * 1000000 := Int.mul_le_mul (by omega) (by omega) (by omega) (by omega)
      have q6 : 0 ≤ 58013 * a * a := Int.mul_nonneg (by omega) (by omega)
      omega
    by_cases e : xs = []
    · subst e
      generalize hR : f__law_draw _ = R
      simp [f__law_draw, c, dm, m0, mix, mix2, mix3, ma, Int.not_lt.mpr h2] at hR
      subst hR
      exact ⟨_, _, Int.emod_nonneg _ (by omega), Int.emod_lt_of_pos _ m0, ⟨[], a + 1, l, rfl, h1, by omega, by omega, h4⟩, rfl⟩
    · have xl : 0 < xs.length := List.length_pos_iff.mpr e
      have ix : ∃ z, xs[(a % xs.length).toNat]? = some z := by
        have q1 := Int.emod_nonneg a (b := xs.length) (by omega)
        have q2 := Int.emod_lt_of_pos a (b := xs.length) (by omega)
        exact ⟨xs[(a % xs.length).toNat]'(by omega), List.getElem?_eq_getElem (by omega)⟩
      obtain ⟨z, ix⟩ := ix
      have at1 : atI (xs.map D.int) (a % xs.length) = some (.int z) := by
        rw [atI_of (Int.emod_nonneg a (by omega)) (by simpa using Int.emod_lt_of_pos a (by omega)), List.getElem?_map, ix]
        rfl
      have fin : ∀ (v l' : Int), 0 ≤ l' → ∃ v' d', 0 ≤ v' ∧ v' < m ∧ Bg (n + 1) d' ∧ FR.ret (.int (v % m)) (.lst [.lst (xs.map .int), .int (a + 1), .int l']) = .ret (.int v') d' := fun v l' hl => ⟨_, _, Int.emod_nonneg _ (by omega), Int.emod_lt_of_pos _ m0, ⟨xs, a + 1, l', rfl, h1, by omega, by omega, hl⟩, rfl⟩
      generalize hR : f__law_draw _ = R
      by_cases c1 : a < xs.length
      · by_cases c2 : z < 0
        · by_cases c3 : 1000000000000000000 ≤ -z
          · simp [f__law_draw, c, dm, m0, mix, mix2, mix3, ma, e, at1, xl, c1, c2, c3] at hR
            subst hR
            exact fin _ _ (Int.ediv_nonneg (by omega) (by omega))
          · simp [f__law_draw, c, dm, m0, mix, mix2, mix3, ma, e, at1, xl, c1, c2, c3] at hR
            subst hR
            exact fin _ _ h4
        · by_cases c3 : 1000000000000000000 ≤ z
          · simp [f__law_draw, c, dm, m0, mix, mix2, mix3, ma, e, at1, xl, c1, c2, c3] at hR
            subst hR
            exact fin _ _ (Int.ediv_nonneg (by omega) (by omega))
          · simp [f__law_draw, c, dm, m0, mix, mix2, mix3, ma, e, at1, xl, c1, c2, c3] at hR
            subst hR
            exact fin _ _ h4
      · simp [f__law_draw, c, dm, m0, mix, mix2, mix3, ma, e, at1, xl, c1] at hR
        subst hR
        exact fin _ _ h4
end K03
set_option maxRecDepth 100000
set_option maxHeartbeats 1000000
namespace K03
open PySem PySem.Spec L2 Pt
theorem dec7 : (7 : Int) < 2 ^ 8000 := by decide +kernel
theorem big {m : Int} (h : m ≤ 18446744073709551616) : m < 2 ^ 8000 := Int.lt_of_le_of_lt h (by decide +kernel)
theorem x_great {n : Nat} {d : D} (B : Bg n d) (hn : n + 3 ≤ 1000000) : ∃ v d', 0 ≤ v ∧ v < 100000000000000000000 ∧ Bg (n + 3) d' ∧ f__law_great [d] = .ret (.int v) d' := by
  obtain ⟨v1, d1, a1, a2, B1, e1⟩ := x_draw 10000000 B (by omega) (by omega) (big (by omega))
  obtain ⟨v2, d2, b1, b2, B2, e2⟩ := x_draw 10000000 B1 (by omega) (by omega) (big (by omega))
  obtain ⟨v3, d3, c1, c2, B3, e3⟩ := x_draw 1000000 B2 (by omega) (by omega) (big (by omega))
  refine ⟨(v1 * 10000000 + v2) * 1000000 + v3, d3, by omega, by omega, B3, ?_⟩
  simp [f__law_great, e1, e2, e3]
theorem x_signed {n : Nat} {d : D} (x : Int) (B : Bg n d) (hn : n + 1 ≤ 1000000) : ∃ v d', (v = x ∨ v = -x) ∧ Bg (n + 1) d' ∧ f__law_signed [d, .int x] = .ret (.int v) d' := by
  obtain ⟨v1, d1, a1, a2, B1, e1⟩ := x_draw 2 B (by omega) (by omega) (big (by omega))
  have m : mulOk (2 * x) v1 = true := mulOk_r (by omega)
  refine ⟨x - 2 * x * v1, d1, ?_, B1, ?_⟩
  · have : v1 = 0 ∨ v1 = 1 := by omega
    rcases this with rfl | rfl <;> omega
  · simp [f__law_signed, e1, m]
/-- numbers that are told -/
def Tl (w p c : Int) : Prop := w.natAbs < 10 ^ 50 ∧ p.natAbs < 10 ^ 50 ∧ 0 ≤ c ∧ c.natAbs < 10 ^ 50
theorem sm_of {x : Int} (h : x.natAbs < 10 ^ 50) : Sm x := Nat.lt_of_lt_of_le h (by decide +kernel)
theorem x_rootB (n B : Int) (h0 : 0 ≤ n) (hn : n < 2 ^ 6000) (b0 : 0 ≤ B) (hB : n < B * B) : ∃ s : Int, 0 ≤ s ∧ s < B ∧ f__law_root [.int n] = .ret (.int s) .non := by
  obtain ⟨s, s0, s1, s2, e⟩ := x_root n h0 hn
  refine ⟨s, s0, ?_, e⟩
  by_cases q : s < B
  · exact q
  · have := sq_le_sq b0 (show B ≤ s by omega)
    omega
theorem lt6000 {n : Int} (h : n < 10 ^ 200) : n < 2 ^ 6000 := Int.lt_trans h (by decide +kernel)
theorem sqlt {a b A : Int} (h : a = b ∨ a = -b) (h0 : 0 ≤ b) (hA : b ≤ A) : a * a ≤ A * A := by
  have : a * a = b * b := by rcases h with rfl | rfl <;> grind
  rw [this]
  exact sq_le_sq h0 hA
theorem x_told {n : Nat} {d : D} (B : Bg n d) (hn : n + 20 ≤ 1000000) : ∃ w p c d', Tl w p c ∧ Bg (n + 20) d' ∧ f__law_told [d] = .ret (.tup [.int w, .int p, .int c]) d' := by
  obtain ⟨way, d0, w1, w2, B0, e0⟩ := x_draw 6 B (by omega) (by omega) (big (by omega))
  have : way = 0 ∨ way = 1 ∨ way = 2 ∨ way = 3 ∨ way = 4 ∨ way = 5 := by omega
  rcases this with rfl | rfl | rfl | rfl | rfl | rfl
  · obtain ⟨v1, d1, a1, a2, B1, e1⟩ := x_draw 10 B0 (by omega) (by omega) (big (by omega))
    obtain ⟨v2, d2, b1, B2, e2⟩ := x_signed v1 B1 (by omega)
    obtain ⟨v3, d3, a3, a4, B3, e3⟩ := x_draw 10 B2 (by omega) (by omega) (big (by omega))
    obtain ⟨v4, d4, b2, B4, e4⟩ := x_signed v3 B3 (by omega)
    obtain ⟨v5, d5, a5, a6, B5, e5⟩ := x_draw 13 B4 (by omega) (by omega) (big (by omega))
    refine ⟨v2, v4, v5, d5, ⟨by omega, by omega, by omega, by omega⟩, B5.mono (by omega), ?_⟩
    simp [f__law_told, e0, e1, e2, e3, e4, e5]
  · obtain ⟨v1, d1, a1, a2, B1, e1⟩ := x_draw 1000000 B0 (by omega) (by omega) (big (by omega))
    obtain ⟨v2, d2, b1, B2, e2⟩ := x_signed v1 B1 (by omega)
    obtain ⟨v3, d3, a3, a4, B3, e3⟩ := x_draw 10000000 B2 (by omega) (by omega) (big (by omega))
    obtain ⟨v4, d4, a5, a6, B4, e4⟩ := x_draw 3 B3 (by omega) (by omega) (big (by omega))
    have q1 : v2 * v2 ≤ 1000000 * 1000000 := sqlt b1 a1 (by omega)
    have q0 := sq_nn v2
    have q2 : v2 * v2 * v3 ≤ 1000000000000 * 10000000 := Int.mul_le_mul (by omega) (by omega) (by omega) (by omega)
    obtain ⟨s, s0, s1, e5⟩ := x_rootB (v2 * v2 * v3) 10000000000 (Int.mul_nonneg q0 a3) (lt6000 (by omega)) (by omega) (by omega)
    have m1 : mulOk v2 v2 = true := mulOk_r (by omega)
    have m2 : mulOk (v2 * v2) v3 = true := mulOk_r (by omega)
    by_cases c : v2 < 0
    · refine ⟨s + v4 - 1, v2, v3, d4, ⟨by omega, by omega, by omega, by omega⟩, B4.mono (by omega), ?_⟩
      simp [f__law_told, e0, e1, e2, e3, e4, e5, m1, m2, c]
    · refine ⟨-s + v4 - 1, v2, v3, d4, ⟨by omega, by omega, by omega, by omega⟩, B4.mono (by omega), ?_⟩
      simp [f__law_told, e0, e1, e2, e3, e4, e5, m1, m2, c]
  · obtain ⟨v1, d1, a1, a2, B1, e1⟩ := x_great B0 (by omega)
    obtain ⟨v2, d2, b1, B2, e2⟩ := x_signed v1 B1 (by omega)
    obtain ⟨v3, d3, a3, a4, B3, e3⟩ := x_draw 100000 B2 (by omega) (by omega) (big (by omega))
    obtain ⟨v4, d4, a5, a6, B4, e4⟩ := x_draw 3 B3 (by omega) (by omega) (big (by omega))
    have m1 : mulOk (-v2) v3 = true := mulOk_r (by omega)
    have m2 : mulOk v3 v3 = true := mulOk_r (by omega)
    have q1 : v3 * v3 ≤ 100000 * 100000 := sq_le_sq a3 (by omega)
    have q2 : (v2 * v3).natAbs ≤ 100000000000000000000 * 100000 := by
      rw [Int.natAbs_mul]
      exact Nat.mul_le_mul (by omega) (by omega)
    have q3 : -v2 * v3 = -(v2 * v3) := by grind
    have q0 := sq_nn v3
    refine ⟨-v2 * v3 + v4 - 1, v2, v3 * v3, d4, ⟨by omega, by omega, by omega, by omega⟩, B4.mono (by omega), ?_⟩
    simp [f__law_told, e0, e1, e2, e3, e4, m1, m2]
  · obtain ⟨v1, d1, a1, a2, B1, e1⟩ := x_great B0 (by omega)
    obtain ⟨v2, d2, b1, B2, e2⟩ := x_signed v1 B1 (by omega)
    obtain ⟨v3, d3, a3, a4, B3, e3⟩ := x_great B2 (by omega)
    obtain ⟨v4, d4, a5, a6, B4, e4⟩ := x_draw 3 B3 (by omega) (by omega) (big (by omega))
    have q1 : v2 * v2 ≤ 100000000000000000000 * 100000000000000000000 := sqlt b1 a1 (by omega)
    have q0 := sq_nn v2
    have q2 : v2 * v2 * v3 ≤ 10000000000000000000000000000000000000000 * 100000000000000000000 := Int.mul_le_mul (by omega) (by omega) (by omega) (by omega)
    obtain ⟨s, s0, s1, e5⟩ := x_rootB (v2 * v2 * v3) 10000000000000000000000000000000000000 (Int.mul_nonneg q0 a3) (lt6000 (by omega)) (by omega) (by omega)
    have m1 : mulOk v2 v2 = true := sm_mul (sm_of (by omega)) (sm_of (by omega))
    have m2 : mulOk (v2 * v2) v3 = true := sm_mul (sm_of (by omega)) (sm_of (by omega))
    by_cases c : v2 < 0
    · refine ⟨s + v4 - 1, v2, v3, d4, ⟨by omega, by omega, by omega, by omega⟩, B4.mono (by omega), ?_⟩
      simp [f__law_told, e0, e1, e2, e3, e4, e5, m1, m2, c]
    · refine ⟨-s + v4 - 1, v2, v3, d4, ⟨by omega, by omega, by omega, by omega⟩, B4.mono (by omega), ?_⟩
      simp [f__law_told, e0, e1, e2, e3, e4, e5, m1, m2, c]
  · obtain ⟨v1, d1, a1, a2, B1, e1⟩ := x_great B0 (by omega)
    obtain ⟨v2, d2, b1, B2, e2⟩ := x_signed v1 B1 (by omega)
    obtain ⟨v3, d3, a3, a4, B3, e3⟩ := x_great B2 (by omega)
    refine ⟨v2, 0, v3, d3, ⟨by omega, by omega, by omega, by omega⟩, B3.mono (by omega), ?_⟩
    simp [f__law_told, e0, e1, e2, e3]
  · obtain ⟨v1, d1, a1, a2, B1, e1⟩ := x_great B0 (by omega)
    obtain ⟨v2, d2, b1, B2, e2⟩ := x_signed v1 B1 (by omega)
    obtain ⟨v3, d3, a3, a4, B3, e3⟩ := x_great B2 (by omega)
    obtain ⟨v4, d4, b2, B4, e4⟩ := x_signed v3 B3 (by omega)
    obtain ⟨v5, d5, a5, a6, B5, e5⟩ := x_great B4 (by omega)
    refine ⟨v2, v4, v5, d5, ⟨by omega, by omega, by omega, by omega⟩, B5.mono (by omega), ?_⟩
    simp [f__law_told, e0, e1, e2, e3, e4, e5]
end K03
set_option maxRecDepth 100000
set_option maxHeartbeats 1000000
namespace K03
open PySem PySem.Spec L2 Pt SX
theorem all_digits {l : List Nat} {σ : Stt} {x : Option D} (hl : l.length ≤ 61) (h : ∀ c ∈ l, 48 ≤ c ∧ c ≤ 57) : ∀ a b : Option D, lcD (gdName 2) bTrue (dOp fInS (aCons (dVar 2) (aCons (dC (D.str "0123456789")) aNil))) [2] (l.map fun c => .str ⟨#[c]⟩) [] [a, b, none] = .ok (l.map fun _ => .bl true) [a, b, none] := fun a b => by
  refine lcD_map' (fun c hc => ?_) (Nat.le_trans hl (by decide))
  have q : c ∈ ([48, 49, 50, 51, 52, 53, 54, 55, 56, 57] : List Nat) := by
    have := h c hc
    simp
    omega
  have e : fInS [.str ⟨#[c]⟩, .str "0123456789"] = some (.bl true) := by
    rw [lit_digits]
    show some (D.bl (decide (c ∈ ([48, 49, 50, 51, 52, 53, 54, 55, 56, 57] : List Nat)))) = _
    rw [decide_eq_true q]
  simp [lcD_cons, e]
theorem all_true {l : List Nat} : fAll [.lst (l.map fun _ => D.bl true)] = some (.bl true) := by
  have : blsD (l.map fun _ => D.bl true) = some (l.map fun _ => true) := by
    induction l with
    | nil => rfl
    | cons c l ih => simp [blsD, ih]
  simp [fAll, this]
theorem x_written (i : Int) (h : i.natAbs < 10 ^ 60) : f_is_written [.str (S (intL i))] = .ret (.bl true) .non := by
  have hl := numL_len60 h
  have ok1 : PyData.strOk (S (intL i)) = true := okI
  by_cases q : i < 0
  · obtain ⟨c, r, e, h1, h2⟩ := numL_head i.natAbs (by omega)
    have ei : intL i = 45 :: c :: r := by unfold intL; rw [if_pos q, e]
    have ok2 : PyData.strOk (S (c :: r)) = true := okS fun x hx => by
      rw [← e] at hx
      have := numL_dig hx
      omega
    rw [e] at hl
    rw [ei] at ok1
    simp only [List.length_cons] at hl
    have A := all_digits (l := c :: r) (σ := []) (x := none) (by simp; omega) (fun x hx => by rw [← e] at hx; exact numL_dig hx)
    have l1 : r.length + 1 + 1 ≤ sizeLine := le_size (by omega)
    have l2 : r.length + 1 ≤ sizeLine := le_size (by omega)
    have l3 : ¬ (60 < (r.length : Int) + 1) := by omega
    have n48 : c ≠ 48 := by omega
    rw [ei]
    simp at A
    have T := all_true (l := c :: r)
    simp at T
    simp [f_is_written, lit_dash, lit_empty, lit_zero, okS, okS1 (c := c) (by omega), A, T, ok1, ok2, l1, l2, l3, n48]
  · by_cases z : i = 0
    · subst z
      have A := all_digits (l := [48]) (σ := []) (x := none) (by simp) (fun x hx => by simp at hx; omega)
      have T := all_true (l := [48])
      simp at T A
      simp [f_is_written, lit_dash, lit_empty, lit_zero, okS, okS1, A, T, intL, numL_zero]
    · obtain ⟨c, r, e, h1, h2⟩ := numL_head i.natAbs (by omega)
      have ei : intL i = c :: r := by unfold intL; rw [if_neg q, e]
      rw [e] at hl
      rw [ei] at ok1
      simp only [List.length_cons] at hl
      have A := all_digits (l := c :: r) (σ := []) (x := none) (by simp; omega) (fun x hx => by rw [← e] at hx; exact numL_dig hx)
      have l2 : r.length + 1 ≤ sizeLine := le_size (by omega)
      have l3 : ¬ (60 < (r.length : Int) + 1) := by omega
      have n48 : c ≠ 48 := by omega
      have n45 : c ≠ 45 := by omega
      rw [ei]
      simp at A
      have T := all_true (l := c :: r)
      simp at T
      simp [f_is_written, lit_dash, lit_empty, lit_zero, okS, okS1 (c := c) (by omega), A, T, ok1, l2, l3, n48, n45]
end K03
set_option maxRecDepth 100000
set_option maxHeartbeats 1000000
namespace K03
open PySem PySem.Spec L2 Pt SX
abbrev scn (a b c : Int) (k : Int) : D := .obj 5 [(10, .int 0), (12, .lst [.str (S (intL a)), .str (S (intL b)), .str (S (intL c))]), (13, .int k)]
theorem x_take0 {a b c : Int} (h : a.natAbs < 10 ^ 60) : f_Scan_take_number [scn a b c 0, .non, .non] = .ret (.int a) (scn a b c 1) := by
  have l : (intL a).length ≤ 640 := by have := intL_len h; omega
  simp [f_Scan_take_number, f_Scan_ahead, f_Scan_take, dCallOK_s, x_written a h, int_back h, l]
theorem x_take1 {a b c : Int} (h : b.natAbs < 10 ^ 60) : f_Scan_take_number [scn a b c 1, .non, .non] = .ret (.int b) (scn a b c 2) := by
  have l : (intL b).length ≤ 640 := by have := intL_len h; omega
  simp [f_Scan_take_number, f_Scan_ahead, f_Scan_take, dCallOK_s, x_written b h, int_back h, l]
theorem x_take2 {a b c : Int} (h : c.natAbs < 10 ^ 60) (h0 : 0 ≤ c) : f_Scan_take_number [scn a b c 2, .int 0, .non] = .ret (.int c) (scn a b c 3) := by
  have l : (intL c).length ≤ 640 := by have := intL_len h; omega
  have n : ¬ c < 0 := by omega
  simp [f_Scan_take_number, f_Scan_ahead, f_Scan_take, dCallOK_s, x_written c h, int_back h, l, n]
theorem x_finish {a b c : Int} : f_Scan_finish [scn a b c 3] = .ret .non (scn a b c 3) := by
  simp [f_Scan_finish]
abbrev txt (a b c : Int) : List Nat := intL a ++ 32 :: (intL b ++ 32 :: intL c)
theorem spl3 (a b c : Int) : TL.spl [32] 0 [] (txt a b c) = [intL a, intL b, intL c] := by
  have := spl_join (c := 32) (sep := []) (parts := [intL a, intL b, intL c]) (by simp) (fun p hp => by
    simp at hp
    rcases hp with rfl | rfl | rfl <;> exact intL_free)
  simpa [TL.joinL, txt] using this
theorem txt_len {a b c : Int} (ha : a.natAbs < 10 ^ 60) (hb : b.natAbs < 10 ^ 60) (hc : c.natAbs < 10 ^ 60) : (txt a b c).length ≤ 200 := by
  have h1 := intL_len ha
  have h2 := intL_len hb
  have h3 := intL_len hc
  simp [txt]
  omega
theorem x_scan {a b c : Int} (ha : a.natAbs < 10 ^ 60) (hb : b.natAbs < 10 ^ 60) (hc : c.natAbs < 10 ^ 60) : f_Scan_init [.obj 5 [], .str (S (txt a b c)), .int 0] = .ret .non (scn a b c 0) := by
  have l := txt_len ha hb hc
  have l2 : (txt a b c).length + 2 ≤ sizeLine := le_size (by omega)
  have sp : Txt.split (S (txt a b c)) " " = [S (intL a), S (intL b), S (intL c)] := by
    rw [lit_blank, split_S (by simp) (by decide), spl3]
    rfl
  generalize hq : S (txt a b c) = q at sp
  have l3 : q.length + 2 ≤ sizeLine := by rw [← hq, S_length]; exact l2
  have lb : ¬ (Str.ofString " ").length = 0 := by decide
  simp [f_Scan_init, sp, l3, lb]
theorem x_read {a b c : Int} (ha : a.natAbs < 10 ^ 60) (hb : b.natAbs < 10 ^ 60) (hc : c.natAbs < 10 ^ 60) (c0 : 0 ≤ c) : f_Bound_read [.str (S (txt a b c))] = .ret (bd a b c) .non := by
  have e := x_scan ha hb hc
  generalize S (txt a b c) = q at *
  simp [f_Bound_read, e, dCallOK_s, x_take0 ha, x_take1 hb, x_take2 hc c0, x_finish, x_Bound_init a b c c0]
theorem x_str {a b c : Int} (ha : a.natAbs < 10 ^ 60) (hb : b.natAbs < 10 ^ 60) (hc : c.natAbs < 10 ^ 60) : f_Bound_str [bd a b c] = .ret (.str (S (txt a b c))) .non := by
  have h1 := intL_len ha
  have h2 := intL_len hb
  have h3 := intL_len hc
  have q1 : (intL a).length ≤ sizeLine := le_size (by omega)
  have q2 : (intL a).length + 1 ≤ sizeLine := le_size (by omega)
  have q3 : (intL a).length + ((intL b).length + 1) ≤ sizeLine := le_size (by omega)
  have q4 : (intL a).length + ((intL b).length + 1 + 1) ≤ sizeLine := le_size (by omega)
  have q5 : (intL a).length + ((intL b).length + ((intL c).length + 1) + 1) ≤ sizeLine := le_size (by omega)
  simp [f_Bound_str, lt1900 ha, lt1900 hb, lt1900 hc, lit_blank, q1, q2, q3, q4, q5]
end K03
set_option maxRecDepth 100000
set_option maxHeartbeats 1000000
namespace K03
open PySem PySem.Spec L2 Pt SX
theorem x_eq (a b c x y z : Int) : f_Bound_eq [bd a b c, bd x y z] = .ret (.bl (decide (a = x ∧ b = y ∧ c = z))) .non := by
  by_cases h1 : a = x <;> by_cases h2 : b = y <;> by_cases h3 : c = z <;> simp [f_Bound_eq, h1, h2, h3]
theorem x_eq_t (a b c : Int) (l : List D) : f_Bound_eq [bd a b c, .tup l] = .ret (.bl false) .non := by
  simp [f_Bound_eq]
theorem x_eq_i (a b c : Int) (i : Int) : f_Bound_eq [bd a b c, .int i] = .ret (.bl false) .non := by
  simp [f_Bound_eq]
theorem x_is (a b c x y z : Int) : f__law_is [bd a b c, .tup [.int x, .int y, .int z]] = .ret (.bl (decide (a = x ∧ b = y ∧ c = z))) .non := by
  simp [f__law_is, lcD_cons]
theorem sm_tl {w p c : Int} (h : Tl w p c) : Sm w ∧ Sm p ∧ Sm c := ⟨sm_of h.1, sm_of h.2.1, sm_of h.2.2.2⟩
theorem x_signS (w p c : Int) (hw : Sm w) (hp : Sm p) (hc : Sm c) : f_sign_by [.int w, .int p, .int c] = .ret (.int (sg w p c)) .non := x_sign_by w p c (sm_mul hp hp) (sm_mul2 hp hp hc) (sm_mul hw hw)
theorem x_sign_of (w p c : Int) (hw : Sm w) (hp : Sm p) (hc : Sm c) : f_sign_of [bd w p c] = .ret (.int (sg w p c)) .non := by
  simp [f_sign_of, x_need_bound, x_signS w p c hw hp hc]
/-- the common under -/
def cu (p c q d : Int) : Int := if p ≠ 0 ∨ q = 0 then c else d
theorem x_common {w p c u q d : Int} (h : ¬ (c ≠ d ∧ p ≠ 0 ∧ q ≠ 0)) : f_common_under [bd w p c, bd u q d] = .ret (.int (cu p c q d)) .non := by
  unfold cu
  by_cases h1 : c = d <;> by_cases h2 : p = 0 <;> by_cases h3 : q = 0 <;> first | (exfalso; exact h ⟨h1, h2, h3⟩) | simp [f_common_under, x_need_bound, h1, h2, h3]
theorem x_misfit {w p c u q d : Int} (h1 : c ≠ d) (h2 : p ≠ 0) (h3 : q ≠ 0) : f_common_under [bd w p c, bd u q d] = .exc (.exc 3 [(8, .str "under")]) .non := by
  simp [f_common_under, x_need_bound, h1, h2, h3]
theorem cu_nn {p c q d : Int} (hc : 0 ≤ c) (hd : 0 ≤ d) : 0 ≤ cu p c q d := by unfold cu; split <;> assumption
theorem x_added {w p c u q d : Int} (hc : 0 ≤ c) (hd : 0 ≤ d) (h : ¬ (c ≠ d ∧ p ≠ 0 ∧ q ≠ 0)) : f_added [bd w p c, bd u q d] = .ret (bd (w + u) (p + q) (cu p c q d)) .non := by
  simp [f_added, x_common h, x_Bound_init _ _ _ (cu_nn hc hd)]
theorem x_multiplied {w p c u q d : Int} (hc : 0 ≤ c) (hd : 0 ≤ d) (h : ¬ (c ≠ d ∧ p ≠ 0 ∧ q ≠ 0)) (m1 : mulOk w u = true) (m2 : mulOk p q = true) (m3 : mulOk (p * q) (cu p c q d) = true) (m4 : mulOk w q = true) (m5 : mulOk p u = true) : f_multiplied [bd w p c, bd u q d] = .ret (bd (w * u + p * q * cu p c q d) (w * q + p * u) (cu p c q d)) .non := by
  simp [f_multiplied, x_common h, x_Bound_init _ _ _ (cu_nn hc hd), m1, m2, m3, m4, m5]
theorem x_at_most {w p c u q d : Int} (h : ¬ (c ≠ d ∧ p ≠ 0 ∧ q ≠ 0)) (s1 : Sm (u - w)) (s2 : Sm (q - p)) (s3 : Sm (cu p c q d)) : f_at_most [bd w p c, bd u q d] = .ret (.bl (decide (0 ≤ sg (u - w) (q - p) (cu p c q d)))) .non := by
  simp [f_at_most, x_common h, x_signS _ _ _ s1 s2 s3]
theorem x_pick {n : Nat} {d : D} (l : List D) (B : Bg n d) (hn : n < 1000000) (h0 : l ≠ []) (hl : l.length < 1000) : ∃ (i : Nat) (x : D) (d' : D), l[i]? = some x ∧ Bg (n + 1) d' ∧ f__law_pick [d, .lst l] = .ret x d' := by
  have : 0 < l.length := List.length_pos_iff.mpr h0
  obtain ⟨v1, d1, a1, a2, B1, e1⟩ := x_draw l.length B (by omega) (by omega) (big (by omega))
  have g : v1.toNat < l.length := by omega
  refine ⟨v1.toNat, l[v1.toNat], d1, List.getElem?_eq_getElem g, B1, ?_⟩
  have : atI l v1 = some l[v1.toNat] := by rw [atI_of a1 a2, List.getElem?_eq_getElem g]
  simp [f__law_pick, e1, this]
theorem sg_two (w p c : Int) (hc : 0 ≤ c) : sg (-w) (-p) c = - sg w p c := sg_neg w p c hc
theorem x_one {n : Nat} {d : D} {w p c : Int} (T : Tl w p c) (B : Bg n d) (hn : n + 1 ≤ 1000000) : ∃ d', Bg (n + 1) d' ∧ f__law_one_right [d, .tup [.int w, .int p, .int c]] = .ret (.bl true) d' := by
  obtain ⟨hw, hp, hc⟩ := sm_tl T
  have c0 : 0 ≤ c := T.2.2.1
  have i1 := x_Bound_init w p c c0
  have i2 := x_Bound_init (-w) (-p) c c0
  have i3 := x_Bound_init (w + 2 * p) 0 4 (by omega)
  have s1 := x_sign_of w p c hw hp hc
  have s2 := x_sign_of (-w) (-p) c (sm_neg hw) (sm_neg hp) hc
  have s3 := x_sign w p c hw hp hc c0
  rw [sg_two w p c c0] at s2
  have bw : w.natAbs < 10 ^ 60 := Nat.lt_trans T.1 (by decide)
  have bp : p.natAbs < 10 ^ 60 := Nat.lt_trans T.2.1 (by decide)
  have bc : c.natAbs < 10 ^ 60 := Nat.lt_trans T.2.2.2 (by decide)
  have st := x_str bw bp bc
  have rd := x_read bw bp bc c0
  have h1 := intL_len bw
  have h2 := intL_len bp
  have h3 := intL_len bc
  have ok : PyData.strOk (S (txt w p c)) = true := okS fun x hx => by
    simp [txt] at hx
    rcases hx with hx | hx | hx | hx | hx
    · rcases intL_sign hx with h | h <;> omega
    · omega
    · rcases intL_sign hx with h | h <;> omega
    · omega
    · rcases intL_sign hx with h | h <;> omega
  have q2 : (intL w).length + 1 ≤ sizeLine := le_size (by omega)
  have q3 : (intL w).length + 1 + (intL p).length ≤ sizeLine := le_size (by omega)
  have q4 : (intL w).length + ((intL p).length + 1) + 1 ≤ sizeLine := le_size (by omega)
  have q5 : (intL w).length + ((intL p).length + 1 + 1) + (intL c).length ≤ sizeLine := le_size (by omega)
  obtain ⟨i, x, d', hx, B', pk⟩ := x_pick [.tup [.int (w + 1), .int p, .int c], .tup [.int w, .int (p - 1), .int c], .tup [.int w, .int p, .int (c + 1)], .tup [.int (-w - 1), .int p, .int c]] B (by omega) (by simp) (by simp)
  have hx' : ∃ a b e, x = .tup [.int a, .int b, .int e] ∧ 0 ≤ e ∧ ¬ (a = w ∧ b = p ∧ e = c) := by
    match i, hx with
    | 0, hx => exact ⟨_, _, _, (Option.some.inj hx).symm, c0, by omega⟩
    | 1, hx => exact ⟨_, _, _, (Option.some.inj hx).symm, c0, by omega⟩
    | 2, hx => exact ⟨_, _, _, (Option.some.inj hx).symm, by omega, by omega⟩
    | 3, hx => exact ⟨_, _, _, (Option.some.inj hx).symm, c0, by omega⟩
    | _ + 4, hx => simp at hx
  obtain ⟨a, b, e, rfl, e0, ne⟩ := hx'
  have i4 := x_Bound_init a b e e0
  refine ⟨d', B', ?_⟩
  unfold txt at st rd ok
  generalize hS : S (intL w ++ 32 :: (intL p ++ 32 :: intL c)) = z at *
  have fin : decide (w = w + 2 * p ∧ p = 0 ∧ c = 4) = (decide (p = 0) && decide (c = 4)) := by
    by_cases h1 : p = 0 <;> by_cases h2 : c = 4 <;> simp [h1, h2]
  simp [f__law_one_right, i1, i2, i3, i4, x_is, x_eq, x_eq_t, x_eq_i, s1, s2, s3, st, rd, lt1900 bw, lt1900 bp, lt1900 bc, ok, lit_blank, q2, q3, q4, q5, hS, pk, ne]
  by_cases h : p = 0
  · subst h
    by_cases h4 : c = 4
    · subst h4
      simp [st, rd, x_eq]
    · simp [st, rd, x_eq, h4]
  · simp [st, rd, x_eq, h]
end K03
set_option maxRecDepth 100000
set_option maxHeartbeats 1000000
namespace K03
open PySem PySem.Spec L2 Pt SX
def Tm (w p c : Int) : Prop := w.natAbs < 10 ^ 51 ∧ p.natAbs < 10 ^ 51 ∧ 0 ≤ c ∧ c.natAbs < 10 ^ 51
theorem Tl.m {w p c : Int} (h : Tl w p c) : Tm w p c := ⟨Nat.lt_trans h.1 (by decide), Nat.lt_trans h.2.1 (by decide), h.2.2.1, Nat.lt_trans h.2.2.2 (by decide)⟩
theorem x_other {n : Nat} {d : D} {w p c : Int} (T : Tl w p c) (B : Bg n d) (hn : n + 22 ≤ 1000000) : ∃ u q e d', Tm u q e ∧ Bg (n + 22) d' ∧ f__law_other [d, .tup [.int w, .int p, .int c]] = .ret (.tup [.int u, .int q, .int e]) d' := by
  obtain ⟨way, d0, w1, w2, B0, e0⟩ := x_draw 5 B (by omega) (by omega) (big (by omega))
  obtain ⟨u, q, e, d1, T1, B1, e1⟩ := x_told B0 (by omega)
  have t := T
  unfold Tl at t
  have t1 := T1
  unfold Tl at t1
  have : way = 0 ∨ way = 1 ∨ way = 2 ∨ way = 3 ∨ way = 4 := by omega
  rcases this with rfl | rfl | rfl | rfl | rfl
  · exact ⟨u, q, c, d1, ⟨by omega, by omega, by omega, by omega⟩, B1.mono (by omega), by simp [f__law_other, e0, e1]⟩
  · exact ⟨u, q, c, d1, ⟨by omega, by omega, by omega, by omega⟩, B1.mono (by omega), by simp [f__law_other, e0, e1]⟩
  · obtain ⟨v, d2, v1, v2, B2, e2⟩ := x_draw 3 B1 (by omega) (by omega) (big (by omega))
    exact ⟨w + v - 1, p, c, d2, ⟨by omega, by omega, by omega, by omega⟩, B2.mono (by omega), by simp [f__law_other, e0, e1, e2]⟩
  · exact ⟨u, 0, e, d1, ⟨by omega, by omega, by omega, by omega⟩, B1.mono (by omega), by simp [f__law_other, e0, e1]⟩
  · exact ⟨u, q, e, d1, T1.m, B1.mono (by omega), by simp [f__law_other, e0, e1]⟩
theorem x_lcommon0 {w p c u q d : Int} (h : ¬ (c ≠ d ∧ p ≠ 0 ∧ q ≠ 0)) : f__law_common [.tup [.int w, .int p, .int c], .tup [.int u, .int q, .int d]] = .ret (.int (cu p c q d)) .non := by
  unfold cu
  by_cases h1 : c = d <;> by_cases h2 : p = 0 <;> by_cases h3 : q = 0 <;> first | (exfalso; exact h ⟨h1, h2, h3⟩) | simp [f__law_common, h1, h2, h3]
theorem x_lcommon1 {w p c u q d : Int} (h1 : c ≠ d) (h2 : p ≠ 0) (h3 : q ≠ 0) : f__law_common [.tup [.int w, .int p, .int c], .tup [.int u, .int q, .int d]] = .ret .non .non := by
  simp [f__law_common, h1, h2, h3]
theorem x_done_mis {way w p c u q d : Int} (hw : way = 0 ∨ way = 1 ∨ way = 2) (h1 : c ≠ d) (h2 : p ≠ 0) (h3 : q ≠ 0) : f__law_done [.int way, bd w p c, bd u q d] = .ret (.tup [.str "misfit", .str "under"]) .non := by
  rcases hw with rfl | rfl | rfl
  · simp [f__law_done, f_added, x_misfit h1 h2 h3, tb_BadBound, tb_Misfit, List.lookup]
  · simp [f__law_done, f_multiplied, x_misfit h1 h2 h3, tb_BadBound, tb_Misfit, List.lookup]
  · simp [f__law_done, f_at_most, x_misfit h1 h2 h3, tb_BadBound, tb_Misfit, List.lookup]
theorem sm51 {x : Int} (h : x.natAbs < 10 ^ 120) : Sm x := Nat.lt_of_lt_of_le h (by decide +kernel)
theorem sm_add {x y : Int} (h1 : x.natAbs < 10 ^ 51) (h2 : y.natAbs < 10 ^ 51) : Sm (x + y) := Nat.lt_of_le_of_lt (Int.natAbs_add_le _ _) (Nat.lt_of_lt_of_le (Nat.add_lt_add h1 h2) (by decide +kernel))
theorem sm_sub {x y : Int} (h1 : x.natAbs < 10 ^ 51) (h2 : y.natAbs < 10 ^ 51) : Sm (x - y) := sm_add (y := -y) h1 (by rw [Int.natAbs_neg]; exact h2)
theorem sm_addg {x y : Int} (h1 : x.natAbs < 10 ^ 51) (h2 : y.natAbs < 10 ^ 51) : Sm (x + y) := sm_add h1 h2
theorem Lp1 (g u w : Int) : g + u - (w + g) = u - w := by omega
theorem ab_mul {x y : Int} {m n : Nat} (h1 : x.natAbs < 10 ^ m) (h2 : y.natAbs < 10 ^ n) : (x * y).natAbs < 10 ^ (m + n) := by
  rw [Int.natAbs_mul, Nat.pow_add]
  exact Nat.mul_lt_mul_of_lt_of_lt h1 h2
theorem cu_lt {p c q d : Int} {n : Nat} (h1 : c.natAbs < n) (h2 : d.natAbs < n) : (cu p c q d).natAbs < n := by unfold cu; split <;> assumption
theorem x_two {n : Nat} {d : D} {w p c u q e : Int} (T1 : Tm w p c) (T2 : Tm u q e) (B : Bg n d) (hn : n + 5 ≤ 1000000) : ∃ d', Bg (n + 5) d' ∧ f__law_two_right [d, .tup [.int w, .int p, .int c], .tup [.int u, .int q, .int e]] = .ret (.bl true) d' := by
  unfold Tm at T1 T2
  have i1 := x_Bound_init w p c T1.2.2.1
  have i2 := x_Bound_init u q e T2.2.2.1
  by_cases h : c ≠ e ∧ p ≠ 0 ∧ q ≠ 0
  · obtain ⟨h1, h2, h3⟩ := h
    refine ⟨d, B.mono (by omega), ?_⟩
    have h1' : e ≠ c := fun z => h1 z.symm
    simp [f__law_two_right, i1, i2, x_lcommon1 h1 h2 h3, rangeD_succ, lcD_cons, x_done_mis (.inl rfl) h1 h2 h3, x_done_mis (.inr (.inl rfl)) h1 h2 h3, x_done_mis (.inr (.inr rfl)) h1 h2 h3, x_done_mis (.inl rfl) h1' h3 h2, x_done_mis (.inr (.inl rfl)) h1' h3 h2, x_done_mis (.inr (.inr rfl)) h1' h3 h2]
  · have C0 : 0 ≤ cu p c q e := cu_nn T1.2.2.1 T2.2.2.1
    have Cb : (cu p c q e).natAbs < 10 ^ 51 := cu_lt T1.2.2.2 T2.2.2.2
    have s51 : ∀ x : Int, x.natAbs < 10 ^ 51 → Sm x := fun x h => sm51 (Nat.lt_trans h (by decide))
    have h' : ¬ (e ≠ c ∧ q ≠ 0 ∧ p ≠ 0) := fun z => h ⟨fun y => z.1 y.symm, z.2.2, z.2.1⟩
    have Sw := s51 _ T1.1
    have Sp := s51 _ T1.2.1
    have Sc := s51 _ T1.2.2.2
    have Su := s51 _ T2.1
    have Sq := s51 _ T2.2.1
    have Se := s51 _ T2.2.2.2
    have SC := s51 _ Cb
    have a1 := x_added (w := w) (u := u) T1.2.2.1 T2.2.2.1 h
    have a2 := x_multiplied (w := w) (u := u) T1.2.2.1 T2.2.2.1 h (sm_mul Sw Su) (sm_mul Sp Sq) (sm_mul2 Sp Sq SC) (sm_mul Sw Sq) (sm_mul Sp Su)
    have g1 := x_sign w p c Sw Sp Sc T1.2.2.1
    have g2 := x_sign u q e Su Sq Se T2.2.2.1
    have g3 := x_sign (w + u) (p + q) _ (sm_add T1.1 T2.1) (sm_add T1.2.1 T2.2.1) SC C0
    have g4 := x_sign (u - w) (q - p) _ (sm_sub T2.1 T1.1) (sm_sub T2.2.1 T1.2.1) SC C0
    have k1 := x_sign_of (w + u) (p + q) _ (sm_add T1.1 T2.1) (sm_add T1.2.1 T2.2.1) SC
    have b1 : Sm (w * u + p * q * cu p c q e) := Nat.lt_of_le_of_lt (Int.natAbs_add_le _ _) (Nat.lt_of_lt_of_le (Nat.add_lt_add (ab_mul T1.1 T2.1) (ab_mul (ab_mul T1.2.1 T2.2.1) Cb)) (by decide +kernel))
    have b2 : Sm (w * q + p * u) := Nat.lt_of_le_of_lt (Int.natAbs_add_le _ _) (Nat.lt_of_lt_of_le (Nat.add_lt_add (ab_mul T1.1 T2.2.1) (ab_mul T1.2.1 T2.1)) (by decide +kernel))
    have k2 := x_sign_of (w * u + p * q * cu p c q e) (w * q + p * u) _ b1 b2 SC
    have e1 : sg w p c = sg w p (cu p c q e) := by
      by_cases z : p = 0
      · subst z; exact sg_part0 _ _ _
      · unfold cu; rw [if_pos (.inl z)]
    have e2 : sg u q e = sg u q (cu p c q e) := by
      by_cases z : q = 0
      · subst z; exact sg_part0 _ _ _
      · unfold cu
        by_cases y : p = 0
        · rw [if_neg (by simp [z, y])]
        · rw [if_pos (.inl y)]
          have : c = e := Decidable.byContradiction fun x => h ⟨x, y, z⟩
          rw [this]
    rw [sg_mul _ _ _ _ _ C0, ← e1, ← e2] at k2
    have t1 := x_at_most (w := w) (u := u) h (sm_sub T2.1 T1.1) (sm_sub T2.2.1 T1.2.1) SC
    have t2 := x_at_most (w := u) (u := w) h' (sm_sub T1.1 T2.1) (sm_sub T1.2.1 T2.2.1) (s51 _ (cu_lt T2.2.2.2 T1.2.2.2))
    have e3 : sg (w - u) (p - q) (cu q e p c) = - sg (u - w) (q - p) (cu p c q e) := by
      rw [← sg_neg _ _ _ C0, show -(u - w) = w - u by omega, show -(q - p) = p - q by omega]
      by_cases z : p = q
      · subst z
        rw [Int.sub_self]
        exact sg_part0 _ _ _
      · congr 1
        unfold cu
        by_cases y : p = 0
        · subst y
          rw [if_pos (.inl fun x => z x.symm), if_neg (by simp; exact fun x => z x.symm)]
        · by_cases x : q = 0
          · subst x
            rw [if_neg (by simp [y]), if_pos (.inl y)]
          · rw [if_pos (.inl x), if_pos (.inl y)]
            exact Decidable.byContradiction fun v => h ⟨fun o => v o.symm, y, x⟩
    have e4 : decide (0 ≤ - sg (u - w) (q - p) (cu p c q e)) = decide (sg (u - w) (q - p) (cu p c q e) ≤ 0) := decide_eq_decide.mpr ⟨fun z => by omega, fun z => by omega⟩
    rw [e3, e4] at t2
    obtain ⟨g, d1, r0, r1, B1, q1⟩ := x_great B (by omega)
    obtain ⟨g', d2, r2, B2, q2⟩ := x_signed g B1 (by omega)
    obtain ⟨k, d3, r3, r4, B3, q3⟩ := x_draw 9 B2 (by omega) (by omega) (big (by omega))
    have i3 := x_Bound_init g' 0 k r3
    have a3 := x_added (w := w) (u := g') (p := p) (q := 0) T1.2.2.1 r3 (fun z => z.2.2 rfl)
    have a4 := x_added (w := g') (u := u) (p := 0) (q := q) r3 T2.2.2.1 (fun z => z.2.1 rfl)
    have c3 : cu p c 0 k = c := by unfold cu; rw [if_pos (.inr rfl)]
    rw [c3, Int.add_zero] at a3
    rw [Int.zero_add] at a4
    have hE : ¬ (c ≠ cu 0 k q e ∧ p ≠ 0 ∧ q ≠ 0) := fun z => by
      have : cu 0 k q e = e := by unfold cu; rw [if_neg (by simp [z.2.2])]
      rw [this] at z
      exact h z
    have eC : cu p c q (cu 0 k q e) = cu p c q e := by
      unfold cu
      by_cases z : p ≠ 0 ∨ q = 0
      · rw [if_pos z, if_pos z]
      · have : q ≠ 0 := fun x => z (.inr x)
        rw [if_neg z, if_neg z, if_neg (by simp [this])]
    have t3 := x_at_most (w := w + g') (u := g' + u) (p := p) (c := c) (q := q) (d := cu 0 k q e) hE (by rw [show g' + u - (w + g') = u - w from Lp1 _ _ _]; exact sm_sub T2.1 T1.1) (sm_sub T2.2.1 T1.2.1) (by rw [eC]; exact SC)
    rw [eC, show g' + u - (w + g') = u - w from Lp1 _ _ _] at t3
    have q4 := mulOk_l (a := sg w p c) (b := sg u q e) (by unfold sg; (repeat' split) <;> decide)
    have x1 := x_lcommon0 (w := w) (u := u) h
    refine ⟨d3, B3, ?_⟩
    have mm := sm_mul Sw Su
    have mp := sm_mul Sp Sq
    have mC := sm_mul2 Sp Sq SC
    have mq := sm_mul Sw Sq
    have mu := sm_mul Sp Su
    generalize hL : sg (u - w) (q - p) (cu p c q e) = L at *
    generalize hC : cu p c q e = C at *
    simp [f__law_two_right, i1, i2, x1, a1, a2, x_is, k1, k2, g1, g2, g3, g4, q4, t1, t2, q1, q2, q3, i3, a3, a4, t3, mm, mp, mC, mq, mu]
end K03
set_option maxRecDepth 100000
set_option maxHeartbeats 1000000
namespace K03
open PySem PySem.Spec L2 Pt SX
def Oddv (v : D) : Prop := f_is_integer [v] = .ret (.bl false) .non
theorem x_need_odd {v l m : D} {s : Str} (h : Oddv v) : f_need_number [v, .str s, l, m] = .exc (.exc 1 [(8, .str s)]) .non := by
  unfold Oddv at h
  simp [f_need_number, f_is_within, h]
theorem x_need_below {i : Int} {s : Str} (h : i < 0) : f_need_number [.int i, .str s, .int 0, .non] = .exc (.exc 1 [(8, .str s)]) .non := by
  have : ¬ 0 ≤ i := by omega
  simp [f_need_number, x_is_within1, this]
def made (s : Str) : D := .tup [.str "number", .str s]
theorem x_made_w {v y z : D} (h : Oddv v) : f__law_made [v, y, z] = .ret (made "whole") .non := by
  simp [f__law_made, f_Bound_init, x_need_odd h, tb_BadNumber, List.lookup, made]
theorem x_made_p {a : Int} {v z : D} (h : Oddv v) : f__law_made [.int a, v, z] = .ret (made "part") .non := by
  simp [f__law_made, f_Bound_init, x_need_number0, x_need_odd h, tb_BadNumber, List.lookup, made]
theorem x_made_u {a b : Int} {v : D} (h : Oddv v) : f__law_made [.int a, .int b, v] = .ret (made "under") .non := by
  simp [f__law_made, f_Bound_init, x_need_number0, x_need_odd h, tb_BadNumber, List.lookup, made]
theorem x_made_b {a b c : Int} (h : c < 0) : f__law_made [.int a, .int b, .int c] = .ret (made "under") .non := by
  simp [f__law_made, f_Bound_init, x_need_number0, x_need_below h, tb_BadNumber, List.lookup, made]
def Strange (v : D) : Prop := fIsi cls [v, .glo 6] = some (.bl false)
theorem x_need_strange {v : D} {s : Str} (h : Strange v) : f_need_bound [v, .str s] = .exc (.exc 2 [(8, .str s)]) .non := by
  unfold Strange at h
  simp [f_need_bound, h]
def bad (s : Str) : D := .tup [.str "badbound", .str s]
theorem x_done_one {v y : D} {way : Int} (hw : way = 0 ∨ way = 1 ∨ way = 2) (h : Strange v) : f__law_done [.int way, v, y] = .ret (bad "one") .non := by
  rcases hw with rfl | rfl | rfl
  · simp [f__law_done, f_added, f_common_under, x_need_strange h, tb_BadBound, List.lookup, bad]
  · simp [f__law_done, f_multiplied, f_common_under, x_need_strange h, tb_BadBound, List.lookup, bad]
  · simp [f__law_done, f_at_most, f_common_under, x_need_strange h, tb_BadBound, List.lookup, bad]
theorem x_done_other {v : D} {a b c : Int} {way : Int} (hw : way = 0 ∨ way = 1 ∨ way = 2) (h : Strange v) : f__law_done [.int way, bd a b c, v] = .ret (bad "other") .non := by
  rcases hw with rfl | rfl | rfl
  · simp [f__law_done, f_added, f_common_under, x_need_bound, x_need_strange h, tb_BadBound, List.lookup, bad]
  · simp [f__law_done, f_multiplied, f_common_under, x_need_bound, x_need_strange h, tb_BadBound, List.lookup, bad]
  · simp [f__law_done, f_at_most, f_common_under, x_need_bound, x_need_strange h, tb_BadBound, List.lookup, bad]
theorem x_refused {n : Nat} {d : D} {w p c : Int} (T : Tl w p c) (B : Bg n d) (hn : n + 8 ≤ 1000000) : ∃ d', f__law_refused [d, .tup [.int w, .int p, .int c]] = .ret (.bl true) d' := by
  have i1 := x_Bound_init 1 0 0 (by omega)
  obtain ⟨k1, v1, d1, h1, B1, e1⟩ := x_pick [.bl true, .non, .str "1", .lst [.int 1], .tup [.int 1], bd 1 0 0, .dk [(.inr "a", .int 1)]] B (by omega) (by simp) (by simp)
  obtain ⟨k2, v2, d2, h2, B2, e2⟩ := x_pick [.bl true, .non, .str "1", .lst [.int 1], .tup [.int 1], bd 1 0 0, .dk [(.inr "a", .int 1)]] B1 (by omega) (by simp) (by simp)
  obtain ⟨g, d3, g0, g1, B3, e3⟩ := x_great B2 (by omega)
  have o1 : Oddv v1 := by
    match k1, h1 with
    | 0, h => rw [← Option.some.inj h]; rfl
    | 1, h => rw [← Option.some.inj h]; rfl
    | 2, h => rw [← Option.some.inj h]; rfl
    | 3, h => rw [← Option.some.inj h]; rfl
    | 4, h => rw [← Option.some.inj h]; rfl
    | 5, h => rw [← Option.some.inj h]; rfl
    | 6, h => rw [← Option.some.inj h]; rfl
    | _ + 7, h => simp at h
  have ob : Oddv (.bl false) := rfl
  have i2 := x_Bound_init w p c T.2.2.1
  have bw : w.natAbs < 10 ^ 60 := Nat.lt_trans T.1 (by decide)
  have bp : p.natAbs < 10 ^ 60 := Nat.lt_trans T.2.1 (by decide)
  have bc : c.natAbs < 10 ^ 60 := Nat.lt_trans T.2.2.2 (by decide)
  have st := x_str bw bp bc
  obtain ⟨k3, v3, d4, h3, B4, e4⟩ := x_pick [.tup [.int w, .int p, .int c], .lst [.int w, .int p, .int c], .non, .int w, .str (S (txt w p c)), .bl false] B3 (by omega) (by simp) (by simp)
  have o3 : Strange v3 := by
    match k3, h3 with
    | 0, h => rw [← Option.some.inj h]; rfl
    | 1, h => rw [← Option.some.inj h]; rfl
    | 2, h => rw [← Option.some.inj h]; rfl
    | 3, h => rw [← Option.some.inj h]; rfl
    | 4, h => rw [← Option.some.inj h]; rfl
    | 5, h => rw [← Option.some.inj h]; rfl
    | _ + 6, h => simp at h
  refine ⟨d4, ?_⟩
  have mb := x_made_b (a := w) (b := p) (c := -1 - g) (by omega)
  generalize S (txt w p c) = z at *
  simp [f__law_refused, i1, i2, e1, e2, e3, x_made_w o1, x_made_p o1, x_made_u o1, x_made_u ob, mb, lcD_cons, made, st, e4, loopD_cons, rangeD_succ, x_done_one (.inl rfl) o3, x_done_one (.inr (.inl rfl)) o3, x_done_one (.inr (.inr rfl)) o3, x_done_other (.inl rfl) o3, x_done_other (.inr (.inl rfl)) o3, x_done_other (.inr (.inr rfl)) o3, bad, f_sign_of, x_need_strange o3, tb_BadBound, List.lookup]
theorem law_true (ns : List Int) (h : ns.length ≤ 63) : ∃ o, f_law [.scr ns] = .ret (.bl true) o := by
  have b := x_bag ns h
  have B0 : Bg 0 (.lst [.lst ((ns.take 60).map .int), .int 0, .int 0]) := ⟨ns.take 60, 0, 0, rfl, by rw [List.length_take]; omega, by omega, by omega, by omega⟩
  rw [List.map_take] at b B0
  obtain ⟨w0, p0, c0, d0a, T0, B0a, e0a⟩ := x_told B0 (by omega)
  obtain ⟨u0, q0, f0, d0b, M0, B0b, e0b⟩ := x_other T0 B0a (by omega)
  obtain ⟨d0c, B0c, e0c⟩ := x_one T0 B0b (by omega)
  obtain ⟨d0d, B0d, e0d⟩ := x_two T0.m M0 B0c (by omega)
  obtain ⟨d0e, B0e, e0e⟩ := x_two M0 T0.m B0d (by omega)
  obtain ⟨w1, p1, c1, d1a, T1, B1a, e1a⟩ := x_told B0e (by omega)
  obtain ⟨u1, q1, f1, d1b, M1, B1b, e1b⟩ := x_other T1 B1a (by omega)
  obtain ⟨d1c, B1c, e1c⟩ := x_one T1 B1b (by omega)
  obtain ⟨d1d, B1d, e1d⟩ := x_two T1.m M1 B1c (by omega)
  obtain ⟨d1e, B1e, e1e⟩ := x_two M1 T1.m B1d (by omega)
  obtain ⟨w2, p2, c2, d2a, T2, B2a, e2a⟩ := x_told B1e (by omega)
  obtain ⟨u2, q2, f2, d2b, M2, B2b, e2b⟩ := x_other T2 B2a (by omega)
  obtain ⟨d2c, B2c, e2c⟩ := x_one T2 B2b (by omega)
  obtain ⟨d2d, B2d, e2d⟩ := x_two T2.m M2 B2c (by omega)
  obtain ⟨d2e, B2e, e2e⟩ := x_two M2 T2.m B2d (by omega)
  obtain ⟨w3, p3, c3, d3a, T3, B3a, e3a⟩ := x_told B2e (by omega)
  obtain ⟨u3, q3, f3, d3b, M3, B3b, e3b⟩ := x_other T3 B3a (by omega)
  obtain ⟨d3c, B3c, e3c⟩ := x_one T3 B3b (by omega)
  obtain ⟨d3d, B3d, e3d⟩ := x_two T3.m M3 B3c (by omega)
  obtain ⟨d3e, B3e, e3e⟩ := x_two M3 T3.m B3d (by omega)
  obtain ⟨w4, p4, c4, d4a, T4, B4a, e4a⟩ := x_told B3e (by omega)
  obtain ⟨u4, q4, f4, d4b, M4, B4b, e4b⟩ := x_other T4 B4a (by omega)
  obtain ⟨d4c, B4c, e4c⟩ := x_one T4 B4b (by omega)
  obtain ⟨d4d, B4d, e4d⟩ := x_two T4.m M4 B4c (by omega)
  obtain ⟨d4e, B4e, e4e⟩ := x_two M4 T4.m B4d (by omega)
  obtain ⟨w5, p5, c5, d5a, T5, B5a, e5a⟩ := x_told B4e (by omega)
  obtain ⟨u5, q5, f5, d5b, M5, B5b, e5b⟩ := x_other T5 B5a (by omega)
  obtain ⟨d5c, B5c, e5c⟩ := x_one T5 B5b (by omega)
  obtain ⟨d5d, B5d, e5d⟩ := x_two T5.m M5 B5c (by omega)
  obtain ⟨d5e, B5e, e5e⟩ := x_two M5 T5.m B5d (by omega)
  obtain ⟨w, p, c, d, T, B, e⟩ := x_told B5e (by omega)
  obtain ⟨d', e'⟩ := x_refused T B (by omega)
  refine ⟨.non, ?_⟩
  simp [f_law, b, rangeD_succ, loopD_cons, e0a, e0b, e0c, e0d, e0e, e1a, e1b, e1c, e1d, e1e, e2a, e2b, e2c, e2d, e2e, e3a, e3b, e3c, e3d, e3e, e4a, e4b, e4c, e4d, e4e, e5a, e5b, e5c, e5d, e5e, e, e']
end K03
theorem PySem.Challenge.cw_goodsigns_k03_bounds_by_own_squares_holds : PySem.Challenge.rw_goodsigns_k03_bounds_by_own_squares.Holds := by
  exact K03.holds_of K03.law_true
