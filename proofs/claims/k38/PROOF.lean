import PyProof.Rows.All
import Wide.All
import OpenK.AllK
import Wide.FinOn
import HandS.ForMost
import HandS.ForExc
import HandS.Dict
import HandS.Wide
import HandS.IsInst
import HandS.SetFor
import HandS.Deep
import HandS.More
import HandS.TupAny
import HandS.TupLe
import HandS.RaiseMore
import HandS.ExcIs
import KE.KExcIs
import HandS.SortInts
import HandS.Small
import HandS.CallSlots
import HandS.Flow
import HandS.Zip
import KE.GoesEnum
import HandS.Style
import HandS.Defaults
import HandS.MakeKwOnly
import HandS.OwnEq
import HandS.TryOnly
import HandS.ExcInit
import HandS.ExcField
import HandS.Text
import HandS.FStr
import PyProof.ReprRoads
import PyProof.InstNe
import KE.GoesZip
import KE.GoesEnumKw
import PyProof.RaisesDict
import HandS.TryMany
import HandS.HeadHook1
import HandS.HeadHook2
import HandS.List
import KE.KUnpack
import PyProof.CollectIter
import HandS.HeadEnd
import HandS.Ends
import KE.KStateDown
import Lean
import HandS.Base
import HandS.Call
import HandS.Words
import HandS.WordsExc
import HandS.Head0
import HandS.Head1
import HandS.Head2
import PySem.Challenge.RW_slipwire_k38_sizes_and_every
set_option Elab.async false
set_option linter.all false
set_option maxRecDepth 100000
set_option maxHeartbeats 4000000
namespace MP
open PySem PySem.Spec PyProof.Rows L2
/-! ### values as trees: tuples are values, lists and objects stand in the store -/
inductive W where
  | non | bl (b : Bool) | int (i : Int) | str (x : Str) | ty (n : String) | ref (a : Addr) | cls (c : Nat) | fn (f : Nat) | tup (ws : List W) | kls (ws : List W) | exc (c : Nat) (ks : List Str) (ws : List W)
instance : Inhabited W := ⟨.non⟩
inductive O where
  | lst (xs : List W)
  | frz (xs : List W)
  | dic (kvs : List (Key × W))
  | ins (c : Nat) (fs : List (Str × W))
/-- where classes and functions stand -/
structure Wd where
  cad : Nat → Addr
  fad : Nat → Addr
abbrev Store := Addr → Option O
def put (S : Store) (a : Addr) (o : O) : Store := fun b => if b = a then some o else S b
theorem put_same {S : Store} {a : Addr} {o : O} : put S a o a = some o := if_pos rfl
theorem put_ne {S : Store} {a b : Addr} {o : O} (h : b ≠ a) : put S a o b = S b := if_neg h
/-- a tuple: tracked, or of the written part -/
def TupAt (K : PySem.W.Frag) (H : Hp) (a : Addr) (vs : List V) : Prop := H a = some (.tup vs) ∨
  ∃ (dd : Option Addr) (its : Array Value) (n : Nat) (sl : Array (Option Value)), K.lookup a = some ⟨.type "tuple", dd, .seq its n, sl⟩ ∧ its.size ≤ sizeLine ∧ Vals vs its.toList
theorem TupAt.sq {K : PySem.W.Frag} {H : Hp} {a : Addr} {vs : List V} (h : TupAt K H a vs) : SqT K H a vs := by
  rcases h with h | ⟨dd, its, n, sl, e, z, r⟩
  · exact .of h
  · exact .inr ⟨_, its, n, e, rfl, rfl, z, r⟩
/-- a list of the written part -/
def LstK (K : PySem.W.Frag) (a : Addr) (vs : List V) : Prop := ∃ (o : Obj) (its : Array Value) (n : Nat), K.lookup a = some o ∧ o.cls = .type "list" ∧ o.dict = none ∧ o.data = .seq its n ∧ its.size ≤ sizeLine ∧ Vals vs its.toList
theorem LstK.sq {K : PySem.W.Frag} {H : Hp} {a : Addr} {vs : List V} (h : LstK K a vs) : SqL K H a vs := .inr h
/-- an exception that was caught: its object at a, its dict at d -/
def exT (C a d : Addr) : HO := .ext fun h => ∃ (oe : Obj) (vs : Array Value), h.get? a = some oe ∧ oe.cls = .ref C ∧ oe.dict = some d ∧ oe.data = .fields vs
mutual
def RW (K : PySem.W.Frag) (G : Wd) (H : Hp) : W → V → Prop
  | .non, v => v = .non
  | .bl b, v => v = .bl b
  | .int i, v => v = .int i
  | .str x, v => v = .str x
  | .ty n, v => v = .ty n
  | .ref a, v => v = .ref a
  | .cls c, v => v = .ref (G.cad c)
  | .fn c, v => v = .ref (G.fad c)
  | .tup ws, v => ∃ a vs, v = .ref a ∧ TupAt K H a vs ∧ RWs K G H ws vs
  | .kls ws, v => ∃ a vs, v = .ref a ∧ LstK K a vs ∧ RWs K G H ws vs
  | .exc c ks ws, v => ∃ a d vs, v = .ref a ∧ H a = some (exT (G.cad c) a d) ∧ H d = some (.xd (ks.zip vs)) ∧ RWs K G H ws vs
def RWs (K : PySem.W.Frag) (G : Wd) (H : Hp) : List W → List V → Prop
  | [], vs => vs = []
  | w :: ws, vs => ∃ v r, vs = v :: r ∧ RW K G H w v ∧ RWs K G H ws r
end
/-- what stays: tuples, exceptions and their dicts -/
def fixH : HO → Bool
  | .tup _ => true
  | .xd _ => true
  | .ext _ => true
  | _ => false
def TP (H H' : Hp) : Prop := ∀ a u, fixH u = true → H a = some u → H' a = some u
theorem TP.refl {H : Hp} : TP H H := fun _ _ _ h => h
theorem TP.trans {H H1 H2 : Hp} (a : TP H H1) (b : TP H1 H2) : TP H H2 := fun x u f h => b x u f (a x u f h)
theorem TP.at {K : PySem.W.Frag} {H H' : Hp} (t : TP H H') {a : Addr} {vs : List V} (h : TupAt K H a vs) : TupAt K H' a vs := by
  rcases h with h | h
  · exact .inl (t a _ rfl h)
  · exact .inr h
/-- a new object -/
theorem TP.new {H : Hp} {p : Addr} {o : HO} (hp : H p = none) : TP H (upd H p o) := fun a u _ e => by
  rw [upd_ne (ne_of_none e hp)]; exact e
/-- a write of what need not stay -/
theorem TP.wr {H : Hp} {p : Addr} {o u : HO} (hp : H p = some u) (hu : fixH u = false) : TP H (upd H p o) := fun a v f e => by
  rw [upd_ne]
  · exact e
  · rintro rfl
    rw [hp] at e
    cases e
    rw [hu] at f
    cases f
section
variable {K : PySem.W.Frag} {G : Wd} {H H' : Hp}
mutual
theorem RW.mono (t : TP H H') : ∀ {w : W} {v : V}, RW K G H w v → RW K G H' w v
  | .non, v, h => by simpa only [RW] using h
  | .bl b, v, h => by simpa only [RW] using h
  | .int i, v, h => by simpa only [RW] using h
  | .str x, v, h => by simpa only [RW] using h
  | .ty n, v, h => by simpa only [RW] using h
  | .ref a, v, h => by simpa only [RW] using h
  | .cls a, v, h => by simpa only [RW] using h
  | .fn a, v, h => by simpa only [RW] using h
  | .tup ws, v, h => by
    simp only [RW] at h ⊢
    obtain ⟨a, vs, e, q, r⟩ := h
    exact ⟨a, vs, e, t.at q, RWs.mono t r⟩
  | .kls ws, v, h => by
    simp only [RW] at h ⊢
    obtain ⟨a, vs, e, q, r⟩ := h
    exact ⟨a, vs, e, q, RWs.mono t r⟩
  | .exc c ks ws, v, h => by
    simp only [RW] at h ⊢
    obtain ⟨a, d, vs, e, q1, q2, r⟩ := h
    exact ⟨a, d, vs, e, t _ _ rfl q1, t _ _ rfl q2, RWs.mono t r⟩
theorem RWs.mono (t : TP H H') : ∀ {ws : List W} {vs : List V}, RWs K G H ws vs → RWs K G H' ws vs
  | [], vs, h => by simpa only [RWs] using h
  | w :: ws, vs, h => by
    simp only [RWs] at h ⊢
    obtain ⟨v, r, e, q, z⟩ := h
    exact ⟨v, r, e, RW.mono t q, RWs.mono t z⟩
end
end
section
variable {K : PySem.W.Frag} {G : Wd} {H H' : Hp}
theorem rw_non {v : V} : RW K G H .non v ↔ v = .non := by simp only [RW]
theorem rw_bl {b : Bool} {v : V} : RW K G H (.bl b) v ↔ v = .bl b := by simp only [RW]
theorem rw_int {i : Int} {v : V} : RW K G H (.int i) v ↔ v = .int i := by simp only [RW]
theorem rw_str {x : Str} {v : V} : RW K G H (.str x) v ↔ v = .str x := by simp only [RW]
theorem rw_ty {n : String} {v : V} : RW K G H (.ty n) v ↔ v = .ty n := by simp only [RW]
theorem rw_ref {a : Addr} {v : V} : RW K G H (.ref a) v ↔ v = .ref a := by simp only [RW]
theorem rw_cls {c : Nat} {v : V} : RW K G H (.cls c) v ↔ v = .ref (G.cad c) := by simp only [RW]
theorem rw_fn {c : Nat} {v : V} : RW K G H (.fn c) v ↔ v = .ref (G.fad c) := by simp only [RW]
theorem rw_tup {ws : List W} {v : V} : RW K G H (.tup ws) v ↔ ∃ a vs, v = .ref a ∧ TupAt K H a vs ∧ RWs K G H ws vs := by simp only [RW]
theorem rw_kls {ws : List W} {v : V} : RW K G H (.kls ws) v ↔ ∃ a vs, v = .ref a ∧ LstK K a vs ∧ RWs K G H ws vs := by simp only [RW]
theorem rw_exc {c : Nat} {ks : List Str} {ws : List W} {v : V} : RW K G H (.exc c ks ws) v ↔ ∃ a d vs, v = .ref a ∧ H a = some (exT (G.cad c) a d) ∧ H d = some (.xd (ks.zip vs)) ∧ RWs K G H ws vs := by simp only [RW]
theorem rws_nil {vs : List V} : RWs K G H [] vs ↔ vs = [] := by simp only [RWs]
theorem rws_cons {w : W} {ws : List W} {vs : List V} : RWs K G H (w :: ws) vs ↔ ∃ v r, vs = v :: r ∧ RW K G H w v ∧ RWs K G H ws r := by simp only [RWs]
theorem RWs.cons {w : W} {ws : List W} {v : V} {vs : List V} (a : RW K G H w v) (b : RWs K G H ws vs) : RWs K G H (w :: ws) (v :: vs) := rws_cons.mpr ⟨v, vs, rfl, a, b⟩
theorem RWs.nil : RWs K G H [] [] := rws_nil.mpr rfl
theorem RWs.length : ∀ {ws : List W} {vs : List V}, RWs K G H ws vs → ws.length = vs.length
  | [], vs, h => by rw [rws_nil] at h; subst h; rfl
  | w :: ws, vs, h => by
    obtain ⟨v, r, rfl, _, q⟩ := rws_cons.mp h
    simp [RWs.length q]
theorem RWs.get : ∀ {ws : List W} {vs : List V} {i : Nat} {w : W}, RWs K G H ws vs → ws[i]? = some w → ∃ v, vs[i]? = some v ∧ RW K G H w v
  | [], vs, i, w, h, e => by simp at e
  | x :: ws, vs, 0, w, h, e => by
    obtain ⟨v, r, rfl, a, q⟩ := rws_cons.mp h
    simp at e; subst e
    exact ⟨v, rfl, a⟩
  | x :: ws, vs, i + 1, w, h, e => by
    obtain ⟨v, r, rfl, a, q⟩ := rws_cons.mp h
    obtain ⟨u, h1, h2⟩ := RWs.get q (by simpa using e)
    exact ⟨u, by simpa using h1, h2⟩
theorem RWs.append : ∀ {ws xs : List W} {vs ys : List V}, RWs K G H ws vs → RWs K G H xs ys → RWs K G H (ws ++ xs) (vs ++ ys)
  | [], xs, vs, ys, h, g => by rw [rws_nil] at h; subst h; simpa using g
  | w :: ws, xs, vs, ys, h, g => by
    obtain ⟨v, r, rfl, a, q⟩ := rws_cons.mp h
    exact .cons a (RWs.append q g)
theorem RWs.split : ∀ {ws xs : List W} {vs : List V}, RWs K G H (ws ++ xs) vs → ∃ a b, vs = a ++ b ∧ RWs K G H ws a ∧ RWs K G H xs b
  | [], xs, vs, h => ⟨[], vs, rfl, .nil, h⟩
  | w :: ws, xs, vs, h => by
    obtain ⟨v, r, rfl, a, q⟩ := rws_cons.mp h
    obtain ⟨c, d, rfl, e, f⟩ := RWs.split q
    exact ⟨v :: c, d, rfl, .cons a e, f⟩
theorem RWs.take : ∀ {ws : List W} {vs : List V} (n : Nat), RWs K G H ws vs → RWs K G H (ws.take n) (vs.take n)
  | _, _, 0, _ => by simpa using RWs.nil
  | [], vs, n + 1, h => by rw [rws_nil] at h; subst h; simpa using RWs.nil
  | w :: ws, vs, n + 1, h => by
    obtain ⟨v, r, rfl, a, q⟩ := rws_cons.mp h
    exact .cons a (RWs.take n q)
theorem RWs.drop : ∀ {ws : List W} {vs : List V} (n : Nat), RWs K G H ws vs → RWs K G H (ws.drop n) (vs.drop n)
  | _, _, 0, h => by simpa using h
  | [], vs, n + 1, h => by rw [rws_nil] at h; subst h; simpa using RWs.nil
  | w :: ws, vs, n + 1, h => by
    obtain ⟨v, r, rfl, a, q⟩ := rws_cons.mp h
    simpa using RWs.drop n q
theorem RWs.set : ∀ {ws : List W} {vs : List V} {w : W} {v : V} (i : Nat), RW K G H w v → RWs K G H ws vs → RWs K G H (ws.set i w) (vs.set i v)
  | [], vs, w, v, i, _, h => by rw [rws_nil] at h; subst h; simpa using RWs.nil
  | x :: ws, vs, w, v, 0, c, h => by
    obtain ⟨v', r, rfl, a, q⟩ := rws_cons.mp h
    exact .cons c q
  | x :: ws, vs, w, v, i + 1, c, h => by
    obtain ⟨v', r, rfl, a, q⟩ := rws_cons.mp h
    exact .cons a (RWs.set i c q)
theorem RWs.reverse {ws : List W} : ∀ {vs : List V}, RWs K G H ws vs → RWs K G H ws.reverse vs.reverse := by
  induction ws with
  | nil => intro vs h; rw [rws_nil] at h; subst h; simpa using RWs.nil
  | cons w ws ih =>
    intro vs h
    obtain ⟨v, r, rfl, a, q⟩ := rws_cons.mp h
    rw [List.reverse_cons, List.reverse_cons]
    exact (ih q).append (.cons a .nil)
theorem RWs.rep {ws : List W} {vs : List V} (h : RWs K G H ws vs) : ∀ k : Nat, RWs K G H (List.replicate k ws).flatten (List.replicate k vs).flatten
  | 0 => by simpa using RWs.nil
  | k + 1 => by
    rw [List.replicate_succ, List.replicate_succ, List.flatten_cons, List.flatten_cons]
    exact h.append (RWs.rep h k)
theorem RWs.erase : ∀ {ws : List W} {vs : List V} (i : Nat), RWs K G H ws vs → RWs K G H (ws.eraseIdx i) (vs.eraseIdx i)
  | [], vs, i, h => by rw [rws_nil] at h; subst h; simpa using RWs.nil
  | x :: ws, vs, 0, h => by
    obtain ⟨v', r, rfl, a, q⟩ := rws_cons.mp h
    simpa using q
  | x :: ws, vs, i + 1, h => by
    obtain ⟨v', r, rfl, a, q⟩ := rws_cons.mp h
    exact .cons a (RWs.erase i q)
theorem RWs.ints : ∀ {ns : List Int} {vs : List V}, RWs K G H (ns.map W.int) vs ↔ vs = ns.map V.int
  | [], vs => by simp [rws_nil]
  | n :: ns, vs => by
    rw [List.map_cons, rws_cons, List.map_cons]
    constructor
    · rintro ⟨v, r, rfl, a, q⟩
      rw [rw_int] at a; rw [RWs.ints] at q
      rw [a, q]
    · intro e
      exact ⟨_, _, e, rw_int.mpr rfl, RWs.ints.mpr rfl⟩
theorem RWs.bls : ∀ {ns : List Bool} {vs : List V}, RWs K G H (ns.map W.bl) vs ↔ vs = ns.map V.bl
  | [], vs => by simp [rws_nil]
  | n :: ns, vs => by
    rw [List.map_cons, rws_cons, List.map_cons]
    constructor
    · rintro ⟨v, r, rfl, a, q⟩
      rw [rw_bl] at a; rw [RWs.bls] at q
      rw [a, q]
    · intro e
      exact ⟨_, _, e, rw_bl.mpr rfl, RWs.bls.mpr rfl⟩
/-! ### objects -/
def RKV (K : PySem.W.Frag) (G : Wd) (H : Hp) {κ : Type} : List (κ × W) → List (κ × V) → Prop
  | [], l => l = []
  | (k, w) :: r, l => ∃ v l', l = (k, v) :: l' ∧ RW K G H w v ∧ RKV K G H r l'
theorem RKV.mono {κ : Type} (t : TP H H') : ∀ {l : List (κ × W)} {m : List (κ × V)}, RKV K G H l m → RKV K G H' l m
  | [], m, h => h
  | (k, w) :: r, m, h => by
    obtain ⟨v, l', e, a, q⟩ := h
    exact ⟨v, l', e, a.mono t, RKV.mono t q⟩
theorem RKV.length {κ : Type} : ∀ {l : List (κ × W)} {m : List (κ × V)}, RKV K G H l m → l.length = m.length
  | [], m, h => by cases h; rfl
  | (k, w) :: r, m, h => by
    obtain ⟨v, l', e, a, q⟩ := h
    subst e
    simp [RKV.length q]
theorem RKV.lookup {κ : Type} [BEq κ] : ∀ {l : List (κ × W)} {m : List (κ × V)} {k : κ}, RKV K G H l m →
    (∀ w, l.lookup k = some w → ∃ v, m.lookup k = some v ∧ RW K G H w v) ∧ (l.lookup k = none → m.lookup k = none)
  | [], m, k, h => by cases h; exact ⟨fun _ e => (by cases e), fun _ => rfl⟩
  | (x, w) :: r, m, k, h => by
    obtain ⟨v, l', e, a, q⟩ := h
    subst e
    obtain ⟨i1, i2⟩ := RKV.lookup (k := k) q
    simp only [List.lookup]
    cases hk : k == x with
    | true => exact ⟨fun u e => (by cases e; exact ⟨v, rfl, a⟩), fun e => (by cases e)⟩
    | false => exact ⟨i1, i2⟩
def RO (K : PySem.W.Frag) (G : Wd) (H : Hp) : O → HO → Prop
  | .lst ws, u => ∃ vs, u = .lst vs ∧ RWs K G H ws vs
  | .frz ws, u => ∃ o vs, u = .frz o (.lst vs) ∧ RWs K G H ws vs
  | .dic kvs, u => ∃ kv, u = .dK kv ∧ RKV K G H kvs kv
  | .ins C fs, u => ∃ dx gs, u = .ins (G.cad C) dx gs ∧ RKV K G H fs gs
theorem RO.mono (t : TP H H') {o : O} {u : HO} (h : RO K G H o u) : RO K G H' o u := by
  cases o with
  | lst ws => obtain ⟨vs, e, r⟩ := h; exact ⟨vs, e, r.mono t⟩
  | frz ws => obtain ⟨o, vs, e, r⟩ := h; exact ⟨o, vs, e, r.mono t⟩
  | dic kvs => obtain ⟨kv, e, r⟩ := h; exact ⟨kv, e, r.mono t⟩
  | ins C fs => obtain ⟨dx, gs, e, r⟩ := h; exact ⟨dx, gs, e, r.mono t⟩
theorem RO.notup {o : O} {u : HO} (h : RO K G H o u) : fixH u = false := by
  cases o with
  | lst ws => obtain ⟨vs, e, r⟩ := h; subst e; rfl
  | frz ws => obtain ⟨o, vs, e, r⟩ := h; subst e; rfl
  | dic kvs => obtain ⟨kv, e, r⟩ := h; subst e; rfl
  | ins C fs => obtain ⟨dx, gs, e, r⟩ := h; subst e; rfl
/-- the store is held -/
def RS (K : PySem.W.Frag) (G : Wd) (S : Store) (H : Hp) : Prop := ∀ a o, S a = some o → ∃ u, H a = some u ∧ RO K G H o u
theorem RS.free {S : Store} (h : RS K G S H) {p : Addr} (e : H p = none) : S p = none := by
  cases q : S p with
  | none => rfl
  | some o =>
    obtain ⟨u, e', _⟩ := h p o q
    rw [e] at e'; cases e'
theorem RS.lst {S : Store} (h : RS K G S H) {a : Addr} {ws : List W} (e : S a = some (.lst ws)) : ∃ vs, H a = some (.lst vs) ∧ RWs K G H ws vs := by
  obtain ⟨u, e', r⟩ := h a _ e
  obtain ⟨vs, rfl, q⟩ := r
  exact ⟨vs, e', q⟩
/-- a new object -/
theorem RS.new {S : Store} (h : RS K G S H) {p : Addr} {o : O} {u : HO} (e : H p = none) (r : RO K G H o u) : RS K G (put S p o) (upd H p u) := fun a x q => by
  by_cases c : a = p
  · subst c
    rw [put_same] at q; cases q
    exact ⟨u, upd_same, r.mono (.new e)⟩
  · rw [put_ne c] at q
    obtain ⟨v, e', r'⟩ := h a x q
    exact ⟨v, by rw [upd_ne c]; exact e', r'.mono (.new e)⟩
/-- an object that is not the store's: a tuple, an own dict -/
theorem RS.newT {S : Store} (h : RS K G S H) {p : Addr} {u : HO} (e : H p = none) : RS K G S (upd H p u) := fun a x q => by
  obtain ⟨v, e', r'⟩ := h a x q
  exact ⟨v, by rw [upd_ne (ne_of_none e' e)]; exact e', r'.mono (.new e)⟩
/-- an object is written -/
theorem RS.wr {S : Store} (h : RS K G S H) {p : Addr} {o o' : O} {u u' : HO} (e : S p = some o) (eu : H p = some u) (r : RO K G H o' u') : RS K G (put S p o') (upd H p u') ∧ TP H (upd H p u') := by
  have ht : fixH u = false := by
    obtain ⟨v, e', r'⟩ := h p o e
    rw [eu] at e'; cases e'
    exact r'.notup
  have t : TP H (upd H p u') := .wr eu ht
  refine ⟨fun a x q => ?_, t⟩
  by_cases c : a = p
  · subst c
    rw [put_same] at q; cases q
    exact ⟨u', upd_same, r.mono t⟩
  · rw [put_ne c] at q
    obtain ⟨v, e', r'⟩ := h a x q
    exact ⟨v, by rw [upd_ne c]; exact e', r'.mono t⟩
end
/-! ### the names' values -/
abbrev Sw := List (Option W)
def RSt (K : PySem.W.Frag) (G : Wd) (H : Hp) (σw : Sw) (σ : L2.St) : Prop := σw.length = σ.length ∧ ∀ (i : Nat) (w : W), σw[i]? = some (some w) → ∃ v, σ[i]? = some (some v) ∧ RW K G H w v
theorem RSt.mono {K : PySem.W.Frag} {G : Wd} {H H' : Hp} {σw : Sw} {σ : L2.St} (t : TP H H') (h : RSt K G H σw σ) : RSt K G H' σw σ := ⟨h.1, fun i w e => by
  obtain ⟨v, a, b⟩ := h.2 i w e
  exact ⟨v, a, b.mono t⟩⟩
theorem RSt.set {K : PySem.W.Frag} {G : Wd} {H : Hp} {σw : Sw} {σ : L2.St} (h : RSt K G H σw σ) {w : W} {v : V} (i : Nat) (r : RW K G H w v) : RSt K G H (σw.set i (some w)) (σ.set i (some v)) := ⟨by simpa using h.1, fun j x e => by
  by_cases c : i = j
  · subst c
    by_cases hi : i < σw.length
    · rw [List.getElem?_set_self hi] at e
      cases e
      exact ⟨v, List.getElem?_set_self (by rw [← h.1]; exact hi), r⟩
    · rw [List.getElem?_eq_none (by simpa using hi)] at e; cases e
  · rw [List.getElem?_set_ne c] at e
    obtain ⟨u, a, b⟩ := h.2 j x e
    exact ⟨u, by rw [List.getElem?_set_ne c]; exact a, b⟩⟩
theorem RSt.unset {K : PySem.W.Frag} {G : Wd} {H : Hp} {σw : Sw} {σ : L2.St} (h : RSt K G H σw σ) (i : Nat) : RSt K G H (σw.set i none) (σ.set i none) := ⟨by simpa using h.1, fun j x e => by
  by_cases c : i = j
  · subst c
    by_cases hi : i < σw.length
    · rw [List.getElem?_set_self hi] at e
      cases e
    · rw [List.getElem?_eq_none (by simpa using hi)] at e; cases e
  · rw [List.getElem?_set_ne c] at e
    obtain ⟨u, a, b⟩ := h.2 j x e
    exact ⟨u, by rw [List.getElem?_set_ne c]; exact a, b⟩⟩
/-! ### dicts that change -/
def lkD (kvs : List (Key × W)) (k : Key) : Option W := (kvs.find? fun kv => decide (kv.1 = k)).map (·.2)
def putD (kvs : List (Key × W)) (k : Key) (w : W) : List (Key × W) := if (kvs.any fun kv => decide (kv.1 = k)) = true then kvs.map (fun kv => if kv.1 = k then (kv.1, w) else kv) else kvs ++ [(k, w)]
def dropD (kvs : List (Key × W)) (k : Key) : List (Key × W) := kvs.filter fun kv => decide (kv.1 ≠ k)
def keyW : W → Option Key
  | .int i => some (.inl i)
  | .str x => some (.inr x)
  | _ => none
theorem keyW_rel {K : PySem.W.Frag} {G : Wd} {H : Hp} {x : W} {v : V} {k : Key} (r : RW K G H x v) (e : keyW x = some k) : v = kV k := by
  cases x <;> first | (cases e; done) | skip
  · cases e; exact rw_int.mp r
  · cases e; exact rw_str.mp r
section
variable {K : PySem.W.Frag} {G : Wd} {H : Hp}
theorem RKV.val : ∀ {kvs : List (Key × W)} {ms : List (Key × V)} (k : Key), RKV K G H kvs ms → (lkD kvs k = none → valV ms k = none) ∧ ∀ w, lkD kvs k = some w → ∃ v, valV ms k = some v ∧ RW K G H w v
  | [], ms, k, h => by cases h; exact ⟨fun _ => rfl, fun w e => (by cases e)⟩
  | (j, x) :: kvs, ms, k, h => by
    obtain ⟨v, l, rfl, a, q⟩ := h
    by_cases c : j = k
    · subst c
      refine ⟨fun e => ?_, fun w e => ?_⟩
      · simp [lkD, List.find?_cons] at e
      · have : x = w := by simpa [lkD, List.find?_cons] using e
        subst this
        exact ⟨v, by simp [valV, List.find?_cons], a⟩
    · have e1 : lkD ((j, x) :: kvs) k = lkD kvs k := by simp [lkD, List.find?_cons, c]
      have e2 : valV ((j, v) :: l) k = valV l k := by simp [valV, List.find?_cons, c]
      rw [e1, e2]
      exact RKV.val k q
theorem RKV.any : ∀ {kvs : List (Key × W)} {ms : List (Key × V)} (k : Key), RKV K G H kvs ms → (kvs.any fun kv => decide (kv.1 = k)) = ms.any fun kv => decide (kv.1 = k)
  | [], ms, k, h => by cases h; rfl
  | (j, x) :: kvs, ms, k, h => by
    obtain ⟨v, l, rfl, a, q⟩ := h
    simp only [List.any_cons, RKV.any k q]
theorem RKV.repl {w : W} {v : V} (rv : RW K G H w v) : ∀ {kvs : List (Key × W)} {ms : List (Key × V)} (k : Key), RKV K G H kvs ms → RKV K G H (kvs.map fun kv => if kv.1 = k then (kv.1, w) else kv) (ms.map fun kv => if kv.1 = k then (kv.1, v) else kv)
  | [], ms, k, h => by cases h; exact rfl
  | (j, x) :: kvs, ms, k, h => by
    obtain ⟨u, l, rfl, a, q⟩ := h
    show RKV K G H ((if j = k then (j, w) else (j, x)) :: kvs.map fun kv => if kv.1 = k then (kv.1, w) else kv) ((if j = k then (j, v) else (j, u)) :: l.map fun kv => if kv.1 = k then (kv.1, v) else kv)
    by_cases c : j = k
    · rw [if_pos c, if_pos c]; exact ⟨v, _, rfl, rv, RKV.repl rv k q⟩
    · rw [if_neg c, if_neg c]; exact ⟨u, _, rfl, a, RKV.repl rv k q⟩
theorem RKV.snoc {w : W} {v : V} {k : Key} (rv : RW K G H w v) : ∀ {kvs : List (Key × W)} {ms : List (Key × V)}, RKV K G H kvs ms → RKV K G H (kvs ++ [(k, w)]) (ms ++ [(k, v)])
  | [], ms, h => by cases h; exact ⟨v, [], rfl, rv, rfl⟩
  | (j, x) :: kvs, ms, h => by
    obtain ⟨u, l, rfl, a, q⟩ := h
    exact ⟨u, _, rfl, a, RKV.snoc rv q⟩
theorem RKV.putD {w : W} {v : V} {k : Key} {kvs : List (Key × W)} {ms : List (Key × V)} (r : RKV K G H kvs ms) (rv : RW K G H w v) : RKV K G H (putD kvs k w) (putK ms k v) := by
  unfold MP.putD L2.putK
  rw [r.any k]
  split
  · exact r.repl rv k
  · exact r.snoc rv
theorem RKV.dropD {k : Key} : ∀ {kvs : List (Key × W)} {ms : List (Key × V)}, RKV K G H kvs ms → RKV K G H (dropD kvs k) (dropK ms k)
  | [], ms, h => by cases h; exact rfl
  | (j, x) :: kvs, ms, h => by
    obtain ⟨u, l, rfl, a, q⟩ := h
    by_cases c : j = k
    · have e1 : MP.dropD ((j, x) :: kvs) k = MP.dropD kvs k := by simp [MP.dropD, c]
      have e2 : dropK ((j, u) :: l) k = dropK l k := by simp [dropK, c]
      rw [e1, e2]; exact RKV.dropD q
    · have e1 : MP.dropD ((j, x) :: kvs) k = (j, x) :: MP.dropD kvs k := by simp [MP.dropD, c]
      have e2 : dropK ((j, u) :: l) k = (j, u) :: dropK l k := by simp [dropK, c]
      rw [e1, e2]; exact ⟨u, _, rfl, a, RKV.dropD q⟩
theorem RS.dic {S : Store} (h : RS K G S H) {a : Addr} {kvs : List (Key × W)} (e : S a = some (.dic kvs)) : ∃ ms, H a = some (.dK ms) ∧ RKV K G H kvs ms := by
  obtain ⟨u, e', r⟩ := h a _ e
  obtain ⟨ms, rfl, q⟩ := r
  exact ⟨ms, e', q⟩
end
end MP
set_option Elab.async false
set_option linter.all false
set_option maxRecDepth 100000
set_option maxHeartbeats 4000000
namespace MP
open PySem PySem.Spec PyProof.Rows L2
abbrev WP := W → Store → Prop
/-- what is wanted of a value, by trees -/
def Lf (K : PySem.W.Frag) (G : Wd) (H : Hp) (Q : VK) : WP := fun w S => ∀ v H', RW K G H' w v → RS K G S H' → TP H H' → Q v H'
/-! ### binary operations -/
def addW (x y : W) (S : Store) (Q : WP) : Prop :=
  match x, y with
  | .int i, .int j => Q (.int (i + j)) S
  | .str a, .str b => a.length + b.length ≤ sizeLine ∧ Q (.str (a ++ b)) S
  | .tup a, .tup b => a.length + b.length ≤ sizeLine ∧ Q (.tup (a ++ b)) S
  | .ref a, .ref b => (match S a, S b with
    | some (.lst xs), some (.lst ys) => xs.length + ys.length ≤ sizeLine ∧ ∀ p, S p = none → Q (.ref p) (put S p (.lst (xs ++ ys)))
    | _, _ => False)
  | _, _ => False
def subW (x y : W) (S : Store) (Q : WP) : Prop :=
  match x, y with
  | .int i, .int j => Q (.int (i - j)) S
  | _, _ => False
def mulW (x y : W) (S : Store) (Q : WP) : Prop :=
  match x, y with
  | .int i, .int j => (CMul i j ∨ CMulW i j) ∧ Q (.int (i * j)) S
  | .ref a, .int k => (match S a with
    | some (.lst xs) => -(2 ^ 63) ≤ k ∧ k < 2 ^ 63 ∧ xs.length * k.toNat ≤ sizeLine ∧ ∀ p, S p = none → Q (.ref p) (put S p (.lst (List.replicate k.toNat xs).flatten))
    | _ => False)
  | _, _ => False
def fdivW (x y : W) (S : Store) (Q : WP) : Prop :=
  match x, y with
  | .int i, .int j => (CDiv i j ∨ CDivW i j) ∧ Q (.int (i / j)) S
  | _, _ => False
def modW (x y : W) (S : Store) (Q : WP) : Prop :=
  match x, y with
  | .int i, .int j => 0 < j ∧ Q (.int (i % j)) S
  | _, _ => False
def powW (x y : W) (S : Store) (Q : WP) : Prop :=
  match x, y with
  | .int i, .int j => CPow i j ∧ Q (.int (i ^ j.toNat)) S
  | _, _ => False
def xorW (x y : W) (S : Store) (Q : WP) : Prop :=
  match x, y with
  | .int i, .int j => Q (.int (Builtin.bitXor i j)) S
  | _, _ => False
def binW (op : Operator) (x y : W) (S : Store) (Q : WP) : Prop :=
  match op with
  | .Add => addW x y S Q
  | .Sub => subW x y S Q
  | .Mult => mulW x y S Q
  | .FloorDiv => fdivW x y S Q
  | .Mod => modW x y S Q
  | .Pow => powW x y S Q
  | .BitXor => xorW x y S Q
  | _ => False
/-- an operation on trees lifted to the layer's -/
def lift2 (K : PySem.W.Frag) (G : Wd) (b : W → W → Store → WP → Prop) : R2 := fun v u H Q => ∃ (x y : W) (S : Store) (Q0 : WP), RW K G H x v ∧ RW K G H y u ∧ RS K G S H ∧ b x y S Q0 ∧ ∀ w S', Q0 w S' → Lf K G H Q w S'
section
variable {K : PySem.W.Frag} {G : Wd} {H : Hp} {S : Store} {Q : VK}
theorem Lf.same {w : W} {v : V} (h : Lf K G H Q w S) (r : RW K G H w v) (s : RS K G S H) : Q v H := h v H r s .refl
theorem Lf.tup {ws : List W} {vs : List V} {p : Addr} (h : Lf K G H Q (.tup ws) S) (r : RWs K G H ws vs) (s : RS K G S H) (e : H p = none) : Q (.ref p) (upd H p (.tup vs)) :=
  h _ _ (rw_tup.mpr ⟨p, vs, rfl, .inl upd_same, r.mono (.new e)⟩) (s.newT e) (.new e)
theorem Lf.new {p : Addr} {o : O} {u : HO} (h : Lf K G H Q (.ref p) (put S p o)) (r : RO K G H o u) (s : RS K G S H) (e : H p = none) : Q (.ref p) (upd H p u) :=
  h _ _ (rw_ref.mpr rfl) (s.new e r) (.new e)
theorem Lf.wr {p : Addr} {w : W} {v : V} {o o' : O} {u u' : HO} (h : Lf K G H Q w (put S p o')) (r : RW K G H w v) (s : RS K G S H) (e : S p = some o) (eu : H p = some u) (r' : RO K G H o' u') : Q v (upd H p u') := by
  obtain ⟨a, b⟩ := s.wr e eu r'
  exact h _ _ (r.mono b) a b
end
/-- items that are read -/
def items? (S : Store) : W → Option (List W)
  | .ref a => (match S a with
    | some (.lst xs) => some xs
    | some (.frz xs) => some xs
    | _ => none)
  | .tup ws => some ws
  | .kls ws => some ws
  | _ => none
theorem items_ok {K : PySem.W.Frag} {G : Wd} {H : Hp} {S : Store} (s : RS K G S H) {w : W} {v : V} {ws : List W} (r : RW K G H w v) (e : items? S w = some ws) : ∃ a vs, v = .ref a ∧ (SqL K H a vs ∨ SqT K H a vs) ∧ RWs K G H ws vs := by
  cases w with
  | ref a =>
    rw [rw_ref] at r
    simp only [items?] at e
    cases q : S a with
    | none => rw [q] at e; cases e
    | some o =>
      rw [q] at e
      obtain ⟨u, hu, ro⟩ := s a o q
      cases o with
      | lst xs =>
        cases e
        obtain ⟨vs, rfl, z⟩ := ro
        exact ⟨a, vs, r, .inl (.of hu), z⟩
      | frz xs =>
        cases e
        obtain ⟨o, vs, rfl, z⟩ := ro
        exact ⟨a, vs, r, .inl (.inl (.inr ⟨o, hu⟩)), z⟩
      | _ => cases e
  | tup xs =>
    cases e
    obtain ⟨a, vs, e1, q, z⟩ := rw_tup.mp r
    exact ⟨a, vs, e1, .inr q.sq, z⟩
  | kls xs =>
    cases e
    obtain ⟨a, vs, e1, q, z⟩ := rw_kls.mp r
    exact ⟨a, vs, e1, .inl q.sq, z⟩
  | _ => cases e
section
variable {X : Cx} {G : Wd}
theorem op_addW : OpR X (binaryOp .Add) (lift2 X.K G addW) := by
  intro pins s σ H x y v u Q I rx ry h
  obtain ⟨a, b, S, Q0, ra, rb, rs, q, hq⟩ := h
  cases a with
  | int i =>
    cases b with
    | int j =>
      rw [rw_int] at ra rb
      exact op_add pins s σ H x y v u Q I rx ry ⟨i, j, ra, rb, Lf.same (hq _ _ q) (rw_int.mpr rfl) rs⟩
    | _ => exact q.elim
  | str i =>
    cases b with
    | str j =>
      rw [rw_str] at ra rb
      exact op_add_str pins s σ H x y v u Q I rx ry ⟨i, j, ra, rb, q.1, Lf.same (hq _ _ q.2) (rw_str.mpr rfl) rs⟩
    | _ => exact q.elim
  | tup i =>
    cases b with
    | tup j =>
      obtain ⟨p, xs, e1, t1, r1⟩ := rw_tup.mp ra
      obtain ⟨p2, ys, e2, t2, r2⟩ := rw_tup.mp rb
      obtain ⟨q0, q⟩ := q
      refine op_catA pins s σ H x y v u Q I rx ry ⟨p, p2, xs, ys, e1, e2, t1.sq, t2.sq, (by rw [← r1.length, ← r2.length]; exact q0), fun z => ?_, fun z z2 => ?_, fun z z2 d hd => ?_⟩
      · subst z
        have : i = [] := List.length_eq_zero_iff.mp (by rw [r1.length]; rfl)
        subst this
        exact Lf.same (hq _ _ q) (by simpa using rb.mono .refl |> fun _ => (rw_tup.mpr ⟨p2, ys, rfl, t2, r2⟩)) rs
      · subst z2
        have : j = [] := List.length_eq_zero_iff.mp (by rw [r2.length]; rfl)
        subst this
        exact Lf.same (hq _ _ q) (by simpa using (rw_tup.mpr ⟨p, xs, rfl, t1, r1⟩)) rs
      · exact Lf.tup (hq _ _ q) (r1.append r2) rs hd
    | _ => exact q.elim
  | ref i =>
    cases b with
    | ref j =>
      rw [rw_ref] at ra rb
      simp only [addW] at q
      split at q
      · rename_i xs ys e1 e2
        obtain ⟨q0, q⟩ := q
        obtain ⟨vs, h1, r1⟩ := rs.lst e1
        obtain ⟨us, h2, r2⟩ := rs.lst e2
        exact op_cat pins s σ H x y v u Q I rx ry ⟨i, j, vs, us, ra, rb, h1, h2, (by rw [← r1.length, ← r2.length]; exact q0), fun p hp => (Lf.new (hq _ _ (q p (rs.free hp))) ⟨_, rfl, r1.append r2⟩ rs hp)⟩
      · exact q.elim
    | _ => exact q.elim
  | _ => exact q.elim
theorem op_subW : OpR X (binaryOp .Sub) (lift2 X.K G subW) := by
  intro pins s σ H x y v u Q I rx ry h
  obtain ⟨a, b, S, Q0, ra, rb, rs, q, hq⟩ := h
  cases a <;> first | exact q.elim | skip
  cases b <;> first | exact q.elim | skip
  rw [rw_int] at ra rb
  exact op_sub pins s σ H x y v u Q I rx ry ⟨_, _, ra, rb, Lf.same (hq _ _ q) (rw_int.mpr rfl) rs⟩
theorem op_modW : OpR X (binaryOp .Mod) (lift2 X.K G modW) := by
  intro pins s σ H x y v u Q I rx ry h
  obtain ⟨a, b, S, Q0, ra, rb, rs, q, hq⟩ := h
  cases a <;> first | exact q.elim | skip
  cases b <;> first | exact q.elim | skip
  rw [rw_int] at ra rb
  exact op_mod pins s σ H x y v u Q I rx ry ⟨_, _, ra, rb, q.1, Lf.same (hq _ _ q.2) (rw_int.mpr rfl) rs⟩
theorem op_powW : OpR X (binaryOp .Pow) (lift2 X.K G powW) := by
  intro pins s σ H x y v u Q I rx ry h
  obtain ⟨a, b, S, Q0, ra, rb, rs, q, hq⟩ := h
  cases a <;> first | exact q.elim | skip
  cases b <;> first | exact q.elim | skip
  rw [rw_int] at ra rb
  exact op_pow pins s σ H x y v u Q I rx ry ⟨_, _, ra, rb, q.1, Lf.same (hq _ _ q.2) (rw_int.mpr rfl) rs⟩
theorem op_xorW : OpR X (binaryOp .BitXor) (lift2 X.K G xorW) := by
  intro pins s σ H x y v u Q I rx ry h
  obtain ⟨a, b, S, Q0, ra, rb, rs, q, hq⟩ := h
  cases a <;> first | exact q.elim | skip
  cases b <;> first | exact q.elim | skip
  rw [rw_int] at ra rb
  exact op_xor pins s σ H x y v u Q I rx ry ⟨_, _, ra, rb, Lf.same (hq _ _ q) (rw_int.mpr rfl) rs⟩
theorem op_fdivM : OpR X (binaryOp .FloorDiv) (lift2 X.K G fdivW) := by
  intro pins s σ H x y v u Q I rx ry h
  obtain ⟨a, b, S, Q0, ra, rb, rs, q, hq⟩ := h
  cases a <;> first | exact q.elim | skip
  cases b <;> first | exact q.elim | skip
  rw [rw_int] at ra rb
  obtain ⟨c | c, q⟩ := q
  · exact op_fdiv pins s σ H x y v u Q I rx ry ⟨_, _, ra, rb, c, Lf.same (hq _ _ q) (rw_int.mpr rfl) rs⟩
  · exact op_fdivW pins s σ H x y v u Q I rx ry ⟨_, _, ra, rb, c, Lf.same (hq _ _ q) (rw_int.mpr rfl) rs⟩
theorem op_mulM : OpR X (binaryOp .Mult) (lift2 X.K G mulW) := by
  intro pins s σ H x y v u Q I rx ry h
  obtain ⟨a, b, S, Q0, ra, rb, rs, q, hq⟩ := h
  cases a with
  | int i =>
    cases b <;> first | exact q.elim | skip
    rw [rw_int] at ra rb
    obtain ⟨c | c, q⟩ := q
    · exact op_mul pins s σ H x y v u Q I rx ry ⟨_, _, ra, rb, c, Lf.same (hq _ _ q) (rw_int.mpr rfl) rs⟩
    · exact op_mulW pins s σ H x y v u Q I rx ry ⟨_, _, ra, rb, c, Lf.same (hq _ _ q) (rw_int.mpr rfl) rs⟩
  | ref i =>
    cases b <;> first | exact q.elim | skip
    rw [rw_ref] at ra
    rw [rw_int] at rb
    simp only [mulW] at q
    split at q
    · rename_i xs e
      obtain ⟨q1, q2, q3, q⟩ := q
      obtain ⟨vs, h1, r1⟩ := rs.lst e
      exact op_rep pins s σ H x y v u Q I rx ry ⟨i, _, vs, ra, rb, h1, q1, q2, (by rw [← r1.length]; exact q3), fun p hp => Lf.new (hq _ _ (q p (rs.free hp))) ⟨_, rfl, r1.rep _⟩ rs hp⟩
    · exact q.elim
  | _ => exact q.elim
/-- all binary operators -/
theorem op_binW (op : Operator) : OpR X (binaryOp op) (lift2 X.K G (binW op)) := by
  cases op with
  | Add => exact op_addW
  | Sub => exact op_subW
  | Mult => exact op_mulM
  | FloorDiv => exact op_fdivM
  | Mod => exact op_modW
  | Pow => exact op_powW
  | BitXor => exact op_xorW
  | _ => intro pins s σ H x y v u Q I rx ry h; obtain ⟨a, b, S, Q0, ra, rb, rs, q, hq⟩ := h; exact q.elim
end
/-! ### comparisons -/
mutual
def Dw (S : Store) : PyData → W → Prop
  | .none, w => w = .non
  | .bool b, w => w = .bl b
  | .int i, w => w = .int i
  | .str x, w => w = .str x
  | .list ds, w => ∃ a ws, w = .ref a ∧ items? S w = some ws ∧ DwAll S ds ws
  | .tuple ds, w => ∃ ws, w = .tup ws ∧ DwAll S ds ws
  | .dict _, _ => False
def DwAll (S : Store) : List PyData → List W → Prop
  | [], ws => ws = []
  | d :: ds, ws => ∃ w r, ws = w :: r ∧ Dw S d w ∧ DwAll S ds r
end
section
variable {K : PySem.W.Frag} {G : Wd} {H : Hp} {S : Store}
mutual
theorem Dw.dp (s : RS K G S H) : ∀ {d : PyData} {w : W} {v : V}, Dw S d w → RW K G H w v → Dp K H v d
  | .none, w, v, h, r => by simp only [Dw] at h; subst h; rw [rw_non] at r; subst r; exact .non
  | .bool b, w, v, h, r => by simp only [Dw] at h; subst h; rw [rw_bl] at r; subst r; exact .bl _
  | .int b, w, v, h, r => by simp only [Dw] at h; subst h; rw [rw_int] at r; subst r; exact .int _
  | .str b, w, v, h, r => by simp only [Dw] at h; subst h; rw [rw_str] at r; subst r; exact .str _
  | .list ds, w, v, h, r => by
    simp only [Dw] at h
    obtain ⟨a, ws, rfl, e, al⟩ := h
    simp only [items?] at e
    rw [rw_ref] at r
    subst r
    cases q : S a with
    | none => rw [q] at e; cases e
    | some o =>
      rw [q] at e
      obtain ⟨u, hu, ro⟩ := s a o q
      cases o with
      | lst xs =>
        cases e
        obtain ⟨vs, rfl, z⟩ := ro
        exact .lst (.of hu) (DwAll.dp s al z)
      | frz xs =>
        cases e
        obtain ⟨o, vs, rfl, z⟩ := ro
        exact .lst (.inl (.inr ⟨o, hu⟩)) (DwAll.dp s al z)
      | _ => cases e
  | .tuple ds, w, v, h, r => by
    simp only [Dw] at h
    obtain ⟨ws, rfl, al⟩ := h
    obtain ⟨a, vs, rfl, q, z⟩ := rw_tup.mp r
    exact .tup q.sq (DwAll.dp s al z)
  | .dict _, w, v, h, r => by simp only [Dw] at h
theorem DwAll.dp (s : RS K G S H) : ∀ {ds : List PyData} {ws : List W} {vs : List V}, DwAll S ds ws → RWs K G H ws vs → DpAll K H vs ds
  | [], ws, vs, h, r => by simp only [DwAll] at h; subst h; rw [rws_nil] at r; subst r; exact .nil
  | d :: ds, ws, vs, h, r => by
    simp only [DwAll] at h
    obtain ⟨w, t, rfl, a, b⟩ := h
    obtain ⟨v, t2, rfl, c, e⟩ := rws_cons.mp r
    exact .cons (Dw.dp s a c) (DwAll.dp s b e)
end
end
def eqW (n : Bool) (x y : W) (S : Store) (Q : WP) : Prop :=
  match x, y with
  | .int i, .int j => Q (.bl (n != decide (i = j))) S
  | .str i, .str j => Q (.bl (n != decide (i = j))) S
  | .bl i, .bl j => Q (.bl (n != decide (i = j))) S
  | x, y => ∃ d e, Dw S d x ∧ Dw S e y ∧ SeqAt.shaped d = true ∧ SeqAt.shaped e = true ∧ Q (.bl (n != PyData.eqv d e)) S
def ordW (f : Int → Int → Bool) (x y : W) (S : Store) (Q : WP) : Prop :=
  match x, y with
  | .int i, .int j => Q (.bl (f i j)) S
  | _, _ => False
def isNon : W → Bool
  | .non => true
  | _ => false
/-- is None, is True, is False -/
def isW (n : Bool) (x y : W) (S : Store) (Q : WP) : Prop :=
  match y with
  | .non => Q (.bl (n != isNon x)) S
  | .bl b => (match x with
    | .bl a => Q (.bl (n != decide (a = b))) S
    | _ => False)
  | _ => False
def flatW : W → Bool
  | .non => true
  | .bl _ => true
  | .int _ => true
  | .str _ => true
  | _ => false
/-- == of flat values -/
def eqF : W → W → Bool
  | .non, .non => true
  | .bl a, .bl b => a == b
  | .bl a, .int b => (if a then 1 else 0) == b
  | .int a, .bl b => a == (if b then 1 else 0)
  | .int a, .int b => a == b
  | .str a, .str b => a == b
  | _, _ => false
/-- x in data -/
def inL (n : Bool) (x y : W) (S : Store) (Q : WP) : Prop :=
  ∃ d ds, Dw S d x ∧ (Dw S (.list ds) y) ∧ SeqAt.shaped d = true ∧ SeqAt.shaped (.list ds) = true ∧ Q (.bl (n != ds.any fun z => PyData.eqv z d)) S
/-- data in a tuple of data -/
def inTD (n : Bool) (x y : W) (S : Store) (Q : WP) : Prop :=
  ∃ d ds, Dw S d x ∧ (Dw S (.tuple ds) y) ∧ SeqAt.shaped d = true ∧ SeqAt.shaped (.tuple ds) = true ∧ Q (.bl (n != ds.any fun z => PyData.eqv z d)) S
/-- a key in a dict -/
def inDc (n : Bool) (x y : W) (S : Store) (Q : WP) : Prop := ∃ a kvs k, y = .ref a ∧ S a = some (.dic kvs) ∧ keyW x = some k ∧ Q (.bl (n != (lkD kvs k).isSome)) S
def inW (n : Bool) (x y : W) (S : Store) (Q : WP) : Prop :=
  match y with
  | .tup ws => (flatW x = true ∧ ws.all flatW = true ∧ Q (.bl (n != ws.any fun w => eqF w x)) S) ∨ inTD n x (.tup ws) S Q
  | y => inL n x y S Q ∨ inDc n x y S Q
def cmpW (op : CmpOp) (x y : W) (S : Store) (Q : WP) : Prop :=
  match op with
  | .Eq => eqW false x y S Q
  | .NotEq => eqW true x y S Q
  | .Lt => ordW (fun i j => decide (i < j)) x y S Q
  | .LtE => ordW (fun i j => decide (i ≤ j)) x y S Q
  | .Gt => ordW (fun i j => decide (j < i)) x y S Q
  | .GtE => ordW (fun i j => decide (j ≤ i)) x y S Q
  | .Is => isW false x y S Q
  | .IsNot => isW true x y S Q
  | .In => inW false x y S Q
  | .NotIn => inW true x y S Q
section
variable {X : Cx} {G : Wd}
theorem op_ordW {op : CmpOp} {f : Int → Int → Bool} (h : OpR X (compareOp op) (rI0 fun i j => .bl (f i j))) : OpR X (compareOp op) (lift2 X.K G (ordW f)) := by
  intro pins s σ H x y v u Q I rx ry g
  obtain ⟨a, b, S, Q0, ra, rb, rs, q, hq⟩ := g
  cases a <;> first | exact q.elim | skip
  cases b <;> first | exact q.elim | skip
  rw [rw_int] at ra rb
  exact h pins s σ H x y v u Q I rx ry ⟨_, _, ra, rb, Lf.same (hq _ _ q) (rw_bl.mpr rfl) rs⟩
theorem op_eqW (hu : X.A.units + 64 < cLine) : OpR X (compareOp .Eq) (lift2 X.K G (eqW false)) := by
  intro pins s σ H x y v u Q I rx ry g
  obtain ⟨a, b, S, Q0, ra, rb, rs, q, hq⟩ := g
  have deep : (∃ d e, Dw S d a ∧ Dw S e b ∧ SeqAt.shaped d = true ∧ SeqAt.shaped e = true ∧ Q0 (.bl (false != PyData.eqv d e)) S) → wpAny (model X.prog X.w) X.A (compareOp .Eq v u) (EP X pins σ Q) X.xe s := by
    rintro ⟨d, e, h1, h2, h3, h4, q⟩
    exact op_eqD hu pins s σ H x y v u Q I rx ry ⟨d, e, h1.dp rs ra, h2.dp rs rb, h3, h4, by have := Lf.same (hq _ _ q) (rw_bl.mpr rfl) rs; simpa using this⟩
  cases a with
  | int i =>
    cases b with
    | int j =>
      rw [rw_int] at ra rb
      subst ra rb
      exact op_eq pins s σ H _ _ v u Q I rx ry ⟨rfl, by have := Lf.same (hq _ _ q) (rw_bl.mpr rfl) rs; simpa using this⟩
    | _ => exact deep q
  | str i =>
    cases b with
    | str j =>
      rw [rw_str] at ra rb
      subst ra rb
      exact op_eq pins s σ H _ _ v u Q I rx ry ⟨rfl, by have := Lf.same (hq _ _ q) (rw_bl.mpr rfl) rs; simpa using this⟩
    | _ => exact deep q
  | bl i =>
    cases b with
    | bl j =>
      rw [rw_bl] at ra rb
      subst ra rb
      exact op_eq pins s σ H _ _ v u Q I rx ry ⟨rfl, by have := Lf.same (hq _ _ q) (rw_bl.mpr rfl) rs; simpa using this⟩
    | _ => exact deep q
  | _ => exact deep q
theorem op_neW (hu : X.A.units + 64 < cLine) : OpR X (compareOp .NotEq) (lift2 X.K G (eqW true)) := by
  intro pins s σ H x y v u Q I rx ry g
  obtain ⟨a, b, S, Q0, ra, rb, rs, q, hq⟩ := g
  have deep : (∃ d e, Dw S d a ∧ Dw S e b ∧ SeqAt.shaped d = true ∧ SeqAt.shaped e = true ∧ Q0 (.bl (true != PyData.eqv d e)) S) → wpAny (model X.prog X.w) X.A (compareOp .NotEq v u) (EP X pins σ Q) X.xe s := by
    rintro ⟨d, e, h1, h2, h3, h4, q⟩
    exact op_neD hu pins s σ H x y v u Q I rx ry ⟨d, e, h1.dp rs ra, h2.dp rs rb, h3, h4, by have := Lf.same (hq _ _ q) (rw_bl.mpr rfl) rs; simpa using this⟩
  cases a with
  | int i =>
    cases b with
    | int j =>
      rw [rw_int] at ra rb
      subst ra rb
      exact op_ne pins s σ H _ _ v u Q I rx ry ⟨rfl, by have := Lf.same (hq _ _ q) (rw_bl.mpr rfl) rs; simpa using this⟩
    | _ => exact deep q
  | str i =>
    cases b with
    | str j =>
      rw [rw_str] at ra rb
      subst ra rb
      exact op_ne pins s σ H _ _ v u Q I rx ry ⟨rfl, by have := Lf.same (hq _ _ q) (rw_bl.mpr rfl) rs; simpa using this⟩
    | _ => exact deep q
  | bl i =>
    cases b with
    | bl j =>
      rw [rw_bl] at ra rb
      subst ra rb
      exact op_ne pins s σ H _ _ v u Q I rx ry ⟨rfl, by have := Lf.same (hq _ _ q) (rw_bl.mpr rfl) rs; simpa using this⟩
    | _ => exact deep q
  | _ => exact deep q
theorem flat_rel {K : PySem.W.Frag} {H : Hp} {w : W} {v : V} (r : RW K G H w v) (h : flatW w = true) : flatV v = true ∧ ∀ w2 v2, RW K G H w2 v2 → flatW w2 = true → eqV v v2 = eqF w w2 := by
  cases w <;> first | (cases h; done) | skip
  case non =>
    rw [rw_non] at r; subst r
    refine ⟨rfl, fun w2 v2 r2 h2 => ?_⟩
    cases w2 <;> first | (cases h2; done) | (rw [rw_non] at r2; subst r2; rfl) | (rw [rw_bl] at r2; subst r2; rfl) | (rw [rw_int] at r2; subst r2; rfl) | (rw [rw_str] at r2; subst r2; rfl)
  case bl b =>
    rw [rw_bl] at r; subst r
    refine ⟨rfl, fun w2 v2 r2 h2 => ?_⟩
    cases w2 <;> first | (cases h2; done) | (rw [rw_non] at r2; subst r2; rfl) | (rw [rw_bl] at r2; subst r2; rfl) | (rw [rw_int] at r2; subst r2; rfl) | (rw [rw_str] at r2; subst r2; rfl)
  case int b =>
    rw [rw_int] at r; subst r
    refine ⟨rfl, fun w2 v2 r2 h2 => ?_⟩
    cases w2 <;> first | (cases h2; done) | (rw [rw_non] at r2; subst r2; rfl) | (rw [rw_bl] at r2; subst r2; rfl) | (rw [rw_int] at r2; subst r2; rfl) | (rw [rw_str] at r2; subst r2; rfl)
  case str b =>
    rw [rw_str] at r; subst r
    refine ⟨rfl, fun w2 v2 r2 h2 => ?_⟩
    cases w2 <;> first | (cases h2; done) | (rw [rw_non] at r2; subst r2; rfl) | (rw [rw_bl] at r2; subst r2; rfl) | (rw [rw_int] at r2; subst r2; rfl) | (rw [rw_str] at r2; subst r2; rfl)
theorem flats_rel {K : PySem.W.Frag} {H : Hp} {w : W} {v : V} (r : RW K G H w v) (h : flatW w = true) : ∀ {ws : List W} {vs : List V}, RWs K G H ws vs → ws.all flatW = true → vs.all flatV = true ∧ L2.inV v vs = ws.any fun x => eqF x w
  | [], vs, rr, _ => by rw [rws_nil] at rr; subst rr; exact ⟨rfl, rfl⟩
  | x :: ws, vs, rr, hh => by
    obtain ⟨y, t, rfl, a, b⟩ := rws_cons.mp rr
    rw [List.all_cons, Bool.and_eq_true] at hh
    obtain ⟨f1, f2⟩ := flat_rel a hh.1
    obtain ⟨g1, g2⟩ := flats_rel r h b hh.2
    refine ⟨by rw [List.all_cons, f1, g1]; rfl, ?_⟩
    unfold L2.inV at g2 ⊢
    rw [List.any_cons, List.any_cons, g2, f2 _ _ r h]
theorem op_inTW : OpR X (compareOp .In) (lift2 X.K G fun x y S Q => ∃ ws, y = .tup ws ∧ flatW x = true ∧ ws.all flatW = true ∧ Q (.bl (ws.any fun w => eqF w x)) S) := by
  intro pins s σ H x y v u Q I rx ry g
  obtain ⟨a, b, S, Q0, ra, rb, rs, ⟨ws, rfl, h1, h2, q⟩, hq⟩ := g
  obtain ⟨p, vs, rfl, tA, rr⟩ := rw_tup.mp rb
  obtain ⟨g1, g2⟩ := flats_rel ra h1 rr h2
  exact op_in_seq pins s σ H x _ v u Q I rx ry ⟨p, vs, rfl, .inr tA.sq, (flat_rel ra h1).1, g1, by show Q (.bl (L2.inV x vs)) H; rw [g2]; exact Lf.same (hq _ _ q) (rw_bl.mpr rfl) rs⟩
theorem op_ninTW : OpR X (compareOp .NotIn) (lift2 X.K G fun x y S Q => ∃ ws, y = .tup ws ∧ flatW x = true ∧ ws.all flatW = true ∧ Q (.bl (!ws.any fun w => eqF w x)) S) := by
  intro pins s σ H x y v u Q I rx ry g
  obtain ⟨a, b, S, Q0, ra, rb, rs, ⟨ws, rfl, h1, h2, q⟩, hq⟩ := g
  obtain ⟨p, vs, rfl, tA, rr⟩ := rw_tup.mp rb
  obtain ⟨g1, g2⟩ := flats_rel ra h1 rr h2
  exact op_notIn_seq pins s σ H x _ v u Q I rx ry ⟨p, vs, rfl, .inr tA.sq, (flat_rel ra h1).1, g1, by show Q (.bl (!L2.inV x vs)) H; rw [g2]; exact Lf.same (hq _ _ q) (rw_bl.mpr rfl) rs⟩
theorem op_inLW (hu : X.A.units + 65 < cLine) : OpR X (compareOp .In) (lift2 X.K G (inL false)) := by
  intro pins s σ H x y v u Q I rx ry g
  obtain ⟨a, b, S, Q0, ra, rb, rs, ⟨d, ds, h1, h2, h3, h4, q⟩, hq⟩ := g
  exact op_inD hu pins s σ H x y v u Q I rx ry ⟨d, ds, h1.dp rs ra, h2.dp rs rb, h3, h4, by have := Lf.same (hq _ _ q) (rw_bl.mpr rfl) rs; simpa using this⟩
theorem op_ninLW (hu : X.A.units + 65 < cLine) : OpR X (compareOp .NotIn) (lift2 X.K G (inL true)) := by
  intro pins s σ H x y v u Q I rx ry g
  obtain ⟨a, b, S, Q0, ra, rb, rs, ⟨d, ds, h1, h2, h3, h4, q⟩, hq⟩ := g
  exact op_notInD hu pins s σ H x y v u Q I rx ry ⟨d, ds, h1.dp rs ra, h2.dp rs rb, h3, h4, by have := Lf.same (hq _ _ q) (rw_bl.mpr rfl) rs; simpa using this⟩
theorem op_inTD (hu : X.A.units + 65 < cLine) : OpR X (compareOp .In) (lift2 X.K G (inTD false)) := by
  intro pins s σ H x y v u Q I rx ry g
  obtain ⟨a, b, S, Q0, ra, rb, rs, ⟨d, ds, h1, h2, h3, h4, q⟩, hq⟩ := g
  obtain ⟨as, r1⟩ := Dp.reads I d x v (h1.dp rs ra) rx
  obtain ⟨bs, r2⟩ := Dp.reads I (.tuple ds) y u (h2.dp rs rb) ry
  exact SeqAt.in_tuple_reads r2 r1 (SeqAt.canLay_of_shaped h4) (SeqAt.canLay_of_shaped h3) (room_in_shaped h3 hu) ⟨.bl _, H, I, rfl, by have := Lf.same (hq _ _ q) (rw_bl.mpr rfl) rs; simpa using this⟩
theorem op_ninTD (hu : X.A.units + 65 < cLine) : OpR X (compareOp .NotIn) (lift2 X.K G (inTD true)) := by
  intro pins s σ H x y v u Q I rx ry g
  obtain ⟨a, b, S, Q0, ra, rb, rs, ⟨d, ds, h1, h2, h3, h4, q⟩, hq⟩ := g
  obtain ⟨as, r1⟩ := Dp.reads I d x v (h1.dp rs ra) rx
  obtain ⟨bs, r2⟩ := Dp.reads I (.tuple ds) y u (h2.dp rs rb) ry
  exact SeqAt.notIn_tuple_reads r2 r1 (SeqAt.canLay_of_shaped h4) (SeqAt.canLay_of_shaped h3) (room_in_shaped h3 hu) ⟨.bl _, H, I, rfl, by have := Lf.same (hq _ _ q) (rw_bl.mpr rfl) rs; simpa using this⟩
theorem isSome_rel {K : PySem.W.Frag} {G : Wd} {H : Hp} {kvs : List (Key × W)} {ms : List (Key × V)} (r : RKV K G H kvs ms) (k : Key) : (valV ms k).isSome = (lkD kvs k).isSome := by
  cases e : lkD kvs k with
  | none => rw [(r.val k).1 e]; rfl
  | some w => obtain ⟨v, e2, _⟩ := (r.val k).2 w e; rw [e2]; rfl
theorem op_inDc (hu : X.A.units + 65 < cLine) : OpR X (compareOp .In) (lift2 X.K G (inDc false)) := by
  intro pins s σ H x y v u Q I rx ry g
  obtain ⟨a, b, S, Q0, ra, rb, rs, ⟨p, kvs, k, rfl, e, ek, q⟩, hq⟩ := g
  rw [rw_ref] at rb
  subst rb
  obtain rfl : u = Value.ref p := ry
  obtain ⟨ms, hu2, rr⟩ := rs.dic e
  have ex := keyW_rel ra ek
  subst ex
  have hl := isSome_rel rr k
  refine d_in (by omega) I (DGet.k hu2) rx fun s' I' => ⟨.bl (valV ms k).isSome, H, I', rfl, ?_⟩
  rw [hl]
  have := Lf.same (hq _ _ q) (rw_bl.mpr rfl) rs
  simpa using this
theorem op_ninDc (hu : X.A.units + 65 < cLine) : OpR X (compareOp .NotIn) (lift2 X.K G (inDc true)) := by
  intro pins s σ H x y v u Q I rx ry g
  obtain ⟨a, b, S, Q0, ra, rb, rs, ⟨p, kvs, k, rfl, e, ek, q⟩, hq⟩ := g
  rw [rw_ref] at rb
  subst rb
  obtain rfl : u = Value.ref p := ry
  obtain ⟨ms, hu2, rr⟩ := rs.dic e
  have ex := keyW_rel ra ek
  subst ex
  have hl := isSome_rel rr k
  refine d_notIn (by omega) I (DGet.k hu2) rx fun s' I' => ⟨.bl (!(valV ms k).isSome), H, I', rfl, ?_⟩
  rw [hl]
  have := Lf.same (hq _ _ q) (rw_bl.mpr rfl) rs
  simpa using this
theorem op_inW (hu : X.A.units + 65 < cLine) : OpR X (compareOp .In) (lift2 X.K G (inW false)) := by
  intro pins s σ H x y v u Q I rx ry g
  obtain ⟨a, b, S, Q0, ra, rb, rs, q, hq⟩ := g
  cases b with
  | tup ws =>
    rcases q with q | q
    · exact op_inTW pins s σ H x y v u Q I rx ry ⟨a, _, S, Q0, ra, rb, rs, ⟨ws, rfl, q.1, q.2.1, by simpa using q.2.2⟩, hq⟩
    · exact op_inTD hu pins s σ H x y v u Q I rx ry ⟨a, _, S, Q0, ra, rb, rs, q, hq⟩
  | _ =>
    rcases q with q | q
    · exact op_inLW hu pins s σ H x y v u Q I rx ry ⟨a, _, S, Q0, ra, rb, rs, q, hq⟩
    · exact op_inDc hu pins s σ H x y v u Q I rx ry ⟨a, _, S, Q0, ra, rb, rs, q, hq⟩
theorem op_ninW (hu : X.A.units + 65 < cLine) : OpR X (compareOp .NotIn) (lift2 X.K G (inW true)) := by
  intro pins s σ H x y v u Q I rx ry g
  obtain ⟨a, b, S, Q0, ra, rb, rs, q, hq⟩ := g
  cases b with
  | tup ws =>
    rcases q with q | q
    · exact op_ninTW pins s σ H x y v u Q I rx ry ⟨a, _, S, Q0, ra, rb, rs, ⟨ws, rfl, q.1, q.2.1, by simpa using q.2.2⟩, hq⟩
    · exact op_ninTD hu pins s σ H x y v u Q I rx ry ⟨a, _, S, Q0, ra, rb, rs, q, hq⟩
  | _ =>
    rcases q with q | q
    · exact op_ninLW hu pins s σ H x y v u Q I rx ry ⟨a, _, S, Q0, ra, rb, rs, q, hq⟩
    · exact op_ninDc hu pins s σ H x y v u Q I rx ry ⟨a, _, S, Q0, ra, rb, rs, q, hq⟩
theorem non_dec {K : PySem.W.Frag} {G : Wd} {H : Hp} {a : W} {x : V} (r : RW K G H a x) : decide (x = .non) = isNon a := by
  cases a with
  | tup ws => obtain ⟨p, vs, rfl, _⟩ := rw_tup.mp r; rfl
  | kls ws => obtain ⟨p, vs, rfl, _⟩ := rw_kls.mp r; rfl
  | exc c ks ws => obtain ⟨p, d, vs, rfl, _⟩ := rw_exc.mp r; rfl
  | non => rw [rw_non] at r; subst r; rfl
  | bl _ => rw [rw_bl] at r; subst r; rfl
  | int _ => rw [rw_int] at r; subst r; rfl
  | str _ => rw [rw_str] at r; subst r; rfl
  | ty _ => rw [rw_ty] at r; subst r; rfl
  | ref _ => rw [rw_ref] at r; subst r; rfl
  | cls _ => rw [rw_cls] at r; subst r; rfl
  | fn _ => rw [rw_fn] at r; subst r; rfl
theorem op_isW : OpR X (compareOp .Is) (lift2 X.K G (isW false)) := by
  intro pins s σ H x y v u Q I rx ry g
  obtain ⟨a, b, S, Q0, ra, rb, rs, q, hq⟩ := g
  cases b with
  | non =>
    rw [rw_non] at rb
    exact op_isN pins s σ H x y v u Q I rx ry ⟨rb, by have := Lf.same (hq _ _ q) (rw_bl.mpr rfl) rs; rw [non_dec ra]; simpa using this⟩
  | bl k =>
    cases a with
    | bl j =>
      rw [rw_bl] at ra rb
      exact op_is_bl pins s σ H x y v u Q I rx ry ⟨_, _, ra, rb, by have := Lf.same (hq _ _ q) (rw_bl.mpr rfl) rs; simpa using this⟩
    | _ => exact q.elim
  | _ => exact q.elim
theorem op_isnW : OpR X (compareOp .IsNot) (lift2 X.K G (isW true)) := by
  intro pins s σ H x y v u Q I rx ry g
  obtain ⟨a, b, S, Q0, ra, rb, rs, q, hq⟩ := g
  cases b with
  | non =>
    rw [rw_non] at rb
    exact op_notN pins s σ H x y v u Q I rx ry ⟨rb, by have := Lf.same (hq _ _ q) (rw_bl.mpr rfl) rs; rw [non_dec ra]; simpa using this⟩
  | bl k =>
    cases a with
    | bl j =>
      rw [rw_bl] at ra rb
      exact op_isnot_bl pins s σ H x y v u Q I rx ry ⟨_, _, ra, rb, by have := Lf.same (hq _ _ q) (rw_bl.mpr rfl) rs; simpa using this⟩
    | _ => exact q.elim
  | _ => exact q.elim
theorem op_cmpW (op : CmpOp) (hu : X.A.units + 65 < cLine) : OpR X (compareOp op) (lift2 X.K G (cmpW op)) := by
  cases op with
  | Eq => exact op_eqW (by omega)
  | NotEq => exact op_neW (by omega)
  | Lt => exact op_ordW op_lt
  | LtE => exact op_ordW op_le
  | Gt => exact op_ordW op_gt
  | GtE => exact op_ordW op_ge
  | Is => exact op_isW
  | IsNot => exact op_isnW
  | In => exact op_inW hu
  | NotIn => exact op_ninW hu
end
end MP
set_option Elab.async false
set_option linter.all false
set_option maxRecDepth 100000
set_option maxHeartbeats 4000000
namespace MP
open PySem PySem.Spec PyProof.Rows L2
/-! ### built-in functions -/
def blsOf : List W → Option (List Bool)
  | [] => some []
  | .bl b :: r => (match blsOf r with | some l => some (b :: l) | none => none)
  | _ => none
def intsOf : List W → Option (List Int)
  | [] => some []
  | .int b :: r => (match intsOf r with | some l => some (b :: l) | none => none)
  | _ => none
theorem blsOf_eq : ∀ {ws : List W} {bs : List Bool}, blsOf ws = some bs → ws = bs.map W.bl
  | [], bs, h => by cases h; rfl
  | .bl b :: r, bs, h => by
    simp only [blsOf] at h
    split at h
    · rename_i l e
      cases h
      rw [blsOf_eq e]; rfl
    · cases h
  | .non :: _, _, h => by cases h
  | .int _ :: _, _, h => by cases h
  | .str _ :: _, _, h => by cases h
  | .ty _ :: _, _, h => by cases h
  | .ref _ :: _, _, h => by cases h
  | .cls _ :: _, _, h => by cases h
  | .fn _ :: _, _, h => by cases h
  | .tup _ :: _, _, h => by cases h
theorem intsOf_eq : ∀ {ws : List W} {bs : List Int}, intsOf ws = some bs → ws = bs.map W.int
  | [], bs, h => by cases h; rfl
  | .int b :: r, bs, h => by
    simp only [intsOf] at h
    split at h
    · rename_i l e
      cases h
      rw [intsOf_eq e]; rfl
    · cases h
  | .non :: _, _, h => by cases h
  | .bl _ :: _, _, h => by cases h
  | .str _ :: _, _, h => by cases h
  | .ty _ :: _, _, h => by cases h
  | .ref _ :: _, _, h => by cases h
  | .cls _ :: _, _, h => by cases h
  | .fn _ :: _, _, h => by cases h
  | .tup _ :: _, _, h => by cases h
theorem blsOf_map : ∀ bs : List Bool, blsOf (bs.map W.bl) = some bs
  | [] => rfl
  | b :: r => by simp only [List.map_cons, blsOf, blsOf_map r]
inductive Bi where
  | len | abs | min | max | int | bool | list | tuple | all | any | sum | isinstance | divmod | sorted | str | repr
/-- a class as a value -/
inductive Tyc where
  | ty (n : String) | cls (c : Nat) | exc (c : Nat)
  deriving DecidableEq
def Tyc.v (G : Wd) : Tyc → Value
  | .ty n => .type n
  | .cls c => .ref (G.cad c)
  | .exc c => .ref (G.cad c)
def Tyc.V (G : Wd) : Tyc → V
  | .ty n => .ty n
  | .cls c => .ref (G.cad c)
  | .exc c => .ref (G.cad c)
theorem Tyc.clsV (G : Wd) (t : Tyc) : ClsV (t.V G) (t.v G) := by cases t <;> first | exact .ty _ | exact .own _
def tyW (S : Store) : W → Option Tyc
  | .non => some (.ty "NoneType")
  | .bl _ => some (.ty "bool")
  | .int _ => some (.ty "int")
  | .str _ => some (.ty "str")
  | .tup _ => some (.ty "tuple")
  | .ref a => (match S a with
    | some (.lst _) => some (.ty "list")
    | some (.frz _) => some (.ty "list")
    | some (.dic _) => some (.ty "dict")
    | some (.ins c _) => some (.cls c)
    | none => none)
  | .exc c _ _ => some (.exc c)
  | _ => none
def subTy (a b : String) : Option Bool := if (["NoneType", "bool", "int", "str", "list", "tuple", "dict"] : List String).contains a && (["bool", "int", "str", "list", "tuple", "dict"] : List String).contains b then some (a == b || (a == "bool" && b == "int")) else none
/-- what the written part says of the own classes: kit c t: is an instance of c one of t; own classes for isinstance -/
structure Kit where
  kit : Tyc → Tyc → Option Bool
def kitT (k : Kit) (t c : Tyc) : Option Bool := match t, c with
  | .ty a, .ty b => subTy a b
  | t, c => k.kit t c
def kitL (k : Kit) (t : Tyc) : List Tyc → Option Bool
  | [] => some false
  | c :: r => (match kitT k t c with
    | some true => some true
    | some false => kitL k t r
    | none => none)
def clsOf : W → Option Tyc
  | .ty n => some (.ty n)
  | .cls c => some (.cls c)
  | _ => none
def clsesOf : List W → Option (List Tyc)
  | [] => some []
  | w :: r => (match clsOf w, clsesOf r with
    | some t, some l => some (t :: l)
    | _, _ => none)
/-- the own class's facts for isinstance -/
structure OwnC (K : PySem.W.Frag) (C : Addr) : Prop where
  cl : Cls K C
  ha : PySem.W.findIn K (.ref C) "__class__" = some (some (.builtin "object.__class__"))
  hn : PySem.W.specialIn K (.builtin "object.__class__") "__get__" = some (some (.builtin "getset_descriptor.__get__"))
  ht : PySem.W.takesIn K (.builtin "object.__class__") = some true
  hm : PySem.W.mroIn K C (.type "object") = some true
structure KitOk (K : PySem.W.Frag) (G : Wd) (k : Kit) : Prop where
  kit : ∀ t c b, k.kit t c = some b → PySem.W.kitOne K (t.v G) (c.v G) = some b
  own : ∀ c d b, k.kit (.cls c) d = some b → OwnC K (G.cad c)
  exo : ∀ c d b, k.kit (.exc c) d = some b → ExcC K (G.cad c)
theorem kitB_sub : ∀ a ∈ (["NoneType", "bool", "int", "str", "list", "tuple", "dict"] : List String), ∀ b ∈ (["bool", "int", "str", "list", "tuple", "dict"] : List String), kitB a b = some (a == b || (a == "bool" && b == "int")) := by
  decide +kernel
theorem kitT_ok {K : PySem.W.Frag} {G : Wd} {k : Kit} (o : KitOk K G k) {t c : Tyc} {b : Bool} (h : kitT k t c = some b) : PySem.W.kitOne K (t.v G) (c.v G) = some b := by
  cases t with
  | ty a =>
    cases c with
    | ty d =>
      simp only [kitT, subTy] at h
      split at h
      · rename_i e
        cases h
        rw [Bool.and_eq_true, List.contains_iff_mem, List.contains_iff_mem] at e
        exact kit_ty (kitB_sub a e.1 d e.2)
      · cases h
    | cls d => exact o.kit _ _ _ h
    | exc d => exact o.kit _ _ _ h
  | cls a => exact o.kit _ _ _ h
  | exc a => exact o.kit _ _ _ h
theorem kitL_ok {K : PySem.W.Frag} {G : Wd} {k : Kit} (o : KitOk K G k) {t : Tyc} : ∀ {cs : List Tyc} {b : Bool}, kitL k t cs = some b → PySem.W.kitAny K (t.v G) (cs.map (·.v G)) = some b
  | [], b, h => by cases h; rfl
  | c :: r, b, h => by
    simp only [kitL] at h
    cases e : kitT k t c with
    | none => rw [e] at h; cases h
    | some q =>
      rw [e] at h
      have e2 := kitT_ok o e
      cases q with
      | true =>
        cases h
        exact kitAny_cons e2 (fun z => by cases z) (fun _ => rfl)
      | false => exact kitAny_cons e2 (fun _ => kitL_ok o h) (fun z => by cases z)
/-- the class of a thing, of an exception that was caught, too -/
def TyE (K : PySem.W.Frag) (H : Hp) (v : V) (t : Value) : Prop := TyX K H v t ∨ ∃ (a d C : Addr) (gs : List (Str × V)), v = .ref a ∧ t = .ref C ∧ H a = some (exT C a d) ∧ H d = some (.xd gs) ∧ ExcC K C
theorem kit_ofE {X : Cx} {pins : List (Addr × Obj)} {σ : L2.St} {H : Hp} {s : Shared} {x : V} {u t : Value} (I : L2.Inv X pins σ H s) (rx : RelV x u) (ty : TyE X.K H x t) : ∃ P : Heap → Prop, PySem.W.KitX X.K u t P ∧ P s.heap ∧ u ≠ .builtin "__main__.__loader__#opaque" := by
  rcases ty with ty | ⟨a, d, C, gs, rfl, rfl, ha, hd, T⟩
  · exact kit_of I rx ty
  · obtain rfl : u = Value.ref a := rx
    have x1 : ObjOk X.prog X.w H s.heap a (.ext fun h => ∃ (oe : Obj) (vs : Array Value), h.get? a = some oe ∧ oe.cls = .ref C ∧ oe.dict = some d ∧ oe.data = .fields vs) := I.hok a _ ha
    obtain ⟨oe, vs, e1, e2, e3, e4⟩ := x1.1
    have x2 : ObjOk X.prog X.w H s.heap d (.xd gs) := I.hok d _ hd
    obtain ⟨mA, hns, hr⟩ := x2
    obtain ⟨od, ho, hl⟩ := lookIn_ns hns
    have J : PySem.W.InstAt s.heap a oe C (some od) := ⟨e1, e2, by unfold PySem.W.notCls; rw [e4] <;> rfl, by rw [e3]; exact ho⟩
    have cl : (PySem.W.clsIn X.K C).isSome = true := by
      obtain ⟨cd, hc, _⟩ := PySem.W.any_some T.hd
      rw [hc]
      rfl
    exact ⟨_, PySem.W.kitx_exc (ox := oe) (od := some od) cl T.hg T.hk T.hs T.ha T.hn T.ht T.hm, J, fun z => by cases z⟩
theorem tyW_ok {K : PySem.W.Frag} {G : Wd} {k : Kit} (o : KitOk K G k) {S : Store} {H : Hp} (s : RS K G S H) {w : W} {v : V} (r : RW K G H w v) {t : Tyc} (e : tyW S w = some t) (own : ∀ c, t = .cls c → OwnC K (G.cad c)) (exo : ∀ c, t = .exc c → ExcC K (G.cad c)) : TyE K H v (t.v G) := by
  cases w with
  | non => cases e; rw [rw_non] at r; subst r; exact .inl <| .base .non
  | bl _ => cases e; rw [rw_bl] at r; subst r; exact .inl <| .base (.bl _)
  | int _ => cases e; rw [rw_int] at r; subst r; exact .inl <| .base (.int _)
  | str _ => cases e; rw [rw_str] at r; subst r; exact .inl <| .base (.str _)
  | tup ws =>
    cases e
    obtain ⟨a, vs, rfl, q, _⟩ := rw_tup.mp r
    rcases q with q | ⟨dd, its, n, sl, q, _⟩
    · exact .inl <| .base (.tup q)
    · exact .inl (.kTuple q rfl)
  | ref a =>
    rw [rw_ref] at r
    subst r
    simp only [tyW] at e
    cases q : S a with
    | none => rw [q] at e; cases e
    | some ob =>
      rw [q] at e
      obtain ⟨u, hu, ro⟩ := s a ob q
      cases ob with
      | lst xs => cases e; obtain ⟨vs, rfl, _⟩ := ro; exact .inl <| .base (.lst hu)
      | frz xs => cases e; obtain ⟨o, vs, rfl, _⟩ := ro; exact .inl <| .base (.frz hu)
      | dic kvs => cases e; obtain ⟨vs, rfl, _⟩ := ro; exact .inl <| .base (.dK hu)
      | ins c fs =>
        cases e
        obtain ⟨dx, gs, rfl, _⟩ := ro
        obtain ⟨a1, a2, a3, a4, a5⟩ := own c rfl
        exact .inl <| .base (.ins hu a1 a2 a3 a4 a5)
  | exc c ks ws =>
    cases e
    obtain ⟨a, d, vs, rfl, h1, h2, _⟩ := rw_exc.mp r
    exact .inr ⟨a, d, _, _, rfl, rfl, h1, h2, exo c rfl⟩
  | _ => cases e
theorem kitL_own {K : PySem.W.Frag} {G : Wd} {k : Kit} (o : KitOk K G k) {c : Nat} {d : Tyc} {cs : List Tyc} {b : Bool} (h : kitL k (.cls c) (d :: cs) = some b) : OwnC K (G.cad c) := by
  simp only [kitL] at h
  cases e : kitT k (.cls c) d with
  | none => rw [e] at h; cases h
  | some q => exact o.own c d q e
theorem kitL_exo {K : PySem.W.Frag} {G : Wd} {k : Kit} (o : KitOk K G k) {c : Nat} {d : Tyc} {cs : List Tyc} {b : Bool} (h : kitL k (.exc c) (d :: cs) = some b) : ExcC K (G.cad c) := by
  simp only [kitL] at h
  cases e : kitT k (.exc c) d with
  | none => rw [e] at h; cases h
  | some q => exact o.exo c d q e
def isiW (k : Kit) (x c : W) (S : Store) (Q : WP) : Prop :=
  match tyW S x with
  | none => False
  | some t => (match c with
    | .tup cs => (match clsesOf cs with
      | some (d :: ds) => (match kitL k t (d :: ds) with
        | some b => Q (.bl b) S
        | none => False)
      | _ => False)
    | c => (match clsOf c with
      | some d => (match kitT k t d with
        | some b => Q (.bl b) S
        | none => False)
      | none => False))
def dicL (S : Store) : W → Option (List (Key × W))
  | .ref a => (match S a with
    | some (.dic kvs) => some kvs
    | _ => none)
  | _ => none
def lenW (as : List W) (S : Store) (Q : WP) : Prop :=
  match as with
  | [w] => (match w with
    | .str z => z.length ≤ sizeLine ∧ Q (.int z.length) S
    | w => (match items? S w with
      | some xs => Q (.int xs.length) S
      | none => (match dicL S w with
        | some kvs => Q (.int kvs.length) S
        | none => False)))
  | _ => False
def absW (as : List W) (S : Store) (Q : WP) : Prop :=
  match as with
  | [.int i] => Q (.int i.natAbs) S
  | _ => False
def minW (as : List W) (S : Store) (Q : WP) : Prop :=
  match as with
  | [.int i, .int j] => Q (.int (min i j)) S
  | _ => False
def maxW (as : List W) (S : Store) (Q : WP) : Prop :=
  match as with
  | [.int i, .int j] => Q (.int (max i j)) S
  | _ => False
def intW (as : List W) (S : Store) (Q : WP) : Prop :=
  match as with
  | [.int i] => Q (.int i) S
  | [.bl c] => Q (.int (if c then 1 else 0)) S
  | _ => False
def boolW (as : List W) (S : Store) (Q : WP) : Prop :=
  match as with
  | [.int i] => Q (.bl (i != 0)) S
  | [.bl c] => Q (.bl c) S
  | _ => False
def listW (as : List W) (S : Store) (Q : WP) : Prop :=
  match as with
  | [w] => (match items? S w with
    | some xs => ∀ p, S p = none → Q (.ref p) (put S p (.lst xs))
    | none => False)
  | _ => False
def tupleW (as : List W) (S : Store) (Q : WP) : Prop :=
  match as with
  | [w] => (match items? S w with
    | some xs => Q (.tup xs) S
    | none => False)
  | _ => False
def blsW (f : List Bool → Bool) (as : List W) (S : Store) (Q : WP) : Prop :=
  match as with
  | [.ref a] => (match items? S (.ref a) with
    | some xs => (match blsOf xs with
      | some bs => Q (.bl (f bs)) S
      | none => False)
    | none => False)
  | _ => False
def sumW (as : List W) (S : Store) (Q : WP) : Prop :=
  match as with
  | [.ref a] => (match items? S (.ref a) with
    | some xs => (match intsOf xs with
      | some ns => Q (.int ns.sum) S
      | none => False)
    | none => False)
  | _ => False
def isisW (k : Kit) (as : List W) (S : Store) (Q : WP) : Prop :=
  match as with
  | [x, c] => isiW k x c S Q
  | _ => False
def divW (as : List W) (S : Store) (Q : WP) : Prop :=
  match as with
  | [.int i, .int j] => CDiv i j ∧ Q (.tup [.int (i / j), .int (i % j)]) S
  | _ => False
def sortW (as : List W) (S : Store) (Q : WP) : Prop :=
  match as with
  | [.ref a] => (match items? S (.ref a) with
    | some xs => (match intsOf xs with
      | some ns => ∀ (ns' : List Int) (p : Addr), ns'.Perm ns → ns'.Pairwise (· ≤ ·) → S p = none → Q (.ref p) (put S p (.lst (ns'.map W.int)))
      | none => False)
    | none => False)
  | _ => False
def strW (as : List W) (S : Store) (Q : WP) : Prop :=
  match as with
  | [.int i] => i.natAbs.log2 < 1920 ∧ Q (.str (toString i)) S
  | [.str a] => Q (.str a) S
  | _ => False
def biW (k : Kit) (b : Bi) : List W → Store → WP → Prop :=
  match b with
  | .len => lenW
  | .abs => absW
  | .min => minW
  | .max => maxW
  | .int => intW
  | .bool => boolW
  | .list => listW
  | .tuple => tupleW
  | .all => blsW (·.all id)
  | .any => blsW (·.any id)
  | .sum => sumW
  | .isinstance => isisW k
  | .divmod => divW
  | .sorted => sortW
  | .str => strW
  | .repr => fun _ _ _ => False
def Bi.val : Bi → Value
  | .len => .builtin "len" | .abs => .builtin "abs" | .min => .builtin "min" | .max => .builtin "max" | .int => .type "int" | .bool => .type "bool" | .list => .type "list" | .tuple => .type "tuple"
  | .all => .builtin "all" | .any => .builtin "any" | .sum => .builtin "sum" | .isinstance => .builtin "isinstance" | .divmod => .builtin "divmod" | .sorted => .builtin "sorted" | .str => .type "str" | .repr => .builtin "repr"
/-- a call on trees lifted -/
def liftC (K : PySem.W.Frag) (G : Wd) (b : List W → Store → WP → Prop) : List V → Hp → VK → Prop := fun vs H Q => ∃ (ws : List W) (S : Store) (Q0 : WP), RWs K G H ws vs ∧ RS K G S H ∧ b ws S Q0 ∧ ∀ w S', Q0 w S' → Lf K G H Q w S'
theorem rws1 {K : PySem.W.Frag} {G : Wd} {H : Hp} {w : W} {vs : List V} (h : RWs K G H [w] vs) : ∃ v, vs = [v] ∧ RW K G H w v := by
  obtain ⟨v, r, rfl, a, b⟩ := rws_cons.mp h
  rw [rws_nil] at b; subst b
  exact ⟨v, rfl, a⟩
theorem rws2 {K : PySem.W.Frag} {G : Wd} {H : Hp} {w x : W} {vs : List V} (h : RWs K G H [w, x] vs) : ∃ v u, vs = [v, u] ∧ RW K G H w v ∧ RW K G H x u := by
  obtain ⟨v, r, rfl, a, b⟩ := rws_cons.mp h
  obtain ⟨u, rfl, c⟩ := rws1 b
  exact ⟨v, u, rfl, a, c⟩
/-- a list that is read -/
theorem items_ref {K : PySem.W.Frag} {G : Wd} {H : Hp} {S : Store} (s : RS K G S H) {a : Addr} {ws : List W} (e : items? S (.ref a) = some ws) : ∃ vs, SqL K H a vs ∧ RWs K G H ws vs := by
  simp only [items?] at e
  cases q : S a with
  | none => rw [q] at e; cases e
  | some o =>
    rw [q] at e
    obtain ⟨u, hu, ro⟩ := s a o q
    cases o with
    | lst xs =>
      cases e
      obtain ⟨vs, rfl, z⟩ := ro
      exact ⟨vs, .of hu, z⟩
    | frz xs =>
      cases e
      obtain ⟨o, vs, rfl, z⟩ := ro
      exact ⟨vs, .inl (.inr ⟨o, hu⟩), z⟩
    | _ => cases e
theorem clsesOf_ok {K : PySem.W.Frag} {G : Wd} {H : Hp} : ∀ {cs : List W} {ts : List Tyc} {vs : List V}, clsesOf cs = some ts → RWs K G H cs vs → Paired ClsV vs (ts.map (·.v G))
  | [], ts, vs, e, r => by cases e; rw [rws_nil] at r; subst r; exact .nil
  | w :: cs, ts, vs, e, r => by
    simp only [clsesOf] at e
    obtain ⟨v, t, rfl, a, b⟩ := rws_cons.mp r
    split at e
    · rename_i d l e1 e2
      cases e
      refine .cons ?_ (clsesOf_ok e2 b)
      cases w <;> first | (cases e1; rw [rw_ty] at a; subst a; exact .ty _) | (cases e1; rw [rw_cls] at a; subst a; exact .own _) | cases e1
    · cases e
section
variable {X : Cx} {G : Wd} {k : Kit}
theorem cr_isiW (o : KitOk X.K G k) : CallR X (.builtin "isinstance") (liftC X.K G (biW k .isinstance)) := by
  intro pins s σ H vs us Q I r h
  obtain ⟨ws, S, Q0, rw, rs, q, hq⟩ := h
  match ws, q with
  | [x, c], q =>
    obtain ⟨v, u, rfl, rx, rc⟩ := rws2 rw
    obtain ⟨x1, x2, rfl, r1, r2⟩ := vals2 r
    have q : isiW k x c S Q0 := q
    unfold isiW at q
    cases e : tyW S x with
    | none => rw [e] at q; exact q.elim
    | some t =>
      rw [e] at q
      have one : ∀ d, clsOf c = some d → (match kitT k t d with | some b => Q0 (.bl b) S | none => False) → wpAny (model X.prog X.w) X.A (call (.builtin "isinstance") [x1, x2]) (EP X pins σ Q) X.xe s := fun d ed q => by
        cases e2 : kitT k t d with
        | none => rw [e2] at q; exact q.elim
        | some b =>
          rw [e2] at q
          have own : ∀ c', t = .cls c' → OwnC X.K (G.cad c') := fun c' et => by subst et; exact o.own c' d b (by simpa [kitT] using e2)
          have exo : ∀ c', t = .exc c' → ExcC X.K (G.cad c') := fun c' et => by subst et; exact o.exo c' d b (by simpa [kitT] using e2)
          have hc : u = d.V G := by
            cases c <;> first | (cases ed; rw [rw_ty] at rc; exact rc) | (cases ed; rw [rw_cls] at rc; exact rc) | cases ed
          obtain ⟨P, Z, p, hx⟩ := kit_ofE I r1 (tyW_ok o rs rx e own exo)
          have e3 : x2 = d.v G := (d.clsV G).eq (by rw [← hc]; exact r2)
          subst e3
          exact PySem.W.kia_one Z I.kIn p (kitT_ok o e2) hx fun tk => ⟨.bl b, H, I.tok tk, rfl, Lf.same (hq _ _ q) (rw_bl.mpr rfl) rs⟩
      cases c with
      | tup cs =>
        simp only at q
        split at q
        · rename_i d ds e1
          split at q
          · rename_i b e2
            have own : ∀ c', t = .cls c' → OwnC X.K (G.cad c') := fun c' et => by subst et; exact kitL_own o e2
            have exo : ∀ c', t = .exc c' → ExcC X.K (G.cad c') := fun c' et => by subst et; exact kitL_exo o e2
            obtain ⟨a, cv, rfl, tA, rr⟩ := rw_tup.mp rc
            have pc := clsesOf_ok e1 rr
            obtain ⟨P, Z, p, hx⟩ := kit_ofE I r1 (tyW_ok o rs rx e own exo)
            have ka := kitL_ok o e2
            have fin := Lf.same (hq _ _ q) (rw_bl.mpr rfl) rs
            obtain rfl : x2 = Value.ref a := r2
            rcases tA with tA | ⟨dd, its, n, sl, lk, _, vr⟩
            · obtain ⟨_, its, rv, ob, h1, h2, n, h3⟩ := (show ObjOk X.prog X.w H s.heap a (.tup cv) from I.hok a _ tA)
              have e3 := ClsV.all pc rv
              subst e3
              obtain ⟨oc, od, dt, sl⟩ := ob
              simp only at h2 h3
              subst h2 h3
              exact PySem.W.kia_tup Z I.kIn p h1 ka hx fun tk => ⟨.bl b, H, I.tok tk, rfl, fin⟩
            · have e3 := ClsV.all pc vr
              exact PySem.W.kia_tup (its := its.toList) Z I.kIn p (by have := I.kIn _ _ lk; simpa using this) (by rw [e3]; exact ka) hx fun tk => ⟨.bl b, H, I.tok tk, rfl, fin⟩
          · exact q.elim
        · exact q.elim
      | ty n => exact one (.ty n) rfl q
      | cls n => exact one (.cls n) rfl q
      | _ => exact q.elim
theorem cr_lenW : CallR X (.builtin "len") (liftC X.K G lenW) := by
  intro pins s σ H vs us Q I r h
  obtain ⟨ws, S, Q0, rw, rs, q, hq⟩ := h
  unfold lenW at q
  split at q
  · rename_i w
    obtain ⟨v, rfl, rv⟩ := rws1 rw
    have gen : (match items? S w with
      | some xs => Q0 (.int xs.length) S
      | none => (match dicL S w with
        | some kvs => Q0 (.int kvs.length) S
        | none => False)) → wpAny (model X.prog X.w) X.A (call (.builtin "len") us) (EP X pins σ Q) X.xe s := fun q2 => by
      split at q2
      · rename_i xs e
        obtain ⟨a, vs, rfl, sq, rr⟩ := items_ok rs rv e
        exact call_len_seq pins s σ H _ us Q I r ⟨a, vs, rfl, sq, by rw [← rr.length]; exact Lf.same (hq _ _ q2) (rw_int.mpr rfl) rs⟩
      · split at q2
        · rename_i kvs e
          cases w with
          | ref a =>
            simp only [dicL] at e
            split at e
            · rename_i kv e2
              cases e
              obtain ⟨u, hu, kv', rfl, rk⟩ := rs a _ e2
              rw [rw_ref] at rv
              subst rv
              exact call_lenD pins s σ H _ us Q I r ⟨a, kv', rfl, hu, by rw [← rk.length]; exact Lf.same (hq _ _ q2) (rw_int.mpr rfl) rs⟩
            · cases e
          | _ => simp [dicL] at e
        · exact q2.elim
    split at q
    · rename_i z
      rw [rw_str] at rv
      exact call_len_str pins s σ H _ us Q I r ⟨z, by rw [rv], q.1, Lf.same (hq _ _ q.2) (rw_int.mpr rfl) rs⟩
    · exact gen q
  · exact q.elim
theorem cr_absW : CallR X (.builtin "abs") (liftC X.K G absW) := by
  intro pins s σ H vs us Q I r h
  obtain ⟨ws, S, Q0, rw, rs, q, hq⟩ := h
  unfold absW at q
  split at q
  · rename_i i
    obtain ⟨v, rfl, rv⟩ := rws1 rw
    rw [rw_int] at rv
    refine call_abs pins s σ H _ us Q I r ⟨i, by rw [rv], ?_⟩
    have e : (if i < 0 then -i else i) = (i.natAbs : Int) := by split <;> omega
    rw [e]
    exact Lf.same (hq _ _ q) (rw_int.mpr rfl) rs
  · exact q.elim
theorem cr_minW (hc : X.calm = true) : CallR X (.builtin "min") (liftC X.K G minW) := by
  intro pins s σ H vs us Q I r h
  obtain ⟨ws, S, Q0, rw, rs, q, hq⟩ := h
  unfold minW at q
  split at q
  · rename_i i j
    obtain ⟨v, u, rfl, rv, ru⟩ := rws2 rw
    rw [rw_int] at rv ru
    refine call_min2 hc pins s σ H _ us Q I r ⟨i, j, by rw [rv, ru], ?_⟩
    have e : (if j < i then j else i) = min i j := by split <;> omega
    rw [e]
    exact Lf.same (hq _ _ q) (rw_int.mpr rfl) rs
  · exact q.elim
theorem cr_maxW (hc : X.calm = true) : CallR X (.builtin "max") (liftC X.K G maxW) := by
  intro pins s σ H vs us Q I r h
  obtain ⟨ws, S, Q0, rw, rs, q, hq⟩ := h
  unfold maxW at q
  split at q
  · rename_i i j
    obtain ⟨v, u, rfl, rv, ru⟩ := rws2 rw
    rw [rw_int] at rv ru
    refine call_max2 hc pins s σ H _ us Q I r ⟨i, j, by rw [rv, ru], ?_⟩
    have e : (if j > i then j else i) = max i j := by split <;> omega
    rw [e]
    exact Lf.same (hq _ _ q) (rw_int.mpr rfl) rs
  · exact q.elim
theorem cr_intW : CallR X (.type "int") (liftC X.K G intW) := by
  intro pins s σ H vs us Q I r h
  obtain ⟨ws, S, Q0, rw, rs, q, hq⟩ := h
  unfold intW at q
  split at q
  · rename_i i
    obtain ⟨v, rfl, rv⟩ := rws1 rw
    rw [rw_int] at rv
    exact call_int1 pins s σ H _ us Q I r (.inl ⟨i, by rw [rv], Lf.same (hq _ _ q) (rw_int.mpr rfl) rs⟩)
  · rename_i i
    obtain ⟨v, rfl, rv⟩ := rws1 rw
    rw [rw_bl] at rv
    exact call_int1 pins s σ H _ us Q I r (.inr ⟨i, by rw [rv], Lf.same (hq _ _ q) (rw_int.mpr rfl) rs⟩)
  · exact q.elim
theorem cr_boolW : CallR X (.type "bool") (liftC X.K G boolW) := by
  intro pins s σ H vs us Q I r h
  obtain ⟨ws, S, Q0, rw, rs, q, hq⟩ := h
  unfold boolW at q
  split at q
  · rename_i i
    obtain ⟨v, rfl, rv⟩ := rws1 rw
    rw [rw_int] at rv
    exact call_bool1 pins s σ H _ us Q I r (.inl ⟨i, by rw [rv], Lf.same (hq _ _ q) (rw_bl.mpr rfl) rs⟩)
  · rename_i i
    obtain ⟨v, rfl, rv⟩ := rws1 rw
    rw [rw_bl] at rv
    exact call_bool1 pins s σ H _ us Q I r (.inr ⟨i, by rw [rv], Lf.same (hq _ _ q) (rw_bl.mpr rfl) rs⟩)
  · exact q.elim
theorem cr_strW : CallR X (.type "str") (liftC X.K G strW) := by
  intro pins s σ H vs us Q I r h
  obtain ⟨ws, S, Q0, rw, rs, q, hq⟩ := h
  unfold strW at q
  split at q
  · rename_i i
    obtain ⟨v, rfl, rv⟩ := rws1 rw
    rw [rw_int] at rv
    exact call_str_int pins s σ H _ us Q I r ⟨i, by rw [rv], q.1, Lf.same (hq _ _ q.2) (rw_str.mpr rfl) rs⟩
  · rename_i a
    obtain ⟨v, rfl, rv⟩ := rws1 rw
    rw [rw_str] at rv
    exact SkE.call_str_str pins s σ H _ us Q I r ⟨a, rv ▸ rfl, Lf.same (hq _ _ q) (rw_str.mpr rfl) rs⟩
  · exact q.elim
theorem cr_listW : CallR X (.type "list") (liftC X.K G listW) := by
  intro pins s σ H vs us Q I r h
  obtain ⟨ws, S, Q0, rw, rs, q, hq⟩ := h
  unfold listW at q
  split at q
  · rename_i w
    obtain ⟨v, rfl, rv⟩ := rws1 rw
    split at q
    · rename_i xs e
      obtain ⟨a, vs, rfl, sq, rr⟩ := items_ok rs rv e
      exact call_list_of pins s σ H _ us Q I r ⟨a, vs, rfl, sq, fun p hp => Lf.new (hq _ _ (q p (rs.free hp))) ⟨_, rfl, rr⟩ rs hp⟩
    · exact q.elim
  · exact q.elim
theorem cr_tupleW : CallR X (.type "tuple") (liftC X.K G tupleW) := by
  intro pins s σ H vs us Q I r h
  obtain ⟨ws, S, Q0, rw, rs, q, hq⟩ := h
  unfold tupleW at q
  split at q
  · rename_i w
    obtain ⟨v, rfl, rv⟩ := rws1 rw
    split at q
    · rename_i xs e
      cases w with
      | tup ws =>
        cases e
        obtain ⟨a, vs, rfl, sq, rr⟩ := rw_tup.mp rv
        exact call_tuple_of pins s σ H _ us Q I r ⟨a, vs, rfl, .inr ⟨sq.sq, Lf.same (hq _ _ q) rv rs⟩⟩
      | ref a =>
        rw [rw_ref] at rv
        subst rv
        obtain ⟨vs, sq, rr⟩ := items_ref rs e
        exact call_tuple_of pins s σ H _ us Q I r ⟨a, vs, rfl, .inl ⟨sq, fun p hp => Lf.tup (hq _ _ q) rr rs hp⟩⟩
      | kls ws =>
        cases e
        obtain ⟨a, vs, rfl, lk, rr⟩ := rw_kls.mp rv
        exact call_tuple_of pins s σ H _ us Q I r ⟨a, vs, rfl, .inl ⟨lk.sq, fun p hp => Lf.tup (hq _ _ q) rr rs hp⟩⟩
      | _ => cases e
    · exact q.elim
  · exact q.elim
theorem cr_allW (hc : X.calm = true) : CallR X (.builtin "all") (liftC X.K G (blsW (·.all id))) := by
  intro pins s σ H vs us Q I r h
  obtain ⟨ws, S, Q0, rw, rs, q, hq⟩ := h
  unfold blsW at q
  split at q
  · obtain ⟨v, rfl, rv⟩ := rws1 rw
    rw [rw_ref] at rv
    subst rv
    split at q
    · rename_i xs e
      split at q
      · rename_i bs e2
        obtain ⟨vs, sq, rr⟩ := items_ref rs e
        rw [blsOf_eq e2, RWs.bls] at rr
        subst rr
        exact cr_all hc pins s σ H _ us Q I r ⟨_, bs, rfl, sq, Lf.same (hq _ _ q) (rw_bl.mpr rfl) rs⟩
      · exact q.elim
    · exact q.elim
  · exact q.elim
theorem cr_anyW (hc : X.calm = true) : CallR X (.builtin "any") (liftC X.K G (blsW (·.any id))) := by
  intro pins s σ H vs us Q I r h
  obtain ⟨ws, S, Q0, rw, rs, q, hq⟩ := h
  unfold blsW at q
  split at q
  · obtain ⟨v, rfl, rv⟩ := rws1 rw
    rw [rw_ref] at rv
    subst rv
    split at q
    · rename_i xs e
      split at q
      · rename_i bs e2
        obtain ⟨vs, sq, rr⟩ := items_ref rs e
        rw [blsOf_eq e2, RWs.bls] at rr
        subst rr
        exact cr_any hc pins s σ H _ us Q I r ⟨_, bs, rfl, sq, Lf.same (hq _ _ q) (rw_bl.mpr rfl) rs⟩
      · exact q.elim
    · exact q.elim
  · exact q.elim
theorem cr_sumW (hc : X.calm = true) : CallR X (.builtin "sum") (liftC X.K G sumW) := by
  intro pins s σ H vs us Q I r h
  obtain ⟨ws, S, Q0, rw, rs, q, hq⟩ := h
  unfold sumW at q
  split at q
  · obtain ⟨v, rfl, rv⟩ := rws1 rw
    rw [rw_ref] at rv
    subst rv
    split at q
    · rename_i xs e
      split at q
      · rename_i bs e2
        obtain ⟨vs, sq, rr⟩ := items_ref rs e
        rw [intsOf_eq e2, RWs.ints] at rr
        subst rr
        exact cr_sum hc pins s σ H _ us Q I r ⟨_, bs, rfl, sq, Lf.same (hq _ _ q) (rw_int.mpr rfl) rs⟩
      · exact q.elim
    · exact q.elim
  · exact q.elim
theorem cr_sortW : CallR X (.builtin "sorted") (liftC X.K G sortW) := by
  intro pins s σ H vs us Q I r h
  obtain ⟨ws, S, Q0, rw, rs, q, hq⟩ := h
  unfold sortW at q
  split at q
  · obtain ⟨v, rfl, rv⟩ := rws1 rw
    rw [rw_ref] at rv
    subst rv
    split at q
    · rename_i xs e
      split at q
      · rename_i bs e2
        obtain ⟨vs, sq, rr⟩ := items_ref rs e
        rw [intsOf_eq e2, RWs.ints] at rr
        subst rr
        exact cr_sortedI pins s σ H _ us Q I r ⟨_, bs, rfl, sq, fun ns' p h1 h2 hp => Lf.new (hq _ _ (q ns' p h1 h2 (rs.free hp))) ⟨_, rfl, RWs.ints.mpr rfl⟩ rs hp⟩
      · exact q.elim
    · exact q.elim
  · exact q.elim
theorem cr_divW : CallR X (.builtin "divmod") (liftC X.K G divW) := by
  intro pins s σ H vs us Q I r h
  obtain ⟨ws, S, Q0, rw, rs, q, hq⟩ := h
  unfold divW at q
  split at q
  · rename_i i j
    obtain ⟨v, u, rfl, rv, ru⟩ := rws2 rw
    rw [rw_int] at rv ru
    refine call_divmod pins s σ H _ us Q I r ⟨i, j, by rw [rv, ru], q.1, fun p hp => Lf.tup (hq _ _ q.2) ?_ rs hp⟩
    exact .cons (rw_int.mpr rfl) (.cons (rw_int.mpr rfl) .nil)
  · exact q.elim
/-- all of them -/
theorem cr_biW (o : KitOk X.K G k) (hc : X.calm = true) (b : Bi) : CallR X b.val (liftC X.K G (biW k b)) := by
  cases b with
  | isinstance => exact cr_isiW o
  | len => exact cr_lenW
  | abs => exact cr_absW
  | min => exact cr_minW hc
  | max => exact cr_maxW hc
  | int => exact cr_intW
  | bool => exact cr_boolW
  | list => exact cr_listW
  | tuple => exact cr_tupleW
  | all => exact cr_allW hc
  | any => exact cr_anyW hc
  | sum => exact cr_sumW hc
  | divmod => exact cr_divW
  | sorted => exact cr_sortW
  | str => exact cr_strW
  | repr => exact fun pins s σ H vs us Q I r h => by obtain ⟨_, _, _, _, _, q, _⟩ := h; exact q.elim
end
end MP
set_option Elab.async false
set_option linter.all false
set_option maxRecDepth 100000
set_option maxHeartbeats 4000000
namespace MP
open PySem PySem.Spec PyProof.Rows L2
/-- an exception on its way: its class, its fields -/
structure Exn where
  c : Nat
  fs : List (Str × W)
abbrev XP := Exn → Store → Prop
abbrev Tw := Sw → Store → WP → XP → Prop
abbrev TwA := Sw → Store → (List W → Store → Prop) → XP → Prop
abbrev TwT := Sw → Store → (Bool → Store → Prop) → XP → Prop
/-- what is wanted of an exception -/
def Lx (K : PySem.W.Frag) (G : Wd) (H : Hp) (σ : L2.St) (Wx : WX) : XP := fun e S => ∀ d H' fs, H' d = some (.xd fs) → RKV K G H' e.fs fs → RS K G S H' → TP H H' → Wx (.ref (G.cad e.c)) (some d) σ H'
theorem Lx.mono {K : PySem.W.Frag} {G : Wd} {H H1 : Hp} {σ : L2.St} {Wx : WX} {e : Exn} {S : Store} (t : TP H H1) (h : Lx K G H σ Wx e S) : Lx K G H1 σ Wx e S := fun d H' fs a b c f => h d H' fs a b c (t.trans f)
theorem Lf.mono {K : PySem.W.Frag} {G : Wd} {H H1 : Hp} {Q : VK} {w : W} {S : Store} (t : TP H H1) (h : Lf K G H Q w S) : Lf K G H1 Q w S := fun v H' a b f => h v H' a b (t.trans f)
def LfA (K : PySem.W.Frag) (G : Wd) (H : Hp) (Q : List V → Hp → Prop) : List W → Store → Prop := fun w S => ∀ v H', RWs K G H' w v → RS K G S H' → TP H H' → Q v H'
theorem LfA.mono {K : PySem.W.Frag} {G : Wd} {H H1 : Hp} {Q : List V → Hp → Prop} {w : List W} {S : Store} (t : TP H H1) (h : LfA K G H Q w S) : LfA K G H1 Q w S := fun v H' a b f => h v H' a b (t.trans f)
def LfT (K : PySem.W.Frag) (G : Wd) (H : Hp) (Q : Bool → Hp → Prop) : Bool → Store → Prop := fun b S => ∀ H', RS K G S H' → TP H H' → Q b H'
theorem LfT.mono {K : PySem.W.Frag} {G : Wd} {H H1 : Hp} {Q : Bool → Hp → Prop} {w : Bool} {S : Store} (t : TP H H1) (h : LfT K G H Q w S) : LfT K G H1 Q w S := fun H' b f => h H' b (t.trans f)
def liftE (K : PySem.W.Frag) (G : Wd) (Wx : WX) (t : Tw) : TE := fun σ H Q => ∃ (σw : Sw) (S : Store) (Q0 : WP) (E0 : XP), RSt K G H σw σ ∧ RS K G S H ∧ t σw S Q0 E0 ∧ (∀ w S', Q0 w S' → Lf K G H Q w S') ∧ ∀ e S', E0 e S' → Lx K G H σ Wx e S'
def liftA (K : PySem.W.Frag) (G : Wd) (Wx : WX) (t : TwA) : TA := fun σ H Q => ∃ (σw : Sw) (S : Store) (Q0 : List W → Store → Prop) (E0 : XP), RSt K G H σw σ ∧ RS K G S H ∧ t σw S Q0 E0 ∧ (∀ w S', Q0 w S' → LfA K G H Q w S') ∧ ∀ e S', E0 e S' → Lx K G H σ Wx e S'
def liftT (K : PySem.W.Frag) (G : Wd) (Wx : WX) (t : TwT) : TT := fun σ H Q => ∃ (σw : Sw) (S : Store) (Q0 : Bool → Store → Prop) (E0 : XP), RSt K G H σw σ ∧ RS K G S H ∧ t σw S Q0 E0 ∧ (∀ w S', Q0 w S' → LfT K G H Q w S') ∧ ∀ e S', E0 e S' → Lx K G H σ Wx e S'
/-! ### the pieces -/
def varS (i : Nat) : Tw := fun σ S Q _ => match σ[i]? with
  | some (some w) => Q w S
  | _ => False
def cstS (w : W) : Tw := fun _ S Q _ => Q w S
def op2S (b : W → W → Store → WP → Prop) (ta tb : Tw) : Tw := fun σ S Q E => ta σ S (fun x S1 => tb σ S1 (fun y S2 => b x y S2 Q) E) E
def negS (ta : Tw) : Tw := fun σ S Q E => ta σ S (fun x S1 => match x with
  | .int i => Q (.int (-i)) S1
  | _ => False) E
def tstS (ta : Tw) : TwT := fun σ S Q E => ta σ S (fun x S1 => match x with
  | .bl b => Q b S1
  | _ => False) E
/-- a value's truth -/
def truW (S : Store) (x : W) (P : Bool → Prop) : Prop := match x with
  | .bl b => P b
  | .non => P false
  | .int i => P (i != 0)
  | .str z => z.length ≤ sizeLine ∧ P ((z.length : Int) != 0)
  | .tup xs => P (!xs.isEmpty)
  | .ref a => (match S a with
    | some (.lst xs) => P (!xs.isEmpty)
    | some (.dic kvs) => P (!kvs.isEmpty)
    | _ => False)
  | _ => False
def truS (ta : Tw) : TwT := fun σ S Q E => ta σ S (fun x S1 => truW S1 x (fun b => Q b S1)) E
def anW (S : Store) (x : W) (A : Prop) (B : W → Prop) : Prop := truW S x fun b => match b with
  | true => A
  | false => B x
def orW (S : Store) (x : W) (A : Prop) (B : W → Prop) : Prop := truW S x fun b => match b with
  | true => B x
  | false => A
def valS (t : TwT) : Tw := fun σ S Q E => t σ S (fun b S1 => Q (.bl b) S1) E
def notT (t : TwT) : TwT := fun σ S Q E => t σ S (fun b S1 => Q (!b) S1) E
def andT (t u : TwT) : TwT := fun σ S Q E => t σ S (fun b S1 => match b with
  | true => u σ S1 Q E
  | false => Q false S1) E
def orT (t u : TwT) : TwT := fun σ S Q E => t σ S (fun b S1 => match b with
  | true => Q true S1
  | false => u σ S1 Q E) E
def ifS (t : TwT) (ta tb : Tw) : Tw := fun σ S Q E => t σ S (fun b S1 => match b with
  | true => ta σ S1 Q E
  | false => tb σ S1 Q E) E
def chnS (r r' : W → W → Store → WP → Prop) (ta tb tc : Tw) : Tw := fun σ S Q E => ta σ S (fun x S1 => tb σ S1 (fun y S2 => r x y S2 (fun z S3 => match z with
  | .bl true => tc σ S3 (fun w S4 => r' y w S4 Q) E
  | .bl false => Q (.bl false) S3
  | _ => False)) E) E
def nilA : TwA := fun _ S Q _ => Q [] S
def consA (t : Tw) (u : TwA) : TwA := fun σ S Q E => t σ S (fun x S1 => u σ S1 (fun xs S2 => Q (x :: xs) S2) E) E
def tupS (t : TwA) : Tw := fun σ S Q E => t σ S (fun xs S1 => xs.length ≤ sizeLine ∧ Q (.tup xs) S1) E
def lstS (t : TwA) : Tw := fun σ S Q E => t σ S (fun xs S1 => xs.length ≤ sizeLine ∧ ∀ p, S1 p = none → Q (.ref p) (put S1 p (.lst xs))) E
def biS (b : List W → Store → WP → Prop) (t : TwA) : Tw := fun σ S Q E => t σ S (fun xs S1 => b xs S1 Q) E
/-- xs[i] -/
def idxD (x y : W) (S : Store) (Q : WP) : Prop := ∃ a kvs k w, x = .ref a ∧ S a = some (.dic kvs) ∧ keyW y = some k ∧ lkD kvs k = some w ∧ Q w S
def idxL (x y : W) (S : Store) (Q : WP) : Prop :=
  match x, y with
  | .str z, .int i => z.length ≤ sizeLine ∧ (match atI z.cps.toList i with
    | some c => Q (.str ⟨#[c]⟩) S
    | none => False)
  | x, .int i => (match items? S x with
    | some xs => (match atI xs i with
      | some v => Q v S
      | none => False)
    | none => False)
  | _, _ => False
def idxW (x y : W) (S : Store) (Q : WP) : Prop := idxL x y S Q ∨ idxD x y S Q
def cutW (xs : List W) (lo hi : Option Int) : List W := (xs.drop (HT.sIx xs.length 0 lo)).take (HT.sIx xs.length xs.length hi - HT.sIx xs.length 0 lo)
def slcW (x : W) (lo hi : Option Int) (S : Store) (Q : WP) : Prop :=
  match x with
  | .tup xs => Q (.tup (cutW xs lo hi)) S
  | .ref a => (match items? S (.ref a) with
    | some xs => ∀ p, S p = none → Q (.ref p) (put S p (.lst (cutW xs lo hi)))
    | none => False)
  | _ => False
abbrev TwO := Sw → Store → (Option Int → Store → Prop) → XP → Prop
def noO : TwO := fun _ S Q _ => Q none S
def someO (t : Tw) : TwO := fun σ S Q E => t σ S (fun x S1 => match x with
  | .int i => Q (some i) S1
  | _ => False) E
def slcS (t : Tw) (lo hi : TwO) : Tw := fun σ S Q E => t σ S (fun x S1 => lo σ S1 (fun l S2 => hi σ S2 (fun h S3 => slcW x l h S3 Q) E) E) E
def LfO (K : PySem.W.Frag) (G : Wd) (H : Hp) (Q : Option Int → Hp → Prop) : Option Int → Store → Prop := fun b S => ∀ H', RS K G S H' → TP H H' → Q b H'
def liftO (K : PySem.W.Frag) (G : Wd) (Wx : WX) (t : TwO) : TO := fun σ H Q => ∃ (σw : Sw) (S : Store) (Q0 : Option Int → Store → Prop) (E0 : XP), RSt K G H σw σ ∧ RS K G S H ∧ t σw S Q0 E0 ∧ (∀ w S', Q0 w S' → LfO K G H Q w S') ∧ ∀ e S', E0 e S' → Lx K G H σ Wx e S'
theorem cutW_rel {K : PySem.W.Frag} {G : Wd} {H : Hp} {xs : List W} {vs : List V} (r : RWs K G H xs vs) (lo hi : Option Int) : RWs K G H (cutW xs lo hi) (cutV vs lo hi) := by
  unfold cutW cutV
  rw [r.length]
  exact (r.drop _).take _
theorem atI_rel {K : PySem.W.Frag} {G : Wd} {H : Hp} {xs : List W} {vs : List V} (r : RWs K G H xs vs) {i : Int} {w : W} (e : atI xs i = some w) : ∃ v, atI vs i = some v ∧ RW K G H w v := by
  unfold atI at e ⊢
  rw [← r.length]
  cases q : ixN xs.length i with
  | none => rw [q] at e; cases e
  | some j =>
    rw [q] at e
    obtain ⟨v, a, b⟩ := r.get (show xs[j]? = some w from e)
    exact ⟨v, a, b⟩
section
variable {X : Cx} {G : Wd} {Wx : WX} {e a b c : Expr} {t ta tb tc : Tw} {pos : Pos}
abbrev PEw (X : Cx) (G : Wd) (Wx : WX) (e : Expr) (t : Tw) : Prop := PE X e (liftE X.K G Wx t)
abbrev PAw (X : Cx) (G : Wd) (Wx : WX) (es : List Expr) (t : TwA) : Prop := PA X es (liftA X.K G Wx t)
abbrev PTw (X : Cx) (G : Wd) (Wx : WX) (e : Expr) (t : TwT) : Prop := PT X e (liftT X.K G Wx t)
abbrev POw (X : Cx) (G : Wd) (Wx : WX) (e : Option Expr) (t : TwO) : Prop := PO X e (liftO X.K G Wx t)
theorem PE.imp {t t' : TE} (h : PE X e t) (g : ∀ σ H Q, t' σ H Q → t σ H Q) : PE X e t' := ⟨fun pins s σ H Q I q => h.run pins s σ H Q I (g σ H Q q)⟩
theorem PT.imp {t t' : TT} (h : PT X e t) (g : ∀ σ H Q, t' σ H Q → t σ H Q) : PT X e t' := ⟨fun pins s σ H Q I q => h.run pins s σ H Q I (g σ H Q q)⟩
theorem PW.imp {t t' : TT} (h : PW X e t) (g : ∀ σ H Q, t' σ H Q → t σ H Q) : PW X e t' := ⟨fun w pins s σ H Q I q => h.run w pins s σ H Q I (g σ H Q q)⟩
theorem PA.imp {es : List Expr} {t t' : TA} (h : PA X es t) (g : ∀ σ H Q, t' σ H Q → t σ H Q) : PA X es t' := ⟨fun p pins s σ H Q I q => h.run p pins s σ H Q I (g σ H Q q)⟩
theorem PO.imp {es : Option Expr} {t t' : TO} (h : PO X es t) (g : ∀ σ H Q, t' σ H Q → t σ H Q) : PO X es t' := ⟨fun pins s σ H Q I q => h.run pins s σ H Q I (g σ H Q q)⟩
theorem ew_var {i : Nat} {x : Str} (hN : X.N[i]? = some x) (hv : Vis X.env.scope x) (hd : (x == ("__debug__" : Str)) = false) (hcd : (x == ("__classdict__" : Str)) = false) : PEw X G Wx (.Name x pos) (varS i) := by
  refine PE.imp (pe_var hN hv hd hcd) fun σ H Q h => ?_
  obtain ⟨σw, S, Q0, E0, rσ, rs, q, hq, he⟩ := h
  unfold varS at q
  split at q
  · rename_i w e
    obtain ⟨v, e1, r⟩ := rσ.2 i w e
    exact ⟨v, e1, Lf.same (hq _ _ q) r rs⟩
  · exact q.elim
theorem ew_cst {v : V} {w : W} (h : PE X e (tC v)) (hr : ∀ H, RW X.K G H w v) : PEw X G Wx e (cstS w) := by
  refine PE.imp h fun σ H Q q => ?_
  obtain ⟨σw, S, Q0, E0, rσ, rs, q, hq, he⟩ := q
  exact Lf.same (hq _ _ q) (hr H) rs
theorem ew_op {op : Operator} {r : W → W → Store → WP → Prop} (ho : OpR X (binaryOp op) (lift2 X.K G r)) (ha : PEw X G Wx a ta) (hb : PEw X G Wx b tb) : PEw X G Wx (.BinOp a op b pos) (op2S r ta tb) := by
  refine PE.imp (pe_op ho ha hb) fun σ H Q q => ?_
  obtain ⟨σw, S, Q0, E0, rσ, rs, q, hq, he⟩ := q
  refine ⟨σw, S, _, E0, rσ, rs, q, fun x S1 q1 v1 H1 r1 rs1 tp1 => ?_, he⟩
  refine ⟨σw, S1, _, E0, rσ.mono tp1, rs1, q1, fun y S2 q2 v2 H2 r2 rs2 tp2 => ?_, fun e S' h => (he e S' h).mono tp1⟩
  exact ⟨x, y, S2, Q0, r1.mono tp2, r2, rs2, q2, fun w S' h => (hq w S' h).mono (tp1.trans tp2)⟩
theorem ew_cmp {op : CmpOp} {r : W → W → Store → WP → Prop} (ho : OpR X (compareOp op) (lift2 X.K G r)) (ha : PEw X G Wx a ta) (hb : PEw X G Wx b tb) (hm : behindInMarks op b = false) : PEw X G Wx (.Compare a [op] [b] pos) (op2S r ta tb) := by
  refine PE.imp (pe_cmpR ho ha hb hm) fun σ H Q q => ?_
  obtain ⟨σw, S, Q0, E0, rσ, rs, q, hq, he⟩ := q
  refine ⟨σw, S, _, E0, rσ, rs, q, fun x S1 q1 v1 H1 r1 rs1 tp1 => ?_, he⟩
  refine ⟨σw, S1, _, E0, rσ.mono tp1, rs1, q1, fun y S2 q2 v2 H2 r2 rs2 tp2 => ?_, fun e S' h => (he e S' h).mono tp1⟩
  exact ⟨x, y, S2, Q0, r1.mono tp2, r2, rs2, q2, fun w S' h => (hq w S' h).mono (tp1.trans tp2)⟩
theorem tw_cmp {op : CmpOp} {r : W → W → Store → WP → Prop} (ho : OpR X (compareOp op) (lift2 X.K G r)) (ha : PEw X G Wx a ta) (hb : PEw X G Wx b tb) (hm : behindInMarks op b = false) : PTw X G Wx (.Compare a [op] [b] pos) (tstS (op2S r ta tb)) := by
  refine PT.imp (pt_cmpR ho ha hb hm) fun σ H Q q => ?_
  obtain ⟨σw, S, Q0, E0, rσ, rs, q, hq, he⟩ := q
  refine ⟨σw, S, _, E0, rσ, rs, q, fun x S1 q1 v1 H1 r1 rs1 tp1 => ?_, he⟩
  refine ⟨σw, S1, _, E0, rσ.mono tp1, rs1, q1, fun y S2 q2 v2 H2 r2 rs2 tp2 => ?_, fun e S' h => (he e S' h).mono tp1⟩
  refine ⟨x, y, S2, _, r1.mono tp2, r2, rs2, q2, fun w S' h v3 H3 r3 rs3 tp3 => ?_⟩
  cases w <;> first | exact h.elim | skip
  rw [rw_bl] at r3
  exact ⟨_, r3, (hq _ S' h) H3 rs3 (tp1.trans (tp2.trans tp3))⟩
theorem ew_neg (ha : PEw X G Wx a ta) : PEw X G Wx (.UnaryOp .USub a pos) (negS ta) := by
  refine PE.imp (pe_un un_neg ha) fun σ H Q q => ?_
  obtain ⟨σw, S, Q0, E0, rσ, rs, q, hq, he⟩ := q
  refine ⟨σw, S, _, E0, rσ, rs, q, fun x S1 q1 v1 H1 r1 rs1 tp1 => ?_, he⟩
  cases x <;> first | exact q1.elim | skip
  rw [rw_int] at r1
  exact ⟨_, r1, (hq _ _ q1) _ _ (rw_int.mpr rfl) rs1 tp1⟩
theorem tru_rel {K : PySem.W.Frag} {H : Hp} {S : Store} {w : W} {v : V} {P : Bool → Prop} (r : RW K G H w v) (rs : RS K G S H) (h : truW S w P) : ∃ k, TruV K v H k ∧ P k := by
  unfold truW at h
  have sq : ∀ {xs : List W}, items? S w = some xs → P (!xs.isEmpty) → ∃ k, TruV K v H k ∧ P k := fun {xs} e q => by
    obtain ⟨a, vs, rfl, sq, rr⟩ := items_ok rs r e
    have he : (!xs.isEmpty) = !vs.isEmpty := by
      have := rr.length
      cases xs <;> cases vs <;> first | rfl | simp at this
    refine ⟨_, ?_, q⟩
    rcases sq with z | z
    · exact .inl ⟨vs, z, he⟩
    · exact .inr (.inl ⟨vs, z, he⟩)
  split at h
  · rw [rw_bl] at r; subst r; exact ⟨_, rfl, h⟩
  · rw [rw_non] at r; subst r; exact ⟨_, rfl, h⟩
  · rw [rw_int] at r; subst r; exact ⟨_, rfl, h⟩
  · rw [rw_str] at r; subst r; exact ⟨_, ⟨h.1, rfl⟩, h.2⟩
  · exact sq rfl h
  · split at h
    · rename_i a xs e
      exact sq (by simp only [items?, e]) h
    · rename_i a kvs e
      obtain ⟨u, hu, kv', rfl, rk⟩ := rs _ _ e
      rw [rw_ref] at r
      subst r
      have hl := rk.length
      refine ⟨_, .inr (.inr ⟨kv', hu, rfl⟩), ?_⟩
      have he : (!kvs.isEmpty) = !kv'.isEmpty := by cases kvs <;> cases kv' <;> first | rfl | simp at hl
      rw [← he]
      exact h
    · exact h.elim
  · exact h.elim
/-- any expression as a test -/
theorem tw_val (h : PEw X G Wx e t) (he : ∀ whole, isTrue e X.env whole = (do let v ← whole; standAt e.pos; holding [v] (truthy v))) : PTw X G Wx e (truS t) := by
  refine PT.imp (pt_truth h he) fun σ H Q q => ?_
  obtain ⟨σw, S, Q0, E0, rσ, rs, q, hq, he⟩ := q
  refine ⟨σw, S, _, E0, rσ, rs, q, fun x S1 q1 v1 H1 r1 rs1 tp1 => ?_, he⟩
  obtain ⟨k, e, q2⟩ := tru_rel r1 rs1 q1
  exact ⟨k, e, (hq _ _ q2) _ rs1 tp1⟩
theorem tw_not {t : TwT} (h : PTw X G Wx a t) : PTw X G Wx (.UnaryOp .Not a pos) (notT t) := by
  refine PT.imp (pt_not h) fun σ H Q q => ?_
  obtain ⟨σw, S, Q0, E0, rσ, rs, q, hq, he⟩ := q
  exact ⟨σw, S, _, E0, rσ, rs, q, fun x S1 q1 H1 rs1 tp1 => (hq _ _ q1) _ rs1 tp1, he⟩
/-- not as a value -/
theorem ew_not (h : PEw X G Wx a t) : PEw X G Wx (.UnaryOp .Not a pos) (valS (notT (truS t))) := by
  refine PE.imp (pe_notT h) fun σ H Q q => ?_
  obtain ⟨σw, S, Q0, E0, rσ, rs, q, hq, he⟩ := q
  refine ⟨σw, S, _, E0, rσ, rs, q, fun x S1 q1 v1 H1 r1 rs1 tp1 => ?_, he⟩
  obtain ⟨k, e, q2⟩ := tru_rel r1 rs1 q1
  exact ⟨k, e, (hq _ _ q2) _ _ (rw_bl.mpr rfl) rs1 tp1⟩
theorem ite_b {p q : Prop} {b : Bool} (h1 : b = true → p) (h2 : b = false → q) : if b = true then p else q := by
  cases b with
  | true => simpa using h1 rfl
  | false => simpa using h2 rfl
/-- and, or as tests -/
theorem pw_of1 {op : BoolOp} {t : TT} (h : PT X a t) : PW X (.BoolOp op [a] pos) t := by
  cases op with
  | And => exact pw_and1 h
  | Or => exact pw_or1 h
theorem tw_and {rest : List Expr} {t u : TwT} (ha : PTw X G Wx a t) (hb : PW X (.BoolOp .And (b :: rest) pos) (liftT X.K G Wx u)) : PW X (.BoolOp .And (a :: b :: rest) pos) (liftT X.K G Wx (andT t u)) := by
  refine PW.imp (pw_and ha hb) fun σ H Q q => ?_
  obtain ⟨σw, S, Q0, E0, rσ, rs, q, hq, he⟩ := q
  refine ⟨σw, S, _, E0, rσ, rs, q, fun x S1 q1 H1 rs1 tp1 => ?_, he⟩
  refine ite_b (fun z => ?_) (fun z => ?_)
  · subst z
    exact ⟨σw, S1, Q0, E0, rσ.mono tp1, rs1, q1, fun w S' h => (hq w S' h).mono tp1, fun e S' h => (he e S' h).mono tp1⟩
  · subst z
    exact (hq _ _ q1) _ rs1 tp1
theorem tw_or {rest : List Expr} {t u : TwT} (ha : PTw X G Wx a t) (hb : PW X (.BoolOp .Or (b :: rest) pos) (liftT X.K G Wx u)) : PW X (.BoolOp .Or (a :: b :: rest) pos) (liftT X.K G Wx (orT t u)) := by
  refine PW.imp (pw_or ha hb) fun σ H Q q => ?_
  obtain ⟨σw, S, Q0, E0, rσ, rs, q, hq, he⟩ := q
  refine ⟨σw, S, _, E0, rσ, rs, q, fun x S1 q1 H1 rs1 tp1 => ?_, he⟩
  refine ite_b (fun z => ?_) (fun z => ?_)
  · subst z
    exact (hq _ _ q1) _ rs1 tp1
  · subst z
    exact ⟨σw, S1, Q0, E0, rσ.mono tp1, rs1, q1, fun w S' h => (hq w S' h).mono tp1, fun e S' h => (he e S' h).mono tp1⟩
/-- and, or as values -/
def andS (ta tb : Tw) : Tw := fun σ S Q E => ta σ S (fun x S1 => anW S1 x (tb σ S1 Q E) (fun y => Q y S1)) E
def orS (ta tb : Tw) : Tw := fun σ S Q E => ta σ S (fun x S1 => orW S1 x (tb σ S1 Q E) (fun y => Q y S1)) E
theorem ew_one {op : BoolOp} (h : PEw X G Wx a t) : PEw X G Wx (.BoolOp op [a] pos) t := pe_one h
theorem ew_and {rest : List Expr} (ha : PEw X G Wx a ta) (hb : PEw X G Wx (.BoolOp .And (b :: rest) pos) tb) : PEw X G Wx (.BoolOp .And (a :: b :: rest) pos) (andS ta tb) := by
  refine ⟨fun pins s σ H Q I q => ?_⟩
  obtain ⟨σw, S, Q0, E0, rσ, rs, q, hq, he⟩ := q
  refine BoolOp_and (thn (ha.run pins s σ H (fun v H1 => ∃ x S1, RW X.K G H1 x v ∧ RS X.K G S1 H1 ∧ TP H H1 ∧ anW S1 x (tb σw S1 Q0 E0) (fun y => Q0 y S1)) I ⟨σw, S, _, E0, rσ, rs, q, fun x S1 q1 v1 H1 r1 rs1 tp1 => ⟨x, S1, r1, rs1, tp1, q1⟩, he⟩) fun u s1 ⟨v, H1, I1, rv, x, S1, r1, rs1, tp1, q1⟩ => ?_)
  obtain ⟨k, e, q2⟩ := tru_rel r1 rs1 q1
  refine thn (tru_ok pins s1 σ H1 v u (fun c H2 => c = k ∧ H2 = H1) I1 rv ⟨k, e, rfl, rfl⟩) fun c s2 ⟨H2, I2, hc, hH⟩ => ?_
  subst hc
  subst hH
  refine ite_b (fun z => ?_) (fun z => ?_)
  · subst z
    exact hb.run pins s2 σ H2 Q I2 ⟨σw, S1, Q0, E0, rσ.mono tp1, rs1, q2, fun w S' h => (hq w S' h).mono tp1, fun e S' h => (he e S' h).mono tp1⟩
  · subst z
    exact ⟨v, H2, I2, rv, (hq _ _ q2) _ _ r1 rs1 tp1⟩
theorem ew_or {rest : List Expr} (ha : PEw X G Wx a ta) (hb : PEw X G Wx (.BoolOp .Or (b :: rest) pos) tb) : PEw X G Wx (.BoolOp .Or (a :: b :: rest) pos) (orS ta tb) := by
  refine ⟨fun pins s σ H Q I q => ?_⟩
  obtain ⟨σw, S, Q0, E0, rσ, rs, q, hq, he⟩ := q
  refine BoolOp_or (thn (ha.run pins s σ H (fun v H1 => ∃ x S1, RW X.K G H1 x v ∧ RS X.K G S1 H1 ∧ TP H H1 ∧ orW S1 x (tb σw S1 Q0 E0) (fun y => Q0 y S1)) I ⟨σw, S, _, E0, rσ, rs, q, fun x S1 q1 v1 H1 r1 rs1 tp1 => ⟨x, S1, r1, rs1, tp1, q1⟩, he⟩) fun u s1 ⟨v, H1, I1, rv, x, S1, r1, rs1, tp1, q1⟩ => ?_)
  obtain ⟨k, e, q2⟩ := tru_rel r1 rs1 q1
  refine thn (tru_ok pins s1 σ H1 v u (fun c H2 => c = k ∧ H2 = H1) I1 rv ⟨k, e, rfl, rfl⟩) fun c s2 ⟨H2, I2, hc, hH⟩ => ?_
  subst hc
  subst hH
  refine ite_b (fun z => ?_) (fun z => ?_)
  · subst z
    exact ⟨v, H2, I2, rv, (hq _ _ q2) _ _ r1 rs1 tp1⟩
  · subst z
    exact hb.run pins s2 σ H2 Q I2 ⟨σw, S1, Q0, E0, rσ.mono tp1, rs1, q2, fun w S' h => (hq w S' h).mono tp1, fun e S' h => (he e S' h).mono tp1⟩
theorem ew_if {c : Expr} {t : TwT} (hc : PTw X G Wx c t) (ha : PEw X G Wx a ta) (hb : PEw X G Wx b tb) : PEw X G Wx (.IfExp c a b pos) (ifS t ta tb) := by
  refine PE.imp (pe_ifExp hc ha hb) fun σ H Q q => ?_
  obtain ⟨σw, S, Q0, E0, rσ, rs, q, hq, he⟩ := q
  refine ⟨σw, S, _, E0, rσ, rs, q, fun x S1 q1 H1 rs1 tp1 => ?_, he⟩
  refine ite_b (fun z => ?_) (fun z => ?_) <;> subst z <;>
    exact ⟨σw, S1, Q0, E0, rσ.mono tp1, rs1, q1, fun w S' h => (hq w S' h).mono tp1, fun e S' h => (he e S' h).mono tp1⟩
theorem ew_chn {op op' : CmpOp} {r r' : W → W → Store → WP → Prop} (ho : OpR X (compareOp op) (lift2 X.K G r)) (ho' : OpR X (compareOp op') (lift2 X.K G r')) (ha : PEw X G Wx a ta) (hb : PEw X G Wx b tb) (hc : PEw X G Wx c tc)
    (hm : lastMarks [op, op'] [b, c] = false) : PEw X G Wx (.Compare a [op, op'] [b, c] pos) (chnS r r' ta tb tc) := by
  refine PE.imp (pe_chain ho ho' ha hb hc hm) fun σ H Q q => ?_
  obtain ⟨σw, S, Q0, E0, rσ, rs, q, hq, he⟩ := q
  refine ⟨σw, S, _, E0, rσ, rs, q, fun x S1 q1 v1 H1 r1 rs1 tp1 => ?_, he⟩
  refine ⟨σw, S1, _, E0, rσ.mono tp1, rs1, q1, fun y S2 q2 v2 H2 r2 rs2 tp2 => ?_, fun e S' h => (he e S' h).mono tp1⟩
  refine ⟨x, y, S2, _, r1.mono tp2, r2, rs2, q2, fun w S3 h v3 H3 r3 rs3 tp3 => ?_⟩
  have tp13 := tp1.trans (tp2.trans tp3)
  cases w <;> first | exact h.elim | skip
  rename_i k
  rw [rw_bl] at r3
  refine ⟨k, r3, ite_b (fun z => ?_) (fun z => ?_)⟩
  · subst z
    refine ⟨σw, S3, _, E0, rσ.mono tp13, rs3, h, fun w4 S4 q4 v4 H4 r4 rs4 tp4 => ?_, fun e S' h => (he e S' h).mono tp13⟩
    exact ⟨y, w4, S4, Q0, r2.mono (tp3.trans tp4), r4, rs4, q4, fun w S' h => (hq w S' h).mono (tp13.trans tp4)⟩
  · subst z
    exact (hq _ _ h) _ _ (rw_bl.mpr rfl) rs3 tp13
theorem tw_chn {op op' : CmpOp} {r r' : W → W → Store → WP → Prop} (ho : OpR X (compareOp op) (lift2 X.K G r)) (ho' : OpR X (compareOp op') (lift2 X.K G r')) (ha : PEw X G Wx a ta) (hb : PEw X G Wx b tb) (hc : PEw X G Wx c tc)
    (hm : lastMarks [op, op'] [b, c] = false) : PTw X G Wx (.Compare a [op, op'] [b, c] pos) (tstS (chnS r r' ta tb tc)) := by
  refine PT.imp (pt_chain ho ho' ha hb hc hm) fun σ H Q q => ?_
  obtain ⟨σw, S, Q0, E0, rσ, rs, q, hq, he⟩ := q
  refine ⟨σw, S, _, E0, rσ, rs, q, fun x S1 q1 v1 H1 r1 rs1 tp1 => ?_, he⟩
  refine ⟨σw, S1, _, E0, rσ.mono tp1, rs1, q1, fun y S2 q2 v2 H2 r2 rs2 tp2 => ?_, fun e S' h => (he e S' h).mono tp1⟩
  refine ⟨x, y, S2, _, r1.mono tp2, r2, rs2, q2, fun w S3 h v3 H3 r3 rs3 tp3 => ?_⟩
  have tp13 := tp1.trans (tp2.trans tp3)
  cases w <;> first | exact h.elim | skip
  rename_i k
  rw [rw_bl] at r3
  refine ⟨k, r3, ite_b (fun z => ?_) (fun z => ?_)⟩
  · subst z
    refine ⟨σw, S3, _, E0, rσ.mono tp13, rs3, h, fun w4 S4 q4 v4 H4 r4 rs4 tp4 => ?_, fun e S' h => (he e S' h).mono tp13⟩
    refine ⟨y, w4, S4, _, r2.mono (tp3.trans tp4), r4, rs4, q4, fun w5 S5 h5 v5 H5 r5 rs5 tp5 => ?_⟩
    cases w5 <;> first | exact h5.elim | skip
    rw [rw_bl] at r5
    exact ⟨_, r5, (hq _ _ h5) _ rs5 (tp13.trans (tp4.trans tp5))⟩
  · subst z
    exact ⟨false, rfl, (hq _ _ h) _ rs3 tp13⟩
/-! ### lists of arguments, displays -/
theorem aw_nil : PAw X G Wx [] nilA := by
  refine PA.imp pa_nil fun σ H Q q => ?_
  obtain ⟨σw, S, Q0, E0, rσ, rs, q, hq, he⟩ := q
  exact (hq _ _ q) _ _ .nil rs .refl
theorem aw_cons {es : List Expr} {u : TwA} (ha : PEw X G Wx e t) (hr : PAw X G Wx es u) (hs : starEach (e :: es) X.env = (false, eval e X.env) :: starEach es X.env) : PAw X G Wx (e :: es) (consA t u) := by
  refine PA.imp (pa_cons ha hr hs) fun σ H Q q => ?_
  obtain ⟨σw, S, Q0, E0, rσ, rs, q, hq, he⟩ := q
  refine ⟨σw, S, _, E0, rσ, rs, q, fun x S1 q1 v1 H1 r1 rs1 tp1 => ?_, he⟩
  refine ⟨σw, S1, _, E0, rσ.mono tp1, rs1, q1, fun y S2 q2 v2 H2 r2 rs2 tp2 => ?_, fun e S' h => (he e S' h).mono tp1⟩
  exact (hq _ _ q2) _ _ (.cons (r1.mono tp2) r2) rs2 (tp1.trans tp2)
theorem ew_tup {es : List Expr} {k : Nat} {u : TwA} (h : PAw X G Wx es u) : PEw X G Wx (.Tuple es k pos) (tupS u) := by
  refine PE.imp (pe_tup h) fun σ H Q q => ?_
  obtain ⟨σw, S, Q0, E0, rσ, rs, q, hq, he⟩ := q
  refine ⟨σw, S, _, E0, rσ, rs, q, fun x S1 q1 v1 H1 r1 rs1 tp1 => ?_, he⟩
  exact ⟨by rw [← r1.length]; exact q1.1, fun p hp => Lf.tup ((hq _ _ q1.2).mono tp1) r1 rs1 hp⟩
theorem ew_lst {es : List Expr} {u : TwA} (h : PAw X G Wx es u) : PEw X G Wx (.List es pos) (lstS u) := by
  refine PE.imp (pe_lst h) fun σ H Q q => ?_
  obtain ⟨σw, S, Q0, E0, rσ, rs, q, hq, he⟩ := q
  refine ⟨σw, S, _, E0, rσ, rs, q, fun x S1 q1 v1 H1 r1 rs1 tp1 => ?_, he⟩
  exact ⟨by rw [← r1.length]; exact q1.1, fun p hp => Lf.new ((hq _ _ (q1.2 p (rs1.free hp))).mono tp1) ⟨_, rfl, r1⟩ rs1 hp⟩
/-! ### attributes, subscripts, slices -/
theorem ix_dk : IxR X (fun x y H Q => ∃ a ms k v, x = .ref a ∧ H a = some (.dK ms) ∧ y = kV k ∧ valV ms k = some v ∧ Q v H) := by
  intro value slice pins s σ H x y v u Q I rx ry h hs
  obtain ⟨a, ms, k, w0, rfl, e, rfl, el, q⟩ := h
  obtain rfl : v = Value.ref a := rx
  obtain ⟨z, hd, vs, rel, dd⟩ := dk_of I.hok e
  obtain ⟨w', hw, rw'⟩ := RelO.some_of (v := w0) (o := valueAt vs k) (by rw [← el]; exact rel.val k)
  exact tail_any dd.typeIs slot_dict_getitem.lookup (wpAny_getItem_of (kV_is ry) dd.mapOf hw ⟨w0, H, I.tok _, rw', q⟩) hs
theorem ew_idx (ha : PEw X G Wx a ta) (hb : PEw X G Wx b tb) (hs : PlainIx b) : PEw X G Wx (.Subscript a b pos) (op2S idxW ta tb) := by
  refine PE.imp (pe_ix (ix_dk.or (ix_list.or (ix_tup.or ix_str))) ha hb hs) fun σ H Q q => ?_
  obtain ⟨σw, S, Q0, E0, rσ, rs, q, hq, he⟩ := q
  refine ⟨σw, S, _, E0, rσ, rs, q, fun x S1 q1 v1 H1 r1 rs1 tp1 => ?_, he⟩
  refine ⟨σw, S1, _, E0, rσ.mono tp1, rs1, q1, fun y S2 q2 v2 H2 r2 rs2 tp2 => ?_, fun e S' h => (he e S' h).mono tp1⟩
  have tp12 := tp1.trans tp2
  have r1' := r1.mono tp2
  rcases q2 with q2 | q2
  case inr =>
    obtain ⟨p, kvs, k, w0, rfl, e, ek, el, q2⟩ := q2
    rw [rw_ref] at r1'
    obtain ⟨ms, hu, rr⟩ := rs2.dic e
    obtain ⟨v3, e3, r3⟩ := (rr.val k).2 w0 el
    exact .inl ⟨p, ms, k, v3, r1', hu, keyW_rel r2 ek, e3, (hq _ _ q2) _ _ r3 rs2 tp12⟩
  refine .inr ?_
  unfold idxL at q2
  split at q2
  · rename_i z i
    rw [rw_str] at r1'
    rw [rw_int] at r2
    obtain ⟨q0, q2⟩ := q2
    split at q2
    · rename_i c e
      exact .inr (.inr ⟨z, i, c, r1', r2, q0, e, (hq _ _ q2) _ _ (rw_str.mpr rfl) rs2 tp12⟩)
    · exact q2.elim
  · rename_i i _
    rw [rw_int] at r2
    split at q2
    · rename_i xs e
      split at q2
      · rename_i w e2
        obtain ⟨p, vs, rfl, sq, rr⟩ := items_ok rs2 r1' e
        obtain ⟨v, e3, r3⟩ := atI_rel rr e2
        have fin := (hq _ _ q2) _ _ r3 rs2 tp12
        rcases sq with sq | sq
        · exact .inl ⟨p, vs, i, v, rfl, r2, sq, e3, fin⟩
        · exact .inr (.inl ⟨p, vs, i, v, rfl, r2, sq, e3, fin⟩)
      · exact q2.elim
    · exact q2.elim
  · exact q2.elim
theorem ow_none : POw X G Wx none noO := by
  refine PO.imp po_none fun σ H Q q => ?_
  obtain ⟨σw, S, Q0, E0, rσ, rs, q, hq, he⟩ := q
  exact (hq _ _ q) _ rs .refl
theorem ow_some (h : PEw X G Wx e t) : POw X G Wx (some e) (someO t) := by
  refine PO.imp (po_some h) fun σ H Q q => ?_
  obtain ⟨σw, S, Q0, E0, rσ, rs, q, hq, he⟩ := q
  refine ⟨σw, S, _, E0, rσ, rs, q, fun x S1 q1 v1 H1 r1 rs1 tp1 => ?_, he⟩
  cases x <;> first | exact q1.elim | skip
  rw [rw_int] at r1
  exact ⟨_, r1, (hq _ _ q1) _ rs1 tp1⟩
theorem ew_slc {lo hi : Option Expr} {tl th : TwO} {p2 : Pos} (ha : PEw X G Wx a ta) (hl : POw X G Wx lo tl) (hh : POw X G Wx hi th) : PEw X G Wx (.Subscript a (.Slice lo hi none p2) pos) (slcS ta tl th) := by
  refine PE.imp (pe_slice (sl_list.or sl_tupA) ha hl hh) fun σ H Q q => ?_
  obtain ⟨σw, S, Q0, E0, rσ, rs, q, hq, he⟩ := q
  refine ⟨σw, S, _, E0, rσ, rs, q, fun x S1 q1 v1 H1 r1 rs1 tp1 => ?_, he⟩
  refine ⟨σw, S1, _, E0, rσ.mono tp1, rs1, q1, fun l S2 q2 H2 rs2 tp2 => ?_, fun e S' h => (he e S' h).mono tp1⟩
  have tp12 := tp1.trans tp2
  refine ⟨σw, S2, _, E0, rσ.mono tp12, rs2, q2, fun u S3 q3 H3 rs3 tp3 => ?_, fun e S' h => (he e S' h).mono tp12⟩
  have tp13 := tp12.trans tp3
  have r3 := r1.mono (tp2.trans tp3)
  unfold slcW at q3
  split at q3
  · rename_i xs
    obtain ⟨p, vs, rfl, tA, rr⟩ := rw_tup.mp r3
    refine .inr ⟨p, vs, rfl, tA.sq, fun z => ?_, fun z d hd => Lf.tup ((hq _ _ q3).mono tp13) (cutW_rel rr l u) rs3 hd⟩
    have ew : cutW xs l u = xs := by
      unfold cutW
      rw [rr.length, z.1, z.2]
      simp [← rr.length]
    rw [ew] at q3
    exact (hq _ _ q3) _ _ r3 rs3 tp13
  · rename_i ad
    split at q3
    · rename_i xs e
      obtain ⟨vs, sq, rr⟩ := items_ref rs3 e
      rw [rw_ref] at r3
      exact .inl ⟨ad, vs, r3, sq, fun p hp => Lf.new ((hq _ _ (q3 p (rs3.free hp))).mono tp13) ⟨_, rfl, cutW_rel rr l u⟩ rs3 hp⟩
    · exact q3.elim
  · exact q3.elim
/-! ### built-in calls -/
theorem ew_bi {f : Value} {r : List W → Store → WP → Prop} {es : List Expr} {u : TwA} (h0 : ∀ {t : TA}, PA X es t → PE X e (tCB (liftC X.K G r) t)) (ha : PAw X G Wx es u) : PEw X G Wx e (biS r u) := by
  refine PE.imp (h0 ha) fun σ H Q q => ?_
  obtain ⟨σw, S, Q0, E0, rσ, rs, q, hq, he⟩ := q
  refine ⟨σw, S, _, E0, rσ, rs, q, fun x S1 q1 v1 H1 r1 rs1 tp1 => ?_, he⟩
  exact ⟨x, S1, Q0, r1, rs1, q1, fun w S' h => (hq w S' h).mono tp1⟩
end
end MP
set_option Elab.async false
set_option linter.all false
set_option maxRecDepth 100000
set_option maxHeartbeats 4000000
namespace MP
open PySem PySem.Spec PyProof.Rows L2 RZ
/-! ### what is walked -/
structure ItOk (K : PySem.W.Frag) (G : Wd) (J : It) (H1 : Hp) (items : List W) (still : Store → Prop) : Prop where
  go : ∀ (S : Store) (H : Hp) (i : Nat) (w : W), RS K G S H → TP H1 H → still S → items[i]? = some w → J.go i H ∧ ∀ x H', J.yld i H x H' → RW K G H' w x ∧ RS K G S H' ∧ TP H H'
  stop : ∀ (S : Store) (H : Hp), RS K G S H → TP H1 H → still S → J.stop items.length H
abbrev TwI := Sw → Store → (List W → (Store → Prop) → Store → Prop) → XP → Prop
def liftI (K : PySem.W.Frag) (G : Wd) (Wx : WX) (t : TwI) : TI := fun σ H R => ∃ (σw : Sw) (S : Store) (Q0 : List W → (Store → Prop) → Store → Prop) (E0 : XP), RSt K G H σw σ ∧ RS K G S H ∧ t σw S Q0 E0 ∧
  (∀ items still S', Q0 items still S' → ∀ J H', ItOk K G J H' items still → RS K G S' H' → TP H H' → R J H') ∧ ∀ e S', E0 e S' → Lx K G H σ Wx e S'
/-- a list's items as they stand -/
def stillL (w : W) (xs : List W) : Store → Prop := fun S => items? S w = some xs
def seqI (t : Tw) : TwI := fun σ S Q E => t σ S (fun x S1 => match items? S1 x with
  | some xs => Q xs (stillL x xs) S1
  | none => False) E
def rng1I (t : TwA) : TwI := fun σ S Q E => t σ S (fun xs S1 => match xs with
  | [.int j] => -(2 ^ 62) ≤ j ∧ j < 2 ^ 62 ∧ Q ((List.range j.toNat).map fun (i : Nat) => W.int (0 + (i : Int))) (fun _ => True) S1
  | _ => False) E
def rng2I (t : TwA) : TwI := fun σ S Q E => t σ S (fun xs S1 => match xs with
  | [.int i, .int j] => (-(2 ^ 62) ≤ i ∧ i < 2 ^ 62 ∧ -(2 ^ 62) ≤ j ∧ j < 2 ^ 62) ∧ Q ((List.range (j - i).toNat).map fun (k : Nat) => W.int (i + (k : Int))) (fun _ => True) S1
  | _ => False) E
/-- places and items -/
def enumI (k : Int) : List W → List W
  | [] => []
  | w :: r => .tup [.int k, w] :: enumI (k + 1) r
theorem enumI_get : ∀ {xs : List W} {k : Int} {i : Nat}, (enumI k xs)[i]? = (xs[i]?).map fun w => W.tup [.int (k + i), w]
  | [], k, i => by simp [enumI]
  | w :: r, k, 0 => by simp [enumI]
  | w :: r, k, i + 1 => by
    simp only [enumI, List.getElem?_cons_succ]
    rw [enumI_get]
    congr 1
    funext w
    congr 3
    omega
theorem enumI_len : ∀ {xs : List W} {k : Int}, (enumI k xs).length = xs.length
  | [], k => rfl
  | w :: r, k => by simp [enumI, enumI_len]
def enm1I (t : TwA) : TwI := fun σ S Q E => t σ S (fun xs S1 => match xs with
  | [.ref a] => (match items? S1 (.ref a) with
    | some ys => Q (enumI 0 ys) (stillL (.ref a) ys) S1
    | none => False)
  | _ => False) E
def enm2I (t : TwA) : TwI := fun σ S Q E => t σ S (fun xs S1 => match xs with
  | [x, .int k] => (match items? S1 x with
    | some ys => -(2 ^ 63) ≤ k ∧ k < 2 ^ 63 ∧ Q (enumI k ys) (stillL x ys) S1
    | none => False)
  | _ => False) E
def zipI : List W → List W → List W
  | x :: xs, y :: ys => .tup [x, y] :: zipI xs ys
  | _, _ => []
theorem zipI_of : ∀ {xs ys : List W} {i : Nat} {w : W}, (zipI xs ys)[i]? = some w → ∃ x y, xs[i]? = some x ∧ ys[i]? = some y ∧ w = .tup [x, y]
  | [], ys, i, w, h => by simp [zipI] at h
  | a :: xs, [], i, w, h => by simp [zipI] at h
  | a :: xs, b :: ys, 0, w, h => by simp [zipI] at h; exact ⟨a, b, rfl, rfl, h.symm⟩
  | a :: xs, b :: ys, i + 1, w, h => by
    simp only [zipI, List.getElem?_cons_succ] at h ⊢
    exact zipI_of h
theorem zipI_len : ∀ {xs ys : List W}, (zipI xs ys).length = min xs.length ys.length
  | [], ys => by simp [zipI]
  | a :: xs, [] => by simp [zipI]
  | a :: xs, b :: ys => by simp only [zipI, List.length_cons, zipI_len]; omega
def zpI (t : TwA) : TwI := fun σ S Q E => t σ S (fun xs S1 => match xs with
  | [.ref a, .ref b] => (match items? S1 (.ref a), items? S1 (.ref b) with
    | some xs, some ys => Q (zipI xs ys) (fun S => stillL (.ref a) xs S ∧ stillL (.ref b) ys S) S1
    | _, _ => False)
  | [.tup xs, .tup ys] => Q (zipI xs ys) (fun _ => True) S1
  | _ => False) E
theorem ItOk.list {K : PySem.W.Frag} {G : Wd} {H1 : Hp} {a : Addr} {ws : List W} : ItOk K G (Itl K a) H1 ws (stillL (.ref a) ws) where
  go := fun S H i w rs tp st e => by
    obtain ⟨vs, sq, rr⟩ := items_ref rs st
    obtain ⟨v, e1, r1⟩ := rr.get e
    refine ⟨⟨vs, v, sq, e1⟩, fun x H' y => ?_⟩
    obtain ⟨rfl, y⟩ := y
    have := y vs sq
    rw [e1] at this
    cases this
    exact ⟨r1, rs, .refl⟩
  stop := fun S H rs tp st => by
    obtain ⟨vs, sq, rr⟩ := items_ref rs st
    exact ⟨vs, sq, by rw [rr.length]; exact Nat.le_refl _⟩
theorem ItOk.kls {K : PySem.W.Frag} {G : Wd} {H1 : Hp} {a : Addr} {ws : List W} {vs : List V} (t : LstK K a vs) (r : RWs K G H1 ws vs) : ItOk K G (Itl K a) H1 ws (stillL (.kls ws) ws) where
  go := fun S H i w rs tp st e => by
    have r' := r.mono tp
    obtain ⟨v, e1, r1⟩ := r'.get e
    refine ⟨⟨vs, v, t.sq, e1⟩, fun x H' y => ?_⟩
    obtain ⟨rfl, y⟩ := y
    have := y vs t.sq
    rw [e1] at this
    cases this
    exact ⟨r1, rs, .refl⟩
  stop := fun S H rs tp st => ⟨vs, t.sq, by rw [r.length]; exact Nat.le_refl _⟩
/-- two tuples at one place are one, where the heap is held -/
theorem ItOk.tup {K : PySem.W.Frag} {G : Wd} {H1 : Hp} {a : Addr} {ws : List W} {vs : List V} (t : TupAt K H1 a vs) (r : RWs K G H1 ws vs) : ItOk K G (Itt K a) H1 ws (stillL (.tup ws) ws) where
  go := fun S H i w rs tp st e => by
    have t' := tp.at t
    have r' := r.mono tp
    obtain ⟨v, e1, r1⟩ := r'.get e
    refine ⟨⟨vs, v, t'.sq, e1⟩, fun x H' y => ?_⟩
    obtain ⟨rfl, y⟩ := y
    have := y vs t'.sq
    rw [e1] at this
    cases this
    exact ⟨r1, rs, .refl⟩
  stop := fun S H rs tp st => ⟨vs, (tp.at t).sq, by rw [r.length]; exact Nat.le_refl _⟩
theorem ItOk.rng {K : PySem.W.Frag} {G : Wd} {H1 : Hp} {lo : Int} {n : Nat} : ItOk K G (Itr lo n) H1 ((List.range n).map fun (i : Nat) => W.int (lo + (i : Int))) (fun _ => True) where
  go := fun S H i w rs tp st e => by
    have hi : i < n := by
      have := (List.getElem?_eq_some_iff.mp e).1
      simpa using this
    have ew : w = .int (lo + i) := by
      rw [List.getElem?_map, List.getElem?_range hi] at e
      simpa using e.symm
    subst ew
    exact ⟨hi, fun x H' y => by obtain ⟨rfl, rfl⟩ := y; exact ⟨rw_int.mpr rfl, rs, .refl⟩⟩
  stop := fun S H rs tp st => by simp [Itr]
theorem pair_new {K : PySem.W.Frag} {G : Wd} {S : Store} {H : Hp} {T : Addr} {x y : W} {v u : V} (rs : RS K G S H) (h : H T = none) (rx : RW K G H x v) (ry : RW K G H y u) :
    RW K G (upd H T (.tup [v, u])) (.tup [x, y]) (.ref T) ∧ RS K G S (upd H T (.tup [v, u])) ∧ TP H (upd H T (.tup [v, u])) :=
  ⟨rw_tup.mpr ⟨T, _, rfl, .inl upd_same, (RWs.cons rx (.cons ry .nil)).mono (.new h)⟩, rs.newT h, .new h⟩
theorem ItOk.zipL {K : PySem.W.Frag} {G : Wd} {H1 : Hp} {a b : Addr} {xs ys : List W} : ItOk K G (Itz K a b) H1 (zipI xs ys) (fun S => stillL (.ref a) xs S ∧ stillL (.ref b) ys S) where
  go := fun S H i w rs tp st e => by
    obtain ⟨vs, sq, rr⟩ := items_ref rs st.1
    obtain ⟨us, sq2, rr2⟩ := items_ref rs st.2
    obtain ⟨x, y, e1, e2, rfl⟩ := zipI_of e
    obtain ⟨v, f1, r1⟩ := rr.get e1
    obtain ⟨u, f2, r2⟩ := rr2.get e2
    refine ⟨⟨vs, us, v, u, sq, sq2, f1, f2⟩, fun z H' y => ?_⟩
    obtain ⟨T, v', u', rfl, hT, rfl, g1, g2⟩ := y
    have h1 := g1 vs sq
    have h2 := g2 us sq2
    rw [f1] at h1
    rw [f2] at h2
    cases h1
    cases h2
    exact pair_new rs hT r1 r2
  stop := fun S H rs tp st => by
    obtain ⟨vs, sq, rr⟩ := items_ref rs st.1
    obtain ⟨us, sq2, rr2⟩ := items_ref rs st.2
    refine ⟨vs, us, sq, sq2, ?_⟩
    rw [zipI_len, rr.length, rr2.length]
    omega
theorem ItOk.zipT {K : PySem.W.Frag} {G : Wd} {H1 : Hp} {a b : Addr} {xs ys : List W} {vs us : List V} (t : TupAt K H1 a vs) (r : RWs K G H1 xs vs) (t2 : TupAt K H1 b us) (r2 : RWs K G H1 ys us) : ItOk K G (ItzT K a b) H1 (zipI xs ys) (fun _ => True) where
  go := fun S H i w rs tp st e => by
    have sq := (tp.at t).sq
    have sq2 := (tp.at t2).sq
    obtain ⟨x, y, e1, e2, rfl⟩ := zipI_of e
    obtain ⟨v, f1, r1⟩ := (r.mono tp).get e1
    obtain ⟨u, f2, r2⟩ := (r2.mono tp).get e2
    refine ⟨⟨vs, us, v, u, sq, sq2, f1, f2⟩, fun z H' y => ?_⟩
    obtain ⟨T, v', u', rfl, hT, rfl, g1, g2⟩ := y
    have h1 := g1 vs sq
    have h2 := g2 us sq2
    rw [f1] at h1
    rw [f2] at h2
    cases h1
    cases h2
    exact pair_new rs hT r1 r2
  stop := fun S H rs tp st => by
    have h1 := r.length
    have h2 := r2.length
    have h3 := zipI_len (xs := xs) (ys := ys)
    exact ⟨vs, us, (tp.at t).sq, (tp.at t2).sq, by omega⟩
section
variable {X : Cx} {G : Wd} {Wx : WX} {tg e : Expr} {t : Tw} {pos : Pos}
abbrev PIw (X : Cx) (G : Wd) (Wx : WX) (tg e : Expr) (t : TwI) : Prop := PI X tg e (liftI X.K G Wx t)
theorem PI.imp {t t' : TI} (h : PI X tg e t) (g : ∀ σ H R, t' σ H R → t σ H R) : PI X tg e t' := ⟨fun pins s σ H Q I q => h.run pins s σ H Q I (g σ H Q q)⟩
/-- a list or a tuple -/
def iSeq (K : PySem.W.Frag) (tl : TE) : TI := fun σ H R => tl σ H fun x H1 => ∃ a, x = .ref a ∧ (((∃ xs, SqL K H1 a xs) ∧ R (Itl K a) H1) ∨ ((∃ xs, SqT K H1 a xs) ∧ R (Itt K a) H1))
theorem pi_seq {l : Expr} {tl : TE} (hl : PE X l tl) : PI X tg l (iSeq X.K tl) := by
  refine ⟨fun pins s σ H R I h => ?_⟩
  refine thn (hl.run pins s σ H _ I h) fun v s1 ⟨x, H1, I1, r1, q1⟩ => ?_
  obtain ⟨a, e, ⟨⟨xs, hq⟩, q⟩ | ⟨⟨xs, hq⟩, q⟩⟩ := q1
  · subst e
    cases r1
    obtain ⟨its, rv, p, hz⟩ := I1.list hq
    refine wpAny_pyIter_list p.isList ?_
    refine ⟨s1.heap.objs.size, [s1.heap.objs.size], _, _, H1, rfl, I1.kept (t' := s1.toks) fun b o e => Heap.get?_push_of_some _ e, turn_list a _, ⟨_, Heap.get?_push_size _ rfl, rfl, rfl⟩, fun b hb => ?_, q⟩
    have e : b = s1.heap.objs.size := by simpa using hb
    subst e
    exact I1.fpOk (Nat.le_refl _) (I1.hok.fresh (Nat.le_refl _))
  · subst e
    cases r1
    obtain ⟨its, rv, p, hz⟩ := I1.tuple hq
    refine wpAny_pyIter_tuple (show s1.heap.IsTuple a its.toArray from p) ?_
    refine ⟨s1.heap.objs.size, [s1.heap.objs.size], _, _, H1, rfl, I1.kept (t' := s1.toks) fun b o e => Heap.get?_push_of_some _ e, turn_tuple a _, ⟨_, Heap.get?_push_size _ rfl, rfl, rfl⟩, fun b hb => ?_, q⟩
    have e : b = s1.heap.objs.size := by simpa using hb
    subst e
    exact I1.fpOk (Nat.le_refl _) (I1.hok.fresh (Nat.le_refl _))
theorem iw_seq (h : PEw X G Wx e t) : PIw X G Wx tg e (seqI t) := by
  refine PI.imp (pi_seq h) fun σ H R q => ?_
  obtain ⟨σw, S, Q0, E0, rσ, rs, q, hq, he⟩ := q
  refine ⟨σw, S, _, E0, rσ, rs, q, fun x S1 q1 v1 H1 r1 rs1 tp1 => ?_, he⟩
  split at q1
  · rename_i xs e
    cases x with
    | ref a =>
      rw [rw_ref] at r1
      obtain ⟨vs, sq, rr⟩ := items_ref rs1 e
      exact ⟨a, r1, .inl ⟨⟨vs, sq⟩, hq _ _ _ q1 _ _ .list rs1 tp1⟩⟩
    | tup ws =>
      cases e
      obtain ⟨a, vs, rfl, tA, rr⟩ := rw_tup.mp r1
      exact ⟨a, rfl, .inr ⟨⟨vs, tA.sq⟩, hq _ _ _ q1 _ _ (.tup tA rr) rs1 tp1⟩⟩
    | kls ws =>
      cases e
      obtain ⟨a, vs, rfl, tA, rr⟩ := rw_kls.mp r1
      exact ⟨a, rfl, .inl ⟨⟨vs, tA.sq⟩, hq _ _ _ q1 _ _ (.kls tA rr) rs1 tp1⟩⟩
    | _ => cases e
  · exact q1.elim
theorem iw_rng1 {p : Pos} {u : TwA} (hg : Gl X "range") (hm : X.mg "range" = none) (ha : PAw X G Wx [e] u) (hs : starEach [e] X.env = [(false, eval e X.env)]) : PIw X G Wx tg (.Call (.Name "range" p) [e] [] pos) (rng1I u) := by
  refine PI.imp (pi_range1 hg hm ha hs) fun σ H R q => ?_
  obtain ⟨σw, S, Q0, E0, rσ, rs, q, hq, he⟩ := q
  refine ⟨σw, S, _, E0, rσ, rs, q, fun x S1 q1 v1 H1 r1 rs1 tp1 => ?_, he⟩
  split at q1
  · rename_i j
    obtain ⟨v, rfl, rv⟩ := rws1 r1
    rw [rw_int] at rv
    subst rv
    exact ⟨j, rfl, q1.1, q1.2.1, hq _ _ _ q1.2.2 _ _ .rng rs1 tp1⟩
  · exact q1.elim
theorem iw_rng2 {p : Pos} {e2 : Expr} {u : TwA} (hg : Gl X "range") (hm : X.mg "range" = none) (ha : PAw X G Wx [e, e2] u) (hs : starEach [e, e2] X.env = [(false, eval e X.env), (false, eval e2 X.env)]) (hs2 : starEach [e2] X.env = [(false, eval e2 X.env)]) :
    PIw X G Wx tg (.Call (.Name "range" p) [e, e2] [] pos) (rng2I u) := by
  refine PI.imp (pi_range2 hg hm ha hs hs2) fun σ H R q => ?_
  obtain ⟨σw, S, Q0, E0, rσ, rs, q, hq, he⟩ := q
  refine ⟨σw, S, _, E0, rσ, rs, q, fun x S1 q1 v1 H1 r1 rs1 tp1 => ?_, he⟩
  split at q1
  · rename_i i j
    obtain ⟨v, v2, rfl, rv, rv2⟩ := rws2 r1
    rw [rw_int] at rv rv2
    subst rv rv2
    exact ⟨i, j, rfl, q1.1, hq _ _ _ q1.2 _ _ .rng rs1 tp1⟩
  · exact q1.elim
theorem iw_zip {elts : List Expr} {kk : Nat} {tpos p : Pos} {e2 : Expr} {u : TwA} (hg : Gl X "zip") (hm : X.mg "zip" = none) (ha : PAw X G Wx [e, e2] u) (hs : starEach [e, e2] X.env = (false, eval e X.env) :: starEach [e2] X.env) (hpl : (backTo pos (starEach [e2] X.env)).any (·.1) = false) :
    PIw X G Wx (.Tuple elts kk tpos) (.Call (.Name "zip" p) [e, e2] [] pos) (zpI u) := by
  refine PI.imp (pi_zipA hg hm ha hs hpl) fun σ H R q => ?_
  obtain ⟨σw, S, Q0, E0, rσ, rs, q, hq, he⟩ := q
  refine ⟨σw, S, _, E0, rσ, rs, q, fun x S1 q1 v1 H1 r1 rs1 tp1 => ?_, he⟩
  split at q1
  · rename_i a b
    obtain ⟨v, v2, rfl, rv, rv2⟩ := rws2 r1
    rw [rw_ref] at rv rv2
    subst rv rv2
    split at q1
    · rename_i xs ys e1 e2
      obtain ⟨vs, sq, rr⟩ := items_ref rs1 e1
      obtain ⟨us, sq2, rr2⟩ := items_ref rs1 e2
      exact ⟨a, b, vs, us, rfl, .inl ⟨sq, sq2, hq _ _ _ q1 _ _ .zipL rs1 tp1⟩⟩
    · exact q1.elim
  · rename_i xs ys
    obtain ⟨v, v2, rfl, rv, rv2⟩ := rws2 r1
    obtain ⟨a, vs, rfl, tA, rr⟩ := rw_tup.mp rv
    obtain ⟨b, us, rfl, tB, rr2⟩ := rw_tup.mp rv2
    exact ⟨a, b, vs, us, rfl, .inr ⟨tA.sq, tB.sq, hq _ _ _ q1 _ _ (.zipT tA rr tB rr2) rs1 tp1⟩⟩
  · exact q1.elim
end
/-! ### enumerate(v, k) -/
/-- the list or tuple at a as it stands at each turn, each item in a new pair, counted from k -/
def IteK (Sq : Hp → List V → Prop) (k : Int) : It :=
  ⟨fun i H => ∃ (xs : List V) (x : V), Sq H xs ∧ xs[i]? = some x, fun i H v H' => ∃ T x, v = .ref T ∧ H T = none ∧ H' = upd H T (.tup [.int (k + (i : Nat)), x]) ∧ ∀ xs, Sq H xs → xs[i]? = some x, fun i H => ∃ xs : List V, Sq H xs ∧ xs.length = i⟩
theorem turn_enumK {P : Program} {w : World} {K : PySem.W.Frag} {elts : List Expr} {kk : Nat} {tpos : Pos} (a e it : Addr) (k : Int) (Sq : Hp → List V → Prop) (It0 : Heap → Nat → Prop)
    (hsq : ∀ {X : Cx} {pins : List (Addr × Obj)} {σ : L2.St} {H : Hp} {s : Shared} {xs ys : List V}, X.K = K → L2.Inv X pins σ H s → Sq H xs → Sq H ys → xs = ys)
    (hit : ∀ {h h' : Heap} {i : Nat}, It0 h i → (∀ o, h.get? it = some o → h'.get? it = some o) → It0 h' i) (hobj : ∀ {h : Heap} {i : Nat}, It0 h i → ∃ o, h.get? it = some o ∧ ∀ v, o.data ≠ .cell v)
    (hdr : ∀ {X : Cx} {pins : List (Addr × Obj)} {σ : L2.St} {H : Hp} {s : Shared} {xs : List V}, X.K = K → X.calm = true → L2.Inv X pins σ H s → Sq H xs → a ≠ it → ∃ (its : List Value) (fp : List Addr) (St : Nat → Heap → Prop), Vals xs its ∧
      Draws X.prog X.w X.A.in1 it fp its.length (fun i v => its.toArray[i]? = some v) St ∧ (∀ i, It0 s.heap i → St i s.heap) ∧ (∀ i h, St i h → It0 h i) ∧ (∀ b ∈ fp, b = it ∨ b = a)) :
    a ≠ it → a ≠ e → Turn P w K (.Tuple elts kk tpos) (IteK Sq k) [e, it] e (fun i h => (∃ old, IsEnum h e it (k + (i : Nat)) old) ∧ It0 h i ∧ e ≠ it) := fun hai hae => {
  mem := by simp
  obj := fun i h st b hb => by
    obtain ⟨⟨old, he⟩, h0, _⟩ := st
    have e' : b = e ∨ b = it := by simpa using hb
    rcases e' with z | z
    · rw [z]; exact ⟨_, he, fun v q => nomatch q⟩
    · rw [z]; exact hobj h0
  keep := fun i h h' st kp => let ⟨⟨old, he⟩, hi, hne⟩ := st; ⟨⟨old, kp e (by simp) _ he⟩, hit hi fun o q => kp it (by simp) o q, hne⟩
  item := by
    intro X hP hw hK hc i pins s σ H E I hf st hg
    subst hP hw
    obtain ⟨⟨old, he⟩, h0, hne⟩ := st
    obtain ⟨xs, x, hq, hx⟩ := hg
    obtain ⟨its, fp, St, rv, D, toSt, ofSt, hfp⟩ := hdr hK hc I hq hai
    obtain ⟨u, hu, ru⟩ := rv.get hx
    have hil : i < its.length := (List.getElem?_eq_some_iff.mp hu).1
    have hel : e < s.heap.objs.size := Heap.lt_size he
    have hitl : it < s.heap.objs.size := by obtain ⟨_, q, _⟩ := hobj h0; exact Heap.lt_size q
    refine wpAny_pyNext_enum_itemC D he (toSt i h0) hil hne (fun z => ?_) fun x' h' tk hP' ho hs' hT hsz hk => ?_
    · rcases hfp e z with q | q
      · exact hne q
      · exact hae q.symm
    have hu' : its.toArray[i]? = some u := by simpa using hu
    rw [hu'] at hP'
    cases hP'
    refine ⟨_, rfl, wpAny_letOwnedTupleGo_enum (s := { s with heap := h', toks := tk + 1 }) ho fun h'' he' sb => ?_⟩
    have hT2 : h''.get? s.heap.objs.size = some { cls := .type "tuple", data := .seq #[.int (k + (i : Nat)) tk, u] } := (sb.2 _ (Nat.ne_of_gt hel)).trans hT
    have new : ObjOk X.prog X.w (upd H s.heap.objs.size (.tup [.int (k + (i : Nat)), x])) h'' s.heap.objs.size (.tup [.int (k + (i : Nat)), x]) :=
      ⟨by show 2 ≤ sizeLine; decide, [.int (k + (i : Nat)) tk, u], .cons ⟨_, rfl⟩ (.cons ru .nil), ⟨_, hT2, rfl, _, rfl⟩⟩
    have I1 : L2.Inv X pins σ (upd H s.heap.objs.size (.tup [.int (k + (i : Nat)), x])) { s with heap := h'', toks := tk + 1 } :=
      I.turnedNew (ch := [e, it]) (fun b ob hb q => (sb.2 b (fun z => hb (by simp [z]))).trans (hk b ob (fun z => hb (by simp [z])) (fun z => hb (by simp [z])) q)) hf (Nat.le_refl _) new
    refine ⟨.ref s.heap.objs.size, _, I1, rfl, ⟨_, x, rfl, I.hok.fresh (Nat.le_refl _), rfl, fun ys hy => by rw [hsq hK I hy hq]; exact hx⟩, ⟨⟨u, ?_⟩, hit (ofSt _ _ hs') fun o q => (sb.2 it (Ne.symm hne)).trans q, hne⟩, fun b hb => ?_⟩
    · have e1 : k + ((i + 1 : Nat) : Int) = k + (i : Int) + 1 := by omega
      rw [e1]; exact he'
    · have hb' : b < s.heap.objs.size := by
        have e' : b = e ∨ b = it := by simpa using hb
        rcases e' with z | z
        · rw [z]; exact hel
        · rw [z]; exact hitl
      rw [upd_ne (Nat.ne_of_lt hb')]
      exact (hf b hb).1
  done := by
    intro X hP hw hK hc i pins s σ H E I hf st hg
    subst hP hw
    obtain ⟨⟨old, he⟩, h0, hne⟩ := st
    obtain ⟨xs, hq, hx⟩ := hg
    obtain ⟨its, fp, St, rv, D, toSt, ofSt, hfp⟩ := hdr hK hc I hq hai
    obtain ⟨f0, f1, f2, f3, f4, f5⟩ := hf it (by simp)
    have hl := rv.length
    have ei : i = its.length := by omega
    subst ei
    exact wpAny_pyNext_enum_endD D he (toSt _ h0) fun h' eb => ⟨rfl, I.turned (t' := s.toks) (fun b o hb q => eb b o hb q) f0 f1 f3 f4 f5⟩
  self := fun A i s Q E st h => let ⟨⟨_, he⟩, _⟩ := st; wpAny_pyIter_enum he h }
theorem turn_enumKL {P : Program} {w : World} {K : PySem.W.Frag} {elts : List Expr} {kk : Nat} {tpos : Pos} (a e it : Addr) (k : Int) (hai : a ≠ it) (hae : a ≠ e) :
    Turn P w K (.Tuple elts kk tpos) (IteK (fun H xs => SqL K H a xs) k) [e, it] e (fun i h => (∃ old, IsEnum h e it (k + (i : Nat)) old) ∧ h.IsListIter it a i ∧ e ≠ it) :=
  turn_enumK a e it k (fun H xs => SqL K H a xs) (fun h i => h.IsListIter it a i) (fun hK I h1 h2 => by subst hK; exact I.list_inj h1 h2) (fun h0 hk => h0.at hk)
    (fun h0 => let ⟨o, ho, hc, hd⟩ := h0; ⟨o, ho, fun v q => by rw [hd] at q; cases q⟩)
    (fun {X _ _ _ _ _} hK hc I hq hai => by
      subst hK
      obtain ⟨its, rv, p, hz⟩ := I.list hq
      exact ⟨its, [it, a], _, rv, Draws.list (A := X.A.in1) (show X.A.in1.handled = none from I.ok.hd hc) it a hai its.toArray, fun i h0 => ⟨h0, p.isList⟩, fun i h st => st.1, fun b hb => by simpa using hb⟩) hai hae
theorem turn_enumKT {P : Program} {w : World} {K : PySem.W.Frag} {elts : List Expr} {kk : Nat} {tpos : Pos} (a e it : Addr) (k : Int) (hai : a ≠ it) (hae : a ≠ e) :
    Turn P w K (.Tuple elts kk tpos) (IteK (fun H xs => SqT K H a xs) k) [e, it] e (fun i h => (∃ old, IsEnum h e it (k + (i : Nat)) old) ∧ h.IsTupleIter it a i ∧ e ≠ it) :=
  turn_enumK a e it k (fun H xs => SqT K H a xs) (fun h i => h.IsTupleIter it a i) (fun hK I h1 h2 => by subst hK; exact I.tuple_inj h1 h2) (fun h0 hk => h0.at hk)
    (fun h0 => let ⟨o, ho, hc, hd⟩ := h0; ⟨o, ho, fun v q => by rw [hd] at q; cases q⟩)
    (fun {X _ _ _ _ _} hK hc I hq hai => by
      subst hK
      obtain ⟨its, rv, p, hz⟩ := I.tuple hq
      exact ⟨its, [it, a], _, rv, Draws.tuple (A := X.A.in1) (show X.A.in1.handled = none from I.ok.hd hc) it a hai its.toArray, fun i h0 => ⟨h0, p⟩, fun i h st => st.1, fun b hb => by simpa using hb⟩) hai hae
def iEnumK (K : PySem.W.Frag) (ta : TA) : TI := fun σ H R => ta σ H fun vs H1 => ∃ a k, vs = [.ref a, .int k] ∧ (-(2 ^ 63) ≤ k ∧ k < 2 ^ 63) ∧
  (((∃ xs, SqL K H1 a xs) ∧ R (IteK (fun H xs => SqL K H a xs) k) H1) ∨ ((∃ xs, SqT K H1 a xs) ∧ R (IteK (fun H xs => SqT K H a xs) k) H1))
section
variable {X : Cx} {G : Wd} {Wx : WX} {tg e : Expr} {t : Tw} {pos : Pos}
theorem pi_enumK {e e2 : Expr} {ta : TA} {p pos tpos : Pos} {elts : List Expr} {kk : Nat} (hg : Gl X "enumerate") (hm : X.mg "enumerate" = none) (ha : PA X [e, e2] ta)
    (hs : starEach [e, e2] X.env = (false, eval e X.env) :: starEach [e2] X.env) (hpl : (backTo pos (starEach [e2] X.env)).any (·.1) = false) :
    PI X (.Tuple elts kk tpos) (.Call (.Name "enumerate" p) [e, e2] [] pos) (iEnumK X.K ta) := by
  refine ⟨fun pins s σ H R I h => ?_⟩
  refine Call_ (ld_blt I hg hm boot_enumerate (PyProof.Rows.callWith_type1 (thn (ha.run pos pins s σ H _ I h) fun us s1 ⟨vs, H1, I1, r1, q1⟩ => ?_) hs hpl))
  obtain ⟨a, k, ex, ⟨k0, k1⟩, q⟩ := q1
  subst ex
  cases r1 with
  | cons r rr =>
    cases rr with
    | cons r' rr =>
      cases rr
      cases r
      obtain ⟨t', rfl⟩ := r'
      have fresh : ∀ b ∈ [s1.heap.objs.size + 1, s1.heap.objs.size], FpOk X pins H1 b := fun b hb => by
        have e' : b = s1.heap.objs.size + 1 ∨ b = s1.heap.objs.size := by simpa using hb
        have hle : s1.heap.objs.size ≤ b := by
          rcases e' with z | z
          · rw [z]; exact Nat.le_add_right _ _
          · rw [z]; exact Nat.le_refl _
        exact I1.fpOk hle (I1.hok.fresh hle)
      rcases q with ⟨⟨xs, hq⟩, q⟩ | ⟨⟨xs, hq⟩, q⟩
      · obtain ⟨its, rv, p', hz⟩ := I1.list hq
        have hl : a < s1.heap.objs.size := p'.lt
        refine enum_begins (begins_list a its.toArray) p'.isList k0 k1 fun h' he hit hsz hk => wpAny_pyIter_enum he ?_
        have I2 : L2.Inv X pins σ H1 { s1 with heap := h' } := I1.kept (t' := s1.toks) hk
        exact ⟨s1.heap.objs.size + 1, [s1.heap.objs.size + 1, s1.heap.objs.size], _, _, H1, rfl, I2, turn_enumKL a (s1.heap.objs.size + 1) s1.heap.objs.size k (Nat.ne_of_lt hl) (Nat.ne_of_lt (Nat.lt_succ_of_lt hl)),
          ⟨⟨.none, by simpa using he⟩, ⟨_, hit, rfl, rfl⟩, Nat.succ_ne_self _⟩, fresh, q⟩
      · obtain ⟨its, rv, p', hz⟩ := I1.tuple hq
        have hl : a < s1.heap.objs.size := p'.lt
        refine enum_begins (begins_tuple a its.toArray) (show s1.heap.IsTuple a its.toArray from p') k0 k1 fun h' he hit hsz hk => wpAny_pyIter_enum he ?_
        have I2 : L2.Inv X pins σ H1 { s1 with heap := h' } := I1.kept (t' := s1.toks) hk
        exact ⟨s1.heap.objs.size + 1, [s1.heap.objs.size + 1, s1.heap.objs.size], _, _, H1, rfl, I2, turn_enumKT a (s1.heap.objs.size + 1) s1.heap.objs.size k (Nat.ne_of_lt hl) (Nat.ne_of_lt (Nat.lt_succ_of_lt hl)),
          ⟨⟨.none, by simpa using he⟩, ⟨_, hit, rfl, rfl⟩, Nat.succ_ne_self _⟩, fresh, q⟩
theorem ItOk.enK {K : PySem.W.Frag} {G : Wd} {H1 : Hp} {k : Int} {ys : List W} {still : Store → Prop} {Sq : Hp → List V → Prop} (h : ∀ S H, RS K G S H → TP H1 H → still S → ∃ vs, Sq H vs ∧ RWs K G H ys vs) : ItOk K G (IteK Sq k) H1 (enumI k ys) still where
  go := fun S H i w rs tp st e => by
    obtain ⟨vs, sq, rr⟩ := h S H rs tp st
    rw [enumI_get] at e
    cases q : ys[i]? with
    | none => rw [q] at e; cases e
    | some y =>
      rw [q] at e
      cases e
      obtain ⟨v, e1, r1⟩ := rr.get q
      refine ⟨⟨vs, v, sq, e1⟩, fun x H' z => ?_⟩
      obtain ⟨T, x', rfl, hT, rfl, g⟩ := z
      have g1 := g vs sq
      rw [e1] at g1
      cases g1
      exact pair_new rs hT (rw_int.mpr rfl) r1
  stop := fun S H rs tp st => by
    obtain ⟨vs, sq, rr⟩ := h S H rs tp st
    exact ⟨vs, sq, by rw [enumI_len, rr.length]⟩
theorem ItOk.en1 {K : PySem.W.Frag} {G : Wd} {H1 : Hp} {a : Addr} {ys : List W} : ItOk K G (Ite K a) H1 (enumI 0 ys) (stillL (.ref a) ys) where
  go := fun S H i w rs tp st e => by
    obtain ⟨vs, sq, rr⟩ := items_ref rs st
    rw [enumI_get] at e
    cases q : ys[i]? with
    | none => rw [q] at e; cases e
    | some y =>
      rw [q] at e
      cases e
      obtain ⟨v, e1, r1⟩ := rr.get q
      refine ⟨⟨vs, v, sq, e1⟩, fun x H' z => ?_⟩
      obtain ⟨T, x', rfl, hT, rfl, g⟩ := z
      have g1 := g vs sq
      rw [e1] at g1
      cases g1
      exact pair_new rs hT (rw_int.mpr (by simp)) r1
  stop := fun S H rs tp st => by
    obtain ⟨vs, sq, rr⟩ := items_ref rs st
    exact ⟨vs, sq, by rw [enumI_len, rr.length]; exact Nat.le_refl _⟩
theorem iw_enm1 {elts : List Expr} {kk : Nat} {tpos p : Pos} {u : TwA} (hg : Gl X "enumerate") (hm : X.mg "enumerate" = none) (ha : PAw X G Wx [e] u) (hs : starEach [e] X.env = [(false, eval e X.env)]) :
    PIw X G Wx (.Tuple elts kk tpos) (.Call (.Name "enumerate" p) [e] [] pos) (enm1I u) := by
  refine PI.imp (pi_enum hg hm ha hs) fun σ H R q => ?_
  obtain ⟨σw, S, Q0, E0, rσ, rs, q, hq, he⟩ := q
  refine ⟨σw, S, _, E0, rσ, rs, q, fun x S1 q1 v1 H1 r1 rs1 tp1 => ?_, he⟩
  split at q1
  · rename_i a
    obtain ⟨v, rfl, rv⟩ := rws1 r1
    rw [rw_ref] at rv
    subst rv
    split at q1
    · rename_i ys e1
      obtain ⟨vs, sq, rr⟩ := items_ref rs1 e1
      exact ⟨a, vs, rfl, sq, hq _ _ _ q1 _ _ .en1 rs1 tp1⟩
    · exact q1.elim
  · exact q1.elim
theorem iw_enm2 {elts : List Expr} {kk : Nat} {tpos p : Pos} {e2 : Expr} {u : TwA} (hg : Gl X "enumerate") (hm : X.mg "enumerate" = none) (ha : PAw X G Wx [e, e2] u)
    (hs : starEach [e, e2] X.env = (false, eval e X.env) :: starEach [e2] X.env) (hpl : (backTo pos (starEach [e2] X.env)).any (·.1) = false) :
    PIw X G Wx (.Tuple elts kk tpos) (.Call (.Name "enumerate" p) [e, e2] [] pos) (enm2I u) := by
  refine PI.imp (pi_enumK hg hm ha hs hpl) fun σ H R q => ?_
  obtain ⟨σw, S, Q0, E0, rσ, rs, q, hq, he⟩ := q
  refine ⟨σw, S, _, E0, rσ, rs, q, fun x S1 q1 v1 H1 r1 rs1 tp1 => ?_, he⟩
  split at q1
  · rename_i x k
    obtain ⟨v, v2, rfl, rv, rv2⟩ := rws2 r1
    rw [rw_int] at rv2
    subst rv2
    split at q1
    · rename_i ys e1
      obtain ⟨k0, k1, q1⟩ := q1
      cases x with
      | ref a =>
        rw [rw_ref] at rv
        subst rv
        obtain ⟨vs, sq, rr⟩ := items_ref rs1 e1
        exact ⟨a, k, rfl, ⟨k0, k1⟩, .inl ⟨⟨vs, sq⟩, hq _ _ _ q1 _ _ (.enK fun S H rs tp st => items_ref rs st) rs1 tp1⟩⟩
      | tup ws =>
        cases e1
        obtain ⟨a, vs, rfl, tA, rr⟩ := rw_tup.mp rv
        exact ⟨a, k, rfl, ⟨k0, k1⟩, .inr ⟨⟨vs, tA.sq⟩, hq _ _ _ q1 _ _ (.enK fun S H rs tp st => ⟨vs, (tp.at tA).sq, rr.mono tp⟩) rs1 tp1⟩⟩
      | kls ws =>
        cases e1
        obtain ⟨a, vs, rfl, tA, rr⟩ := rw_kls.mp rv
        exact ⟨a, k, rfl, ⟨k0, k1⟩, .inl ⟨⟨vs, tA.sq⟩, hq _ _ _ q1 _ _ (.enK fun S H rs tp st => ⟨vs, tA.sq, rr.mono tp⟩) rs1 tp1⟩⟩
      | _ => cases e1
    · exact q1.elim
  · exact q1.elim
end
end MP
set_option Elab.async false
set_option linter.all false
set_option maxRecDepth 100000
set_option maxHeartbeats 4000000
namespace MP
open PySem PySem.Spec PyProof.Rows L2
/-- what is wanted behind a statement -/
structure EnW where
  nx : Sw → Store → Prop
  rt : WP
  bk : Sw → Store → Prop
  ct : Sw → Store → Prop
  ex : Exn → Sw → Store → Prop
abbrev TwS := EnW → Sw → Store → Prop
structure EnLe (K : PySem.W.Frag) (G : Wd) (Wx : WX) (H : Hp) (D0 : EnW) (D : Ends) : Prop where
  nx : ∀ σw S, D0.nx σw S → ∀ σ H', RSt K G H' σw σ → RS K G S H' → TP H H' → D.nx σ H'
  rt : ∀ w S, D0.rt w S → Lf K G H D.rt w S
  bk : ∀ σw S, D0.bk σw S → ∀ σ H', RSt K G H' σw σ → RS K G S H' → TP H H' → D.bk σ H'
  ct : ∀ σw S, D0.ct σw S → ∀ σ H', RSt K G H' σw σ → RS K G S H' → TP H H' → D.ct σ H'
  ex : ∀ e σw S, D0.ex e σw S → ∀ σ d H' fs, RSt K G H' σw σ → H' d = some (.xd fs) → RKV K G H' e.fs fs → RS K G S H' → TP H H' → Wx (.ref (G.cad e.c)) (some d) σ H'
theorem EnLe.mono {K : PySem.W.Frag} {G : Wd} {Wx : WX} {H H1 : Hp} {D0 : EnW} {D : Ends} (t : TP H H1) (l : EnLe K G Wx H D0 D) : EnLe K G Wx H1 D0 D where
  nx := fun σw S h σ H' a b c => l.nx σw S h σ H' a b (t.trans c)
  rt := fun w S h => (l.rt w S h).mono t
  bk := fun σw S h σ H' a b c => l.bk σw S h σ H' a b (t.trans c)
  ct := fun σw S h σ H' a b c => l.ct σw S h σ H' a b (t.trans c)
  ex := fun e σw S h σ d H' fs a b c d2 f => l.ex e σw S h σ d H' fs a b c d2 (t.trans f)
theorem EnLe.lx {K : PySem.W.Frag} {G : Wd} {Wx : WX} {H : Hp} {D0 : EnW} {D : Ends} (l : EnLe K G Wx H D0 D) {σw : Sw} {σ : L2.St} (r : RSt K G H σw σ) : ∀ e S', D0.ex e σw S' → Lx K G H σ Wx e S' :=
  fun e S' h d H' fs a b c f => l.ex e σw S' h σ d H' fs (r.mono f) a b c f
def liftS (K : PySem.W.Frag) (G : Wd) (Wx : WX) (t : TwS) : TS := fun D σ H => ∃ (σw : Sw) (S : Store) (D0 : EnW), RSt K G H σw σ ∧ RS K G S H ∧ t D0 σw S ∧ EnLe K G Wx H D0 D
/-! ### targets -/
inductive Pat where
  | nm (i : Nat)
  | tup (is : List Nat)
  | two (i : Nat) (js : List Nat)
def nmsG : List Nat → TGs
  | [] => gNil
  | i :: r => gCons (gName i) (nmsG r)
def setsW : List Nat → List W → Sw → Option Sw
  | [], [], σ => some σ
  | i :: r, w :: ws, σ => setsW r ws (σ.set i (some w))
  | _, _, _ => none
def setsV : List Nat → List V → L2.St → Option L2.St
  | [], [], σ => some σ
  | i :: r, w :: ws, σ => setsV r ws (σ.set i (some w))
  | _, _, _ => none
theorem nmsG_of : ∀ {is : List Nat} {vs : List V} {σ σ' : L2.St} {H : Hp} {Q : L2.St → Hp → Prop}, setsV is vs σ = some σ' → Q σ' H → nmsG is vs σ H Q
  | [], [], σ, σ', H, Q, e, q => by cases e; exact ⟨rfl, q⟩
  | i :: is, v :: vs, σ, σ', H, Q, e, q => ⟨v, vs, rfl, nmsG_of (is := is) e q⟩
  | [], _ :: _, _, _, _, _, e, _ => by cases e
  | _ :: _, [], _, _, _, _, e, _ => by cases e
theorem sets_rel {K : PySem.W.Frag} {G : Wd} {H : Hp} : ∀ {is : List Nat} {ws : List W} {vs : List V} {σw σw' : Sw} {σ : L2.St}, setsW is ws σw = some σw' → RWs K G H ws vs → RSt K G H σw σ → ∃ σ', setsV is vs σ = some σ' ∧ RSt K G H σw' σ'
  | [], [], vs, σw, σw', σ, e, r, s => by cases e; rw [rws_nil] at r; subst r; exact ⟨σ, rfl, s⟩
  | i :: is, w :: ws, vs, σw, σw', σ, e, r, s => by
    obtain ⟨v, t, rfl, a, b⟩ := rws_cons.mp r
    exact sets_rel (is := is) e b (s.set i a)
  | [], _ :: _, _, _, _, _, e, _, _ => by cases e
  | _ :: _, [], _, _, _, _, e, _, _ => by cases e
theorem wipe_set {σ : L2.St} {i : Nat} {x : Option V} : ∀ {vs : List Nat}, i ∈ vs → wipe (σ.set i x) vs = wipe σ vs
  | v :: vs, h => by
    by_cases c : i ∈ vs
    · show (wipe (σ.set i x) vs).set v none = (wipe σ vs).set v none
      rw [wipe_set c]
    · have e : i = v := by
        rcases List.mem_cons.mp h with q | q
        · exact q
        · exact absurd q c
      subst e
      have gen : ∀ (l : List Nat), i ∉ l → wipe (σ.set i x) l = (wipe σ l).set i x := by
        intro l
        induction l with
        | nil => intro _; rfl
        | cons a l ih =>
          intro hn
          have h1 : i ≠ a := fun q => hn (by simp [q])
          have h2 : i ∉ l := fun q => hn (List.mem_cons_of_mem _ q)
          show (wipe (σ.set i x) l).set a none = ((wipe σ l).set a none).set i x
          rw [ih h2, List.set_comm _ _ h1]
      show (wipe (σ.set i x) vs).set i none = (wipe σ vs).set i none
      rw [gen vs c, List.set_set]
theorem wipe_sets {vs : List Nat} : ∀ {is : List Nat} {us : List V} {σ σ' : L2.St}, setsV is us σ = some σ' → (∀ i ∈ is, i ∈ vs) → wipe σ' vs = wipe σ vs
  | [], [], σ, σ', e, _ => by cases e; rfl
  | i :: is, u :: us, σ, σ', e, h => by
    have h1 := wipe_sets (is := is) e fun j hj => h j (List.mem_cons_of_mem _ hj)
    rw [h1, wipe_set (h i (List.mem_cons_self ..))]
  | [], _ :: _, _, _, e, _ => by cases e
  | _ :: _, [], _, _, e, _ => by cases e
/-- the target's own reading: a tuple's or a list's items -/
def tupG (K : PySem.W.Frag) (is : List Nat) : TG := fun v σ H Q => gTup K is.length (nmsG is) v σ H Q ∨ gLst K is.length (nmsG is) v σ H Q
def twoG (K : PySem.W.Frag) (i : Nat) (js : List Nat) : TGs := gCons (gName i) (gCons (tupG K js) gNil)
def patG (K : PySem.W.Frag) : Pat → TG
  | .nm i => gName i
  | .tup is => tupG K is
  | .two i js => fun v σ H Q => gTup K 2 (twoG K i js) v σ H Q ∨ gLst K 2 (twoG K i js) v σ H Q
def tupP (is : List Nat) (w : W) (σ : Sw) (S : Store) (Q : Sw → Store → Prop) : Prop :=
  match items? S w with
  | some ws => (match setsW is ws σ with
    | some σ' => Q σ' S
    | none => False)
  | none => False
def patW (p : Pat) (w : W) (σ : Sw) (S : Store) (Q : Sw → Store → Prop) : Prop :=
  match p with
  | .nm i => Q (σ.set i (some w)) S
  | .tup is => (match items? S w with
    | some ws => (match setsW is ws σ with
      | some σ' => Q σ' S
      | none => False)
    | none => False)
  | .two i js => (match items? S w with
    | some [a, b] => tupP js b (σ.set i (some a)) S Q
    | _ => False)
theorem setsW_len : ∀ {is : List Nat} {ws : List W} {σ σ' : Sw}, setsW is ws σ = some σ' → ws.length = is.length
  | [], [], σ, σ', e => rfl
  | i :: is, w :: ws, σ, σ', e => by simp [setsW_len (is := is) e]
  | [], _ :: _, _, _, e => by cases e
  | _ :: _, [], _, _, e => by cases e
def patIn (vs : List Nat) : Pat → Prop
  | .nm i => i ∈ vs
  | .tup is => ∀ i ∈ is, i ∈ vs
  | .two i js => i ∈ vs ∧ ∀ i ∈ js, i ∈ vs
theorem tup_rel {K : PySem.W.Frag} {G : Wd} {H : Hp} {is : List Nat} {w : W} {v : V} {σw : Sw} {σ : L2.St} {S : Store} {Q0 : Sw → Store → Prop} {Q : L2.St → Hp → Prop} (r : RW K G H w v) (rσ : RSt K G H σw σ) (rs : RS K G S H) (h : tupP is w σw S Q0)
    (hq : ∀ σw' σ', Q0 σw' S → RSt K G H σw' σ' → (∀ vs, (∀ i ∈ is, i ∈ vs) → wipe σ' vs = wipe σ vs) → Q σ' H) : tupG K is v σ H Q := by
  unfold tupP at h
  split at h
  · rename_i ws e
    split at h
    · rename_i σ' e2
      obtain ⟨a, vs, rfl, sq, rr⟩ := items_ok rs r e
      obtain ⟨σ2, e3, r3⟩ := sets_rel e2 rr rσ
      have hl : vs.length = is.length := by rw [← rr.length]; exact setsW_len e2
      have fin := nmsG_of (H := H) e3 (hq _ _ h r3 fun us hu => wipe_sets e3 hu)
      rcases sq with sq | sq
      · exact .inr ⟨a, vs, rfl, sq, hl, fin⟩
      · exact .inl ⟨a, vs, rfl, sq, hl, fin⟩
    · exact h.elim
  · exact h.elim
theorem pat_rel {K : PySem.W.Frag} {G : Wd} {H : Hp} {p : Pat} {w : W} {v : V} {σw : Sw} {σ : L2.St} {S : Store} {Q0 : Sw → Store → Prop} {Q : L2.St → Hp → Prop} (r : RW K G H w v) (rσ : RSt K G H σw σ) (rs : RS K G S H) (h : patW p w σw S Q0)
    (hq : ∀ σw' σ', Q0 σw' S → RSt K G H σw' σ' → (∀ vs, patIn vs p → wipe σ' vs = wipe σ vs) → Q σ' H) : patG K p v σ H Q := by
  cases p with
  | nm i => exact hq _ _ h (rσ.set i r) fun vs hv => wipe_set hv
  | tup is => exact tup_rel r rσ rs h hq
  | two i js =>
    simp only [patW] at h
    split at h
    · rename_i wa wb e
      obtain ⟨a, vs, rfl, sq, rr⟩ := items_ok rs r e
      obtain ⟨va, t, rfl, ra, rt⟩ := rws_cons.mp rr
      obtain ⟨vb, t2, rfl, rb, rt2⟩ := rws_cons.mp rt
      rw [rws_nil] at rt2
      subst rt2
      have fin : twoG K i js [va, vb] σ H Q := by
        refine ⟨va, [vb], rfl, ?_⟩
        refine ⟨vb, [], rfl, ?_⟩
        refine tup_rel rb (rσ.set i ra) rs h fun σw' σ' q0 rs' hw => ?_
        exact ⟨rfl, hq _ _ q0 rs' fun vs hv => by rw [hw vs hv.2, wipe_set hv.1]⟩
      rcases sq with sq | sq
      · exact .inr ⟨a, _, rfl, sq, rfl, fin⟩
      · exact .inl ⟨a, _, rfl, sq, rfl, fin⟩
    · exact h.elim
/-! ### statements -/
def seqS (t u : TwS) : TwS := fun D σ S => t { D with nx := u D } σ S
def nextS : TwS := fun D σ S => D.nx σ S
def setS (i : Nat) (t : Tw) : TwS := fun D σ S => t σ S (fun w S' => D.nx (σ.set i (some w)) S') (fun e S' => D.ex e σ S')
def asgS (p : Pat) (t : Tw) : TwS := fun D σ S => t σ S (fun w S' => patW p w σ S' D.nx) (fun e S' => D.ex e σ S')
def parS (is : List Nat) (t : TwA) : TwS := fun D σ S => t σ S (fun ws S' => match setsW is ws σ with
  | some σ' => D.nx σ' S'
  | none => False) (fun e S' => D.ex e σ S')
def dropS (t : Tw) : TwS := fun D σ S => t σ S (fun _ S' => D.nx σ S') (fun e S' => D.ex e σ S')
def retS (t : Tw) : TwS := fun D σ S => t σ S D.rt (fun e S' => D.ex e σ S')
def retN : TwS := fun D _ S => D.rt .non S
def ifS' (c : TwT) (t u : TwS) : TwS := fun D σ S => c σ S (fun b S' => match b with
  | true => t D σ S'
  | false => u D σ S') (fun e S' => D.ex e σ S')
def brkS : TwS := fun D σ S => D.bk σ S
def contS : TwS := fun D σ S => D.ct σ S
def whileS (c : TwT) (tb : TwS) : TwS := fun D σ S => ∃ Iv : Nat → Sw → Store → Prop, (∃ m, Iv m σ S) ∧ ∀ m σ S, Iv m σ S → c σ S (fun b S1 => match b with
  | true => tb { D with nx := fun σ' S' => ∃ m', m' < m ∧ Iv m' σ' S', ct := fun σ' S' => ∃ m', m' < m ∧ Iv m' σ' S', bk := D.nx } σ S1
  | false => D.nx σ S1) (fun e S' => D.ex e σ S')
/-- .. by what stands ahead of each turn -/
def loopI (p : Pat) (tb : TwS) (D : EnW) (still : Store → Prop) (items : List W) (σ : Sw) (S : Store) : Prop := ∃ I : Nat → Sw → Store → Prop, I 0 σ S ∧
  ∀ i σ S, i ≤ items.length → I i σ S → still S ∧ match items[i]? with
    | some w => patW p w σ S fun σ' S' => tb { D with nx := I (i + 1), ct := I (i + 1), bk := D.nx } σ' S'
    | none => D.nx σ S
def forS (ti : TwI) (p : Pat) (tb : TwS) : TwS := fun D σ S => ti σ S (fun items still S' => loopI p tb D still items σ S') (fun e S' => D.ex e σ S')
def seW (o i v : W) (S : Store) (P : Store → Prop) : Prop := match o, i with
  | .ref a, .int k => (match S a with
    | some (.lst xs) => (match ixN xs.length k with
      | some j => P (put S a (.lst (xs.set j v)))
      | none => False)
    | _ => False)
  | _, _ => False
/-- d[k] = v -/
def sdW (o i v : W) (S : Store) (P : Store → Prop) : Prop := ∃ a kvs k, o = .ref a ∧ S a = some (.dic kvs) ∧ keyW i = some k ∧ kvs.length < sizeLine ∧ P (put S a (.dic (putD kvs k v)))
def stiS (to ti tv : Tw) : TwS := fun D σ S => tv σ S (fun v S1 => to σ S1 (fun o S2 => ti σ S2 (fun i S3 => seW o i v S3 (D.nx σ) ∨ sdW o i v S3 (D.nx σ)) (fun e S' => D.ex e σ S')) (fun e S' => D.ex e σ S')) (fun e S' => D.ex e σ S')
def putFW (f : Str) (v : W) : List (Str × W) → List (Str × W)
  | [] => [(f, v)]
  | (g, w) :: r => if g = f then (g, v) :: r else (g, w) :: putFW f v r
section
variable {X : Cx} {G : Wd} {Wx : WX} {e : Expr} {t : Tw} {pos : Pos} {st : Stmt} {rest : List Stmt}
abbrev PSw (X : Cx) (G : Wd) (Wx : WX) (st : Stmt) (t : TwS) : Prop := PS X st (liftS X.K G Wx t)
abbrev PSsw (X : Cx) (G : Wd) (Wx : WX) (st : List Stmt) (t : TwS) : Prop := PSs X st (liftS X.K G Wx t)
theorem PS.imp {t t' : TS} (h : PS X st t) (g : ∀ D σ H, t' D σ H → t D σ H) : PS X st t' := ⟨fun pins s σ H D I q => h.run pins s σ H D I (g D σ H q)⟩
theorem PSs.imp {sts : List Stmt} {t t' : TS} (h : PSs X sts t) (g : ∀ D σ H, t' D σ H → t D σ H) : PSs X sts t' := ⟨fun pins s σ H D I q => h.run pins s σ H D I (g D σ H q)⟩
theorem sw_nil : PSsw X G Wx [] nextS := by
  refine PSs.imp pss_nil fun D σ H h => ?_
  obtain ⟨σw, S, D0, rσ, rs, q, l⟩ := h
  exact l.nx _ _ q _ _ rσ rs .refl
theorem sw_cons {t u : TwS} (h1 : PSw X G Wx st t) (h2 : PSsw X G Wx rest u) : PSsw X G Wx (st :: rest) (seqS t u) := by
  refine PSs.imp (pss_cons h1 h2) fun D σ H h => ?_
  obtain ⟨σw, S, D0, rσ, rs, q, l⟩ := h
  refine ⟨σw, S, _, rσ, rs, q, ⟨fun σw' S' q' σ' H' a b c => ⟨σw', S', D0, a, b, q', l.mono c⟩, l.rt, l.bk, l.ct, l.ex⟩⟩
theorem sw_pass : PSw X G Wx (.Pass pos) nextS := by
  refine PS.imp ps_pass fun D σ H h => ?_
  obtain ⟨σw, S, D0, rσ, rs, q, l⟩ := h
  exact l.nx _ _ q _ _ rσ rs .refl
theorem sw_brk : PSw X G Wx (.Break pos) brkS := by
  refine PS.imp ps_break fun D σ H h => ?_
  obtain ⟨σw, S, D0, rσ, rs, q, l⟩ := h
  exact l.bk _ _ q _ _ rσ rs .refl
theorem sw_cont : PSw X G Wx (.Continue pos) contS := by
  refine PS.imp ps_continue fun D σ H h => ?_
  obtain ⟨σw, S, D0, rσ, rs, q, l⟩ := h
  exact l.ct _ _ q _ _ rσ rs .refl
theorem sw_drop (h : PEw X G Wx e t) (hs : swapsWith e none pos.line X.env = pure false) : PSw X G Wx (.Expr e pos) (dropS t) := by
  refine PS.imp (ps_expr h hs) fun D σ H h => ?_
  obtain ⟨σw, S, D0, rσ, rs, q, l⟩ := h
  exact ⟨σw, S, _, _, rσ, rs, q, fun w S1 q1 v1 H1 r1 rs1 tp1 => l.nx _ _ q1 _ _ (rσ.mono tp1) rs1 tp1, l.lx rσ⟩
theorem sw_ret (h : PEw X G Wx e t) : PSw X G Wx (.Return (some e) pos) (retS t) := by
  refine PS.imp (ps_ret h) fun D σ H h => ?_
  obtain ⟨σw, S, D0, rσ, rs, q, l⟩ := h
  exact ⟨σw, S, _, _, rσ, rs, q, l.rt, l.lx rσ⟩
theorem sw_retN : PSw X G Wx (.Return none pos) retN := by
  refine PS.imp ps_retN fun D σ H h => ?_
  obtain ⟨σw, S, D0, rσ, rs, q, l⟩ := h
  exact l.rt _ _ q _ _ (rw_non.mpr rfl) rs .refl
theorem sw_if {c : Expr} {a b : List Stmt} {tc : TwT} {t u : TwS} (hc : PTw X G Wx c tc) (ha : PSsw X G Wx a t) (hb : PSsw X G Wx b u) : PSw X G Wx (.If c a b pos) (ifS' tc t u) := by
  refine PS.imp (ps_if hc ha hb) fun D σ H h => ?_
  obtain ⟨σw, S, D0, rσ, rs, q, l⟩ := h
  refine ⟨σw, S, _, _, rσ, rs, q, fun x S1 q1 H1 rs1 tp1 => ?_, l.lx rσ⟩
  refine ite_b (fun z => ?_) (fun z => ?_) <;> subst z <;> exact ⟨σw, S1, D0, rσ.mono tp1, rs1, q1, l.mono tp1⟩
theorem sw_set {i : Nat} {x : Str} {pos' : Pos} (hN : X.N.Nodup) (hi : X.N[i]? = some x) (hx : Loc X.env.scope x) (h : PEw X G Wx e t) (hs : swapsWith e (some (.Name x pos')) pos.line X.env = pure false) (hf : X.fn x = true ∨ X.env.scope.names.lookup x = some .local) :
    PSw X G Wx (.Assign [.Name x pos'] e pos) (setS i t) := by
  refine PS.imp (ps_set hN hi hx h hs hf) fun D σ H h => ?_
  obtain ⟨σw, S, D0, rσ, rs, q, l⟩ := h
  exact ⟨σw, S, _, _, rσ, rs, q, fun w S1 q1 v1 H1 r1 rs1 tp1 => l.nx _ _ q1 _ _ ((rσ.mono tp1).set i r1) rs1 tp1, l.lx rσ⟩
theorem sw_asg {tg : Expr} {p : Pat} (hg : PG X tg (patG X.K p)) (h : PEw X G Wx e t) (hs : swapsWithSole [tg] e pos.line X.env = pure false) (hw : swappedStores [tg] e X.env = pure none)
    (h1 : (assignEach [tg] X.env).map (·.2) = [assign tg X.env]) : PSw X G Wx (.Assign [tg] e pos) (asgS p t) := by
  refine PS.imp (ps_asg h hg hs hw h1) fun D σ H h => ?_
  obtain ⟨σw, S, D0, rσ, rs, q, l⟩ := h
  exact ⟨σw, S, _, _, rσ, rs, q, fun w S1 q1 v1 H1 r1 rs1 tp1 => pat_rel r1 (rσ.mono tp1) rs1 q1 fun σw' σ' q2 r2 _ => l.nx _ _ q2 _ _ r2 rs1 tp1, l.lx rσ⟩
theorem sw_par2 {i j : Nat} {x y : Str} {a b : Expr} {u : TwA} {px py pt : Pos} {kt k2 : Nat} {pt2 : Pos} (hc : X.calm = true) (hN : X.N.Nodup) (hi : X.N[i]? = some x) (hj : X.N[j]? = some y) (hij : i ≠ j)
    (hx : X.env.scope.names.lookup x = some .local) (hy : X.env.scope.names.lookup y = some .local) (ha : PAw X G Wx [a, b] u)
    (hw : swappedStores [.Tuple [.Name x px, .Name y py] kt pt] (.Tuple [a, b] k2 pt2) X.env = pure (some [x, y]))
    (hs : swapsWithSole [.Tuple [.Name x px, .Name y py] kt pt] (.Tuple [a, b] k2 pt2) pos.line X.env = pure false) :
    PSw X G Wx (.Assign [.Tuple [.Name x px, .Name y py] kt pt] (.Tuple [a, b] k2 pt2) pos) (parS [i, j] u) := by
  refine PS.imp (ps_par hc hN hi hj hij hx hy ha hw hs) fun D σ H h => ?_
  obtain ⟨σw, S, D0, rσ, rs, q, l⟩ := h
  refine ⟨σw, S, _, _, rσ, rs, q, fun ws S1 q1 vs H1 r1 rs1 tp1 => ?_, l.lx rσ⟩
  split at q1
  · rename_i σ' e
    match ws, e with
    | [w1, w2], e =>
      obtain ⟨v1, v2, rfl, a1, a2⟩ := rws2 r1
      cases e
      exact ⟨v1, v2, rfl, l.nx _ _ q1 _ _ (((rσ.mono tp1).set i a1).set j a2) rs1 tp1⟩
  · exact q1.elim
theorem sw_while {c : Expr} {body : List Stmt} {tc : TwT} {tb : TwS} (hp : PassesOwn (model X.prog X.w) X.A X.env X.xe) (hc : PTw X G Wx c tc) (hb : PSsw X G Wx body tb) : PSw X G Wx (.While c body [] pos) (whileS tc tb) := by
  refine PS.imp (ps_while hp hc hb) fun D σ H h => ?_
  obtain ⟨σw, S, D0, rσ, rs, ⟨Iv, ⟨m, iv⟩, step⟩, l⟩ := h
  refine ⟨fun n σ1 H1 => ∃ σw1 S1, RSt X.K G H1 σw1 σ1 ∧ RS X.K G S1 H1 ∧ TP H H1 ∧ Iv n σw1 S1, ⟨m, σw, S, rσ, rs, .refl, iv⟩, ?_⟩
  rintro n σ1 H1 ⟨σw1, S1, rσ1, rs1, tp1, iv1⟩
  refine ⟨σw1, S1, _, _, rσ1, rs1, step n σw1 S1 iv1, fun b S2 q2 H2 rs2 tp2 => ?_, (l.mono tp1).lx rσ1⟩
  have tp12 := tp1.trans tp2
  refine ite_b (fun z => ?_) (fun z => ?_)
  · subst z
    refine ⟨fun σ' H' => ∃ σw' S', RSt X.K G H' σw' σ' ∧ RS X.K G S' H' ∧ TP H H' ∧ ∃ m', m' < n ∧ Iv m' σw' S', fun σ' H' ⟨σw', S', a, b, c, m', lt, iv'⟩ => ⟨m', lt, σw', S', a, b, c, iv'⟩, ?_⟩
    refine ⟨σw1, S2, _, rσ1.mono tp2, rs2, q2, ⟨?_, fun w S' h => (l.rt w S' h).mono tp12, ?_, ?_, fun e σw S h σ d H' fs a b c d2 f => l.ex e σw S h σ d H' fs a b c d2 (tp12.trans f)⟩⟩
    · exact fun σw' S' q' σ' H' a b c => ⟨σw', S', a, b, tp12.trans c, q'⟩
    · exact fun σw' S' q' σ' H' a b c => l.nx _ _ q' _ _ a b (tp12.trans c)
    · exact fun σw' S' q' σ' H' a b c => ⟨σw', S', a, b, tp12.trans c, q'⟩
  · subst z
    exact l.nx _ _ q2 _ _ (rσ1.mono tp2) rs2 tp12
theorem sw_for {tg iter : Expr} {body : List Stmt} {ti : TwI} {p : Pat} {tb : TwS} (hp : PassesOwn (model X.prog X.w) X.A X.env X.xe) (hc : X.calm = true) (hi : PIw X G Wx tg iter ti) (hg : PG X tg (patG X.K p)) (hb : PSsw X G Wx body tb)
    (hs : ∀ x, foldedSetIterable iter X.env x = pure x) : PSw X G Wx (.For tg iter body [] pos) (forS ti p tb) := by
  refine PS.imp (ps_for hp hc hi hg hb hs) fun D σ H h => ?_
  obtain ⟨σw, S, D0, rσ, rs, q, l⟩ := h
  refine ⟨σw, S, _, _, rσ, rs, q, fun items still S1 q1 J H1 io rs1 tp1 => ?_, l.lx rσ⟩
  obtain ⟨Iv, iv0, step⟩ := q1
  refine ⟨fun i m σ2 H2 => ∃ σw2 S2, RSt X.K G H2 σw2 σ2 ∧ RS X.K G S2 H2 ∧ TP H1 H2 ∧ m = items.length - i ∧ i ≤ items.length ∧ Iv i σw2 S2,
    ⟨items.length, σw, S1, rσ.mono tp1, rs1, .refl, rfl, Nat.zero_le _, iv0⟩, ?_⟩
  rintro i m σ2 H2 ⟨σw2, S2, rσ2, rs2, tp2, rfl, hi, iv2⟩
  obtain ⟨st, q2⟩ := step i σw2 S2 hi iv2
  by_cases hlt : i < items.length
  · have e : items[i]? = some items[i] := List.getElem?_eq_getElem hlt
    obtain ⟨g1, g2⟩ := io.go S2 H2 i _ rs2 tp2 st e
    rw [e] at q2
    refine .inr ⟨g1, fun σ' H' => ∃ σw' S', RSt X.K G H' σw' σ' ∧ RS X.K G S' H' ∧ TP H1 H' ∧ Iv (i + 1) σw' S',
      fun σ' H' ⟨σw', S', a, b, c, d⟩ => ⟨items.length - (i + 1), by omega, σw', S', a, b, c, rfl, hlt, d⟩, fun x H3 y => ?_⟩
    obtain ⟨rx, rs3, tp3⟩ := g2 x H3 y
    have tp13 := tp1.trans (tp2.trans tp3)
    refine pat_rel rx (rσ2.mono tp3) rs3 q2 fun σw4 σ4 q4 r4 _ => ?_
    refine ⟨σw4, S2, _, r4, rs3, q4, ⟨?_, fun w S' h => (l.rt w S' h).mono tp13, ?_, ?_, fun e σw S h σ d H' fs a b c d2 f => l.ex e σw S h σ d H' fs a b c d2 (tp13.trans f)⟩⟩
    · exact fun σw' S' q' σ' H' a b c => ⟨σw', S', a, b, (tp2.trans tp3).trans c, q'⟩
    · exact fun σw' S' q' σ' H' a b c => l.nx _ _ q' _ _ a b (tp13.trans c)
    · exact fun σw' S' q' σ' H' a b c => ⟨σw', S', a, b, (tp2.trans tp3).trans c, q'⟩
  · have e : i = items.length := by omega
    subst e
    rw [List.getElem?_eq_none (Nat.le_refl _)] at q2
    exact .inl ⟨io.stop S2 H2 rs2 tp2 st, l.nx _ _ q2 _ _ rσ2 rs2 (tp1.trans tp2)⟩
/-- xs[i] = v -/
theorem set_or {X : Cx} {t u : TSet} (h : PSet X t) (g : PSet X u) : PSet X (fun o i v H Q => t o i v H Q ∨ u o i v H Q) := by
  intro pins s σ H o i v ov iv uu Q I ro ri rv q
  rcases q with q | q
  · exact h pins s σ H o i v ov iv uu Q I ro ri rv q
  · exact g pins s σ H o i v ov iv uu Q I ro ri rv q
def rSetB : TSet := fun o i v H Q => rSetL o i v H Q ∨ rSetD o i v H Q
theorem set_both (hu : X.A.units + 1 < cLine) : PSet X rSetB := set_or set_list (set_dict hu)
theorem sw_sti {o ix : Expr} {to ti tv : Tw} {p2 : Pos} (ho : PEw X G Wx o to) (hi : PEw X G Wx ix ti) (hv : PEw X G Wx e tv) (h0 : ∀ {t1 t2 t3 : TE}, PE X o t1 → PE X ix t2 → PE X e t3 → PS X st (tAsg t3 (gSub t1 t2 rSetB))) : PSw X G Wx st (stiS to ti tv) := by
  refine PS.imp (h0 ho hi hv) fun D σ H h => ?_
  obtain ⟨σw, S, D0, rσ, rs, q, l⟩ := h
  refine ⟨σw, S, _, _, rσ, rs, q, fun w S1 q1 v1 H1 r1 rs1 tp1 => ?_, l.lx rσ⟩
  refine ⟨σw, S1, _, _, rσ.mono tp1, rs1, q1, fun a S2 q2 v2 H2 r2 rs2 tp2 => ?_, (l.mono tp1).lx (rσ.mono tp1)⟩
  have tp12 := tp1.trans tp2
  refine ⟨σw, S2, _, _, rσ.mono tp12, rs2, q2, fun i S3 q3 v3 H3 r3 rs3 tp3 => ?_, (l.mono tp12).lx (rσ.mono tp12)⟩
  have tp13 := tp12.trans tp3
  have r2' := r2.mono tp3
  rcases q3 with q3 | q3
  · unfold seW at q3
    split at q3
    · rename_i ad k
      rw [rw_ref] at r2'
      rw [rw_int] at r3
      split at q3
      · rename_i xs e1
        split at q3
        · rename_i j e2
          obtain ⟨vs, hu, rr⟩ := rs3.lst e1
          have ro : RO X.K G H3 (.lst (xs.set j w)) (.lst (vs.set j v1)) := ⟨_, rfl, rr.set j (r1.mono (tp2.trans tp3))⟩
          obtain ⟨rs4, tp4⟩ := rs3.wr e1 hu ro
          exact .inl ⟨ad, vs, k, j, r2', r3, hu, by rw [← rr.length]; exact e2, l.nx _ _ q3 _ _ (rσ.mono (tp13.trans tp4)) rs4 (tp13.trans tp4)⟩
        · exact q3.elim
      · exact q3.elim
    · exact q3.elim
  · obtain ⟨ad, kvs, k, rfl, e1, ek, hz, q3⟩ := q3
    rw [rw_ref] at r2'
    obtain ⟨ms, hu, rr⟩ := rs3.dic e1
    have ex := keyW_rel r3 ek
    have ro : RO X.K G H3 (.dic (putD kvs k w)) (.dK (putK ms k v1)) := ⟨_, rfl, rr.putD (r1.mono (tp2.trans tp3))⟩
    obtain ⟨rs4, tp4⟩ := rs3.wr e1 hu ro
    subst ex
    exact .inr ⟨ad, _, r2', DPut.k hu (by rw [← rr.length]; exact hz), l.nx _ _ q3 _ _ (rσ.mono (tp13.trans tp4)) rs4 (tp13.trans tp4)⟩
/-! ### comprehensions -/
def wipeW (σ : Sw) : List Nat → Sw
  | [] => σ
  | v :: vs => (wipeW σ vs).set v none
theorem wipe_rel {K : PySem.W.Frag} {H : Hp} {σw : Sw} {σ : L2.St} (r : RSt K G H σw σ) : ∀ vs : List Nat, RSt K G H (wipeW σw vs) (wipe σ vs)
  | [] => r
  | v :: vs => (wipe_rel r vs).unset v
def noX : XP := fun _ _ => False
/-- .. by what stands ahead of each turn -/
def lcI (D : Addr) (p : Pat) (tt : TwT) (te : Tw) (σ : Sw) (still : Store → Prop) (Q : WP) (items : List W) (S : Store) : Prop := ∃ I : Nat → Store → Prop, I 0 S ∧
  ∀ i S, i ≤ items.length → I i S → still S ∧ match items[i]? with
    | some w => patW p w σ S fun σ2 S2 => tt σ2 S2 (fun b S3 => match b with
      | true => te σ2 S3 (fun y S4 => match S4 D with
        | some (.lst acc) => acc.length < sizeLine ∧ I (i + 1) (put S4 D (.lst (acc ++ [y])))
        | _ => False) noX
      | false => I (i + 1) S3) noX
    | none => Q (.ref D) S
def lcS (own : List Nat) (ti : TwI) (p : Pat) (tt : TwT) (te : Tw) : Tw := fun σ S Q E => ti σ S (fun items still S1 => ∀ D, S1 D = none → lcI D p tt te (wipeW σ own) still Q items (put S1 D (.lst []))) E
/-- [elt for .. in .. if .. for .. in .. if ..]: the second clause's loop reaches the next turn of the first -/
def lcI2 (D : Addr) (p : Pat) (tt : TwT) (ti1 : TwI) (p1 : Pat) (tt1 : TwT) (te : Tw) (vs1 : List Nat) (σ : Sw) (still : Store → Prop) (Q : WP) (items : List W) (S : Store) : Prop := ∃ I : Nat → Store → Prop, I 0 S ∧
  ∀ i S, i ≤ items.length → I i S → still S ∧ match items[i]? with
    | some w => patW p w σ S fun σ2 S2 => tt σ2 S2 (fun b S3 => match b with
      | true => ti1 σ2 S3 (fun items1 still1 S4 => lcI D p1 tt1 te (wipeW σ2 vs1) still1 (fun _ S => I (i + 1) S) items1 S4) noX
      | false => I (i + 1) S3) noX
    | none => Q (.ref D) S
def lc2S (own vs1 : List Nat) (ti : TwI) (p : Pat) (tt : TwT) (ti1 : TwI) (p1 : Pat) (tt1 : TwT) (te : Tw) : Tw := fun σ S Q E => ti σ S (fun items still S1 => ∀ D, S1 D = none → lcI2 D p tt ti1 p1 tt1 te vs1 (wipeW σ own) still Q items (put S1 D (.lst []))) E
def yesT : TwT := fun _ S Q _ => Q true S
abbrev PTsw (X : Cx) (G : Wd) (Wx : WX) (ifs : List Expr) (t : TwT) : Prop := PTs X ifs (liftT X.K G Wx t)
theorem PTs.imp {ifs : List Expr} {t t' : TT} (h : PTs X ifs t) (g : ∀ σ H Q, t' σ H Q → t σ H Q) : PTs X ifs t' := ⟨fun pins s σ H Q I q => h.run pins s σ H Q I (g σ H Q q)⟩
theorem tsw_nil : PTsw X G Wx [] yesT := by
  refine PTs.imp pts_nil fun σ H Q q => ?_
  obtain ⟨σw, S, Q0, E0, rσ, rs, q, hq, he⟩ := q
  exact (hq _ _ q) _ rs .refl
theorem tsw_one {c : Expr} {t : TwT} (h : PTw X G Wx c t) : PTsw X G Wx [c] t := pts_one h
abbrev WNo : WX := fun _ _ _ _ => False
theorem wipe_sub {σ : L2.St} {vs : List Nat} : ∀ {is : List Nat}, (∀ i ∈ is, i ∈ vs) → wipe (wipe σ is) vs = wipe σ vs
  | [], _ => rfl
  | i :: is, h => by
    show wipe ((wipe σ is).set i none) vs = wipe σ vs
    rw [wipe_set (h i (List.mem_cons_self ..)), wipe_sub fun j hj => h j (List.mem_cons_of_mem _ hj)]
/-- the reading of a comprehension -/
theorem lc_read {own : List Nat} {ti : TwI} {p : Pat} {tt : TwT} {te : Tw} {σ : L2.St} {H : Hp} {Q : VK} (hp : patIn own p) (h : liftE X.K G Wx (lcS own ti p tt te) σ H Q) :
    tLc (liftI X.K G Wx ti) (patG X.K p) (liftT X.K G WNo tt) (liftE X.K G WNo te) own σ H Q := by
  obtain ⟨σw, S, Q0, E0, rσ, rs, q, hq, he⟩ := h
  refine ⟨σw, S, _, _, rσ, rs, q, fun items still S1 q1 J H1 io rs1 tp1 D hD => ?_, he⟩
  have rsD : RS X.K G (put S1 D (.lst [])) (upd H1 D (.lst [])) := rs1.new hD ⟨[], rfl, .nil⟩
  obtain ⟨Iv, iv0, step⟩ := q1 D (rs1.free hD)
  refine ⟨fun i m H2 => ∃ S2, RS X.K G S2 H2 ∧ TP H1 H2 ∧ m = items.length - i ∧ i ≤ items.length ∧ Iv i S2,
    ⟨items.length, put S1 D (.lst []), rsD, .new hD, rfl, Nat.zero_le _, iv0⟩, ?_⟩
  rintro i m H2 ⟨S2, rs2, tp2, rfl, hi, iv2⟩
  obtain ⟨st, q2⟩ := step i S2 hi iv2
  by_cases hlt : i < items.length
  · have e : items[i]? = some items[i] := List.getElem?_eq_getElem hlt
    obtain ⟨g1, g2⟩ := io.go S2 H2 i _ rs2 tp2 st e
    rw [e] at q2
    refine .inr ⟨g1, fun H' => ∃ S', RS X.K G S' H' ∧ TP H1 H' ∧ Iv (i + 1) S',
      fun H' ⟨S', b, c, d⟩ => ⟨items.length - (i + 1), by omega, S', b, c, rfl, hlt, d⟩, fun x H3 y => ?_⟩
    obtain ⟨rx, rs3, tp3⟩ := g2 x H3 y
    have tp13 := tp2.trans tp3
    refine pat_rel rx ((wipe_rel rσ own).mono (tp1.trans tp13)) rs3 q2 fun σw4 σ4 q4 r4 hw => ?_
    refine ⟨(hw own hp).trans (wipe_sub fun _ z => z), σw4, S2, _, noX, r4, rs3, q4, fun b S4 q5 H4 rs4 tp4 => ?_, fun _ _ h => h.elim⟩
    refine ite_b (fun z => ?_) (fun z => ?_)
    · subst z
      refine ⟨σw4, S4, _, noX, r4.mono tp4, rs4, q5, fun y S5 q6 v5 H5 r5 rs5 tp5 => ?_, fun _ _ h => h.elim⟩
      split at q6
      · rename_i acc e5
        obtain ⟨vs, hu, rr⟩ := rs5.lst e5
        have ro : RO X.K G H5 (.lst (acc ++ [y])) (.lst (vs ++ [v5])) := ⟨_, rfl, rr.append (.cons r5 .nil)⟩
        obtain ⟨rs6, tp6⟩ := rs5.wr e5 hu ro
        exact ⟨vs, hu, by rw [← rr.length]; exact q6.1, _, rs6, tp13.trans (tp4.trans (tp5.trans tp6)), q6.2⟩
      · exact q6.elim
    · subst z
      exact ⟨S4, rs4, tp13.trans tp4, q5⟩
  · have e : i = items.length := by omega
    subst e
    rw [List.getElem?_eq_none (Nat.le_refl _)] at q2
    exact .inl ⟨io.stop S2 H2 rs2 tp2 st, (hq _ _ q2) _ _ (rw_ref.mpr rfl) rs2 (tp1.trans tp2)⟩
/-- .. with two clauses -/
theorem lc2_read {own vs1 : List Nat} {ti ti1 : TwI} {p p1 : Pat} {tt tt1 : TwT} {te : Tw} {σ : L2.St} {H : Hp} {Q : VK} (hp : patIn own p) (hp1 : patIn vs1 p1) (h : liftE X.K G Wx (lc2S own vs1 ti p tt ti1 p1 tt1 te) σ H Q) :
    tLc2 (liftI X.K G Wx ti) (patG X.K p) (liftT X.K G WNo tt) (liftI X.K G WNo ti1) (patG X.K p1) (liftT X.K G WNo tt1) (liftE X.K G WNo te) own vs1 σ H Q := by
  obtain ⟨σw, S, Q0, E0, rσ, rs, q, hq, he⟩ := h
  refine ⟨σw, S, _, _, rσ, rs, q, fun items still S1 q1 J H1 io rs1 tp1 D hD => ?_, he⟩
  have rsD : RS X.K G (put S1 D (.lst [])) (upd H1 D (.lst [])) := rs1.new hD ⟨[], rfl, .nil⟩
  obtain ⟨Iv, iv0, step⟩ := q1 D (rs1.free hD)
  refine ⟨fun i m H2 => ∃ S2, RS X.K G S2 H2 ∧ TP H1 H2 ∧ m = items.length - i ∧ i ≤ items.length ∧ Iv i S2,
    ⟨items.length, put S1 D (.lst []), rsD, .new hD, rfl, Nat.zero_le _, iv0⟩, ?_⟩
  rintro i m H2 ⟨S2, rs2, tp2, rfl, hi, iv2⟩
  obtain ⟨st, q2⟩ := step i S2 hi iv2
  by_cases hlt : i < items.length
  · have e : items[i]? = some items[i] := List.getElem?_eq_getElem hlt
    obtain ⟨g1, g2⟩ := io.go S2 H2 i _ rs2 tp2 st e
    rw [e] at q2
    refine .inr ⟨g1, fun H' => ∃ S', RS X.K G S' H' ∧ TP H1 H' ∧ Iv (i + 1) S',
      fun H' ⟨S', b, c, d⟩ => ⟨items.length - (i + 1), by omega, S', b, c, rfl, hlt, d⟩, fun x H3 y => ?_⟩
    obtain ⟨rx, rs3, tp3⟩ := g2 x H3 y
    have tp13 := tp2.trans tp3
    refine pat_rel rx ((wipe_rel rσ own).mono (tp1.trans tp13)) rs3 q2 fun σw4 σ4 q4 r4 hw => ?_
    refine ⟨(hw own hp).trans (wipe_sub fun _ z => z), σw4, S2, _, noX, r4, rs3, q4, fun b S4 q5 H4 rs4 tp4 => ?_, fun _ _ h => h.elim⟩
    refine ite_b (fun z => ?_) (fun z => ?_)
    · subst z
      refine ⟨σw4, S4, _, noX, r4.mono tp4, rs4, q5, fun items1 still1 S5 q6 J1 H5 io1 rs5 tp5 => ?_, fun _ _ h => h.elim⟩
      obtain ⟨Iu, iu0, step1⟩ := q6
      refine ⟨fun j m H6 => ∃ S6, RS X.K G S6 H6 ∧ TP H5 H6 ∧ m = items1.length - j ∧ j ≤ items1.length ∧ Iu j S6, ⟨items1.length, S5, rs5, .refl, rfl, Nat.zero_le _, iu0⟩, ?_⟩
      rintro j m H6 ⟨S6, rs6, tp6, rfl, hj, iu6⟩
      obtain ⟨st1, q7⟩ := step1 j S6 hj iu6
      by_cases hlt1 : j < items1.length
      · have e1 : items1[j]? = some items1[j] := List.getElem?_eq_getElem hlt1
        obtain ⟨g3, g4⟩ := io1.go S6 H6 j _ rs6 tp6 st1 e1
        rw [e1] at q7
        refine .inr ⟨g3, fun H' => ∃ S', RS X.K G S' H' ∧ TP H5 H' ∧ Iu (j + 1) S',
          fun H' ⟨S', b, c, d⟩ => ⟨items1.length - (j + 1), by omega, S', b, c, rfl, hlt1, d⟩, fun x H7 y => ?_⟩
        obtain ⟨rx1, rs7, tp7⟩ := g4 x H7 y
        have tp57 := tp6.trans tp7
        refine pat_rel rx1 ((wipe_rel (r4.mono tp4) vs1).mono (tp5.trans tp57)) rs7 q7 fun σw8 σ8 q8 r8 hw1 => ?_
        refine ⟨(hw1 vs1 hp1).trans (wipe_sub fun _ z => z), σw8, S6, _, noX, r8, rs7, q8, fun b S8 q9 H8 rs8 tp8 => ?_, fun _ _ h => h.elim⟩
        refine ite_b (fun z => ?_) (fun z => ?_)
        · subst z
          refine ⟨σw8, S8, _, noX, r8.mono tp8, rs8, q9, fun y S9 q10 v9 H9 r9 rs9 tp9 => ?_, fun _ _ h => h.elim⟩
          split at q10
          · rename_i acc e5
            obtain ⟨vs, hu, rr⟩ := rs9.lst e5
            have ro : RO X.K G H9 (.lst (acc ++ [y])) (.lst (vs ++ [v9])) := ⟨_, rfl, rr.append (.cons r9 .nil)⟩
            obtain ⟨rs10, tp10⟩ := rs9.wr e5 hu ro
            exact ⟨vs, hu, by rw [← rr.length]; exact q10.1, _, rs10, tp57.trans (tp8.trans (tp9.trans tp10)), q10.2⟩
          · exact q10.elim
        · subst z
          exact ⟨S8, rs8, tp57.trans tp8, q9⟩
      · have e1 : j = items1.length := by omega
        subst e1
        rw [List.getElem?_eq_none (Nat.le_refl _)] at q7
        exact .inl ⟨io1.stop S6 H6 rs6 tp6 st1, S6, rs6, tp13.trans (tp4.trans (tp5.trans tp6)), q7⟩
    · subst z
      exact ⟨S4, rs4, tp13.trans tp4, q5⟩
  · have e : i = items.length := by omega
    subst e
    rw [List.getElem?_eq_none (Nat.le_refl _)] at q2
    exact .inl ⟨io.stop S2 H2 rs2 tp2 st, (hq _ _ q2) _ _ (rw_ref.mpr rfl) rs2 (tp1.trans tp2)⟩
structure Lc2Facts (X : Cx) (G : Wd) (Wx : WX) (elt tg iter tg1 iter1 : Expr) (ifs ifs1 : List Expr) (scope : Scope) (own : List (Str × Nat)) (vs1 : List Nat) (ti : TwI) (p : Pat) (tt : TwT) (ti1 : TwI) (p1 : Pat) (tt1 : TwT) (te : Tw) : Prop where
  hp : patIn (own.map (·.2)) p
  hp1 : patIn vs1 p1
  hv : ∀ i ∈ vs1, i ∈ own.map (·.2)
  hi : PIw X G Wx tg iter ti
  ok : BlkOk X.N X.env.scope scope own
  hg : ∀ (s : Shared) (H : Hp) (C : Addr) (cl : List (Str × Addr)) (fp : List Addr), PG (X.blk s H scope (compEnvC scope cl C X.env) fp) tg (patG X.K p)
  ht : ∀ (s : Shared) (H : Hp) (C : Addr) (cl : List (Str × Addr)) (fp : List Addr), PTsw (X.blk s H scope (compEnvC scope cl C X.env) fp) G WNo ifs tt
  hi1 : ∀ (s : Shared) (H : Hp) (C : Addr) (cl : List (Str × Addr)) (fp : List Addr), PIw (X.blk s H scope (compEnvC scope cl C X.env) fp) G WNo tg1 iter1 ti1
  hg1 : ∀ (s : Shared) (H : Hp) (C : Addr) (cl : List (Str × Addr)) (fp : List Addr), PG (X.blk s H scope (compEnvC scope cl C X.env) fp) tg1 (patG X.K p1)
  ht1 : ∀ (s : Shared) (H : Hp) (C : Addr) (cl : List (Str × Addr)) (fp : List Addr), PTsw (X.blk s H scope (compEnvC scope cl C X.env) fp) G WNo ifs1 tt1
  he : ∀ (s : Shared) (H : Hp) (C : Addr) (cl : List (Str × Addr)) (fp : List Addr), PEw (X.blk s H scope (compEnvC scope cl C X.env) fp) G WNo elt te
  hs : ∀ x, foldedSetIterable iter X.env x = pure x
  hs1 : ∀ env x, foldedSetIterable iter1 env x = pure x
theorem ew_lc2 {elt tg iter tg1 iter1 : Expr} {ifs ifs1 : List Expr} {scope : Scope} {own : List (Str × Nat)} {vs1 : List Nat} {ti ti1 : TwI} {p p1 : Pat} {tt tt1 : TwT} {te : Tw} (hc : X.calm = true) (hN : X.N.Nodup) (f : Lc2Facts X G Wx elt tg iter tg1 iter1 ifs ifs1 scope own vs1 ti p tt ti1 p1 tt1 te) :
    PEw X G Wx (.ListComp elt [⟨tg, iter, ifs, 0⟩, ⟨tg1, iter1, ifs1, 0⟩] scope pos) (lc2S (own.map (·.2)) vs1 ti p tt ti1 p1 tt1 te) :=
  PE.imp (pe_lc2 (wi1 := liftI X.K G WNo ti1) (tt := liftT X.K G WNo tt) (tt1 := liftT X.K G WNo tt1) (te := liftE X.K G WNo te) hc hN f.hi f.ok f.hv f.hg f.ht f.hi1 f.hg1 f.ht1 f.he f.hs f.hs1) fun σ H Q q => lc2_read f.hp f.hp1 q
theorem sw_setLc2 {i : Nat} {y : Str} {py spos : Pos} {elt tg iter tg1 iter1 : Expr} {ifs ifs1 : List Expr} {scope : Scope} {own : List (Str × Nat)} {vs1 : List Nat} {ti ti1 : TwI} {p p1 : Pat} {tt tt1 : TwT} {te : Tw} (hc : X.calm = true) (hN : X.N.Nodup) (hy : X.N[i]? = some y) (hyl : X.env.scope.names.lookup y = some .local)
    (hsw : swapsWith (.ListComp elt [⟨tg, iter, ifs, 0⟩, ⟨tg1, iter1, ifs1, 0⟩] scope pos) (some (.Name y py)) spos.line X.env = pure true) (f : Lc2Facts X G Wx elt tg iter tg1 iter1 ifs ifs1 scope own vs1 ti p tt ti1 p1 tt1 te) :
    PSw X G Wx (.Assign [.Name y py] (.ListComp elt [⟨tg, iter, ifs, 0⟩, ⟨tg1, iter1, ifs1, 0⟩] scope pos) spos) (setS i (lc2S (own.map (·.2)) vs1 ti p tt ti1 p1 tt1 te)) := by
  refine PS.imp (ps_setLc2 (wi1 := liftI X.K G WNo ti1) (tt := liftT X.K G WNo tt) (tt1 := liftT X.K G WNo tt1) (te := liftE X.K G WNo te) hc hN hy hyl hsw f.hi f.ok f.hv f.hg f.ht f.hi1 f.hg1 f.ht1 f.he f.hs f.hs1) fun D σ H h => ?_
  obtain ⟨σw, S, D0, rσ, rs, q, l⟩ := h
  refine lc2_read (Q := fun x H1 => gName i x σ H1 D.nx) f.hp f.hp1 ⟨σw, S, _, _, rσ, rs, q, fun w S1 q1 v1 H1 r1 rs1 tp1 => l.nx _ _ q1 _ _ ((rσ.mono tp1).set i r1) rs1 tp1, l.lx rσ⟩
/-- [elt for target in iter if ..] -/
theorem ew_lc {elt tg iter : Expr} {ifs : List Expr} {scope : Scope} {own : List (Str × Nat)} {ti : TwI} {p : Pat} {tt : TwT} {te : Tw} (hp : patIn (own.map (·.2)) p) (hc : X.calm = true) (hN : X.N.Nodup) (hi : PIw X G Wx tg iter ti) (ok : BlkOk X.N X.env.scope scope own)
    (hg : ∀ (s : Shared) (H : Hp) (C : Addr) (cl : List (Str × Addr)) (fp : List Addr), PG (X.blk s H scope (compEnvC scope cl C X.env) fp) tg (patG X.K p))
    (ht : ∀ (s : Shared) (H : Hp) (C : Addr) (cl : List (Str × Addr)) (fp : List Addr), PTsw (X.blk s H scope (compEnvC scope cl C X.env) fp) G WNo ifs tt)
    (he : ∀ (s : Shared) (H : Hp) (C : Addr) (cl : List (Str × Addr)) (fp : List Addr), PEw (X.blk s H scope (compEnvC scope cl C X.env) fp) G WNo elt te) (hs : ∀ x, foldedSetIterable iter X.env x = pure x) :
    PEw X G Wx (.ListComp elt [⟨tg, iter, ifs, 0⟩] scope pos) (lcS (own.map (·.2)) ti p tt te) :=
  PE.imp (pe_lc (tt := liftT X.K G WNo tt) (te := liftE X.K G WNo te) hc hN hi ok hg ht he hs) fun σ H Q q => lc_read hp q
theorem sw_setLc {i : Nat} {y : Str} {py spos : Pos} {elt tg iter : Expr} {ifs : List Expr} {scope : Scope} {own : List (Str × Nat)} {ti : TwI} {p : Pat} {tt : TwT} {te : Tw} (hp : patIn (own.map (·.2)) p) (hc : X.calm = true) (hN : X.N.Nodup) (hy : X.N[i]? = some y) (hyl : X.env.scope.names.lookup y = some .local)
    (hsw : swapsWith (.ListComp elt [⟨tg, iter, ifs, 0⟩] scope pos) (some (.Name y py)) spos.line X.env = pure true) (hi : PIw X G Wx tg iter ti) (ok : BlkOk X.N X.env.scope scope own)
    (hg : ∀ (s : Shared) (H : Hp) (C : Addr) (cl : List (Str × Addr)) (fp : List Addr), PG (X.blk s H scope (compEnvC scope cl C X.env) fp) tg (patG X.K p))
    (ht : ∀ (s : Shared) (H : Hp) (C : Addr) (cl : List (Str × Addr)) (fp : List Addr), PTsw (X.blk s H scope (compEnvC scope cl C X.env) fp) G WNo ifs tt)
    (he : ∀ (s : Shared) (H : Hp) (C : Addr) (cl : List (Str × Addr)) (fp : List Addr), PEw (X.blk s H scope (compEnvC scope cl C X.env) fp) G WNo elt te) (hs : ∀ x, foldedSetIterable iter X.env x = pure x) :
    PSw X G Wx (.Assign [.Name y py] (.ListComp elt [⟨tg, iter, ifs, 0⟩] scope pos) spos) (setS i (lcS (own.map (·.2)) ti p tt te)) := by
  refine PS.imp (ps_setLc (tt := liftT X.K G WNo tt) (te := liftE X.K G WNo te) hc hN hy hyl hsw hi ok hg ht he hs) fun D σ H h => ?_
  obtain ⟨σw, S, D0, rσ, rs, q, l⟩ := h
  refine lc_read (Q := fun x H1 => gName i x σ H1 D.nx) hp ⟨σw, S, _, _, rσ, rs, q, fun w S1 q1 v1 H1 r1 rs1 tp1 => l.nx _ _ q1 _ _ ((rσ.mono tp1).set i r1) rs1 tp1, l.lx rσ⟩
/-! ### methods of lists -/
inductive Mt where
  | append | extend | pop | popAt | clear | reverse | get1 | get2 | pop2
def mtW (m : Mt) (o : W) (as : List W) (S : Store) (Q : WP) : Prop :=
  match o with
  | .ref a => (match S a with
    | some (.lst xs) => (match m, as with
      | .append, [y] => xs.length < sizeLine ∧ Q .non (put S a (.lst (xs ++ [y])))
      | .extend, [.ref b] => (match S b with
        | some (.lst ys) => xs.length + ys.length ≤ sizeLine ∧ Q .non (put S a (.lst (xs ++ ys)))
        | _ => False)
      | .extend, [.tup ys] => xs.length + ys.length ≤ sizeLine ∧ Q .non (put S a (.lst (xs ++ ys)))
      | .pop, [] => (match xs[xs.length - 1]? with
        | some y => Q y (put S a (.lst xs.dropLast))
        | none => False)
      | .popAt, [.int i] => -(2 ^ 63) ≤ i ∧ i < 2 ^ 63 ∧ (match seqIndex? i xs.length with
        | some k => (match xs[k]? with
          | some y => Q y (put S a (.lst (xs.eraseIdx k)))
          | none => False)
        | none => False)
      | .clear, [] => Q .non (put S a (.lst []))
      | .reverse, [] => Q .non (put S a (.lst xs.reverse))
      | _, _ => False)
    | _ => False)
  | _ => False
/-- methods of dicts -/
def dmW (m : Mt) (o : W) (as : List W) (S : Store) (Q : WP) : Prop :=
  ∃ a kvs, o = .ref a ∧ S a = some (.dic kvs) ∧ match m, as with
  | .popAt, [x] => ∃ k w, keyW x = some k ∧ lkD kvs k = some w ∧ Q w (put S a (.dic (dropD kvs k)))
  | .pop2, [x, y] => ∃ k, keyW x = some k ∧ (match lkD kvs k with
    | some w => Q w (put S a (.dic (dropD kvs k)))
    | none => Q y S)
  | .get1, [x] => ∃ k, keyW x = some k ∧ Q ((lkD kvs k).getD .non) S
  | .get2, [x, y] => ∃ k, keyW x = some k ∧ Q ((lkD kvs k).getD y) S
  | _, _ => False
def Mt.onL : Mt → Bool
  | .get1 => false | .get2 => false | .pop2 => false | _ => true
def Mt.onD : Mt → Bool
  | .popAt => true | .get1 => true | .get2 => true | .pop2 => true | _ => false
def mgW (m : Mt) (o : W) (S : Store) (P P2 : Prop) : Prop := match o with
  | .ref a => (match S a with
    | some (.lst _) => m.onL = true ∧ P
    | some (.dic _) => m.onD = true ∧ P2
    | _ => False)
  | _ => False
def mtS (m : Mt) (to : Tw) (u : TwA) : Tw := fun σ S Q E => to σ S (fun o S1 => mgW m o S1 (u σ S1 (fun as S2 => mtW m o as S2 Q) E) (u σ S1 (fun as S2 => dmW m o as S2 Q) E)) E
def Mt.id : Mt → String
  | .append => "list.append" | .extend => "list.extend" | .pop => "list.pop" | .popAt => "list.pop" | .clear => "list.clear" | .reverse => "list.reverse" | .get1 => "list.pop" | .get2 => "list.pop" | .pop2 => "list.pop"
def Mt.idD : Mt → String
  | .get1 => "dict.get" | .get2 => "dict.get" | _ => "dict.pop"
def Mt.nm : Mt → Str
  | .append => "append" | .extend => "extend" | .pop => "pop" | .popAt => "pop" | .clear => "clear" | .reverse => "reverse" | .get1 => "get" | .get2 => "get" | .pop2 => "pop"
def liftM (K : PySem.W.Frag) (G : Wd) (b : W → List W → Store → WP → Prop) : V → List V → Hp → VK → Prop := fun v vs H Q => ∃ (o : W) (ws : List W) (S : Store) (Q0 : WP), RW K G H o v ∧ RWs K G H ws vs ∧ RS K G S H ∧ b o ws S Q0 ∧ ∀ w S', Q0 w S' → Lf K G H Q w S'
theorem Lf.wrN {K : PySem.W.Frag} {H : Hp} {S : Store} {Q : VK} {p : Addr} {o o' : O} {u u' : HO} (h : Lf K G H Q .non (put S p o')) (s : RS K G S H) (e : S p = some o) (eu : H p = some u) (r' : RO K G H o' u') : Q .non (upd H p u') :=
  Lf.wr h (rw_non.mpr rfl) s e eu r'
theorem RWs.dropLast {K : PySem.W.Frag} {H : Hp} {ws : List W} {vs : List V} (r : RWs K G H ws vs) : RWs K G H ws.dropLast vs.dropLast := by
  rw [List.dropLast_eq_take, List.dropLast_eq_take, r.length]
  exact r.take _
theorem list_extend_tupG (l : Addr) (items : Array Value) (n : Nat) (b : Addr) (dd : Option Addr) (sl : Array (Option Value)) (items2 : Array Value) (n2 : Nat) (hs0 : ¬(!items.isEmpty && Builtin.List.listTooLong (items.size + items2.size)) = true) (hs1 : items.size ≤ sizeLine) (hs2 : items.size + items2.size ≤ sizeLine + 1) :
    Meets (Builtin.«list.extend» ⟨[.ref l, .ref b], []⟩) (fun _ R s => s.heap.get? l = some { cls := .type "list", dict := none, data := .seq items n, slots := #[] } ∧ s.heap.get? b = some { cls := .type "tuple", dict := dd, data := .seq items2 n2, slots := sl } ∧ R (.ok (.ret Value.none)) { s with heap := s.heap.update l (Obj.mapSeq fun x => x ++ items2), toks := s.toks }) :=
  .of_wp fun prog w A R s h => by
    obtain ⟨hp, g, d, tk, os⟩ := s; obtain ⟨hl, hb, h⟩ := h; have f1 := AutoSeq1.idx_int; have f2 := AutoSeq1.sub_tuple_tuple; have f3 := AutoSeq1.sub_list_list; have f4 := AutoSeq1.sub_tuple_list; have f5 := AutoSeq1.sub_list_tuple;
    have hz' : (items ++ items2).size ≤ sizeLine + 1 := by rw [Array.size_append]; exact hs2
    wp_walk using (wpAny_updateSeq hl rfl (hz := hs1) (_hz' := hz')), AutoSeq1.wpAny_loadPart' hl, AutoSeq1.wpAny_loadPart' hb; exact ⟨_, rfl, h⟩
theorem mt_extT {X : Cx} : MtR X "list.extend" (fun x vs H Q => ∃ l b xs zs, x = .ref l ∧ vs = [.ref b] ∧ H l = some (.lst xs) ∧ SqT X.K H b zs ∧ xs.length + zs.length ≤ sizeLine ∧ Q .non (upd H l (.lst (xs ++ zs)))) := by
  intro pins s σ H x vs v us Q I rx rv h
  obtain ⟨l, b, xs, zs, rfl, rfl, hH, hB, hz, q⟩ := h
  cases rx
  obtain ⟨u, rfl, ru⟩ := rv.one
  cases ru
  obtain ⟨z, its, n, r, hl, e⟩ := I.lstM hH
  obtain ⟨its2, r2, ⟨⟨oc, od, dt, osl⟩, e2, hc2, n2, hd2⟩, hz2⟩ := I.tuple hB
  obtain rfl : oc = .type "tuple" := hc2
  obtain rfl : dt = .seq its2.toArray n2 := hd2
  have hl := r.length
  have hl2 := r2.length
  have hsz : its.toArray.size + its2.toArray.size ≤ sizeLine := by rw [List.size_toArray, List.size_toArray]; omega
  have hlong : ¬ (!its.toArray.isEmpty && Builtin.List.listTooLong (its.toArray.size + its2.toArray.size)) = true := by
    rw [notLongL hsz, Bool.and_false]
    exact Bool.false_ne_true
  refine call_meets F.slot_list_extend ⟨_, e, rfl⟩ F.entry_list_extend (F.args_list_extend_2 _ _)
    (list_extend_tupG l its.toArray n b od osl its2.toArray n2 hlong (by rw [List.size_toArray]; omega) (by omega)) ⟨e, e2, ?_⟩
  refine ⟨.non, _, I.lset (its' := its ++ its2) hH e (by simp) (r.append r2) ?_, rfl, q⟩
  rw [List.length_append]
  omega
theorem mt_mtW (m : Mt) : MtR X m.id (liftM X.K G (mtW m)) := by
  intro pins s σ H v vs u us Q I rx rxs h
  obtain ⟨o, ws, S, Q0, ro, rw, rs, q, hq⟩ := h
  unfold mtW at q
  split at q
  · rename_i a
    rw [rw_ref] at ro
    split at q
    · rename_i xs e
      obtain ⟨ys, hu, rr⟩ := rs.lst e
      split at q
      · obtain ⟨v1, rfl, r1⟩ := rws1 rw
        exact mt_append pins s σ H _ _ u us Q I rx rxs ⟨a, ys, v1, ro, rfl, hu, by rw [← rr.length]; exact q.1, Lf.wrN (hq _ _ q.2) rs e hu ⟨_, rfl, rr.append (.cons r1 .nil)⟩⟩
      · obtain ⟨v1, rfl, r1⟩ := rws1 rw
        rw [rw_ref] at r1
        subst r1
        split at q
        · rename_i zs e2
          obtain ⟨ys2, hu2, rr2⟩ := rs.lst e2
          exact mt_extend pins s σ H _ _ u us Q I rx rxs ⟨a, _, ys, ys2, ro, rfl, hu, hu2, by rw [← rr.length, ← rr2.length]; exact q.1, Lf.wrN (hq _ _ q.2) rs e hu ⟨_, rfl, rr.append rr2⟩⟩
        · exact q.elim
      · obtain ⟨v1, rfl, r1⟩ := rws1 rw
        obtain ⟨p, vs2, rfl, tA, rr2⟩ := rw_tup.mp r1
        exact mt_extT pins s σ H _ _ u us Q I rx rxs ⟨a, _, ys, vs2, ro, rfl, hu, tA.sq, by rw [← rr.length, ← rr2.length]; exact q.1, Lf.wrN (hq _ _ q.2) rs e hu ⟨_, rfl, rr.append rr2⟩⟩
      · rw [rws_nil] at rw
        subst rw
        split at q
        · rename_i y e2
          obtain ⟨v1, f1, r1⟩ := rr.get e2
          exact mt_pop pins s σ H _ _ u us Q I rx rxs ⟨a, ys, v1, ro, rfl, hu, by rw [← rr.length]; exact f1, Lf.wr (hq _ _ q) r1 rs e hu ⟨_, rfl, rr.dropLast⟩⟩
        · exact q.elim
      · obtain ⟨v1, rfl, r1⟩ := rws1 rw
        rw [rw_int] at r1
        subst r1
        obtain ⟨q0, q1, q⟩ := q
        split at q
        · rename_i k e2
          split at q
          · rename_i y e3
            obtain ⟨v1, f1, r1⟩ := rr.get e3
            exact mt_popAt pins s σ H _ _ u us Q I rx rxs ⟨a, ys, _, k, v1, ro, rfl, hu, q0, q1, by rw [← rr.length]; exact e2, f1, Lf.wr (hq _ _ q) r1 rs e hu ⟨_, rfl, rr.erase k⟩⟩
          · exact q.elim
        · exact q.elim
      · rw [rws_nil] at rw
        subst rw
        exact mt_clear pins s σ H _ _ u us Q I rx rxs ⟨a, ys, ro, rfl, hu, Lf.wrN (hq _ _ q) rs e hu ⟨_, rfl, .nil⟩⟩
      · rw [rws_nil] at rw
        subst rw
        exact mt_reverse pins s σ H _ _ u us Q I rx rxs ⟨a, ys, ro, rfl, hu, Lf.wrN (hq _ _ q) rs e hu ⟨_, rfl, rr.reverse⟩⟩
      · exact q.elim
    · exact q.elim
  · exact q.elim
theorem mt_dmW (m : Mt) (hu : X.A.units + 1 < cLine) : MtR X m.idD (liftM X.K G (dmW m)) := by
  intro pins s σ H v vs u us Q I rx rxs h
  obtain ⟨o, ws, S, Q0, ro, rw, rs, ⟨a, kvs, rfl, e, q⟩, hq⟩ := h
  rw [rw_ref] at ro
  subst ro
  obtain rfl : u = Value.ref a := rx
  obtain ⟨ms, hm, rr⟩ := rs.dic e
  split at q
  · obtain ⟨v1, rfl, r1⟩ := rws1 rw
    obtain ⟨u1, rfl, ru⟩ := rxs.one
    obtain ⟨k, w, ek, el, q⟩ := q
    obtain ⟨v2, e2, r2⟩ := (rr.val k).2 w el
    have ex := keyW_rel r1 ek
    subst ex
    exact d_pop I hm ru e2 (.inl rfl) fun w' s' I' rw' => ⟨v2, _, I', rw', Lf.wr (hq _ _ q) r2 rs e hm ⟨_, rfl, rr.dropD⟩⟩
  · obtain ⟨v1, l, rfl, r1, rw⟩ := rws_cons.mp rw
    obtain ⟨v2, rfl, r2⟩ := rws1 rw
    obtain ⟨u1, u2, rfl, ru, ru2⟩ := rxs.two
    obtain ⟨k, ek, q⟩ := q
    have ex := keyW_rel r1 ek
    subst ex
    split at q
    · rename_i w el
      obtain ⟨v3, e3, r3⟩ := (rr.val k).2 w el
      exact d_pop I hm ru e3 (.inr ⟨u2, rfl⟩) fun w' s' I' rw' => ⟨v3, _, I', rw', Lf.wr (hq _ _ q) r3 rs e hm ⟨_, rfl, rr.dropD⟩⟩
    · rename_i el
      exact d_popD I hm ru ((rr.val k).1 el) fun s' I' => ⟨v2, H, I', ru2, Lf.same (hq _ _ q) r2 rs⟩
  · obtain ⟨v1, rfl, r1⟩ := rws1 rw
    obtain ⟨u1, rfl, ru⟩ := rxs.one
    obtain ⟨k, ek, q⟩ := q
    have ex := keyW_rel r1 ek
    subst ex
    refine d_get1 hu I (DGet.k hm) ru fun w' s' I' rw' => ⟨_, H, I', rw', ?_⟩
    cases el : lkD kvs k with
    | none => rw [el] at q; rw [(rr.val k).1 el]; exact Lf.same (hq _ _ q) (rw_non.mpr rfl) rs
    | some w => rw [el] at q; obtain ⟨v3, e3, r3⟩ := (rr.val k).2 w el; rw [e3]; exact Lf.same (hq _ _ q) r3 rs
  · obtain ⟨v1, l, rfl, r1, rw⟩ := rws_cons.mp rw
    obtain ⟨v2, rfl, r2⟩ := rws1 rw
    obtain ⟨u1, u2, rfl, ru, ru2⟩ := rxs.two
    obtain ⟨k, ek, q⟩ := q
    have ex := keyW_rel r1 ek
    subst ex
    refine d_get2 hu I (DGet.k hm) ru ru2 fun w' s' I' rw' => ⟨_, H, I', rw', ?_⟩
    cases el : lkD kvs k with
    | none => rw [el] at q; rw [(rr.val k).1 el]; exact Lf.same (hq _ _ q) r2 rs
    | some w => rw [el] at q; obtain ⟨v3, e3, r3⟩ := (rr.val k).2 w el; rw [e3]; exact Lf.same (hq _ _ q) r3 rs
  · exact q.elim
theorem slotL {m : Mt} (h : m.onL = true) : Slot "list" m.nm m.id ∧ typeOf (.builtin m.id) = pure (.type "method_descriptor") := by
  cases m <;> first | (cases h; done) | skip
  · exact ⟨F.slot_list_append, F.type_list_append⟩
  · exact ⟨F.slot_list_extend, F.type_list_extend⟩
  · exact ⟨F.slot_list_pop, F.type_list_pop⟩
  · exact ⟨F.slot_list_pop, F.type_list_pop⟩
  · exact ⟨F.slot_list_clear, F.type_list_clear⟩
  · exact ⟨F.slot_list_reverse, F.type_list_reverse⟩
theorem slotD {m : Mt} (h : m.onD = true) : Slot "dict" m.nm m.idD ∧ typeOf (.builtin m.idD) = pure (.type "method_descriptor") := by
  cases m <;> first | (cases h; done) | skip
  · exact ⟨F.slot_dict_pop, F.type_dict_pop⟩
  · exact ⟨F.slot_dict_get, F.type_dict_get⟩
  · exact ⟨F.slot_dict_get, F.type_dict_get⟩
  · exact ⟨F.slot_dict_pop, F.type_dict_pop⟩
/-- a method of a list or a dict, as the value is -/
def tBU (K : PySem.W.Frag) (G : Wd) (m : Mt) (to : TE) (t : TA) : TE := fun σ H Q => to σ H fun x H1 =>
  (m.onL = true ∧ tyV K "list" x H1 ∧ t σ H1 fun xs H2 => liftM K G (mtW m) x xs H2 Q) ∨ (m.onD = true ∧ tyV K "dict" x H1 ∧ t σ H1 fun xs H2 => liftM K G (dmW m) x xs H2 Q)
theorem pe_bu0 {m : Mt} {o : Expr} {to : TE} {apos cpos : Pos} (hu : X.A.units + 1 < cLine) (ho : PE X o to) (hbase : attributeBase o m.nm X.env (eval o X.env) = eval o X.env) (hline : (apos.endLine == cpos.line) = true) :
    PE X (.Call (.Attribute o m.nm apos) [] [] cpos) (tBU X.K G m to tNil) := by
  refine ⟨fun pins s σ H Q I h => ?_⟩
  refine wpAny_Call_method0_late hbase hline (thn (ho.run pins s σ H _ I h) fun v s1 ⟨x, H1, I1, r1, q⟩ => ?_)
  rcases q with ⟨on, ty, q1⟩ | ⟨on, ty, q1⟩
  · obtain ⟨h1, h2⟩ := tyV_is I1 r1 ty
    obtain ⟨sl, hty⟩ := slotL on
    exact ⟨"list", m.id, F.plainAttrs_list, sl, hty, h1, h2, Calls.callWith_builtin rfl (PySem.evalArgs_none (mt_mtW m pins s1 σ H1 x [] v [] Q I1 r1 .nil q1))⟩
  · obtain ⟨h1, h2⟩ := tyV_is I1 r1 ty
    obtain ⟨sl, hty⟩ := slotD on
    exact ⟨"dict", m.idD, F.plainAttrs_dict, sl, hty, h1, h2, Calls.callWith_builtin rfl (PySem.evalArgs_none (mt_dmW m hu pins s1 σ H1 x [] v [] Q I1 r1 .nil q1))⟩
theorem pe_bu {m : Mt} {o e : Expr} {es : List Expr} {to : TE} {t : TA} {apos cpos : Pos} (hu : X.A.units + 1 < cLine) (ho : PE X o to) (ha : PA X (e :: es) t) (hbase : attributeBase o m.nm X.env (eval o X.env) = eval o X.env)
    (hfew : ((backTo cpos (starEach (e :: es) X.env)).all (fun x => !x.1) && (backToKw cpos (keywordEach [] X.env)).all (fun x => x.1.isSome)
      && decide ((e :: es).length + ([] : List Keyword).length + (if ([] : List Keyword).isEmpty then 0 else 1) < 30)) = true)
    (hline : (apos.endLine == cpos.line) = true) (hs : starEach (e :: es) X.env = (false, eval e X.env) :: starEach es X.env) (hplain : (backTo cpos (starEach es X.env)).any (·.1) = false) :
    PE X (.Call (.Attribute o m.nm apos) (e :: es) [] cpos) (tBU X.K G m to t) := by
  refine ⟨fun pins s σ H Q I h => ?_⟩
  refine wpAny_Call_method_late hbase hfew hline rfl (thn (ho.run pins s σ H _ I h) fun v s1 ⟨x, H1, I1, r1, q⟩ => ?_)
  rcases q with ⟨on, ty, q1⟩ | ⟨on, ty, q1⟩
  · obtain ⟨h1, h2⟩ := tyV_is I1 r1 ty
    obtain ⟨sl, hty⟩ := slotL on
    refine ⟨"list", m.id, F.plainAttrs_list, sl, hty, h1, h2, ?_⟩
    have hA := ha.run cpos pins s1 σ H1 _ I1 q1
    rw [hs] at hA ⊢
    refine Calls.callWith_builtin (by show (false || (backTo cpos (starEach es X.env)).any (·.1)) = false; rw [hplain] <;> rfl) (Calls.evalArgs_plain ?_)
    exact thn hA fun us s2 ⟨vs, H2, I2, r2, q2⟩ => mt_mtW m pins s2 σ H2 x vs v us Q I2 r1 r2 q2
  · obtain ⟨h1, h2⟩ := tyV_is I1 r1 ty
    obtain ⟨sl, hty⟩ := slotD on
    refine ⟨"dict", m.idD, F.plainAttrs_dict, sl, hty, h1, h2, ?_⟩
    have hA := ha.run cpos pins s1 σ H1 _ I1 q1
    rw [hs] at hA ⊢
    refine Calls.callWith_builtin (by show (false || (backTo cpos (starEach es X.env)).any (·.1)) = false; rw [hplain] <;> rfl) (Calls.evalArgs_plain ?_)
    exact thn hA fun us s2 ⟨vs, H2, I2, r2, q2⟩ => mt_dmW m hu pins s2 σ H2 x vs v us Q I2 r1 r2 q2
theorem ew_bu {m : Mt} {o : Expr} {es : List Expr} {to : Tw} {u : TwA} (ho : PEw X G Wx o to) (ha : PAw X G Wx es u) (h0 : ∀ {t : TE} {ta : TA}, PE X o t → PA X es ta → PE X e (tBU X.K G m t ta)) : PEw X G Wx e (mtS m to u) := by
  refine PE.imp (h0 ho ha) fun σ H Q q => ?_
  obtain ⟨σw, S, Q0, E0, rσ, rs, q, hq, he⟩ := q
  refine ⟨σw, S, _, E0, rσ, rs, q, fun x S1 q1 v1 H1 r1 rs1 tp1 => ?_, he⟩
  unfold mgW at q1
  cases x with
  | ref a =>
    simp only at q1
    have r1' := r1
    rw [rw_ref] at r1'
    split at q1
    · rename_i xs e1
      obtain ⟨vs, hu, rr⟩ := rs1.lst e1
      refine .inl ⟨q1.1, by rw [r1']; exact .inl ⟨rfl, vs, .of hu⟩, σw, S1, _, E0, rσ.mono tp1, rs1, q1.2, fun as S2 q2 v2 H2 r2 rs2 tp2 => ?_, fun e S' h => (he e S' h).mono tp1⟩
      exact ⟨.ref a, as, S2, Q0, r1.mono tp2, r2, rs2, q2, fun w S' h => (hq w S' h).mono (tp1.trans tp2)⟩
    · rename_i kvs e1
      obtain ⟨ms, hu, rr⟩ := rs1.dic e1
      refine .inr ⟨q1.1, by rw [r1']; exact .inr (.inr (.inl ⟨rfl, .inl ⟨ms, hu⟩⟩)), σw, S1, _, E0, rσ.mono tp1, rs1, q1.2, fun as S2 q2 v2 H2 r2 rs2 tp2 => ?_, fun e S' h => (he e S' h).mono tp1⟩
      exact ⟨.ref a, as, S2, Q0, r1.mono tp2, r2, rs2, q2, fun w S' h => (hq w S' h).mono (tp1.trans tp2)⟩
    · exact q1.elim
  | _ => exact q1.elim
theorem ew_bu0 {m : Mt} {o : Expr} {to : Tw} (ho : PEw X G Wx o to) (h0 : ∀ {t : TE}, PE X o t → PE X e (tBU X.K G m t tNil)) : PEw X G Wx e (mtS m to nilA) := by
  refine PE.imp (h0 ho) fun σ H Q q => ?_
  obtain ⟨σw, S, Q0, E0, rσ, rs, q, hq, he⟩ := q
  refine ⟨σw, S, _, E0, rσ, rs, q, fun x S1 q1 v1 H1 r1 rs1 tp1 => ?_, he⟩
  unfold mgW at q1
  cases x with
  | ref a =>
    simp only at q1
    have r1' := r1
    rw [rw_ref] at r1'
    split at q1
    · rename_i xs e1
      obtain ⟨vs, hu, rr⟩ := rs1.lst e1
      exact .inl ⟨q1.1, by rw [r1']; exact .inl ⟨rfl, vs, .of hu⟩, .ref a, [], S1, Q0, r1, .nil, rs1, q1.2, fun w S' h => (hq w S' h).mono tp1⟩
    · rename_i kvs e1
      obtain ⟨ms, hu, rr⟩ := rs1.dic e1
      exact .inr ⟨q1.1, by rw [r1']; exact .inr (.inr (.inl ⟨rfl, .inl ⟨ms, hu⟩⟩)), .ref a, [], S1, Q0, r1, .nil, rs1, q1.2, fun w S' h => (hq w S' h).mono tp1⟩
    · exact q1.elim
  | _ => exact q1.elim
/-- {} -/
def dicN : Tw := fun _ S Q _ => ∀ p, S p = none → Q (.ref p) (put S p (.dic []))
theorem ew_dicN {pos : Pos} : PEw X G Wx (.Dict [] [] pos) dicN := by
  refine PE.imp pe_dnewK fun σ H Q q => ?_
  obtain ⟨σw, S, Q0, E0, rσ, rs, q, hq, he⟩ := q
  exact fun p hp => Lf.new (hq _ _ (q p (rs.free hp))) ⟨_, rfl, rfl⟩ rs hp
/-! ### calls of defs -/
structure Sem where
  call : Nat → List W → Store → WP → XP → Prop
  mk_ : Nat → List W → Store → WP → XP → Prop
inductive PArg where
  | ix (i : Nat)
  | df (w : W)
def PArg.pick (ws : List W) : PArg → W
  | .ix i => ws.getD i .non
  | .df w => w
/-- what is wanted of an exception, by a def's promise -/
def LxK (K : PySem.W.Frag) (G : Wd) (H : Hp) (E : XK) : XP := fun e S => ∀ d H' fs, H' d = some (.xd fs) → RKV K G H' e.fs fs → RS K G S H' → TP H H' → E (.ref (G.cad e.c)) (some d) H'
/-- a def's promise, by trees -/
def spOf (K : PySem.W.Frag) (G : Wd) (n : Nat) (c : List W → Store → WP → XP → Prop) : Sp := fun vs H Q E => vs.length = n ∧ ∃ (ws : List W) (S : Store) (Q0 : WP) (E0 : XP), RWs K G H ws vs ∧ RS K G S H ∧ c ws S Q0 E0 ∧ (∀ w S', Q0 w S' → Lf K G H Q w S') ∧ ∀ e S', E0 e S' → LxK K G H E e S'
/-- room for calls, and no repr stands below -/
structure RoomG (k : Nat) (A : Around) : Prop where
  r : Room k A
  gd : A.guards = some []
theorem RoomG.mono {j k : Nat} {A : Around} (r : RoomG k A) (h : j ≤ k) : RoomG j A := ⟨r.r.mono h, r.gd⟩
theorem RoomG.deeper {k : Nat} {A : Around} (r : RoomG (k + 1) A) (env : Env) : RoomG k (A.deeper env) := ⟨r.r.deeper env, r.gd⟩
theorem RoomG.in1 {k : Nat} {A : Around} (r : RoomG (k + 1) A) : RoomG k A.in1 := ⟨r.r.in1, r.gd⟩
theorem make_guards {A : Around} {C : Addr} {us : List Value} {kw : List (Str × Value)} : (A.under (.builtin "type.__call__" ⟨.ref C :: us, kw⟩)).guards = A.guards := by
  unfold Around.under
  cases A.guards <;> simp [pushGuards, Code.guards, Code.isGuard, guardIds]
theorem RoomG.make {k : Nat} {A : Around} (r : RoomG (k + 1) A) (C : Addr) (us : List Value) (kw : List (Str × Value)) : RoomG k (A.under (.builtin "type.__call__" ⟨.ref C :: us, kw⟩)) := ⟨r.r.make C us kw, make_guards.trans r.gd⟩
/-- a def's promise where no repr stands below -/
structure FnG (P : Program) (w : World) (K : PySem.W.Frag) (mg : Str → Option Value) (base : Heap) (CX : CXT) (k : Nat) (f : Addr) (fd : FuncData) (ps : List Str) (sp : Sp) : Prop where
  len : ∀ vs H Q E, sp vs H Q E → vs.length = ps.length
  run : ∀ (A : Around) (outer : List Env) (s : Shared) (H : Hp) (args : Args) (us : List Value) (vs : List V) (Q : VK) (E : XK), RoomG k A → Env0 P w K mg base A outer s H → BindsTo s fd args (ps.zip us) → Vals vs us → sp vs H Q E →
    codeAny (model P w) A (.call (.ref f) args) (CR CX outer P w H s Q E) s
theorem FnG.mono {P : Program} {w : World} {K : PySem.W.Frag} {mg : Str → Option Value} {base : Heap} {CX : CXT} {j k : Nat} {f : Addr} {fd : FuncData} {ps : List Str} {sp : Sp} (F : FnG P w K mg base CX j f fd ps sp) (h : j ≤ k) : FnG P w K mg base CX k f fd ps sp :=
  ⟨F.len, fun A outer s H args us vs Q E hr => F.run A outer s H args us vs Q E (hr.mono h)⟩
/-- the promise of a def, from its body's reading -/
theorem fng_of {CX : CXT} {P : Program} {w : World} {K : PySem.W.Frag} {mg : Str → Option Value} {base : Heap} {x qual : Str} {params : Arguments} {body : List Stmt} {scope : Scope} {dvs : List V} {kws : List (Str × V)} {f : Addr} {fd : FuncData} {N ps : List Str} {k : Nat} {sp : Sp}
    (F : FunD K x qual params body scope dvs kws f fd) (S : FnScope N ps scope) (len : ∀ vs H Q E, sp vs H Q E → vs.length = ps.length)
    (hbody : ∀ (cdv : Value) (A : Around) (outer : List Env) (s : Shared) (H : Hp) (vs : List V) (Q : VK) (E : XK), RoomG k (A.deeper (envOfC qual scope s.heap.objs.size f cdv)) → sp vs H Q E →
      ∃ t, PSs (cxOf CX P w K mg base N qual scope f cdv A outer s H E) body t ∧ t { nx := fun _ H' => Q .non H', rt := Q } (start N vs) H) : FnG P w K mg base CX (k + 1) f fd ps sp := by
  obtain ⟨oc, od, dV, kV, doc, pm, an, cdv, ct, osl, rfl, lk, hcd, _, _⟩ := F.ex
  refine ⟨len, fun A outer s H args us vs Q E hr e0 hb r hsp => ?_⟩
  obtain ⟨t, ht, hq⟩ := hbody cdv A outer s H vs Q E (hr.deeper _) hsp
  have hin : ∀ b o, base.get? b = some o → s.heap.get? b = some o := fun b o e => (e0.bs b o e).1
  have KX : K.In s.heap := e0.mod.kin.keeps hin
  refine codeAny_call_function hr.r.depth (KX _ _ lk) rfl S.co S.gen rfl (PySem.W.codeRec_of KX hcd) (hb _ _ _ _ ?_)
  refine wpAny_newFunctionEnv_cells S.kind (fun z hz => ?_) fun env he s1 y => ?_
  · obtain ⟨n, v⟩ := z
    exact (S.par n (List.of_mem_zip hz).1).elim .inl fun q => .inr ⟨q, PySem.W.cellsFrom_some _ _ _ (.inl q)⟩
  subst he
  refine ⟨(e0.mod.nolimit.keeps hin).keeps y.toInCall.keep, codeAny_func ?_⟩
  refine wpAny_mono (ht.run [] s1 (start N vs) H _ (inv_start S hr.r.hd e0 (len _ _ _ _ hsp) r y) hq) (fun fl s' hs => ?_) fun e s' hs => hs
  cases fl with
  | ret u => obtain ⟨v, σ', H', J, rv, q⟩ := hs; exact ⟨v, H', J.os, J.bare, J.base, J.hok, rv, q⟩
  | next => obtain ⟨σ', H', J, q⟩ := hs; exact ⟨.non, H', J.os, J.bare, J.base, J.hok, rfl, q⟩
  | brk => obtain ⟨_, _, _, q⟩ := hs; exact q.elim
  | cont => obtain ⟨_, _, _, q⟩ := hs; exact q.elim
structure CallOk (X : Cx) (G : Wd) (cs : Sem) (x : Str) (f n : Nat) (ks : List Str) (perm : List PArg) : Prop where
  ex : ∃ (fa : Addr) (fd : FuncData) (ps : List Str) (k : Nat) (g : List Value → List Value → List Value) (gV : List V → List V → List V), FnG X.prog X.w X.K X.mg X.base (L2.CX X.prog X.w) k fa fd ps (spOf X.K G ps.length (cs.call f)) ∧ RoomG k X.A ∧
    X.mg x = some (.ref fa) ∧ PySem.W.keepIn X.K (.ref fa) = true ∧ KBn X.K fd ps n ks g gV ∧ (∀ vs zs : List V, vs.length = n → zs.length = ks.length → (gV vs zs).length = ps.length) ∧
    ∀ (H : Hp) (es : List W) (vs zs : List V), vs.length = n → zs.length = ks.length → RWs X.K G H es (vs ++ zs) → RWs X.K G H (perm.map (PArg.pick es)) (gV vs zs)
abbrev PKw (X : Cx) (G : Wd) (Wx : WX) (kws : List Keyword) (t : TwA) : Prop := PK X kws (liftA X.K G Wx t)
theorem PK.imp {kws : List Keyword} {t t' : TA} (h : PK X kws t) (g : ∀ σ H Q, t' σ H Q → t σ H Q) : PK X kws t' := ⟨fun p pins s σ H Q I q => h.run p pins s σ H Q I (g σ H Q q)⟩
theorem kw_nil : PKw X G Wx [] nilA := by
  refine PK.imp pk_nil fun σ H Q q => ?_
  obtain ⟨σw, S, Q0, E0, rσ, rs, q, hq, he⟩ := q
  exact (hq _ _ q) _ _ .nil rs .refl
theorem kw_cons {nm : Option Str} {kpos : Pos} {kws : List Keyword} {u : TwA} (ha : PEw X G Wx e t) (hr : PKw X G Wx kws u) : PKw X G Wx (⟨nm, e, kpos⟩ :: kws) (consA t u) := by
  refine PK.imp (pk_cons ha hr) fun σ H Q q => ?_
  obtain ⟨σw, S, Q0, E0, rσ, rs, q, hq, he⟩ := q
  refine ⟨σw, S, _, E0, rσ, rs, q, fun x S1 q1 v1 H1 r1 rs1 tp1 => ?_, he⟩
  refine ⟨σw, S1, _, E0, rσ.mono tp1, rs1, q1, fun y S2 q2 v2 H2 r2 rs2 tp2 => ?_, fun e S' h => (he e S' h).mono tp1⟩
  exact (hq _ _ q2) _ _ (.cons (r1.mono tp2) r2) rs2 (tp1.trans tp2)
/-- the callee runs; an exception is wished for at the caller's slots -/
theorem run_W {k n f : Nat} {ks : List Str} {perm : List PArg} {cs : Sem} {fa : Addr} {fd : FuncData} {ps : List Str} {g : List Value → List Value → List Value} {gV : List V → List V → List V} (tk : Takes X Wx)
    (F : FnG X.prog X.w X.K X.mg X.base (L2.CX X.prog X.w) k fa fd ps (spOf X.K G ps.length (cs.call f))) (hr : RoomG k X.A) (hb : KBn X.K fd ps n ks g gV) (hl : ∀ vs zs : List V, vs.length = n → zs.length = ks.length → (gV vs zs).length = ps.length)
    (hp : ∀ (H : Hp) (es : List W) (vs zs : List V), vs.length = n → zs.length = ks.length → RWs X.K G H es (vs ++ zs) → RWs X.K G H (perm.map (PArg.pick es)) (gV vs zs))
    {pins : List (Addr × Obj)} {s : Shared} {σ : L2.St} {H : Hp} {Q : VK} {us ws : List Value} {vs zs : List V} {es : List W} {S : Store} {Q0 : WP} {E0 : XP} (I : L2.Inv X pins σ H s) (r : Vals vs us) (rz : Vals zs ws) (l1 : vs.length = n) (l2 : zs.length = ks.length)
    (re : RWs X.K G H es (vs ++ zs)) (rs : RS X.K G S H) (h : cs.call f (perm.map (PArg.pick es)) S Q0 E0) (hq : ∀ w S', Q0 w S' → Lf X.K G H Q w S') (he : ∀ e S', E0 e S' → Lx X.K G H σ Wx e S') :
    wpAny (model X.prog X.w) X.A (PySem.call (.ref fa) us (ks.zip ws)) (EP X pins σ Q) X.xe s := by
  have r2 := hb.rel r rz
  have hsp : spOf X.K G ps.length (cs.call f) (gV vs zs) H Q (fun cls d H' => Wx cls d σ H') := ⟨hl vs zs l1 l2, _, S, Q0, E0, hp H es vs zs l1 l2 re, rs, h, hq, he⟩
  refine wpAny_call (codeAny_mono (F.run X.A X.stack s H ⟨us, ks.zip ws⟩ (g us ws) (gV vs zs) Q _ hr I.env0 (hb.to s us ws I.kIn (r.length.symm.trans l1) (rz.length.symm.trans l2)) r2 hsp) fun r s' hq' => ?_)
  cases r with
  | error e => exact tk _ _ (XE.of_call (W := Wx) I (fun cls d H' z => z) hq')
  | ok fl =>
    cases fl with
    | ret u => exact I.after hq'
    | next => exact False.elim hq'
    | brk => exact False.elim hq'
    | cont => exact False.elim hq'
end
end MP
set_option Elab.async false
set_option linter.all false
set_option maxRecDepth 100000
set_option maxHeartbeats 4000000
namespace MP
open PySem PySem.Spec PyProof.Rows L2
/-! ### written arguments -/
def noStar : Expr → Bool
  | .Starred .. => false
  | _ => true
theorem star_cons {e : Expr} {es : List Expr} {env : Env} (h : noStar e = true) : starEach (e :: es) env = (false, eval e env) :: starEach es env := by
  cases e <;> first | rfl | cases h
theorem star_any {env : Env} {pos : Pos} : ∀ {es : List Expr}, es.all noStar = true → (backTo pos (starEach es env)).any (·.1) = false
  | [], _ => rfl
  | e :: es, h => by
    rw [List.all_cons, Bool.and_eq_true] at h
    rw [star_cons h.1]
    have ih := star_any (env := env) (pos := pos) h.2
    show (false || (backTo pos (starEach es env)).any (·.1)) = false
    rw [ih]
    rfl
theorem kw_facts {env : Env} {pos : Pos} : ∀ {kws : List Keyword} {ks : List Str}, kws.map (·.arg) = ks.map some →
    (backToKw pos (keywordEach kws env)).all (·.1.isSome) = true ∧ (backToKw pos (keywordEach kws env)).filterMap (·.1) = ks ∧ (backToKw pos (keywordEach kws env)).any (·.1.isNone) = false
  | [], [], _ => ⟨rfl, rfl, rfl⟩
  | [], _ :: _, h => by cases h
  | _ :: _, [], h => by cases h
  | ⟨nm, v, p⟩ :: kws, k :: ks, h => by
    rw [List.map_cons, List.map_cons, List.cons.injEq] at h
    obtain ⟨h1, h2⟩ := h
    obtain ⟨a, b, c⟩ := kw_facts (env := env) (pos := pos) h2
    have h1 : nm = some k := h1
    subst h1
    refine ⟨?_, ?_, ?_⟩
    · show (true && (backToKw pos (keywordEach kws env)).all (·.1.isSome)) = true
      rw [a]; rfl
    · show k :: (backToKw pos (keywordEach kws env)).filterMap (·.1) = k :: ks
      rw [b]
    · show (false || (backToKw pos (keywordEach kws env)).any (·.1.isNone)) = false
      rw [c]; rfl
/-! ### f(..) of the text's own defs -/
def callN (cs : Sem) (f : Nat) (perm : List PArg) (n m : Nat) (t u : TwA) : Tw := fun σ S Q E => t σ S (fun xs S1 => u σ S1 (fun ys S2 => xs.length = n ∧ ys.length = m ∧ cs.call f (perm.map (PArg.pick (xs ++ ys))) S2 Q E) E) E
/-- e(..): a function that a name holds -/
def cvW (cs : Sem) (tb : List (Nat × List PArg)) (n m : Nat) (t u : TwA) (σ : Sw) (fv : W) (S0 : Store) (Q : WP) (E : XP) : Prop := match fv with
  | .fn f => (match tb.lookup f with
    | some perm => t σ S0 (fun xs S1 => u σ S1 (fun ys S2 => xs.length = n ∧ ys.length = m ∧ cs.call f (perm.map (PArg.pick (xs ++ ys))) S2 Q E) E) E
    | none => False)
  | _ => False
def callV (cs : Sem) (tb : List (Nat × List PArg)) (n m : Nat) (tf : Tw) (t u : TwA) : Tw := fun σ S Q E => tf σ S (fun fv S0 => cvW cs tb n m t u σ fv S0 Q E) E
/-- a function at its place, and how it binds -/
structure FnAt (X : Cx) (G : Wd) (cs : Sem) (f n : Nat) (ks : List Str) (perm : List PArg) (fa : Addr) : Prop where
  ex : ∃ (fd : FuncData) (ps : List Str) (k : Nat) (g : List Value → List Value → List Value) (gV : List V → List V → List V), FnG X.prog X.w X.K X.mg X.base (L2.CX X.prog X.w) k fa fd ps (spOf X.K G ps.length (cs.call f)) ∧ RoomG k X.A ∧
    PySem.W.keepIn X.K (.ref fa) = true ∧ KBn X.K fd ps n ks g gV ∧ (∀ vs zs : List V, vs.length = n → zs.length = ks.length → (gV vs zs).length = ps.length) ∧
    ∀ (H : Hp) (es : List W) (vs zs : List V), vs.length = n → zs.length = ks.length → RWs X.K G H es (vs ++ zs) → RWs X.K G H (perm.map (PArg.pick es)) (gV vs zs)
structure CallV (X : Cx) (G : Wd) (cs : Sem) (n : Nat) (ks : List Str) (q : Nat × List PArg) : Prop where
  at_ : FnAt X G cs q.1 n ks q.2 (G.fad q.1)
theorem CallOk.at {X : Cx} {G : Wd} {cs : Sem} {x : Str} {f n : Nat} {ks : List Str} {perm : List PArg} (C : CallOk X G cs x f n ks perm) : ∃ fa, X.mg x = some (.ref fa) ∧ FnAt X G cs f n ks perm fa := by
  obtain ⟨fa, fd, ps, k, g, gV, F, hr, hm, hkp, hb, hl, hp⟩ := C.ex
  exact ⟨fa, hm, ⟨fd, ps, k, g, gV, F, hr, hkp, hb, hl, hp⟩⟩
theorem lookup_pr {β : Type} : ∀ {l : List (Nat × β)} {k : Nat} {v : β}, l.lookup k = some v → (k, v) ∈ l
  | (j, w) :: r, k, v, h => by
    simp only [List.lookup] at h
    cases e : k == j with
    | true =>
      rw [e] at h
      cases h
      rw [beq_iff_eq] at e
      subst e
      exact List.mem_cons_self ..
    | false =>
      rw [e] at h
      exact List.mem_cons_of_mem _ (lookup_pr h)
  | [], _, _, h => by cases h
section
variable {X : Cx} {G : Wd} {Wx : WX} {e : Expr} {es : List Expr} {kws : List Keyword} {t u : TwA} {tf : Tw} {pos : Pos} {cs : Sem} {x : Str} {f n : Nat} {ks : List Str} {perm : List PArg} {fa : Addr}
/-- behind the function's load -/
theorem call_tail (tk : Takes X Wx) (C : FnAt X G cs f n ks perm fa) (ha : PAw X G Wx es t) (hk : PKw X G Wx kws u) (h0 : es = [] → t = nilA) (hs : es.all noStar = true) (hks : kws.map (·.arg) = ks.map some)
    {pins : List (Addr × Obj)} {s : Shared} {σ : L2.St} {H : Hp} {Q : VK} {σw : Sw} {S : Store} {Q0 : WP} {E0 : XP} (I : L2.Inv X pins σ H s) (rσ : RSt X.K G H σw σ) (rs : RS X.K G S H)
    (q : t σw S (fun xs S1 => u σw S1 (fun ys S2 => xs.length = n ∧ ys.length = ks.length ∧ cs.call f (perm.map (PArg.pick (xs ++ ys))) S2 Q0 E0) E0) E0) (hq : ∀ w S', Q0 w S' → Lf X.K G H Q w S') (he : ∀ e S', E0 e S' → Lx X.K G H σ Wx e S') :
    wpAny (model X.prog X.w) X.A (callWith pos (.ref fa) [] (backTo pos (starEach es X.env)) (backToKw pos (keywordEach kws X.env))) (EP X pins σ Q) X.xe s := by
  obtain ⟨fd, ps, k, g, gV, F, hr, hkp, hb, hl, hp⟩ := C.ex
  obtain ⟨k1, k2, k3⟩ := kw_facts (env := X.env) (pos := pos) hks
  have core : ∀ {us : List Value} {vs : List V} {xs : List W} {S1 : Store} {H1 : Hp} {s1 : Shared}, L2.Inv X pins σ H1 s1 → Vals vs us → RWs X.K G H1 xs vs → RS X.K G S1 H1 → TP H H1 →
      u σw S1 (fun ys S2 => xs.length = n ∧ ys.length = ks.length ∧ cs.call f (perm.map (PArg.pick (xs ++ ys))) S2 Q0 E0) E0 →
      wpAny (model X.prog X.w) X.A (evalAll ((backToKw pos (keywordEach kws X.env)).map (·.2))) (fun ws s₂ => X.K.In s₂.heap ∧ wpAny (model X.prog X.w) X.A (PySem.call (.ref fa) us (((backToKw pos (keywordEach kws X.env)).filterMap (·.1)).zip ws)) (EP X pins σ Q) X.xe s₂) X.xe s1 := by
    intro us vs xs S1 H1 s1 I1 r1 r2 rs1 tp1 q1
    refine thn (hk.run pos pins s1 σ H1 (fun zs H2 => ∃ ys S2, RWs X.K G H2 ys zs ∧ RS X.K G S2 H2 ∧ TP H1 H2 ∧ (xs.length = n ∧ ys.length = ks.length ∧ cs.call f (perm.map (PArg.pick (xs ++ ys))) S2 Q0 E0)) I1
      ⟨σw, S1, _, E0, rσ.mono tp1, rs1, q1, fun ys S2 q2 zs H2 r2 rs2 tp2 => ⟨ys, S2, r2, rs2, tp2, q2⟩, fun e S' h => (he e S' h).mono tp1⟩) fun ws s2 ⟨zs, H2, I2, rz, ys, S2, r3, rs2, tp2, l1, l2, q2⟩ => ⟨I2.kIn, ?_⟩
    rw [k2]
    have tp12 := tp1.trans tp2
    exact run_W tk F hr hb hl hp I2 r1 rz (r2.length.symm.trans l1) (r3.length.symm.trans l2) ((r2.mono tp2).append r3) rs2 q2 (fun w S' h => (hq w S' h).mono tp12) (fun e S' h => (he e S' h).mono tp12)
  cases es with
  | nil =>
    have e0 := h0 rfl
    subst e0
    refine PySem.W.callWith_KW0 (h₀ := X.base) I.ok.mod.kin hkp k1 ?_ (by show (false || _) = false; rw [k3]; rfl)
    exact core I .nil .nil rs .refl q
  | cons a es =>
    have hs1 := hs
    rw [List.all_cons, Bool.and_eq_true] at hs1
    refine PySem.W.callWith_KW (h₀ := X.base) I.ok.mod.kin hkp k1 ?_ (by rw [k3, star_any hs]; rfl) (star_cons hs1.1)
    refine thn (ha.run pos pins s σ H (fun vs H1 => ∃ xs S1, RWs X.K G H1 xs vs ∧ RS X.K G S1 H1 ∧ TP H H1 ∧ u σw S1 (fun ys S2 => xs.length = n ∧ ys.length = ks.length ∧ cs.call f (perm.map (PArg.pick (xs ++ ys))) S2 Q0 E0) E0) I
      ⟨σw, S, _, E0, rσ, rs, q, fun xs S1 q1 vs H1 r1 rs1 tp1 => ⟨xs, S1, r1, rs1, tp1, q1⟩, he⟩) fun us s1 ⟨vs, H1, I1, r, xs, S1, r1, rs1, tp1, q1⟩ => ?_
    exact core I1 r r1 rs1 tp1 q1
theorem ew_call (tk : Takes X Wx) (C : CallOk X G cs x f n ks perm) (hg : Gl X x) (hdb : (x == ("__debug__" : Str)) = false) (ha : PAw X G Wx es t) (hk : PKw X G Wx kws u) (h0 : es = [] → t = nilA) (hs : es.all noStar = true) (hks : kws.map (·.arg) = ks.map some) {p : Pos} :
    PEw X G Wx (.Call (.Name x p) es kws pos) (callN cs f perm n ks.length t u) := by
  refine ⟨fun pins s σ H Q I h => ?_⟩
  obtain ⟨σw, S, Q0, E0, rσ, rs, q, hq, he⟩ := h
  obtain ⟨fa, hm, C⟩ := C.at
  exact wpAny_Call_Name_kw (ld_glob I hg hm (call_tail tk C ha hk h0 hs hks I rσ rs q hq he) hdb)
/-- x(..), x a name that holds a function -/
theorem ew_callV {tb : List (Nat × List PArg)} (tk : Takes X Wx) (C : ∀ q ∈ tb, CallV X G cs n ks q) {p : Pos} (hf : PEw X G Wx (.Name x p) tf) (ha : PAw X G Wx es t) (hk : PKw X G Wx kws u) (h0 : es = [] → t = nilA) (hs : es.all noStar = true) (hks : kws.map (·.arg) = ks.map some) :
    PEw X G Wx (.Call (.Name x p) es kws pos) (callV cs tb n ks.length tf t u) := by
  refine ⟨fun pins s σ H Q I h => ?_⟩
  obtain ⟨σw, S, Q0, E0, rσ, rs, q, hq, he⟩ := h
  refine wpAny_Call_Name_kw (thn (hf.run pins s σ H (fun v H1 => ∃ fv S1, RW X.K G H1 fv v ∧ RS X.K G S1 H1 ∧ TP H H1 ∧ cvW cs tb n ks.length t u σw fv S1 Q0 E0) I ⟨σw, S, _, E0, rσ, rs, q, fun fv S1 q1 v H1 r1 rs1 tp1 => ⟨fv, S1, r1, rs1, tp1, q1⟩, he⟩) fun v s1 ⟨vv, H1, I1, rv, fv, S1, r1, rs1, tp1, q1⟩ => ?_)
  cases fv with
  | fn f =>
    unfold cvW at q1
    simp only at q1
    split at q1
    · rename_i perm e
      rw [rw_fn] at r1
      subst r1
      obtain rfl : v = Value.ref (G.fad f) := rv
      exact call_tail tk (C _ (lookup_pr e)).at_ ha hk h0 hs hks I1 (rσ.mono tp1) rs1 q1 (fun w S' h => (hq w S' h).mono tp1) (fun e S' h => (he e S' h).mono tp1)
    · exact q1.elim
  | _ => exact q1.elim
end
end MP
set_option Elab.async false
set_option linter.all false
set_option maxRecDepth 100000
set_option maxHeartbeats 4000000
namespace MP
open PySem PySem.Spec PyProof.Rows L2
/-! ### instances: C(..), o.m(..), o.f = e -/
def mkN (cs : Sem) (c f : Nat) (perm : List PArg) (n m : Nat) (t u : TwA) : Tw := fun σ S Q E => t σ S (fun xs S1 => u σ S1 (fun ys S2 => xs.length = n ∧ ys.length = m ∧
  ∀ a, S2 a = none → cs.mk_ f (perm.map (PArg.pick (.ref a :: (xs ++ ys)))) (put S2 a (.ins c [])) (fun w S3 => w = .non ∧ Q (.ref a) S3) E) E) E
structure MkOk (X : Cx) (G : Wd) (cs : Sem) (x : Str) (c f n : Nat) (ks : List Str) (perm : List PArg) : Prop where
  ex : ∃ (fa : Addr) (fd : FuncData) (ps : List Str) (k : Nat) (g : List Value → List Value → List Value) (gV : List V → List V → List V), Mk X.K (G.cad c) fa ∧ FnG X.prog X.w X.K X.mg X.base (L2.CX X.prog X.w) k fa fd ps (spOf X.K G ps.length (cs.mk_ f)) ∧ RoomG (k + 1) X.A ∧
    X.mg x = some (.ref (G.cad c)) ∧ KBn X.K fd ps (n + 1) ks g gV ∧ (∀ vs zs : List V, vs.length = n + 1 → zs.length = ks.length → (gV vs zs).length = ps.length) ∧
    ∀ (H : Hp) (es : List W) (vs zs : List V), vs.length = n + 1 → zs.length = ks.length → RWs X.K G H es (vs ++ zs) → RWs X.K G H (perm.map (PArg.pick es)) (gV vs zs)
def methN (cs : Sem) (tb : List (Nat × (Nat × List PArg))) (nm : Str) (n m : Nat) (to : Tw) (t u : TwA) : Tw := fun σ S Q E => to σ S (fun o S1 => match o with
  | .ref a => (match S1 a with
    | some (.ins c fs) => fs.lookup nm = none ∧ (match tb.lookup c with
      | some p => t σ S1 (fun xs S2 => u σ S2 (fun ys S3 => xs.length = n ∧ ys.length = m ∧ cs.call p.1 (p.2.map (PArg.pick (.ref a :: (xs ++ ys)))) S3 Q E) E) E
      | none => False)
    | _ => False)
  | _ => False) E
structure MethOk (X : Cx) (G : Wd) (cs : Sem) (nm : Str) (n : Nat) (ks : List Str) (p : Nat × (Nat × List PArg)) : Prop where
  ex : ∃ (fa : Addr) (fd : FuncData) (ps : List Str) (k : Nat) (g : List Value → List Value → List Value) (gV : List V → List V → List V), Cls X.K (G.cad p.1) ∧ Meth X.K (G.cad p.1) nm fa ∧ FnG X.prog X.w X.K X.mg X.base (L2.CX X.prog X.w) k fa fd ps (spOf X.K G ps.length (cs.call p.2.1)) ∧ RoomG (k + 3) X.A ∧
    KBn X.K fd ps (n + 1) ks g gV ∧ (∀ vs zs : List V, vs.length = n + 1 → zs.length = ks.length → (gV vs zs).length = ps.length) ∧
    ∀ (H : Hp) (es : List W) (vs zs : List V), vs.length = n + 1 → zs.length = ks.length → RWs X.K G H es (vs ++ zs) → RWs X.K G H (p.2.2.map (PArg.pick es)) (gV vs zs)
theorem lookup_in {β : Type} : ∀ {l : List (Nat × β)} {k : Nat} {v : β}, l.lookup k = some v → (k, v) ∈ l
  | (j, w) :: r, k, v, h => by
    simp only [List.lookup] at h
    cases e : k == j with
    | true =>
      rw [e] at h
      cases h
      rw [beq_iff_eq] at e
      subst e
      exact List.mem_cons_self ..
    | false =>
      rw [e] at h
      exact List.mem_cons_of_mem _ (lookup_in h)
  | [], _, _, h => by cases h
section
variable {X : Cx} {G : Wd} {Wx : WX} {e o : Expr} {es : List Expr} {kws : List Keyword} {t u : TwA} {to te : Tw} {pos apos : Pos} {cs : Sem} {x nm : Str} {c f n : Nat} {ks : List Str} {perm : List PArg}
theorem run_makeW {k : Nat} {fa : Addr} {fd : FuncData} {ps : List Str} {g : List Value → List Value → List Value} {gV : List V → List V → List V} (tk : Takes X Wx) (M : Mk X.K (G.cad c) fa)
    (F : FnG X.prog X.w X.K X.mg X.base (L2.CX X.prog X.w) k fa fd ps (spOf X.K G ps.length (cs.mk_ f))) (hr : RoomG (k + 1) X.A) (hb : KBn X.K fd ps (n + 1) ks g gV) (hl : ∀ vs zs : List V, vs.length = n + 1 → zs.length = ks.length → (gV vs zs).length = ps.length)
    (hp : ∀ (H : Hp) (es : List W) (vs zs : List V), vs.length = n + 1 → zs.length = ks.length → RWs X.K G H es (vs ++ zs) → RWs X.K G H (perm.map (PArg.pick es)) (gV vs zs))
    {pins : List (Addr × Obj)} {s : Shared} {σ : L2.St} {H : Hp} {Q : VK} {us ws : List Value} {vs zs : List V} {xs : List W} {S : Store} {Q0 : WP} {E0 : XP} (I : L2.Inv X pins σ H s) (r : Vals vs us) (rz : Vals zs ws) (l1 : vs.length = n) (l2 : zs.length = ks.length)
    (re : RWs X.K G H xs (vs ++ zs)) (rs : RS X.K G S H) (h : ∀ a, S a = none → cs.mk_ f (perm.map (PArg.pick (.ref a :: xs))) (put S a (.ins c [])) (fun w S3 => w = .non ∧ Q0 (.ref a) S3) E0) (hq : ∀ w S', Q0 w S' → Lf X.K G H Q w S') (he : ∀ e S', E0 e S' → Lx X.K G H σ Wx e S') :
    wpAny (model X.prog X.w) X.A (PySem.call (.ref (G.cad c)) us (ks.zip ws)) (EP X pins σ Q) X.xe s := by
  have hx : H (s.heap.objs.size + 1) = none := I.hok.fresh (Nat.le_succ _)
  have hd : H s.heap.objs.size = none := I.hok.fresh (Nat.le_refl _)
  have hne : s.heap.objs.size + 1 ≠ s.heap.objs.size := Nat.succ_ne_self _
  have I2 := Inv.made (C := G.cad c) I
  have r1 : Vals (V.ref (s.heap.objs.size + 1) :: vs) (Value.ref (s.heap.objs.size + 1) :: us) := .cons rfl r
  have r2 := hb.rel r1 rz
  have n1 : (V.ref (s.heap.objs.size + 1) :: vs).length = n + 1 := by rw [List.length_cons, l1]
  have n2 : (Value.ref (s.heap.objs.size + 1) :: us).length = n + 1 := by rw [List.length_cons, ← r.length, l1]
  have tp1 : TP H (upd H s.heap.objs.size (.own (s.heap.objs.size + 1))) := .new hd
  have hx1 : upd H s.heap.objs.size (.own (s.heap.objs.size + 1)) (s.heap.objs.size + 1) = none := by rw [upd_ne hne]; exact hx
  have tp2 : TP H (upd (upd H s.heap.objs.size (.own (s.heap.objs.size + 1))) (s.heap.objs.size + 1) (.ins (G.cad c) s.heap.objs.size [])) := tp1.trans (.new hx1)
  have rs2 : RS X.K G (put S (s.heap.objs.size + 1) (.ins c [])) (upd (upd H s.heap.objs.size (.own (s.heap.objs.size + 1))) (s.heap.objs.size + 1) (.ins (G.cad c) s.heap.objs.size [])) :=
    (rs.newT hd).new hx1 ⟨s.heap.objs.size, [], rfl, rfl⟩
  have hsp : spOf X.K G ps.length (cs.mk_ f) (gV (V.ref (s.heap.objs.size + 1) :: vs) zs) (upd (upd H s.heap.objs.size (.own (s.heap.objs.size + 1))) (s.heap.objs.size + 1) (.ins (G.cad c) s.heap.objs.size []))
      (fun v H3 => v = .non ∧ Q (.ref (s.heap.objs.size + 1)) H3) (fun cls d H' => Wx cls d σ H') :=
    ⟨hl _ _ n1 l2, _, _, _, _, hp _ _ _ _ n1 l2 (.cons (rw_ref.mpr rfl) (re.mono tp2)), rs2, h _ (rs.free hx), fun w S3 q v H3 rv rs3 tp3 => ⟨by rw [q.1] at rv; exact rw_non.mp rv, (hq _ _ q.2) _ _ (rw_ref.mpr rfl) rs3 (tp2.trans tp3)⟩,
      fun e S' q => (he e S' q).mono tp2⟩
  refine wpAny_call (make_map (f := fa) I.kIn M.makes M.init (beq_iff_eq.mp M.fn) (codeAny_mono (F.run _ X.stack _ _ ⟨Value.ref (s.heap.objs.size + 1) :: us, ks.zip ws⟩ (g (Value.ref (s.heap.objs.size + 1) :: us) ws) _ _ _ (hr.make (G.cad c) us (ks.zip ws))
    (I2.env0.make (G.cad c) us (ks.zip ws)) (hb.to _ (Value.ref (s.heap.objs.size + 1) :: us) ws I2.kIn n2 (rz.length.symm.trans l2)) r2 hsp) fun r s' hq' => ?_))
  cases r with
  | error e => exact tk _ _ (XE.of_call (W := Wx) I2 (fun cls d H' z => z) hq')
  | ok fl =>
    cases fl with
    | ret u =>
      obtain ⟨v, H', I3, rv, ev, q3⟩ := I2.after hq'
      subst ev
      exact ⟨rv, ⟨V.ref (s.heap.objs.size + 1), H', I3, rfl, q3⟩⟩
    | next => exact False.elim hq'
    | brk => exact False.elim hq'
    | cont => exact False.elim hq'
/-- C(..) -/
theorem ew_make (tk : Takes X Wx) (C : MkOk X G cs x c f n ks perm) (hg : Gl X x) (hdb : (x == ("__debug__" : Str)) = false) (ha : PAw X G Wx es t) (hk : PKw X G Wx kws u) (h0 : es = [] → t = nilA) (hs : es.all noStar = true) (hks : kws.map (·.arg) = ks.map some) {p : Pos} :
    PEw X G Wx (.Call (.Name x p) es kws pos) (mkN cs c f perm n ks.length t u) := by
  refine ⟨fun pins s σ H Q I h => ?_⟩
  obtain ⟨σw, S, Q0, E0, rσ, rs, q, hq, he⟩ := h
  obtain ⟨fa, fd, ps, k, g, gV, M, F, hr, hm, hb, hl, hp⟩ := C.ex
  obtain ⟨k1, k2, k3⟩ := kw_facts (env := X.env) (pos := pos) hks
  have core : ∀ {us : List Value} {vs : List V} {xs : List W} {S1 : Store} {H1 : Hp} {s1 : Shared}, L2.Inv X pins σ H1 s1 → Vals vs us → RWs X.K G H1 xs vs → RS X.K G S1 H1 → TP H H1 →
      u σw S1 (fun ys S2 => xs.length = n ∧ ys.length = ks.length ∧ ∀ a, S2 a = none → cs.mk_ f (perm.map (PArg.pick (.ref a :: (xs ++ ys)))) (put S2 a (.ins c [])) (fun w S3 => w = .non ∧ Q0 (.ref a) S3) E0) E0 →
      wpAny (model X.prog X.w) X.A (evalAll ((backToKw pos (keywordEach kws X.env)).map (·.2))) (fun ws s₂ => X.K.In s₂.heap ∧ wpAny (model X.prog X.w) X.A (PySem.call (.ref (G.cad c)) us (((backToKw pos (keywordEach kws X.env)).filterMap (·.1)).zip ws)) (EP X pins σ Q) X.xe s₂) X.xe s1 := by
    intro us vs xs S1 H1 s1 I1 r1 r2 rs1 tp1 q1
    refine thn (hk.run pos pins s1 σ H1 (fun zs H2 => ∃ ys S2, RWs X.K G H2 ys zs ∧ RS X.K G S2 H2 ∧ TP H1 H2 ∧ (xs.length = n ∧ ys.length = ks.length ∧ ∀ a, S2 a = none → cs.mk_ f (perm.map (PArg.pick (.ref a :: (xs ++ ys)))) (put S2 a (.ins c [])) (fun w S3 => w = .non ∧ Q0 (.ref a) S3) E0)) I1
      ⟨σw, S1, _, E0, rσ.mono tp1, rs1, q1, fun ys S2 q2 zs H2 r2 rs2 tp2 => ⟨ys, S2, r2, rs2, tp2, q2⟩, fun e S' h => (he e S' h).mono tp1⟩) fun ws s2 ⟨zs, H2, I2, rz, ys, S2, r3, rs2, tp2, l1, l2, q2⟩ => ⟨I2.kIn, ?_⟩
    rw [k2]
    have tp12 := tp1.trans tp2
    exact run_makeW tk M F hr hb hl hp I2 r1 rz (r2.length.symm.trans l1) (r3.length.symm.trans l2) ((r2.mono tp2).append r3) rs2 q2 (fun w S' h => (hq w S' h).mono tp12) (fun e S' h => (he e S' h).mono tp12)
  refine wpAny_Call_Name_kw (ld_glob I hg hm ?_ hdb)
  cases es with
  | nil =>
    have e0 := h0 rfl
    subst e0
    refine PySem.W.callWith_KW0 (h₀ := X.base) I.ok.mod.kin M.kp k1 ?_ (by show (false || _) = false; rw [k3]; rfl)
    exact core I .nil .nil rs .refl q
  | cons a es =>
    have hs1 := hs
    rw [List.all_cons, Bool.and_eq_true] at hs1
    refine PySem.W.callWith_KW (h₀ := X.base) I.ok.mod.kin M.kp k1 ?_ (by rw [k3, star_any hs]; rfl) (star_cons hs1.1)
    refine thn (ha.run pos pins s σ H (fun vs H1 => ∃ xs S1, RWs X.K G H1 xs vs ∧ RS X.K G S1 H1 ∧ TP H H1 ∧ u σw S1 (fun ys S2 => xs.length = n ∧ ys.length = ks.length ∧ ∀ a, S2 a = none → cs.mk_ f (perm.map (PArg.pick (.ref a :: (xs ++ ys)))) (put S2 a (.ins c [])) (fun w S3 => w = .non ∧ Q0 (.ref a) S3) E0) E0) I
      ⟨σw, S, _, E0, rσ, rs, q, fun xs S1 q1 vs H1 r1 rs1 tp1 => ⟨xs, S1, r1, rs1, tp1, q1⟩, he⟩) fun us s1 ⟨vs, H1, I1, r, xs, S1, r1, rs1, tp1, q1⟩ => ?_
    exact core I1 r r1 rs1 tp1 q1
/-- a method's call, as it is read -/
theorem mcall_eq {env : Env} {args : List Expr} (hbase : attributeBase o nm env (eval o env) = eval o env) (hform : methodCallForm (args.length + kws.length) (backTo pos (starEach args env)) (backToKw pos (keywordEach kws env)) = true) (hline : (apos.endLine == pos.line) = true) :
    eval (.Call (.Attribute o nm apos) args kws pos) env = (do
      let ov ← eval o env
      standAt apos.atName
      let (f, first) ← holding [ov] (getMethod ov nm (do return (← importBound o env).getD true))
      callWith pos f first (backTo pos (starEach args env)) (backToKw pos (keywordEach kws env))) := by
  have hpos : methodCallPos true o env apos pos = pure pos := by unfold methodCallPos; simp [hline]
  rw [arm_eval_Call, hbase]
  unfold methodCall calleeOf
  rw [hform]
  simp only [hpos, if_true, pure_bind]
/-- o.m(..) -/
theorem ew_meth {tb : List (Nat × (Nat × List PArg))} (tk : Takes X Wx) (C : ∀ p ∈ tb, MethOk X G cs nm n ks p) (ho : PEw X G Wx o to) (ha : PAw X G Wx es t) (hk : PKw X G Wx kws u) (h0 : es = [] → t = nilA) (hs : es.all noStar = true) (hks : kws.map (·.arg) = ks.map some)
    (hbase : attributeBase o nm X.env (eval o X.env) = eval o X.env) (hline : (apos.endLine == pos.line) = true) (hfew : es.length + kws.length + 1 < 30) :
    PEw X G Wx (.Call (.Attribute o nm apos) es kws pos) (methN cs tb nm n ks.length to t u) := by
  refine ⟨fun pins s σ H Q I h => ?_⟩
  obtain ⟨σw, S, Q0, E0, rσ, rs, q, hq, he⟩ := h
  obtain ⟨k1, k2, k3⟩ := kw_facts (env := X.env) (pos := pos) hks
  have hform : methodCallForm (es.length + kws.length) (backTo pos (starEach es X.env)) (backToKw pos (keywordEach kws X.env)) = true := by
    have h1 : (backTo pos (starEach es X.env)).all (fun x => !x.1) = true := by
      have q := star_any (env := X.env) (pos := pos) hs
      rw [List.all_eq_not_any_not, ← Bool.not_false]
      congr 1
      rw [← q]
      congr 1
      funext x
      simp
    unfold methodCallForm
    rw [h1, k1]
    show (true && true && decide _) = true
    rw [Bool.true_and, Bool.true_and, decide_eq_true_eq]
    split <;> omega
  refine PySem.W.methodCall_KW (thn (ho.run pins s σ H (fun v H1 => ∃ ow S1, RW X.K G H1 ow v ∧ RS X.K G S1 H1 ∧ TP H H1 ∧ (match ow with
    | .ref a => (match S1 a with
      | some (.ins c fs) => fs.lookup nm = none ∧ (match tb.lookup c with
        | some p => t σw S1 (fun xs S2 => u σw S2 (fun ys S3 => xs.length = n ∧ ys.length = ks.length ∧ cs.call p.1 (p.2.map (PArg.pick (.ref a :: (xs ++ ys)))) S3 Q0 E0) E0) E0
        | none => False)
      | _ => False)
    | _ => False)) I ⟨σw, S, _, E0, rσ, rs, q, fun x S1 q1 v1 H1 r1 rs1 tp1 => ⟨x, S1, r1, rs1, tp1, q1⟩, he⟩) fun uo s1 ⟨v, H1, I1, rv, ow, S1, r1, rs1, tp1, q1⟩ => ?_) (mcall_eq hbase hform hline)
  cases ow with
  | ref a =>
    simp only at q1
    split at q1
    · rename_i c fs ec
      obtain ⟨q0, q1⟩ := q1
      split at q1
      · rename_i p ep
        obtain ⟨fa, fd, ps, k, g, gV, Cc, Mm, F, hr, hb, hl, hp⟩ := (C (c, p) (lookup_in ep)).ex
        rw [rw_ref] at r1
        subst r1
        obtain rfl : uo = Value.ref a := rv
        obtain ⟨u0, hu, dx, gs, rfl, rk⟩ := rs1 _ _ ec
        refine getmeth_ok I1 hu Cc Mm ((RKV.lookup (k := nm) rk).2 q0) ?_
        have core : ∀ {us : List Value} {vs : List V} {xs : List W} {S2 : Store} {H2 : Hp} {s2 : Shared}, L2.Inv X pins σ H2 s2 → Vals vs us → RWs X.K G H2 xs vs → RS X.K G S2 H2 → TP H H2 →
            u σw S2 (fun ys S3 => xs.length = n ∧ ys.length = ks.length ∧ cs.call p.1 (p.2.map (PArg.pick (.ref a :: (xs ++ ys)))) S3 Q0 E0) E0 →
            wpAny (model X.prog X.w) X.A (evalAll ((backToKw pos (keywordEach kws X.env)).map (·.2))) (fun ws s₂ => X.K.In s₂.heap ∧ wpAny (model X.prog X.w) X.A (PySem.call (.ref fa) ([Value.ref a] ++ us) (((backToKw pos (keywordEach kws X.env)).filterMap (·.1)).zip ws)) (EP X pins σ Q) X.xe s₂) X.xe s2 := by
          intro us vs xs S2 H2 s2 I2 r1 r2 rs2 tp2 q2
          refine thn (hk.run pos pins s2 σ H2 (fun zs H3 => ∃ ys S3, RWs X.K G H3 ys zs ∧ RS X.K G S3 H3 ∧ TP H2 H3 ∧ (xs.length = n ∧ ys.length = ks.length ∧ cs.call p.1 (p.2.map (PArg.pick (.ref a :: (xs ++ ys)))) S3 Q0 E0)) I2
            ⟨σw, S2, _, E0, rσ.mono tp2, rs2, q2, fun ys S3 q3 zs H3 r3 rs3 tp3 => ⟨ys, S3, r3, rs3, tp3, q3⟩, fun e S' h => (he e S' h).mono tp2⟩) fun ws s3 ⟨zs, H3, I3, rz, ys, S3, r3, rs3, tp3, l1, l2, q3⟩ => ⟨I3.kIn, ?_⟩
          rw [k2]
          have tp23 := tp2.trans tp3
          exact run_W (n := n + 1) tk F (hr.mono (Nat.le_add_right _ _)) hb hl hp I3 (vs := V.ref a :: vs) (us := Value.ref a :: us) (.cons rfl r1) rz (by rw [List.length_cons, r2.length.symm.trans l1]) (r3.length.symm.trans l2) (.cons (rw_ref.mpr rfl) ((r2.mono tp3).append r3)) rs3 q3 (fun w S' h => (hq w S' h).mono tp23) (fun e S' h => (he e S' h).mono tp23)
        cases es with
        | nil =>
          have e0 := h0 rfl
          subst e0
          refine PySem.W.callWith_KW0 (first := [.ref a]) (h₀ := X.base) I.ok.mod.kin Mm.kp k1 ?_ (by show (false || _) = false; rw [k3]; rfl)
          exact core (us := []) I1 .nil .nil rs1 tp1 q1
        | cons b es =>
          have hs1 := hs
          rw [List.all_cons, Bool.and_eq_true] at hs1
          refine PySem.W.callWith_KW (first := [.ref a]) (h₀ := X.base) I.ok.mod.kin Mm.kp k1 ?_ (by rw [k3, star_any hs]; rfl) (star_cons hs1.1)
          refine thn (ha.run pos pins s1 σ H1 (fun vs H2 => ∃ xs S2, RWs X.K G H2 xs vs ∧ RS X.K G S2 H2 ∧ TP H1 H2 ∧ u σw S2 (fun ys S3 => xs.length = n ∧ ys.length = ks.length ∧ cs.call p.1 (p.2.map (PArg.pick (.ref a :: (xs ++ ys)))) S3 Q0 E0) E0) I1
            ⟨σw, S1, _, E0, rσ.mono tp1, rs1, q1, fun xs S2 q2 vs H2 r2 rs2 tp2 => ⟨xs, S2, r2, rs2, tp2, q2⟩, fun e S' h => (he e S' h).mono tp1⟩) fun us s2 ⟨vs, H2, I2, r, xs, S2, r2, rs2, tp2, q2⟩ => ?_
          exact core I2 r r2 rs2 (tp1.trans tp2) q2
      · exact q1.elim
    · exact q1.elim
  | _ => exact q1.elim
/-- o.f = e, o an instance of one of these classes -/
def fstS (cls : List Nat) (f : Str) (to te : Tw) : TwS := fun D σ S => te σ S (fun v S1 => to σ S1 (fun o S2 => match o with
  | .ref a => (match S2 a with
    | some (.ins c fs) => cls.contains c = true ∧ fs.length ≤ 60 ∧ D.nx σ (put S2 a (.ins c (putFW f v fs)))
    | _ => False)
  | _ => False) (fun e S' => D.ex e σ S')) (fun e S' => D.ex e σ S')
/-- o.f, o an instance of one of these classes -/
def fldC (cls : List Nat) (f : Str) (t : Tw) : Tw := fun σ S Q E => t σ S (fun x S1 => match x with
  | .ref a => (match S1 a with
    | some (.ins c fs) => cls.contains c = true ∧ (match fs.lookup f with
      | some v => Q v S1
      | none => False)
    | _ => False)
  | _ => False) E
theorem ew_fldC {cls : List Nat} (hf : ∀ c, cls.contains c = true → Cls X.K (G.cad c) ∧ NoAttr X.K (G.cad c) nm) (ho : PEw X G Wx o to) (hb : attributeBase o nm X.env (eval o X.env) = eval o X.env) : PEw X G Wx (.Attribute o nm pos) (fldC cls nm to) := by
  refine PE.imp (pe_fld ho hb) fun σ H Q q => ?_
  obtain ⟨σw, S, Q0, E0, rσ, rs, q, hq, he⟩ := q
  refine ⟨σw, S, _, E0, rσ, rs, q, fun x S1 q1 v1 H1 r1 rs1 tp1 => ?_, he⟩
  cases x with
  | ref ad =>
    rw [rw_ref] at r1
    simp only at q1
    split at q1
    · rename_i c fs e
      obtain ⟨q0, q1⟩ := q1
      split at q1
      · rename_i v ev
        obtain ⟨u, hu, dx, gs, rfl, rk⟩ := rs1 _ _ e
        obtain ⟨v2, e2, r2⟩ := (RKV.lookup (k := nm) rk).1 v ev
        obtain ⟨c1, c2⟩ := hf c q0
        exact ⟨ad, _, dx, gs, v2, r1, hu, c1, c2, e2, (hq _ _ q1) _ _ r2 rs1 tp1⟩
      · exact q1.elim
    · exact q1.elim
  | _ => exact q1.elim
theorem RKV.putF {K : PySem.W.Frag} {H : Hp} {w : W} {v : V} (r : RW K G H w v) : ∀ {fs : List (Str × W)} {gs : List (Str × V)}, RKV K G H fs gs → RKV K G H (putFW nm w fs) (L2.putF nm v gs)
  | [], gs, h => by
    cases h
    exact ⟨v, [], rfl, r, rfl⟩
  | (g, x) :: fs, gs, h => by
    obtain ⟨v', l', rfl, a, q⟩ := h
    unfold putFW L2.putF
    by_cases e : g = nm
    · rw [if_pos e, if_pos e]
      exact ⟨v, l', rfl, r, q⟩
    · rw [if_neg e, if_neg e]
      exact ⟨v', _, rfl, a, RKV.putF r q⟩
theorem sw_fst {cls : List Nat} {p' : Pos} (hf : ∀ c, cls.contains c = true → Cls X.K (G.cad c) ∧ NoAttr X.K (G.cad c) nm) (ho : PEw X G Wx o to) (he : PEw X G Wx e te) (hs : swapsWith e (some (.Attribute o nm p')) pos.line X.env = pure false) :
    PSw X G Wx (.Assign [.Attribute o nm p'] e pos) (fstS cls nm to te) := by
  refine PS.imp (ps_fld ho he hs) fun D σ H h => ?_
  obtain ⟨σw, S, D0, rσ, rs, q, l⟩ := h
  refine ⟨σw, S, _, _, rσ, rs, q, fun w S1 q1 v1 H1 r1 rs1 tp1 => ?_, l.lx rσ⟩
  refine ⟨σw, S1, _, _, rσ.mono tp1, rs1, q1, fun a S2 q2 v2 H2 r2 rs2 tp2 => ?_, (l.mono tp1).lx (rσ.mono tp1)⟩
  have tp12 := tp1.trans tp2
  cases a with
  | ref ad =>
    rw [rw_ref] at r2
    simp only at q2
    split at q2
    · rename_i c fs ec
      obtain ⟨q0, ql, q2⟩ := q2
      obtain ⟨u, hu, dx, gs, rfl, rk⟩ := rs2 _ _ ec
      obtain ⟨c1, c2⟩ := hf c q0
      have ro : RO X.K G H2 (.ins c (putFW nm w fs)) (.ins (G.cad c) dx (L2.putF nm v1 gs)) := ⟨dx, _, rfl, RKV.putF (r1.mono tp2) rk⟩
      obtain ⟨rs3, tp3⟩ := rs2.wr ec hu ro
      exact ⟨ad, _, dx, gs, r2, hu, c1, c2, by rw [← rk.length]; omega, l.nx _ _ q2 _ _ (rσ.mono (tp12.trans tp3)) rs3 (tp12.trans tp3)⟩
    · exact q2.elim
  | _ => exact q2.elim
end
end MP
set_option Elab.async false
set_option linter.all false
set_option maxRecDepth 100000
set_option maxHeartbeats 4000000
namespace MP
open PySem PySem.Spec PyProof.Rows L2
/-! ### x += e, o.f += e -/
def opI (op : Operator) (a b : Int) : Option Int := match op with
  | .Add => some (a + b)
  | .Sub => some (a - b)
  | _ => none
def augS (i : Nat) (op : Operator) (te : Tw) : TwS := fun D σ S => match σ[i]? with
  | some (some (.int a)) => te σ S (fun y S1 => match y with
    | .int b => (match opI op a b with
      | some c => D.nx (σ.set i (some (.int c))) S1
      | none => False)
    | _ => False) (fun e S' => D.ex e σ S')
  | _ => False
def fauS (cls : List Nat) (f : Str) (op : Operator) (to te : Tw) : TwS := fun D σ S => to σ S (fun o S1 => match o with
  | .ref a => (match S1 a with
    | some (.ins c fs) => cls.contains c = true ∧ (match fs.lookup f with
      | some (.int i) => te σ S1 (fun y S2 => match y with
        | .int j => (match opI op i j with
          | some k => (match S2 a with
            | some (.ins c2 fs2) => c2 = c ∧ fs2.length ≤ 60 ∧ D.nx σ (put S2 a (.ins c (putFW f (.int k) fs2)))
            | _ => False)
          | none => False)
        | _ => False) (fun e S' => D.ex e σ S')
      | _ => False)
    | _ => False)
  | _ => False) (fun e S' => D.ex e σ S')
section
variable {X : Cx} {G : Wd} {Wx : WX} {e o : Expr} {to te : Tw} {pos : Pos} {x nm : Str} {op : Operator}
theorem sw_aug {i : Nat} {p' : Pos} (hop : opI op 0 0 ≠ none) (hN : X.N.Nodup) (hi : X.N[i]? = some x) (hx : Loc X.env.scope x) (he : PEw X G Wx e te) (hf : X.fn x = true ∨ X.env.scope.names.lookup x = some .local) : PSw X G Wx (.AugAssign (.Name x p') op e pos) (augS i op te) := by
  have key : ∀ {f : Int → Int → Int}, PIp X op (ipI f) → (∀ a b, opI op a b = some (f a b)) → PSw X G Wx (.AugAssign (.Name x p') op e pos) (augS i op te) := fun {f} hp hf2 => by
    refine PS.imp (ps_aug hN hi hx he hp hf) fun D σ H h => ?_
    obtain ⟨σw, S, D0, rσ, rs, q, l⟩ := h
    unfold augS at q
    split at q
    · rename_i a ea
      obtain ⟨v, ev, rv⟩ := rσ.2 i _ ea
      rw [rw_int] at rv
      subst rv
      refine ⟨_, ev, σw, S, _, _, rσ, rs, q, fun w S1 q1 v1 H1 r1 rs1 tp1 => ?_, l.lx rσ⟩
      cases w <;> first | exact q1.elim | skip
      simp only [hf2] at q1
      rw [rw_int] at r1
      exact ⟨_, _, rfl, r1, l.nx _ _ q1 _ _ ((rσ.mono tp1).set i (rw_int.mpr rfl)) rs1 tp1⟩
    · exact q.elim
  cases op with
  | Add => exact key ip_add fun _ _ => rfl
  | Sub => exact key ip_sub fun _ _ => rfl
  | _ => exact absurd rfl hop
theorem sw_fau {cls : List Nat} {tp : Pos} (hop : opI op 0 0 ≠ none) (hf : ∀ c, cls.contains c = true → Cls X.K (G.cad c) ∧ NoAttr X.K (G.cad c) nm) (ho : PEw X G Wx o to) (he : PEw X G Wx e te) : PSw X G Wx (.AugAssign (.Attribute o nm tp) op e pos) (fauS cls nm op to te) := by
  have key : ∀ {f : Int → Int → Int}, InOp X op (fun x y H Q => ∃ i j, x = .int i ∧ y = .int j ∧ Q (.int (f i j)) H) → (∀ a b, opI op a b = some (f a b)) → PSw X G Wx (.AugAssign (.Attribute o nm tp) op e pos) (fauS cls nm op to te) := fun {f} hp hf2 => by
    refine PS.imp (ps_fldaug ho he hp) fun D σ H h => ?_
    obtain ⟨σw, S, D0, rσ, rs, q, l⟩ := h
    refine ⟨σw, S, _, _, rσ, rs, q, fun w S1 q1 v1 H1 r1 rs1 tp1 => ?_, l.lx rσ⟩
    cases w with
    | ref ad =>
      rw [rw_ref] at r1
      simp only at q1
      split at q1
      · rename_i c fs ec
        obtain ⟨q0, q1⟩ := q1
        split at q1
        · rename_i i ei
          obtain ⟨u, hu, dx, gs, rfl, rk⟩ := rs1 _ _ ec
          obtain ⟨v2, e2, r2⟩ := (RKV.lookup (k := nm) rk).1 _ ei
          rw [rw_int] at r2
          subst r2
          obtain ⟨c1, c2⟩ := hf c q0
          refine ⟨ad, _, dx, gs, _, r1, hu, c1, c2, e2, σw, S1, _, _, rσ.mono tp1, rs1, q1, fun w2 S2 q2 v3 H2 r3 rs2 tp2 => ?_, (l.mono tp1).lx (rσ.mono tp1)⟩
          cases w2 <;> first | exact q2.elim | skip
          rename_i j
          simp only [hf2] at q2
          rw [rw_int] at r3
          split at q2
          · rename_i c3 fs2 ec2
            obtain ⟨rfl, ql, q2⟩ := q2
            obtain ⟨u2, hu2, dx2, gs2, rfl, rk2⟩ := rs2 _ _ ec2
            have tp12 := tp1.trans tp2
            have ro : RO X.K G H2 (.ins c3 (putFW nm (.int (f i j)) fs2)) (.ins (G.cad c3) dx2 (L2.putF nm (.int (f i j)) gs2)) := ⟨dx2, _, rfl, RKV.putF (rw_int.mpr rfl) rk2⟩
            obtain ⟨rs3, tp3⟩ := rs2.wr ec2 hu2 ro
            exact ⟨_, _, rfl, r3, dx2, gs2, hu2, by rw [← rk2.length]; omega, l.nx _ _ q2 _ _ (rσ.mono (tp12.trans tp3)) rs3 (tp12.trans tp3)⟩
          · exact q2.elim
        · exact q1.elim
      · exact q1.elim
    | _ => exact q1.elim
  cases op with
  | Add => exact key in_add fun _ _ => rfl
  | Sub => exact key in_sub fun _ _ => rfl
  | _ => exact absurd rfl hop
end
end MP
set_option Elab.async false
set_option linter.all false
set_option maxRecDepth 100000
set_option maxHeartbeats 4000000
namespace PySem.W
open PySem PySem.Calls PyProof.Rows Builtin
section
variable {prog : Program} {w : World} {A : Around} {E : Value → Shared → Prop} {s : Shared} {K : Frag} {x C L f : Addr} {h₀ : Heap} {m : Str → Option Value} {ox : Obj} {od : Option Obj}
/-- the truth of an instance by its own __len__ -/
theorem truthy_len {Q : Bool → Shared → Prop} (F : Fr h₀ L s.heap m) (X₀ : K.In h₀) (I : InstAt s.heap x ox C od) (hb : findIn K (.ref C) "__bool__" = some none) (hs : findIn K (.ref C) "__len__" = some (some (.ref f))) (hf : isFn K (.ref f) = true)
    (h : wpAny (model prog w) A.in1 (call (.ref f) [.ref x]) (fun v s' => match v with
      | .int n _ => (0 ≤ n ∧ n < 2 ^ 63) ∧ Q (n != 0) { s' with toks := s'.toks + 1 }
      | _ => False) E s) : wpAny (model prog w) A (truthy (.ref x)) Q E s := by
  have X := X₀.keeps F.keep
  have key : wpAny (model prog w) A (runValue (.builtin "len" ⟨[.ref x], []⟩)) (fun r s' => ∃ n t, r = .int n t ∧ Q (n != 0) s') E s := by
    refine wpAny_runValue (codeAny_builtin entry_len ?_)
    rw [Around.under_plainId plain_len _]
    have body : wpAny (model prog w) A.in1 (Builtin.«len» ⟨[.ref x], []⟩) (fun fin s' => ∃ r, fin = .done (.ret r) ∧ ∃ n t, r = .int n t ∧ Q (n != 0) s') E s := by
      unfold Builtin.«len»
      refine wpAny_bind (m := oneArg "len" _) (wpAny_pure ?_)
      refine wpAny_bind (m := callSpecial? (.ref x) (Str.ofString "__len__")) (special_fn X I hs (beq_iff_eq.mp hf) (wpAny_mono h (fun r s' hr => ?_) fun _ _ y => y))
      cases r <;> first | exact hr.elim | skip
      rename_i n u
      obtain ⟨⟨h0, h1⟩, hq⟩ := hr
      refine wpAny_bind (wpAny_holding (wpAny_pure ?_))
      refine wpAny_bind (wpAny_letGo ?_)
      show wpAny _ _ (if n < 0 then _ else _) _ _ _
      rw [if_neg (by omega)]
      show wpAny _ _ (if n ≥ 2 ^ 63 then _ else _) _ _ _
      rw [if_neg (by omega)]
      exact wpAny_bind (wpAny_mkInt (wpAny_pure ⟨_, rfl, _, _, rfl, hq⟩))
    exact wpAny_mono body (fun fin s' h' => by obtain ⟨r, rfl, hq⟩ := h'; exact hq) fun _ _ e => e
  unfold truthy
  refine wpAny_bind (m := callSpecial? (.ref x) (Str.ofString "__bool__")) (wpAny_bind (wpAny_bind (I.type.here ((looks_findIn X hb).here (wpAny_pure ?_)))))
  refine wpAny_bind (wpAny_bind (I.type.here ((looks_findIn X hs).here ?_)))
  exact wpAny_bind (wpAny_mono key (fun r s' h' => by obtain ⟨n, t, rfl, hq⟩ := h'; exact wpAny_pure hq) fun _ _ e => e)
/-- bool(x), x an instance -/
theorem bool_own (x : Addr) : MeetsIn prog w (Builtin.«bool.__new__» ⟨[.type "bool", .ref x], []⟩) (fun A R s => wpAny (model prog w) A.in1 (truthy (.ref x)) (fun b s' => R (.ok (.ret (.bool b))) s') (fun e s' => R (.error e) s') s) :=
  .of_wp fun A R s h => by
    have f1 := F.conv_sub_bool
    have key : ∀ {Q : Bool → Shared → Prop} {E : Value → Shared → Prop}, (∀ b s', R (.ok (.ret (.bool b))) s' → Q b s') → (∀ e s', R (.error e) s' → E e s') → wpAny (model prog w) A.in1 (truthy (.ref x)) Q E s := fun hq he => wpAny_mono h hq he
    obtain ⟨hp, g, d, tk, os⟩ := s
    repeat (any_goals (first | assumption | (with_reducible refine key (fun b s' h' => ?_) (fun e s' h' => ?_)) | wp_step))
    all_goals first | exact ⟨_, rfl, h'⟩ | exact h' | skip
theorem call_boolI {x : Addr} {Q : Value → Shared → Prop} (h : wpAny (model prog w) A.in1.in1 (truthy (.ref x)) (fun b s' => Q (.bool b) s') E s) : wpAny (model prog w) A (call (.type "bool") [.ref x]) Q E s :=
  callType_newIn F.called_bool F.newNe_bool (F.typeCall_bool_1 _) (F.newCall_bool_1 _) (fun obj => F.args_object_init_2 obj _) F.entry_bool_new (bool_own x)
    (wpAny_mono h (fun b s' q => ⟨rfl, q⟩) fun _ _ z => z)
end
end PySem.W
namespace MP
open PySem PySem.Spec PyProof.Rows L2
/-! ### len and bool of an instance, by its own __len__ -/
def isLen (Q : WP) : WP := fun v S => match v with
  | .int n => (0 ≤ n ∧ n < 2 ^ 63) ∧ Q (.int n) S
  | _ => False
def ownLen (cs : Sem) (tb : List (Nat × (Nat × List PArg))) (a : Addr) (c : Nat) (S : Store) (Q : WP) : Prop := match tb.lookup c with
  | some p => cs.call p.1 (p.2.map (PArg.pick [.ref a])) S (isLen Q) noX
  | none => False
def lenO (cs : Sem) (tb : List (Nat × (Nat × List PArg))) (as : List W) (S : Store) (Q : WP) : Prop := match as with
  | [.ref a] => (match S a with
    | some (.ins c _) => ownLen cs tb a c S Q
    | _ => lenW [.ref a] S Q)
  | as => lenW as S Q
def boolO (cs : Sem) (tb : List (Nat × (Nat × List PArg))) (cls : List Nat) (as : List W) (S : Store) (Q : WP) : Prop := match as with
  | [.ref a] => (match S a with
    | some (.ins c _) => cls.contains c = true ∧ ownLen cs tb a c S (fun v S' => match v with
      | .int n => Q (.bl (n != 0)) S'
      | _ => False)
    | _ => False)
  | as => boolW as S Q
section
variable {X : Cx} {G : Wd} {Wx : WX} {cs : Sem} {tb : List (Nat × (Nat × List PArg))}
theorem own_len {P : Prop} {A : Around} (tk : Takes X Wx) (C : ∀ p ∈ tb, MethOk X G cs "__len__" 0 [] p) (hr : ∀ k, RoomG (k + 3) X.A → RoomG k A) (hfr : A.frames = X.A.frames) {pins : List (Addr × Obj)} {s : Shared} {σ : L2.St} {H : Hp} {Q : VK} {a dx : Addr} {c : Nat} {gs : List (Str × V)} {S : Store} {Q0 : WP}
    (I : L2.Inv X pins σ H s) (hu : H a = some (.ins (G.cad c) dx gs)) (rs : RS X.K G S H) (h : ownLen cs tb a c S Q0) (hq : ∀ w S', Q0 w S' → Lf X.K G H Q w S')
    (go : ∀ (fa : Addr), Meth X.K (G.cad c) "__len__" fa → wpAny (model X.prog X.w) A (PySem.call (.ref fa) [.ref a]) (fun v s' => match v with
      | .int n _ => (0 ≤ n ∧ n < 2 ^ 63) ∧ EP X pins σ Q (.int n s'.toks) { s' with toks := s'.toks + 1 }
      | _ => False) X.xe s → P) : P := by
  unfold ownLen at h
  split at h
  · rename_i p ep
    obtain ⟨fa, fd, ps, k, g, gV, Cc, Mm, F, hrm, hb, hl, hp⟩ := (C (c, p) (lookup_in ep)).ex
    refine go fa Mm ?_
    have e0 : Env0 X.prog X.w X.K X.mg X.base A X.stack s H := by
      have e := I.env0
      exact ⟨by rw [hfr]; exact e.frames, e.mod, e.bs, e.bsz, e.funs, e.frf, e.hok, e.bare⟩
    have r1 : Vals [V.ref a] [Value.ref a] := .cons rfl .nil
    have r2 := hb.rel r1 .nil
    have hsp : spOf X.K G ps.length (cs.call p.1) (gV [V.ref a] []) H (fun v H' => ∃ n, v = .int n ∧ (0 ≤ n ∧ n < 2 ^ 63) ∧ Q (.int n) H') (fun _ _ _ => False) :=
      ⟨hl _ _ rfl rfl, _, S, _, _, hp H [.ref a] _ _ rfl rfl (.cons (rw_ref.mpr rfl) .nil), rs, h, fun w S' q v H' rv rs' tp' => by
        cases w <;> first | exact q.elim | skip
        rename_i n
        exact ⟨n, rw_int.mp rv, q.1, (hq _ _ q.2) _ _ (rw_int.mpr rfl) rs' tp'⟩, fun e S' q => q.elim⟩
    refine wpAny_call (codeAny_mono (F.run A X.stack s H ⟨[.ref a], []⟩ (g [.ref a] []) (gV [.ref a] []) _ _ (hr k hrm) e0 (by
      have := hb.to s [.ref a] [] I.kIn rfl rfl
      simpa using this) r2 hsp) fun r s' hq' => ?_)
    cases r with
    | error e => exact tk _ _ (XE.of_call (W := Wx) I (fun cls d H' z => z.elim) hq')
    | ok fl =>
      cases fl with
      | ret u =>
        obtain ⟨v, H', I3, rv, n, rfl, hn, q3⟩ := I.after hq'
        obtain ⟨t, rfl⟩ : ∃ t, u = .int n t := rv
        exact ⟨hn, .int n, H', I3.tok _, ⟨_, rfl⟩, q3⟩
      | next => exact False.elim hq'
      | brk => exact False.elim hq'
      | cont => exact False.elim hq'
  · exact h.elim
theorem cr_lenO (tk : Takes X Wx) (C : ∀ p ∈ tb, MethOk X G cs "__len__" 0 [] p) : CallR X (.builtin "len") (liftC X.K G (lenO cs tb)) := by
  intro pins s σ H vs us Q I r h
  obtain ⟨ws, S, Q0, rw, rs, q, hq⟩ := h
  have gen : lenW ws S Q0 → wpAny (model X.prog X.w) X.A (PySem.call (.builtin "len") us) (EP X pins σ Q) X.xe s := fun q => cr_lenW pins s σ H vs us Q I r ⟨ws, S, Q0, rw, rs, q, hq⟩
  unfold lenO at q
  split at q
  · rename_i a
    split at q
    · rename_i c fs ec
      obtain ⟨v, rfl, rv⟩ := rws1 rw
      rw [rw_ref] at rv
      subst rv
      obtain ⟨u, rfl, ru⟩ := vals1 r
      obtain rfl : u = Value.ref a := ru
      obtain ⟨u0, hu, dx, gs, rfl, rk⟩ := rs _ _ ec
      obtain ⟨mA, O, _, _, _, _⟩ := ins_get I.hok hu
      obtain ⟨od, J, _⟩ := O.look
      obtain ⟨m, hF⟩ := I.fr
      exact own_len (A := X.A.in1) tk C (fun k hr => (hr.in1).mono (Nat.le_add_right k 2)) rfl I hu rs q hq fun fa Mm h => PySem.W.len_K hF I.ok.mod.kin J Mm.at_ Mm.fn (wpAny_mono h (fun v s' z => by cases v <;> first | exact z.elim | exact z) fun _ _ z => z)
    · exact gen q
  · exact gen q
theorem cr_boolO {cls : List Nat} (tk : Takes X Wx) (C : ∀ p ∈ tb, MethOk X G cs "__len__" 0 [] p) (hc : ∀ c, cls.contains c = true → Cls X.K (G.cad c) ∧ NoAttr X.K (G.cad c) "__bool__") : CallR X (.type "bool") (liftC X.K G (boolO cs tb cls)) := by
  intro pins s σ H vs us Q I r h
  obtain ⟨ws, S, Q0, rw, rs, q, hq⟩ := h
  unfold boolO at q
  split at q
  · rename_i a
    split at q
    · rename_i c fs ec
      obtain ⟨v, rfl, rv⟩ := rws1 rw
      rw [rw_ref] at rv
      subst rv
      obtain ⟨u, rfl, ru⟩ := vals1 r
      obtain rfl : u = Value.ref a := ru
      obtain ⟨u0, hu, dx, gs, rfl, rk⟩ := rs _ _ ec
      obtain ⟨mA, O, _, _, _, _⟩ := ins_get I.hok hu
      obtain ⟨od, J, _⟩ := O.look
      obtain ⟨m, hF⟩ := I.fr
      refine own_len (Q := fun v H' => ∃ n, v = .int n ∧ Q (.bl (n != 0)) H') (A := X.A.in1.in1.in1) tk C (fun k hr => hr.in1.in1.in1) rfl I hu rs q.2 (fun w S' q v H' rv rs' tp' => by
        cases w <;> first | exact q.elim | skip
        rename_i n
        exact ⟨n, rw_int.mp rv, (hq _ _ q) _ _ (rw_bl.mpr rfl) rs' tp'⟩) fun fa Mm h => ?_
      refine PySem.W.call_boolI (PySem.W.truthy_len hF I.ok.mod.kin J (hc c q.1).2 Mm.at_ Mm.fn (wpAny_mono h (fun v s' z => ?_) fun _ _ z => z))
      cases v <;> first | exact z.elim | skip
      rename_i n t
      obtain ⟨hn, v2, H', I2, rv2, n2, rfl, q2⟩ := z
      obtain ⟨t2, e2⟩ : ∃ t2, Value.int n _ = Value.int n2 t2 := rv2
      cases e2
      exact ⟨hn, .bl (n != 0), H', I2, rfl, q2⟩
    · exact q.elim
  · exact cr_boolW pins s σ H vs us Q I r ⟨_, S, Q0, rw, rs, q, hq⟩
end
end MP
set_option Elab.async false
set_option linter.all false
set_option maxRecDepth 100000
set_option maxHeartbeats 4000000
namespace MP
open PySem PySem.Spec PyProof.Rows L2
/-! ### exceptions: raise, try, their fields -/
theorem RKV.zipR {K : PySem.W.Frag} {G : Wd} {H : Hp} : ∀ {ks : List Str} {ws : List W} {vs : List V}, RWs K G H ws vs → RKV K G H (ks.zip ws) (ks.zip vs)
  | [], ws, vs, r => by
    show [].zip vs = []
    rfl
  | k :: ks, [], vs, r => by
    rw [rws_nil] at r
    subst r
    show (k :: ks).zip [] = []
    rfl
  | k :: ks, w :: ws, vs, r => by
    obtain ⟨v, us, rfl, a, b⟩ := rws_cons.mp r
    exact ⟨v, ks.zip us, rfl, a, RKV.zipR b⟩
theorem RKV.app {K : PySem.W.Frag} {G : Wd} {H : Hp} : ∀ {l m : List (Str × W)} {g h : List (Str × V)}, RKV K G H l g → RKV K G H m h → RKV K G H (l ++ m) (g ++ h)
  | [], m, g, h, a, b => by
    cases a
    exact b
  | (k, w) :: l, m, g, h, a, b => by
    obtain ⟨v, l', rfl, c, q⟩ := a
    exact ⟨v, l' ++ h, rfl, c, RKV.app q b⟩
theorem RKV.rev {K : PySem.W.Frag} {G : Wd} {H : Hp} : ∀ {l : List (Str × W)} {g : List (Str × V)}, RKV K G H l g → RKV K G H l.reverse g.reverse
  | [], g, a => by
    cases a
    rfl
  | (k, w) :: l, g, a => by
    obtain ⟨v, l', rfl, c, q⟩ := a
    rw [List.reverse_cons, List.reverse_cons]
    exact (RKV.rev q).app ⟨v, [], rfl, c, rfl⟩
theorem RKV.unzip {K : PySem.W.Frag} {G : Wd} {H : Hp} : ∀ {l : List (Str × W)} {g : List (Str × V)}, RKV K G H l g → ∃ vs, g = (l.map (·.1)).zip vs ∧ RWs K G H (l.map (·.2)) vs
  | [], g, a => by
    cases a
    exact ⟨[], rfl, .nil⟩
  | (k, w) :: l, g, a => by
    obtain ⟨v, l', rfl, c, q⟩ := a
    obtain ⟨vs, rfl, r⟩ := RKV.unzip q
    exact ⟨v :: vs, rfl, .cons c r⟩
/-- how its own __init__ makes an exception -/
def exSp (C : Addr) (ks : List Str) : Sp := fun vs H Q _ => vs.length = ks.length + 1 ∧ ∃ (a : Addr) (ws : List V), vs = .ref a :: ws ∧ H a = some (exo a C none) ∧
  ∀ (d : Addr) (H' : Hp), d ≠ a → H d = none → H' a = some (exo a C (some d)) → H' d = some (exd d (ks.zip ws).reverse) → (∀ b, b ≠ a → b ≠ d → H' b = H b) → Q .non H'
structure ExOk (X : Cx) (G : Wd) (x : Str) (c : Nat) (ks : List Str) : Prop where
  ex : ∃ (fI : Addr) (fd : FuncData) (ps : List Str) (k : Nat), OexC X.K (G.cad c) ∧ PySem.W.findIn X.K (.ref (G.cad c)) "__init__" = some (some (.ref fI)) ∧ PySem.W.typeIn X.K (.ref fI) = some (.type "function") ∧
    FnOk X.prog X.w X.K X.mg X.base (L2.CX X.prog X.w) k fI fd ps (exSp (G.cad c) ks) ∧ Room (k + 1) X.A ∧ Binds X.K fd ps [] ∧ X.mg x = some (.ref (G.cad c)) ∧ 0 < ks.length ∧ ks.length ≤ 900
/-- raise X(..) -/
def raiseS (c : Nat) (ks : List Str) (u : TwA) : TwS := fun D σ S => u σ S (fun ws S1 => ws.length = ks.length ∧ D.ex ⟨c, (ks.zip ws).reverse⟩ σ S1) (fun e S' => D.ex e σ S')
section
variable {X : Cx} {G : Wd} {Wx : WX} {e : Expr} {es : List Expr} {u : TwA} {p pos : Pos} {x : Str} {c : Nat} {ks : List Str}
theorem passes_no {X : Cx} : Passes (L2.CX X.prog X.w) X (fun _ _ _ => False) := fun _ _ _ _ _ _ _ ⟨_, _, _, _, _, _, _, _, _, _, _, _, q⟩ => q.elim
theorem sw_raise (hc : X.calm = true) (tk : Takes X Wx) (K : ExOk X G x c ks) (hg : Gl X x) (hdb : (x == ("__debug__" : Str)) = false) (ha : PAw X G Wx (e :: es) u) (hs : (e :: es).all noStar = true) {rpos : Pos} :
    PSw X G Wx (.Raise (some (.Call (.Name x p) (e :: es) [] pos)) none rpos) (raiseS c ks u) := by
  obtain ⟨fI, fd, ps, k, T, iC, tI, F, hr, hb, hm, h0, h9⟩ := K.ex
  rw [List.all_cons, Bool.and_eq_true] at hs
  have mk := pmk_oex (p := p) (pos := pos) T iC tI F hr hb .nil passes_no hg hm ha hdb (star_cons hs.1) (star_any hs.2)
  refine PS.imp (ps_raise hc tk mk) fun D σ H h => ?_
  obtain ⟨σw, S, D0, rσ, rs, q, l⟩ := h
  refine ⟨σw, S, _, _, rσ, rs, q, fun ws S1 q1 vs H1 r1 rs1 tp1 => ?_, l.lx rσ⟩
  obtain ⟨hl, q1⟩ := q1
  have hlv : vs.length = ks.length := by rw [← r1.length]; exact hl
  refine ⟨by omega, fun a ha => ?_⟩
  refine ⟨by simp [hlv], a, vs, by simp, upd_same, fun d H' hne hd ea ed ho => ⟨rfl, d, _, ea, ed, ?_, ?_⟩⟩
  · rw [upd_ne hne] at hd
    exact hd
  · rw [upd_ne hne] at hd
    have tp : TP H1 (upd (del H' a) d (.xd (ks.zip vs).reverse)) := fun b u f e => by
      have hb1 : b ≠ d := ne_of_none e hd
      have hb2 : b ≠ a := ne_of_none e ha
      rw [upd_ne hb1, del_ne hb2, ho b hb2 hb1, upd_ne hb2]
      exact e
    have rs2 : RS X.K G S1 (upd (del H' a) d (.xd (ks.zip vs).reverse)) := fun b o e => by
      obtain ⟨v, e', r'⟩ := rs1 b o e
      have hb1 : b ≠ d := ne_of_none e' hd
      have hb2 : b ≠ a := ne_of_none e' ha
      refine ⟨v, ?_, r'.mono tp⟩
      rw [upd_ne hb1, del_ne hb2, ho b hb2 hb1, upd_ne hb2]
      exact e'
    exact l.lx rσ _ _ q1 d _ _ upd_same ((RKV.zipR r1).rev.mono tp) rs2 (tp1.trans tp)
end
/-! ### the own __init__ of an exception's class -/
inductive Stores (s : Str) : List Str → List Stmt → Prop where
  | nil : Stores s [] []
  | cons {f : Str} {ks : List Str} {sts : List Stmt} {p1 p2 p3 p4 : Pos} (r : Stores s ks sts) : Stores s (f :: ks) (.Assign [.Attribute (.Name s p1) f p2] (.Name f p3) p4 :: sts)
section
variable {X : Cx} {C : Addr} {N : List Str}
/-- the fields are stored, one after the other -/
theorem stores_ok {s : Str} {σ : L2.St} {a : Addr} (T : OexC X.K C) (h0 : X.N[0]? = some s) (v0 : σ[0]? = some (some (.ref a))) (vs0 : Vis X.env.scope s) (d0 : (s == ("__debug__" : Str)) = false ∧ (s == ("__classdict__" : Str)) = false) :
    ∀ {ks : List Str} {sts : List Stmt}, Stores s ks sts → ∀ (i : Nat) (fs : List (Str × V)) (ws : List V), ws.length = ks.length → fs.length + ks.length ≤ 900 → (∀ j f, ks[j]? = some f → X.N[i + j]? = some f ∧ Vis X.env.scope f ∧ ((f == ("__debug__" : Str)) = false ∧ (f == ("__classdict__" : Str)) = false) ∧ PySem.W.findIn X.K (.ref C) f = some none) →
    (∀ j v, ws[j]? = some v → σ[i + j]? = some (some v)) → ∃ t : TS, PSs X sts t ∧ ∀ (D : Ends) (H : Hp) (d : Addr), H a = some (exo a C (some d)) → H d = some (exd d fs) → d ≠ a →
      (∀ H', H' a = some (exo a C (some d)) → H' d = some (exd d ((ks.zip ws).reverse ++ fs)) → (∀ b, b ≠ a → b ≠ d → H' b = H b) → D.nx σ H') → t D σ H := by
  intro ks sts h
  induction h with
  | nil =>
    intro i fs ws hl hf hk hw
    exact ⟨_, pss_nil, fun D H d ea ed hne q => q H ea (by simpa using ed) fun _ _ _ => rfl⟩
  | @cons f ks sts p1 p2 p3 p4 r ih =>
    intro i fs ws hl hf hk hw
    match ws, hl with
    | w :: ws, hl =>
      obtain ⟨f1, f2, f3, f4⟩ := hk 0 f rfl
      have hl2 : ws.length = ks.length := by simpa using hl
      have hf2 : fs.length + (ks.length + 1) ≤ 900 := by simpa using hf
      obtain ⟨t, ht, q⟩ := ih (i + 1) ((f, w) :: fs) ws hl2 (by simp; omega) (fun j g e => by
        have := hk (j + 1) g (by simpa using e)
        rw [show i + 1 + j = i + (j + 1) by omega]
        exact this) fun j v e => by
        have := hw (j + 1) v (by simpa using e)
        rw [show i + 1 + j = i + (j + 1) by omega]
        exact this
      refine ⟨_, pss_cons (ps_ost (pe_var h0 vs0 d0.1 d0.2) (pe_var f1 f2 f3.1 f3.2) (by rfl)) ht, fun D H d ea ed hne q2 => ?_⟩
      refine ⟨w, by simpa using hw 0 w rfl, .ref a, v0, a, C, rfl, T, f4, .inr ⟨d, fs, ea, ed, by omega, ?_⟩⟩
      refine q D _ d ?_ upd_same hne fun H' ea' ed' ho => q2 H' ea' ?_ fun b hb1 hb2 => ?_
      · rw [upd_ne (Ne.symm hne)]
        exact ea
      · simpa using ed'
      · rw [ho b hb1 hb2, upd_ne hb2]
/-- the own __init__ of an exception's class keeps its promise -/
theorem exi_ok {P : Program} {w : World} {K : PySem.W.Frag} {mg : Str → Option Value} {base : Heap} {CX : CXT} {k : Nat} {x qual : Str} {params : Arguments} {scope : Scope} {dvs : List V} {kws : List (Str × V)} {f : Addr} {fd : FuncData} {s m : Str} {ks : List Str} {sts : List Stmt} {p1 p2 p3 p4 p5 p6 : Pos} {j : Nat} (hln : (p2.endLine == p5.line) = true)
    (F : FunD K x qual params (.Expr (.Call (.Attribute (.Name "ValueError" p1) "__init__" p2) [.Name s p3, .Constant (.str m) j p4] [] p5) p6 :: sts) scope dvs kws f fd) (S : FnScope (s :: ks) (s :: ks) scope) (T : OexC K C)
    (st : Stores s ks sts) (hg : scope.names.lookup ("ValueError" : Str) = some .globalImplicit) (hm : mg "ValueError" = none) (vV : PySem.W.findCls K (.type "ValueError") (.type "type") "__init__" = some (.val (.builtin "ValueError.__init__"))) (h0 : ks ≠ []) (h9 : ks.length ≤ 900)
    (hd : ∀ f ∈ s :: ks, (f == ("__debug__" : Str)) = false ∧ (f == ("__classdict__" : Str)) = false) (hno : ∀ f ∈ ks, PySem.W.findIn K (.ref C) f = some none) : FnOk P w K mg base CX (k + 1) f fd (s :: ks) (exSp C ks) := by
  refine F.ok S (fun vs H Q E q => by rw [q.1]; rfl) fun cdv A outer sh H vs Q E hr hsp => ?_
  obtain ⟨hl, a, ws, rfl, ea, hq⟩ := hsp
  have hlw : ws.length = ks.length := by simpa using hl
  obtain ⟨f1, ks', rfl⟩ : ∃ f1 ks', ks = f1 :: ks' := by
    cases ks with
    | nil => exact absurd rfl h0
    | cons a b => exact ⟨a, b, rfl⟩
  obtain ⟨w1, ws', rfl⟩ : ∃ w1 ws', ws = w1 :: ws' := by
    cases ws with
    | nil => cases hlw
    | cons a b => exact ⟨a, b, rfl⟩
  have vis : ∀ y ∈ s :: f1 :: ks', Vis scope y := fun y hy => by
    rcases S.par y hy with z | z
    · exact .inl z
    · exact .inr (.inl z)
  cases st with
  | @cons _ _ sts' q1 q2 q3 q4 r =>
    have stt : ∀ i v, (V.ref a :: w1 :: ws')[i]? = some v → (L2.start (s :: f1 :: ks') (V.ref a :: w1 :: ws'))[i]? = some (some v) := fun i v e => by
      unfold L2.start
      have hi := (List.getElem?_eq_some_iff.mp e).1
      rw [List.getElem?_append_left (by simpa using hi), List.getElem?_map, e]
      rfl
    obtain ⟨t, ht, q⟩ := stores_ok (X := cxOf CX P w K mg base (s :: f1 :: ks') qual scope f cdv A outer sh H E) (σ := L2.start (s :: f1 :: ks') (V.ref a :: w1 :: ws')) (a := a) T rfl (stt 0 _ rfl) (vis s (List.mem_cons_self ..)) (hd s (List.mem_cons_self ..)) r 2 [(f1, w1)] ws'
      (by simpa using hlw) (by simpa [Nat.add_comm] using h9) (fun j f e => ⟨by show (s :: f1 :: ks')[2 + j]? = some f; rw [Nat.add_comm]; simpa using e, vis f (List.mem_cons_of_mem _ (List.mem_cons_of_mem _ (List.mem_of_getElem? e))), hd f (List.mem_cons_of_mem _ (List.mem_cons_of_mem _ (List.mem_of_getElem? e))), hno f (List.mem_cons_of_mem _ (List.mem_of_getElem? e))⟩)
      fun j v e => stt (2 + j) v (by rw [Nat.add_comm]; simpa using e)
    have hs1 : starEach [Expr.Name s p3, .Constant (.str m) j p4] (envOfC qual scope sh.heap.objs.size f cdv) = (false, eval (.Name s p3) (envOfC qual scope sh.heap.objs.size f cdv)) :: starEach [Expr.Constant (.str m) j p4] (envOfC qual scope sh.heap.objs.size f cdv) := star_cons rfl
    have hc := mcall_eq (o := .Name "ValueError" p1) (nm := "__init__") (apos := p2) (kws := []) (pos := p5) (env := envOfC qual scope sh.heap.objs.size f cdv) (args := [.Name s p3, .Constant (.str m) j p4]) rfl rfl hln
    refine ⟨_, pss_cons (ps_expr (hs := rfl) (pe_veinit (hc := hc) (he := hs1) (hpl := star_any rfl) hg hm vV (pa_cons (pe_var (i := 0) rfl (vis s (List.mem_cons_self ..)) (hd s (List.mem_cons_self ..)).1 (hd s (List.mem_cons_self ..)).2) (pa_cons pe_str pa_nil (hs := rfl)) (hs := star_cons rfl)))) (pss_cons (ps_ost (hs := rfl) (pe_var (i := 0) rfl (vis s (List.mem_cons_self ..)) (hd s (List.mem_cons_self ..)).1 (hd s (List.mem_cons_self ..)).2)
      (pe_var (i := 1) rfl (vis f1 (List.mem_cons_of_mem _ (List.mem_cons_self ..))) (hd f1 (List.mem_cons_of_mem _ (List.mem_cons_self ..))).1 (hd f1 (List.mem_cons_of_mem _ (List.mem_cons_self ..))).2)) ht), ?_⟩
    refine ⟨.ref a, stt 0 _ rfl, a, C, [.str m], rfl, by simp, T, ea, ?_⟩
    refine ⟨w1, stt 1 _ rfl, .ref a, stt 0 _ rfl, a, C, rfl, T, hno f1 (List.mem_cons_self ..), .inl ⟨ea, fun dx hdx hne => ?_⟩⟩
    refine q _ _ dx upd_same (by rw [upd_ne hne, upd_same]) hne fun H' ea' ed' ho => hq dx H' hne hdx ea' ?_ fun b hb1 hb2 => ?_
    · rw [List.zip_cons_cons, List.reverse_cons]
      exact ed'
    · rw [ho b hb1 hb2, upd_ne hb1, upd_ne hb2]
end
/-! ### the fields of what was caught -/
def fldX (cls ecl : List Nat) (f : Str) (t : Tw) : Tw := fun σ S Q E => t σ S (fun x S1 => match x with
  | .ref a => (match S1 a with
    | some (.ins c fs) => cls.contains c = true ∧ (match fs.lookup f with
      | some v => Q v S1
      | none => False)
    | _ => False)
  | .exc c ks ws => ecl.contains c = true ∧ (match (ks.zip ws).lookup f with
    | some v => Q v S1
    | none => False)
  | _ => False) E
section
variable {X : Cx} {G : Wd} {Wx : WX} {o : Expr} {to : Tw} {pos : Pos} {nm : Str}
theorem exT_at {pins : List (Addr × Obj)} {σ : L2.St} {H : Hp} {s : Shared} {C a d : Addr} (I : L2.Inv X pins σ H s) (h : H a = some (exT C a d)) : ∃ (oe : Obj) (vs : Array Value), s.heap.get? a = some oe ∧ oe.cls = .ref C ∧ oe.dict = some d ∧ oe.data = .fields vs := by
  have x1 : ObjOk X.prog X.w H s.heap a (.ext fun h => ∃ (oe : Obj) (vs : Array Value), h.get? a = some oe ∧ oe.cls = .ref C ∧ oe.dict = some d ∧ oe.data = .fields vs) := I.hok a _ h
  exact x1.1
theorem ew_fldX {cls ecl : List Nat} (hf : ∀ c, cls.contains c = true → Cls X.K (G.cad c) ∧ NoAttr X.K (G.cad c) nm) (hx : ∀ c, ecl.contains c = true → XfC X.K (G.cad c) ∧ PySem.W.findIn X.K (.ref (G.cad c)) nm = some none)
    (ho : PEw X G Wx o to) (hb : attributeBase o nm X.env (eval o X.env) = eval o X.env) : PEw X G Wx (.Attribute o nm pos) (fldX cls ecl nm to) := by
  refine ⟨fun pins s σ H Q I h => ?_⟩
  obtain ⟨σw, S, Q0, E0, rσ, rs, q, hq, he⟩ := h
  refine attr_of hb (thn (ho.run pins s σ H (fun v H1 => ∃ x S1, RW X.K G H1 x v ∧ RS X.K G S1 H1 ∧ TP H H1 ∧ (match x with
    | .ref a => (match S1 a with
      | some (.ins c fs) => cls.contains c = true ∧ (match fs.lookup nm with
        | some v => Q0 v S1
        | none => False)
      | _ => False)
    | .exc c ks ws => ecl.contains c = true ∧ (match (ks.zip ws).lookup nm with
      | some v => Q0 v S1
      | none => False)
    | _ => False)) I ⟨σw, S, _, E0, rσ, rs, q, fun x S1 q1 v1 H1 r1 rs1 tp1 => ⟨x, S1, r1, rs1, tp1, q1⟩, he⟩) fun u s1 ⟨v1, H1, I1, ru, x, S1, r1, rs1, tp1, q1⟩ => ?_)
  cases x with
  | ref ad =>
    rw [rw_ref] at r1
    subst r1
    obtain rfl : u = Value.ref ad := ru
    simp only at q1
    split at q1
    · rename_i c fs e
      obtain ⟨q0, q1⟩ := q1
      split at q1
      · rename_i v ev
        obtain ⟨u, hu, dx, gs, rfl, rk⟩ := rs1 _ _ e
        obtain ⟨v2, e2, r2⟩ := (RKV.lookup (k := nm) rk).1 v ev
        obtain ⟨c1, c2⟩ := hf c q0
        exact getattr_ok I1 hu c1 c2 e2 fun u' s2 I2 ru => ⟨v2, H1, I2, ru, (hq _ _ q1) _ _ r2 rs1 tp1⟩
      · exact q1.elim
    · exact q1.elim
  | exc c ks ws =>
    obtain ⟨q0, q1⟩ := q1
    split at q1
    · rename_i v ev
      obtain ⟨T, hno⟩ := hx c q0
      obtain ⟨a, d, vs, rfl, ea, ed, rv⟩ := rw_exc.mp r1
      obtain rfl : u = Value.ref a := ru
      obtain ⟨v2, e2, r2⟩ := (RKV.lookup (k := nm) (RKV.zipR rv)).1 v ev
      obtain ⟨oe, fv, g1, g2, g3, g4⟩ := exT_at I1 ea
      have x2 : ObjOk X.prog X.w H1 s1.heap d (.xd (ks.zip vs)) := I1.hok d _ ed
      obtain ⟨mA, hns, hr⟩ := x2
      obtain ⟨od, ho, hl⟩ := lookIn_ns hns
      obtain ⟨u, hu, ru⟩ := RelO.some_of (v := v2) (o := mA nm) (by rw [← e2]; exact hr nm)
      have J : PySem.W.InstAt s1.heap a oe (G.cad c) (some od) := ⟨g1, g2, by unfold PySem.W.notCls; rw [g4] <;> rfl, by rw [g3]; exact ho⟩
      exact HandSPX.exc_get I1.kIn J T.ga T.gg T.exC (PySem.W.findObj_own T.hdC hno rfl (by rw [hl, hu])) (handed_of ru) ⟨v2, H1, I1.tok _, ru, (hq _ _ q1) _ _ r2 rs1 tp1⟩
    · exact q1.elim
  | _ => exact q1.elim
end
/-! ### try -/
section
variable {X : Cx} {pins : List (Addr × Obj)} {σ : L2.St} {H : Hp} {s sI : Shared} {a C dd : Addr} {oe : Obj} {vs : Array Value}
/-- what was caught is tracked from here on -/
theorem caught (J : L2.Inv X pins σ H s) (JI : L2.Inv X pins σ H sI) (hex : X.ex = []) (ne : sI.heap.get? a = none) (ea : s.heap.get? a = some oe) (ec : oe.cls = .ref C) (ed : oe.dict = some dd) (ef : oe.data = .fields vs) (na : H a = none) (nL : a ≠ X.env.locals) :
    L2.Inv (X.suite a (X.pn ++ pins)) [] σ (upd H a (exT C a dd)) s := by
  have off : ∀ {b : Addr} {u : HO}, H b = some u → b ≠ a := fun {b u} q => ne_of_none q na
  have old : ∀ {b : Addr} {o : Obj}, sI.heap.get? b = some o → b ≠ a := fun {b o} q z => by
    rw [z, ne] at q
    cases q
  have hx : ∀ b, b ∉ X.ex := fun b z => by
    rw [hex] at z
    cases z
  have base : Un X.fs X.ex X.H_0 (upd H a (exT C a dd)) X.s_0.heap s.heap := by
    refine ⟨J.base.keep, J.base.slot, fun b o q n z => ?_, J.base.there, fun b xs q => ?_, fun b o u q => ?_, fun b ps q => ?_⟩
    · obtain ⟨o', q'⟩ := JI.base.there b o q z
      rw [upd_ne (old q')]
      exact J.base.free b o q n z
    · have t := J.base.tups b xs q
      rw [upd_ne (off t)]
      exact t
    · have t := J.base.frzs b o u q
      rw [upd_ne (off t)]
      exact t
    · obtain ⟨more, t⟩ := J.base.tbls b ps q
      refine ⟨more, ?_⟩
      rw [upd_ne (off t)]
      exact t
  refine ⟨J.ok.suite _ _, J.os, J.bare, base, J.loc, J.cell, ?_, fun x c q => ?_, fun p hp => ?_, fun b o q => ?_, J.len⟩
  · rw [upd_ne (Ne.symm nL)]
    exact J.free
  · rw [upd_ne]
    · exact J.freeC x c q
    · intro z
      obtain ⟨v, ob, hv, hw⟩ := J.cell x c q
      rw [z, ea] at hv
      cases hv
      rw [ef] at hw
      cases hw
  · have hp' : p ∈ X.pn ++ pins := by simpa using hp
    obtain ⟨g1, g2, g3, g4, g5⟩ := J.pin p hp'
    refine ⟨g1, ?_, g3, g4, g5⟩
    rw [upd_ne (old (JI.pin p hp').1)]
    exact g2
  · by_cases z : b = a
    · subst z
      rw [upd_same] at q
      cases q
      exact ⟨⟨oe, vs, ea, ec, ed, ef⟩, ⟨oe, ea⟩, fun h1 h2 w k => by
        obtain ⟨o1, v1, w1, w2, w3, w4⟩ := w
        exact ⟨o1, v1, k _ w1, w2, w3, w4⟩⟩
    · rw [upd_ne z] at q
      exact (J.hok b o q).stay (fun _ _ _ r => r) (fun c r => by rw [upd_ne (off r)]; exact r) fun c xs r => by rw [upd_ne (off r)]; exact r
theorem released {pn' : List (Addr × Obj)} (J : L2.Inv (X.suite a (X.pn ++ pins)) pn' σ H s) (ok : X.Ok) : L2.Inv X pins σ H s :=
  ⟨ok, J.os, J.bare, J.base, J.loc, J.cell, J.free, J.freeC, fun p hp => J.pin p (List.mem_append_left _ hp), J.hok, J.len⟩
end
/-- the ends of a suite: its name goes -/
def offE (i : Nat) (D : Ends) : Ends := ⟨fun σ H => D.nx (σ.set i none) H, D.rt, fun σ H => D.bk (σ.set i none) H, fun σ H => D.ct (σ.set i none) H⟩
/-- what try .. except X as n wishes of an exception of the body -/
def wCat (K : PySem.W.Frag) (c : Value) (i : Nat) (ts : TS) (Wout : WX) (D : Ends) : WX := fun cls d σ H => ∃ b, PySem.W.exmOne K cls c = some b ∧
  (b = true → ∃ C dd, cls = .ref C ∧ d = some dd ∧ ∀ a, H a = none → ts (offE i D) (σ.set i (some (.ref a))) (upd H a (exT C a dd))) ∧ (b = false → Wout cls d σ H)
section
variable {X : Cx} {x n : Str} {c : Value} {i : Nat} {body suite : List Stmt} {b₀ : Stmt} {np pos pos' : Pos} {tb : WX → TS} {ts : TS} {Wout : WX}
theorem ps_try_cat (hs : X.stack = X.env :: X.outer) (hf : X.env.frame = some X.env.locals) (hex : X.ex = []) (hN : X.N.Nodup) (hi : X.N[i]? = some n) (hln : X.env.kindOf n = some .local) (hc : Names X x c) (tk : Takes X Wout)
    (hb : ∀ (W : WX) (pn : List (Addr × Obj)) (xe : Value → Shared → Prop), Takes (X.tr pn xe) W → PassesOwn (model X.prog X.w) X.A X.env xe → PSs (X.tr pn xe) body (tb W)) (hsu : ∀ (a : Addr) (pn : List (Addr × Obj)), PSs (X.suite a pn) (b₀ :: suite) ts) :
    PS X (.Try body [.ExceptHandler (some (.Name x np)) (some n) (b₀ :: suite) pos'] [] [] pos) (fun D σ H => tb (wCat X.K c i ts Wout D) D σ H) := by
  constructor
  intro pins s σ H D I h
  have okX := I.ok
  have fr : X.A.frames = some (X.env :: X.outer) := okX.frames.trans (by rw [hs])
  refine wpAny_Try_except ?_
  have run := (hb (wCat X.K c i ts Wout D) (X.pn ++ pins) (fun e s₁ => wpAny (model X.prog X.w) X.A (noteFrame e X.env) (fun _ s₂ => wpAny (model X.prog X.w) X.A (setFlight e none) (fun _ s₃ => wpAny (model X.prog X.w) X.A (handleBy e X.env [.ExceptHandler (some (.Name x np)) (some n) (b₀ :: suite) pos']) (SP X pins D) X.xe s₃) X.xe s₂) X.xe s₁)
    (fun u s1 air => by
      obtain ⟨a, B, sI, pn1, σ1, H1, cls, d, rfl, J0, nb, up, sky, na, os, ag, b, m1, yes, no⟩ := air
      have J1 : L2.Inv X pins σ1 H1 sI := J0.ofTry okX
      show wpAny _ _ (noteFrame (.ref a) X.env) _ _ _
      refine Sky.land Zc.steady fr hf (by rw [hs] at sky; exact sky) fun h2 fl up2 => ?_
      have J2 : L2.Inv X pins σ1 H1 { s1 with heap := h2 } := J1.landed nb fl.1 (up.trans up2) os ag
      obtain ⟨oe, vs, ge, gz, gd⟩ := fl.there
      have offFr : a ∉ frs (X.env :: X.outer) := fun hm => by
        obtain ⟨_, o', e', nf⟩ := fl.2.2.1.mem hm
        rw [ge] at e'
        cases e'
        exact nf _ gd
      have nL : a ≠ X.env.locals := fun z => offFr (by rw [z]; exact List.mem_filterMap.mpr ⟨X.env, List.mem_cons_self, hf⟩)
      have nF : a ∉ X.fs := fun hm => by
        obtain ⟨e, he, q⟩ := List.mem_filterMap.mp hm
        exact offFr (List.mem_filterMap.mpr ⟨e, List.mem_cons_of_mem _ he, q⟩)
      have neI : sI.heap.get? a = none := by
        cases q : sI.heap.get? a with
        | none => rfl
        | some o =>
          have z := nb a o q (by rw [hs]; exact offFr)
          rw [fl.2.1] at z
          cases z
      have JS := J2.suite ge gd na nL nF
      refine wpAny_handleBy_cons (codeAny_handlers_test ?_) (by intro q; cases q)
      have ty : PySem.W.Looks (model X.prog X.w) h2 (typeOf (.ref a)) cls := fun A Q E s k q => wpAny_typeOf_ref (k _ _ ge) (by rw [gz.1]; exact q)
      have mt := PySem.W.exm_one (M := model X.prog X.w) J2.kIn ty m1
      have look : ∀ {Q : Value → Shared → Prop} {E : Value → Shared → Prop}, Q c { s1 with heap := h2 } → wpAny (model X.prog X.w) (X.A.mark (some (.ref a))) (eval (.Name x np) X.env) Q E { s1 with heap := h2 } := fun {Q E} q => by
        obtain ⟨k1, k2, k3⟩ := hc
        rcases k3 with k3 | ⟨k3, k4, k5⟩
        · exact ld_glob (X := X.suite a ((a, oe) :: (X.pn ++ pins))) JS k1 k3 q k2
        · exact ld_blt (X := X.suite a ((a, oe) :: (X.pn ++ pins))) JS k1 k3 k4 q k5 k2
      refine look (mt.here ?_)
      cases b with
      | false =>
        show wpAny _ X.A (handleBy (.ref a) X.env []) _ _ _
        refine wpAny_handleBy_nil ?_
        obtain ⟨_, _, _, o3, v3, T3, oT, t3, g1, g2, g3, g4, _⟩ := id fl
        unfold PySem.passOn
        refine wpAny_bind (wpAny_field g1 g3 g4 ?_)
        rw [if_neg (by simp)]
        have out : wpAny (model X.prog X.w) X.A (setFlight (.ref a) X.env.frame) (fun _ s4 => wpAny (model X.prog X.w) X.A (throw (.ref a) : PySem.Sem Flow) (SP X pins D) X.xe s4) X.xe { s1 with heap := h2 } := by
          rw [hf]
          exact HandSPX.setFlight_upZ fl fun h4 held up4 => wpAny_throw (tk _ _ ⟨a, B, sI, pins, σ1, H1, cls, d, rfl, J1, nb, (up.trans up2).trans up4, .inr (.inr (by rw [hs]; exact held)), na, os, ag, no rfl⟩)
        first
          | exact wpAny_bind out
          | exact wpAny_bind (wpAny_pure (wpAny_bind out))
      | true =>
        obtain ⟨C, dd, rfl, rfl, go⟩ := yes rfl
        refine codeAny_handlers_suite_as ?_
        refine HandSPX.lands_againZ fl fun h4 fl4 up4 => ?_
        have J4 : L2.Inv X pins σ1 H1 { s1 with heap := h4 } := J1.landed nb fl4.1 ((up.trans up2).trans up4) os ag
        obtain ⟨oe4, vs4, ge4, gz4, gd4⟩ := fl4.there
        have C4 := caught J4 J1 hex neI ge4 gz4.1 gz4.2 gd4 na nL
        refine store_ok (X := X.suite a (X.pn ++ pins)) (v := .ref a) C4 hN hi (.inl hln) rfl (fun s5 S5 => ?_) (.inr hln)
        refine wpAny_mono ((hsu a (X.pn ++ pins)).run [] s5 _ _ (offE i D) S5 (go a na)) (fun f s6 z => ?_) fun _ _ z => z.elim
        have fin : ∀ {σ6 : L2.St} {H6 : Hp} {Q : Shared → Prop}, L2.Inv (X.suite a (X.pn ++ pins)) [] σ6 H6 s6 → (∀ s7, L2.Inv X pins (σ6.set i none) H6 s7 → Q s7) → wpAny (model X.prog X.w) X.A (do bindName X.env n .none; unbindBehindTheSuite X.env n pos') (fun _ s7 => Q s7) X.xe s6 :=
          fun S6 hq => gone_ok (released S6 okX) hN hi hln hq
        cases f with
        | ret u =>
          obtain ⟨v6, σ6, H6, S6, r6, q6⟩ := z
          exact fin S6 fun s7 J7 => ⟨v6, _, _, J7, r6, q6⟩
        | next =>
          obtain ⟨σ6, H6, S6, q6⟩ := z
          exact fin S6 fun s7 J7 => ⟨_, _, J7, q6⟩
        | brk =>
          obtain ⟨σ6, H6, S6, q6⟩ := z
          exact fin S6 fun s7 J7 => ⟨_, _, J7, q6⟩
        | cont =>
          obtain ⟨σ6, H6, S6, q6⟩ := z
          exact fin S6 fun s7 J7 => ⟨_, _, J7, q6⟩) PassesOwn.looking).run [] s σ H D (I.toTry _) h
  refine wpAny_mono run (fun f s1 z => ?_) fun _ _ z => z
  cases f with
  | ret u =>
    obtain ⟨v1, σ1, H1, J1, r1, q1⟩ := z
    exact ⟨v1, σ1, H1, J1.ofTry okX, r1, q1⟩
  | next =>
    obtain ⟨σ1, H1, J1, q1⟩ := z
    exact wpAny_execs_nil ⟨σ1, H1, J1.ofTry okX, q1⟩
  | brk =>
    obtain ⟨σ1, H1, J1, q1⟩ := z
    exact ⟨σ1, H1, J1.ofTry okX, q1⟩
  | cont =>
    obtain ⟨σ1, H1, J1, q1⟩ := z
    exact ⟨σ1, H1, J1.ofTry okX, q1⟩
end
/-! ### try, by trees -/
def catE (ms : Nat → Option Bool) (i : Nat) (ts : TwS) (D : EnW) : EnW := ⟨D.nx, D.rt, D.bk, D.ct, fun e σ S => match ms e.c with
  | some true => ts ⟨fun σ S => D.nx (σ.set i none) S, D.rt, fun σ S => D.bk (σ.set i none) S, fun σ S => D.ct (σ.set i none) S, fun _ _ _ => False⟩ (σ.set i (some (.exc e.c (e.fs.map (·.1)) (e.fs.map (·.2))))) S
  | some false => D.ex e σ S
  | none => False⟩
/-- try: .. except X as n: .. -/
def tryS (ms : Nat → Option Bool) (i : Nat) (tb ts : TwS) : TwS := fun D σ S => tb (catE ms i ts D) σ S
def only0 (ms : Nat → Option Bool) (ts : TwS) (D : EnW) : EnW := ⟨D.nx, D.rt, D.bk, D.ct, fun e σ S => match ms e.c with
  | some true => ts ⟨D.nx, D.rt, D.bk, D.ct, fun _ _ _ => False⟩ σ S
  | some false => D.ex e σ S
  | none => False⟩
/-- try: .. except X: .. -/
def try0S (ms : Nat → Option Bool) (tb ts : TwS) : TwS := fun D σ S => tb (only0 ms ts D) σ S
structure Top (X : Cx) : Prop where
  st : X.stack = X.env :: X.outer
  fr : X.env.frame = some X.env.locals
  ex : X.ex = []
section
variable {X : Cx} {G : Wd} {Wx : WX} {x n : Str} {c : Value} {i : Nat} {body suite : List Stmt} {b₀ : Stmt} {np pos pos' : Pos} {tb ts : TwS} {ms : Nat → Option Bool}
theorem sw_try (T : Top X) (hN : X.N.Nodup) (hi : X.N[i]? = some n) (hln : X.env.kindOf n = some .local) (hc : Names X x c) (hm : ∀ k b, ms k = some b → PySem.W.exmOne X.K (.ref (G.cad k)) c = some b) (tk : Takes X Wx)
    (hb : ∀ (W : WX) (pn : List (Addr × Obj)) (xe : Value → Shared → Prop), Takes (X.tr pn xe) W → PassesOwn (model X.prog X.w) X.A X.env xe → PSsw (X.tr pn xe) G W body tb) (hsu : ∀ (a : Addr) (pn : List (Addr × Obj)), PSsw (X.suite a pn) G WNo (b₀ :: suite) ts) :
    PSw X G Wx (.Try body [.ExceptHandler (some (.Name x np)) (some n) (b₀ :: suite) pos'] [] [] pos) (tryS ms i tb ts) := by
  refine PS.imp (ps_try_cat (tb := fun W => liftS X.K G W tb) (ts := liftS X.K G WNo ts) T.st T.fr T.ex hN hi hln hc tk hb hsu) fun D σ H h => ?_
  obtain ⟨σw, S, D0, rσ, rs, q, l⟩ := h
  refine ⟨σw, S, catE ms i ts D0, rσ, rs, q, l.nx, l.rt, l.bk, l.ct, fun e σ1 S1 q1 σ' d H' fs r1 hd rk rs1 tp1 => ?_⟩
  have q1 : (match ms e.c with
    | some true => ts ⟨fun σ S => D0.nx (σ.set i none) S, D0.rt, fun σ S => D0.bk (σ.set i none) S, fun σ S => D0.ct (σ.set i none) S, fun _ _ _ => False⟩ (σ1.set i (some (.exc e.c (e.fs.map (·.1)) (e.fs.map (·.2))))) S1
    | some false => D0.ex e σ1 S1
    | none => False) := q1
  cases em : ms e.c with
  | none => rw [em] at q1; exact q1.elim
  | some b =>
    rw [em] at q1
    refine ⟨b, hm _ _ em, fun z => ?_, fun z => ?_⟩
    · subst z
      refine ⟨_, d, rfl, rfl, fun a ha => ?_⟩
      have tp : TP H' (upd H' a (exT (G.cad e.c) a d)) := .new ha
      obtain ⟨vs, rfl, rv⟩ := RKV.unzip rk
      have rx : RW X.K G (upd H' a (exT (G.cad e.c) a d)) (.exc e.c (e.fs.map (·.1)) (e.fs.map (·.2))) (.ref a) := rw_exc.mpr ⟨a, d, vs, rfl, upd_same, by rw [upd_ne (ne_of_none hd ha)]; exact hd, rv.mono tp⟩
      exact ⟨_, S1, _, (r1.mono tp).set i rx, rs1.newT ha, q1, fun σw S q σ H2 a b t => l.nx _ _ q _ _ (RSt.unset a i) b (tp1.trans (tp.trans t)), fun w S q => (l.rt w S q).mono (tp1.trans tp), fun σw S q σ H2 a b t => l.bk _ _ q _ _ (RSt.unset a i) b (tp1.trans (tp.trans t)),
        fun σw S q σ H2 a b t => l.ct _ _ q _ _ (RSt.unset a i) b (tp1.trans (tp.trans t)), fun _ _ _ q => q.elim⟩
    · subst z
      exact l.ex e σ1 S1 q1 σ' d H' fs r1 hd rk rs1 tp1
theorem sw_try0 (T : Top X) (hc : Names X x c) (hm : ∀ k b, ms k = some b → PySem.W.exmOne X.K (.ref (G.cad k)) c = some b) (tk : Takes X Wx)
    (hb : ∀ (W : WX) (pn : List (Addr × Obj)) (xe : Value → Shared → Prop), Takes (X.tr pn xe) W → PassesOwn (model X.prog X.w) X.A X.env xe → PSsw (X.tr pn xe) G W body tb) (hsu : ∀ (a : Addr) (pn : List (Addr × Obj)), PSsw (X.suite a pn) G WNo (b₀ :: suite) ts) :
    PSw X G Wx (.Try body [.ExceptHandler (some (.Name x np)) none (b₀ :: suite) pos'] [] [] pos) (try0S ms tb ts) := by
  refine PS.imp (ps_try_only (tb := fun W => liftS X.K G W tb) (ts := fun _ _ _ => liftS X.K G WNo ts) T.st T.fr hc tk hb fun a oe cls d pn _ _ => hsu a _) fun D σ H h => ?_
  obtain ⟨σw, S, D0, rσ, rs, q, l⟩ := h
  refine ⟨σw, S, only0 ms ts D0, rσ, rs, q, l.nx, l.rt, l.bk, l.ct, fun e σ1 S1 q1 σ' d H' fs r1 hd rk rs1 tp1 => ?_⟩
  have q1 : (match ms e.c with
    | some true => ts ⟨D0.nx, D0.rt, D0.bk, D0.ct, fun _ _ _ => False⟩ σ1 S1
    | some false => D0.ex e σ1 S1
    | none => False) := q1
  cases em : ms e.c with
  | none => rw [em] at q1; exact q1.elim
  | some b =>
    rw [em] at q1
    refine ⟨b, hm _ _ em, fun z => ?_, fun z => ?_⟩
    · subst z
      have l2 := l.mono tp1
      exact fun a ha => ⟨_, S1, _, r1, rs1, q1, l2.nx, l2.rt, l2.bk, l2.ct, fun _ _ _ q => q.elim⟩
    · subst z
      exact l.ex e σ1 S1 q1 σ' d H' fs r1 hd rk rs1 tp1
theorem Top.tr (T : Top X) (pn : List (Addr × Obj)) (xe : Value → Shared → Prop) : Top (X.tr pn xe) := ⟨T.st, T.fr, T.ex⟩
end
end MP
set_option Elab.async false
set_option linter.all false
set_option maxRecDepth 100000
set_option maxHeartbeats 4000000
namespace PySem.W
open PySem PySem.Calls PyProof.Rows Builtin
section
variable {prog : Program} {w : World} {A : Around} {E : Value → Shared → Prop} {s : Shared} {K : Frag} {x C L f : Addr} {h₀ : Heap} {m : Str → Option Value} {ox : Obj} {od : Option Obj}
/-- the text of an instance by its own __str__ -/
theorem strOf_own {Q : Value → Shared → Prop} (hu : A.units < cLine) (F : Fr h₀ L s.heap m) (X₀ : K.In h₀) (I : InstAt s.heap x ox C od) (hs : findIn K (.ref C) "__str__" = some (some (.ref f))) (hf : isFn K (.ref f) = true)
    (h : wpAny (model prog w) A (call (.ref f) [.ref x]) (StrBack Q) E s) : wpAny (model prog w) A (Builtin.Str.strOf (.ref x)) Q E s := by
  unfold Builtin.Str.strOf
  rw [show Builtin.Str.isExactStr (.ref x) = false from rfl]
  simp only [Bool.false_eq_true, if_false, pure_bind]
  refine wpAny_bind (wpAny_cRoomFor hu ?_)
  refine wpAny_bind (m := callSpecial? (.ref x) (Str.ofString "__str__")) (special_fn (X₀.keeps F.keep) I hs (beq_iff_eq.mp hf) (wpAny_mono h (fun r s' hr => ?_) fun _ _ y => y))
  cases r <;> first | exact hr.elim | skip
  refine wpAny_bind (wpAny_pure ?_)
  exact wpAny_pure hr
end
end PySem.W
namespace MP
open PySem PySem.Spec PyProof.Rows L2
/-! ### methods of texts: join, split -/
def strsW : List W → Option (List Str)
  | [] => some []
  | .str s :: r => (match strsW r with
    | some ys => some (s :: ys)
    | none => none)
  | _ => none
theorem strsW_ok {K : PySem.W.Frag} {G : Wd} {H : Hp} : ∀ {ws : List W} {ys : List Str} {vs : List V}, strsW ws = some ys → RWs K G H ws vs → vs = ys.map V.str
  | [], ys, vs, e, r => by
    cases e
    rw [rws_nil] at r
    exact r
  | .str s :: ws, ys, vs, e, r => by
    unfold strsW at e
    split at e
    · rename_i zs ez
      cases e
      obtain ⟨v, r', rfl, r1, r2⟩ := rws_cons.mp r
      rw [rw_str] at r1
      rw [r1, strsW_ok ez r2]
      rfl
    · cases e
  | .non :: _, _, _, e, _ => by cases e
  | .bl _ :: _, _, _, e, _ => by cases e
  | .int _ :: _, _, _, e, _ => by cases e
  | .tup _ :: _, _, _, e, _ => by cases e
  | .ref _ :: _, _, _, e, _ => by cases e
  | .ty _ :: _, _, _, e, _ => by cases e
  | .kls _ :: _, _, _, e, _ => by cases e
  | .cls _ :: _, _, _, e, _ => by cases e
  | .fn _ :: _, _, _, e, _ => by cases e
  | .exc _ _ _ :: _, _, _, e, _ => by cases e
def jnW (x y : W) (S : Store) (Q : WP) : Prop := match x with
  | .str a => (match items? S y with
    | some ws => (match strsW ws with
      | some ys => (ys.map (·.length)).sum + ys.length * a.length ≤ 16777216 ∧ Q (.str (Txt.join a ys)) S
      | none => False)
    | none => False)
  | _ => False
def newStrsW (ys : List Str) (S : Store) (Q : WP) : Prop := ∀ p, S p = none → Q (.ref p) (put S p (.lst (ys.map .str)))
def spW (x y : W) (S : Store) (Q : WP) : Prop := match x, y with
  | .str a, .str b => (b.length == 0) = false ∧ a.length + 2 ≤ sizeLine ∧ newStrsW (Txt.split a b) S Q
  | _, _ => False
def wdW (x : W) (S : Store) (Q : WP) : Prop := match x with
  | .str a => a.length + 2 ≤ sizeLine ∧ newStrsW (Txt.words a) S Q
  | _ => False
/-- of a text, with one more -/
def tx2S (b : W → W → Store → WP → Prop) (to te : Tw) : Tw := fun σ S Q E => to σ S (fun x S1 => match x with
  | .str _ => te σ S1 (fun y S2 => b x y S2 Q) E
  | _ => False) E
def tx1S (b : W → Store → WP → Prop) (to : Tw) : Tw := fun σ S Q E => to σ S (fun x S1 => b x S1 Q) E
section
variable {X : Cx} {G : Wd} {Wx : WX} {o e : Expr} {to te : Tw}
theorem rws_strs {K : PySem.W.Frag} {G : Wd} {H : Hp} : ∀ {ys : List Str}, RWs K G H (ys.map .str) (ys.map V.str)
  | [] => .nil
  | _ :: ys => .cons (rw_str.mpr rfl) rws_strs
theorem newStrs_ok {K : PySem.W.Frag} {H : Hp} {S : Store} {Q : VK} {Q0 : WP} {ys : List Str} (rs : RS K G S H) (q : newStrsW ys S Q0) (hq : ∀ w S', Q0 w S' → Lf K G H Q w S') : rNewStrs ys H Q := fun p hp => by
  have hs : S p = none := rs.free hp
  exact Lf.new (hq _ _ (q p hs)) ⟨_, rfl, rws_strs⟩ rs hp
theorem ew_join {apos pos : Pos} (ho : PEw X G Wx o to) (he : PEw X G Wx e te) (hs : starEach [e] X.env = [(false, eval e X.env)]) (hbase : attributeBase o "join" X.env (eval o X.env) = eval o X.env) (hline : (apos.endLine == pos.line) = true) :
    PEw X G Wx (.Call (.Attribute o "join" apos) [e] [] pos) (tx2S jnW to te) := by
  refine PE.imp (pe_join ho he hs hbase hline) fun σ H Q q => ?_
  obtain ⟨σw, S, Q0, E0, rσ, rs, q, hq, he⟩ := q
  refine ⟨σw, S, _, E0, rσ, rs, q, fun x S1 q1 v1 H1 r1 rs1 tp1 => ?_, he⟩
  cases x with
  | str a =>
    have e1 : v1 = .str a := rw_str.mp r1
    refine ⟨⟨a, e1⟩, σw, S1, _, E0, rσ.mono tp1, rs1, q1, fun y S2 q2 v2 H2 r2 rs2 tp2 => ?_, fun e S' h => (he e S' h).mono tp1⟩
    unfold jnW at q2
    simp only at q2
    split at q2
    · rename_i ws ei
      split at q2
      · rename_i ys es
        obtain ⟨p, vs, ep, hp, rr⟩ := items_ok rs2 r2 ei
        obtain rfl := strsW_ok es rr
        exact ⟨a, p, ys, e1, by rw [ep], hp, q2.1, (hq _ _ q2.2) _ _ (rw_str.mpr rfl) rs2 (tp1.trans tp2)⟩
      · exact q2.elim
    · exact q2.elim
  | _ => exact q1.elim
theorem ew_split {apos pos : Pos} (ho : PEw X G Wx o to) (he : PEw X G Wx e te) (hs : starEach [e] X.env = [(false, eval e X.env)]) (hbase : attributeBase o "split" X.env (eval o X.env) = eval o X.env) (hline : (apos.endLine == pos.line) = true) :
    PEw X G Wx (.Call (.Attribute o "split" apos) [e] [] pos) (tx2S spW to te) := by
  refine PE.imp (pe_split ho he hs hbase hline) fun σ H Q q => ?_
  obtain ⟨σw, S, Q0, E0, rσ, rs, q, hq, he⟩ := q
  refine ⟨σw, S, _, E0, rσ, rs, q, fun x S1 q1 v1 H1 r1 rs1 tp1 => ?_, he⟩
  cases x with
  | str a =>
    have e1 : v1 = .str a := rw_str.mp r1
    refine ⟨⟨a, e1⟩, σw, S1, _, E0, rσ.mono tp1, rs1, q1, fun y S2 q2 v2 H2 r2 rs2 tp2 => ?_, fun e S' h => (he e S' h).mono tp1⟩
    cases y with
    | str b =>
      have e2 : v2 = .str b := rw_str.mp r2
      exact ⟨a, b, e1, by rw [e2], q2.1, q2.2.1, newStrs_ok rs2 q2.2.2 fun w S' h => (hq w S' h).mono (tp1.trans tp2)⟩
    | _ => exact q2.elim
  | _ => exact q1.elim
theorem ew_words {apos pos : Pos} (ho : PEw X G Wx o to) (hbase : attributeBase o "split" X.env (eval o X.env) = eval o X.env) (hline : (apos.endLine == pos.line) = true) :
    PEw X G Wx (.Call (.Attribute o "split" apos) [] [] pos) (tx1S wdW to) := by
  refine PE.imp (pe_words ho hbase hline) fun σ H Q q => ?_
  obtain ⟨σw, S, Q0, E0, rσ, rs, q, hq, he⟩ := q
  refine ⟨σw, S, _, E0, rσ, rs, q, fun x S1 q1 v1 H1 r1 rs1 tp1 => ?_, he⟩
  cases x with
  | str a =>
    have e1 : v1 = .str a := rw_str.mp r1
    exact ⟨⟨a, e1⟩, a, e1, rfl, q1.1, newStrs_ok rs1 q1.2 fun w S' h => (hq w S' h).mono tp1⟩
  | _ => exact q1.elim
end
end MP
namespace PySem.W
open PySem PySem.Calls PyProof.Rows Builtin
section
variable {prog : Program} {w : World} {A : Around} {E : Value → Shared → Prop} {s : Shared}
theorem str_own (x : Addr) : MeetsIn prog w (Builtin.«str.__new__» ⟨[.type "str", .ref x], []⟩) (fun A R s => wpAny (model prog w) A.in1 (Builtin.Str.strOf (.ref x)) (fun r s' => R (.ok (.ret r)) s') (fun e s' => R (.error e) s') s) :=
  .of_wp fun A R s h => by
    rw [str_new_tree _]
    refine wpAny_bind (wpAny_pure ?_)
    refine wpAny_bind (wpAny_of_eq isSubtype_str_str ?_)
    exact wpAny_bind (wpAny_mono h (fun r s' h' => wpAny_pure ⟨_, rfl, h'⟩) fun _ _ e => e)
theorem call_strI {x : Addr} {Q : Value → Shared → Prop} (h : wpAny (model prog w) A.in1.in1 (Builtin.Str.strOf (.ref x)) (fun v s' => (∃ a t, v = .str a t) ∧ Q v s') E s) : wpAny (model prog w) A (call (.type "str") [.ref x]) Q E s :=
  callType_newIn F.called_str (by decide) (F.typeCall_str_1 _) (F.newCall_str_1 _) (fun obj => F.args_object_init_2 obj _) F.entry_str_new (str_own x)
    (wpAny_mono h (fun v s' q => by obtain ⟨⟨a, t, rfl⟩, q⟩ := q; exact ⟨typeIs_str _ _ _, q⟩) fun _ _ z => z)
end
end PySem.W
namespace MP
open PySem PySem.Spec PyProof.Rows L2
/-! ### str of an instance, by its own __str__ -/
def isStr (Q : WP) : WP := fun v S => match v with
  | .str x => Q (.str x) S
  | _ => False
def ownStr (cs : Sem) (tb : List (Nat × (Nat × List PArg))) (a : Addr) (c : Nat) (S : Store) (Q : WP) : Prop := match tb.lookup c with
  | some p => cs.call p.1 (p.2.map (PArg.pick [.ref a])) S (isStr Q) noX
  | none => False
def strO (cs : Sem) (tb : List (Nat × (Nat × List PArg))) (as : List W) (S : Store) (Q : WP) : Prop := match as with
  | [.ref a] => (match S a with
    | some (.ins c _) => ownStr cs tb a c S Q
    | _ => False)
  | as => strW as S Q
section
variable {X : Cx} {G : Wd} {Wx : WX} {cs : Sem} {tb : List (Nat × (Nat × List PArg))}
theorem cr_strO (tk : Takes X Wx) (C : ∀ p ∈ tb, MethOk X G cs "__str__" 0 [] p) : CallR X (.type "str") (liftC X.K G (strO cs tb)) := by
  intro pins s σ H vs us Q I r h
  obtain ⟨ws, S, Q0, rw, rs, q, hq⟩ := h
  unfold strO at q
  split at q
  · rename_i a
    split at q
    · rename_i c fs ec
      obtain ⟨v, rfl, rv⟩ := rws1 rw
      rw [rw_ref] at rv
      subst rv
      obtain ⟨u, rfl, ru⟩ := vals1 r
      obtain rfl : u = Value.ref a := ru
      obtain ⟨u0, hu, dx, gs, rfl, rk⟩ := rs _ _ ec
      obtain ⟨mA, O, _, _, _, _⟩ := ins_get I.hok hu
      obtain ⟨od, J, _⟩ := O.look
      obtain ⟨m, hF⟩ := I.fr
      unfold ownStr at q
      split at q
      · rename_i p ep
        obtain ⟨fa, fd, ps, k, g, gV, Cc, Mm, Fn, hrm, hb, hl, hp⟩ := (C (c, p) (lookup_in ep)).ex
        have hun := hrm.r.units
        refine PySem.W.call_strI (PySem.W.strOf_own (by show X.A.units + 1 + 1 < _; omega) hF I.ok.mod.kin J Mm.at_ Mm.fn ?_)
        have hfr : X.A.in1.in1.frames = X.A.frames := rfl
        have e0 : Env0 X.prog X.w X.K X.mg X.base X.A.in1.in1 X.stack s H := by
          have e := I.env0
          exact ⟨by rw [hfr]; exact e.frames, e.mod, e.bs, e.bsz, e.funs, e.frf, e.hok, e.bare⟩
        have r1 : Vals [V.ref a] [Value.ref a] := .cons rfl .nil
        have r2 := hb.rel r1 .nil
        have hsp : spOf X.K G ps.length (cs.call p.1) (gV [V.ref a] []) H (fun v H' => ∃ z, v = .str z ∧ Q (.str z) H') (fun _ _ _ => False) :=
          ⟨hl _ _ rfl rfl, _, S, _, _, hp H [.ref a] _ _ rfl rfl (.cons (rw_ref.mpr rfl) .nil), rs, q, fun w S' q v H' rv rs' tp' => by
            cases w <;> first | exact q.elim | skip
            rename_i z
            exact ⟨z, rw_str.mp rv, (hq _ _ q) _ _ (rw_str.mpr rfl) rs' tp'⟩, fun e S' q => q.elim⟩
        refine wpAny_call (codeAny_mono (Fn.run X.A.in1.in1 X.stack s H ⟨[.ref a], []⟩ (g [.ref a] []) (gV [.ref a] []) _ _ ((hrm.in1.in1).mono (Nat.le_add_right k 1)) e0 (by
          have := hb.to s [.ref a] [] I.kIn rfl rfl
          simpa using this) r2 hsp) fun r s' hq' => ?_)
        cases r with
        | error e => exact tk _ _ (XE.of_call (W := Wx) I (fun cls d H' z => z.elim) hq')
        | ok fl =>
          cases fl with
          | ret u =>
            obtain ⟨v, H', I3, rv, z, rfl, q3⟩ := I.after hq'
            obtain ⟨t, rfl⟩ : ∃ t, u = .str z t := rv
            exact ⟨⟨_, _, rfl⟩, .str z, H', I3, ⟨_, rfl⟩, q3⟩
          | next => exact False.elim hq'
          | brk => exact False.elim hq'
          | cont => exact False.elim hq'
      · exact q.elim
    · exact q.elim
  · exact cr_strW pins s σ H vs us Q I r ⟨_, S, Q0, rw, rs, q, hq⟩
end
end MP
set_option Elab.async false
set_option linter.all false
set_option maxRecDepth 100000
set_option maxHeartbeats 4000000
namespace MP
open PySem PySem.Spec PyProof.Rows L2
/-! ### repr of data -/
def rpW (as : List W) (S : Store) (Q : WP) : Prop := match as with
  | [x] => ∃ d, Dw S d x ∧ d.showable = true ∧ d.hasDict = false ∧ d.depth ≤ 60 ∧ d.shown.length ≤ sizeLine ∧ Q (.str d.shown) S
  | _ => False
section
variable {X : Cx} {G : Wd} {Wx : WX} {cs : Sem} {tb : List (Nat × (Nat × List PArg))}
theorem cr_rpW (hg : X.A.guards = some []) (hu : X.A.units + 65 < cLine) : CallR X (.builtin "repr") (liftC X.K G rpW) := by
  intro pins s σ H vs us Q I r h
  obtain ⟨ws, S, Q0, rw, rs, q, hq⟩ := h
  unfold rpW at q
  split at q
  · rename_i x
    obtain ⟨d, hd, h1, h2, h3, h4, q⟩ := q
    obtain ⟨v, rfl, rv⟩ := rws1 rw
    obtain ⟨u, rfl, ru⟩ := vals1 r
    obtain ⟨as, hr⟩ := Dp.reads I d v u (Dw.dp rs hd rv) ru
    have fin : Q (.str d.shown) H := Lf.same (hq _ _ q) (rw_str.mpr rfl) rs
    have fs : EP X pins σ Q (.str d.shown s.toks) { s with toks := s.toks + 1 } := ⟨.str d.shown, H, I.tok _, ⟨_, rfl⟩, fin⟩
    have ref : ∀ a, u = .ref a → wpAny (model X.prog X.w) X.A (PySem.call (.builtin "repr") [u]) (EP X pins σ Q) X.xe s := fun a e => by
      subst e
      exact repr_of_reads' hr h1 (fun e => by rw [h2] at e; cases e) hg (by omega) (fun _ _ e => e) (fun h' u tk k => ⟨.str d.shown, H, I.kept (t' := tk) k, ⟨_, rfl⟩, fin⟩) h4
    cases d with
    | none => cases hr; exact PySem.P.repr_of_none fs
    | bool b => cases hr; exact PySem.P.repr_of_bool fs
    | int i => cases hr; exact PySem.P.repr_of_int (by simpa [PyData.showable] using h1) fs
    | str y => cases hr; exact PySem.P.repr_of_str fs h4
    | list xs => cases hr; exact ref _ rfl
    | tuple xs => cases hr; exact ref _ rfl
    | dict xs => cases hr; exact ref _ rfl
  · exact q.elim
/-- repr(x): of data, or of an instance by its own __repr__ -/
def rpO (cs : Sem) (tb : List (Nat × (Nat × List PArg))) (as : List W) (S : Store) (Q : WP) : Prop := match as with
  | [.ref a] => (match S a with
    | some (.ins c _) => ownStr cs tb a c S Q
    | _ => rpW [.ref a] S Q)
  | as => rpW as S Q
theorem cr_rpO (hg : X.A.guards = some []) (hu : X.A.units + 65 < cLine) (tk : Takes X Wx) (C : ∀ p ∈ tb, MethOk X G cs "__repr__" 0 [] p) : CallR X (.builtin "repr") (liftC X.K G (rpO cs tb)) := by
  intro pins s σ H vs us Q I r h
  obtain ⟨ws, S, Q0, rw, rs, q, hq⟩ := h
  unfold rpO at q
  split at q
  · rename_i a
    split at q
    · rename_i c fs ec
      obtain ⟨v, rfl, rv⟩ := rws1 rw
      rw [rw_ref] at rv
      subst rv
      obtain ⟨u, rfl, ru⟩ := vals1 r
      obtain rfl : u = Value.ref a := ru
      obtain ⟨u0, hu, dx, gs, rfl, rk⟩ := rs _ _ ec
      obtain ⟨mA, O, _, _, _, _⟩ := ins_get I.hok hu
      obtain ⟨od, J, _⟩ := O.look
      obtain ⟨m, hF⟩ := I.fr
      unfold ownStr at q
      split at q
      · rename_i p ep
        obtain ⟨fa, fd, ps, k, g, gV, Cc, Mm, Fn, hrm, hb, hl, hp⟩ := (C (c, p) (lookup_in ep)).ex
        have hun := hrm.r.units
        refine PySem.W.repr_K (by show X.A.units + 1 < _; omega) hF I.ok.mod.kin J Mm.at_ Mm.fn ?_
        have hfr : X.A.in1.frames = X.A.frames := rfl
        have e0 : Env0 X.prog X.w X.K X.mg X.base X.A.in1 X.stack s H := by
          have e := I.env0
          exact ⟨by rw [hfr]; exact e.frames, e.mod, e.bs, e.bsz, e.funs, e.frf, e.hok, e.bare⟩
        have r1 : Vals [V.ref a] [Value.ref a] := .cons rfl .nil
        have r2 := hb.rel r1 .nil
        have hsp : spOf X.K G ps.length (cs.call p.1) (gV [V.ref a] []) H (fun v H' => ∃ z, v = .str z ∧ Q (.str z) H') (fun _ _ _ => False) :=
          ⟨hl _ _ rfl rfl, _, S, _, _, hp H [.ref a] _ _ rfl rfl (.cons (rw_ref.mpr rfl) .nil), rs, q, fun w S' q v H' rv rs' tp' => by
            cases w <;> first | exact q.elim | skip
            rename_i z
            exact ⟨z, rw_str.mp rv, (hq _ _ q) _ _ (rw_str.mpr rfl) rs' tp'⟩, fun e S' q => q.elim⟩
        refine wpAny_call (codeAny_mono (Fn.run X.A.in1 X.stack s H ⟨[.ref a], []⟩ (g [.ref a] []) (gV [.ref a] []) _ _ ((hrm.in1).mono (Nat.le_add_right k 2)) e0 (by
          have := hb.to s [.ref a] [] I.kIn rfl rfl
          simpa using this) r2 hsp) fun r s' hq' => ?_)
        cases r with
        | error e => exact tk _ _ (XE.of_call (W := Wx) I (fun cls d H' z => z.elim) hq')
        | ok fl =>
          cases fl with
          | ret u =>
            obtain ⟨v, H', I3, rv, z, rfl, q3⟩ := I.after hq'
            obtain ⟨t, rfl⟩ : ∃ t, u = .str z t := rv
            exact ⟨.str z, H', I3, ⟨_, rfl⟩, q3⟩
          | next => exact False.elim hq'
          | brk => exact False.elim hq'
          | cont => exact False.elim hq'
      · exact q.elim
    · exact cr_rpW hg hu pins s σ H vs us Q I r ⟨_, S, Q0, rw, rs, q, hq⟩
  · exact cr_rpW hg hu pins s σ H vs us Q I r ⟨_, S, Q0, rw, rs, q, hq⟩
end
/-! ### f-strings of texts and ints -/
def fmW (x : W) (S : Store) (Q : WP) : Prop := match x with
  | .str y => y.length ≤ sizeLine ∧ Q (.str y) S
  | .int i => i.natAbs.log2 < 1920 ∧ Q (.str (toString i)) S
  | _ => False
def fmS (t : Tw) : Tw := fun σ S Q E => t σ S (fun x S1 => fmW x S1 Q) E
def jnsS : List Tw → Str → Tw
  | [], acc => fun σ S Q E => Q (.str acc) S
  | t :: ts, acc => fun σ S Q E => t σ S (fun x S1 => match x with
    | .str y => (acc ++ y).length ≤ sizeLine ∧ jnsS ts (acc ++ y) σ S1 Q E
    | _ => False) E
section
variable {X : Cx} {G : Wd} {Wx : WX} {e : Expr} {te : Tw} {pos : Pos}
theorem ew_fmt (he : PEw X G Wx e te) : PEw X G Wx (.FormattedValue e (-1) none pos) (fmS te) := by
  refine PE.imp (pe_fmt he) fun σ H Q q => ?_
  obtain ⟨σw, S, Q0, E0, rσ, rs, q, hq, he⟩ := q
  refine ⟨σw, S, _, E0, rσ, rs, q, fun x S1 q1 v1 H1 r1 rs1 tp1 => ?_, he⟩
  cases x with
  | str y => exact .inl ⟨y, rw_str.mp r1, q1.1, (hq _ _ q1.2) _ _ (rw_str.mpr rfl) rs1 tp1⟩
  | int i => exact .inr ⟨i, rw_int.mp r1, q1.1, (hq _ _ q1.2) _ _ (rw_str.mpr rfl) rs1 tp1⟩
  | _ => exact q1.elim
theorem js_ok {σ : L2.St} {Q : VK} : ∀ {ts : List Tw} {acc : Str} {H : Hp}, liftE X.K G Wx (jnsS ts acc) σ H Q → tJs (ts.map (liftE X.K G Wx)) acc σ H fun out H1 => Q (.str out) H1
  | [], acc, H, h => by
    obtain ⟨σw, S, Q0, E0, rσ, rs, q, hq, he⟩ := h
    exact Lf.same (hq _ _ q) (rw_str.mpr rfl) rs
  | t :: ts, acc, H, h => by
    obtain ⟨σw, S, Q0, E0, rσ, rs, q, hq, he⟩ := h
    refine ⟨σw, S, _, E0, rσ, rs, q, fun x S1 q1 v1 H1 r1 rs1 tp1 => ?_, he⟩
    cases x with
    | str y => exact ⟨y, rw_str.mp r1, q1.1, js_ok ⟨σw, S1, Q0, E0, rσ.mono tp1, rs1, q1.2, fun w S' h => (hq w S' h).mono tp1, fun e S' h => (he e S' h).mono tp1⟩⟩
    | _ => exact q1.elim
inductive PJw (X : Cx) (G : Wd) (Wx : WX) : List Expr → List Tw → Prop where
  | nil : PJw X G Wx [] []
  | cons {e : Expr} {t : Tw} {es : List Expr} {ts : List Tw} (h : PEw X G Wx e t) (r : PJw X G Wx es ts) : PJw X G Wx (e :: es) (t :: ts)
theorem PJw.pj {es : List Expr} {ts : List Tw} (h : PJw X G Wx es ts) : PJ X es (ts.map (liftE X.K G Wx)) := by
  induction h with
  | nil => exact .nil
  | cons h r ih => exact .cons h ih
theorem ew_joined {v1 v2 : Expr} {rest : List Expr} {ts : List Tw} (h : PJw X G Wx (v1 :: v2 :: rest) ts) : PEw X G Wx (.JoinedStr (v1 :: v2 :: rest) pos) (jnsS ts Str.empty) :=
  PE.imp (pe_joined h.pj) fun σ H Q q => js_ok q
end
/-! ### xs[::-1] -/
def rvW (x : W) (S : Store) (Q : WP) : Prop := match x with
  | .ref a => (match items? S (.ref a) with
    | some xs => ∀ p, S p = none → Q (.ref p) (put S p (.lst xs.reverse))
    | none => False)
  | _ => False
def revS (t : Tw) : Tw := fun σ S Q E => t σ S (fun x S1 => rvW x S1 Q) E
section
variable {X : Cx} {G : Wd} {Wx : WX} {e : Expr} {te : Tw}
theorem ew_rev {k : Nat} {p1 p2 p3 pos : Pos} (he : PEw X G Wx e te) : PEw X G Wx (.Subscript e (.Slice none none (some (.UnaryOp .USub (.Constant (.int 1) k p1) p2)) p3) pos) (revS te) := by
  refine PE.imp (pe_revL he) fun σ H Q q => ?_
  obtain ⟨σw, S, Q0, E0, rσ, rs, q, hq, he⟩ := q
  refine ⟨σw, S, _, E0, rσ, rs, q, fun x S1 q1 v1 H1 r1 rs1 tp1 => ?_, he⟩
  cases x with
  | ref a =>
    rw [rw_ref] at r1
    unfold rvW at q1
    simp only at q1
    split at q1
    · rename_i xs ei
      obtain ⟨vs, sq, rr⟩ := items_ref rs1 ei
      exact ⟨a, vs, r1, sq, fun p hp => ((hq _ _ (q1 p (rs1.free hp))).mono tp1).new ⟨vs.reverse, rfl, rr.reverse⟩ rs1 hp⟩
    · exact q1.elim
  | _ => exact q1.elim
end
end MP
set_option Elab.async false
set_option linter.all false
set_option maxRecDepth 100000
set_option maxHeartbeats 4000000
namespace PySem.W
open PySem PySem.Calls PyProof.Rows Builtin
section
variable {prog : Program} {w : World} {A : Around} {E : Value → Shared → Prop} {s : Shared} {K : Frag} {x C L f : Addr} {h₀ : Heap} {m : Str → Option Value} {ox : Obj} {od : Option Obj} {b tb : Value}
/-- x != b by the text's own __eq__ -/
theorem ne_own {Q : Value → Shared → Prop} (hu : A.units + 1 < cLine) (F : Fr h₀ L s.heap m) (X₀ : K.In h₀) (I : InstAt s.heap x ox C od) (hb : Looks (model prog w) s.heap (typeOf b) tb) (hn : notFirst K C tb = true)
    (hs : findIn K (.ref C) "__ne__" = some (some (.builtin "object.__ne__"))) (ho : mroIn K C (.type "object") = some true) (he : findIn K (.ref C) "__eq__" = some (some (.ref f))) (hf : isFn K (.ref f) = true)
    (h : wpAny (model prog w) A.in1 (call (.ref f) [.ref x, b]) (fun v s' => ∃ r, v = .bool r ∧ Q (.bool (!r)) s') E s) : wpAny (model prog w) A (richCompare .NotEq (.ref x) b) Q E s := by
  have X := X₀.keeps F.keep
  have FB := PySem.F.cmp_object
  have sub : Looks (model prog w) s.heap (isInstance (.ref x) (.type "object")) true := I.type.andThen (looks_mroIn X ho)
  have one : wpAny (model prog w) A (tryCompare (.ref x) "__ne__" b) (fun r s' => ∃ v, r = some v ∧ Q v s') E s := by
    unfold tryCompare
    have inner : wpAny (model prog w) A (call (.builtin "object.__ne__") [.ref x, b]) (fun v s' => ∃ r, v = .bool (!r) ∧ Q (.bool (!r)) s') E s := by
      refine wpAny_call (codeAny_call_builtin FB.ne.plain PySem.F.cmpEntry_ne (@check_slot (model prog w) _ _ s "object.__ne__" "object" "__ne__" (.ref x) [b] [] _ PySem.F.cmpKind_ne PySem.F.cmpSplit_ne sub (PySem.F.cmpArgs_ne _ _) ?_))
      unfold Builtin.«object.__ne__»
      repeat (first
        | with_reducible refine wpAny_cRoomFor hu ?_
        | (refine wpAny_bind (m := callSpecialIfBound? (.ref x) (Str.ofString "__eq__") [b])
            (ifBound_K X I he hf (wpAny_mono h (fun r s' hr => by
              obtain ⟨r, rfl, hq⟩ := hr
              repeat (first | exact ⟨r, rfl, hq⟩ | exact wpAny_pure ⟨r, rfl, hq⟩ | exact wpAny_truthy_bool ⟨r, rfl, hq⟩ | (refine wpAny_bind (m := truthy (.bool _)) (wpAny_truthy_bool ?_)) | wp_step)) fun _ _ e => e)))
        | wp_step)
    refine wpAny_bind ?_
    simp only [callSpecialIfBound?, bindSpecialIfBound?]
    refine wpAny_holding (wpAny_bind (wpAny_bind (wpAny_bind (I.type.here ((looks_findIn X hs).here ?_)))))
    simp only [FB.ne.bind]
    have fin : wpAny (model prog w) A (call (.builtin "object.__ne__") ([.ref x] ++ [b]) >>= fun v => pure (some v)) (fun a s' => wpAny (model prog w) A (match a with
        | some Value.notImplemented => pure none
        | none => pure none
        | some v => pure (some v)) (fun r s' => ∃ v, r = some v ∧ Q v s') E s') E s :=
      wpAny_bind (wpAny_mono inner (fun v s' h' => by
        obtain ⟨r, rfl, hq⟩ := h'
        exact wpAny_pure (wpAny_pure ⟨_, rfl, hq⟩)) fun _ _ h' => h')
    refine wpAny_bind (wpAny_askSetting (wpAny_ite ?_))
    split
    · exact wpAny_bind (wpAny_pure (wpAny_pure (by exact fin)))
    · exact wpAny_tryCatch (wpAny_bind (wpAny_pure (wpAny_pure (by exact fin))))
  unfold richCompare
  simp only [oneThing_ref]
  refine wpAny_holding (wpAny_bind (wpAny_cRoomFor (Nat.lt_of_succ_lt hu) ?_))
  refine wpAny_bind (I.type.here (wpAny_bind (hb.here ?_)))
  split
  · rename_i q
    have e : subIn K tb (.ref C) = some false := by
      rcases Bool.or_eq_true_iff.mp hn with e | e
      · rw [beq_iff_eq.mp e] at q; simp at q
      · exact beq_iff_eq.mp e
    refine wpAny_bind ((looks_subIn X e).here ?_)
    simp only [Bool.false_eq_true, if_false]
    refine wpAny_bind (wpAny_mono one (fun r s' z => ?_) fun _ _ e => e)
    obtain ⟨v, rfl, hq⟩ := z
    exact wpAny_pure hq
  · refine wpAny_bind (wpAny_pure ?_)
    simp only [Bool.false_eq_true, if_false]
    refine wpAny_bind (wpAny_mono one (fun r s' z => ?_) fun _ _ e => e)
    obtain ⟨v, rfl, hq⟩ := z
    exact wpAny_pure hq
end
end PySem.W
namespace MP
open PySem PySem.Spec PyProof.Rows L2
/-! ### == and != of instances by an own __eq__ -/
structure EqC (K : PySem.W.Frag) (C : Addr) : Prop where
  ne : PySem.W.findIn K (.ref C) "__ne__" = some (some (.builtin "object.__ne__"))
  no : ∀ T ∈ (["NoneType", "bool", "int", "str", "list", "tuple"] : List String), PySem.W.subIn K (.type T) (.ref C) = some false
  own : OwnC K C
def eqTy (c : Nat) : Tyc → Bool
  | .ty T => (["NoneType", "bool", "int", "str", "list", "tuple"] : List String).contains T
  | .cls d => d == c
  | .exc _ => false
def isBl (neg : Bool) (Q : WP) : WP := fun v S => match v with
  | .bl b => Q (.bl (neg != b)) S
  | _ => False
def eqOp (neg : Bool) : CmpOp := if neg = true then .NotEq else .Eq
def eqO (cs : Sem) (tb : List (Nat × (Nat × List PArg))) (neg : Bool) (x y : W) (S : Store) (Q : WP) : Prop := match x with
  | .ref a => (match S a with
    | some (.ins c _) => (match tb.lookup c with
      | some p => (match tyW S y with
        | some t => eqTy c t = true ∧ cs.call p.1 (p.2.map (PArg.pick [.ref a, y])) S (isBl neg Q) noX
        | none => False)
      | none => False)
    | _ => cmpW (eqOp neg) x y S Q)
  | _ => cmpW (eqOp neg) x y S Q
section
variable {X : Cx} {G : Wd} {Wx : WX} {cs : Sem} {tb : List (Nat × (Nat × List PArg))} {kit : Kit}
theorem op_eqO (neg : Bool) (tk : Takes X Wx) (hun : X.A.units + 65 < cLine) (ok : KitOk X.K G kit) (C : ∀ p ∈ tb, MethOk X G cs "__eq__" 1 [] p) (hE : ∀ p ∈ tb, EqC X.K (G.cad p.1)) : OpR X (compareOp (eqOp neg)) (lift2 X.K G (eqO cs tb neg)) := by
  intro pins s σ H x y v u Q I rx ry h
  have gen := op_cmpW (X := X) (G := G) (eqOp neg) hun
  obtain ⟨wx, wy, S, Q0, r1, r2, rs, q, hq⟩ := h
  have other : cmpW (eqOp neg) wx wy S Q0 → wpAny (model X.prog X.w) X.A (compareOp (eqOp neg) v u) (EP X pins σ Q) X.xe s := fun q => gen pins s σ H x y v u Q I rx ry ⟨wx, wy, S, Q0, r1, r2, rs, q, hq⟩
  unfold eqO at q
  split at q
  · rename_i a
    split at q
    · rename_i c fs ec
      split at q
      · rename_i p ep
        split at q
        · rename_i t et
          obtain ⟨ht, q⟩ := q
          have Ec := hE (c, p) (lookup_in ep)
          rw [rw_ref] at r1
          subst r1
          obtain rfl : v = Value.ref a := rx
          obtain ⟨u0, hu, dx, gs, rfl, rk⟩ := rs _ _ ec
          obtain ⟨mA, O, _, _, _, _⟩ := ins_get I.hok hu
          obtain ⟨od, J, _⟩ := O.look
          obtain ⟨m, hF⟩ := I.fr
          have ty : TyE X.K H y (t.v G) := tyW_ok ok rs r2 et (fun d e => by
            subst e
            obtain rfl : d = c := by simpa [eqTy] using ht
            exact Ec.own) fun d e => by
            subst e
            cases ht
          obtain ⟨P, kx, hP, _⟩ := kit_ofE I ry ty
          have lk := kx.ty (model X.prog X.w) s.heap I.kIn hP
          have hn : PySem.W.notFirst X.K (G.cad c) (t.v G) = true := by
            unfold PySem.W.notFirst
            cases t with
            | ty T => 
              have := Ec.no T (by simpa [eqTy] using ht)
              rw [show Tyc.v G (.ty T) = Value.type T from rfl, this]
              simp
            | cls d =>
              obtain rfl : d = c := by simpa [eqTy] using ht
              rw [show Tyc.v G (.cls d) = Value.ref (G.cad d) from rfl]
              simp
            | exc d => cases ht
          obtain ⟨fa, fd, ps, k, g, gV, Cc, Mm, Fn, hrm, hb, hl, hp⟩ := (C (c, p) (lookup_in ep)).ex
          have hsp : spOf X.K G ps.length (cs.call p.1) (gV [V.ref a, y] []) H (fun v H' => ∃ b, v = .bl b ∧ Q (.bl (neg != b)) H') (fun _ _ _ => False) :=
            ⟨hl _ _ rfl rfl, _, S, _, _, hp H [.ref a, wy] _ _ rfl rfl (.cons (rw_ref.mpr rfl) (.cons r2 .nil)), rs, q, fun w S' q v H' rv rs' tp' => by
              cases w <;> first | exact q.elim | skip
              rename_i b
              exact ⟨b, rw_bl.mp rv, (hq _ _ q) _ _ (rw_bl.mpr rfl) rs' tp'⟩, fun e S' q => q.elim⟩
          have r1' : Vals [V.ref a, y] [Value.ref a, u] := .cons rfl (.cons ry .nil)
          have r2' := hb.rel r1' .nil
          have run : ∀ A : Around, RoomG k A → A.frames = X.A.frames → wpAny (model X.prog X.w) A (PySem.call (.ref fa) [.ref a, u]) (fun v s' => ∃ b, v = .bool b ∧ EP X pins σ Q (.bool (neg != b)) s') X.xe s := fun A hr hfr => by
            have e0 : Env0 X.prog X.w X.K X.mg X.base A X.stack s H := by
              have e := I.env0
              exact ⟨by rw [hfr]; exact e.frames, e.mod, e.bs, e.bsz, e.funs, e.frf, e.hok, e.bare⟩
            refine wpAny_call (codeAny_mono (Fn.run A X.stack s H ⟨[.ref a, u], []⟩ (g [.ref a, u] []) (gV [.ref a, y] []) _ _ hr e0 (by
              have := hb.to s [.ref a, u] [] I.kIn rfl rfl
              simpa using this) r2' hsp) fun r s' hq' => ?_)
            cases r with
            | error e => exact tk _ _ (XE.of_call (W := Wx) I (fun cls d H' z => z.elim) hq')
            | ok fl =>
              cases fl with
              | ret u2 =>
                obtain ⟨v, H', I3, rv, b, rfl, q3⟩ := I.after hq'
                obtain rfl : u2 = Value.bool b := rv
                exact ⟨b, rfl, .bl (neg != b), H', I3, rfl, q3⟩
              | next => exact False.elim hq'
              | brk => exact False.elim hq'
              | cont => exact False.elim hq'
          cases neg with
          | false =>
            unfold compareOp eqOp
            refine PySem.W.cmp_K (by omega) hF I.ok.mod.kin J lk hn Mm.at_ Mm.fn (wpAny_mono (run X.A (hrm.mono (Nat.le_add_right _ _)) rfl) (fun v s' z => ?_) fun _ _ e => e)
            obtain ⟨b, rfl, z⟩ := z
            simpa [PySem.W.CmpBack] using z
          | true =>
            unfold compareOp eqOp
            refine PySem.W.ne_own (by omega) hF I.ok.mod.kin J lk hn Ec.ne Ec.own.hm Mm.at_ Mm.fn (wpAny_mono (run X.A.in1 ((hrm.in1).mono (Nat.le_add_right k 2)) rfl) (fun v s' z => ?_) fun _ _ e => e)
            obtain ⟨b, rfl, z⟩ := z
            exact ⟨b, rfl, by simpa using z⟩
        · exact q.elim
      · exact q.elim
    · exact other q
  · exact other q
end
end MP
set_option Elab.async false
set_option linter.all false
set_option maxRecDepth 100000
set_option maxHeartbeats 4000000
namespace MP
open PySem PySem.Spec PyProof.Rows L2 RZ
/-! ### a list (true) or a tuple (false) that is walked -/
def SqB (K : PySem.W.Frag) : Bool → Hp → Addr → List V → Prop
  | true, H, a, xs => SqL K H a xs
  | false, H, a, xs => SqT K H a xs
def ItB : Bool → Heap → Addr → Addr → Nat → Prop
  | true, h, it, a, i => h.IsListIter it a i
  | false, h, it, a, i => h.IsTupleIter it a i
theorem ItB.obj {k : Bool} {h : Heap} {it a : Addr} {i : Nat} (t : ItB k h it a i) : ∃ o, h.get? it = some o ∧ ∀ v, o.data ≠ .cell v := by
  cases k
  · obtain ⟨o, ho, hc, hd⟩ := t
    exact ⟨o, ho, fun v q => by rw [hd] at q; cases q⟩
  · obtain ⟨o, ho, hc, hd⟩ := t
    exact ⟨o, ho, fun v q => by rw [hd] at q; cases q⟩
theorem ItB.at {k : Bool} {h h' : Heap} {it a : Addr} {i : Nat} (t : ItB k h it a i) (hk : ∀ o, h.get? it = some o → h'.get? it = some o) : ItB k h' it a i := by
  cases k
  · exact Heap.IsTupleIter.at t hk
  · exact Heap.IsListIter.at t hk
section
variable {X : Cx} {pins : List (Addr × Obj)} {σ : L2.St} {H : Hp} {s : Shared} {a : Addr} {xs ys : List V} {k : Bool}
theorem SqB.inj (I : L2.Inv X pins σ H s) (h1 : SqB X.K k H a xs) (h2 : SqB X.K k H a ys) : xs = ys := by
  cases k
  · exact I.tuple_inj h1 h2
  · exact I.list_inj h1 h2
theorem SqB.draws (hc : X.calm = true) (I : L2.Inv X pins σ H s) (h : SqB X.K k H a xs) (it : Addr) (hai : a ≠ it) : ∃ (its : List Value) (St : Nat → Heap → Prop), Vals xs its ∧
    Draws X.prog X.w X.A.in1 it [it, a] its.length (fun i v => its.toArray[i]? = some v) St ∧ (∀ i, ItB k s.heap it a i → St i s.heap) ∧ ∀ i h, St i h → ItB k h it a i := by
  cases k
  · obtain ⟨its, rv, p, hz⟩ := I.tuple h
    exact ⟨its, _, rv, Draws.tuple (A := X.A.in1) (show X.A.in1.handled = none from I.ok.hd hc) it a hai its.toArray, fun i h0 => ⟨h0, p⟩, fun i h st => st.1⟩
  · obtain ⟨its, rv, p, hz⟩ := I.list h
    exact ⟨its, _, rv, Draws.list (A := X.A.in1) (show X.A.in1.handled = none from I.ok.hd hc) it a hai its.toArray, fun i h0 => ⟨h0, p.isList⟩, fun i h st => st.1⟩
theorem SqB.begins (I : L2.Inv X pins σ H s) (h : SqB X.K k H a xs) : ∃ (o : Obj) (Hh : Heap → Prop), Begins (.ref a) o Hh ∧ Hh s.heap ∧ (∀ (h' : Heap) (it : Addr), h'.get? it = some o → ItB k h' it a 0) ∧ a < s.heap.objs.size := by
  cases k
  · obtain ⟨its, rv, p, hz⟩ := I.tuple h
    obtain ⟨o, ho, _⟩ := id p
    exact ⟨_, _, begins_tuple a its.toArray, p, fun h' it e => ⟨_, e, rfl, rfl⟩, Heap.lt_size ho⟩
  · obtain ⟨its, rv, p, hz⟩ := I.list h
    exact ⟨_, _, begins_list a its.toArray, p.isList, fun h' it e => ⟨_, e, rfl, rfl⟩, p.lt⟩
end
/-! ### zip of two, of any kinds -/
theorem ne_n {x y : Nat} (h : x < y ∨ y < x) : @Ne Addr x y := fun e => by
  have e : (x : Nat) = y := e
  omega
theorem nm2 {x y z : Nat} (h : x ≠ y) (g : x ≠ z) : ¬ @Membership.mem Addr (List Addr) _ [y, z] x := fun e => by
  rcases List.mem_cons.mp e with e | e
  · exact h e
  · exact g (List.mem_singleton.mp e)
theorem sep2_new {n a b : Nat} (la : a < n) (lb : b < n) : ZipSep2 (n + 4) (n + 2) (n + 3) n (n + 1) [n, a] [n + 1, b] where
  TIz := ne_n (by omega)
  TOz := ne_n (by omega)
  TITO := ne_n (by omega)
  TIi1 := ne_n (by omega)
  mem1 := .head _
  zf1 := nm2 (by omega) (by omega)
  Tf1 := nm2 (by omega) (by omega)
  TIi2 := ne_n (by omega)
  mem2 := .head _
  zf2 := nm2 (by omega) (by omega)
  Tf2 := nm2 (by omega) (by omega)
  sep1_2 := nm2 (by omega) (by omega)
  sep2_1 := nm2 (by omega) (by omega)
/-! ### zip of three -/
def ItG3 (K : PySem.W.Frag) (k1 k2 k3 : Bool) (a b c : Addr) : It :=
  ⟨fun i H => ∃ (xs ys zs : List V) (x y v : V), SqB K k1 H a xs ∧ SqB K k2 H b ys ∧ SqB K k3 H c zs ∧ xs[i]? = some x ∧ ys[i]? = some y ∧ zs[i]? = some v,
    fun i H v H' => ∃ T x y u, v = .ref T ∧ H T = none ∧ H' = upd H T (.tup [x, y, u]) ∧ (∀ xs, SqB K k1 H a xs → xs[i]? = some x) ∧ (∀ ys, SqB K k2 H b ys → ys[i]? = some y) ∧ ∀ zs, SqB K k3 H c zs → zs[i]? = some u,
    fun i H => ∃ xs ys zs : List V, SqB K k1 H a xs ∧ SqB K k2 H b ys ∧ SqB K k3 H c zs ∧ min (min xs.length ys.length) zs.length = i⟩
theorem turn_zipG3 {P : Program} {w : World} {K : PySem.W.Frag} {elts : List Expr} {kk : Nat} {tpos : Pos} {a b c z TI TO i1 i2 i3 : Addr} {k1 k2 k3 : Bool} (D : ZipSep3 z TI TO i1 i2 i3 [i1, a] [i2, b] [i3, c]) (ha1 : a ≠ i1) (hb2 : b ≠ i2) (hc3 : c ≠ i3) :
    Turn P w K (.Tuple elts kk tpos) (ItG3 K k1 k2 k3 a b c) [z, TI, TO, i1, i2, i3] z (fun i h => IsZip h z TI TO .none ∧ IsTupOf3 h TI (.ref i1) (.ref i2) (.ref i3) ∧ (∃ x y v, IsTupOf3 h TO x y v) ∧ ItB k1 h i1 a i ∧ ItB k2 h i2 b i ∧ ItB k3 h i3 c i) where
  mem := by simp
  obj := fun i h st c hc => by
    obtain ⟨hz, hTI, ⟨x, y, v, hTO⟩, h1, h2, h3⟩ := st
    have e' : c = z ∨ c = TI ∨ c = TO ∨ c = i1 ∨ c = i2 ∨ c = i3 := by simpa using hc
    rcases e' with q | q | q | q | q | q
    · rw [q]; exact ⟨_, hz, fun v q => nomatch q⟩
    · rw [q]; exact ⟨_, hTI, fun v q => nomatch q⟩
    · rw [q]; exact ⟨_, hTO, fun v q => nomatch q⟩
    · rw [q]; exact h1.obj
    · rw [q]; exact h2.obj
    · rw [q]; exact h3.obj
  keep := fun i h h' st k => by
    obtain ⟨hz, hTI, ⟨x, y, v, hTO⟩, h1, h2, h3⟩ := st
    exact ⟨k z (by simp) _ hz, k TI (by simp) _ hTI, ⟨x, y, v, k TO (by simp) _ hTO⟩, h1.at fun o q => k i1 (by simp) o q, h2.at fun o q => k i2 (by simp) o q, h3.at fun o q => k i3 (by simp) o q⟩
  item := by
    intro X hP hw hK hc i pins s σ H E I hf st hg
    subst hP hw hK
    obtain ⟨hz, hTI, ⟨x0, y0, v0, hTO⟩, h1, h2, h3⟩ := st
    obtain ⟨xs, ys, zs, x, y, v, hqx, hqy, hqz, hx, hy, hv⟩ := hg
    obtain ⟨its, St1, rv, D1, to1, of1⟩ := hqx.draws hc I i1 ha1
    obtain ⟨its2, St2, rv2, D2, to2, of2⟩ := hqy.draws hc I i2 hb2
    obtain ⟨its3, St3, rv3, D3, to3, of3⟩ := hqz.draws hc I i3 hc3
    obtain ⟨u, hu, ru⟩ := rv.get hx
    obtain ⟨u2, hu2, ru2⟩ := rv2.get hy
    obtain ⟨u3, hu3, ru3⟩ := rv3.get hv
    have hzl : z < s.heap.objs.size := Heap.lt_size hz
    refine wpAny_pyNext_zipD3_item D D1 D2 D3 hz hTI hTO (to1 i h1) (to2 i h2) (to3 i h3) (List.getElem?_eq_some_iff.mp hu).1 (List.getElem?_eq_some_iff.mp hu2).1 (List.getElem?_eq_some_iff.mp hu3).1 fun x1 x2 x3 h' tk e1 e2 e3 z' TO' s1 s2 s3 hT hsz hk => ?_
    have e1 : its[i]? = some x1 := by simpa using e1
    have e2 : its2[i]? = some x2 := by simpa using e2
    have e3 : its3[i]? = some x3 := by simpa using e3
    rw [hu] at e1
    rw [hu2] at e2
    rw [hu3] at e3
    cases e1
    cases e2
    cases e3
    refine ⟨_, rfl, wpAny_letOwnedTupleGo_zip (s := { s with heap := h', toks := tk }) z' fun h'' z'' sb => ?_⟩
    have hT2 : h''.get? s.heap.objs.size = some { cls := .type "tuple", data := .seq #[u, u2, u3] } := (sb.2 _ (Nat.ne_of_gt hzl)).trans hT
    have new : ObjOk X.prog X.w (upd H s.heap.objs.size (.tup [x, y, v])) h'' s.heap.objs.size (.tup [x, y, v]) :=
      ⟨by show 3 ≤ sizeLine; decide, [u, u2, u3], .cons ru (.cons ru2 (.cons ru3 .nil)), ⟨_, hT2, rfl, _, rfl⟩⟩
    have I1 : L2.Inv X pins σ (upd H s.heap.objs.size (.tup [x, y, v])) { s with heap := h'', toks := tk } :=
      I.turnedNew (t' := tk) (ch := [z, TI, TO, i1, i2, i3]) (fun c o hb q => (sb.2 c (fun q' => hb (by simp [q']))).trans (hk c o (fun q' => hb (by simp [q'])) (fun q' => hb (by simp [q'])) (fun q' => hb (by simp [q'])) (fun q' => hb (by simp [q'])) (fun q' => hb (by simp [q'])) q)) hf (Nat.le_refl _) new
    refine ⟨.ref s.heap.objs.size, _, I1, rfl, ⟨_, x, y, v, rfl, I.hok.fresh (Nat.le_refl _), rfl, fun l hl => by rw [hl.inj I hqx]; exact hx, fun l hl => by rw [hl.inj I hqy]; exact hy, fun l hl => by rw [hl.inj I hqz]; exact hv⟩, ⟨z'', ?_, ⟨u, u2, u3, ?_⟩, ?_, ?_, ?_⟩, fun c hcm => ?_⟩
    · exact (sb.2 _ D.TIz).trans (hk _ _ D.TIz D.TITO D.TIi1 D.TIi2 D.TIi3 hTI)
    · exact (sb.2 _ D.TOz).trans TO'
    · exact (of1 _ _ s1).at fun o q => (sb.2 _ D.zi1.symm).trans q
    · exact (of2 _ _ s2).at fun o q => (sb.2 _ D.zi2.symm).trans q
    · exact (of3 _ _ s3).at fun o q => (sb.2 _ D.zi3.symm).trans q
    · have hlt : c < s.heap.objs.size := by
        have e' : c = z ∨ c = TI ∨ c = TO ∨ c = i1 ∨ c = i2 ∨ c = i3 := by simpa using hcm
        rcases e' with q | q | q | q | q | q
        · rw [q]; exact hzl
        · rw [q]; exact Heap.lt_size hTI
        · rw [q]; exact Heap.lt_size hTO
        · rw [q]; obtain ⟨_, e1, _⟩ := h1.obj; exact Heap.lt_size e1
        · rw [q]; obtain ⟨_, e2, _⟩ := h2.obj; exact Heap.lt_size e2
        · rw [q]; obtain ⟨_, e3, _⟩ := h3.obj; exact Heap.lt_size e3
      rw [upd_ne (Nat.ne_of_lt hlt)]
      exact (hf c hcm).1
  done := by
    intro X hP hw hK hc i pins s σ H E I hf st hg
    subst hP hw hK
    obtain ⟨hz, hTI, ⟨x0, y0, v0, hTO⟩, h1, h2, h3⟩ := st
    obtain ⟨xs, ys, zs, hqx, hqy, hqz, hend⟩ := hg
    obtain ⟨its, St1, rv, D1, to1, of1⟩ := hqx.draws hc I i1 ha1
    obtain ⟨its2, St2, rv2, D2, to2, of2⟩ := hqy.draws hc I i2 hb2
    obtain ⟨its3, St3, rv3, D3, to3, of3⟩ := hqz.draws hc I i3 hc3
    have l1 := rv.length
    have l2 := rv2.length
    have l3 := rv3.length
    exact wpAny_pyNext_zipD3_end D D1 D2 D3 hz hTI hTO (to1 i h1) (to2 i h2) (to3 i h3) (by omega) (by omega) (by omega) (by omega) fun h' tk hk => ⟨rfl, I.turnedL (t' := tk) (ch := [z, TI, TO, i1, i2, i3]) (fun c o hb q =>
      hk c o (fun q' => hb (by simp [q'])) (fun q' => hb (by simp [q'])) (fun q' => hb (by simp [q'])) (fun q' => hb (by simp [q'])) (fun q' => hb (by simp [q'])) q) hf⟩
  self := fun A i s Q E st h => wpAny_pyIter_zip st.1 h
theorem sep3_new {n a b c : Nat} (la : a < n) (lb : b < n) (lc : c < n) : ZipSep3 (n + 5) (n + 3) (n + 4) n (n + 1) (n + 2) [n, a] [n + 1, b] [n + 2, c] where
  TIz := ne_n (by omega)
  TOz := ne_n (by omega)
  TITO := ne_n (by omega)
  TIi1 := ne_n (by omega)
  mem1 := .head _
  zf1 := nm2 (by omega) (by omega)
  Tf1 := nm2 (by omega) (by omega)
  TIi2 := ne_n (by omega)
  mem2 := .head _
  zf2 := nm2 (by omega) (by omega)
  Tf2 := nm2 (by omega) (by omega)
  TIi3 := ne_n (by omega)
  mem3 := .head _
  zf3 := nm2 (by omega) (by omega)
  Tf3 := nm2 (by omega) (by omega)
  sep1_2 := nm2 (by omega) (by omega)
  sep1_3 := nm2 (by omega) (by omega)
  sep2_1 := nm2 (by omega) (by omega)
  sep2_3 := nm2 (by omega) (by omega)
  sep3_1 := nm2 (by omega) (by omega)
  sep3_2 := nm2 (by omega) (by omega)
def iZipG3 (K : PySem.W.Frag) (ta : TA) : TI := fun σ H R => ta σ H fun vs H1 => ∃ a b c k1 k2 k3 xs ys zs, vs = [.ref a, .ref b, .ref c] ∧ SqB K k1 H1 a xs ∧ SqB K k2 H1 b ys ∧ SqB K k3 H1 c zs ∧ R (ItG3 K k1 k2 k3 a b c) H1
theorem pi_zipG3 {X : Cx} {e e2 e3 : Expr} {ta : TA} {p pos tpos : Pos} {elts : List Expr} {kk : Nat} (hg : Gl X "zip") (hm : X.mg "zip" = none) (ha : PA X [e, e2, e3] ta)
    (hs : starEach [e, e2, e3] X.env = (false, eval e X.env) :: starEach [e2, e3] X.env) (hpl : (backTo pos (starEach [e2, e3] X.env)).any (·.1) = false) :
    PI X (.Tuple elts kk tpos) (.Call (.Name "zip" p) [e, e2, e3] [] pos) (iZipG3 X.K ta) := by
  refine ⟨fun pins s σ H R I h => ?_⟩
  refine Call_ (ld_blt I hg hm PyProof.Rows.boot_zip (PyProof.Rows.callWith_type1 (thn (ha.run pos pins s σ H _ I h) fun us s1 ⟨vs, H1, I1, r1, q1⟩ => ?_) hs hpl))
  obtain ⟨a, b, c, k1, k2, k3, xs, ys, zs, ex, hqx, hqy, hqz, q⟩ := q1
  subst ex
  cases r1 with
  | cons r rr =>
   cases rr with
   | cons r' rr =>
    cases rr with
    | cons r'' rr =>
     cases rr
     cases r
     cases r'
     cases r''
     obtain ⟨o1, G1, B1, g1, t1, la⟩ := hqx.begins I1
     obtain ⟨o2, G2, B2, g2, t2, lb⟩ := hqy.begins I1
     obtain ⟨o3, G3, B3, g3, t3, lc⟩ := hqz.begins I1
     refine zip_begins3 B1 B2 B3 g1 g2 g3 fun h' hz hTI hTO h1 h2 h3 hsz hk => wpAny_pyIter_zip hz ?_
     have I2 : L2.Inv X pins σ H1 { s1 with heap := h' } := I1.kept (t' := s1.toks) hk
     refine ⟨s1.heap.objs.size + 5, [s1.heap.objs.size + 5, s1.heap.objs.size + 3, s1.heap.objs.size + 4, s1.heap.objs.size, s1.heap.objs.size + 1, s1.heap.objs.size + 2], _, _, H1, rfl, I2, turn_zipG3 (k1 := k1) (k2 := k2) (k3 := k3) (a := a) (b := b) (c := c) (sep3_new la lb lc) (Nat.ne_of_lt la) (Nat.ne_of_lt (Nat.lt_succ_of_lt lb)) (Nat.ne_of_lt (Nat.lt_add_right 2 lc)), ⟨hz, hTI, ⟨_, _, _, hTO⟩, t1 _ _ h1, t2 _ _ h2, t3 _ _ h3⟩, fun d hcm => ?_, q⟩
     have hle : s1.heap.objs.size ≤ d := by
       have e' : d = s1.heap.objs.size + 5 ∨ d = s1.heap.objs.size + 3 ∨ d = s1.heap.objs.size + 4 ∨ d = s1.heap.objs.size ∨ d = s1.heap.objs.size + 1 ∨ d = s1.heap.objs.size + 2 := by simpa using hcm
       rcases e' with z | z | z | z | z | z <;> rw [z] <;> first | exact Nat.le_add_right _ _ | exact Nat.le_refl _
     exact I1.fpOk hle (I1.hok.fresh hle)
/-! ### by trees -/
/-- a walked thing as a tree: a list's place, a tuple -/
def sqW (S : Store) : W → Option (List W)
  | .ref a => items? S (.ref a)
  | .tup ws => some ws
  | .kls ws => some ws
  | _ => none
def stlW (x : W) (xs : List W) (S : Store) : Prop := match x with
  | .ref a => stillL (.ref a) xs S
  | _ => True
theorem sqW_ok {K : PySem.W.Frag} {G : Wd} {S : Store} {H1 : Hp} {x : W} {v : V} {ws : List W} (rs : RS K G S H1) (r : RW K G H1 x v) (e : sqW S x = some ws) :
    ∃ a k, v = .ref a ∧ ∀ (S : Store) (H : Hp), RS K G S H → TP H1 H → stlW x ws S → ∃ vs, SqB K k H a vs ∧ RWs K G H ws vs := by
  cases x with
  | ref a =>
    rw [rw_ref] at r
    exact ⟨a, true, r, fun S H rs tp st => items_ref rs st⟩
  | tup xs =>
    cases e
    obtain ⟨a, vs, rfl, tA, rr⟩ := rw_tup.mp r
    exact ⟨a, false, rfl, fun S H rs tp st => ⟨vs, (tp.at tA).sq, rr.mono tp⟩⟩
  | kls xs =>
    cases e
    obtain ⟨a, vs, rfl, tA, rr⟩ := rw_kls.mp r
    exact ⟨a, true, rfl, fun S H rs tp st => ⟨vs, tA.sq, rr.mono tp⟩⟩
  | _ => cases e
theorem stlW_now {S : Store} {x : W} {ws : List W} (e : sqW S x = some ws) : stlW x ws S := by
  cases x <;> first | exact trivial | exact e
def zipI3 : List W → List W → List W → List W
  | x :: xs, y :: ys, z :: zs => .tup [x, y, z] :: zipI3 xs ys zs
  | _, _, _ => []
theorem zipI3_of : ∀ {xs ys zs : List W} {i : Nat} {w : W}, (zipI3 xs ys zs)[i]? = some w → ∃ x y z, xs[i]? = some x ∧ ys[i]? = some y ∧ zs[i]? = some z ∧ w = .tup [x, y, z]
  | [], ys, zs, i, w, h => by simp [zipI3] at h
  | a :: xs, [], zs, i, w, h => by simp [zipI3] at h
  | a :: xs, b :: ys, [], i, w, h => by simp [zipI3] at h
  | a :: xs, b :: ys, c :: zs, 0, w, h => by simp [zipI3] at h; exact ⟨a, b, c, rfl, rfl, rfl, h.symm⟩
  | a :: xs, b :: ys, c :: zs, i + 1, w, h => by
    simp only [zipI3, List.getElem?_cons_succ] at h ⊢
    exact zipI3_of h
theorem zipI3_len : ∀ {xs ys zs : List W}, (zipI3 xs ys zs).length = min (min xs.length ys.length) zs.length
  | [], ys, zs => by simp [zipI3]
  | a :: xs, [], zs => by simp [zipI3]
  | a :: xs, b :: ys, [] => by simp [zipI3]
  | a :: xs, b :: ys, c :: zs => by simp only [zipI3, List.length_cons, zipI3_len]; omega
def zp3I (t : TwA) : TwI := fun σ S Q E => t σ S (fun xs S1 => match xs with
  | [x, y, z] => (match sqW S1 x, sqW S1 y, sqW S1 z with
    | some xs, some ys, some zs => Q (zipI3 xs ys zs) (fun S => stlW x xs S ∧ stlW y ys S ∧ stlW z zs S) S1
    | _, _, _ => False)
  | _ => False) E
theorem trip_new {K : PySem.W.Frag} {G : Wd} {S : Store} {H : Hp} {T : Addr} {x y z : W} {v u t : V} (rs : RS K G S H) (h : H T = none) (rx : RW K G H x v) (ry : RW K G H y u) (rz : RW K G H z t) :
    RW K G (upd H T (.tup [v, u, t])) (.tup [x, y, z]) (.ref T) ∧ RS K G S (upd H T (.tup [v, u, t])) ∧ TP H (upd H T (.tup [v, u, t])) :=
  ⟨rw_tup.mpr ⟨T, _, rfl, .inl upd_same, (RWs.cons rx (.cons ry (.cons rz .nil))).mono (.new h)⟩, rs.newT h, .new h⟩
section
variable {X : Cx} {G : Wd} {Wx : WX} {e : Expr}
theorem iw_zip3 {elts : List Expr} {kk : Nat} {tpos p pos : Pos} {e2 e3 : Expr} {u : TwA} (hg : Gl X "zip") (hm : X.mg "zip" = none) (ha : PAw X G Wx [e, e2, e3] u) (hs : starEach [e, e2, e3] X.env = (false, eval e X.env) :: starEach [e2, e3] X.env) (hpl : (backTo pos (starEach [e2, e3] X.env)).any (·.1) = false) :
    PIw X G Wx (.Tuple elts kk tpos) (.Call (.Name "zip" p) [e, e2, e3] [] pos) (zp3I u) := by
  refine PI.imp (pi_zipG3 hg hm ha hs hpl) fun σ H R q => ?_
  obtain ⟨σw, S, Q0, E0, rσ, rs, q, hq, he⟩ := q
  refine ⟨σw, S, _, E0, rσ, rs, q, fun x S1 q1 v1 H1 r1 rs1 tp1 => ?_, he⟩
  split at q1
  · rename_i x y z
    obtain ⟨v, r, rfl, rv, r1⟩ := rws_cons.mp r1
    obtain ⟨v2, v3, rfl, rv2, rv3⟩ := rws2 r1
    split at q1
    · rename_i xs ys zs e1 e2 e3
      obtain ⟨a, k1, rfl, s1⟩ := sqW_ok rs1 rv e1
      obtain ⟨b, k2, rfl, s2⟩ := sqW_ok rs1 rv2 e2
      obtain ⟨c, k3, rfl, s3⟩ := sqW_ok rs1 rv3 e3
      obtain ⟨vs, sq, _⟩ := s1 S1 H1 rs1 .refl (stlW_now e1)
      obtain ⟨us, sq2, _⟩ := s2 S1 H1 rs1 .refl (stlW_now e2)
      obtain ⟨ts, sq3, _⟩ := s3 S1 H1 rs1 .refl (stlW_now e3)
      refine ⟨a, b, c, k1, k2, k3, vs, us, ts, rfl, sq, sq2, sq3, hq _ _ _ q1 _ _ ⟨fun S H i w rs tp st e => ?_, fun S H rs tp st => ?_⟩ rs1 tp1⟩
      · obtain ⟨vs, sq, rr⟩ := s1 S H rs tp st.1
        obtain ⟨us, sq2, rr2⟩ := s2 S H rs tp st.2.1
        obtain ⟨ts, sq3, rr3⟩ := s3 S H rs tp st.2.2
        obtain ⟨x, y, z, e1, e2, e3, rfl⟩ := zipI3_of e
        obtain ⟨v, f1, r1⟩ := rr.get e1
        obtain ⟨u, f2, r2⟩ := rr2.get e2
        obtain ⟨t, f3, r3⟩ := rr3.get e3
        refine ⟨⟨vs, us, ts, v, u, t, sq, sq2, sq3, f1, f2, f3⟩, fun z H' y => ?_⟩
        obtain ⟨T, v', u', t', rfl, hT, rfl, g1, g2, g3⟩ := y
        have h1 := g1 vs sq
        have h2 := g2 us sq2
        have h3 := g3 ts sq3
        rw [f1] at h1
        rw [f2] at h2
        rw [f3] at h3
        cases h1
        cases h2
        cases h3
        exact trip_new rs hT r1 r2 r3
      · obtain ⟨vs, sq, rr⟩ := s1 S H rs tp st.1
        obtain ⟨us, sq2, rr2⟩ := s2 S H rs tp st.2.1
        obtain ⟨ts, sq3, rr3⟩ := s3 S H rs tp st.2.2
        exact ⟨vs, us, ts, sq, sq2, sq3, by rw [zipI3_len, rr.length, rr2.length, rr3.length]⟩
    · exact q1.elim
  · exact q1.elim
end
end MP
set_option Elab.async false
set_option linter.all false
set_option maxRecDepth 100000
set_option maxHeartbeats 4000000
namespace PySem
open Sem (wp)
/-! ### zip(v1, v2, strict=True) -/
abbrev IsZipS (h : Heap) (z TI TO : Addr) (f0 : Value) : Prop := h.get? z = some { cls := .type "zip", dict := none, data := .fields #[f0, .bool false, .bool true, .ref TI, .ref TO], slots := #[] }
section
variable {prog : Program} {w : World} {A : Around} {E : Value → Shared → Prop} {s : Shared} {z TI TO i1 i2 it : Addr} {fp fp1 fp2 : List Addr} {n n1 n2 i : Nat} {P P1 P2 : Nat → Value → Prop} {St St1 St2 : Nat → Heap → Prop} {a1 a2 : Value}
theorem Draws.orItem {Q : Option Value → Shared → Prop} (D : Draws prog w A it fp n P St) (hi : i < n) (st : St i s.heap) (h : ∀ x h' tk, P i x → St (i + 1) h' → Heap.SameBut it s.heap h' → Q (some x) { s with heap := h', toks := tk }) :
    wpAny (model prog w) A (Builtin.SmallTypes.nextOrEnd (.ref it)) Q E s := by
  unfold Builtin.SmallTypes.nextOrEnd
  exact wpAny_bind (wpAny_attempt (D.item i s _ _ hi st fun x h' tk p t b => wpAny_pure (h x h' tk p t b)))
theorem Draws.orEnd {Q : Option Value → Shared → Prop} (D : Draws prog w A it fp n P St) (st : St n s.heap) (h : ∀ h', Heap.ExtBut it s.heap h' → Q none { s with heap := h' }) :
    wpAny (model prog w) A (Builtin.SmallTypes.nextOrEnd (.ref it)) Q E s := by
  unfold Builtin.SmallTypes.nextOrEnd
  refine wpAny_bind (wpAny_attempt (D.done s _ _ st fun h' e x ⟨o, ho, hc⟩ => ?_))
  refine wpAny_bind (wpAny_isInstance (T := "StopIteration") (b := true) ⟨o, ho, hc⟩ isSubtype_stop ?_)
  exact wpAny_pure (h h' x)
theorem wpAny_stop {α : Type} {M : Model} {Q : α → Shared → Prop} (hh : A.handled = none) (h : ∀ h' e, (∀ b o, s.heap.get? b = some o → h'.get? b = some o) → (∃ o, h'.get? e = some o ∧ o.cls = .type "StopIteration") → E (.ref e) { s with heap := h' }) :
    wpAny M A (Builtin.SmallTypes.stopIteration : Sem α) Q E s := by
  unfold Builtin.SmallTypes.stopIteration newExc newTuple
  refine wpAny_bind (wpAny_bind (wpAny_newObj_type ?_ (by size_fits)))
  refine wpAny_bind (m := firstArgMember _ _) (wpAny_of_eq (a := Value.none) (by first | rfl | (simp only [firstArgMember]; rfl)) ?_)
  refine wpAny_newObj_type ?_ (by size_fits)
  unfold raiseNew
  refine wpAny_bind (wpAny_handled ?_)
  rw [hh]
  refine wpAny_bind (wpAny_pure (wpAny_throw ?_))
  exact h _ _ (fun b o e => Heap.get?_push_of_some _ (Heap.get?_push_of_some _ e)) ⟨_, Heap.get?_push_size _ rfl, rfl⟩
/-- the next pair -/
theorem zipS_item {Q : Value → Shared → Prop} (S : ZipSep2 z TI TO i1 i2 fp1 fp2) (D1 : Draws prog w A i1 fp1 n1 P1 St1) (D2 : Draws prog w A i2 fp2 n2 P2 St2)
    (hz : IsZipS s.heap z TI TO .none) (hTI : IsTupOf2 s.heap TI (.ref i1) (.ref i2)) (hTO : IsTupOf2 s.heap TO a1 a2) (st1 : St1 i s.heap) (st2 : St2 i s.heap) (hlt1 : i < n1) (hlt2 : i < n2)
    (hQ : ∀ x1 x2 h' tk, P1 i x1 → P2 i x2 → IsZipS h' z TI TO (rawInt s.heap.objs.size) → IsTupOf2 h' TO x1 x2 → St1 (i + 1) h' → St2 (i + 1) h' → IsTupOf2 h' s.heap.objs.size x1 x2 → h'.objs.size = s.heap.objs.size + 1 →
      (∀ c o, c ≠ z → c ≠ TO → c ≠ i1 → c ≠ i2 → s.heap.get? c = some o → h'.get? c = some o) → Q (.ref s.heap.objs.size) { s with heap := h', toks := tk }) :
    wpAny (model prog w) A (Builtin.«zip.__next__» ⟨[.ref z], []⟩) (fun fin s' => ∃ v, fin = .done (.ret v) ∧ Q v s') E s := by
  obtain ⟨hp, g, d, tk0, os⟩ := s
  show wpAny _ _ (field (.ref z) 2 >>= _) _ _ _
  refine wpAny_bind (wpAny_field hz rfl (x := .bool true) rfl ?_)
  show wpAny _ _ (field (.ref z) 3 >>= _) _ _ _
  refine wpAny_bind (wpAny_field hz rfl (x := .ref TI) rfl ?_)
  refine wpAny_bind (wpAny_seqItems hTI rfl ?_)
  show wpAny _ _ (Builtin.SmallTypes.ownedTupleIsFree (.ref z) >>= _) _ _ _
  refine wpAny_bind ?_
  unfold Builtin.SmallTypes.ownedTupleIsFree
  refine wpAny_bind (wpAny_field hz rfl (x := .none) rfl (wpAny_pure ?_))
  simp only [if_true]
  refine wpAny_bind (wpAny_rule ?_)
  refine wpAny_bind (wpAny_field hz rfl (x := .ref TO) rfl ?_)
  refine wpAny_bind (wpAny_setField_rec hz (by simp) fun g0 hz0 hs0 => ?_)
  replace hz0 : IsZipS g0 z TI TO .ellipsis := hz0
  replace hs0 : Heap.SameBut z hp g0 := hs0
  refine wpAny_bind ?_
  simp only [List.zipIdx_cons, List.zipIdx_nil, List.forIn_cons, List.forIn_nil]
  refine wpAny_bind (wpAny_bind (wpAny_onRaise ?_))
  show wpAny _ _ (Builtin.SmallTypes.nextOrEnd (.ref i1)) _ _ ⟨g0, g, d, tk0, os⟩
  refine D1.orItem hlt1 (D1.over st1 hs0 S.zf1) fun x1 p1 tk1 hx1 sn1 hp1 => ?_
  replace hp1 : Heap.SameBut i1 g0 p1 := hp1
  have hU1 : IsTupOf2 p1 TO a1 a2 := hp1.extBut _ _ S.Ti1 (hs0.extBut _ _ S.TOz hTO)
  refine wpAny_bind (wpAny_seqItems (s := ⟨p1, g, d, tk1, os⟩) hU1 rfl ?_)
  refine wpAny_bind (updateSeq_IsTupOf2 (s := ⟨p1, g, d, tk1, os⟩) hU1 fun g1 hT1 hs1 => ?_)
  replace hT1 : IsTupOf2 g1 TO x1 a2 := hT1
  replace hs1 : Heap.SameBut TO p1 g1 := hs1
  refine wpAny_bind (wpAny_letGo (wpAny_pure ?_))
  refine wpAny_bind (wpAny_bind (wpAny_onRaise ?_))
  show wpAny _ _ (Builtin.SmallTypes.nextOrEnd (.ref i2)) _ _ ⟨g1, g, d, tk1, os⟩
  refine D2.orItem hlt2 (D2.over (D2.over (D2.over st2 hs0 S.zf2) hp1 S.sep1_2) hs1 S.Tf2) fun x2 p2 tk2 hx2 sn2 hp2 => ?_
  replace hp2 : Heap.SameBut i2 g1 p2 := hp2
  have hU2 : IsTupOf2 p2 TO x1 a2 := hp2.extBut _ _ S.Ti2 hT1
  refine wpAny_bind (wpAny_seqItems (s := ⟨p2, g, d, tk2, os⟩) hU2 rfl ?_)
  refine wpAny_bind (updateSeq_IsTupOf2 (s := ⟨p2, g, d, tk2, os⟩) hU2 fun g2 hT2 hs2 => ?_)
  replace hT2 : IsTupOf2 g2 TO x1 x2 := hT2
  replace hs2 : Heap.SameBut TO p2 g2 := hs2
  refine wpAny_bind (wpAny_letGo (wpAny_pure (wpAny_pure ?_)))
  refine wpAny_bind (wpAny_seqItems (s := ⟨g2, g, d, tk2, os⟩) hT2 rfl ?_)
  refine wpAny_bind (wpAny_newTuple ?_)
  have hsz : g2.objs.size = hp.objs.size := by rw [hs2.1, hp2.1, hs1.1, hp1.1, hs0.1]
  have hzz : IsZipS g2 z TI TO .ellipsis := (hs2.extBut _ _ S.TOz.symm (hp2.extBut _ _ S.zi2 (hs1.extBut _ _ S.TOz.symm (hp1.extBut _ _ S.zi1 hz0))))
  have hkk : ∀ c o, c ≠ z → c ≠ TO → c ≠ i1 → c ≠ i2 → hp.get? c = some o → g2.get? c = some o := fun c o cz cT c1 c2 e =>
    (hs2.extBut _ _ cT (hp2.extBut _ _ c2 (hs1.extBut _ _ cT (hp1.extBut _ _ c1 (hs0.extBut _ _ cz e)))))
  have hj1 : St1 (i + 1) g2 := (D1.over (D1.over (D1.over sn1 hs1 S.Tf1) hp2 S.sep2_1) hs2 S.Tf1)
  have hj2 : St2 (i + 1) g2 := (D2.over sn2 hs2 S.Tf2)
  have hzlt : z < g2.objs.size := Heap.lt_size hzz
  show wpAny _ _ (Builtin.SmallTypes.ownedTupleHandOut (.ref z) (.ref g2.objs.size) >>= _) _ _ ⟨g2.push { cls := .type "tuple", data := .seq #[x1, x2] }, g, d, tk2, os⟩
  refine wpAny_bind ?_
  unfold Builtin.SmallTypes.ownedTupleHandOut
  have hz6 : IsZipS (g2.push { cls := .type "tuple", data := .seq #[x1, x2] }) z TI TO .ellipsis := Heap.get?_push_of_some _ hzz
  refine wpAny_bind (wpAny_setField_rec hz6 (by simp) fun h7 hz7 hs7 => ?_)
  replace hz7 : IsZipS h7 z TI TO (rawInt g2.objs.size) := hz7
  refine wpAny_setField_rec hz7 (by simp) fun h8 hz8 hs8 => ?_
  replace hz8 : IsZipS h8 z TI TO (rawInt g2.objs.size) := hz8
  replace hs7 : Heap.SameBut z (g2.push { cls := .type "tuple", data := .seq #[x1, x2] }) h7 := hs7
  replace hs8 : Heap.SameBut z h7 h8 := hs8
  have up : ∀ c o, c ≠ z → g2.get? c = some o → h8.get? c = some o := fun c o c1 e => hs8.extBut _ _ c1 (hs7.extBut _ _ c1 (Heap.get?_push_of_some _ e))
  have hT8 : IsTupOf2 h8 g2.objs.size x1 x2 := hs8.extBut _ _ (Nat.ne_of_gt hzlt) (hs7.extBut _ _ (Nat.ne_of_gt hzlt) (Heap.get?_push_size _ rfl))
  have hz9 : h8.objs.size = g2.objs.size + 1 := by rw [hs8.1, hs7.1, Heap.size_push]
  rw [hsz] at hz8 hT8 hz9
  refine wpAny_pure ⟨_, rfl, ?_⟩
  show Q (.ref g2.objs.size) ⟨h8, g, d, tk2, os⟩
  rw [hsz]
  exact hQ x1 x2 h8 tk2 hx1 hx2 hz8 (up _ _ S.TOz hT2) (D1.frame _ _ _ hj1 fun b hb o e => up b o (fun q => S.zf1 (q ▸ hb)) e) (D2.frame _ _ _ hj2 fun b hb o e => up b o (fun q => S.zf2 (q ▸ hb)) e) hT8 hz9 fun c o cz cT c1 c2 e => up c o cz (hkk c o cz cT c1 c2 e)
/-- both at their ends -/
theorem zipS_end {Q : Fin → Shared → Prop} (hh : A.handled = none) (S : ZipSep2 z TI TO i1 i2 fp1 fp2) (D1 : Draws prog w A i1 fp1 n1 P1 St1) (D2 : Draws prog w A i2 fp2 n2 P2 St2)
    (hz : IsZipS s.heap z TI TO .none) (hTI : IsTupOf2 s.heap TI (.ref i1) (.ref i2)) (hTO : IsTupOf2 s.heap TO a1 a2) (st1 : St1 n1 s.heap) (st2 : St2 n2 s.heap)
    (hE : ∀ h' tk e, (∀ c o, c ≠ z → c ≠ TO → c ≠ i1 → c ≠ i2 → s.heap.get? c = some o → h'.get? c = some o) → (∃ o, h'.get? e = some o ∧ o.cls = .type "StopIteration") → E (.ref e) { s with heap := h', toks := tk }) :
    wpAny (model prog w) A (Builtin.«zip.__next__» ⟨[.ref z], []⟩) Q E s := by
  obtain ⟨hp, g, d, tk0, os⟩ := s
  show wpAny _ _ (field (.ref z) 2 >>= _) _ _ _
  refine wpAny_bind (wpAny_field hz rfl (x := .bool true) rfl ?_)
  show wpAny _ _ (field (.ref z) 3 >>= _) _ _ _
  refine wpAny_bind (wpAny_field hz rfl (x := .ref TI) rfl ?_)
  refine wpAny_bind (wpAny_seqItems hTI rfl ?_)
  show wpAny _ _ (Builtin.SmallTypes.ownedTupleIsFree (.ref z) >>= _) _ _ _
  refine wpAny_bind ?_
  unfold Builtin.SmallTypes.ownedTupleIsFree
  refine wpAny_bind (wpAny_field hz rfl (x := .none) rfl (wpAny_pure ?_))
  simp only [if_true]
  refine wpAny_bind (wpAny_rule ?_)
  refine wpAny_bind (wpAny_field hz rfl (x := .ref TO) rfl ?_)
  refine wpAny_bind (wpAny_setField_rec hz (by simp) fun g0 hz0 hs0 => ?_)
  replace hz0 : IsZipS g0 z TI TO .ellipsis := hz0
  replace hs0 : Heap.SameBut z hp g0 := hs0
  refine wpAny_bind ?_
  simp only [List.zipIdx_cons, List.zipIdx_nil, List.forIn_cons, List.forIn_nil]
  refine wpAny_bind (wpAny_bind (wpAny_onRaise ?_))
  show wpAny _ _ (Builtin.SmallTypes.nextOrEnd (.ref i1)) _ _ ⟨g0, g, d, tk0, os⟩
  refine D1.orEnd (D1.over st1 hs0 S.zf1) fun q1 hq1 => ?_
  replace hq1 : Heap.ExtBut i1 g0 q1 := hq1
  have hz1 : IsZipS q1 z TI TO .ellipsis := hq1 _ _ S.zi1 hz0
  refine wpAny_bind (wpAny_setField_rec (s := ⟨q1, g, d, tk0, os⟩) hz1 (by simp) fun q2 hz2 hs2 => ?_)
  replace hs2 : Heap.SameBut z q1 q2 := hs2
  have st2' : St2 n2 q2 := D2.over (D2.frame _ _ _ (D2.over st2 hs0 S.zf2) fun b hb o e => hq1 b o (fun q => S.sep1_2 (q ▸ hb)) e) hs2 S.zf2
  refine wpAny_bind (wpAny_bind ?_)
  show wpAny _ _ (_ >>= _) _ _ _
  refine wpAny_bind ?_
  show wpAny _ _ (Builtin.SmallTypes.nextOrEnd (.ref i2) >>= _) _ _ _
  refine wpAny_bind (D2.orEnd st2' fun q3 hq3 => ?_)
  replace hq3 : Heap.ExtBut i2 q2 q3 := hq3
  simp only [Option.isSome_none, Bool.false_eq_true, if_false]
  refine wpAny_pure ?_
  show wpAny _ _ (pure PUnit.unit) _ _ _
  refine wpAny_pure ?_
  show wpAny _ _ (rule _ >>= fun _ => Builtin.SmallTypes.stopIteration) _ _ _
  refine wpAny_bind (wpAny_rule ?_)
  refine wpAny_stop hh fun h' e hk he => ?_
  exact hE h' _ e (fun c o cz cT c1 c2 x => hk _ _ (hq3 _ _ c2 (hs2.extBut _ _ cz (hq1 _ _ c1 (hs0.extBut _ _ cz x))))) he
theorem wpAny_pyNext_zipS_item {Q : Option Value → Shared → Prop} (S : ZipSep2 z TI TO i1 i2 fp1 fp2) (D1 : Draws prog w A.in1 i1 fp1 n1 P1 St1) (D2 : Draws prog w A.in1 i2 fp2 n2 P2 St2)
    (hz : IsZipS s.heap z TI TO .none) (hTI : IsTupOf2 s.heap TI (.ref i1) (.ref i2)) (hTO : IsTupOf2 s.heap TO a1 a2) (st1 : St1 i s.heap) (st2 : St2 i s.heap) (hlt1 : i < n1) (hlt2 : i < n2)
    (hQ : ∀ x1 x2 h' tk, P1 i x1 → P2 i x2 → IsZipS h' z TI TO (rawInt s.heap.objs.size) → IsTupOf2 h' TO x1 x2 → St1 (i + 1) h' → St2 (i + 1) h' → IsTupOf2 h' s.heap.objs.size x1 x2 → h'.objs.size = s.heap.objs.size + 1 →
      (∀ c o, c ≠ z → c ≠ TO → c ≠ i1 → c ≠ i2 → s.heap.get? c = some o → h'.get? c = some o) → Q (some (.ref s.heap.objs.size)) { s with heap := h', toks := tk }) :
    wpAny (model prog w) A (pyNext (.ref z)) Q E s := by
  have hT : s.TypeIs (.ref z) "zip" := ⟨_, hz, rfl⟩
  unfold pyNext
  exact wpAny_bind (wpAny_attempt (wpAny_callSpecial?_slot (name := Str.ofString "__next__") hT F.slot_zip_next
    (wpAny_call_entry F.slot_zip_next hT F.entry_zip_next
      (zipS_item S D1 D2 hz hTI hTO st1 st2 hlt1 hlt2 fun x1 x2 h' tk y1 y2 b1 b2 d1 d2 b5 b6 b7 => wpAny_pure (hQ x1 x2 h' tk y1 y2 b1 b2 d1 d2 b5 b6 b7)) (F.args_zip_next_1 _))))
theorem wpAny_pyNext_zipS_end {Q : Option Value → Shared → Prop} (hh : A.in1.handled = none) (S : ZipSep2 z TI TO i1 i2 fp1 fp2) (D1 : Draws prog w A.in1 i1 fp1 n1 P1 St1) (D2 : Draws prog w A.in1 i2 fp2 n2 P2 St2)
    (hz : IsZipS s.heap z TI TO .none) (hTI : IsTupOf2 s.heap TI (.ref i1) (.ref i2)) (hTO : IsTupOf2 s.heap TO a1 a2) (st1 : St1 n1 s.heap) (st2 : St2 n2 s.heap)
    (hQ : ∀ h' tk, (∀ c o, c ≠ z → c ≠ TO → c ≠ i1 → c ≠ i2 → s.heap.get? c = some o → h'.get? c = some o) → Q none { s with heap := h', toks := tk }) : wpAny (model prog w) A (pyNext (.ref z)) Q E s := by
  have hT : s.TypeIs (.ref z) "zip" := ⟨_, hz, rfl⟩
  unfold pyNext
  refine wpAny_bind (wpAny_attempt (wpAny_callSpecial?_slot (name := Str.ofString "__next__") hT F.slot_zip_next
    (wpAny_call_entry F.slot_zip_next hT F.entry_zip_next (zipS_end hh S D1 D2 hz hTI hTO st1 st2 fun h' tk e hk he => ?_) (F.args_zip_next_1 _))))
  obtain ⟨o, ho, hc⟩ := he
  refine wpAny_bind (wpAny_isInstance (T := "StopIteration") (b := true) ⟨o, ho, hc⟩ isSubtype_stop ?_)
  exact wpAny_pure (hQ _ _ hk)
theorem wpAny_letOwnedTupleGo_zipS {elts : List Expr} {x1} {pos : Pos} {T : Addr} {Q : Unit → Shared → Prop} (hz : IsZipS s.heap z TI TO (rawInt T))
    (hQ : ∀ h', IsZipS h' z TI TO .none → Heap.SameBut z s.heap h' → Q () { s with heap := h' }) :
    wpAny (model prog w) A (letOwnedTupleGo (.Tuple elts x1 pos) (.ref z) (.ref T)) Q E s := by
  unfold letOwnedTupleGo
  refine wpAny_bind (wpAny_load hz ?_)
  show wpAny _ _ (if (["enumerate", "zip", "dict_itemiterator", "dict_reverseitemiterator", "odict_iterator", "itertools.zip_longest", "itertools.pairwise"].contains "zip" &&
      (#[rawInt T, .bool false, .bool true, .ref TI, .ref TO] : Array Value)[0]? == some (rawInt T)) = true then _ else _) Q E s
  rw [if_pos (by simp)]
  refine wpAny_bind (wpAny_rule ?_)
  show wpAny _ _ (setField (.ref z) 0 .none) Q E s
  exact wpAny_setField_rec hz (by simp) fun h' hz' hs' => hQ h' hz' hs'
theorem wpAny_pyIter_zipS {f0 : Value} {Q : Value → Shared → Prop} (hz : IsZipS s.heap z TI TO f0) (h : Q (.ref z) s) : wpAny (model prog w) A (pyIter (.ref z)) Q E s := by
  have hT : s.TypeIs (.ref z) "zip" := ⟨_, hz, rfl⟩
  refine wpAny_pyIter_slot hT F.slot_zip_iter (wpAny_call_entry F.slot_zip_iter hT F.entry_zip_iter ?_ (F.args_zip_iter_1 _))
  show wpAny _ _ (ret (.ref z)) _ _ s
  exact wpAny_pure ⟨_, rfl, "zip", _, hT, F.slot_zip_next.lookup, h⟩
end
abbrev gzZS (h : Heap) (o1 o2 : Obj) : Heap := (gzO2 h o1 o2).push { cls := .type "zip", data := .fields #[.none, .bool false, .bool true, .ref ((h.push o1).push o2).objs.size, .ref (gzT2 h o1 o2).objs.size] }
theorem F.typeCall_zip_S (a b : Value) : checkTypeCall "zip" ⟨[a, b], [(Str.ofString "strict", .bool true)]⟩ = pure () := by kernel_rfl
theorem F.newCall_zip_S (a b : Value) : checkBuiltinCall "zip.__new__" ⟨[.type "zip", a, b], [(Str.ofString "strict", .bool true)]⟩ = pure () := by kernel_rfl
theorem F.args_object_init_S (obj a b : Value) : argsOk "object.__init__" ⟨[obj, a, b], [(Str.ofString "strict", .bool true)]⟩ := by unfold argsOk; kernel_rfl
theorem meets_zip_newS {v1 v2 : Value} {o1 o2 : Obj} {H1 H2 : Heap → Prop} (B1 : Begins v1 o1 H1) (B2 : Begins v2 o2 H2) :
    Meets (Builtin.«zip.__new__» ⟨[.type "zip", v1, v2], [(Str.ofString "strict", .bool true)]⟩) (fun _ R s => (H1 s.heap ∧ H2 s.heap) ∧
      R (.ok (.ret (.ref (gzO2 s.heap o1 o2).objs.size))) { s with heap := gzZS s.heap o1 o2 }) :=
  .of_wp fun prog w A R s h => by
    obtain ⟨hp, g, d, tk, os⟩ := s; obtain ⟨⟨h1, h2⟩, h⟩ := h
    have hsub := sub_zip
    have e1 : (Str.ofString "strict" == ("strict" : Str)) = true := by decide +kernel
    have e2 : (Str.ofString "strict" != ("strict" : Str)) = false := by decide +kernel
    have q1 : ∀ {A' : Around} {E : Value → Shared → Prop} {Q : Value → Shared → Prop}, Q (.ref hp.objs.size) ⟨(hp.push o1), g, d, tk, os⟩ → wpAny (model prog w) A' (pyIter v1) Q E ⟨hp, g, d, tk, os⟩ :=
      fun q => B1.iter prog w _ _ ⟨hp, g, d, tk, os⟩ _ (B1.keeps _ _ h1 fun b o' e => e) q
    have q2 : ∀ {A' : Around} {E : Value → Shared → Prop} {Q : Value → Shared → Prop}, Q (.ref (hp.push o1).objs.size) ⟨((hp.push o1).push o2), g, d, tk, os⟩ → wpAny (model prog w) A' (pyIter v2) Q E ⟨(hp.push o1), g, d, tk, os⟩ :=
      fun q => B2.iter prog w _ _ ⟨(hp.push o1), g, d, tk, os⟩ _ (B2.keeps _ _ h2 fun b o' e => (Heap.get?_push_of_some _ e)) q
    wp_walk using q1, q2
    exact ⟨_, rfl, h⟩
section
variable {prog : Program} {w : World} {A : Around} {E : Value → Shared → Prop} {s : Shared}
theorem zip_beginsS {v1 v2 : Value} {o1 o2 : Obj} {H1 H2 : Heap → Prop} {Q : Value → Shared → Prop} (B1 : Begins v1 o1 H1) (B2 : Begins v2 o2 H2) (h1 : H1 s.heap) (h2 : H2 s.heap)
    (h : ∀ h', IsZipS h' (s.heap.objs.size + 4) (s.heap.objs.size + 2) (s.heap.objs.size + 3) .none → IsTupOf2 h' (s.heap.objs.size + 2) (.ref s.heap.objs.size) (.ref (s.heap.objs.size + 1)) →
      IsTupOf2 h' (s.heap.objs.size + 3) .none .none → h'.get? s.heap.objs.size = some o1 → h'.get? (s.heap.objs.size + 1) = some o2 → h'.objs.size = s.heap.objs.size + 5 →
      (∀ c o, s.heap.get? c = some o → h'.get? c = some o) → Q (.ref (s.heap.objs.size + 4)) { s with heap := h' }) :
    wpAny (model prog w) A (call (.type "zip") [v1, v2] [(Str.ofString "strict", .bool true)]) Q E s := by
  refine callType_newKw F.called_zip (by decide) (F.typeCall_zip_S _ _) (F.newCall_zip_S _ _) (fun obj => F.args_object_init_S obj _ _) F.entry_zip_new
    (meets_zip_newS B1 B2) ⟨⟨h1, h2⟩, ?_⟩
  have z1 : (s.heap.push o1).objs.size = s.heap.objs.size + 1 := by rw [Heap.size_push]
  have z2 : ((s.heap.push o1).push o2).objs.size = s.heap.objs.size + 2 := by rw [Heap.size_push, z1]
  have zT : (gzT2 s.heap o1 o2).objs.size = s.heap.objs.size + 3 := by rw [Heap.size_push, z2]
  have zO : (gzO2 s.heap o1 o2).objs.size = s.heap.objs.size + 4 := by rw [Heap.size_push, zT]
  have zZ : (gzZS s.heap o1 o2).objs.size = s.heap.objs.size + 5 := by rw [Heap.size_push, zO]
  have gZ : (gzZS s.heap o1 o2).get? (gzO2 s.heap o1 o2).objs.size = some { cls := .type "zip", data := .fields #[.none, .bool false, .bool true, .ref ((s.heap.push o1).push o2).objs.size, .ref (gzT2 s.heap o1 o2).objs.size] } := Heap.get?_push_size _ rfl
  have gO : (gzZS s.heap o1 o2).get? (gzT2 s.heap o1 o2).objs.size = some { cls := .type "tuple", data := .seq #[.none, .none] } := Heap.get?_push_of_some _ (Heap.get?_push_size _ rfl)
  have gT : (gzZS s.heap o1 o2).get? ((s.heap.push o1).push o2).objs.size = some { cls := .type "tuple", data := .seq #[.ref s.heap.objs.size, .ref (s.heap.push o1).objs.size] } := Heap.get?_push_of_some _ (Heap.get?_push_of_some _ (Heap.get?_push_size _ rfl))
  have g1 : (gzZS s.heap o1 o2).get? s.heap.objs.size = some o1 := Heap.get?_push_of_some _ (Heap.get?_push_of_some _ (Heap.get?_push_of_some _ (Heap.get?_push_of_some _ (Heap.get?_push_size _ B1.free))))
  have g2 : (gzZS s.heap o1 o2).get? (s.heap.push o1).objs.size = some o2 := Heap.get?_push_of_some _ (Heap.get?_push_of_some _ (Heap.get?_push_of_some _ (Heap.get?_push_size _ B2.free)))
  rw [zO, zT, z2] at gZ
  rw [zT] at gO
  rw [z2, z1] at gT
  rw [z1] at g2
  show _ ∧ _
  rw [zO]
  exact ⟨⟨_, gZ, rfl⟩, h _ gZ gT gO g1 g2 zZ fun c o e => Heap.get?_push_of_some _ (Heap.get?_push_of_some _ (Heap.get?_push_of_some _ (Heap.get?_push_of_some _ (Heap.get?_push_of_some _ e))))⟩
end
end PySem
namespace MP
open PySem PySem.Spec PyProof.Rows L2 RZ
/-! ### strict zip of two, of any kinds: both must end together -/
def ItS2 (K : PySem.W.Frag) (k1 k2 : Bool) (a b : Addr) : It :=
  ⟨fun i H => ∃ (xs ys : List V) (x y : V), SqB K k1 H a xs ∧ SqB K k2 H b ys ∧ xs[i]? = some x ∧ ys[i]? = some y,
    fun i H v H' => ∃ T x y, v = .ref T ∧ H T = none ∧ H' = upd H T (.tup [x, y]) ∧ (∀ xs, SqB K k1 H a xs → xs[i]? = some x) ∧ ∀ ys, SqB K k2 H b ys → ys[i]? = some y,
    fun i H => ∃ xs ys : List V, SqB K k1 H a xs ∧ SqB K k2 H b ys ∧ xs.length = i ∧ ys.length = i⟩
theorem turn_zipS {P : Program} {w : World} {K : PySem.W.Frag} {elts : List Expr} {kk : Nat} {tpos : Pos} {a b z TI TO i1 i2 : Addr} {k1 k2 : Bool} (D : ZipSep2 z TI TO i1 i2 [i1, a] [i2, b]) (ha1 : a ≠ i1) (hb2 : b ≠ i2) :
    Turn P w K (.Tuple elts kk tpos) (ItS2 K k1 k2 a b) [z, TI, TO, i1, i2] z (fun i h => IsZipS h z TI TO .none ∧ IsTupOf2 h TI (.ref i1) (.ref i2) ∧ (∃ x y, IsTupOf2 h TO x y) ∧ ItB k1 h i1 a i ∧ ItB k2 h i2 b i) where
  mem := by simp
  obj := fun i h st c hc => by
    obtain ⟨hz, hTI, ⟨x, y, hTO⟩, h1, h2⟩ := st
    have e' : c = z ∨ c = TI ∨ c = TO ∨ c = i1 ∨ c = i2 := by simpa using hc
    rcases e' with q | q | q | q | q
    · rw [q]; exact ⟨_, hz, fun v q => nomatch q⟩
    · rw [q]; exact ⟨_, hTI, fun v q => nomatch q⟩
    · rw [q]; exact ⟨_, hTO, fun v q => nomatch q⟩
    · rw [q]; exact h1.obj
    · rw [q]; exact h2.obj
  keep := fun i h h' st k => by
    obtain ⟨hz, hTI, ⟨x, y, hTO⟩, h1, h2⟩ := st
    exact ⟨k z (by simp) _ hz, k TI (by simp) _ hTI, ⟨x, y, k TO (by simp) _ hTO⟩, h1.at fun o q => k i1 (by simp) o q, h2.at fun o q => k i2 (by simp) o q⟩
  item := by
    intro X hP hw hK hc i pins s σ H E I hf st hg
    subst hP hw hK
    obtain ⟨hz, hTI, ⟨x0, y0, hTO⟩, h1, h2⟩ := st
    obtain ⟨xs, ys, x, y, hqx, hqy, hx, hy⟩ := hg
    obtain ⟨its, St1, rv, D1, to1, of1⟩ := hqx.draws hc I i1 ha1
    obtain ⟨its2, St2, rv2, D2, to2, of2⟩ := hqy.draws hc I i2 hb2
    obtain ⟨u, hu, ru⟩ := rv.get hx
    obtain ⟨u2, hu2, ru2⟩ := rv2.get hy
    have hzl : z < s.heap.objs.size := Heap.lt_size hz
    refine wpAny_pyNext_zipS_item D D1 D2 hz hTI hTO (to1 i h1) (to2 i h2) (List.getElem?_eq_some_iff.mp hu).1 (List.getElem?_eq_some_iff.mp hu2).1 fun x1 x2 h' tk e1 e2 z' TO' s1 s2 hT hsz hk => ?_
    have e1 : its[i]? = some x1 := by simpa using e1
    have e2 : its2[i]? = some x2 := by simpa using e2
    rw [hu] at e1
    rw [hu2] at e2
    cases e1
    cases e2
    refine ⟨_, rfl, wpAny_letOwnedTupleGo_zipS (s := { s with heap := h', toks := tk }) z' fun h'' z'' sb => ?_⟩
    have hT2 : h''.get? s.heap.objs.size = some { cls := .type "tuple", data := .seq #[u, u2] } := (sb.2 _ (Nat.ne_of_gt hzl)).trans hT
    have new : ObjOk X.prog X.w (upd H s.heap.objs.size (.tup [x, y])) h'' s.heap.objs.size (.tup [x, y]) :=
      ⟨by show 2 ≤ sizeLine; decide, [u, u2], .cons ru (.cons ru2 .nil), ⟨_, hT2, rfl, _, rfl⟩⟩
    have I1 : L2.Inv X pins σ (upd H s.heap.objs.size (.tup [x, y])) { s with heap := h'', toks := tk } :=
      I.turnedNew (t' := tk) (ch := [z, TI, TO, i1, i2]) (fun c o hb q => (sb.2 c (fun q' => hb (by simp [q']))).trans (hk c o (fun q' => hb (by simp [q'])) (fun q' => hb (by simp [q'])) (fun q' => hb (by simp [q'])) (fun q' => hb (by simp [q'])) q)) hf (Nat.le_refl _) new
    refine ⟨.ref s.heap.objs.size, _, I1, rfl, ⟨_, x, y, rfl, I.hok.fresh (Nat.le_refl _), rfl, fun l hl => by rw [hl.inj I hqx]; exact hx, fun l hl => by rw [hl.inj I hqy]; exact hy⟩, ⟨z'', ?_, ⟨u, u2, ?_⟩, ?_, ?_⟩, fun c hcm => ?_⟩
    · exact (sb.2 _ D.TIz).trans (hk _ _ D.TIz D.TITO D.TIi1 D.TIi2 hTI)
    · exact (sb.2 _ D.TOz).trans TO'
    · exact (of1 _ _ s1).at fun o q => (sb.2 _ D.zi1.symm).trans q
    · exact (of2 _ _ s2).at fun o q => (sb.2 _ D.zi2.symm).trans q
    · have hlt : c < s.heap.objs.size := by
        have e' : c = z ∨ c = TI ∨ c = TO ∨ c = i1 ∨ c = i2 := by simpa using hcm
        rcases e' with q | q | q | q | q
        · rw [q]; exact hzl
        · rw [q]; exact Heap.lt_size hTI
        · rw [q]; exact Heap.lt_size hTO
        · rw [q]; obtain ⟨_, e1, _⟩ := h1.obj; exact Heap.lt_size e1
        · rw [q]; obtain ⟨_, e2, _⟩ := h2.obj; exact Heap.lt_size e2
      rw [upd_ne (Nat.ne_of_lt hlt)]
      exact (hf c hcm).1
  done := by
    intro X hP hw hK hc i pins s σ H E I hf st hg
    subst hP hw hK
    obtain ⟨hz, hTI, ⟨x0, y0, hTO⟩, h1, h2⟩ := st
    obtain ⟨xs, ys, hqx, hqy, hend, hend2⟩ := hg
    obtain ⟨its, St1, rv, D1, to1, of1⟩ := hqx.draws hc I i1 ha1
    obtain ⟨its2, St2, rv2, D2, to2, of2⟩ := hqy.draws hc I i2 hb2
    have l1 : i = its.length := by rw [← rv.length]; exact hend.symm
    have l2 : i = its2.length := by rw [← rv2.length]; exact hend2.symm
    exact wpAny_pyNext_zipS_end (show X.A.in1.handled = none from I.ok.hd hc) D D1 D2 hz hTI hTO (by rw [← l1]; exact to1 i h1) (by rw [← l2]; exact to2 i h2) fun h' tk hk => ⟨rfl, I.turnedL (t' := tk) (ch := [z, TI, TO, i1, i2]) (fun c o hb q =>
      hk c o (fun q' => hb (by simp [q'])) (fun q' => hb (by simp [q'])) (fun q' => hb (by simp [q'])) (fun q' => hb (by simp [q'])) q) hf⟩
  self := fun A i s Q E st h => wpAny_pyIter_zipS st.1 h
theorem callWith_typeS {M : Model} {A : Around} {E : Value → Shared → Prop} {s : Shared} {env : Env} {pos : Pos} {T : String} {e : Expr} {rest : List Expr} {kc : Nat} {pc pk : Pos} {Q : Value → Shared → Prop}
    (h : wpAny M A (spliced (backTo pos (starEach (e :: rest) env))) (fun vs s₁ => wpAny M A (call (.type T) vs [(Str.ofString "strict", .bool true)]) Q E s₁) E s)
    (he : starEach (e :: rest) env = (false, eval e env) :: starEach rest env)
    (hplain : (backTo pos (starEach rest env)).any (·.1) = false) :
    wpAny M A (callWith pos (.type T) [] (backTo pos (starEach (e :: rest) env)) (backToKw pos (keywordEach [⟨some "strict", .Constant (.bool true) kc pc, pk⟩] env))) Q E s := by
  refine PySem.W.callWith_of (P := fun _ => True) ?_ (fun h _ => ⟨.machine, .inr (.inl rfl), ?_⟩) ?_
  · rw [he]
    show ((false || (backTo pos (starEach rest env)).any (·.1)) || false) = false
    rw [hplain]; rfl
  · exact .now
  · refine evalArgs_kw2 rfl ?_ he
    refine wpAny_mono h (fun vs s1 h1 => ?_) fun _ _ x => x
    refine kwAll_cons ?_
    refine Constant_bool ?_
    exact kwAll_nil ⟨trivial, h1⟩
def iZipS (K : PySem.W.Frag) (ta : TA) : TI := fun σ H R => ta σ H fun vs H1 => ∃ a b k1 k2 xs ys, vs = [.ref a, .ref b] ∧ SqB K k1 H1 a xs ∧ SqB K k2 H1 b ys ∧ R (ItS2 K k1 k2 a b) H1
theorem pi_zipS {X : Cx} {e e2 : Expr} {ta : TA} {p pos tpos : Pos} {elts : List Expr} {kk kc : Nat} {pc pk : Pos} (hg : Gl X "zip") (hm : X.mg "zip" = none) (ha : PA X [e, e2] ta)
    (hs : starEach [e, e2] X.env = (false, eval e X.env) :: starEach [e2] X.env) (hpl : (backTo pos (starEach [e2] X.env)).any (·.1) = false) :
    PI X (.Tuple elts kk tpos) (.Call (.Name "zip" p) [e, e2] [⟨some "strict", .Constant (.bool true) kc pc, pk⟩] pos) (iZipS X.K ta) := by
  refine ⟨fun pins s σ H R I h => ?_⟩
  refine wpAny_Call_Name_kw (ld_blt I hg hm PyProof.Rows.boot_zip (callWith_typeS (thn (ha.run pos pins s σ H _ I h) fun us s1 ⟨vs, H1, I1, r1, q1⟩ => ?_) hs hpl))
  obtain ⟨a, b, k1, k2, xs, ys, ex, hqx, hqy, q⟩ := q1
  subst ex
  cases r1 with
  | cons r rr =>
   cases rr with
   | cons r' rr =>
    cases rr
    cases r
    cases r'
    obtain ⟨o1, G1, B1, g1, t1, la⟩ := hqx.begins I1
    obtain ⟨o2, G2, B2, g2, t2, lb⟩ := hqy.begins I1
    refine zip_beginsS B1 B2 g1 g2 fun h' hz hTI hTO h1 h2 hsz hk => wpAny_pyIter_zipS hz ?_
    have I2 : L2.Inv X pins σ H1 { s1 with heap := h' } := I1.kept (t' := s1.toks) hk
    refine ⟨s1.heap.objs.size + 4, [s1.heap.objs.size + 4, s1.heap.objs.size + 2, s1.heap.objs.size + 3, s1.heap.objs.size, s1.heap.objs.size + 1], _, _, H1, rfl, I2, turn_zipS (k1 := k1) (k2 := k2) (a := a) (b := b) ?_ (Nat.ne_of_lt la) (Nat.ne_of_lt (Nat.lt_succ_of_lt lb)), ⟨hz, hTI, ⟨_, _, hTO⟩, t1 _ _ h1, t2 _ _ h2⟩, fun c hcm => ?_, q⟩
    · exact sep2_new la lb
    · have hle : s1.heap.objs.size ≤ c := by
        have e' : c = s1.heap.objs.size + 4 ∨ c = s1.heap.objs.size + 2 ∨ c = s1.heap.objs.size + 3 ∨ c = s1.heap.objs.size ∨ c = s1.heap.objs.size + 1 := by simpa using hcm
        rcases e' with z | z | z | z | z <;> rw [z] <;> first | exact Nat.le_add_right _ _ | exact Nat.le_refl _
      exact I1.fpOk hle (I1.hok.fresh hle)
def zpSI (t : TwA) : TwI := fun σ S Q E => t σ S (fun xs S1 => match xs with
  | [x, y] => (match sqW S1 x, sqW S1 y with
    | some xs, some ys => xs.length = ys.length ∧ Q (zipI xs ys) (fun S => stlW x xs S ∧ stlW y ys S) S1
    | _, _ => False)
  | _ => False) E
section
variable {X : Cx} {G : Wd} {Wx : WX} {e : Expr}
theorem iw_zipS {elts : List Expr} {kk kc : Nat} {tpos p pos pc pk : Pos} {e2 : Expr} {u : TwA} (hg : Gl X "zip") (hm : X.mg "zip" = none) (ha : PAw X G Wx [e, e2] u) (hs : starEach [e, e2] X.env = (false, eval e X.env) :: starEach [e2] X.env) (hpl : (backTo pos (starEach [e2] X.env)).any (·.1) = false) :
    PIw X G Wx (.Tuple elts kk tpos) (.Call (.Name "zip" p) [e, e2] [⟨some "strict", .Constant (.bool true) kc pc, pk⟩] pos) (zpSI u) := by
  refine PI.imp (pi_zipS hg hm ha hs hpl) fun σ H R q => ?_
  obtain ⟨σw, S, Q0, E0, rσ, rs, q, hq, he⟩ := q
  refine ⟨σw, S, _, E0, rσ, rs, q, fun x S1 q1 v1 H1 r1 rs1 tp1 => ?_, he⟩
  split at q1
  · rename_i x y
    obtain ⟨v, v2, rfl, rv, rv2⟩ := rws2 r1
    split at q1
    · rename_i xs ys e1 e2
      obtain ⟨hlen, q1⟩ := q1
      obtain ⟨a, k1, rfl, s1⟩ := sqW_ok rs1 rv e1
      obtain ⟨b, k2, rfl, s2⟩ := sqW_ok rs1 rv2 e2
      obtain ⟨vs, sq, _⟩ := s1 S1 H1 rs1 .refl (stlW_now e1)
      obtain ⟨us, sq2, _⟩ := s2 S1 H1 rs1 .refl (stlW_now e2)
      refine ⟨a, b, k1, k2, vs, us, rfl, sq, sq2, hq _ _ _ q1 _ _ ⟨fun S H i w rs tp st e => ?_, fun S H rs tp st => ?_⟩ rs1 tp1⟩
      · obtain ⟨vs, sq, rr⟩ := s1 S H rs tp st.1
        obtain ⟨us, sq2, rr2⟩ := s2 S H rs tp st.2
        obtain ⟨x, y, e1, e2, rfl⟩ := zipI_of e
        obtain ⟨v, f1, r1⟩ := rr.get e1
        obtain ⟨u, f2, r2⟩ := rr2.get e2
        refine ⟨⟨vs, us, v, u, sq, sq2, f1, f2⟩, fun z H' y => ?_⟩
        obtain ⟨T, v', u', rfl, hT, rfl, g1, g2⟩ := y
        have h1 := g1 vs sq
        have h2 := g2 us sq2
        rw [f1] at h1
        rw [f2] at h2
        cases h1
        cases h2
        exact pair_new rs hT r1 r2
      · obtain ⟨vs, sq, rr⟩ := s1 S H rs tp st.1
        obtain ⟨us, sq2, rr2⟩ := s2 S H rs tp st.2
        exact ⟨vs, us, sq, sq2, by rw [zipI_len, ← rr.length]; omega, by rw [zipI_len, ← rr2.length]; omega⟩
    · exact q1.elim
  · exact q1.elim
end
end MP
set_option Elab.async false
set_option linter.all false
set_option maxRecDepth 100000
set_option maxHeartbeats 4000000
namespace MP
open PySem PySem.Spec PyProof.Rows L2 RZ
/-! ### except (X, Y, ..) as n -/
section
variable {M : Model} {A : Around} {E : Value → Shared → Prop} {s : Shared} {K : PySem.W.Frag} {cls : Value}
theorem forIn_same {β : Type} {f : Value → β → PySem.Sem (ForInStep β)} {b : β} : ∀ {cs : List Value}, (∀ c ∈ cs, ∀ Q : ForInStep β → Shared → Prop, Q (.yield b) s → wpAny M A (f c b) Q E s) → ∀ {Q : β → Shared → Prop}, Q b s → wpAny M A (forIn cs b f) Q E s
  | [], _, Q, q => by rw [List.forIn_nil]; exact wpAny_pure q
  | c :: cs, h, Q, q => by
    rw [List.forIn_cons]
    exact wpAny_bind (h c (List.mem_cons_self ..) _ (forIn_same (fun c hc => h c (List.mem_cons_of_mem _ hc)) q))
theorem forIn_any {β : Type} {f : Value → β → PySem.Sem (ForInStep β)} {b d : β} : ∀ {cs : List Value} {v : Bool}, PySem.W.exmAny K cls cs = some v → (∀ c bc, PySem.W.exmOne K cls c = some bc → ∀ Q : ForInStep β → Shared → Prop, Q (if bc = true then .done d else .yield b) s → wpAny M A (f c b) Q E s) → ∀ {Q : β → Shared → Prop}, Q (if v = true then d else b) s → wpAny M A (forIn cs b f) Q E s
  | [], v, hx, h, Q, q => by cases hx; rw [List.forIn_nil]; exact wpAny_pure q
  | c :: cs, v, hx, h, Q, q => by
    obtain ⟨b1, d1, x1, y1, rfl⟩ := PySem.W.exmAny_cons hx
    rw [List.forIn_cons]
    refine wpAny_bind (h c b1 x1 _ ?_)
    cases b1 with
    | true => exact wpAny_pure q
    | false => exact forIn_any y1 h q
theorem exmAny_mem : ∀ {cs : List Value} {v : Bool}, PySem.W.exmAny K cls cs = some v → ∀ c ∈ cs, ∃ b, PySem.W.exmOne K cls c = some b
  | [], _, _, c, hc => by cases hc
  | c' :: cs, v, hx, c, hc => by
    obtain ⟨b1, d1, x1, y1, rfl⟩ := PySem.W.exmAny_cons hx
    rcases List.mem_cons.mp hc with rfl | hc
    · exact ⟨b1, x1⟩
    · exact exmAny_mem y1 c hc
open PySem.W in
theorem exm_tups {cs : List Value} {tp e : Addr} {b : Bool} {h : Heap} (X : K.In h) (LT : PySem.W.Looks M h (typeOf (.ref e)) cls) (hp : h.get? tp = some { cls := .type "tuple", data := .seq cs.toArray }) (hx : PySem.W.exmAny K cls cs = some b) :
    PySem.W.Looks M h (excMatches (.ref e) (.ref tp)) b := by
  intro A Q E s k₀ q
  obtain ⟨hh, g, d, tk, os⟩ := s
  have k : ∀ b o, h.get? b = some o → hh.get? b = some o := k₀
  have LT0 : PySem.W.Looks M h (isInstance (.ref tp) (.type "tuple")) true := ((PySem.W.Looks.ld hp).andThen .now).andThen (PySem.W.Looks.of_pure isSubtype_tuple_tuple)
  have LT := LT.keeps k
  have LT0 := LT0.keeps k
  have hp' := k _ _ hp
  unfold excMatches
  refine wpAny_bind (LT0.at ?_)
  dsimp only
  rw [if_pos rfl]
  first
    | refine wpAny_bind (wpAny_seqItems hp' rfl ?_)
    | refine wpAny_bind (wpAny_bind (wpAny_seqItems hp' rfl (wpAny_pure ?_)))
  dsimp only [Option.getD_some, Option.getD]
  refine wpAny_bind (wpAny_pure ?_)
  refine wpAny_bind (forIn_same (fun c hc Q q => ?_) ?_)
  · obtain ⟨bc, hc'⟩ := exmAny_mem hx c hc
    obtain ⟨e1, _⟩ := exm_cls (M := M) X hc'
    refine wpAny_bind ((e1.keeps k).at ?_)
    simp only [Bool.not_true, Bool.false_eq_true, if_false]
    exact wpAny_pure q
  · refine wpAny_bind (LT.at ?_)
    refine wpAny_bind (forIn_any (d := (some true, PUnit.unit)) hx (fun c bc hc Q q => ?_) ?_)
    · obtain ⟨_, S1⟩ := exm_cls (M := M) X hc
      refine wpAny_bind ((S1.keeps k).at ?_)
      cases bc with
      | true => exact wpAny_pure q
      | false => exact wpAny_pure q
    · cases b with
      | true => exact wpAny_pure q
      | false => exact wpAny_pure q
end
theorem flying_keeps {base h h' : Heap} {l : List Env} {e : Addr} {Z : Obj → Prop} (x : HandSPX.FlyingZ base l e Z h) (k : ∀ b o, h.get? b = some o → h'.get? b = some o) : HandSPX.FlyingZ base l e Z h' := by
  obtain ⟨a, b, c, oe, vs, T, oT, ts, he, hz, hd, h1, hnT, hTe, hT, hdT, h3⟩ := x
  exact ⟨fun b o e => k _ _ (a b o e), b, c.of_keeps fun b o e _ => ⟨o, k b o e, rfl⟩, oe, vs, T, oT, ts, k _ _ he, hz, hd, h1, hnT, hTe, k _ _ hT, hdT, h3⟩
inductive Nms (X : Cx) : List Expr → List Value → Prop
  | nil : Nms X [] []
  | cons {x : Str} {c : Value} {np : Pos} {es : List Expr} {cs : List Value} (hc : Names X x c) (r : Nms X es cs) : Nms X (.Name x np :: es) (c :: cs)
section
variable {X : Cx}
theorem look_all {a : Addr} {pn : List (Addr × Obj)} {pins : List (Addr × Obj)} {σ : L2.St} {H : Hp} {s : Shared} {pos : Pos} {E : Value → Shared → Prop} {es : List Expr} {cs : List Value} (hn : Nms X es cs) (JS : L2.Inv (X.suite a pn) pins σ H s) : ∀ {Q : List Value → Shared → Prop}, Q cs s → wpAny (model X.prog X.w) (X.A.mark (some (.ref a))) (spliced (backTo pos (starEach es X.env))) Q E s := by
  induction hn with
  | nil => intro Q q; exact Calls.spliced_nil q
  | @cons x c np es cs hc r ih =>
    intro Q q
    show wpAny _ _ (spliced ((false, eval (.Name x np) X.env) :: backTo pos (starEach es X.env))) _ _ s
    refine Calls.spliced_cons ?_
    have nxt : wpAny (model X.prog X.w) (X.A.mark (some (.ref a))) (spliced (backTo pos (starEach es X.env))) (fun vs s₂ => Q (c :: vs) s₂) E s := ih q
    obtain ⟨k1, k2, k3⟩ := hc
    rcases k3 with k3 | ⟨k3, k4, k5⟩
    · exact ld_glob (X := X.suite a pn) JS k1 k3 nxt k2
    · exact ld_blt (X := X.suite a pn) JS k1 k3 k4 nxt k5 k2
end
/-- what try .. except (X, Y, ..) as n wishes of an exception of the body -/
def wCatT (K : PySem.W.Frag) (cs : List Value) (i : Nat) (ts : TS) (Wout : WX) (D : Ends) : WX := fun cls d σ H => ∃ b, PySem.W.exmAny K cls cs = some b ∧
  (b = true → ∃ C dd, cls = .ref C ∧ d = some dd ∧ ∀ a, H a = none → ts (offE i D) (σ.set i (some (.ref a))) (upd H a (exT C a dd))) ∧ (b = false → Wout cls d σ H)
section
variable {X : Cx} {n : Str} {es : List Expr} {cs : List Value} {tk2 : Nat} {i : Nat} {body suite : List Stmt} {b₀ : Stmt} {np pos pos' : Pos} {tb : WX → TS} {ts : TS} {Wout : WX}
theorem ps_try_catT (hs : X.stack = X.env :: X.outer) (hf : X.env.frame = some X.env.locals) (hex : X.ex = []) (hN : X.N.Nodup) (hi : X.N[i]? = some n) (hln : X.env.kindOf n = some .local) (hcs : Nms X es cs) (hle : cs.length ≤ sizeLine) (tk : Takes X Wout)
    (hb : ∀ (W : WX) (pn : List (Addr × Obj)) (xe : Value → Shared → Prop), Takes (X.tr pn xe) W → PassesOwn (model X.prog X.w) X.A X.env xe → PSs (X.tr pn xe) body (tb W)) (hsu : ∀ (a : Addr) (pn : List (Addr × Obj)), PSs (X.suite a pn) (b₀ :: suite) ts) :
    PS X (.Try body [.ExceptHandler (some (.Tuple es tk2 np)) (some n) (b₀ :: suite) pos'] [] [] pos) (fun D σ H => tb (wCatT X.K cs i ts Wout D) D σ H) := by
  constructor
  intro pins s σ H D I h
  have okX := I.ok
  have fr : X.A.frames = some (X.env :: X.outer) := okX.frames.trans (by rw [hs])
  refine wpAny_Try_except ?_
  have run := (hb (wCatT X.K cs i ts Wout D) (X.pn ++ pins) (fun e s₁ => wpAny (model X.prog X.w) X.A (noteFrame e X.env) (fun _ s₂ => wpAny (model X.prog X.w) X.A (setFlight e none) (fun _ s₃ => wpAny (model X.prog X.w) X.A (handleBy e X.env [.ExceptHandler (some (.Tuple es tk2 np)) (some n) (b₀ :: suite) pos']) (SP X pins D) X.xe s₃) X.xe s₂) X.xe s₁)
    (fun u s1 air => by
      obtain ⟨a, B, sI, pn1, σ1, H1, cls, d, rfl, J0, nb, up, sky, na, os, ag, b, m1, yes, no⟩ := air
      have J1 : L2.Inv X pins σ1 H1 sI := J0.ofTry okX
      show wpAny _ _ (noteFrame (.ref a) X.env) _ _ _
      refine Sky.land Zc.steady fr hf (by rw [hs] at sky; exact sky) fun h2 fl up2 => ?_
      have J2 : L2.Inv X pins σ1 H1 { s1 with heap := h2 } := J1.landed nb fl.1 (up.trans up2) os ag
      obtain ⟨oe, vs, ge, gz, gd⟩ := fl.there
      have offFr : a ∉ frs (X.env :: X.outer) := fun hm => by
        obtain ⟨_, o', e', nf⟩ := fl.2.2.1.mem hm
        rw [ge] at e'
        cases e'
        exact nf _ gd
      have nL : a ≠ X.env.locals := fun z => offFr (by rw [z]; exact List.mem_filterMap.mpr ⟨X.env, List.mem_cons_self, hf⟩)
      have nF : a ∉ X.fs := fun hm => by
        obtain ⟨e, he, q⟩ := List.mem_filterMap.mp hm
        exact offFr (List.mem_filterMap.mpr ⟨e, List.mem_cons_of_mem _ he, q⟩)
      have neI : sI.heap.get? a = none := by
        cases q : sI.heap.get? a with
        | none => rfl
        | some o =>
          have z := nb a o q (by rw [hs]; exact offFr)
          rw [fl.2.1] at z
          cases z
      have JS := J2.suite ge gd na nL nF
      refine wpAny_handleBy_cons (codeAny_handlers_test ?_) (by intro q; cases q)
      refine wpAny_Tuple_spliced (look_all hcs JS ⟨hle, ?_⟩)
      have kk : ∀ b o, h2.get? b = some o → (h2.push { cls := .type "tuple", data := .seq cs.toArray }).get? b = some o := fun b o e => Heap.get?_push_of_some _ e
      have JP : L2.Inv X pins σ1 H1 { s1 with heap := h2.push { cls := .type "tuple", data := .seq cs.toArray } } := J2.kept (t' := s1.toks) kk
      have ty : PySem.W.Looks (model X.prog X.w) (h2.push { cls := .type "tuple", data := .seq cs.toArray }) (typeOf (.ref a)) cls := fun A Q E s k q => wpAny_typeOf_ref (k _ _ (kk _ _ ge)) (by rw [gz.1]; exact q)
      have mt := exm_tups (M := model X.prog X.w) JP.kIn ty (Heap.get?_push_size _ rfl) m1
      refine mt.here ?_
      replace fl := flying_keeps fl kk
      replace up2 := up2.trans (Heap.UpToSlots.of_keeps kk)
      clear ge gz gd
      obtain ⟨oe2, vs2, ge, gz, gd⟩ := fl.there
      cases b with
      | false =>
        show wpAny _ X.A (handleBy (.ref a) X.env []) _ _ _
        refine wpAny_handleBy_nil ?_
        obtain ⟨_, _, _, o3, v3, T3, oT, t3, g1, g2, g3, g4, _⟩ := id fl
        unfold PySem.passOn
        refine wpAny_bind (wpAny_field g1 g3 g4 ?_)
        rw [if_neg (by simp)]
        have out : wpAny (model X.prog X.w) X.A (setFlight (.ref a) X.env.frame) (fun _ s4 => wpAny (model X.prog X.w) X.A (throw (.ref a) : PySem.Sem Flow) (SP X pins D) X.xe s4) X.xe { s1 with heap := h2.push { cls := .type "tuple", data := .seq cs.toArray } } := by
          rw [hf]
          exact HandSPX.setFlight_upZ fl fun h4 held up4 => wpAny_throw (tk _ _ ⟨a, B, sI, pins, σ1, H1, cls, d, rfl, J1, nb, (up.trans up2).trans up4, .inr (.inr (by rw [hs]; exact held)), na, os, ag, no rfl⟩)
        first
          | exact wpAny_bind out
          | exact wpAny_bind (wpAny_pure (wpAny_bind out))
      | true =>
        obtain ⟨C, dd, rfl, rfl, go⟩ := yes rfl
        refine codeAny_handlers_suite_as ?_
        refine HandSPX.lands_againZ fl fun h4 fl4 up4 => ?_
        have J4 : L2.Inv X pins σ1 H1 { s1 with heap := h4 } := J1.landed nb fl4.1 ((up.trans up2).trans up4) os ag
        obtain ⟨oe4, vs4, ge4, gz4, gd4⟩ := fl4.there
        have C4 := caught J4 J1 hex neI ge4 gz4.1 gz4.2 gd4 na nL
        refine store_ok (X := X.suite a (X.pn ++ pins)) (v := .ref a) C4 hN hi (.inl hln) rfl (fun s5 S5 => ?_) (.inr hln)
        refine wpAny_mono ((hsu a (X.pn ++ pins)).run [] s5 _ _ (offE i D) S5 (go a na)) (fun f s6 z => ?_) fun _ _ z => z.elim
        have fin : ∀ {σ6 : L2.St} {H6 : Hp} {Q : Shared → Prop}, L2.Inv (X.suite a (X.pn ++ pins)) [] σ6 H6 s6 → (∀ s7, L2.Inv X pins (σ6.set i none) H6 s7 → Q s7) → wpAny (model X.prog X.w) X.A (do bindName X.env n .none; unbindBehindTheSuite X.env n pos') (fun _ s7 => Q s7) X.xe s6 :=
          fun S6 hq => gone_ok (released S6 okX) hN hi hln hq
        cases f with
        | ret u =>
          obtain ⟨v6, σ6, H6, S6, r6, q6⟩ := z
          exact fin S6 fun s7 J7 => ⟨v6, _, _, J7, r6, q6⟩
        | next =>
          obtain ⟨σ6, H6, S6, q6⟩ := z
          exact fin S6 fun s7 J7 => ⟨_, _, J7, q6⟩
        | brk =>
          obtain ⟨σ6, H6, S6, q6⟩ := z
          exact fin S6 fun s7 J7 => ⟨_, _, J7, q6⟩
        | cont =>
          obtain ⟨σ6, H6, S6, q6⟩ := z
          exact fin S6 fun s7 J7 => ⟨_, _, J7, q6⟩) PassesOwn.looking).run [] s σ H D (I.toTry _) h
  refine wpAny_mono run (fun f s1 z => ?_) fun _ _ z => z
  cases f with
  | ret u =>
    obtain ⟨v1, σ1, H1, J1, r1, q1⟩ := z
    exact ⟨v1, σ1, H1, J1.ofTry okX, r1, q1⟩
  | next =>
    obtain ⟨σ1, H1, J1, q1⟩ := z
    exact wpAny_execs_nil ⟨σ1, H1, J1.ofTry okX, q1⟩
  | brk =>
    obtain ⟨σ1, H1, J1, q1⟩ := z
    exact ⟨σ1, H1, J1.ofTry okX, q1⟩
  | cont =>
    obtain ⟨σ1, H1, J1, q1⟩ := z
    exact ⟨σ1, H1, J1.ofTry okX, q1⟩
end
section
variable {X : Cx} {G : Wd} {Wx : WX} {n : Str} {es : List Expr} {cs : List Value} {tk2 : Nat} {i : Nat} {body suite : List Stmt} {b₀ : Stmt} {np pos pos' : Pos} {tb ts : TwS} {ms : Nat → Option Bool}
theorem sw_tryT (T : Top X) (hN : X.N.Nodup) (hi : X.N[i]? = some n) (hln : X.env.kindOf n = some .local) (hcs : Nms X es cs) (hle : cs.length ≤ sizeLine) (hm : ∀ k b, ms k = some b → PySem.W.exmAny X.K (.ref (G.cad k)) cs = some b) (tk : Takes X Wx)
    (hb : ∀ (W : WX) (pn : List (Addr × Obj)) (xe : Value → Shared → Prop), Takes (X.tr pn xe) W → PassesOwn (model X.prog X.w) X.A X.env xe → PSsw (X.tr pn xe) G W body tb) (hsu : ∀ (a : Addr) (pn : List (Addr × Obj)), PSsw (X.suite a pn) G WNo (b₀ :: suite) ts) :
    PSw X G Wx (.Try body [.ExceptHandler (some (.Tuple es tk2 np)) (some n) (b₀ :: suite) pos'] [] [] pos) (tryS ms i tb ts) := by
  refine PS.imp (ps_try_catT (tb := fun W => liftS X.K G W tb) (ts := liftS X.K G WNo ts) T.st T.fr T.ex hN hi hln hcs hle tk hb hsu) fun D σ H h => ?_
  obtain ⟨σw, S, D0, rσ, rs, q, l⟩ := h
  refine ⟨σw, S, catE ms i ts D0, rσ, rs, q, l.nx, l.rt, l.bk, l.ct, fun e σ1 S1 q1 σ' d H' fs r1 hd rk rs1 tp1 => ?_⟩
  have q1 : (match ms e.c with
    | some true => ts ⟨fun σ S => D0.nx (σ.set i none) S, D0.rt, fun σ S => D0.bk (σ.set i none) S, fun σ S => D0.ct (σ.set i none) S, fun _ _ _ => False⟩ (σ1.set i (some (.exc e.c (e.fs.map (·.1)) (e.fs.map (·.2))))) S1
    | some false => D0.ex e σ1 S1
    | none => False) := q1
  cases em : ms e.c with
  | none => rw [em] at q1; exact q1.elim
  | some b =>
    rw [em] at q1
    refine ⟨b, hm _ _ em, fun z => ?_, fun z => ?_⟩
    · subst z
      refine ⟨_, d, rfl, rfl, fun a ha => ?_⟩
      have tp : TP H' (upd H' a (exT (G.cad e.c) a d)) := .new ha
      obtain ⟨vs, rfl, rv⟩ := RKV.unzip rk
      have rx : RW X.K G (upd H' a (exT (G.cad e.c) a d)) (.exc e.c (e.fs.map (·.1)) (e.fs.map (·.2))) (.ref a) := rw_exc.mpr ⟨a, d, vs, rfl, upd_same, by rw [upd_ne (ne_of_none hd ha)]; exact hd, rv.mono tp⟩
      exact ⟨_, S1, _, (r1.mono tp).set i rx, rs1.newT ha, q1, fun σw S q σ H2 a b t => l.nx _ _ q _ _ (RSt.unset a i) b (tp1.trans (tp.trans t)), fun w S q => (l.rt w S q).mono (tp1.trans tp), fun σw S q σ H2 a b t => l.bk _ _ q _ _ (RSt.unset a i) b (tp1.trans (tp.trans t)),
        fun σw S q σ H2 a b t => l.ct _ _ q _ _ (RSt.unset a i) b (tp1.trans (tp.trans t)), fun _ _ _ q => q.elim⟩
    · subst z
      exact l.ex e σ1 S1 q1 σ' d H' fs r1 hd rk rs1 tp1
end
end MP
set_option Elab.async false
set_option linter.all false
set_option maxRecDepth 100000
set_option maxHeartbeats 4000000
namespace MP
open PySem PySem.Spec PyProof.Rows L2 RZ
/-! ### dicts of the module: looked at, never changed -/
/-- an entry's key and hash -/
def keyEW (e : DictEntry) : Option (Key × Int) := match e.key with
  | .str x _ => some (.inr x, e.hash)
  | .int i _ => some (.inl i, e.hash)
  | _ => none
def keysW (w : World) (ks : List Key) : List (Option (Key × Int)) := ks.map fun k => some (k, keyH w k)
def dicKW (K : PySem.W.Frag) (a : Addr) : Option (List (Option (Key × Int))) := match K.lookup a with
  | some ⟨.type c, none, .dict es _, sl⟩ => (match decide (c = "dict") && (sl.isEmpty && !(a == sysModules)) with
    | true => some (es.toList.map keyEW)
    | false => none)
  | _ => none
/-- its values -/
def dicVB (p : PySem.W.Frag → Addr) (vs : List He.Dv) (K : PySem.W.Frag) : Bool := match K.lookup (p K) with
  | some ⟨_, _, .dict es _, _⟩ => He.relAll (vs.map (He.Dv.v K)) (es.toList.map (·.val))
  | _ => false
/-- a dict of the written part: at a, these keys and values -/
def DicM (w : World) (K : PySem.W.Frag) (G : Wd) (a : Addr) (kvs : List (Key × W)) : Prop :=
  ∃ (es : Array DictEntry) (n : Nat) (vs : List V), K.lookup a = some ⟨.type "dict", none, .dict es n, #[]⟩ ∧ (a == sysModules) = false ∧ es.toList.map keyEW = keysW w (kvs.map (·.1)) ∧ (kvs.map (·.1)).Nodup ∧
    Vals vs (es.toList.map (·.val)) ∧ ∀ H, RWs K G H (kvs.map (·.2)) vs
theorem dicM_of {w : World} {K : PySem.W.Frag} {G : Wd} {p : PySem.W.Frag → Addr} {vs : List He.Dv} {kvs : List (Key × W)} (h1 : dicKW K (p K) = some (keysW w (kvs.map (·.1)))) (h2 : dicVB p vs K = true) (hn : (kvs.map (·.1)).Nodup)
    (hr : ∀ H, RWs K G H (kvs.map (·.2)) (vs.map (He.Dv.v K))) : DicM w K G (p K) kvs := by
  unfold dicKW at h1
  unfold dicVB at h2
  cases q : K.lookup (p K) with
  | none => rw [q] at h1; cases h1
  | some o =>
    obtain ⟨oc, od, dt, osl⟩ := o
    rw [q] at h1 h2
    cases oc with
    | type c =>
      cases od with
      | none =>
        cases dt with
        | dict es n =>
          have h3 : (match decide (c = "dict") && (osl.isEmpty && !(p K == sysModules)) with
            | true => some (es.toList.map keyEW)
            | false => none) = some (keysW w (kvs.map (·.1))) := h1
          cases hb : (decide (c = "dict") && (osl.isEmpty && !(p K == sysModules))) with
          | false => rw [hb] at h3; cases h3
          | true =>
            rw [hb] at h3
            replace h3 := Option.some.inj h3
            clear h1
            simp only [Bool.and_eq_true, decide_eq_true_eq, Bool.not_eq_true', Array.isEmpty_iff] at hb
            obtain ⟨rfl, rfl, hs⟩ := hb
            exact ⟨es, n, _, q, hs, h3, hn, He.relAll_ok h2, hr⟩
        | _ => cases h1
      | some d => cases dt <;> cases h1
    | _ => cases od <;> cases dt <;> cases h1
theorem keyEW_ok {P : Program} {w : World} {e : DictEntry} {k : Key} (h : keyEW e = some (k, keyH w k)) : (mixKind P w).is k e.key = true ∧ e.hash = (mixKind P w).hash k := by
  unfold keyEW at h
  split at h
  · rename_i x t q
    have h4 := Option.some.inj h
    obtain ⟨h5, h6⟩ := Prod.mk.inj h4
    subst h5
    exact ⟨by rw [q]; exact mixKind_str P w x t, h6⟩
  · rename_i x t q
    have h4 := Option.some.inj h
    obtain ⟨h5, h6⟩ := Prod.mk.inj h4
    subst h5
    exact ⟨by rw [q]; exact mixKind_int P w x t, h6⟩
  · cases h
theorem dic_pairs {P : Program} {w : World} {K : PySem.W.Frag} {G : Wd} : ∀ {l : List DictEntry} {kvs : List (Key × W)} {vs : List V}, l.map keyEW = keysW w (kvs.map (·.1)) → Vals vs (l.map (·.val)) → (∀ H, RWs K G H (kvs.map (·.2)) vs) →
    ∃ us : List (Key × Value), Pairs (mixKind P w) l us ∧ us.map (·.1) = kvs.map (·.1) ∧ (∀ e ∈ l, ∃ k, (mixKind P w).is k e.key = true ∧ e.hash = (mixKind P w).hash k) ∧
      ∀ k, (lkD kvs k = none → valueAt us k = none) ∧ ∀ w0, lkD kvs k = some w0 → ∃ u v, valueAt us k = some u ∧ RelV v u ∧ ∀ H, RW K G H w0 v
  | [], [], _, _, _, _ => ⟨[], .nil, rfl, fun e he => (by cases he), fun k => ⟨fun _ => rfl, fun w0 h => (by cases h)⟩⟩
  | [], _ :: _, _, h, _, _ => (by cases h)
  | _ :: _, [], _, h, _, _ => (by cases h)
  | e :: l, (k, w0) :: kvs, vs, h, hv, hr => by
    have h : keyEW e :: l.map keyEW = some (k, keyH w k) :: keysW w (kvs.map (·.1)) := h
    injection h with h1 h2
    obtain ⟨a1, a2⟩ := keyEW_ok (P := P) h1
    cases hv with
    | cons rv hv =>
      rename_i v vs
      have hr2 : ∀ H, RWs K G H (kvs.map (·.2)) vs := fun H => by
        obtain ⟨v', r', e1, _, r2⟩ := rws_cons.mp (hr H)
        cases e1
        exact r2
      have hr1 : ∀ H, RW K G H w0 v := fun H => by
        obtain ⟨v', r', e1, r1, _⟩ := rws_cons.mp (hr H)
        cases e1
        exact r1
      obtain ⟨us, p, f, ks, g⟩ := dic_pairs (P := P) h2 hv hr2
      refine ⟨(k, e.val) :: us, .cons a1 rfl p, by simp [f], fun e' he => ?_, fun k' => ?_⟩
      · rcases List.mem_cons.mp he with rfl | he
        · exact ⟨k, a1, a2⟩
        · exact ks e' he
      · by_cases c : k = k'
        · subst c
          refine ⟨fun h => ?_, fun w1 h => ?_⟩
          · simp [lkD] at h
          · have : w1 = w0 := by simp [lkD] at h; exact h.symm
            subst this
            exact ⟨e.val, v, by simp [valueAt], rv, hr1⟩
        · have e1 : lkD ((k, w0) :: kvs) k' = lkD kvs k' := by simp [lkD, List.find?_cons, c]
          have e2 : valueAt ((k, e.val) :: us) k' = valueAt us k' := by simp [valueAt, List.find?_cons, c]
          rw [e1, e2]
          exact g k'
theorem DicM.of {P : Program} {w : World} {K : PySem.W.Frag} {G : Wd} {a : Addr} {kvs : List (Key × W)} {h : Heap} (D : DicM w K G a kvs) (X : K.In h) : ∃ us : List (Key × Value), h.DictOf (mixKind P w) a us ∧ (a == sysModules) = false ∧
    ∀ k, (lkD kvs k = none → valueAt us k = none) ∧ ∀ w0, lkD kvs k = some w0 → ∃ u v, valueAt us k = some u ∧ RelV v u ∧ ∀ H, RW K G H w0 v := by
  obtain ⟨es, n, vs, hl, hs, hk, hn, hv, hr⟩ := D
  obtain ⟨us, p, f, ks, g⟩ := dic_pairs (P := P) hk hv hr
  exact ⟨us, ⟨_, es, n, X _ _ hl, ⟨rfl, rfl, rfl⟩, rfl, fun e he => ks e (by simpa using he), p, by rw [f]; exact hn⟩, hs, g⟩
/-- x in D, x not in D -/
def dinS (n : Bool) (kvs : List (Key × W)) (t : Tw) : Tw := fun σ S Q E => t σ S (fun x S1 => match keyW x with
  | some k => Q (.bl (n != (lkD kvs k).isSome)) S1
  | none => False) E
/-- D[x] -/
def digS (kvs : List (Key × W)) (t : Tw) : Tw := fun σ S Q E => t σ S (fun x S1 => match keyW x with
  | some k => (match lkD kvs k with
    | some w => Q w S1
    | none => False)
  | none => False) E
section
variable {X : Cx} {G : Wd} {Wx : WX} {e : Expr} {t : Tw} {x : Str} {a : Addr} {kvs : List (Key × W)} {p pos : Pos}
theorem pc_din {n : Bool} {op : CmpOp} (ho : op = if n = true then .NotIn else .In) (hg : Gl X x) (hd : (x == ("__debug__" : Str)) = false) (hm : X.mg x = some (.ref a)) (D : DicM X.w X.K G a kvs) (ha : PEw X G Wx e t) :
    PC X op e (.Name x p) (liftE X.K G Wx (dinS n kvs t)) := by
  refine ⟨fun pins s σ H Q I h => ?_⟩
  obtain ⟨σw, S, Q0, E0, rσ, rs, q, hq, he⟩ := h
  refine thn (ha.run pins s σ H (fun v H1 => ∃ y S1, RW X.K G H1 y v ∧ RS X.K G S1 H1 ∧ TP H H1 ∧ (match keyW y with
    | some k => Q0 (.bl (n != (lkD kvs k).isSome)) S1
    | none => False)) I ⟨σw, S, _, E0, rσ, rs, q, fun y S1 q1 v H1 r1 rs1 tp1 => ⟨y, S1, r1, rs1, tp1, q1⟩, he⟩) fun u s1 ⟨v, H1, I1, ru, y, S1, ry, rs1, tp1, q1⟩ => ?_
  refine ld_glob I1 hg hm ?_ hd
  cases ek : keyW y with
  | none => rw [ek] at q1; exact q1.elim
  | some k =>
    rw [ek] at q1
    have ev := keyW_rel ry ek
    subst ev
    obtain ⟨us, dd, low, g⟩ := D.of (P := X.prog) I1.kIn
    have es : (valueAt us k).isSome = (lkD kvs k).isSome := by
      cases el : lkD kvs k with
      | none => rw [(g k).1 el]; rfl
      | some w0 => obtain ⟨u0, v0, e0, _⟩ := (g k).2 w0 el; rw [e0]; rfl
    subst ho
    cases n with
    | true =>
      refine wpAny_notIn_of (kV_is ru) low dd.mapOf ?_
      rw [es]
      exact ⟨.bl _, H1, I1.tok _, rfl, hq _ _ q1 _ _ (rw_bl.mpr (by simp)) rs1 tp1⟩
    | false =>
      refine wpAny_in_of (kV_is ru) low dd.mapOf ?_
      rw [es]
      exact ⟨.bl _, H1, I1.tok _, rfl, hq _ _ q1 _ _ (rw_bl.mpr (by simp)) rs1 tp1⟩
theorem ew_din {n : Bool} {op : CmpOp} (ho : op = if n = true then .NotIn else .In) (hg : Gl X x) (hd : (x == ("__debug__" : Str)) = false) (hm : X.mg x = some (.ref a)) (D : DicM X.w X.K G a kvs) (ha : PEw X G Wx e t) (hb : behindInMarks op (.Name x p) = false) :
    PEw X G Wx (.Compare e [op] [.Name x p] pos) (dinS n kvs t) := pe_cmp (pc_din ho hg hd hm D ha) hb
theorem tw_din {n : Bool} {op : CmpOp} (ho : op = if n = true then .NotIn else .In) (hg : Gl X x) (hd : (x == ("__debug__" : Str)) = false) (hm : X.mg x = some (.ref a)) (D : DicM X.w X.K G a kvs) (ha : PEw X G Wx e t) (hb : behindInMarks op (.Name x p) = false) :
    PTw X G Wx (.Compare e [op] [.Name x p] pos) (tstS (dinS n kvs t)) := by
  refine PT.imp (pt_cmp (pc_din ho hg hd hm D ha) hb) fun σ H Q q => ?_
  obtain ⟨σw, S, Q0, E0, rσ, rs, q, hq, he⟩ := q
  refine ⟨σw, S, _, E0, rσ, rs, q, fun w S1 q1 v1 H1 r1 rs1 tp1 => ?_, he⟩
  cases w <;> first | exact q1.elim | skip
  rw [rw_bl] at r1
  exact ⟨_, r1, (hq _ _ q1) H1 rs1 tp1⟩
theorem ix_dic (D : DicM X.w X.K G a kvs) : IxR X (fun x y H Q => ∃ k w0, x = .ref a ∧ y = kV k ∧ lkD kvs k = some w0 ∧ ∀ v, (∀ H, RW X.K G H w0 v) → Q v H) := by
  intro value slice pins s σ H x y v u Q I rx ry h hs
  obtain ⟨k, w0, rfl, rfl, el, q⟩ := h
  obtain rfl : v = Value.ref a := rx
  obtain ⟨us, dd, low, g⟩ := D.of (P := X.prog) I.kIn
  obtain ⟨u0, v0, e0, r0, hr⟩ := (g k).2 w0 el
  exact tail_any dd.typeIs slot_dict_getitem.lookup (wpAny_getItem_of (kV_is ry) dd.mapOf e0 ⟨v0, H, I.tok _, r0, q v0 hr⟩) hs
theorem ew_dig (hg : Gl X x) (hd : (x == ("__debug__" : Str)) = false) (hm : X.mg x = some (.ref a)) (D : DicM X.w X.K G a kvs) (ha : PEw X G Wx e t) (hs : PlainIx e) : PEw X G Wx (.Subscript (.Name x p) e pos) (digS kvs t) := by
  refine PE.imp (pe_ix (ix_dic D) (pe_glob (v := .ref a) hg hm rfl hd) ha hs) fun σ H Q q => ?_
  obtain ⟨σw, S, Q0, E0, rσ, rs, q, hq, he⟩ := q
  refine ⟨σw, S, _, E0, rσ, rs, q, fun y S1 q1 v H1 r1 rs1 tp1 => ?_, he⟩
  split at q1
  · rename_i k ek
    split at q1
    · rename_i w0 el
      exact ⟨k, w0, rfl, keyW_rel r1 ek, el, fun v hv => hq _ _ q1 _ _ (hv H1) rs1 tp1⟩
    · exact q1.elim
  · exact q1.elim
end
end MP
set_option Elab.async false
set_option linter.all false
set_option maxRecDepth 100000
set_option maxHeartbeats 4000000
namespace MP
open PySem PySem.Spec PyProof.Rows L2
/-! ### from the text to its reading -/
inductive Gv where
  | free | int (i : Int) | str (s : Str) | fn (o : Option Nat) | cls (c : Nat) | val (w : W) | dct (kvs : List (Key × W))
structure Cg where
  N : List Str
  sc : Scope
  fnB : Str → Bool
  gl : List (Str × Gv)
  calls : List ((Str × Nat × List Str) × (Nat × List PArg))
  kit : Kit
  flds : List (Str × List Nat)
  mks : List ((Str × Nat × List Str) × (Nat × Nat × List PArg))
  mts : List ((Str × Nat × List Str) × List (Nat × (Nat × List PArg)))
  exs : List ((Str × Nat) × (Nat × List Str))
  xfl : List (Str × List Nat)
  exm : List ((Nat × Nat) × Bool)
  fvs : List ((Nat × List Str) × List (Nat × List PArg))
  eqn : List Str
  eqs : List Nat
structure Cmp where
  e : Expr → Option Tw
  t : Expr → Option TwT
def GvOk (X : Cx) (G : Wd) (x : Str) : Gv → Prop
  | .free => X.mg x = none
  | .int i => ∃ t, X.mg x = some (.int i t)
  | .str s => ∃ t, X.mg x = some (.str s t)
  | .fn o => ∀ f, o = some f → X.mg x = some (.ref (G.fad f))
  | .cls c => X.mg x = some (.ref (G.cad c))
  | .val w => ∃ u v, X.mg x = some u ∧ RelV v u ∧ ∀ H, RW X.K G H w v
  | .dct kvs => ∃ a, X.mg x = some (.ref a) ∧ DicM X.w X.K G a kvs
structure OkX (Γ : Cg) (G : Wd) (cs : Sem) (X : Cx) (Wx : WX) : Prop where
  hN : X.N = Γ.N
  nd : Γ.N.Nodup
  sc : X.env.scope = Γ.sc
  kind : Γ.sc.kind = .function
  calm : X.calm = true
  un : X.A.units + 65 < cLine
  gd : X.A.guards = some []
  tk : Takes X Wx
  fn : ∀ x, Γ.fnB x = true → X.fn x = true
  kit : KitOk X.K G Γ.kit
  gl : ∀ p ∈ Γ.gl, GvOk X G p.1 p.2
  calls : ∀ p ∈ Γ.calls, CallOk X G cs p.1.1 p.2.1 p.1.2.1 p.1.2.2 p.2.2
  flds : ∀ p ∈ Γ.flds, ∀ c, p.2.contains c = true → Cls X.K (G.cad c) ∧ NoAttr X.K (G.cad c) p.1
  mks : ∀ p ∈ Γ.mks, MkOk X G cs p.1.1 p.2.1 p.2.2.1 p.1.2.1 p.1.2.2 p.2.2.2
  mts : ∀ p ∈ Γ.mts, ∀ q ∈ p.2, MethOk X G cs p.1.1 p.1.2.1 p.1.2.2 q
  exs : ∀ p ∈ Γ.exs, ExOk X G p.1.1 p.2.1 p.2.2
  xfl : ∀ p ∈ Γ.xfl, ∀ c, p.2.contains c = true → XfC X.K (G.cad c) ∧ PySem.W.findIn X.K (.ref (G.cad c)) p.1 = some none
  exm : ∀ p ∈ Γ.exm, PySem.W.exmOne X.K (.ref (G.cad p.1.1)) (.ref (G.cad p.1.2)) = some p.2
  fvs : ∀ p ∈ Γ.fvs, ∀ q ∈ p.2, CallV X G cs p.1.1 p.1.2 q
  eqs : ∀ c ∈ Γ.eqs, EqC X.K (G.cad c)
def ix : List Str → Str → Option Nat
  | [], _ => none
  | y :: r, x => if x = y then some 0 else (ix r x).map (· + 1)
theorem ix_ok : ∀ {N : List Str} {x : Str} {i : Nat}, ix N x = some i → N[i]? = some x
  | y :: r, x, i, h => by
    unfold ix at h
    split at h
    · rename_i e
      cases h
      rw [e]
      rfl
    · cases q : ix r x with
      | none => rw [q] at h; cases h
      | some j =>
        rw [q] at h
        cases h
        show r[j]? = some x
        exact ix_ok q
  | [], _, _, h => by cases h
def visB (sc : Scope) (x : Str) : Bool := match sc.names.lookup x with
  | some .local => true
  | some .cell => true
  | some .free => true
  | _ => false
theorem vis_ok {sc : Scope} {x : Str} (h : visB sc x = true) : Vis sc x := by
  unfold visB at h
  split at h
  · exact .inl (by assumption)
  · exact .inr (.inl (by assumption))
  · exact .inr (.inr (by assumption))
  · cases h
def glB (sc : Scope) (x : Str) : Bool := match sc.names.lookup x with
  | some .globalImplicit => true
  | _ => false
theorem glB_ok {sc : Scope} {x : Str} (h : glB sc x = true) : sc.names.lookup x = some .globalImplicit := by
  unfold glB at h
  split at h
  · assumption
  · cases h
def locB (Γ : Cg) (x : Str) : Bool := match Γ.sc.names.lookup x with
  | some .local => true
  | some .cell => Γ.fnB x
  | _ => false
def lk {α β : Type} [DecidableEq α] : List (α × β) → α → Option β
  | [], _ => none
  | (y, v) :: r, x => if x = y then some v else lk r x
theorem lk_mem {α β : Type} [DecidableEq α] : ∀ {l : List (α × β)} {x : α} {v : β}, lk l x = some v → (x, v) ∈ l
  | (y, v) :: r, x, w, h => by
    unfold lk at h
    split at h
    · rename_i e
      cases h
      rw [e]
      exact List.mem_cons_self ..
    · exact List.mem_cons_of_mem _ (lk_mem h)
  | [], _, _, h => by cases h
/-- the built-in names -/
def biT : List (Str × Bi) := [("len", .len), ("abs", .abs), ("min", .min), ("max", .max), ("int", .int), ("bool", .bool), ("list", .list), ("tuple", .tuple), ("all", .all), ("any", .any), ("sum", .sum), ("isinstance", .isinstance),
  ("divmod", .divmod), ("sorted", .sorted), ("str", .str), ("repr", .repr)]
theorem biT_ok : ∀ p ∈ biT, bootBuiltins p.1 = some p.2.val ∧ p.1 ≠ "__name__" ∧ (p.1 == ("__debug__" : Str)) = false := by
  intro p hp
  simp only [biT, List.mem_cons, List.not_mem_nil, or_false] at hp
  rcases hp with h | h | h | h | h | h | h | h | h | h | h | h | h | h | h | h <;> subst h <;> exact ⟨by decide +kernel, by decide +kernel, by decide +kernel⟩
def tyT : List (Str × String) := [("list", "list"), ("tuple", "tuple"), ("int", "int"), ("bool", "bool"), ("str", "str"), ("dict", "dict"), ("ValueError", "ValueError"), ("IndexError", "IndexError"), ("LookupError", "LookupError"), ("RuntimeError", "RuntimeError"), ("KeyError", "KeyError"), ("TypeError", "TypeError")]
theorem tyT_ok : ∀ p ∈ tyT, bootBuiltins p.1 = some (.type p.2) ∧ p.1 ≠ "__name__" ∧ (p.1 == ("__debug__" : Str)) = false := by
  intro p hp
  simp only [tyT, List.mem_cons, List.not_mem_nil, or_false] at hp
  rcases hp with h | h | h | h | h | h | h | h | h | h | h | h <;> subst h <;> exact ⟨by decide +kernel, by decide +kernel, by decide +kernel⟩
theorem oif {β : Type} {c : Bool} {o : Option β} {t : β} : (if c = true then o else none) = some t ↔ c = true ∧ o = some t := by
  cases c <;> simp
end MP
set_option Elab.async false
set_option linter.all false
set_option maxRecDepth 100000
set_option maxHeartbeats 4000000
namespace MP
open PySem PySem.Spec PyProof.Rows L2
/-! ### expressions -/
def aOf (f : Expr → Option Tw) : List Expr → Option TwA
  | [] => some nilA
  | e :: es => if noStar e = true then (f e).bind fun t => (aOf f es).bind fun u => some (consA t u) else none
def kOf (f : Expr → Option Tw) : List Keyword → Option (List Str × TwA)
  | [] => some ([], nilA)
  | ⟨some k, e, _⟩ :: r => (f e).bind fun t => (kOf f r).bind fun u => some (k :: u.1, consA t u.2)
  | ⟨none, _, _⟩ :: _ => none
/-- a chain of and, or: as values -/
def chV (op : BoolOp) (f : Expr → Option Tw) : List Expr → Option Tw
  | [] => none
  | e :: es => (match es with
    | [] => f e
    | _ :: _ => (f e).bind fun t => (chV op f es).bind fun u => some (match op with
      | .And => andS t u
      | .Or => orS t u))
/-- .. as tests -/
def chT (op : BoolOp) (f : Expr → Option TwT) : List Expr → Option TwT
  | [] => none
  | e :: es => (match es with
    | [] => f e
    | _ :: _ => (f e).bind fun t => (chT op f es).bind fun u => some (match op with
      | .And => andT t u
      | .Or => orT t u))
def nameE (Γ : Cg) (x : Str) : Option Tw :=
  if (visB Γ.sc x && ((x == ("__debug__" : Str)) == false && (x == ("__classdict__" : Str)) == false)) = true then (ix Γ.N x).bind fun i => some (varS i)
  else if (glB Γ.sc x && ((x == ("__debug__" : Str)) == false)) = true then (lk Γ.gl x).bind fun g => match g with
    | .int i => some (cstS (.int i))
    | .str s => some (cstS (.str s))
    | .cls c => some (cstS (.cls c))
    | .val w => some (cstS w)
    | .free => (lk tyT x).bind fun T => some (cstS (.ty T))
    | .fn o => o.bind fun f => some (cstS (.fn f))
    | .dct _ => none
  else none
/-- a dict of the module -/
def dctOf (Γ : Cg) : Expr → Option (List (Key × W))
  | .Name x _ => if (glB Γ.sc x && ((x == ("__debug__" : Str)) == false)) = true then (lk Γ.gl x).bind fun g => (match g with
    | .dct kvs => some kvs
    | _ => none) else none
  | _ => none
def constE : Const → Option Tw
  | .int i => some (cstS (.int i))
  | .bool b => some (cstS (.bl b))
  | .none => some (cstS .non)
  | .str s => some (cstS (.str s))
  | _ => none
/-- a built-in function's meaning: len and bool of instances by their own __len__ -/
def biO (Γ : Cg) (cs : Sem) (b : Bi) : List W → Store → WP → Prop := match b with
  | .len => (match lk Γ.mts ("__len__", 0, []) with
    | some tb => lenO cs tb
    | none => biW Γ.kit .len)
  | .bool => (match lk Γ.mts ("__len__", 0, []), lk Γ.flds "__bool__" with
    | some tb, some cls => boolO cs tb cls
    | _, _ => biW Γ.kit .bool)
  | .str => (match lk Γ.mts ("__str__", 0, []) with
    | some tb => strO cs tb
    | none => biW Γ.kit .str)
  | .repr => (match lk Γ.mts ("__repr__", 0, []) with
    | some tb => rpO cs tb
    | none => rpW)
  | b => biW Γ.kit b
/-- f(..): a def of the text, or built-in -/
def callE (Γ : Cg) (cs : Sem) (r : Cmp) (x : Str) (es : List Expr) (kws : List Keyword) : Option Tw :=
  if (glB Γ.sc x && ((x == ("__debug__" : Str)) == false)) = true then
    (aOf r.e es).bind fun t => (kOf r.e kws).bind fun u => (lk Γ.gl x).bind fun g => match g with
      | .free => (match es, kws with
        | _ :: _, [] => (lk biT x).bind fun b => some (biS (biO Γ cs b) t)
        | _, _ => none)
      | .fn _ => (lk Γ.calls (x, es.length, u.1)).bind fun p => some (callN cs p.1 p.2 es.length u.1.length t u.2)
      | .cls _ => (lk Γ.mks (x, es.length, u.1)).bind fun p => some (mkN cs p.1 p.2.1 p.2.2 es.length u.1.length t u.2)
      | _ => none
  else if visB Γ.sc x = true then
    (nameE Γ x).bind fun tf => (aOf r.e es).bind fun t => (kOf r.e kws).bind fun u => (lk Γ.fvs (es.length, u.1)).bind fun tb => some (callV cs tb es.length u.1.length tf t u.2)
  else none
def Mt.ar : Mt → Nat
  | .append => 1 | .extend => 1 | .pop => 0 | .popAt => 1 | .clear => 0 | .reverse => 0 | .get1 => 1 | .get2 => 2 | .pop2 => 2
def mts : List Mt := [.append, .extend, .pop, .popAt, .clear, .reverse, .get1, .get2, .pop2]
def mtOf (m : Str) (n : Nat) : Option Mt := mts.find? fun b => decide (b.nm = m) && decide (b.ar = n)
theorem mtOf_ok {m : Str} {n : Nat} {b : Mt} (h : mtOf m n = some b) : m = b.nm ∧ n = b.ar := by
  have := List.find?_some h
  simp only [Bool.and_eq_true, decide_eq_true_eq] at this
  exact ⟨this.1.symm, this.2.symm⟩
def plainBase : Expr → Bool
  | .Call (.Name _ _) [] [] _ => false
  | _ => true
def callM (r : Cmp) (o : Expr) (m : Str) (es : List Expr) (apos cpos : Pos) : Option Tw :=
  if (plainBase o && (apos.endLine == cpos.line)) = true then
    (r.e o).bind fun to => (aOf r.e es).bind fun u => (mtOf m es.length).bind fun b => some (mtS b to u)
  else none
/-- a text's method -/
def callT (r : Cmp) (o : Expr) (m : Str) (es : List Expr) (apos cpos : Pos) : Option Tw :=
  if (plainBase o && (apos.endLine == cpos.line)) = true then
    if m = "join" then (match es with
      | [e] => (r.e o).bind fun to => (aOf r.e [e]).bind fun _ => (r.e e).bind fun te => some (tx2S jnW to te)
      | _ => none)
    else if m = "split" then (match es with
      | [e] => (r.e o).bind fun to => (aOf r.e [e]).bind fun _ => (r.e e).bind fun te => some (tx2S spW to te)
      | [] => (r.e o).bind fun to => some (tx1S wdW to)
      | _ => none)
    else none
  else none
/-- o.m(..): an own method, or built-in -/
def callA (Γ : Cg) (cs : Sem) (r : Cmp) (o : Expr) (m : Str) (es : List Expr) (kws : List Keyword) (apos cpos : Pos) : Option Tw :=
  (kOf r.e kws).bind fun u => match lk Γ.mts (m, es.length, u.1) with
    | some tb => if (plainBase o && (apos.endLine == cpos.line) && decide (es.length + kws.length + 1 < 30)) = true then (r.e o).bind fun to => (aOf r.e es).bind fun t => some (methN cs tb m es.length u.1.length to t u.2) else none
    | none => (match kws with
      | [] => (match callM r o m es apos cpos with
        | some t => some t
        | none => callT r o m es apos cpos)
      | _ => none)
def isTup : Expr → Bool
  | .Tuple _ _ _ => true
  | _ => false
def freeB (Γ : Cg) (x : Str) : Bool := match lk Γ.gl x with
  | some .free => glB Γ.sc x
  | _ => false
/-- what is walked -/
def iterE (Γ : Cg) (r : Cmp) (tg : Expr) (e : Expr) : Option TwI :=
  match e with
  | .Call (.Name x _) es [] _ =>
    if (x == ("range" : Str) && freeB Γ x) = true then (match es with
      | [a] => (aOf r.e [a]).bind fun u => some (rng1I u)
      | [a, b] => (aOf r.e [a, b]).bind fun u => some (rng2I u)
      | _ => none)
    else if (x == ("enumerate" : Str) && freeB Γ x) = true then (if isTup tg = true then (match es with
      | [a] => (aOf r.e [a]).bind fun u => some (enm1I u)
      | [a, b] => (aOf r.e [a, b]).bind fun u => some (enm2I u)
      | _ => none) else none)
    else if (x == ("zip" : Str) && freeB Γ x) = true then (if isTup tg = true then (match es with
      | [a, b] => (aOf r.e [a, b]).bind fun u => some (zpI u)
      | [a, b, c] => (aOf r.e [a, b, c]).bind fun u => some (zp3I u)
      | _ => none) else none)
    else (r.e e).bind fun t => some (seqI t)
  | .Call (.Name x _) es [⟨some kw, .Constant (.bool true) _ _, _⟩] _ =>
    if ((x == ("zip" : Str) && freeB Γ x) && (kw == ("strict" : Str) && isTup tg)) = true then (match es with
      | [a, b] => (aOf r.e [a, b]).bind fun u => some (zpSI u)
      | _ => none)
    else (r.e e).bind fun t => some (seqI t)
  | _ => (r.e e).bind fun t => some (seqI t)
def namesOf (Γ : Cg) : List Expr → Option (List Nat)
  | [] => some []
  | .Name x _ :: r => if locB Γ x = true then (ix Γ.N x).bind fun i => (namesOf Γ r).bind fun is => some (i :: is) else none
  | _ => none
def patOf (Γ : Cg) : Expr → Option Pat
  | .Name x _ => if locB Γ x = true then (ix Γ.N x).bind fun i => some (.nm i) else none
  | .Tuple es _ _ => (match es with
    | [.Name x _, .Tuple es2 _ _] => if locB Γ x = true then (ix Γ.N x).bind fun i => (namesOf Γ es2).bind fun js => some (.two i js) else none
    | _ => (namesOf Γ es).bind fun is => some (.tup is))
  | _ => none
theorem patOf_names {Γ : Cg} {ts : List Expr} {k : Nat} {p : Pos} {is : List Nat} (hi : namesOf Γ ts = some is) : patOf Γ (.Tuple ts k p) = some (.tup is) := by
  simp only [patOf]
  split
  · exfalso
    revert hi
    simp only [namesOf]
    split <;> intro hi
    · simp only [Option.bind_eq_some_iff] at hi
      obtain ⟨_, _, _, hj, _⟩ := hi
      cases hj
    · cases hi
  · rw [hi]; rfl
def ownOf (N : List Str) : List (Str × NameKind) → List (Str × Nat)
  | [] => []
  | (y, k) :: r => (match k with
    | .local => (match ix N y with
      | some i => (y, i) :: ownOf N r
      | none => ownOf N r)
    | .cell => (match ix N y with
      | some i => (y, i) :: ownOf N r
      | none => ownOf N r)
    | _ => ownOf N r)
def Cg.blk (Γ : Cg) (scope : Scope) : Cg := { Γ with sc := relS scope Γ.sc, fnB := fun x => scope.names.lookup x == some .cell }
def patInB (vs : List Nat) : Pat → Bool
  | .nm i => vs.contains i
  | .tup is => is.all vs.contains
  | .two i js => vs.contains i && js.all vs.contains
def notSet : Expr → Bool
  | .Set .. => false
  | _ => true
def lcE (Γ : Cg) (r : Cg → Cmp) (elt tg iter : Expr) (ifs : List Expr) (scope : Scope) : Option Tw :=
  if (blkC Γ.N Γ.sc scope (ownOf Γ.N scope.names) && notSet iter) = true then
    (iterE Γ (r Γ) tg iter).bind fun ti => (patOf (Γ.blk scope) tg).bind fun p =>
      if patInB ((ownOf Γ.N scope.names).map fun q : Str × Nat => q.2) p = true then
        (match ifs with
          | [] => some yesT
          | [c] => (r (Γ.blk scope)).t c
          | _ => none).bind fun tt => ((r (Γ.blk scope)).e elt).bind fun te => some (lcS ((ownOf Γ.N scope.names).map fun q : Str × Nat => q.2) ti p tt te)
      else none
  else none
def ifsT (r : Cmp) : List Expr → Option TwT
  | [] => some yesT
  | [c] => r.t c
  | _ => none
def patNs : Pat → List Nat
  | .nm i => [i]
  | .tup is => is
  | .two i js => i :: js
def lcE2 (Γ : Cg) (r : Cg → Cmp) (elt tg iter : Expr) (ifs : List Expr) (tg1 iter1 : Expr) (ifs1 : List Expr) (scope : Scope) : Option Tw :=
  if ((blkC Γ.N Γ.sc scope (ownOf Γ.N scope.names) && notSet iter) && notSet iter1) = true then
    (iterE Γ (r Γ) tg iter).bind fun ti => (patOf (Γ.blk scope) tg).bind fun p => (patOf (Γ.blk scope) tg1).bind fun p1 =>
      if (patInB ((ownOf Γ.N scope.names).map fun q : Str × Nat => q.2) p && patInB ((ownOf Γ.N scope.names).map fun q : Str × Nat => q.2) p1) = true then
        (ifsT (r (Γ.blk scope)) ifs).bind fun tt => (iterE (Γ.blk scope) (r (Γ.blk scope)) tg1 iter1).bind fun ti1 => (ifsT (r (Γ.blk scope)) ifs1).bind fun tt1 =>
          ((r (Γ.blk scope)).e elt).bind fun te => some (lc2S ((ownOf Γ.N scope.names).map fun q : Str × Nat => q.2) (patNs p1) ti p tt ti1 p1 tt1 te)
      else none
  else none
/-- o.f: of an instance, of an exception that was caught -/
def fldE (Γ : Cg) (f : Str) (t : Tw) : Option Tw := match lk Γ.xfl f with
  | some ecl => (match lk Γ.flds f with
    | some cls => some (fldX cls ecl f t)
    | none => some (fldX [] ecl f t))
  | none => (lk Γ.flds f).bind fun cls => some (fldC cls f t)
/-- the parts of an f-string -/
def jnPart (f : Expr → Option Tw) : Expr → Option Tw
  | .Constant (.str s) _ _ => some (cstS (.str s))
  | .FormattedValue e (-1) none _ => (f e).bind fun t => some (fmS t)
  | _ => none
def jnOf (f : Expr → Option Tw) : List Expr → Option (List Tw)
  | [] => some []
  | e :: es => (jnPart f e).bind fun t => (jnOf f es).bind fun ts => some (t :: ts)
/-- a name that may hold instances -/
def eqNm : Expr → Option Str
  | .Name x _ => some x
  | .Subscript a _ _ => eqNm a
  | _ => none
def eqB (Γ : Cg) (a : Expr) : Bool := match eqNm a with
  | some x => Γ.eqn.contains x
  | none => false
/-- ==, !=: by an own __eq__ where the name says so -/
def cmpO (Γ : Cg) (cs : Sem) (op : CmpOp) (a : Expr) : W → W → Store → WP → Prop :=
  if eqB Γ a = true then (match op, lk Γ.mts ("__eq__", 1, []) with
    | .Eq, some tb => if (tb.all fun p => Γ.eqs.contains p.1) = true then eqO cs tb false else cmpW .Eq
    | .NotEq, some tb => if (tb.all fun p => Γ.eqs.contains p.1) = true then eqO cs tb true else cmpW .NotEq
    | op, _ => cmpW op)
  else cmpW op
def stepE (Γ : Cg) (cs : Sem) (r : Cg → Cmp) : Expr → Option Tw
  | .Name x _ => nameE Γ x
  | .Constant c _ _ => constE c
  | .BinOp a op b _ => ((r Γ).e a).bind fun ta => ((r Γ).e b).bind fun tb => some (op2S (binW op) ta tb)
  | .UnaryOp op a _ => (match op with
    | .USub => ((r Γ).e a).bind fun t => some (negS t)
    | .Not => ((r Γ).e a).bind fun t => some (valS (notT (truS t)))
    | _ => none)
  | .BoolOp op es _ => chV op (r Γ).e es
  | .IfExp c a b _ => ((r Γ).t c).bind fun tc => ((r Γ).e a).bind fun ta => ((r Γ).e b).bind fun tb => some (ifS tc ta tb)
  | .Compare a ops bs _ => (match ops, bs with
    | [op], [b] => (match dctOf Γ b with
      | some kvs => (match op with
        | .In => ((r Γ).e a).bind fun ta => some (dinS false kvs ta)
        | .NotIn => ((r Γ).e a).bind fun ta => some (dinS true kvs ta)
        | _ => none)
      | none => if notSet b = true then ((r Γ).e a).bind fun ta => ((r Γ).e b).bind fun tb => some (op2S (cmpO Γ cs op a) ta tb) else none)
    | [op, op'], [b, c] => if notSet c = true then ((r Γ).e a).bind fun ta => ((r Γ).e b).bind fun tb => ((r Γ).e c).bind fun tc => some (chnS (cmpW op) (cmpW op') ta tb tc) else none
    | _, _ => none)
  | .Tuple es _ _ => (aOf (r Γ).e es).bind fun u => some (tupS u)
  | .List es _ => (aOf (r Γ).e es).bind fun u => some (lstS u)
  | .Dict ks vs _ => (match ks, vs with
    | [], [] => some dicN
    | _, _ => none)
  | .Subscript a ix _ => (match ix with
    | .Slice lo hi none _ => ((r Γ).e a).bind fun ta => (match lo with
        | none => some noO
        | some l => ((r Γ).e l).bind fun t => some (someO t)).bind fun tl => (match hi with
        | none => some noO
        | some l => ((r Γ).e l).bind fun t => some (someO t)).bind fun th => some (slcS ta tl th)
    | .Slice none none (some (.UnaryOp .USub (.Constant (.int 1) _ _) _)) _ => ((r Γ).e a).bind fun ta => some (revS ta)
    | .Slice _ _ (some _) _ => none
    | _ => (match dctOf Γ a with
      | some kvs => ((r Γ).e ix).bind fun tb => some (digS kvs tb)
      | none => ((r Γ).e a).bind fun ta => ((r Γ).e ix).bind fun tb => some (op2S idxW ta tb)))
  | .Call f es kws pos => (match f with
    | .Name x _ => callE Γ cs (r Γ) x es kws
    | .Attribute o m apos => callA Γ cs (r Γ) o m es kws apos pos
    | _ => none)
  | .Attribute o f _ => if plainBase o = true then ((r Γ).e o).bind fun t => fldE Γ f t else none
  | .ListComp elt gs scope _ => (match gs with
    | [⟨tg, iter, ifs, 0⟩] => lcE Γ r elt tg iter ifs scope
    | [⟨tg, iter, ifs, 0⟩, ⟨tg1, iter1, ifs1, 0⟩] => lcE2 Γ r elt tg iter ifs tg1 iter1 ifs1 scope
    | _ => none)
  | .JoinedStr vs _ => (match vs with
    | v1 :: v2 :: rest => (jnOf (r Γ).e (v1 :: v2 :: rest)).bind fun ts => some (jnsS ts Str.empty)
    | _ => none)
  | _ => none
def stepT (Γ : Cg) (cs : Sem) (r : Cg → Cmp) : Expr → Option TwT
  | .UnaryOp op a pos => (match op with
    | .Not => ((r Γ).t a).bind fun t => some (notT t)
    | _ => ((r Γ).e (.UnaryOp op a pos)).bind fun t => some (truS t))
  | .BoolOp op es _ => chT op (r Γ).t es
  | .Compare a ops bs _ => (match ops, bs with
    | [op], [b] => (match dctOf Γ b with
      | some kvs => (match op with
        | .In => ((r Γ).e a).bind fun ta => some (tstS (dinS false kvs ta))
        | .NotIn => ((r Γ).e a).bind fun ta => some (tstS (dinS true kvs ta))
        | _ => none)
      | none => if notSet b = true then ((r Γ).e a).bind fun ta => ((r Γ).e b).bind fun tb => some (tstS (op2S (cmpO Γ cs op a) ta tb)) else none)
    | [op, op'], [b, c] => if notSet c = true then ((r Γ).e a).bind fun ta => ((r Γ).e b).bind fun tb => ((r Γ).e c).bind fun tc => some (tstS (chnS (cmpW op) (cmpW op') ta tb tc)) else none
    | _, _ => none)
  | .IfExp _ _ _ _ => none
  | e => ((r Γ).e e).bind fun t => some (truS t)
def cmp (cs : Sem) : Nat → Cg → Cmp
  | 0, _ => ⟨fun _ => none, fun _ => none⟩
  | n + 1, Γ => ⟨stepE Γ cs (cmp cs n), stepT Γ cs (cmp cs n)⟩
end MP
set_option Elab.async false
set_option linter.all false
set_option maxRecDepth 100000
set_option maxHeartbeats 4000000
namespace MP
open PySem PySem.Spec PyProof.Rows L2
/-! ### the readings hold: expressions -/
structure GoodC (X : Cx) (G : Wd) (Wx : WX) (r : Cmp) : Prop where
  e : ∀ e t, r.e e = some t → PEw X G Wx e t
  t : ∀ e t, r.t e = some t → PTw X G Wx e t
theorem OkX.blk {Γ : Cg} {G : Wd} {cs : Sem} {X : Cx} {Wx : WX} (O : OkX Γ G cs X Wx) {scope : Scope} (hk : scope.kind = .function) (s : Shared) (H : Hp) (C : Addr) (cl : List (Str × Addr)) (fp : List Addr) :
    OkX (Γ.blk scope) G cs (X.blk s H scope (compEnvC scope cl C X.env) fp) WNo := by
  refine ⟨O.hN, O.nd, ?_, hk, O.calm, O.un, O.gd, ?_, fun x h => h, O.kit, O.gl, fun p hp => ⟨(O.calls p hp).ex⟩, O.flds, fun p hp => ⟨(O.mks p hp).ex⟩, fun p hp q hq => ⟨(O.mts p hp q hq).ex⟩, fun p hp => ⟨(O.exs p hp).ex⟩, O.xfl, O.exm, fun p hp q hq => ⟨⟨(O.fvs p hp q hq).at_.ex⟩⟩, O.eqs⟩
  · show relabel scope X.env = relS scope Γ.sc
    rw [← O.sc]
    rfl
  · rintro u s' ⟨a, B, sI, pins, σ, H, cls, d, _, _, _, _, _, _, _, _, w⟩
    exact w
section
variable {Γ : Cg} {G : Wd} {cs : Sem} {X : Cx} {Wx : WX}
theorem aOf_ok {f : Expr → Option Tw} (hf : ∀ e t, f e = some t → PEw X G Wx e t) : ∀ {es : List Expr} {u : TwA}, aOf f es = some u → PAw X G Wx es u ∧ es.all noStar = true ∧ (es = [] → u = nilA)
  | [], u, h => by
    cases h
    exact ⟨aw_nil, rfl, fun _ => rfl⟩
  | e :: es, u, h => by
    simp only [aOf, oif, Option.bind_eq_some_iff, Option.some.injEq] at h
    obtain ⟨hs, t, ht, v, hv, rfl⟩ := h
    obtain ⟨a, b, _⟩ := aOf_ok hf hv
    exact ⟨aw_cons (hf e t ht) a (star_cons hs), by rw [List.all_cons, hs, b]; rfl, fun z => by cases z⟩
theorem kOf_ok {f : Expr → Option Tw} (hf : ∀ e t, f e = some t → PEw X G Wx e t) : ∀ {kws : List Keyword} {u : List Str × TwA}, kOf f kws = some u → PKw X G Wx kws u.2 ∧ kws.map (·.arg) = u.1.map some
  | [], u, h => by
    cases h
    exact ⟨kw_nil, rfl⟩
  | ⟨some k, e, p⟩ :: es, u, h => by
    simp only [kOf, Option.bind_eq_some_iff, Option.some.injEq] at h
    obtain ⟨t, ht, v, hv, rfl⟩ := h
    obtain ⟨a, b⟩ := kOf_ok hf hv
    exact ⟨kw_cons (hf e t ht) a, by rw [List.map_cons, List.map_cons, b]⟩
  | ⟨none, _, _⟩ :: _, u, h => by cases h
theorem chV_ok {op : BoolOp} {pos : Pos} {f : Expr → Option Tw} (hf : ∀ e t, f e = some t → PEw X G Wx e t) : ∀ {es : List Expr} {u : Tw}, chV op f es = some u → PEw X G Wx (.BoolOp op es pos) u
  | [], u, h => by cases h
  | [e], u, h => ew_one (hf e u h)
  | e :: b :: es, u, h => by
    simp only [chV, Option.bind_eq_some_iff, Option.some.injEq] at h
    obtain ⟨t, ht, v, hv, rfl⟩ := h
    have hv : chV op f (b :: es) = some v := hv
    cases op with
    | And => exact ew_and (hf e t ht) (chV_ok hf hv)
    | Or => exact ew_or (hf e t ht) (chV_ok hf hv)
theorem chT_ok {op : BoolOp} {pos : Pos} {f : Expr → Option TwT} (hf : ∀ e t, f e = some t → PTw X G Wx e t) : ∀ {es : List Expr} {u : TwT}, chT op f es = some u → PW X (.BoolOp op es pos) (liftT X.K G Wx u)
  | [], u, h => by cases h
  | [e], u, h => pw_of1 (hf e u h)
  | e :: b :: es, u, h => by
    simp only [chT, Option.bind_eq_some_iff, Option.some.injEq] at h
    obtain ⟨t, ht, v, hv, rfl⟩ := h
    have hv : chT op f (b :: es) = some v := hv
    cases op with
    | And => exact tw_and (hf e t ht) (chT_ok hf hv)
    | Or => exact tw_or (hf e t ht) (chT_ok hf hv)
theorem gl_of (O : OkX Γ G cs X Wx) {x : Str} (h : glB Γ.sc x = true) : Gl X x := by
  show X.env.scope.names.lookup x = _
  rw [O.sc]
  exact glB_ok h
theorem bfalse {b : Bool} (h : (b == false) = true) : b = false := by cases b <;> simp_all
theorem nameE_ok (O : OkX Γ G cs X Wx) {x : Str} {p : Pos} {t : Tw} (h : nameE Γ x = some t) : PEw X G Wx (.Name x p) t := by
  unfold nameE at h
  split at h
  · rename_i c
    simp only [Bool.and_eq_true] at c
    simp only [Option.bind_eq_some_iff, Option.some.injEq] at h
    obtain ⟨i, hi, rfl⟩ := h
    exact ew_var (by rw [O.hN]; exact ix_ok hi) (by rw [O.sc]; exact vis_ok c.1) (bfalse c.2.1) (bfalse c.2.2)
  · split at h
    · rename_i c
      simp only [Bool.and_eq_true] at c
      simp only [Option.bind_eq_some_iff, Option.some.injEq] at h
      obtain ⟨g, hg, h⟩ := h
      have gg := gl_of O c.1
      have ok := O.gl _ (lk_mem hg)
      cases g with
      | int i =>
        cases h
        obtain ⟨t, ht⟩ := ok
        exact ew_cst (v := .int i) (pe_glob gg ht ⟨t, rfl⟩ (bfalse c.2)) fun H => rw_int.mpr rfl
      | str s =>
        cases h
        obtain ⟨t, ht⟩ := ok
        exact ew_cst (v := .str s) (pe_glob gg ht ⟨t, rfl⟩ (bfalse c.2)) fun H => rw_str.mpr rfl
      | cls k =>
        cases h
        exact ew_cst (v := .ref (G.cad k)) (pe_glob gg ok rfl (bfalse c.2)) fun H => rw_cls.mpr rfl
      | val w =>
        cases h
        obtain ⟨u, v, hu, rv, hw⟩ := ok
        exact ew_cst (v := v) (pe_glob gg hu rv (bfalse c.2)) hw
      | free =>
        simp only [Option.bind_eq_some_iff, Option.some.injEq] at h
        obtain ⟨T, hT, rfl⟩ := h
        obtain ⟨a, b, d⟩ := tyT_ok _ (lk_mem hT)
        exact ew_cst (v := .ty T) (pe_bltn gg ok a rfl b d) fun H => rw_ty.mpr rfl
      | fn o =>
        simp only [Option.bind_eq_some_iff, Option.some.injEq] at h
        obtain ⟨f, rfl, rfl⟩ := h
        exact ew_cst (v := .ref (G.fad f)) (pe_glob gg (ok f rfl) rfl (bfalse c.2)) fun H => rw_fn.mpr rfl
      | dct kvs => cases h
    · cases h
theorem dctOf_ok (O : OkX Γ G cs X Wx) {b : Expr} {kvs : List (Key × W)} (h : dctOf Γ b = some kvs) : ∃ x p a, b = .Name x p ∧ Gl X x ∧ (x == ("__debug__" : Str)) = false ∧ X.mg x = some (.ref a) ∧ DicM X.w X.K G a kvs := by
  unfold dctOf at h
  split at h
  · rename_i x p
    simp only [oif, Option.bind_eq_some_iff] at h
    obtain ⟨c, g, hg, h⟩ := h
    rw [Bool.and_eq_true] at c
    have ok := O.gl _ (lk_mem hg)
    cases g <;> first | (cases h; done) | skip
    cases h
    obtain ⟨a, h1, h2⟩ := ok
    exact ⟨x, p, a, rfl, gl_of O c.1, bfalse c.2, h1, h2⟩
  · cases h
theorem constE_ok {c : Const} {k : Nat} {p : Pos} {t : Tw} (h : constE c = some t) : PEw X G Wx (.Constant c k p) t := by
  cases c <;> simp only [constE, Option.some.injEq] at h <;> first | (cases h; done) | skip
  · subst h
    exact ew_cst pe_non fun H => rw_non.mpr rfl
  · subst h
    exact ew_cst pe_bl fun H => rw_bl.mpr rfl
  · subst h
    exact ew_cst pe_int fun H => rw_int.mpr rfl
  · subst h
    exact ew_cst pe_str fun H => rw_str.mpr rfl
theorem cr_biO (O : OkX Γ G cs X Wx) (b : Bi) : CallR X b.val (liftC X.K G (biO Γ cs b)) := by
  have gen := cr_biW (X := X) (G := G) (k := Γ.kit) O.kit O.calm b
  unfold biO
  cases b <;> first | exact gen | skip
  · simp only
    split
    · rename_i tb e
      exact cr_lenO O.tk (fun p hp => O.mts _ (lk_mem e) p hp)
    · exact gen
  · simp only
    split
    · rename_i tb cls e1 e2
      exact cr_boolO O.tk (fun p hp => O.mts _ (lk_mem e1) p hp) (O.flds _ (lk_mem e2))
    · exact gen
  · simp only
    split
    · rename_i tb e
      exact cr_strO O.tk (fun p hp => O.mts _ (lk_mem e) p hp)
    · exact gen
  · simp only
    split
    · rename_i tb e
      exact cr_rpO O.gd O.un O.tk (fun p hp => O.mts _ (lk_mem e) p hp)
    · exact cr_rpW O.gd O.un
theorem jnPart_ok {f : Expr → Option Tw} (hf : ∀ e t, f e = some t → PEw X G Wx e t) {e : Expr} {t : Tw} (h : jnPart f e = some t) : PEw X G Wx e t := by
  unfold jnPart at h
  split at h
  · cases h
    exact ew_cst pe_str fun H => rw_str.mpr rfl
  · simp only [Option.bind_eq_some_iff, Option.some.injEq] at h
    obtain ⟨te, he, rfl⟩ := h
    exact ew_fmt (hf _ _ he)
  · cases h
theorem jnOf_ok {f : Expr → Option Tw} (hf : ∀ e t, f e = some t → PEw X G Wx e t) : ∀ {es : List Expr} {ts : List Tw}, jnOf f es = some ts → PJw X G Wx es ts
  | [], ts, h => by
    cases h
    exact .nil
  | e :: es, ts, h => by
    simp only [jnOf, Option.bind_eq_some_iff, Option.some.injEq] at h
    obtain ⟨t, ht, us, hu, rfl⟩ := h
    exact .cons (jnPart_ok hf ht) (jnOf_ok hf hu)
theorem op_cmpO (O : OkX Γ G cs X Wx) (op : CmpOp) (a : Expr) : OpR X (compareOp op) (lift2 X.K G (cmpO Γ cs op a)) := by
  have gen := op_cmpW (X := X) (G := G) op O.un
  unfold cmpO
  split
  · split
    · rename_i tb e
      split
      · rename_i c
        simp only [List.all_eq_true, List.contains_iff_mem] at c
        exact op_eqO false O.tk O.un O.kit (fun p hp => O.mts _ (lk_mem e) p hp) fun p hp => O.eqs _ (c p hp)
      · exact gen
    · rename_i tb e
      split
      · rename_i c
        simp only [List.all_eq_true, List.contains_iff_mem] at c
        exact op_eqO true O.tk O.un O.kit (fun p hp => O.mts _ (lk_mem e) p hp) fun p hp => O.eqs _ (c p hp)
      · exact gen
    · exact gen
  · exact gen
theorem callE_ok (O : OkX Γ G cs X Wx) {r : Cmp} (g : GoodC X G Wx r) {x : Str} {es : List Expr} {kws : List Keyword} {p pos : Pos} {t : Tw} (h : callE Γ cs r x es kws = some t) : PEw X G Wx (.Call (.Name x p) es kws pos) t := by
  unfold callE at h
  split at h
  rotate_left
  · rw [oif] at h
    obtain ⟨c, h⟩ := h
    simp only [Option.bind_eq_some_iff, Option.some.injEq] at h
    obtain ⟨tf, hf, ta, ha, u, hu, tb, htb, rfl⟩ := h
    obtain ⟨a1, a2, a3⟩ := aOf_ok g.e ha
    obtain ⟨k1, k2⟩ := kOf_ok g.e hu
    exact ew_callV O.tk (fun q hq => O.fvs _ (lk_mem htb) q hq) (nameE_ok O hf) a1 k1 a3 a2 k2
  rename_i c
  simp only [Option.bind_eq_some_iff, Option.some.injEq] at h
  rw [Bool.and_eq_true] at c
  obtain ⟨ta, ha, u, hu, gv, hg, h⟩ := h
  obtain ⟨a1, a2, a3⟩ := aOf_ok g.e ha
  obtain ⟨k1, k2⟩ := kOf_ok g.e hu
  have gg := gl_of O c.1
  have ok := O.gl _ (lk_mem hg)
  cases gv with
  | free =>
    simp only at h
    split at h
    · rename_i e es' 
      simp only [Option.bind_eq_some_iff, Option.some.injEq] at h
      obtain ⟨b, hb, rfl⟩ := h
      obtain ⟨b1, b2, b3⟩ := biT_ok _ (lk_mem hb)
      have cr := cr_biO (cs := cs) O b
      have s2 := a2
      rw [List.all_cons, Bool.and_eq_true] at s2
      refine ew_bi (f := b.val) (fun ht => ?_) a1
      cases b <;> first | exact pe_callB cr gg ok b1 ht b2 b3 (star_cons s2.1) (star_any s2.2) | exact pe_callTy cr gg ok b1 ht b2 b3 (star_cons s2.1) (star_any s2.2)
    · cases h
  | fn _ =>
    simp only [Option.bind_eq_some_iff, Option.some.injEq] at h
    obtain ⟨q, hq, rfl⟩ := h
    exact ew_call O.tk (O.calls _ (lk_mem hq)) gg (bfalse c.2) a1 k1 a3 a2 k2
  | cls _ =>
    simp only [Option.bind_eq_some_iff, Option.some.injEq] at h
    obtain ⟨q, hq, rfl⟩ := h
    exact ew_make O.tk (O.mks _ (lk_mem hq)) gg (bfalse c.2) a1 k1 a3 a2 k2
  | _ => cases h
theorem base_ok {o : Expr} {m : Str} {env : Env} (h : plainBase o = true) : attributeBase o m env (eval o env) = eval o env := by
  unfold attributeBase
  split
  · cases h
  · rfl
theorem few_ok {env : Env} {pos : Pos} : ∀ {es : List Expr}, es.all noStar = true → es.length < 30 → ((backTo pos (starEach es env)).all (fun x => !x.1) && (backToKw pos (keywordEach [] env)).all (fun x => x.1.isSome)
      && decide (es.length + ([] : List Keyword).length + (if ([] : List Keyword).isEmpty then 0 else 1) < 30)) = true := by
  intro es h hl
  have h1 : (backTo pos (starEach es env)).all (fun x => !x.1) = true := by
    have q := star_any (env := env) (pos := pos) h
    rw [List.all_eq_not_any_not, ← Bool.not_false]
    congr 1
    rw [← q]
    congr 1
    funext x
    simp
  rw [h1]
  show (true && true && decide (es.length + 0 + 0 < 30)) = true
  simpa using hl
theorem callM_ok (O : OkX Γ G cs X Wx) {r : Cmp} (g : GoodC X G Wx r) {o : Expr} {m : Str} {es : List Expr} {apos cpos : Pos} {t : Tw} (h : callM r o m es apos cpos = some t) : PEw X G Wx (.Call (.Attribute o m apos) es [] cpos) t := by
  unfold callM at h
  simp only [oif, Option.bind_eq_some_iff, Option.some.injEq] at h
  rw [Bool.and_eq_true] at h
  obtain ⟨c, to, ho, u, hu, b, hb, rfl⟩ := h
  obtain ⟨a1, a2, a3⟩ := aOf_ok g.e hu
  have hbase := base_ok (m := m) (env := X.env) c.1
  have ho := g.e _ _ ho
  obtain ⟨rfl, hn⟩ := mtOf_ok hb
  have un : X.A.units + 1 < cLine := by have := O.un; omega
  have small : es.length < 30 := by rw [hn]; cases b <;> decide
  match es, a1, a2, a3, hn, small with
  | [], a1, a2, a3, hn, _ =>
    rw [a3 rfl]
    exact ew_bu0 ho fun h1 => pe_bu0 un h1 hbase c.2
  | e :: es, a1, a2, a3, hn, small =>
    have a2' := a2
    rw [List.all_cons, Bool.and_eq_true] at a2'
    exact ew_bu ho a1 fun h1 h2 => pe_bu un h1 h2 hbase (few_ok a2 small) c.2 (star_cons a2'.1) (star_any a2'.2)
theorem callT_ok {r : Cmp} (g : GoodC X G Wx r) {o : Expr} {m : Str} {es : List Expr} {apos cpos : Pos} {t : Tw} (h : callT r o m es apos cpos = some t) : PEw X G Wx (.Call (.Attribute o m apos) es [] cpos) t := by
  unfold callT at h
  split at h
  · rename_i c
    rw [Bool.and_eq_true] at c
    split at h
    · rename_i em
      subst em
      split at h
      · simp only [Option.bind_eq_some_iff, Option.some.injEq] at h
        obtain ⟨to, ho, u, hu, te, he, rfl⟩ := h
        obtain ⟨a1, a2, a3⟩ := aOf_ok g.e hu
        exact ew_join (g.e _ _ ho) (g.e _ _ he) (star_cons (by simpa using a2)) (base_ok c.1) c.2
      · cases h
    · split at h
      · rename_i em
        subst em
        split at h
        · simp only [Option.bind_eq_some_iff, Option.some.injEq] at h
          obtain ⟨to, ho, u, hu, te, he, rfl⟩ := h
          obtain ⟨a1, a2, a3⟩ := aOf_ok g.e hu
          exact ew_split (g.e _ _ ho) (g.e _ _ he) (star_cons (by simpa using a2)) (base_ok c.1) c.2
        · simp only [Option.bind_eq_some_iff, Option.some.injEq] at h
          obtain ⟨to, ho, rfl⟩ := h
          exact ew_words (g.e _ _ ho) (base_ok c.1) c.2
        · cases h
      · cases h
  · cases h
theorem callA_ok (O : OkX Γ G cs X Wx) {r : Cmp} (g : GoodC X G Wx r) {o : Expr} {m : Str} {es : List Expr} {kws : List Keyword} {apos cpos : Pos} {t : Tw} (h : callA Γ cs r o m es kws apos cpos = some t) : PEw X G Wx (.Call (.Attribute o m apos) es kws cpos) t := by
  unfold callA at h
  simp only [Option.bind_eq_some_iff] at h
  obtain ⟨u, hu, h⟩ := h
  obtain ⟨k1, k2⟩ := kOf_ok g.e hu
  split at h
  · rename_i tb htb
    simp only [oif, Option.bind_eq_some_iff, Option.some.injEq] at h
    obtain ⟨c, to, ho, u2, hu2, rfl⟩ := h
    simp only [Bool.and_eq_true, decide_eq_true_eq] at c
    obtain ⟨a1, a2, a3⟩ := aOf_ok g.e hu2
    exact ew_meth O.tk (fun p hp => O.mts _ (lk_mem htb) p hp) (g.e _ _ ho) a1 k1 a3 a2 k2 (base_ok c.1.1) c.1.2 c.2
  · split at h
    · split at h
      · rename_i t2 e2
        cases h
        exact callM_ok O g e2
      · exact callT_ok g h
    · cases h
theorem freeB_ok (O : OkX Γ G cs X Wx) {x : Str} (h : freeB Γ x = true) : Gl X x ∧ X.mg x = none := by
  unfold freeB at h
  split at h
  · rename_i e
    exact ⟨gl_of O h, O.gl _ (lk_mem e)⟩
  · cases h
theorem iterE_ok (O : OkX Γ G cs X Wx) {r : Cmp} (g : GoodC X G Wx r) {tg e : Expr} {t : TwI} (h : iterE Γ r tg e = some t) : PIw X G Wx tg e t := by
  unfold iterE at h
  split at h
  · rename_i x p es pos
    split at h
    · rename_i c
      simp only [Bool.and_eq_true, beq_iff_eq] at c
      obtain ⟨rfl, c⟩ := c
      obtain ⟨g1, g2⟩ := freeB_ok O c
      split at h
      · simp only [Option.bind_eq_some_iff, Option.some.injEq] at h
        obtain ⟨u, hu, rfl⟩ := h
        obtain ⟨a1, a2, a3⟩ := aOf_ok g.e hu
        simp only [List.all_cons, List.all_nil, Bool.and_true] at a2
        exact iw_rng1 g1 g2 a1 (star_cons a2)
      · simp only [Option.bind_eq_some_iff, Option.some.injEq] at h
        obtain ⟨u, hu, rfl⟩ := h
        obtain ⟨a1, a2, a3⟩ := aOf_ok g.e hu
        simp only [List.all_cons, List.all_nil, Bool.and_true, Bool.and_eq_true] at a2
        exact iw_rng2 g1 g2 a1 (by rw [star_cons a2.1, star_cons a2.2]; rfl) (by rw [star_cons a2.2]; rfl)
      · cases h
    · split at h
      · rename_i c
        simp only [Bool.and_eq_true, beq_iff_eq] at c
        obtain ⟨rfl, c⟩ := c
        obtain ⟨g1, g2⟩ := freeB_ok O c
        simp only [oif] at h
        obtain ⟨ct, h⟩ := h
        cases tg <;> first | cases ct | skip
        split at h
        · simp only [Option.bind_eq_some_iff, Option.some.injEq] at h
          obtain ⟨u, hu, rfl⟩ := h
          obtain ⟨a1, a2, a3⟩ := aOf_ok g.e hu
          simp only [List.all_cons, List.all_nil, Bool.and_true] at a2
          exact iw_enm1 g1 g2 a1 (star_cons a2)
        · simp only [Option.bind_eq_some_iff, Option.some.injEq] at h
          obtain ⟨u, hu, rfl⟩ := h
          obtain ⟨a1, a2, a3⟩ := aOf_ok g.e hu
          simp only [List.all_cons, List.all_nil, Bool.and_true, Bool.and_eq_true] at a2
          exact iw_enm2 g1 g2 a1 (star_cons a2.1) (star_any (by simp [a2.2]))
        · cases h
      · split at h
        · rename_i c
          simp only [Bool.and_eq_true, beq_iff_eq] at c
          obtain ⟨rfl, c⟩ := c
          obtain ⟨g1, g2⟩ := freeB_ok O c
          simp only [oif] at h
          obtain ⟨ct, h⟩ := h
          cases tg <;> first | cases ct | skip
          split at h
          · simp only [Option.bind_eq_some_iff, Option.some.injEq] at h
            obtain ⟨u, hu, rfl⟩ := h
            obtain ⟨a1, a2, a3⟩ := aOf_ok g.e hu
            simp only [List.all_cons, List.all_nil, Bool.and_true, Bool.and_eq_true] at a2
            exact iw_zip g1 g2 a1 (star_cons a2.1) (star_any (by simp [a2.2]))
          · simp only [Option.bind_eq_some_iff, Option.some.injEq] at h
            obtain ⟨u, hu, rfl⟩ := h
            obtain ⟨a1, a2, a3⟩ := aOf_ok g.e hu
            simp only [List.all_cons, List.all_nil, Bool.and_true, Bool.and_eq_true] at a2
            exact iw_zip3 g1 g2 a1 (star_cons a2.1) (star_any (by simp [a2.2]))
          · cases h
        · simp only [Option.bind_eq_some_iff, Option.some.injEq] at h
          obtain ⟨u, hu, rfl⟩ := h
          exact iw_seq (g.e _ _ hu)
  · split at h
    · rename_i c
      simp only [Bool.and_eq_true, beq_iff_eq] at c
      obtain ⟨⟨rfl, c⟩, rfl, ct⟩ := c
      obtain ⟨g1, g2⟩ := freeB_ok O c
      cases tg <;> first | cases ct | skip
      split at h
      · simp only [Option.bind_eq_some_iff, Option.some.injEq] at h
        obtain ⟨u, hu, rfl⟩ := h
        obtain ⟨a1, a2, a3⟩ := aOf_ok g.e hu
        simp only [List.all_cons, List.all_nil, Bool.and_true, Bool.and_eq_true] at a2
        exact iw_zipS g1 g2 a1 (by rw [star_cons a2.1]) (star_any (by simp [a2.2]))
      · cases h
    · simp only [Option.bind_eq_some_iff, Option.some.injEq] at h
      obtain ⟨u, hu, rfl⟩ := h
      exact iw_seq (g.e _ _ hu)
  · simp only [Option.bind_eq_some_iff, Option.some.injEq] at h
    obtain ⟨u, hu, rfl⟩ := h
    exact iw_seq (g.e _ _ hu)
theorem locB_ok (O : OkX Γ G cs X Wx) {x : Str} (h : locB Γ x = true) : Loc X.env.scope x ∧ (X.fn x = true ∨ X.env.scope.names.lookup x = some .local) := by
  unfold locB at h
  rw [O.sc]
  split at h
  · rename_i e
    exact ⟨.inl e, .inr e⟩
  · rename_i e
    exact ⟨.inr e, .inl (O.fn x h)⟩
  · cases h
theorem namesOf_ok (O : OkX Γ G cs X Wx) : ∀ {es : List Expr} {is : List Nat}, namesOf Γ es = some is → PGs X es (nmsG is) ∧ (assignEach es X.env).length = is.length ∧ (assignEach es X.env).findIdx? (·.1) = none
  | [], is, h => by
    cases h
    exact ⟨pgs_nil, rfl, rfl⟩
  | e :: es, is, h => by
    cases e <;> simp only [namesOf] at h <;> first | (cases h; done) | skip
    rename_i x p
    simp only [oif, Option.bind_eq_some_iff, Option.some.injEq] at h
    obtain ⟨hl, i, hi, js, hj, rfl⟩ := h
    obtain ⟨a, b, c⟩ := namesOf_ok O hj
    obtain ⟨l1, l2⟩ := locB_ok O hl
    refine ⟨pgs_cons (pg_name (by rw [O.hN]; exact O.nd) (by rw [O.hN]; exact ix_ok hi) l1 l2) a rfl, ?_, ?_⟩
    · show (assignEach es X.env).length + 1 = _
      rw [b]; rfl
    · show List.findIdx? (·.1) ((false, assign (.Name x p) X.env) :: assignEach es X.env) = none
      rw [List.findIdx?_cons]
      simp [c]
theorem tupG_ok (O : OkX Γ G cs X Wx) {es : List Expr} {k : Nat} {q : Pos} {is : List Nat} (hi : namesOf Γ es = some is) : PG X (.Tuple es k q) (tupG X.K is) := by
  obtain ⟨a, b, c⟩ := namesOf_ok O hi
  refine ⟨fun pins s σ H v u Q I r h => ?_⟩
  rcases h with h | h
  · exact (pg_tup O.calm a b c).run pins s σ H v u Q I r h
  · exact (pg_lst O.calm a b c).run pins s σ H v u Q I r h
theorem patOf_ok (O : OkX Γ G cs X Wx) {tg : Expr} {p : Pat} (h : patOf Γ tg = some p) : PG X tg (patG X.K p) := by
  cases tg <;> simp only [patOf] at h <;> first | (cases h; done) | skip
  · rename_i x q
    simp only [oif, Option.bind_eq_some_iff, Option.some.injEq] at h
    obtain ⟨hl, i, hi, rfl⟩ := h
    obtain ⟨l1, l2⟩ := locB_ok O hl
    exact pg_name (by rw [O.hN]; exact O.nd) (by rw [O.hN]; exact ix_ok hi) l1 l2
  · rename_i es k q
    split at h
    · rename_i x q1 es2 k2 q2
      simp only [oif, Option.bind_eq_some_iff, Option.some.injEq] at h
      obtain ⟨hl, i, hi, js, hj, rfl⟩ := h
      obtain ⟨l1, l2⟩ := locB_ok O hl
      have g1 : PG X (.Name x q1) (gName i) := pg_name (by rw [O.hN]; exact O.nd) (by rw [O.hN]; exact ix_ok hi) l1 l2
      have g2 : PG X (.Tuple es2 k2 q2) (tupG X.K js) := tupG_ok O hj
      have gs : PGs X [.Name x q1, .Tuple es2 k2 q2] (twoG X.K i js) := pgs_cons g1 (pgs_cons g2 pgs_nil rfl) rfl
      refine ⟨fun pins s σ H v u Q I r h => ?_⟩
      rcases h with h | h
      · exact (pg_tup O.calm gs rfl rfl).run pins s σ H v u Q I r h
      · exact (pg_lst O.calm gs rfl rfl).run pins s σ H v u Q I r h
    · simp only [Option.bind_eq_some_iff, Option.some.injEq] at h
      obtain ⟨is, hi, rfl⟩ := h
      exact tupG_ok O hi
theorem fold_ok {e : Expr} {env : Env} (h : notSet e = true) : ∀ x, foldedSetIterable e env x = pure x := by
  intro x
  cases e <;> first | rfl | cases h
theorem patInB_ok {vs : List Nat} {p : Pat} (h : patInB vs p = true) : patIn vs p := by
  cases p with
  | nm i => simpa [patInB, patIn] using h
  | tup is => simpa [patInB, patIn] using h
  | two i js => simpa [patInB, patIn] using h
end
end MP
set_option Elab.async false
set_option linter.all false
set_option maxRecDepth 100000
set_option maxHeartbeats 4000000
namespace MP
open PySem PySem.Spec PyProof.Rows L2
section
variable {Γ : Cg} {G : Wd} {cs : Sem} {X : Cx} {Wx : WX}
def GoodR (G : Wd) (cs : Sem) (r : Cg → Cmp) : Prop := ∀ Γ X Wx, OkX Γ G cs X Wx → GoodC X G Wx (r Γ)
theorem mark_ok {op : CmpOp} {b : Expr} (h : notSet b = true) : behindInMarks op b = false := by
  cases b <;> first | rfl | cases h
structure LcFacts (X : Cx) (G : Wd) (Wx : WX) (elt tg iter : Expr) (ifs : List Expr) (scope : Scope) (own : List (Str × Nat)) (ti : TwI) (p : Pat) (tt : TwT) (te : Tw) : Prop where
  hp : patIn (own.map (·.2)) p
  hi : PIw X G Wx tg iter ti
  ok : BlkOk X.N X.env.scope scope own
  hg : ∀ (s : Shared) (H : Hp) (C : Addr) (cl : List (Str × Addr)) (fp : List Addr), PG (X.blk s H scope (compEnvC scope cl C X.env) fp) tg (patG X.K p)
  ht : ∀ (s : Shared) (H : Hp) (C : Addr) (cl : List (Str × Addr)) (fp : List Addr), PTsw (X.blk s H scope (compEnvC scope cl C X.env) fp) G WNo ifs tt
  he : ∀ (s : Shared) (H : Hp) (C : Addr) (cl : List (Str × Addr)) (fp : List Addr), PEw (X.blk s H scope (compEnvC scope cl C X.env) fp) G WNo elt te
  hs : ∀ x, foldedSetIterable iter X.env x = pure x
theorem lcE_ok (O : OkX Γ G cs X Wx) {r : Cg → Cmp} (g : GoodR G cs r) {elt tg iter : Expr} {ifs : List Expr} {scope : Scope} {t : Tw} (h : lcE Γ r elt tg iter ifs scope = some t) :
    ∃ own ti p tt te, t = lcS (own.map (·.2)) ti p tt te ∧ LcFacts X G Wx elt tg iter ifs scope own ti p tt te := by
  unfold lcE at h
  simp only [oif, Option.bind_eq_some_iff, Option.some.injEq] at h
  rw [Bool.and_eq_true] at h
  obtain ⟨c, ti, hti, p, hp, hin, tt, htt, te, hte, rfl⟩ := h
  have kind : scope.kind = .function := (blkOk_by c.1).kind
  refine ⟨ownOf Γ.N scope.names, ti, p, tt, te, rfl, patInB_ok hin, iterE_ok O (g _ _ _ O) hti, ?_, fun s H C cl fp => patOf_ok (O.blk kind s H C cl fp) hp, fun s H C cl fp => ?_, fun s H C cl fp => (g _ _ _ (O.blk kind s H C cl fp)).e _ _ hte, fold_ok c.2⟩
  · rw [O.hN, O.sc]
    exact blkOk_by c.1
  · split at htt
    · cases htt
      exact tsw_nil
    · exact tsw_one ((g _ _ _ (O.blk kind s H C cl fp)).t _ _ htt)
    · cases htt
theorem ifsT_ok {r : Cmp} (g : GoodC X G Wx r) {ifs : List Expr} {t : TwT} (h : ifsT r ifs = some t) : PTsw X G Wx ifs t := by
  unfold ifsT at h
  split at h
  · cases h
    exact tsw_nil
  · exact tsw_one (g.t _ _ h)
  · cases h
theorem patNs_in (p : Pat) : patIn (patNs p) p := by
  cases p with
  | nm i => simp [patIn, patNs]
  | tup is => simp [patIn, patNs]
  | two i js => simpa [patIn, patNs] using fun j hj => Or.inr hj
theorem patNs_sub {vs : List Nat} {p : Pat} (h : patInB vs p = true) : ∀ i ∈ patNs p, i ∈ vs := by
  cases p with
  | nm i => simpa [patInB, patNs] using h
  | tup is => simpa [patInB, patNs] using h
  | two i js => simpa [patInB, patNs] using h
theorem lcE2_ok (O : OkX Γ G cs X Wx) {r : Cg → Cmp} (g : GoodR G cs r) {elt tg iter tg1 iter1 : Expr} {ifs ifs1 : List Expr} {scope : Scope} {t : Tw} (h : lcE2 Γ r elt tg iter ifs tg1 iter1 ifs1 scope = some t) :
    ∃ own vs1 ti p tt ti1 p1 tt1 te, t = lc2S (own.map (·.2)) vs1 ti p tt ti1 p1 tt1 te ∧ Lc2Facts X G Wx elt tg iter tg1 iter1 ifs ifs1 scope own vs1 ti p tt ti1 p1 tt1 te := by
  unfold lcE2 at h
  simp only [oif, Option.bind_eq_some_iff, Option.some.injEq] at h
  rw [Bool.and_eq_true, Bool.and_eq_true] at h
  obtain ⟨c, ti, hti, p, hp, p1, hp1, hin, tt, htt, ti1, hti1, tt1, htt1, te, hte, rfl⟩ := h
  rw [Bool.and_eq_true] at hin
  have kind : scope.kind = .function := (blkOk_by c.1.1).kind
  refine ⟨ownOf Γ.N scope.names, patNs p1, ti, p, tt, ti1, p1, tt1, te, rfl, patInB_ok hin.1, patNs_in p1, patNs_sub hin.2, iterE_ok O (g _ _ _ O) hti, ?_, fun s H C cl fp => patOf_ok (O.blk kind s H C cl fp) hp, fun s H C cl fp => ifsT_ok (g _ _ _ (O.blk kind s H C cl fp)) htt,
    fun s H C cl fp => iterE_ok (O.blk kind s H C cl fp) (g _ _ _ (O.blk kind s H C cl fp)) hti1, fun s H C cl fp => patOf_ok (O.blk kind s H C cl fp) hp1, fun s H C cl fp => ifsT_ok (g _ _ _ (O.blk kind s H C cl fp)) htt1, fun s H C cl fp => (g _ _ _ (O.blk kind s H C cl fp)).e _ _ hte, fold_ok c.1.2, fun env => fold_ok c.2⟩
  rw [O.hN, O.sc]
  exact blkOk_by c.1.1
theorem fldE_ok (O : OkX Γ G cs X Wx) {o : Expr} {f : Str} {p : Pos} {t1 t : Tw} (ht : PEw X G Wx o t1) (hb : attributeBase o f X.env (eval o X.env) = eval o X.env) (h : fldE Γ f t1 = some t) : PEw X G Wx (.Attribute o f p) t := by
  unfold fldE at h
  split at h
  · rename_i ecl e1
    split at h
    · rename_i cls e2
      cases h
      exact ew_fldX (O.flds _ (lk_mem e2)) (O.xfl _ (lk_mem e1)) ht hb
    · cases h
      exact ew_fldX (fun c z => by simp at z) (O.xfl _ (lk_mem e1)) ht hb
  · simp only [Option.bind_eq_some_iff, Option.some.injEq] at h
    obtain ⟨cls, hc, rfl⟩ := h
    exact ew_fldC (O.flds _ (lk_mem hc)) ht hb
theorem stepE_ok (O : OkX Γ G cs X Wx) {r : Cg → Cmp} (g : GoodR G cs r) {e : Expr} {t : Tw} (h : stepE Γ cs r e = some t) : PEw X G Wx e t := by
  have g1 := g _ _ _ O
  cases e <;> simp only [stepE] at h <;> first | (cases h; done) | skip
  case BoolOp op es p => exact chV_ok g1.e h
  case BinOp a op b p =>
    simp only [Option.bind_eq_some_iff, Option.some.injEq] at h
    obtain ⟨ta, ha, tb, hb, rfl⟩ := h
    exact ew_op (op_binW op) (g1.e _ _ ha) (g1.e _ _ hb)
  case UnaryOp op a p =>
    split at h
    · simp only [Option.bind_eq_some_iff, Option.some.injEq] at h
      obtain ⟨ta, ha, rfl⟩ := h
      exact ew_neg (g1.e _ _ ha)
    · simp only [Option.bind_eq_some_iff, Option.some.injEq] at h
      obtain ⟨ta, ha, rfl⟩ := h
      exact ew_not (g1.e _ _ ha)
    · cases h
  case IfExp c a b p =>
    simp only [Option.bind_eq_some_iff, Option.some.injEq] at h
    obtain ⟨tc, hc, ta, ha, tb, hb, rfl⟩ := h
    exact ew_if (g1.t _ _ hc) (g1.e _ _ ha) (g1.e _ _ hb)
  case ListComp elt gs scope p =>
    split at h
    · rename_i tg iter ifs
      obtain ⟨own, ti, p, tt, te, rfl, f⟩ := lcE_ok O g h
      exact ew_lc f.hp O.calm (by rw [O.hN]; exact O.nd) f.hi f.ok f.hg f.ht f.he f.hs
    · obtain ⟨own, vs1, ti, p, tt, ti1, p1, tt1, te, rfl, f⟩ := lcE2_ok O g h
      exact ew_lc2 O.calm (by rw [O.hN]; exact O.nd) f
    · cases h
  case Compare a ops bs p =>
    split at h
    · rename_i op b
      split at h
      · rename_i kvs hd
        obtain ⟨x, p2, ad, rfl, d1, d2, d3, d4⟩ := dctOf_ok O hd
        cases op <;> first | (cases h; done) | skip
        · simp only [Option.bind_eq_some_iff, Option.some.injEq] at h
          obtain ⟨ta, ha, rfl⟩ := h
          exact ew_din rfl d1 d2 d3 d4 (g1.e _ _ ha) (mark_ok rfl)
        · simp only [Option.bind_eq_some_iff, Option.some.injEq] at h
          obtain ⟨ta, ha, rfl⟩ := h
          exact ew_din rfl d1 d2 d3 d4 (g1.e _ _ ha) (mark_ok rfl)
      · simp only [oif, Option.bind_eq_some_iff, Option.some.injEq] at h
        obtain ⟨hs, ta, ha, tb, hb, rfl⟩ := h
        exact ew_cmp (op_cmpO O op _) (g1.e _ _ ha) (g1.e _ _ hb) (mark_ok hs)
    · rename_i op op' b c
      simp only [oif, Option.bind_eq_some_iff, Option.some.injEq] at h
      obtain ⟨hs, ta, ha, tb, hb, tc, hc, rfl⟩ := h
      exact ew_chn (op_cmpW op O.un) (op_cmpW op' O.un) (g1.e _ _ ha) (g1.e _ _ hb) (g1.e _ _ hc) (mark_ok hs)
    · cases h
  case Call f es kws pos =>
    split at h
    · exact callE_ok O g1 h
    · exact callA_ok O g1 h
    · cases h
  case Attribute o f p =>
    simp only [oif, Option.bind_eq_some_iff, Option.some.injEq] at h
    obtain ⟨c, t1, ht, h⟩ := h
    exact fldE_ok O (g1.e _ _ ht) (base_ok c) h
  case Constant c k p => exact constE_ok h
  case Subscript a b p =>
    split at h
    · rename_i lo hi p2
      simp only [Option.bind_eq_some_iff, Option.some.injEq] at h
      obtain ⟨ta, ha, tl, hl, th, hh, rfl⟩ := h
      have ow : ∀ {o : Option Expr} {t : TwO}, (match o with | none => some noO | some l => ((r Γ).e l).bind fun t => some (someO t)) = some t → POw X G Wx o t := by
        intro o t h
        cases o with
        | none =>
          cases h
          exact ow_none
        | some l =>
          simp only [Option.bind_eq_some_iff, Option.some.injEq] at h
          obtain ⟨t2, h2, rfl⟩ := h
          exact ow_some (g1.e _ _ h2)
      exact ew_slc (g1.e _ _ ha) (ow hl) (ow hh)
    · simp only [Option.bind_eq_some_iff, Option.some.injEq] at h
      obtain ⟨ta, ha, rfl⟩ := h
      exact ew_rev (g1.e _ _ ha)
    · cases h
    · rename_i n1 n3 n2
      have pl : PlainIx b := by
        intro o i
        cases b <;> first | rfl | skip
        rename_i lo hi st p2
        cases st with
        | none => exact absurd rfl (n1 lo hi p2)
        | some st => exact absurd rfl (n2 lo hi st p2)
      split at h
      · rename_i kvs hd
        obtain ⟨x, p2, ad, rfl, d1, d2, d3, d4⟩ := dctOf_ok O hd
        simp only [Option.bind_eq_some_iff, Option.some.injEq] at h
        obtain ⟨tb, hb, rfl⟩ := h
        exact ew_dig d1 d2 d3 d4 (g1.e _ _ hb) pl
      · simp only [Option.bind_eq_some_iff, Option.some.injEq] at h
        obtain ⟨ta, ha, tb, hb, rfl⟩ := h
        exact ew_idx (g1.e _ _ ha) (g1.e _ _ hb) pl
  case Name x p => exact nameE_ok O h
  case JoinedStr vs p =>
    split at h
    · simp only [Option.bind_eq_some_iff, Option.some.injEq] at h
      obtain ⟨ts, hts, rfl⟩ := h
      exact ew_joined (jnOf_ok g1.e hts)
    · cases h
  case List es p =>
    simp only [Option.bind_eq_some_iff, Option.some.injEq] at h
    obtain ⟨u, hu, rfl⟩ := h
    exact ew_lst (aOf_ok g1.e hu).1
  case Dict ks vs p =>
    split at h
    · cases h
      exact ew_dicN
    · cases h
  case Tuple es k p =>
    simp only [Option.bind_eq_some_iff, Option.some.injEq] at h
    obtain ⟨u, hu, rfl⟩ := h
    exact ew_tup (aOf_ok g1.e hu).1
theorem stepT_ok (O : OkX Γ G cs X Wx) {r : Cg → Cmp} (g : GoodR G cs r) {e : Expr} {t : TwT} (h : stepT Γ cs r e = some t) : PTw X G Wx e t := by
  have g1 := g _ _ _ O
  cases e <;> simp only [stepT] at h <;> first | (cases h; done) | skip
  case BoolOp op es p => exact (chT_ok g1.t h).pt
  case UnaryOp op a p =>
    cases op <;> simp only [Option.bind_eq_some_iff, Option.some.injEq] at h
    case Not =>
      obtain ⟨ta, ha, rfl⟩ := h
      exact tw_not (g1.t _ _ ha)
    all_goals
      obtain ⟨ta, ha, rfl⟩ := h
      exact tw_val (g1.e _ _ ha) fun _ => rfl
  case Compare a ops bs p =>
    split at h
    · rename_i op b
      split at h
      · rename_i kvs hd
        obtain ⟨x, p2, ad, rfl, d1, d2, d3, d4⟩ := dctOf_ok O hd
        cases op <;> first | (cases h; done) | skip
        · simp only [Option.bind_eq_some_iff, Option.some.injEq] at h
          obtain ⟨ta, ha, rfl⟩ := h
          exact tw_din rfl d1 d2 d3 d4 (g1.e _ _ ha) (mark_ok rfl)
        · simp only [Option.bind_eq_some_iff, Option.some.injEq] at h
          obtain ⟨ta, ha, rfl⟩ := h
          exact tw_din rfl d1 d2 d3 d4 (g1.e _ _ ha) (mark_ok rfl)
      · simp only [oif, Option.bind_eq_some_iff, Option.some.injEq] at h
        obtain ⟨hs, ta, ha, tb, hb, rfl⟩ := h
        exact tw_cmp (op_cmpO O op _) (g1.e _ _ ha) (g1.e _ _ hb) (mark_ok hs)
    · rename_i op op' b c
      simp only [oif, Option.bind_eq_some_iff, Option.some.injEq] at h
      obtain ⟨hs, ta, ha, tb, hb, tc, hc, rfl⟩ := h
      exact tw_chn (op_cmpW op O.un) (op_cmpW op' O.un) (g1.e _ _ ha) (g1.e _ _ hb) (g1.e _ _ hc) (mark_ok hs)
    · cases h
  all_goals
    simp only [Option.bind_eq_some_iff, Option.some.injEq] at h
    obtain ⟨ta, ha, rfl⟩ := h
    exact tw_val (g1.e _ _ ha) fun _ => rfl
theorem cmp_ok : ∀ n : Nat, GoodR G cs (cmp cs n)
  | 0 => fun Γ X Wx O => ⟨fun e t h => (by cases h), fun e t h => (by cases h)⟩
  | n + 1 => fun Γ X Wx O => ⟨fun e t h => stepE_ok O (cmp_ok n) h, fun e t h => stepT_ok O (cmp_ok n) h⟩
end
end MP
set_option Elab.async false
set_option linter.all false
set_option maxRecDepth 100000
set_option maxHeartbeats 4000000
namespace MP
open PySem PySem.Spec PyProof.Rows L2
section
variable {prog : Program} {w : World} {A : Around} {E : Value → Shared → Prop} {s : Shared}
theorem walk_list {it l : Addr} {items : Array Value} {i : Nat} (hh : A.handled = none) (hne : l ≠ it) (hi : i ≤ items.size) :
    WalksS prog w A it [it, l] [it] Eq (items.size - i) (fun j v => items[i + j]? = some v) (fun j s => s.heap.IsListIter it l (i + j) ∧ s.heap.IsList l items) where
  sub := fun b hb => by simp at hb; simp [hb]
  grefl := fun _ => rfl
  gtrans := fun _ _ _ a b => a.trans b
  frame := fun j s h' tk ⟨a, b⟩ _ k => by
    obtain ⟨o, ho, r⟩ := a
    obtain ⟨ol, hol, r2⟩ := b
    exact ⟨⟨o, k it (by simp) o ho, r⟩, ⟨ol, k l (by simp) ol hol, r2⟩⟩
  item := fun j s Q E hj ⟨a, b⟩ q => by
    have hlt : i + j < items.size := by omega
    refine wpAny_pyNext_list_item a b (x := items[i + j]) (Array.getElem?_eq_getElem hlt) fun h' a' sb => ?_
    refine q _ _ (Array.getElem?_eq_getElem hlt) ⟨a', b.extBut sb.extBut hne⟩ ⟨fun b o hb e => ?_, rfl, rfl, rfl, Nat.le_refl _⟩
    exact sb.extBut b o (by simpa using hb) e
  done := fun s Q E ⟨a, b⟩ q => by
    have e : i + (items.size - i) = items.size := by omega
    refine wpAny_pyNext_list_end hh a b (by rw [e]; simp) fun h' sb => q _ ⟨fun b o hb e => ?_, rfl, rfl, rfl, Nat.le_refl _⟩
    exact sb b o (by simpa using hb) e
  self := fun j s Q E ⟨a, b⟩ q => wpAny_pyIter_listiter a q
theorem walk_tup {it l : Addr} {items : Array Value} {i : Nat} (hh : A.handled = none) (hne : l ≠ it) (hi : i ≤ items.size) :
    WalksS prog w A it [it, l] [it] Eq (items.size - i) (fun j v => items[i + j]? = some v) (fun j s => s.heap.IsTupleIter it l (i + j) ∧ s.heap.IsTuple l items) where
  sub := fun b hb => by simp at hb; simp [hb]
  grefl := fun _ => rfl
  gtrans := fun _ _ _ a b => a.trans b
  frame := fun j s h' tk ⟨a, b⟩ _ k => by
    obtain ⟨o, ho, r⟩ := a
    obtain ⟨ol, hol, r2⟩ := b
    exact ⟨⟨o, k it (by simp) o ho, r⟩, ⟨ol, k l (by simp) ol hol, r2⟩⟩
  item := fun j s Q E hj ⟨a, b⟩ q => by
    have hlt : i + j < items.size := by omega
    refine wpAny_pyNext_tuple_item a b (x := items[i + j]) (Array.getElem?_eq_getElem hlt) fun h' a' sb => ?_
    refine q _ _ (Array.getElem?_eq_getElem hlt) ⟨a', b.extBut sb.extBut hne⟩ ⟨fun b o hb e => ?_, rfl, rfl, rfl, Nat.le_refl _⟩
    exact sb.extBut b o (by simpa using hb) e
  done := fun s Q E ⟨a, b⟩ q => by
    have e : i + (items.size - i) = items.size := by omega
    refine wpAny_pyNext_tuple_end hh a b (by rw [e]; simp) fun h' sb => q _ ⟨fun b o hb e => ?_, rfl, rfl, rfl, Nat.le_refl _⟩
    exact sb b o (by simpa using hb) e
  self := fun j s Q E ⟨a, b⟩ q => wpAny_pyIter_tupleiter a q
theorem items_eq {items : Array Value} {i : Nat} (hi : i ≤ items.size) {acc : Array Value} (h : ItemsOf (fun j v => items[i + j]? = some v) acc (items.size - i)) : acc.toList = items.toList.drop i := by
  apply List.ext_getElem?
  intro j
  rw [List.getElem?_drop]
  obtain ⟨h1, h2⟩ := h
  cases e : acc[j]? with
  | none =>
    have h3 : acc.size ≤ j := by simpa using e
    rw [show acc.toList[j]? = acc[j]? by simp, e, eq_comm, List.getElem?_eq_none_iff]
    simp
    omega
  | some v =>
    have h3 := h2 j v e
    rw [show acc.toList[j]? = acc[j]? by simp, e, ← h3]
    simp
theorem unpack_star {l : Addr} {items : Array Value} {i : Nat} {Q : List Value → Shared → Prop} (hh : A.handled = none) (hh1 : A.in1.handled = none) (hl : s.heap.IsList l items) (hi : i ≤ items.size) (hz : items.size ≤ sizeLine)
    (hQ : ∀ s', Moved [s.heap.objs.size] Eq s s' → Q (items.toList.take i ++ [.ref s'.heap.objs.size]) { s' with heap := s'.heap.push { cls := .type "list", data := .seq (items.toList.drop i).toArray } }) :
    wpAny (model prog w) A (unpackItems (.ref l) (i + 1) (some i)) Q E s := by
  have hlt : l ≠ s.heap.objs.size := by obtain ⟨o, ho, _⟩ := hl; exact Nat.ne_of_lt (Heap.lt_size ho)
  unfold unpackItems
  refine wpAny_bind ?_
  unfold notIterableAtAll
  refine wpAny_bind (wpAny_specialOf hl.typeIs slot_list_iter.lookup ?_)
  refine wpAny_pure ?_
  simp only [Bool.false_eq_true, if_false]
  refine wpAny_bind (wpAny_holding (wpAny_pyIter_list hl ?_))
  refine wpAny_bind (wpAny_holding (PySem.W.kun_draw hlt i 0 _ _ ⟨_, Heap.get?_push_size _ rfl, rfl, rfl⟩ (hl.push _) (by omega) fun h₁ hit₁ hs₁ => ?_))
  rw [List.drop_zero, Nat.zero_add] at *
  have hlen : (items.toList.take i).length = i := by simp; omega
  rw [if_neg (by rw [hlen]; omega)]
  have hl₁ : h₁.IsList l items := (hl.push _).extBut hs₁.extBut hlt
  have szlt : s.heap.objs.size < h₁.objs.size := by
    obtain ⟨o, ho, _⟩ := hit₁
    exact Heap.lt_size ho
  refine wpAny_bind (wpAny_holding (wpAny_collect_iter (.inr (.inr (.inl rfl))) (walk_list (items := items) (i := i) hh1 hlt hi) (fun j s' st => st.1.typeIs) ⟨hit₁, hl₁⟩ (fun b hb => ?_) (by simp) (fun s' acc mv ho => ?_) (by omega)))
  · rcases List.mem_cons.mp hb with e | hb
    · subst e; exact szlt
    · rw [List.mem_singleton.mp hb]
      obtain ⟨o, ho, _⟩ := hl₁
      exact Heap.lt_size ho
  · have ea := items_eq hi ho
    have ez : acc.toList.length - (i + 1 - 1 - i) = acc.toList.length := by omega
    rw [if_neg (show ¬ acc.toList.length < i + 1 - 1 - i by omega), ez, List.take_length, List.drop_length]
    rw [ea]
    refine wpAny_bind (wpAny_newObj_type (wpAny_pure ?_) ?_)
    · have mv2 : Moved [s.heap.objs.size] Eq s s' := ⟨fun b o hb e => mv.heap b o hb (hs₁.extBut b o (by simpa using hb) (Heap.get?_push_of_some _ e)), mv.gens, mv.drawn, mv.os, mv.toks⟩
      rw [List.append_nil]
      exact hQ s' mv2
    · show _ ≤ _
      first | omega | (simp only [List.size_toArray, List.length_drop, Array.length_toList]; omega)
theorem unpack_starT {l : Addr} {items : Array Value} {i : Nat} {Q : List Value → Shared → Prop} (hh : A.handled = none) (hh1 : A.in1.handled = none) (hl : s.heap.IsTuple l items) (hi : i ≤ items.size) (hz : items.size ≤ sizeLine)
    (hQ : ∀ s', Moved [s.heap.objs.size] Eq s s' → Q (items.toList.take i ++ [.ref s'.heap.objs.size]) { s' with heap := s'.heap.push { cls := .type "list", data := .seq (items.toList.drop i).toArray } }) :
    wpAny (model prog w) A (unpackItems (.ref l) (i + 1) (some i)) Q E s := by
  have hlt : l ≠ s.heap.objs.size := by obtain ⟨o, ho, _⟩ := hl; exact Nat.ne_of_lt (Heap.lt_size ho)
  unfold unpackItems
  refine wpAny_bind ?_
  unfold notIterableAtAll
  refine wpAny_bind (wpAny_specialOf hl.typeIs F.slot_tuple_iter.lookup ?_)
  refine wpAny_pure ?_
  simp only [Bool.false_eq_true, if_false]
  refine wpAny_bind (wpAny_holding (wpAny_pyIter_tuple hl ?_))
  refine wpAny_bind (wpAny_holding (wpAny_draw_tuple hlt i 0 _ _ ⟨_, Heap.get?_push_size _ rfl, rfl, rfl⟩ (hl.push _) (by omega) fun h₁ hit₁ hs₁ => ?_))
  rw [List.drop_zero, Nat.zero_add] at *
  have hlen : (items.toList.take i).length = i := by simp; omega
  rw [if_neg (by rw [hlen]; omega)]
  have hl₁ : h₁.IsTuple l items := (hl.push _).extBut hs₁.extBut hlt
  have szlt : s.heap.objs.size < h₁.objs.size := by
    obtain ⟨o, ho, _⟩ := hit₁
    exact Heap.lt_size ho
  refine wpAny_bind (wpAny_holding (wpAny_collect_iter (.inr (.inr (.inr rfl))) (walk_tup (items := items) (i := i) hh1 hlt hi) (fun j s' st => st.1.typeIs) ⟨hit₁, hl₁⟩ (fun b hb => ?_) (by simp) (fun s' acc mv ho => ?_) (by omega)))
  · rcases List.mem_cons.mp hb with e | hb
    · subst e; exact szlt
    · rw [List.mem_singleton.mp hb]
      obtain ⟨o, ho, _⟩ := hl₁
      exact Heap.lt_size ho
  · have ea := items_eq hi ho
    have ez : acc.toList.length - (i + 1 - 1 - i) = acc.toList.length := by omega
    rw [if_neg (show ¬ acc.toList.length < i + 1 - 1 - i by omega), ez, List.take_length, List.drop_length]
    rw [ea]
    refine wpAny_bind (wpAny_newObj_type (wpAny_pure ?_) ?_)
    · have mv2 : Moved [s.heap.objs.size] Eq s s' := ⟨fun b o hb e => mv.heap b o hb (hs₁.extBut b o (by simpa using hb) (Heap.get?_push_of_some _ e)), mv.gens, mv.drawn, mv.os, mv.toks⟩
      rw [List.append_nil]
      exact hQ s' mv2
    · show _ ≤ _
      first | omega | (simp only [List.size_toArray, List.length_drop, Array.length_toList]; omega)
end
/-- a, .., *r = a list or a tuple -/
def gStar (K : PySem.W.Frag) (i : Nat) (t : TGs) : TG := fun v σ H Q => ∃ a xs, v = .ref a ∧ SqL K H a xs ∧ i ≤ xs.length ∧ ∀ p, H p = none → t (xs.take i ++ [.ref p]) σ (upd H p (.lst (xs.drop i))) Q
def gStarT (K : PySem.W.Frag) (i : Nat) (t : TGs) : TG := fun v σ H Q => ∃ a xs, v = .ref a ∧ SqT K H a xs ∧ i ≤ xs.length ∧ ∀ p, H p = none → t (xs.take i ++ [.ref p]) σ (upd H p (.lst (xs.drop i))) Q
section
variable {X : Cx} {pos : Pos}
theorem vals_take : ∀ {vs : List V} {us : List Value} (n : Nat), Vals vs us → Vals (vs.take n) (us.take n)
  | _, _, 0, _ => by simpa using Paired.nil
  | _, _, n + 1, .nil => by simpa using Paired.nil
  | _, _, n + 1, .cons a r => .cons a (vals_take n r)
theorem vals_drop : ∀ {vs : List V} {us : List Value} (n : Nat), Vals vs us → Vals (vs.drop n) (us.drop n)
  | _, _, 0, h => by simpa using h
  | _, _, n + 1, .nil => by simpa using Paired.nil
  | _, _, n + 1, .cons a r => vals_drop n r
theorem pg_star {es : List Expr} {k i : Nat} {t : TGs} (hc : X.calm = true) (h : PGs X es t) (hn : (assignEach es X.env).length = i + 1) (hst : (assignEach es X.env).findIdx? (·.1) = some i) : PG X (.Tuple es k pos) (gStar X.K i t) := by
  refine ⟨fun pins s σ H v u Q I r hw => ?_⟩
  obtain ⟨a, xs, e1, hq, hl, hw⟩ := hw
  subst e1
  cases r
  obtain ⟨its, rv, pl, hz⟩ := I.list hq
  have hlen := rv.length
  rw [PyProof.Rows.assign_Tuple]
  refine wpAny_bind (wpAny_standAt ?_)
  unfold unpack
  rw [hn, hst]
  refine wpAny_bind (wpAny_holding (unpack_star (I.ok.hd hc) (I.ok.hd hc) pl.isList (by simp; omega) (by simp; omega) fun s' mv => ?_))
  have kp : ∀ b o, s.heap.get? b = some o → s'.heap.get? b = some o := fun b o e => mv.heap b o (by simpa using Nat.ne_of_lt (Heap.lt_size e)) e
  have I1 : L2.Inv X pins σ H s' := by
    have q := I.kept (t' := s'.toks) kp
    obtain ⟨h2, g2, d2, t2, o2⟩ := s'
    have e1 : s.gens = g2 := mv.gens
    have e2 : d2 = s.drawn := mv.drawn
    have e3 : o2 = s.os := mv.os
    subst e1 e2 e3
    exact q
  have I2 := I1.lnew (its := its.drop i) (ys := xs.drop i) (t' := s'.toks) (vals_drop i rv) (by rw [List.length_drop]; omega)
  have r2 : Vals (xs.take i ++ [V.ref s'.heap.objs.size]) (its.take i ++ [Value.ref s'.heap.objs.size]) := (vals_take i rv).append (.cons rfl .nil)
  exact h.run pins _ σ _ _ _ Q I2 r2 (hw _ I1.fresh)
theorem pg_starT {es : List Expr} {k i : Nat} {t : TGs} (hc : X.calm = true) (h : PGs X es t) (hn : (assignEach es X.env).length = i + 1) (hst : (assignEach es X.env).findIdx? (·.1) = some i) : PG X (.Tuple es k pos) (gStarT X.K i t) := by
  refine ⟨fun pins s σ H v u Q I r hw => ?_⟩
  obtain ⟨a, xs, e1, hq, hl, hw⟩ := hw
  subst e1
  cases r
  obtain ⟨its, rv, pl, hz⟩ := I.tuple hq
  have hlen := rv.length
  rw [PyProof.Rows.assign_Tuple]
  refine wpAny_bind (wpAny_standAt ?_)
  unfold unpack
  rw [hn, hst]
  refine wpAny_bind (wpAny_holding (unpack_starT (I.ok.hd hc) (I.ok.hd hc) pl (by simp; omega) (by simp; omega) fun s' mv => ?_))
  have kp : ∀ b o, s.heap.get? b = some o → s'.heap.get? b = some o := fun b o e => mv.heap b o (by simpa using Nat.ne_of_lt (Heap.lt_size e)) e
  have I1 : L2.Inv X pins σ H s' := by
    have q := I.kept (t' := s'.toks) kp
    obtain ⟨h2, g2, d2, t2, o2⟩ := s'
    have e1 : s.gens = g2 := mv.gens
    have e2 : d2 = s.drawn := mv.drawn
    have e3 : o2 = s.os := mv.os
    subst e1 e2 e3
    exact q
  have I2 := I1.lnew (its := its.drop i) (ys := xs.drop i) (t' := s'.toks) (vals_drop i rv) (by rw [List.length_drop]; omega)
  have r2 : Vals (xs.take i ++ [V.ref s'.heap.objs.size]) (its.take i ++ [Value.ref s'.heap.objs.size]) := (vals_take i rv).append (.cons rfl .nil)
  exact h.run pins _ σ _ _ _ Q I2 r2 (hw _ I1.fresh)
end
end MP
set_option Elab.async false
set_option linter.all false
set_option maxRecDepth 100000
set_option maxHeartbeats 4000000
namespace MP
open PySem PySem.Spec PyProof.Rows L2
/-! ### a, .., *r = .. -/
def stW (is : List Nat) (w : W) (σ : Sw) (S : Store) (P : Sw → Store → Prop) : Prop := match items? S w with
  | some ws => is.length - 1 ≤ ws.length ∧ ∀ p, S p = none → (match setsW is (ws.take (is.length - 1) ++ [.ref p]) σ with
    | some σ' => P σ' (put S p (.lst (ws.drop (is.length - 1))))
    | none => False)
  | none => False
def starS (is : List Nat) (t : Tw) : TwS := fun D σ S => t σ S (fun w S' => stW is w σ S' D.nx) (fun e S' => D.ex e σ S')
def starG (K : PySem.W.Frag) (is : List Nat) : TG := fun v σ H Q => gStar K (is.length - 1) (nmsG is) v σ H Q ∨ gStarT K (is.length - 1) (nmsG is) v σ H Q
section
variable {Γ : Cg} {G : Wd} {cs : MP.Sem} {X : Cx} {Wx : WX} {e : Expr} {t : Tw} {pos : Pos}
def namesSt (Γ : Cg) : List Expr → Option (List Nat)
  | [] => none
  | e :: r => (match e, r with
    | .Starred (.Name x _) _, [] => if locB Γ x = true then (ix Γ.N x).bind fun i => some [i] else none
    | .Name x _, _ :: _ => if locB Γ x = true then (ix Γ.N x).bind fun i => (namesSt Γ r).bind fun is => some (i :: is) else none
    | _, _ => none)
theorem namesSt_ok (O : OkX Γ G cs X Wx) : ∀ {es : List Expr} {is : List Nat}, namesSt Γ es = some is → PGs X es (nmsG is) ∧ (assignEach es X.env).length = is.length ∧ (assignEach es X.env).findIdx? (·.1) = some (is.length - 1) ∧ 0 < is.length
  | [], is, h => by cases h
  | e :: r, is, h => by
    unfold namesSt at h
    split at h
    · rename_i x p q
      simp only [oif, Option.bind_eq_some_iff, Option.some.injEq] at h
      obtain ⟨hl, i, hi, rfl⟩ := h
      obtain ⟨l1, l2⟩ := locB_ok O hl
      have g : PGs X [.Name x p] (nmsG [i]) := pgs_cons (pg_name (by rw [O.hN]; exact O.nd) (by rw [O.hN]; exact ix_ok hi) l1 l2) pgs_nil rfl
      exact ⟨⟨g.run⟩, rfl, rfl, by simp⟩
    · rename_i x p b r2
      simp only [oif, Option.bind_eq_some_iff, Option.some.injEq] at h
      obtain ⟨hl, i, hi, js, hj, rfl⟩ := h
      obtain ⟨a, b1, c, d⟩ := namesSt_ok O hj
      obtain ⟨l1, l2⟩ := locB_ok O hl
      refine ⟨pgs_cons (pg_name (by rw [O.hN]; exact O.nd) (by rw [O.hN]; exact ix_ok hi) l1 l2) a rfl, ?_, ?_, by simp⟩
      · show (assignEach (b :: r2) X.env).length + 1 = _
        rw [b1]; rfl
      · show List.findIdx? (·.1) ((false, assign (.Name x p) X.env) :: assignEach (b :: r2) X.env) = _
        rw [List.findIdx?_cons]
        simp only [Bool.false_eq_true, if_false, c, Option.map_some, List.length_cons, Option.some.injEq]
        omega
    · cases h
theorem sw_star {es : List Expr} {k : Nat} {p : Pos} {is : List Nat} (hc : X.calm = true) (hp : 0 < is.length) (a : PGs X es (nmsG is)) (b : (assignEach es X.env).length = is.length) (c : (assignEach es X.env).findIdx? (·.1) = some (is.length - 1)) (h : PEw X G Wx e t)
    (hs : swapsWithSole [.Tuple es k p] e pos.line X.env = pure false) (hw : swappedStores [.Tuple es k p] e X.env = pure none) : PSw X G Wx (.Assign [.Tuple es k p] e pos) (starS is t) := by
  have g : PG X (.Tuple es k p) (starG X.K is) := by
    refine ⟨fun pins s σ H v u Q I r h => ?_⟩
    rcases h with h | h
    · exact (pg_star hc a (by rw [b]; omega) c).run pins s σ H v u Q I r h
    · exact (pg_starT hc a (by rw [b]; omega) c).run pins s σ H v u Q I r h
  refine PS.imp (ps_asg h g hs hw rfl) fun D σ H h => ?_
  obtain ⟨σw, S, D0, rσ, rs, q, l⟩ := h
  refine ⟨σw, S, _, _, rσ, rs, q, fun w S1 q1 v1 H1 r1 rs1 tp1 => ?_, l.lx rσ⟩
  unfold stW at q1
  split at q1
  · rename_i ws e1
    obtain ⟨hle, q1⟩ := q1
    obtain ⟨ad, vs, rfl, sq, rr⟩ := items_ok rs1 r1 e1
    have fin : ∀ p, H1 p = none → nmsG is (vs.take (is.length - 1) ++ [.ref p]) σ (upd H1 p (.lst (vs.drop (is.length - 1)))) D.nx := by
      intro p hp1
      have q2 := q1 p (rs1.free hp1)
      split at q2
      · rename_i σ' e2
        have tp2 : TP H1 (upd H1 p (.lst (vs.drop (is.length - 1)))) := .new hp1
        have rr2 : RWs X.K G (upd H1 p (.lst (vs.drop (is.length - 1)))) (ws.take (is.length - 1) ++ [.ref p]) (vs.take (is.length - 1) ++ [.ref p]) := ((rr.take _).append (.cons (rw_ref.mpr rfl) .nil)).mono tp2
        obtain ⟨σ2, e3, r3⟩ := sets_rel e2 rr2 (rσ.mono (tp1.trans tp2))
        exact nmsG_of e3 (l.nx _ _ q2 _ _ r3 (rs1.new hp1 ⟨_, rfl, rr.drop _⟩) (tp1.trans tp2))
      · exact q2.elim
    have hl : is.length - 1 ≤ vs.length := by rw [← rr.length]; exact hle
    rcases sq with sq | sq
    · exact .inl ⟨ad, vs, rfl, sq, hl, fin⟩
    · exact .inr ⟨ad, vs, rfl, sq, hl, fin⟩
  · exact q1.elim
end
end MP
set_option Elab.async false
set_option linter.all false
set_option maxRecDepth 100000
set_option maxHeartbeats 4000000
namespace MP
open PySem PySem.Spec PyProof.Rows L2
/-! ### pairs stored from the right -/
def locAt (sc : Scope) (line : Nat) : Expr → Option Str
  | .Name x p => if (sc.names.lookup x == some .local && p.line == line) = true then some x else none
  | _ => none
def headLine (ts : List Expr) : Nat := (ts.head?.map (·.pos.line)).getD 0
def swR (sc : Scope) (ts vs : List Expr) : Option (Option (List Str)) :=
  if ((ts.length == 2 || ts.length == 3) && vs.length == ts.length && vs.all noStar) = true then
    (if ((ts.filterMap (locAt sc (headLine ts))).length == ts.length && (ts.filterMap (locAt sc (headLine ts))).eraseDups.length == (ts.filterMap (locAt sc (headLine ts))).length) = true then
      (if vs.all (foldedForSure 8) = true then some none else if vs.all (constantsAlone 8) = true then none else some (some (ts.filterMap (locAt sc (headLine ts)))))
    else some none)
  else some none
theorem anyStar : ∀ vs : List Expr, (vs.any fun | .Starred .. => true | _ => false) = !vs.all noStar
  | [] => rfl
  | v :: vs => by
    have ih := anyStar vs
    rw [List.any_cons, List.all_cons, ih]
    cases v <;> simp [noStar]
theorem swR_ok {env : Env} {sc : Scope} (hs : env.scope = sc) (hk : sc.kind = .function) {ts vs : List Expr} {k k2 : Nat} {p p2 : Pos} {r : Option (List Str)} (h : swR sc ts vs = some r) :
    swappedStores [.Tuple ts k p] (.Tuple vs k2 p2) env = pure r := by
  have hb : env.blockKind = .function := by
    unfold Env.blockKind
    rw [hs, hk]
    rfl
  unfold swR at h
  unfold swappedStores
  simp only [hb]
  have e1 := anyStar vs
  split at h
  · rename_i c
    simp only [Bool.and_eq_true, beq_iff_eq] at c
    obtain ⟨⟨c1, c2⟩, c3⟩ := c
    rw [if_neg (by simp [c1, c2])]
    rw [if_neg fun z => (by have z2 := e1.symm.trans z; rw [c3] at z2; cases z2)]
    have key : ∀ F : Expr → Option Str, (∀ e, F e = locAt sc (headLine ts) e) → ts.filterMap F = ts.filterMap (locAt sc (headLine ts)) := fun F hF => by
      have e : F = locAt sc (headLine ts) := funext hF
      rw [e]
    rw [key _ (fun e => (by
      cases e <;> try rfl
      show (if (env.scope.names.lookup _ == some .local && _) = true then _ else _) = _
      rw [hs]
      rfl))]
    split at h
    · rename_i d
      simp only [Bool.and_eq_true, beq_iff_eq] at d
      rw [if_neg (by simp [d.1, d.2])]
      split at h
      · rename_i f
        cases h
        rw [if_pos f]
      · rename_i f
        rw [if_neg f]
        split at h
        · cases h
        · rename_i f2
          cases h
          rw [if_neg f2]
    · rename_i d
      cases h
      rw [if_pos]
      simp only [Bool.and_eq_true, beq_iff_eq, not_and] at d
      simp only [Bool.or_eq_true, bne_iff_ne, ne_eq]
      by_cases q : (ts.filterMap (locAt sc (headLine ts))).length = ts.length
      · exact .inr (d q)
      · exact .inl q
  · rename_i c
    cases h
    by_cases c1 : (ts.length == 2 || ts.length == 3) = true
    · by_cases c2 : vs.length = ts.length
      · rw [if_neg (by simp [c1, c2])]
        exact (if_pos (e1.trans (by cases q : vs.all noStar with | true => exact absurd (by rw [c1, c2, q]; simp) c | false => rfl))).trans rfl
      · rw [if_pos (by simp [c2])]
    · rw [if_pos (by simp only [Bool.not_eq_true] at c1; rw [c1]; rfl)]
/-! ### the value is a comprehension -/
def compScope : Expr → Option Scope
  | .ListComp _ _ s _ => some s
  | .SetComp _ _ s _ => some s
  | .DictComp _ _ _ s _ => some s
  | _ => none
theorem swap_no {e : Expr} {tg : Option Expr} {l : Nat} {env : Env} (h : compScope e = none) : swapsWith e tg l env = pure false := by
  cases e <;> first | (cases h; done) | (cases tg <;> rfl)
def swB (sc : Scope) (x : Str) (p : Pos) (vp : Pos) (scope : Scope) : Bool :=
  (sc.names.lookup x == some .local && p.line == vp.line) && !(scope.names.any fun y => y.1 == x && (y.2 == .local || y.2 == .cell))
theorem swB_ok {env : Env} {sc : Scope} (hs : env.scope = sc) (hk : sc.kind = .function) {elt : Expr} {gs : List Comprehension} {scope : Scope} {vp p : Pos} {x : Str} {l : Nat} :
    swapsWith (.ListComp elt gs scope vp) (some (.Name x p)) l env = pure (swB sc x p vp scope) := by
  have hb : env.blockKind = .function := by
    unfold Env.blockKind
    rw [hs, hk]
    rfl
  show (pure (env.blockKind == .function && env.scope.names.lookup x == some .local && p.line == vp.line && !(scope.names.any fun (n, k) => n == x && (k == .local || k == .cell))) : PySem.Sem Bool) = _
  rw [hb, hs]
  rfl
section
variable {X : Cx} {G : Wd} {Wx : WX} {pos : Pos}
theorem rws3 {K : PySem.W.Frag} {H : Hp} {w1 w2 w3 : W} {vs : List V} (r : RWs K G H [w1, w2, w3] vs) : ∃ v1 v2 v3, vs = [v1, v2, v3] ∧ RW K G H w1 v1 ∧ RW K G H w2 v2 ∧ RW K G H w3 v3 := by
  obtain ⟨v1, t, rfl, a, b⟩ := rws_cons.mp r
  obtain ⟨v2, v3, rfl, c, d⟩ := rws2 b
  exact ⟨v1, v2, v3, rfl, a, c, d⟩
theorem sw_par3 {i j l : Nat} {x y z : Str} {a b c : Expr} {u : TwA} {px py pz pt : Pos} {kt k2 : Nat} {pt2 : Pos} (hc : X.calm = true) (hN : X.N.Nodup) (hi : X.N[i]? = some x) (hj : X.N[j]? = some y) (hl : X.N[l]? = some z) (hij : i ≠ j) (hil : i ≠ l) (hjl : j ≠ l)
    (hx : X.env.scope.names.lookup x = some .local) (hy : X.env.scope.names.lookup y = some .local) (hz : X.env.scope.names.lookup z = some .local) (ha : PAw X G Wx [a, b, c] u)
    (hw : swappedStores [.Tuple [.Name x px, .Name y py, .Name z pz] kt pt] (.Tuple [a, b, c] k2 pt2) X.env = pure (some [x, y, z]))
    (hs : swapsWithSole [.Tuple [.Name x px, .Name y py, .Name z pz] kt pt] (.Tuple [a, b, c] k2 pt2) pos.line X.env = pure false) :
    PSw X G Wx (.Assign [.Tuple [.Name x px, .Name y py, .Name z pz] kt pt] (.Tuple [a, b, c] k2 pt2) pos) (parS [i, j, l] u) := by
  refine PS.imp (ps_par3 hc hN hi hj hl hij hil hjl hx hy hz ha hw hs) fun D σ H h => ?_
  obtain ⟨σw, S, D0, rσ, rs, q, l⟩ := h
  refine ⟨σw, S, _, _, rσ, rs, q, fun ws S1 q1 vs H1 r1 rs1 tp1 => ?_, l.lx rσ⟩
  split at q1
  · rename_i σ' e
    match ws, e with
    | [w1, w2, w3], e =>
      obtain ⟨v1, v2, v3, rfl, a1, a2, a3⟩ := rws3 r1
      cases e
      exact ⟨v1, v2, v3, rfl, l.nx _ _ q1 _ _ ((((rσ.mono tp1).set i a1).set j a2).set _ a3) rs1 tp1⟩
  · exact q1.elim
end
/-! ### statements -/
def ssOf (f : Stmt → Option TwS) : List Stmt → Option TwS
  | [] => some nextS
  | s :: r => (match r with
    | [] => f s
    | _ :: _ => (f s).bind fun t => (ssOf f r).bind fun u => some (seqS t u))
def valE (Γ : Cg) (r : Cg → Cmp) (e : Expr) : Option Tw := match e with
  | .ListComp elt gs scope _ => (match gs with
    | [⟨tg, iter, ifs, 0⟩] => lcE Γ r elt tg iter ifs scope
    | [⟨tg, iter, ifs, 0⟩, ⟨tg1, iter1, ifs1, 0⟩] => lcE2 Γ r elt tg iter ifs tg1 iter1 ifs1 scope
    | _ => none)
  | e => if compScope e = none then (r Γ).e e else none
def asgE (Γ : Cg) (r : Cg → Cmp) (tg e : Expr) : Option TwS := match tg with
  | .Name x _ => if locB Γ x = true then (ix Γ.N x).bind fun i => (valE Γ r e).bind fun t => some (setS i t) else none
  | .Tuple ts _ _ => (match e with
    | .Tuple vs _ _ => (swR Γ.sc ts vs).bind fun w => (match w with
      | some _ => (match ts, vs with
        | [.Name x _, .Name y _], [a, b] => (ix Γ.N x).bind fun i => (ix Γ.N y).bind fun j => if (Γ.sc.names.lookup x == some .local && Γ.sc.names.lookup y == some .local && i != j) = true then (aOf (r Γ).e [a, b]).bind fun u => some (parS [i, j] u) else none
        | [.Name x _, .Name y _, .Name z _], [a, b, c] => (ix Γ.N x).bind fun i => (ix Γ.N y).bind fun j => (ix Γ.N z).bind fun l =>
          if (Γ.sc.names.lookup x == some .local && Γ.sc.names.lookup y == some .local && Γ.sc.names.lookup z == some .local && i != j && i != l && j != l) = true then (aOf (r Γ).e [a, b, c]).bind fun u => some (parS [i, j, l] u) else none
        | _, _ => none)
      | none => (namesOf Γ ts).bind fun is => (aOf (r Γ).e vs).bind fun u => some (asgS (.tup is) (tupS u)))
    | e => (match namesOf Γ ts with
      | some is => ((r Γ).e e).bind fun t => some (asgS (.tup is) t)
      | none => (namesSt Γ ts).bind fun is => ((r Γ).e e).bind fun t => some (starS is t)))
  | .Subscript o k _ => if (compScope e = none ∧ plainIx k = true) then ((r Γ).e o).bind fun to => ((r Γ).e k).bind fun tk => ((r Γ).e e).bind fun t => some (stiS to tk t) else none
  | .Attribute o f _ => if compScope e = none then (lk Γ.flds f).bind fun cls => ((r Γ).e o).bind fun to => ((r Γ).e e).bind fun t => some (fstS cls f to t) else none
  | _ => none
where plainIx : Expr → Bool
  | .Slice _ _ _ _ => false
  | _ => true
/-- the suite of an except clause -/
def suiE0 (Γ : Cg) : Expr → Option Tw
  | .Name x _ => nameE Γ x
  | .Constant c _ _ => constE c
  | .Attribute (.Name x _) f _ => (nameE Γ x).bind fun t => fldE Γ f t
  | _ => none
def suiE (Γ : Cg) : Expr → Option Tw
  | .Tuple es _ _ => (aOf (suiE0 Γ) es).bind fun u => some (tupS u)
  | e => suiE0 Γ e
/-- a statement that is not read: it may not be reached -/
def badS : TwS := fun _ _ _ => False
def suiS (Γ : Cg) : List Stmt → Option TwS
  | [.Assign [.Name x _] e _] => if locB Γ x = true then (ix Γ.N x).bind fun i => (suiE Γ e).bind fun t => some (setS i t) else none
  | [.Return (some e) _] => (suiE Γ e).bind fun t => some (retS t)
  | [.Pass _] => some nextS
  | [.Raise _ _ _] => some badS
  | _ => none
/-- raise X(..) -/
def raiE (Γ : Cg) (r : Cmp) : Expr → Option TwS
  | .Call (.Name x _) es kws _ => (match es, kws with
    | _ :: _, [] => if (glB Γ.sc x && ((x == ("__debug__" : Str)) == false)) = true then (lk Γ.exs (x, es.length)).bind fun q => (aOf r.e es).bind fun u => some (raiseS q.1 q.2 u) else none
    | _, _ => none)
  | _ => none
def msAny (m : List ((Nat × Nat) × Bool)) (c : Nat) : List Nat → Option Bool
  | [] => some false
  | d :: r => (lk m (c, d)).bind fun b => (msAny m c r).bind fun e => some (b || e)
/-- the classes of a clause's tuple -/
def clsL (Γ : Cg) : List Expr → Option (List Nat)
  | [] => some []
  | .Name x _ :: r => if (glB Γ.sc x && ((x == ("__debug__" : Str)) == false)) = true then (lk Γ.gl x).bind fun g => (match g with
    | .cls c => (clsL Γ r).bind fun l => some (c :: l)
    | _ => none) else none
  | _ => none
def hanE (Γ : Cg) (tb : TwS) : List ExceptHandler → Option TwS
  | [.ExceptHandler (some (.Name x _)) nm suite _] => (match suite with
    | _ :: _ => if (glB Γ.sc x && ((x == ("__debug__" : Str)) == false)) = true then (lk Γ.gl x).bind fun g => (match g with
      | .cls c' => (suiS Γ suite).bind fun ts => (match nm with
        | some n => if (Γ.sc.names.lookup n == some .local) = true then (ix Γ.N n).bind fun i => some (tryS (fun c => lk Γ.exm (c, c')) i tb ts) else none
        | none => some (try0S (fun c => lk Γ.exm (c, c')) tb ts))
      | _ => none) else none
    | [] => none)
  | [.ExceptHandler (some (.Tuple es _ _)) (some n) suite _] => (match suite with
    | _ :: _ => if (Nat.ble es.length 100 && (Γ.sc.names.lookup n == some .local)) = true then (clsL Γ es).bind fun cs => (suiS Γ suite).bind fun ts => (ix Γ.N n).bind fun i => some (tryS (fun c => msAny Γ.exm c cs) i tb ts) else none
    | [] => none)
  | _ => none
def stepS (Γ : Cg) (r : Cg → Cmp) (f : List Stmt → Option TwS) : Stmt → Option TwS
  | .Raise (some e) none _ => raiE Γ (r Γ) e
  | .Try body hs orelse fin _ => (match orelse, fin with
    | [], [] => (f body).bind fun tb => hanE Γ tb hs
    | _, _ => none)
  | .Pass _ => some nextS
  | .Break _ => some brkS
  | .Continue _ => some contS
  | .Expr e _ => if compScope e = none then ((r Γ).e e).bind fun t => some (dropS t) else none
  | .Return e _ => (match e with
    | some e => ((r Γ).e e).bind fun t => some (retS t)
    | none => some retN)
  | .If c a b _ => ((r Γ).t c).bind fun tc => (f a).bind fun t => (f b).bind fun u => some (ifS' tc t u)
  | .While c b els _ => (match els with
    | [] => ((r Γ).t c).bind fun tc => (f b).bind fun t => some (whileS tc t)
    | _ => none)
  | .For tg it b els _ => (match els with
    | [] => if notSet it = true then (iterE Γ (r Γ) tg it).bind fun ti => (patOf Γ tg).bind fun p => (f b).bind fun t => some (forS ti p t) else none
    | _ => none)
  | .AugAssign tg op e _ => (match tg with
    | .Name x _ => if (locB Γ x && (opI op 0 0).isSome) = true then (ix Γ.N x).bind fun i => ((r Γ).e e).bind fun t => some (augS i op t) else none
    | .Attribute o f _ => if (opI op 0 0).isSome = true then (lk Γ.flds f).bind fun cls => ((r Γ).e o).bind fun to => ((r Γ).e e).bind fun t => some (fauS cls f op to t) else none
    | _ => none)
  | .Assign tgs e _ => (match tgs with
    | [tg] => asgE Γ r tg e
    | _ => none)
  | _ => none
def orBad : Option TwS → Option TwS
  | some t => some t
  | none => some badS
def cmpS (cs : Sem) (Γ : Cg) : Nat → Stmt → Option TwS
  | 0 => fun _ => none
  | n + 1 => fun st => orBad (stepS Γ (cmp cs n) (ssOf (cmpS cs Γ n)) st)
end MP
set_option Elab.async false
set_option linter.all false
set_option maxRecDepth 100000
set_option maxHeartbeats 4000000
namespace MP
open PySem PySem.Spec PyProof.Rows L2
section
variable {Γ : Cg} {G : Wd} {cs : Sem} {X : Cx} {Wx : WX}
theorem ssOf_ok {f : Stmt → Option TwS} (hf : ∀ s t, f s = some t → PSw X G Wx s t) : ∀ {ss : List Stmt} {t : TwS}, ssOf f ss = some t → PSsw X G Wx ss t
  | [], t, h => by
    cases h
    exact sw_nil
  | [s], t, h => pss_one (hf s t h)
  | s :: b :: r, t, h => by
    simp only [ssOf, Option.bind_eq_some_iff, Option.some.injEq] at h
    obtain ⟨t1, h1, u, hu, rfl⟩ := h
    have hu : ssOf f (b :: r) = some u := hu
    exact sw_cons (hf s t1 h1) (ssOf_ok hf hu)
theorem loc_of (O : OkX Γ G cs X Wx) {x : Str} (h : (Γ.sc.names.lookup x == some .local) = true) : X.env.scope.names.lookup x = some .local := by
  rw [O.sc]
  exact beq_iff_eq.mp h
def isNm : Expr → Bool
  | .Name _ _ => true
  | _ => false
theorem swap_sole {e tg : Expr} {l : Nat} {env : Env} (h : isNm tg = false) : swapsWithSole [tg] e l env = pure false := by
  cases e <;> cases tg <;> first | rfl | cases h
theorem swR_names {sc : Scope} {ts vs : List Expr} {ns : List Str} (h : swR sc ts vs = some (some ns)) : ns = ts.filterMap (locAt sc (headLine ts)) ∧ ns.length = ts.length := by
  unfold swR at h
  split at h
  · split at h
    · rename_i c
      simp only [Bool.and_eq_true, beq_iff_eq] at c
      split at h
      · cases h
      · split at h
        · cases h
        · cases h
          exact ⟨rfl, c.1⟩
    · cases h
  · cases h
theorem locAt_nm {sc : Scope} {l : Nat} {x : Str} {p : Pos} : locAt sc l (.Name x p) = some x ∨ locAt sc l (.Name x p) = none := by
  show (if _ then _ else _) = some x ∨ (if _ then _ else _) = none
  by_cases c : (sc.names.lookup x == some .local && p.line == l) = true
  · exact .inl (if_pos c)
  · exact .inr (if_neg c)
theorem names2 {sc : Scope} {l : Nat} {x y : Str} {px py : Pos} {ns : List Str} (h : ns = [Expr.Name x px, .Name y py].filterMap (locAt sc l) ∧ ns.length = 2) : ns = [x, y] := by
  obtain ⟨rfl, h2⟩ := h
  rw [List.filterMap_cons, List.filterMap_cons, List.filterMap_nil] at h2 ⊢
  rcases locAt_nm (sc := sc) (l := l) (x := x) (p := px) with a | a <;> rcases locAt_nm (sc := sc) (l := l) (x := y) (p := py) with b | b <;> rw [a, b] at h2 ⊢ <;> first | rfl | (simp at h2)
theorem names3 {sc : Scope} {l : Nat} {x y z : Str} {px py pz : Pos} {ns : List Str} (h : ns = [Expr.Name x px, .Name y py, .Name z pz].filterMap (locAt sc l) ∧ ns.length = 3) : ns = [x, y, z] := by
  obtain ⟨rfl, h2⟩ := h
  rw [List.filterMap_cons, List.filterMap_cons, List.filterMap_cons, List.filterMap_nil] at h2 ⊢
  rcases locAt_nm (sc := sc) (l := l) (x := x) (p := px) with a | a <;> rcases locAt_nm (sc := sc) (l := l) (x := y) (p := py) with b | b <;> rcases locAt_nm (sc := sc) (l := l) (x := z) (p := pz) with c | c <;> rw [a, b, c] at h2 ⊢ <;> first | rfl | (simp at h2)
theorem asgE_ok (O : OkX Γ G cs X Wx) {r : Cg → Cmp} (g : GoodR G cs r) {tg e : Expr} {pos : Pos} {t : TwS} (h : asgE Γ r tg e = some t) : PSw X G Wx (.Assign [tg] e pos) t := by
  have g1 := g _ _ _ O
  have nd : X.N.Nodup := by rw [O.hN]; exact O.nd
  have nx : ∀ {x : Str} {i : Nat}, ix Γ.N x = some i → X.N[i]? = some x := fun h => by rw [O.hN]; exact ix_ok h
  cases tg <;> simp only [asgE] at h <;> first | (cases h; done) | skip
  case Name x p =>
    simp only [oif, Option.bind_eq_some_iff, Option.some.injEq] at h
    obtain ⟨hl, i, hi, t1, h1, rfl⟩ := h
    obtain ⟨l1, l2⟩ := locB_ok O hl
    unfold valE at h1
    split at h1
    · rename_i elt gs scope vp
      split at h1
      · rename_i tg iter ifs
        obtain ⟨own, ti, q, tt, te, rfl, f⟩ := lcE_ok O g h1
        have sw := swB_ok (env := X.env) O.sc O.kind (elt := elt) (gs := [⟨tg, iter, ifs, 0⟩]) (scope := scope) (vp := vp) (p := p) (x := x) (l := pos.line)
        cases hb : swB Γ.sc x p vp scope with
        | true =>
          rw [hb] at sw
          have hloc : X.env.scope.names.lookup x = some .local := by
            unfold swB at hb
            simp only [Bool.and_eq_true] at hb
            exact loc_of O hb.1.1
          exact sw_setLc f.hp O.calm nd (nx hi) hloc sw f.hi f.ok f.hg f.ht f.he f.hs
        | false =>
          rw [hb] at sw
          exact sw_set nd (nx hi) l1 (ew_lc f.hp O.calm nd f.hi f.ok f.hg f.ht f.he f.hs) sw l2
      · rename_i tg iter ifs tg1 iter1 ifs1
        obtain ⟨own, vs1, ti, q, tt, ti1, q1, tt1, te, rfl, f⟩ := lcE2_ok O g h1
        have sw := swB_ok (env := X.env) O.sc O.kind (elt := elt) (gs := [⟨tg, iter, ifs, 0⟩, ⟨tg1, iter1, ifs1, 0⟩]) (scope := scope) (vp := vp) (p := p) (x := x) (l := pos.line)
        cases hb : swB Γ.sc x p vp scope with
        | true =>
          rw [hb] at sw
          have hloc : X.env.scope.names.lookup x = some .local := by
            unfold swB at hb
            simp only [Bool.and_eq_true] at hb
            exact loc_of O hb.1.1
          exact sw_setLc2 O.calm nd (nx hi) hloc sw f
        | false =>
          rw [hb] at sw
          exact sw_set nd (nx hi) l1 (ew_lc2 O.calm nd f) sw l2
      · cases h1
    · split at h1
      · rename_i c
        exact sw_set nd (nx hi) l1 (g1.e _ _ h1) (swap_no c) l2
      · cases h1
  case Tuple ts k p =>
    split at h
    · rename_i vs k2 p2
      simp only [Option.bind_eq_some_iff] at h
      obtain ⟨w, hw, h⟩ := h
      have sw := swR_ok (env := X.env) O.sc O.kind (k := k) (k2 := k2) (p := p) (p2 := p2) hw
      split at h
      · rename_i ns
        split at h
        · rename_i x px y py a b
          simp only [Option.bind_eq_some_iff, oif, Option.some.injEq] at h
          obtain ⟨i, hi, j, hj, c, u, hu, rfl⟩ := h
          simp only [Bool.and_eq_true] at c
          have lx := loc_of O c.1.1
          have ly := loc_of O c.1.2
          have hns : ns = [x, y] := names2 (swR_names hw)
          exact sw_par2 O.calm nd (nx hi) (nx hj) (by simpa using c.2) lx ly (aOf_ok g1.e hu).1 (by rw [sw, hns]) (swap_sole rfl)
        · rename_i x px y py z pz a b c
          simp only [Option.bind_eq_some_iff, oif, Option.some.injEq] at h
          obtain ⟨i, hi, j, hj, m, hm, c, u, hu, rfl⟩ := h
          simp only [Bool.and_eq_true] at c
          obtain ⟨⟨⟨⟨⟨c1, c2⟩, c3⟩, c4⟩, c5⟩, c6⟩ := c
          have hns : ns = [x, y, z] := names3 (swR_names hw)
          exact sw_par3 O.calm nd (nx hi) (nx hj) (nx hm) (by simpa using c4) (by simpa using c5) (by simpa using c6) (loc_of O c1) (loc_of O c2) (loc_of O c3) (aOf_ok g1.e hu).1 (by rw [sw, hns]) (swap_sole rfl)
        · cases h
      · simp only [Option.bind_eq_some_iff, Option.some.injEq] at h
        obtain ⟨is, hi, u, hu, rfl⟩ := h
        exact sw_asg (patOf_ok O (tg := .Tuple ts k p) (p := .tup is) (patOf_names hi)) (ew_tup (aOf_ok g1.e hu).1) (swap_sole rfl) sw rfl
    · rename_i n
      have hw : swappedStores [.Tuple ts k p] e X.env = pure none := by
        cases e <;> first | rfl | exact absurd rfl (n _ _ _)
      split at h
      · rename_i is hi
        simp only [Option.bind_eq_some_iff, Option.some.injEq] at h
        obtain ⟨t1, h1, rfl⟩ := h
        exact sw_asg (patOf_ok O (tg := .Tuple ts k p) (p := .tup is) (patOf_names hi)) (g1.e _ _ h1) (swap_sole rfl) hw rfl
      · simp only [Option.bind_eq_some_iff, Option.some.injEq] at h
        obtain ⟨is, hi, t1, h1, rfl⟩ := h
        obtain ⟨a, b, c, d⟩ := namesSt_ok O hi
        exact sw_star O.calm d a b c (g1.e _ _ h1) (swap_sole rfl) hw
  case Attribute o f p =>
    split at h
    · rename_i c
      simp only [Option.bind_eq_some_iff, Option.some.injEq] at h
      obtain ⟨cls, hc, to, ho, t1, h1, rfl⟩ := h
      exact sw_fst (O.flds _ (lk_mem hc)) (g1.e _ _ ho) (g1.e _ _ h1) (swap_no c)
    · cases h
  case Subscript o k p =>
    split at h
    · rename_i c
      simp only [Option.bind_eq_some_iff, Option.some.injEq] at h
      obtain ⟨to, ho, tk, hk, t1, h1, rfl⟩ := h
      refine sw_sti (p2 := p) (g1.e _ _ ho) (g1.e _ _ hk) (g1.e _ _ h1) fun a b d => ?_
      refine ps_asg d (pg_sub a b (set_both (by have := O.un; omega)) ?_) (swap_sole rfl) (by cases e <;> rfl) rfl
      cases k <;> first | (intro _; rfl) | (cases c.2; done)
    · cases h
theorem OkX.tr (O : OkX Γ G cs X Wx) {W : WX} {pn : List (Addr × Obj)} {xe : Value → Shared → Prop} (tk : Takes (X.tr pn xe) W) : OkX Γ G cs (X.tr pn xe) W :=
  ⟨O.hN, O.nd, O.sc, O.kind, O.calm, O.un, O.gd, tk, O.fn, O.kit, O.gl, fun p hp => ⟨(O.calls p hp).ex⟩, O.flds, fun p hp => ⟨(O.mks p hp).ex⟩, fun p hp q hq => ⟨(O.mts p hp q hq).ex⟩, fun p hp => ⟨(O.exs p hp).ex⟩, O.xfl, O.exm, fun p hp q hq => ⟨⟨(O.fvs p hp q hq).at_.ex⟩⟩, O.eqs⟩
/-- what an except suite has of its context -/
structure OkU (Γ : Cg) (G : Wd) (X : Cx) : Prop where
  hN : X.N = Γ.N
  nd : Γ.N.Nodup
  sc : X.env.scope = Γ.sc
  gl : ∀ p ∈ Γ.gl, GvOk X G p.1 p.2
  fn : ∀ x, Γ.fnB x = true → X.fn x = true
  flds : ∀ p ∈ Γ.flds, ∀ c, p.2.contains c = true → Cls X.K (G.cad c) ∧ NoAttr X.K (G.cad c) p.1
  xfl : ∀ p ∈ Γ.xfl, ∀ c, p.2.contains c = true → XfC X.K (G.cad c) ∧ PySem.W.findIn X.K (.ref (G.cad c)) p.1 = some none
theorem OkX.suite (O : OkX Γ G cs X Wx) (a : Addr) (pn : List (Addr × Obj)) : OkU Γ G (X.suite a pn) := ⟨O.hN, O.nd, O.sc, O.gl, O.fn, O.flds, O.xfl⟩
theorem nameU_ok (O : OkU Γ G X) {x : Str} {p : Pos} {t : Tw} (h : nameE Γ x = some t) : PEw X G Wx (.Name x p) t := by
  unfold nameE at h
  split at h
  · rename_i c
    simp only [Bool.and_eq_true] at c
    simp only [Option.bind_eq_some_iff, Option.some.injEq] at h
    obtain ⟨i, hi, rfl⟩ := h
    exact ew_var (by rw [O.hN]; exact ix_ok hi) (by rw [O.sc]; exact vis_ok c.1) (bfalse c.2.1) (bfalse c.2.2)
  · split at h
    · rename_i c
      simp only [Bool.and_eq_true] at c
      simp only [Option.bind_eq_some_iff, Option.some.injEq] at h
      obtain ⟨g, hg, h⟩ := h
      have gg : Gl X x := by
        show X.env.scope.names.lookup x = _
        rw [O.sc]
        exact glB_ok c.1
      have ok := O.gl _ (lk_mem hg)
      cases g with
      | int i =>
        cases h
        obtain ⟨t, ht⟩ := ok
        exact ew_cst (v := .int i) (pe_glob gg ht ⟨t, rfl⟩ (bfalse c.2)) fun H => rw_int.mpr rfl
      | str s =>
        cases h
        obtain ⟨t, ht⟩ := ok
        exact ew_cst (v := .str s) (pe_glob gg ht ⟨t, rfl⟩ (bfalse c.2)) fun H => rw_str.mpr rfl
      | cls k =>
        cases h
        exact ew_cst (v := .ref (G.cad k)) (pe_glob gg ok rfl (bfalse c.2)) fun H => rw_cls.mpr rfl
      | val w =>
        cases h
        obtain ⟨u, v, hu, rv, hw⟩ := ok
        exact ew_cst (v := v) (pe_glob gg hu rv (bfalse c.2)) hw
      | free =>
        simp only [Option.bind_eq_some_iff, Option.some.injEq] at h
        obtain ⟨T, hT, rfl⟩ := h
        obtain ⟨a, b, d⟩ := tyT_ok _ (lk_mem hT)
        exact ew_cst (v := .ty T) (pe_bltn gg ok a rfl b d) fun H => rw_ty.mpr rfl
      | fn o =>
        simp only [Option.bind_eq_some_iff, Option.some.injEq] at h
        obtain ⟨f, rfl, rfl⟩ := h
        exact ew_cst (v := .ref (G.fad f)) (pe_glob gg (ok f rfl) rfl (bfalse c.2)) fun H => rw_fn.mpr rfl
      | dct kvs => cases h
    · cases h
theorem fldU_ok (O : OkU Γ G X) {o : Expr} {f : Str} {p : Pos} {t1 t : Tw} (ht : PEw X G Wx o t1) (hb : attributeBase o f X.env (eval o X.env) = eval o X.env) (h : fldE Γ f t1 = some t) : PEw X G Wx (.Attribute o f p) t := by
  unfold fldE at h
  split at h
  · rename_i ecl e1
    split at h
    · rename_i cls e2
      cases h
      exact ew_fldX (O.flds _ (lk_mem e2)) (O.xfl _ (lk_mem e1)) ht hb
    · cases h
      exact ew_fldX (fun c z => by simp at z) (O.xfl _ (lk_mem e1)) ht hb
  · simp only [Option.bind_eq_some_iff, Option.some.injEq] at h
    obtain ⟨cls, hc, rfl⟩ := h
    exact ew_fldC (O.flds _ (lk_mem hc)) ht hb
theorem suiE0_ok (O : OkU Γ G X) (e : Expr) (t : Tw) (h : suiE0 Γ e = some t) : PEw X G Wx e t := by
  unfold suiE0 at h
  split at h
  · exact nameU_ok O h
  · exact constE_ok h
  · simp only [Option.bind_eq_some_iff] at h
    obtain ⟨t1, h1, h⟩ := h
    exact fldU_ok O (nameU_ok O h1) rfl h
  · cases h
theorem suiE_ok (O : OkU Γ G X) {e : Expr} {t : Tw} (h : suiE Γ e = some t) : PEw X G Wx e t := by
  unfold suiE at h
  split at h
  · simp only [Option.bind_eq_some_iff, Option.some.injEq] at h
    obtain ⟨u, hu, rfl⟩ := h
    exact ew_tup (aOf_ok (suiE0_ok O) hu).1
  · exact suiE0_ok O _ _ h
theorem sw_bad {st : Stmt} : PSw X G Wx st badS := ⟨fun pins s σ H D I h => by
  obtain ⟨_, _, _, _, _, q, _⟩ := h
  exact q.elim⟩
theorem suiS_ok (O : OkU Γ G X) {ss : List Stmt} {t : TwS} (h : suiS Γ ss = some t) : PSsw X G Wx ss t := by
  have one : ∀ {st : Stmt} {t : TwS}, PSw X G Wx st t → PSsw X G Wx [st] t := fun q => pss_one q
  unfold suiS at h
  split at h
  · rename_i x px e p
    simp only [oif, Option.bind_eq_some_iff, Option.some.injEq] at h
    obtain ⟨c, i, hi, t1, h1, rfl⟩ := h
    have c2 : compScope e = none := by cases e <;> first | rfl | (simp [suiE, suiE0] at h1)
    have c3 : Loc X.env.scope x ∧ (X.fn x = true ∨ X.env.scope.names.lookup x = some .local) := by
      unfold locB at c
      rw [O.sc]
      split at c
      · rename_i e
        exact ⟨.inl e, .inr e⟩
      · rename_i e
        exact ⟨.inr e, .inl (O.fn x c)⟩
      · cases c
    exact one (sw_set (by rw [O.hN]; exact O.nd) (by rw [O.hN]; exact ix_ok hi) c3.1 (suiE_ok O h1) (swap_no c2) c3.2)
  · simp only [Option.bind_eq_some_iff, Option.some.injEq] at h
    obtain ⟨t1, h1, rfl⟩ := h
    exact one (sw_ret (suiE_ok O h1))
  · cases h
    exact one sw_pass
  · cases h
    exact one sw_bad
  · cases h
theorem raiE_ok (O : OkX Γ G cs X Wx) {r : Cmp} (g : GoodC X G Wx r) {e : Expr} {p : Pos} {t : TwS} (h : raiE Γ r e = some t) : PSw X G Wx (.Raise (some e) none p) t := by
  unfold raiE at h
  split at h
  · split at h
    · simp only [oif, Option.bind_eq_some_iff, Option.some.injEq] at h
      obtain ⟨c, q, hq, u, hu, rfl⟩ := h
      rw [Bool.and_eq_true] at c
      obtain ⟨a1, a2, a3⟩ := aOf_ok g.e hu
      exact sw_raise O.calm O.tk (O.exs _ (lk_mem hq)) (gl_of O c.1) (bfalse c.2) a1 a2
    · cases h
  · cases h
theorem clsL_ok (O : OkX Γ G cs X Wx) : ∀ {es : List Expr} {ks : List Nat}, clsL Γ es = some ks → Nms X es (ks.map fun k => .ref (G.cad k)) ∧ ks.length = es.length
  | [], ks, h => by cases h; exact ⟨.nil, rfl⟩
  | e :: es, ks, h => by
    cases e <;> first | (cases h; done) | skip
    rename_i x p
    simp only [clsL, oif, Option.bind_eq_some_iff] at h
    obtain ⟨c, gv, hg, h⟩ := h
    rw [Bool.and_eq_true] at c
    have ok := O.gl _ (lk_mem hg)
    cases gv <;> first | (cases h; done) | skip
    rename_i c'
    simp only [Option.bind_eq_some_iff, Option.some.injEq] at h
    obtain ⟨l, hl, rfl⟩ := h
    obtain ⟨a, b⟩ := clsL_ok O hl
    exact ⟨.cons ⟨gl_of O c.1, bfalse c.2, .inl ok⟩ a, by simp [b]⟩
theorem msAny_ok (O : OkX Γ G cs X Wx) {k : Nat} : ∀ {ks : List Nat} {b : Bool}, msAny Γ.exm k ks = some b → PySem.W.exmAny X.K (.ref (G.cad k)) (ks.map fun k => .ref (G.cad k)) = some b
  | [], b, h => by cases h; rfl
  | d :: ks, b, h => by
    simp only [msAny, Option.bind_eq_some_iff, Option.some.injEq] at h
    obtain ⟨b1, h1, b2, h2, rfl⟩ := h
    have e1 := O.exm _ (lk_mem h1)
    have e2 := msAny_ok O h2
    simp only [List.map_cons, PySem.W.exmAny]
    rw [e2]
    have e1 : PySem.W.exmOne X.K (.ref (G.cad k)) (.ref (G.cad d)) = some b1 := e1
    rw [e1]
theorem hanE_ok (O : OkX Γ G cs X Wx) (T : Top X) {body : List Stmt} {tb t : TwS} {hs : List ExceptHandler} {p : Pos} (hb : ∀ (W : WX) (pn : List (Addr × Obj)) (xe : Value → Shared → Prop), Takes (X.tr pn xe) W → PassesOwn (model X.prog X.w) X.A X.env xe → PSsw (X.tr pn xe) G W body tb) (h : hanE Γ tb hs = some t) :
    PSw X G Wx (.Try body hs [] [] p) t := by
  unfold hanE at h
  split at h
  · rename_i x np nm suite hp
    split at h
    · rename_i b0 sts
      simp only [oif, Option.bind_eq_some_iff] at h
      obtain ⟨c, gv, hg, h⟩ := h
      rw [Bool.and_eq_true] at c
      have ok := O.gl _ (lk_mem hg)
      cases gv <;> first | (cases h; done) | skip
      rename_i c'
      simp only [Option.bind_eq_some_iff] at h
      obtain ⟨ts, hts, h⟩ := h
      have hc : Names X x (.ref (G.cad c')) := ⟨gl_of O c.1, bfalse c.2, .inl ok⟩
      have hm : ∀ k b, lk Γ.exm (k, c') = some b → PySem.W.exmOne X.K (.ref (G.cad k)) (.ref (G.cad c')) = some b := fun k b z => O.exm _ (lk_mem z)
      have hsu : ∀ (a : Addr) (pn : List (Addr × Obj)), PSsw (X.suite a pn) G WNo (b0 :: sts) ts := fun a pn => suiS_ok (O.suite a pn) hts
      split at h
      · rename_i n
        simp only [oif, Option.bind_eq_some_iff, Option.some.injEq] at h
        obtain ⟨hl, i, hi, rfl⟩ := h
        exact sw_try T (by rw [O.hN]; exact O.nd) (by rw [O.hN]; exact ix_ok hi) (loc_of O hl) hc hm O.tk hb hsu
      · cases h
        exact sw_try0 T hc hm O.tk hb hsu
    · cases h
  · split at h
    · simp only [oif, Option.bind_eq_some_iff, Option.some.injEq] at h
      obtain ⟨c, ks, hk, ts, hts, i, hi, rfl⟩ := h
      rw [Bool.and_eq_true] at c
      obtain ⟨a, b⟩ := clsL_ok O hk
      have hle : (ks.map fun k => Value.ref (G.cad k)).length ≤ sizeLine := by
        rw [List.length_map, b]
        have := Nat.le_of_ble_eq_true c.1
        exact Nat.le_trans (show _ ≤ 100 from this) (by decide)
      exact sw_tryT T (by rw [O.hN]; exact O.nd) (by rw [O.hN]; exact ix_ok hi) (loc_of O c.2) a hle (fun k b z => msAny_ok O z) O.tk hb (fun a pn => suiS_ok (O.suite a pn) hts)
    · cases h
  · cases h
theorem stepS_ok (O : OkX Γ G cs X Wx) (po : PassesOwn (model X.prog X.w) X.A X.env X.xe) (T : Top X) {r : Cg → Cmp} (g : GoodR G cs r) {f : List Stmt → Option TwS} (hfA : ∀ (X' : Cx) (Wx' : WX), OkX Γ G cs X' Wx' → PassesOwn (model X'.prog X'.w) X'.A X'.env X'.xe → Top X' → ∀ s t, f s = some t → PSsw X' G Wx' s t) {st : Stmt} {t : TwS} (h : stepS Γ r f st = some t) : PSw X G Wx st t := by
  have g1 := g _ _ _ O
  have hf := hfA X Wx O po T
  cases st <;> simp only [stepS] at h <;> first | (cases h; done) | skip
  case Raise e c p =>
    cases e with
    | none => cases h
    | some e => cases c with
      | none => exact raiE_ok O g1 h
      | some c => cases h
  case Try body hs orelse fin p =>
    cases orelse with
    | nil => cases fin with
      | nil =>
        simp only [Option.bind_eq_some_iff] at h
        obtain ⟨tb, hb, h⟩ := h
        exact hanE_ok O T (fun W pn xe tk po' => hfA _ W (O.tr tk) po' (T.tr pn xe) _ _ hb) h
      | cons _ _ => cases h
    | cons _ _ => cases h
  case Return e p =>
    split at h
    · simp only [Option.bind_eq_some_iff, Option.some.injEq] at h
      obtain ⟨t1, h1, rfl⟩ := h
      exact sw_ret (g1.e _ _ h1)
    · cases h
      exact sw_retN
  case Assign tgs e p =>
    split at h
    · exact asgE_ok O g h
    · cases h
  case AugAssign tg op e p =>
    have nn : (opI op 0 0).isSome = true → opI op 0 0 ≠ none := fun z y => by rw [y] at z; cases z
    split at h
    · simp only [oif, Option.bind_eq_some_iff, Option.some.injEq] at h
      rw [Bool.and_eq_true] at h
      obtain ⟨c, i, hi, t1, h1, rfl⟩ := h
      obtain ⟨l1, l2⟩ := locB_ok O c.1
      exact sw_aug (nn c.2) (by rw [O.hN]; exact O.nd) (by rw [O.hN]; exact ix_ok hi) l1 (g1.e _ _ h1) l2
    · simp only [oif, Option.bind_eq_some_iff, Option.some.injEq] at h
      obtain ⟨c, cls, hc, to, ho, t1, h1, rfl⟩ := h
      exact sw_fau (nn c) (O.flds _ (lk_mem hc)) (g1.e _ _ ho) (g1.e _ _ h1)
    · cases h
  case For tg it b els p =>
    split at h
    · simp only [oif, Option.bind_eq_some_iff, Option.some.injEq] at h
      obtain ⟨c, ti, hi, q, hq, t1, h1, rfl⟩ := h
      exact sw_for po O.calm (iterE_ok O g1 hi) (patOf_ok O hq) (hf _ _ h1) (fold_ok c)
    · cases h
  case While c b els p =>
    split at h
    · simp only [Option.bind_eq_some_iff, Option.some.injEq] at h
      obtain ⟨tc, hc, t1, h1, rfl⟩ := h
      exact sw_while po (g1.t _ _ hc) (hf _ _ h1)
    · cases h
  case If c a b p =>
    simp only [Option.bind_eq_some_iff, Option.some.injEq] at h
    obtain ⟨tc, hc, t1, h1, t2, h2, rfl⟩ := h
    exact sw_if (g1.t _ _ hc) (hf _ _ h1) (hf _ _ h2)
  case Expr e p =>
    split at h
    · rename_i c
      simp only [Option.bind_eq_some_iff, Option.some.injEq] at h
      obtain ⟨t1, h1, rfl⟩ := h
      exact sw_drop (g1.e _ _ h1) (swap_no c)
    · cases h
  case Pass p =>
    cases h
    exact sw_pass
  case Break p =>
    cases h
    exact sw_brk
  case Continue p =>
    cases h
    exact sw_cont
theorem cmpS_ok : ∀ (n : Nat) {X : Cx} {Wx : WX}, OkX Γ G cs X Wx → PassesOwn (model X.prog X.w) X.A X.env X.xe → Top X → ∀ (s : Stmt) (t : TwS), cmpS cs Γ n s = some t → PSw X G Wx s t
  | 0, X, Wx, O, po, T, s, t, h => by cases h
  | n + 1, X, Wx, O, po, T, s, t, h => by
    have h : orBad (stepS Γ (cmp cs n) (ssOf (cmpS cs Γ n)) s) = some t := h
    cases q : stepS Γ (cmp cs n) (ssOf (cmpS cs Γ n)) s with
    | none =>
      rw [q] at h
      cases h
      exact sw_bad
    | some u =>
      rw [q] at h
      cases h
      exact stepS_ok O po T (cmp_ok n) (fun X2 W2 O2 po2 T2 ss u hu => ssOf_ok (cmpS_ok n O2 po2 T2) hu) q
end
end MP
set_option Elab.async false
set_option linter.all false
set_option maxRecDepth 100000
set_option maxHeartbeats 4000000
namespace MP
open PySem PySem.Spec PyProof.Rows L2
abbrev CKey := Str × Nat × List Str
/-! ### the table of defs -/
structure FnE where
  np : Nat
  nn : Nat
  body : Sem → TwS
def startW (n : Nat) (ws : List W) : Sw := ws.map some ++ List.replicate (n - ws.length) none
abbrev endW (Q : WP) (E : XP) : EnW := ⟨fun _ S => Q .non S, Q, fun _ _ => False, fun _ _ => False, fun e _ S => E e S⟩
def semN (T : List FnE) : Nat → Sem
  | 0 => ⟨fun _ _ _ _ _ => False, fun _ _ _ _ _ => False⟩
  | k + 1 => ⟨fun f ws S Q E => match T[f]? with
    | some F => ws.length = F.np ∧ F.body (semN T k) (endW Q E) (startW F.nn ws) S
    | none => False, (semN T k).call⟩
theorem start_rel {K : PySem.W.Frag} {G : Wd} {H : Hp} {ws : List W} {vs : List V} (r : RWs K G H ws vs) {N : List Str} : RSt K G H (startW N.length ws) (L2.start N vs) := by
  have hl := r.length
  refine ⟨by simp [startW, L2.start, hl], fun i w e => ?_⟩
  unfold startW at e
  by_cases hi : i < ws.length
  · rw [List.getElem?_append_left (by simpa using hi), List.getElem?_map] at e
    cases q : ws[i]? with
    | none => rw [q] at e; cases e
    | some x =>
      rw [q] at e
      cases e
      obtain ⟨v, a, b⟩ := r.get q
      refine ⟨v, ?_, b⟩
      unfold L2.start
      rw [List.getElem?_append_left (by simpa [← hl] using hi), List.getElem?_map, a]
      rfl
  · rw [List.getElem?_append_right (by simpa using hi), List.getElem?_replicate] at e
    split at e <;> cases e
structure DefT where
  d : He.DefD
  ps : List Str
  N : List Str
/-- what is said of the own classes: their fields, how they are made, their methods -/
structure Own0 where
  flds : List (Str × List Nat)
  mks : List (CKey × (Nat × Nat × List PArg))
  mts : List (CKey × List (Nat × (Nat × List PArg)))
  exs : List ((Str × Nat) × (Nat × List Str)) := []
  xfl : List (Str × List Nat) := []
  exm : List ((Nat × Nat) × Bool) := []
  fvs : List ((Nat × List Str) × List (Nat × List PArg)) := []
  eqn : List Str := []
  eqs : List Nat := []
def Cg.of (gl : List (Str × Gv)) (calls : List (CKey × (Nat × List PArg))) (kit : Kit) (ow : Own0) (N : List Str) (sc : Scope) : Cg := ⟨N, sc, fun _ => true, gl, calls, kit, ow.flds, ow.mks, ow.mts, ow.exs, ow.xfl, ow.exm, ow.fvs, ow.eqn, ow.eqs⟩
def fsB (N ps : List Str) (sc : Scope) : Bool :=
  decide (sc.kind = .function) && (decide (sc.isCoroutine = false) && (decide (sc.isGenerator = false) && (decide N.Nodup && (decide (N.take ps.length = ps) && ((ps.all fun x => decide (sc.names.lookup x = some .local) || decide (sc.names.lookup x = some .cell)) && sc.names.all fun y => decide (y.2 ≠ .free))))))
theorem fsB_ok {N ps : List Str} {sc : Scope} (h : fsB N ps sc = true) : FnScope N ps sc := by
  unfold fsB at h
  simp only [Bool.and_eq_true, decide_eq_true_eq, List.all_eq_true, Bool.or_eq_true] at h
  obtain ⟨h1, h2, h3, h4, h5, h6, h7⟩ := h
  exact ⟨h1, h2, h3, h4, h5, h6, h7⟩
def GvM (w : World) (K : PySem.W.Frag) (mg : Str → Option Value) (G : Wd) (x : Str) : Gv → Prop
  | .free => mg x = none
  | .int i => ∃ t, mg x = some (.int i t)
  | .str s => ∃ t, mg x = some (.str s t)
  | .fn o => ∀ f, o = some f → mg x = some (.ref (G.fad f))
  | .cls c => mg x = some (.ref (G.cad c))
  | .val w => ∃ u v, mg x = some u ∧ RelV v u ∧ ∀ H, RW K G H w v
  | .dct kvs => ∃ a, mg x = some (.ref a) ∧ DicM w K G a kvs
/-- how a written call binds -/
structure ShOk (K : PySem.W.Frag) (mg : Str → Option Value) (G : Wd) (fdF : Nat → FuncData) (ds : List DefT) (p : CKey × (Nat × List PArg)) : Prop where
  ex : ∃ (D : DefT) (g : List Value → List Value → List Value) (gV : List V → List V → List V), ds[p.2.1]? = some D ∧ mg p.1.1 = some (.ref (He.fAd K D.d.at_)) ∧ PySem.W.keepIn K (.ref (He.fAd K D.d.at_)) = true ∧
    KBn K (fdF p.2.1) D.ps p.1.2.1 p.1.2.2 g gV ∧ (∀ vs zs : List V, vs.length = p.1.2.1 → zs.length = p.1.2.2.length → (gV vs zs).length = D.ps.length) ∧
    ∀ (H : Hp) (es : List W) (vs zs : List V), vs.length = p.1.2.1 → zs.length = p.1.2.2.length → RWs K G H es (vs ++ zs) → RWs K G H (p.2.2.map (PArg.pick es)) (gV vs zs)
/-- how a def at f binds, its self ahead -/
structure MkSh (K : PySem.W.Frag) (G : Wd) (fdF : Nat → FuncData) (ds : List DefT) (n : Nat) (ks : List Str) (f : Nat) (perm : List PArg) (fa : Addr) : Prop where
  ex : ∃ (D : DefT) (g : List Value → List Value → List Value) (gV : List V → List V → List V), ds[f]? = some D ∧ fa = He.fAd K D.d.at_ ∧
    KBn K (fdF f) D.ps (n + 1) ks g gV ∧ (∀ vs zs : List V, vs.length = n + 1 → zs.length = ks.length → (gV vs zs).length = D.ps.length) ∧
    ∀ (H : Hp) (es : List W) (vs zs : List V), vs.length = n + 1 → zs.length = ks.length → RWs K G H es (vs ++ zs) → RWs K G H (perm.map (PArg.pick es)) (gV vs zs)
/-- how a def that a name holds is called -/
structure FvSh (K : PySem.W.Frag) (G : Wd) (fdF : Nat → FuncData) (ds : List DefT) (n : Nat) (ks : List Str) (f : Nat) (perm : List PArg) : Prop where
  ex : ∃ (D : DefT) (g : List Value → List Value → List Value) (gV : List V → List V → List V), ds[f]? = some D ∧ G.fad f = He.fAd K D.d.at_ ∧ PySem.W.keepIn K (.ref (He.fAd K D.d.at_)) = true ∧
    KBn K (fdF f) D.ps n ks g gV ∧ (∀ vs zs : List V, vs.length = n → zs.length = ks.length → (gV vs zs).length = D.ps.length) ∧
    ∀ (H : Hp) (es : List W) (vs zs : List V), vs.length = n → zs.length = ks.length → RWs K G H es (vs ++ zs) → RWs K G H (perm.map (PArg.pick es)) (gV vs zs)
/-- how an exception's class is called -/
structure ExM (P : Program) (w : World) (K : PySem.W.Frag) (mg : Str → Option Value) (C : Addr) (x : Str) (ks : List Str) : Prop where
  ex : ∃ (fI : Addr) (fd : FuncData) (ps : List Str), OexC K C ∧ PySem.W.findIn K (.ref C) "__init__" = some (some (.ref fI)) ∧ PySem.W.typeIn K (.ref fI) = some (.type "function") ∧
    (∀ base, FnOk P w K mg base (L2.CX P w) 1 fI fd ps (exSp C ks)) ∧ Binds K fd ps [] ∧ mg x = some (.ref C) ∧ 0 < ks.length ∧ ks.length ≤ 900
structure TabOk (P : Program) (w : World) (K : PySem.W.Frag) (mg : Str → Option Value) (G : Wd) (fdF : Nat → FuncData) (ds : List DefT) (bs : List FnE) (gl : List (Str × Gv)) (calls : List (CKey × (Nat × List PArg))) (kit : Kit) (ow : Own0) : Prop where
  fd : ∀ (f : Nat) (D : DefT), ds[f]? = some D → FunD K D.d.name D.d.qual D.d.params D.d.body D.d.scope (D.d.dvs K) (D.d.kws K) (He.fAd K D.d.at_) (fdF f)
  sc : ∀ (f : Nat) (D : DefT), ds[f]? = some D → fsB D.N D.ps D.d.scope = true
  co : ∀ (f : Nat) (D : DefT), ds[f]? = some D → ∃ (n : Nat) (b : Sem → TwS), bs[f]? = some ⟨D.ps.length, D.N.length, b⟩ ∧ ∀ cs, ssOf (cmpS cs (Cg.of gl calls kit ow D.N D.d.scope) n) D.d.body = some (b cs)
  kit : KitOk K G kit
  gl : ∀ p ∈ gl, GvM w K mg G p.1 p.2
  calls : ∀ p ∈ calls, ShOk K mg G fdF ds p
  flds : ∀ p ∈ ow.flds, ∀ c, p.2.contains c = true → Cls K (G.cad c) ∧ NoAttr K (G.cad c) p.1
  mks : ∀ p ∈ ow.mks, mg p.1.1 = some (.ref (G.cad p.2.1)) ∧ ∃ fa, Mk K (G.cad p.2.1) fa ∧ MkSh K G fdF ds p.1.2.1 p.1.2.2 p.2.2.1 p.2.2.2 fa
  mts : ∀ p ∈ ow.mts, ∀ q ∈ p.2, Cls K (G.cad q.1) ∧ ∃ fa, Meth K (G.cad q.1) p.1.1 fa ∧ MkSh K G fdF ds p.1.2.1 p.1.2.2 q.2.1 q.2.2 fa
  exs : ∀ p ∈ ow.exs, ExM P w K mg (G.cad p.2.1) p.1.1 p.2.2
  xfl : ∀ p ∈ ow.xfl, ∀ c, p.2.contains c = true → XfC K (G.cad c) ∧ PySem.W.findIn K (.ref (G.cad c)) p.1 = some none
  exm : ∀ p ∈ ow.exm, PySem.W.exmOne K (.ref (G.cad p.1.1)) (.ref (G.cad p.1.2)) = some p.2
  fvs : ∀ p ∈ ow.fvs, ∀ q ∈ p.2, FvSh K G fdF ds p.1.1 p.1.2 q.1 q.2
  eqs : ∀ c ∈ ow.eqs, EqC K (G.cad c)
section
variable {P : Program} {w : World} {K : PySem.W.Frag} {mg : Str → Option Value} {base : Heap} {G : Wd} {fdF : Nat → FuncData} {ds : List DefT} {bs : List FnE} {gl : List (Str × Gv)} {calls : List (CKey × (Nat × List PArg))} {kit : Kit} {ow : Own0}
theorem no_fn {k : Nat} {fa : Addr} {fd : FuncData} {ps : List Str} : FnG P w K mg base (L2.CX P w) k fa fd ps (spOf K G ps.length (fun _ _ _ _ => False)) :=
  ⟨fun vs H Q E q => q.1, fun A outer s H args us vs Q E hr e0 hb hv hs => by
    obtain ⟨_, ws, S, Q0, E0, _, _, c, _⟩ := hs
    exact c.elim⟩
theorem fn_ok (T : TabOk P w K mg G fdF ds bs gl calls kit ow) : ∀ (k f : Nat) (D : DefT), ds[f]? = some D →
    FnG P w K mg base (L2.CX P w) (4 * k + 1) (He.fAd K D.d.at_) (fdF f) D.ps (spOf K G D.ps.length ((semN bs k).call f))
  | 0, f, D, h => no_fn
  | k + 1, f, D, h => by
    have S0 := fsB_ok (T.sc f D h)
    refine fng_of (T.fd f D h) S0 (fun vs H Q E q => q.1) fun cdv A outer s H vs Q E hr hsp => ?_
    obtain ⟨hl, ws, S, Q0, E0, rw, rs, c, hq, he⟩ := hsp
    obtain ⟨n, b, hb, hc⟩ := T.co f D h
    have c1 : ws.length = D.ps.length ∧ b (semN bs k) (endW Q0 E0) (startW D.N.length ws) S := by
      unfold semN at c
      simp only [hb] at c
      exact c
    have fm : ∀ (f : Nat) (D : DefT), ds[f]? = some D → FnG P w K mg base (L2.CX P w) (4 * k) (He.fAd K D.d.at_) (fdF f) D.ps (spOf K G D.ps.length ((semN bs k).mk_ f)) := fun f D h => by
      cases k with
      | zero => exact no_fn
      | succ j => exact (fn_ok T j f D h).mono (by omega)
    refine ⟨liftS K G (fun cls d _ H' => E cls d H') (b (semN bs k)), ?_, startW D.N.length ws, S, endW Q0 E0, start_rel rw, rs, c1.2, ?_⟩
    · have O : OkX (Cg.of gl calls kit ow D.N D.d.scope) G (semN bs k) (cxOf (L2.CX P w) P w K mg base D.N D.d.qual D.d.scope (He.fAd K D.d.at_) cdv A outer s H E) (fun cls d _ H' => E cls d H') := by
        refine ⟨rfl, S0.nd, rfl, S0.kind, rfl, ?_, hr.gd, takes_of rfl rfl rfl rfl, fun _ _ => rfl, T.kit, fun p hp => ?_, fun p hp => ?_, T.flds, fun p hp => ?_, fun p hp q hq => ?_, fun p hp => ?_, T.xfl, T.exm, fun p hp q hq => ?_, T.eqs⟩
        · have := hr.r.un
          show (A.deeper _).units + 65 < cLine
          omega
        · have q := T.gl p hp
          cases e : p.2 <;> rw [e] at q <;> exact q
        · obtain ⟨D2, g, gV, h2, hm, hk, hb2, hl2, hp2⟩ := (T.calls p hp).ex
          exact ⟨⟨_, _, D2.ps, 4 * k + 1, g, gV, fn_ok T k _ D2 h2, hr.mono (by omega), hm, hk, hb2, hl2, hp2⟩⟩
        · obtain ⟨hm, fa, M, ⟨D2, g, gV, h2, rfl, hb2, hl2, hp2⟩⟩ := T.mks p hp
          exact ⟨⟨_, _, D2.ps, 4 * k, g, gV, M, fm _ D2 h2, hr.mono (by omega), hm, hb2, hl2, hp2⟩⟩
        · obtain ⟨hc2, fa, M, ⟨D2, g, gV, h2, rfl, hb2, hl2, hp2⟩⟩ := T.mts p hp q hq
          exact ⟨⟨_, _, D2.ps, 4 * k + 1, g, gV, hc2, M, fn_ok T k _ D2 h2, hr.mono (by omega), hb2, hl2, hp2⟩⟩
        · obtain ⟨fI, fd2, ps2, T2, iC, tI, F, b2, m2, l2, l3⟩ := (T.exs p hp).ex
          exact ⟨⟨fI, fd2, ps2, 1, T2, iC, tI, F _, hr.r.mono (by omega), b2, m2, l2, l3⟩⟩
        · obtain ⟨D2, g, gV, h2, hm, hk, hb2, hl2, hp2⟩ := (T.fvs p hp q hq).ex
          exact ⟨⟨_, D2.ps, 4 * k + 1, g, gV, by rw [hm]; exact fn_ok T k _ D2 h2, hr.mono (by omega), by rw [hm]; exact hk, hb2, hl2, hp2⟩⟩
      exact ssOf_ok (cmpS_ok n O (passes_of rfl) ⟨rfl, rfl, rfl⟩) (hc _)
    · exact ⟨fun σw S' q σ H' a b t => hq _ _ q _ _ (rw_non.mpr rfl) b t, hq, fun _ _ q => q.elim, fun _ _ q => q.elim, fun e σw S' q σ d H' fs a b c d2 t => he e S' q d H' fs b c d2 t⟩
end
/-! ### binding -/
def pickL {α : Type} (is : List Nat) (l : List α) : List α := is.filterMap (l[·]?)
theorem Vals.get2 {vs : List V} {us : List Value} (r : Vals vs us) (i : Nat) : (vs[i]? = none ∧ us[i]? = none) ∨ ∃ v u, vs[i]? = some v ∧ us[i]? = some u ∧ RelV v u := by
  have hl := r.length
  cases e : vs[i]? with
  | none =>
    refine .inl ⟨rfl, ?_⟩
    rw [List.getElem?_eq_none_iff] at e ⊢
    omega
  | some v =>
    obtain ⟨u, hu, rv⟩ := r.get e
    exact .inr ⟨v, u, rfl, hu, rv⟩
theorem pickL_rel {vs : List V} {us : List Value} (r : Vals vs us) : ∀ is : List Nat, Vals (pickL is vs) (pickL is us)
  | [] => .nil
  | i :: is => by
    have ih := pickL_rel r is
    unfold pickL at ih ⊢
    rw [List.filterMap_cons, List.filterMap_cons]
    rcases Vals.get2 r i with ⟨a, b⟩ | ⟨v, u, a, b, rv⟩
    · rw [a, b]; exact ih
    · rw [a, b]; exact .cons rv ih
theorem mem_pick {α : Type} {ms kws : List α} (is : List Nat) (h : ms = pickL is kws) : ∀ q ∈ ms, q ∈ kws := by
  subst h
  intro q hq
  obtain ⟨i, _, e⟩ := List.mem_filterMap.mp hq
  exact List.mem_of_getElem? e
/-- the i-th of the written arguments, or a default -/
def permOf (n : Nat) (dw : List W) (is : List Nat) : List PArg := is.map fun i => if i < n then .ix i else .df (dw.getD (i - n) .non)
theorem perm_rel {K : PySem.W.Frag} {G : Wd} {H : Hp} {es dw : List W} {vs dv : List V} (r : RWs K G H es vs) (rd : RWs K G H dw dv) : ∀ is : List Nat, (∀ i ∈ is, i < es.length + dw.length) → RWs K G H ((permOf es.length dw is).map (PArg.pick es)) (pickL is (vs ++ dv))
  | [], _ => .nil
  | i :: is, h => by
    have ih := perm_rel r rd is fun j hj => h j (List.mem_cons_of_mem _ hj)
    have hi := h i (List.mem_cons_self ..)
    have ha := r.append rd
    have hlt : i < (es ++ dw).length := by simpa using hi
    obtain ⟨v, e1, r1⟩ := ha.get (List.getElem?_eq_getElem hlt)
    unfold pickL at ih ⊢
    rw [List.filterMap_cons, e1]
    refine .cons ?_ ih
    show RW K G H (PArg.pick es (if i < es.length then .ix i else .df (dw.getD (i - es.length) .non))) v
    by_cases c : i < es.length
    · rw [if_pos c]
      show RW K G H (es.getD i .non) v
      have e : es.getD i .non = (es ++ dw)[i] := by
        rw [List.getElem_append_left c, List.getD_eq_getElem?_getD, List.getElem?_eq_getElem c]; rfl
      rw [e]
      exact r1
    · rw [if_neg c]
      show RW K G H (dw.getD (i - es.length) .non) v
      have c2 : i - es.length < dw.length := by omega
      have e : dw.getD (i - es.length) .non = (es ++ dw)[i] := by
        rw [List.getElem_append_right (by omega), List.getD_eq_getElem?_getD, List.getElem?_eq_getElem c2]; rfl
      rw [e]
      exact r1
theorem pickL_len {α : Type} {l : List α} : ∀ {is : List Nat}, (∀ i ∈ is, i < l.length) → (pickL is l).length = is.length
  | [], _ => rfl
  | i :: is, h => by
    have ih := pickL_len (l := l) (is := is) fun j hj => h j (List.mem_cons_of_mem _ hj)
    unfold pickL at ih ⊢
    rw [List.filterMap_cons, List.getElem?_eq_getElem (h i (List.mem_cons_self ..))]
    show _ + 1 = _ + 1
    rw [ih]
section
variable {K : PySem.W.Frag} {x qual : Str} {params : Arguments} {body : List Stmt} {scope : Scope} {dvs : List V} {kws : List (Str × V)} {f : Addr} {fd : FuncData} {ps : List Str}
/-- the form of what binds -/
def KBp (K : PySem.W.Frag) (fd : FuncData) (ps : List Str) (n : Nat) (ks : List Str) (is : List Nat) (dv : List V) : Prop := ∃ ds : List Value, KBn K fd ps n ks (fun us ws => pickL is ((us ++ ws) ++ ds)) (fun vs zs => pickL is ((vs ++ zs) ++ dv))
theorem kb0 (F : FunD K x qual params body scope [] [] f fd) (n : Nat) (ks : List Str) (is : List Nat)
    (h : ∀ (kV doc pm : Value) (an : Option Addr) (cdv ct : Value) (us ws : List Value), us.length = n → ws.length = ks.length → bindArgs (PySem.W.fnOf x qual params body scope .none kV doc pm an cdv ct) ⟨us, ks.zip ws⟩ = pure (ps.zip (pickL is ((us ++ ws) ++ [])))) : KBp K fd ps n ks is [] := by
  obtain ⟨oc, od, dV, kV, doc, pm, an, cdv, ct, osl, rfl, lk, hcd, hD, hK⟩ := F.ex
  rcases hD with ⟨_, rfl⟩ | ⟨e, _⟩
  · exact ⟨[], ⟨fun s us ws X l1 l2 => .of_eq (h kV doc pm an cdv ct us ws l1 l2), fun r1 r2 => pickL_rel ((r1.append r2).append .nil) is⟩⟩
  · exact absurd rfl e
theorem kb2 (F : FunD K x qual params body scope [] kws f fd) (hk : kws ≠ []) (n : Nat) (ks : List Str) (ms : List (Str × V)) (hms : ∀ q ∈ ms, q ∈ kws) (is : List Nat)
    (h : ∀ (D : Addr) (doc pm : Value) (an : Option Addr) (cdv ct : Value) (us ws mv : List Value), us.length = n → ws.length = ks.length → mv.length = ms.length →
      KwChain D ((ms.map (·.1)).zip mv) (bindArgs (PySem.W.fnOf x qual params body scope .none (.ref D) doc pm an cdv ct) ⟨us, ks.zip ws⟩) (ps.zip (pickL is ((us ++ ws) ++ mv)))) : KBp K fd ps n ks is (ms.map (·.2)) := by
  obtain ⟨mv, b⟩ := F.kbinds0 (ps := ps) n ks ms (fun us mv ws => pickL is ((us ++ ws) ++ mv)) hk hms (fun r1 r2 r3 => pickL_rel ((r1.append r3).append r2) is) (fun D doc pm an cdv ct us mv ws l1 l2 l3 => h D doc pm an cdv ct us ws mv l1 l3 l2)
  exact ⟨mv, b⟩
theorem kb3 (F : FunD K x qual params body scope dvs kws f fd) (hd : dvs ≠ []) (hk : kws ≠ []) (n : Nat) (ks : List Str) (ms : List (Str × V)) (hms : ∀ q ∈ ms, q ∈ kws) (is : List Nat)
    (h : ∀ (T D : Addr) (doc pm : Value) (an : Option Addr) (cdv ct : Value) (us ws its mv : List Value), us.length = n → ws.length = ks.length → its.length = dvs.length → mv.length = ms.length →
      ∃ k, bindArgs (PySem.W.fnOf x qual params body scope (.ref T) (.ref D) doc pm an cdv ct) ⟨us, ks.zip ws⟩ = seqItems? (.ref T) >>= k ∧ KwChain D ((ms.map (·.1)).zip mv) (k (some its.toArray)) (ps.zip (pickL is ((us ++ ws) ++ (its ++ mv))))) : KBp K fd ps n ks is (dvs ++ ms.map (·.2)) := by
  obtain ⟨its, mv, b⟩ := F.kbinds (ps := ps) n ks ms (fun us its mv ws => pickL is ((us ++ ws) ++ (its ++ mv))) hd hk hms (fun r1 r2 r3 r4 => pickL_rel ((r1.append r4).append (r2.append r3)) is) (fun T D doc pm an cdv ct us its mv ws l1 l2 l3 l4 => h T D doc pm an cdv ct us ws its mv l1 l4 l2 l3)
  exact ⟨its ++ mv, b⟩
theorem sh_of {mg : Str → Option Value} {G : Wd} {fdF : Nat → FuncData} {ds : List DefT} {y : Str} {n : Nat} {ks : List Str} {i : Nat} {perm : List PArg} {D : DefT} {is : List Nat} {dw : List W} {dv : List V} (hD : ds[i]? = some D) (hm : mg y = some (.ref (He.fAd K D.d.at_)))
    (hk : PySem.W.keepIn K (.ref (He.fAd K D.d.at_)) = true) (b : KBp K (fdF i) D.ps n ks is dv) (hl : is.length = D.ps.length) (hi : ∀ j ∈ is, j < n + ks.length + dw.length) (hd : ∀ H, RWs K G H dw dv) (hp : perm = permOf (n + ks.length) dw is) : ShOk K mg G fdF ds ((y, n, ks), (i, perm)) := by
  obtain ⟨dd, b⟩ := b
  have hdl : dv.length = dw.length := (hd (fun _ => none)).length.symm
  refine ⟨D, _, _, hD, hm, hk, b, fun vs zs l1 l2 => ?_, fun H es vs zs l1 l2 r => ?_⟩
  · show (pickL is ((vs ++ zs) ++ dv)).length = _
    rw [pickL_len fun j hj => ?_, hl]
    have := hi j hj
    simp only [List.length_append, l1, l2, hdl]
    exact this
  · have l1 : vs.length = n := l1
    have l2 : zs.length = ks.length := l2
    have hes : es.length = n + ks.length := by rw [r.length, List.length_append, l1, l2]
    show RWs K G H (perm.map (PArg.pick es)) (pickL is ((vs ++ zs) ++ dv))
    rw [hp, ← hes]
    exact perm_rel r (hd H) is fun j hj => by rw [hes]; exact hi j hj
theorem mksh_of {G : Wd} {fdF : Nat → FuncData} {ds : List DefT} {n : Nat} {ks : List Str} {i : Nat} {perm : List PArg} {D : DefT} {is : List Nat} {dw : List W} {dv : List V} (hD : ds[i]? = some D)
    (b : KBp K (fdF i) D.ps (n + 1) ks is dv) (hl : is.length = D.ps.length) (hi : ∀ j ∈ is, j < n + 1 + ks.length + dw.length) (hd : ∀ H, RWs K G H dw dv) (hp : perm = permOf (n + 1 + ks.length) dw is) : MkSh K G fdF ds n ks i perm (He.fAd K D.d.at_) := by
  obtain ⟨dd, b⟩ := b
  have hdl : dv.length = dw.length := (hd (fun _ => none)).length.symm
  refine ⟨D, _, _, hD, rfl, b, fun vs zs l1 l2 => ?_, fun H es vs zs l1 l2 r => ?_⟩
  · rw [pickL_len fun j hj => ?_, hl]
    have := hi j hj
    simp only [List.length_append, l1, l2, hdl]
    exact this
  · have hes : es.length = n + 1 + ks.length := by rw [r.length, List.length_append, l1, l2]
    rw [hp, ← hes]
    exact perm_rel r (hd H) is fun j hj => by rw [hes]; exact hi j hj
end
end MP
set_option Elab.async false
set_option linter.all false
set_option maxRecDepth 100000
set_option maxHeartbeats 4000000
namespace MP
open PySem PySem.Spec PyProof.Rows L2
/-! ### the end -/
theorem fn_cx {P : Program} {w : World} {K : PySem.W.Frag} {mg : Str → Option Value} {base : Heap} {CX CX' : CXT} {k : Nat} {f : Addr} {fd : FuncData} {ps : List Str} {sp : Sp} (F : FnG P w K mg base CX k f fd ps sp) (h : ∀ outer H s E e s', CX outer H s E e s' → CX' outer H s E e s') :
    FnG P w K mg base CX' k f fd ps sp :=
  ⟨F.len, fun A outer s H args us vs Q E hr he hb hv hs => codeAny_mono (F.run A outer s H args us vs Q E hr he hb hv hs) fun r s' q => by
    cases r with
    | error e => exact h _ _ _ _ _ _ q
    | ok fl => cases fl <;> exact q⟩
def CXw (P : Program) : CXT := fun outer H s E e s' => ∃ w, L2.CX P w outer H s E e s'
theorem cxw_no {P : Program} (H : Hp) (s : Shared) (e : Value) (s' : Shared) (h : CXw P [] H s (fun _ _ _ => False) e s') : False := by
  obtain ⟨w, a, B, H', cls, d, _, _, _, _, _, _, _, q⟩ := h
  exact q
/-- the law's call, from the promise of its def: nothing is tracked but the script -/
theorem lawG_call {P : Program} {w : World} {K : PySem.W.Frag} {mg mb : Str → Option Value} {CX : CXT} {k : Nat} {fa a : Addr} {fd : FuncData} {x : Str} {sp : Sp} {s₁ : Shared} {vs : List Value} {ns : List Int}
    (KX : K.In s₁.heap) (hns : s₁.heap.Ns mainGlobals mg) (hb : s₁.heap.Ns builtinsNs mb) (hbb : ∀ x : Str, x ≠ "__name__" → mb x = bootBuiltins x) (hlim : s₁.heap.NoLimit) (hg : s₁.gens = #[])
    (ha : s₁.heap.get? a = some { cls := .type "list", data := .seq vs.toArray }) (hi : IntsAre vs ns) (hl : ns.length ≤ sizeLine) (hr : RoomG k callerA)
    (F : ∀ base : Heap, K.In base → base.Ns mainGlobals mg → FnG P w K mg base CX k fa fd [x] sp) (hbind : ∀ (s : Shared) (u : Value), BindsTo s fd ⟨[u], []⟩ [(x, u)])
    (hsp : ∀ H : Hp, Only H → SqL K H a (ns.map V.int) → sp [.ref a] H (fun v _ => v = .bl true) fun _ _ _ => False)
    (hCX : ∀ H e s', CX [] H s₁ (fun _ _ _ => False) e s' → False) :
    codeAny (model P w) callerA (.call (.ref fa) ⟨[.ref a], []⟩) (fun r s' => r = .ok (.ret (.bool true)) ∧ OldK s₁.heap s'.heap ∧ s'.os = s₁.os ∧ AllBare s'.gens) s₁ := by
  have rv := vals_ints hi
  have lenV : vs.length = ns.length := hi.length
  obtain ⟨H, h1, hS⟩ : ∃ H : Hp, (∀ b, H b = none ∨ (b = a ∧ H b = some (.frz { cls := .type "list", data := .seq vs.toArray } (.lst (ns.map V.int))) ∧ K.lookup a = none)) ∧ SqL K H a (ns.map V.int) := by
    cases hk : K.lookup a with
    | some o =>
      have e := KX a o hk
      rw [ha] at e
      cases e
      exact ⟨fun _ => none, fun _ => .inl rfl, .inr ⟨_, vs.toArray, _, hk, rfl, rfl, rfl, by rw [List.size_toArray, lenV]; exact hl, by simpa using rv⟩⟩
    | none =>
      refine ⟨fun b => if b = a then some (.frz { cls := .type "list", data := .seq vs.toArray } (.lst (ns.map V.int))) else none, fun b => ?_, .inl (.inr ⟨{ cls := .type "list", data := .seq vs.toArray }, if_pos rfl⟩)⟩
      by_cases e : b = a
      · exact .inr ⟨e, if_pos e, rfl⟩
      · exact .inl (if_neg e)
  have hok : HOk P w H s₁.heap := fun b u z => by
    rcases h1 b with e | ⟨rfl, e, _⟩
    · rw [e] at z; cases z
    · rw [e] at z
      cases z
      exact ⟨ha, by rw [List.length_map]; exact hl, vs, _, rv, ha⟩
  have gone : ∀ {b : Addr} {o : Obj}, s₁.heap.get? b = some o → (b = a → K.lookup a = none → False) → (hidT s₁.heap H).get? b = some o := fun {b o} e n => by
    rcases h1 b with q | ⟨q, _, q2⟩
    · exact hidT_get e q
    · exact (n q q2).elim
  have nsK : ∀ {b : Addr} {m : Str → Option Value}, s₁.heap.Ns b m → (hidT s₁.heap H).Ns b m := fun {b m} ⟨o, es, ep, e, d, r⟩ => ⟨o, es, ep, gone e (fun q _ => by
    subst q
    rw [ha] at e
    cases e
    exact nomatch d), d, r⟩
  have hKb : K.In (hidT s₁.heap H) := fun b o e => gone (KX b o e) fun q z => by
    subst q
    rw [z] at e
    cases e
  have hM : L2.Mod K mg (hidT s₁.heap H) := ⟨hKb, nsK hns, ⟨mb, nsK hb, hbb⟩, let ⟨mc, m1, m2⟩ := hlim; ⟨mc, nsK m1, m2⟩⟩
  have e0 : Env0 P w K mg (hidT s₁.heap H) callerA [] s₁ H := ⟨rfl, hM, fun b o e => of_hidT e, Nat.le_of_eq (hidT_size _ _), trivial, fun b hb => (List.not_mem_nil hb).elim, hok, .of_eq hg⟩
  have hO : Only H := fun b => (h1 b).elim .inl fun q => .inr ⟨_, _, q.2.1⟩
  refine codeAny_mono ((F _ hKb (nsK hns)).run callerA [] s₁ H ⟨[.ref a], []⟩ [.ref a] [.ref a] _ _ hr e0 (hbind s₁ (.ref a)) (.cons rfl .nil) (hsp H hO hS)) fun r s' h => ?_
  match r, h with
  | .error e, h => exact (hCX H e s' h).elim
  | .ok (.ret u), ⟨v, H', os, bare, un, hok', r', q⟩ =>
    obtain rfl : v = .bl true := q
    obtain rfl : u = Value.bool true := r'
    refine ⟨rfl, OldK.of_keep fun b o e => ?_, os, bare⟩
    rcases h1 b with z | ⟨_, z, _⟩
    · exact un.keep b o e z (fun y => (List.not_mem_nil y).elim) (by simp)
    · obtain ⟨e1, _⟩ := hok b _ z
      obtain ⟨e2, _⟩ := hok' b _ (un.frzs b _ _ z)
      rw [e] at e1
      cases e1
      exact e2
theorem walkG {l : PySem.W.OpenLaw} {n k : Nat} {q : Program} {loose : List Str} {XP : (Str → Option Value) → Heap → Prop} {YP : World → Heap → Prop} {d : DefRec} {CX : CXT} {x : Str}
    (hn : l.most = some n) (hn2 : n ≤ sizeLine) (hdf : d.params.defaults = []) (hr : Room k callerA)
    (F : ∀ (w : World) (mg : Str → Option Value) (fa : Addr) (h : Heap), YP w h → h.Ns mainGlobals mg → mg d.name = some (.ref fa) →
      ∃ (K : PySem.W.Frag) (fd : FuncData) (sp : Sp), K.In h ∧ (∀ (s : Shared) (u : Value), BindsTo s fd ⟨[u], []⟩ [(x, u)]) ∧
        (∀ (H : Hp) (a : Addr) (ns : List Int), ns.length ≤ n → Only H → SqL K H a (ns.map V.int) → sp [.ref a] H (fun v _ => v = .bl true) fun _ _ _ => False) ∧
        ∀ base : Heap, K.In base → base.Ns mainGlobals mg → FnG l.prog w K mg base CX k fa fd [x] sp)
    (hCX : ∀ (H : Hp) (s : Shared) (e : Value) (s' : Shared), CX [] H s (fun _ _ _ => False) e s' → False) :
    PySem.W.WalkO q loose XP YP l.row.toRowW d [] (fun f vs => PySem.call f vs) :=
  Att.attach_call hn hdf fun w s₀ s₁ mg mb fa o pm cd doc a vs ns G Y ho hd hcd hmg hobj hints hlen hg =>
    let ⟨K, fd, sp, KX, hb, hsp, hF⟩ := F w mg fa _ Y G.T.g hmg
    lawG_call KX G.T.g G.T.b G.T.builtins G.T.nolimit hg hobj hints (Nat.le_trans hlen hn2) ⟨hr, rfl⟩ hF hb (fun H hO hS => hsp H a ns hlen hO hS) fun H e s' => hCX H s₁ e s'
/-- the script -/
def Script (sv : W) (S : Store) (ns : List Int) : Prop := sv = .kls (ns.map W.int) ∨ ∃ a, sv = .ref a ∧ S a = some (.frz (ns.map W.int))
theorem Script.items {sv : W} {S : Store} {ns : List Int} (h : Script sv S ns) : items? S sv = some (ns.map W.int) := by
  rcases h with rfl | ⟨a, rfl, e⟩
  · rfl
  · simp only [items?, e]
theorem law_sp {K : PySem.W.Frag} {G : Wd} {n : Nat} {c : List W → Store → WP → XP → Prop} (h : ∀ sv S ns, ns.length ≤ n → Script sv S ns → c [sv] S (fun w _ => w = .bl true) (fun _ _ => False)) (H : Hp) (a : Addr) (ns : List Int) (hl : ns.length ≤ n) (hO : Only H)
    (hS : SqL K H a (ns.map V.int)) : spOf K G 1 c [.ref a] H (fun v _ => v = .bl true) fun _ _ _ => False := by
  have fin : ∀ w S', w = W.bl true → Lf K G H (fun v _ => v = .bl true) w S' := fun w S' e v H' r rs tp => by
    subst e
    rw [rw_bl] at r
    exact r
  rcases hS with hS | ⟨o, its, m, lk, ho, hd, hdt, hz, r⟩
  · have e : ∃ o, H a = some (.frz o (.lst (ns.map V.int))) := by
      rcases hS with e | e
      · rcases hO a with z | ⟨o, xs, z⟩
        · rw [e] at z; cases z
        · rw [e] at z; cases z
      · exact e
    obtain ⟨o, e⟩ := e
    refine ⟨rfl, [.ref a], fun b => if b = a then some (.frz (ns.map W.int)) else none, _, _, .cons (rw_ref.mpr rfl) .nil, ?_, h (.ref a) _ ns hl (.inr ⟨a, rfl, if_pos rfl⟩), fun w S' q => fin w S' q, fun e S' q => q.elim⟩
    intro b x hb
    have hb : (if b = a then some (O.frz (ns.map W.int)) else none) = some x := hb
    split at hb
    · rename_i e2
      cases hb
      subst e2
      exact ⟨_, e, o, _, rfl, RWs.ints.mpr rfl⟩
    · cases hb
  · refine ⟨rfl, [.kls (ns.map W.int)], fun _ => none, _, _, .cons (rw_kls.mpr ⟨a, ns.map V.int, rfl, ⟨o, its, m, lk, ho, hd, hdt, hz, r⟩, RWs.ints.mpr rfl⟩) .nil, ?_, h _ _ ns hl (.inl rfl), fun w S' q => fin w S' q, fun e S' q => q.elim⟩
    intro b x hb
    cases hb
/-! ### more facts of the head -/
def tupAtB (p : PySem.W.Frag → Addr) (vs : List He.Dv) (K : PySem.W.Frag) : Bool := match K.lookup (p K) with
  | some ⟨.type c, _, .seq its _, _⟩ => decide (c = "tuple") && (decide (its.size ≤ sizeLine) && He.relAll (vs.map (He.Dv.v K)) its.toList)
  | _ => false
theorem tupAtB_ok {p : PySem.W.Frag → Addr} {vs : List He.Dv} {K : PySem.W.Frag} (h : tupAtB p vs K = true) (H : Hp) : TupAt K H (p K) (vs.map (He.Dv.v K)) := by
  unfold tupAtB at h
  split at h
  · rename_i c dd its n sl e
    simp only [Bool.and_eq_true, decide_eq_true_eq] at h
    obtain ⟨rfl, h2, h3⟩ := h
    exact .inr ⟨dd, its, n, sl, e, h2, He.relAll_ok h3⟩
  · cases h
/-- where a keyword-only default stands -/
def kwdAt (f : Str × Option Str) (x : Str) (K : PySem.W.Frag) : Addr := match K.lookup (He.fAd K f) with
  | some ⟨_, _, .func fd, _⟩ => (match fd.kwdefaults with
    | .ref D => (match PySem.W.nsIn K D x with
      | some (some (.ref a)) => a
      | _ => 0)
    | _ => 0)
  | _ => 0
/-- the dicts of the module: where, their keys -/
abbrev DTab := (PySem.W.Frag → Addr) × List Key
abbrev AlM : Type := He.AlD × Bool × List (Option (List (Option (Key × Int))))
def SaysX (fa : List He.Fa) (fn : List He.DefD) (gs : List (PySem.W.Frag → Bool)) (ts : List DTab) (w : World) (K : PySem.W.Frag) : Prop := ((He.obsD fa fn K, (gs.all fun q => q K), ts.map fun (p : DTab) => dicKW K (p.1 K)) : AlM) = (He.valD fn, true, ts.map fun (p : DTab) => some (keysW w p.2))
def obsX (n : Nat) (fa : List He.Fa) (fn : List He.DefD) (gs : List (PySem.W.Frag → Bool)) (ts : List DTab) (g : Addr → Option Obj) : AlM := (He.obsD fa fn (He.frG g (He.asD g n)), (gs.all fun q => q (He.frG g (He.asD g n))), ts.map fun (p : DTab) => dicKW (He.frG g (He.asD g n)) (p.1 (He.frG g (He.asD g n))))
def hookX (n : Nat) (fa : List He.Fa) (fn : List He.DefD) (gs : List (PySem.W.Frag → Bool)) (ts : List DTab) : PySem.W.Hook where
  α := AlM
  obs := fun s => obsX n fa fn gs ts s.heap.get?
  val := fun w => (He.valD fn, true, ts.map fun (p : DTab) => some (keysW w p.2))
  says := fun w h => ∃ K : PySem.W.Frag, K.In h ∧ SaysX fa fn gs ts w K
  of := fun w s e => ⟨He.frG s.heap.get? (He.asD s.heap.get? n), He.frG_in, e⟩
  keeps := fun _ _ _ ⟨K, hK, c⟩ k => ⟨K, PySem.W.Frag.In.keeps hK k, c⟩
theorem obsX_eq {n : Nat} {fa : List He.Fa} {fn : List He.DefD} {gs : List (PySem.W.Frag → Bool)} {ts : List DTab} {g : Addr → Option Obj} {s : Shared} (h : ∀ a, g a = s.heap.get? a) : obsX n fa fn gs ts g = (hookX n fa fn gs ts).obs s := by
  have e : g = s.heap.get? := funext h
  rw [e] <;> rfl
section
variable {fa : List He.Fa} {fn : List He.DefD} {gs : List (PySem.W.Frag → Bool)} {ts : List DTab} {w : World} {K : PySem.W.Frag}
theorem SaysX.d (c : SaysX fa fn gs ts w K) : He.SaysD fa fn K := congrArg (fun z : AlM => z.1) c
theorem SaysX.g (c : SaysX fa fn gs ts w K) (i : Nat) {q : PySem.W.Frag → Bool} (h : gs[i]? = some q) : q K = true := by
  have e : (gs.all fun q => q K) = true := congrArg (fun z : AlM => z.2.1) c
  exact List.all_eq_true.mp e q (List.mem_of_getElem? h)
theorem SaysX.t (c : SaysX fa fn gs ts w K) (i : Nat) {p : DTab} (h : ts[i]? = some p) : dicKW K (p.1 K) = some (keysW w p.2) := by
  have e : (ts.map fun (p : DTab) => dicKW K (p.1 K)) = ts.map fun (p : DTab) => some (keysW w p.2) := congrArg (fun z : AlM => z.2.2) c
  have e2 : (ts.map fun (p : DTab) => dicKW K (p.1 K))[i]? = (ts.map fun (p : DTab) => some (keysW w p.2))[i]? := by rw [e]
  rw [List.getElem?_map, List.getElem?_map, h] at e2
  exact Option.some.inj e2
end
/-! ### what the head tells of exceptions' classes -/
def lkB (a b : Option (Option Value)) : Bool := decide (a = b)
/-- the class stands as such a class does -/
def exShape (K : PySem.W.Frag) (C : Addr) : Bool := match K.lookup C with
  | some ⟨.type "type", _, .cls cd, sl⟩ => (match cd.mro, sl.toList with
    | .ref C' :: bm, [_, _, _, _, some (.builtin n), _] => decide (C' = C) && (decide (n = "ValueError.__new__") && (!cd.hasDel && (cd.hasDict && HandSPX.refsVE bm)))
    | _, _ => false)
  | _ => false
def excB (K : PySem.W.Frag) (C : Addr) : Bool := lkB (PySem.W.findIn K (.ref C) "__getattribute__") (some (some (.builtin "BaseException.__getattribute__"))) && (lkB (PySem.W.findIn K (.ref C) "__getattr__") (some none) &&
  (decide (PySem.W.subIn K (.ref C) (.type "BaseException") = some true) && (PySem.W.hasDictIn K C && (lkB (PySem.W.findIn K (.ref C) "__class__") (some (some (.builtin "object.__class__"))) &&
  (lkB (PySem.W.specialIn K (.builtin "object.__class__") "__get__") (some (some (.builtin "getset_descriptor.__get__"))) && (decide (PySem.W.takesIn K (.builtin "object.__class__") = some true) && decide (PySem.W.mroIn K C (.type "object") = some true)))))))
theorem excB_ok {K : PySem.W.Frag} {C : Addr} (h : excB K C = true) : ExcC K C := by
  unfold excB lkB at h
  simp only [Bool.and_eq_true, decide_eq_true_eq] at h
  obtain ⟨h1, h2, h3, h4, h5, h6, h7, h8⟩ := h
  exact ⟨h1, h2, h3, h4, h5, h6, h7, h8⟩
def veB (K : PySem.W.Frag) : Bool := match PySem.W.findCls K (.type "ValueError") (.type "type") "__init__" with
  | some (.val (.builtin n)) => decide (n = "ValueError.__init__")
  | _ => false
theorem veB_ok {K : PySem.W.Frag} (h : veB K = true) : PySem.W.findCls K (.type "ValueError") (.type "type") "__init__" = some (.val (.builtin "ValueError.__init__")) := by
  unfold veB at h
  split at h
  · rename_i n e
    rw [decide_eq_true_eq] at h
    rw [e, h]
  · cases h
def exB (x : Str) (ks : List Str) (K : PySem.W.Frag) : Bool := exShape K (He.ga K x) && (lkB (PySem.W.findIn K (.ref (He.ga K x)) "__setattr__") (some (some (.builtin "object.__setattr__"))) && (decide (PySem.W.subIn K (.ref (He.ga K x)) (.type "BaseException") = some true) &&
  (decide (PySem.W.typeIn K (.ref (He.ga K x)) = some (.type "type")) && (PySem.W.keepIn K (.ref (He.ga K x)) && (lkB (PySem.W.findIn K (.ref (He.ga K x)) "__init__") (some (some (.ref (He.ma K (He.ga K x) "__init__")))) &&
  (decide (PySem.W.typeIn K (.ref (He.ma K (He.ga K x) "__init__")) = some (.type "function")) && (ks.all (fun f => lkB (PySem.W.findIn K (.ref (He.ga K x)) f) (some none)) &&
  (veB K && excB K (He.ga K x)))))))))
structure ExF (K : PySem.W.Frag) (C : Addr) (fI : Addr) (ks : List Str) : Prop where
  o : OexC K C
  i : PySem.W.findIn K (.ref C) "__init__" = some (some (.ref fI))
  t : PySem.W.typeIn K (.ref fI) = some (.type "function")
  no : ∀ f ∈ ks, PySem.W.findIn K (.ref C) f = some none
  v : PySem.W.findCls K (.type "ValueError") (.type "type") "__init__" = some (.val (.builtin "ValueError.__init__"))
  e : ExcC K C
theorem exB_ok {x : Str} {ks : List Str} {K : PySem.W.Frag} (h : exB x ks K = true) : ExF K (He.ga K x) (He.ma K (He.ga K x) "__init__") ks := by
  unfold exB lkB at h
  simp only [Bool.and_eq_true, decide_eq_true_eq, List.all_eq_true] at h
  obtain ⟨h1, h2, h3, h4, h5, h6, h7, h8, h9, h10⟩ := h
  refine ⟨⟨?_, h2, h3, h4, h5⟩, h6, h7, h8, veB_ok h9, excB_ok h10⟩
  unfold exShape at h1
  split at h1
  · rename_i dd cd sl ho
    split at h1
    · rename_i C' bm k0 k1 k2 k3 n k5 hm hs
      simp only [Bool.and_eq_true, decide_eq_true_eq, Bool.not_eq_true'] at h1
      obtain ⟨rfl, rfl, hdel, hdc, hre⟩ := h1
      obtain ⟨nm, bs, mro, ns, qn, hd, sn, sub, ab, col, del⟩ := cd
      dsimp only at hm hdel hdc
      subst hm hdel hdc
      have hsl : sl = #[k0, k1, k2, k3, some (.builtin "ValueError.__new__"), k5] := by
        obtain ⟨l⟩ := sl
        simp only at hs
        rw [hs]
      subst hsl
      exact ⟨nm, qn, ns, bs, bm, sn, sub, ab, col, dd, k0, k1, k2, k3, k5, ho, hre⟩
    · cases h1
  · cases h1
def storeB (s : Str) : List Stmt → Option (List Str)
  | [] => some []
  | .Assign [.Attribute (.Name s' _) f _] (.Name g _) _ :: r => if s' = s ∧ g = f then (storeB s r).map (f :: ·) else none
  | _ => none
def initB : List Stmt → Option (Str × List Str)
  | .Expr (.Call (.Attribute (.Name x _) m p2) [.Name s _, .Constant (.str _) _ _] [] p5) _ :: r => if x = ("ValueError" : Str) ∧ m = ("__init__" : Str) ∧ (p2.endLine == p5.line) = true then (storeB s r).map (s, ·) else none
  | _ => none
theorem storeB_ok {s : Str} : ∀ {sts : List Stmt} {ks : List Str}, storeB s sts = some ks → Stores s ks sts := by
  intro sts
  induction sts with
  | nil =>
    intro ks h
    cases h
    exact .nil
  | cons st r ih =>
    intro ks h
    unfold storeB at h
    split at h
    · rename_i e
      cases e
    · rename_i s' p1 f p2 g p3 p4 r' e
      cases e
      split at h
      · rename_i c
        obtain ⟨rfl, rfl⟩ := c
        cases q : storeB s' r with
        | none => rw [q] at h; cases h
        | some l =>
          rw [q] at h
          cases h
          exact .cons (ih q)
      · cases h
    · cases h
theorem exm_of {P : Program} {w : World} {K : PySem.W.Frag} {mg : Str → Option Value} {x : Str} {ks : List Str} {D : DefT} {fd : FuncData} {C fI : Addr} {s : Str} (F : ExF K C fI ks) (fn : FunD K D.d.name D.d.qual D.d.params D.d.body D.d.scope (D.d.dvs K) (D.d.kws K) fI fd) (S : FnScope (s :: ks) (s :: ks) D.d.scope)
    (hi : initB D.d.body = some (s, ks)) (hg : D.d.scope.names.lookup ("ValueError" : Str) = some .globalImplicit) (hv : mg "ValueError" = none) (hm : mg x = some (.ref C)) (h0 : ks ≠ []) (h9 : ks.length ≤ 900)
    (hd : ∀ f ∈ s :: ks, (f == ("__debug__" : Str)) = false ∧ (f == ("__classdict__" : Str)) = false) (hb : Binds K fd (s :: ks) []) : ExM P w K mg C x ks := by
  refine ⟨fI, fd, s :: ks, F.o, F.i, F.t, fun base => ?_, hb, hm, ?_, h9⟩
  · generalize eb : D.d.body = body at hi fn
    unfold initB at hi
    split at hi
    · rename_i y p1 m p2 s' p3 z j p4 p5 p6 r
      split at hi
      · rename_i c
        obtain ⟨rfl, rfl, hln⟩ := c
        cases q : storeB s' r with
        | none => rw [q] at hi; cases hi
        | some l =>
          rw [q] at hi
          cases hi
          exact exi_ok hln fn S F.o (storeB_ok q) hg hv F.v h0 h9 hd F.no
      · cases hi
    · cases hi
  · cases ks with
    | nil => exact absurd rfl h0
    | cons _ _ => simp
/-- a table for isinstance -/
def kitX (tab : List ((Tyc × Tyc) × Bool)) : Kit := ⟨fun t d => lk tab (t, d)⟩
theorem kitX_ok {K : PySem.W.Frag} {G : Wd} {tab : List ((Tyc × Tyc) × Bool)} (h1 : ∀ p ∈ tab, PySem.W.kitOne K (p.1.1.v G) (p.1.2.v G) = some p.2) (h2 : ∀ p ∈ tab, ∀ c, p.1.1 = .cls c → OwnC K (G.cad c)) (h3 : ∀ p ∈ tab, ∀ c, p.1.1 = .exc c → ExcC K (G.cad c)) : KitOk K G (kitX tab) :=
  ⟨fun t d b e => h1 _ (lk_mem e), fun c d b e => h2 _ (lk_mem e) c rfl, fun c d b e => h3 _ (lk_mem e) c rfl⟩
/-- a fact of the table -/
def kitB1 (a b : PySem.W.Frag → Value) (r : Bool) (K : PySem.W.Frag) : Bool := decide (PySem.W.kitOne K (a K) (b K) = some r)
theorem kitB1_ok {a b : PySem.W.Frag → Value} {r : Bool} {K : PySem.W.Frag} (h : kitB1 a b r K = true) : PySem.W.kitOne K (a K) (b K) = some r := of_decide_eq_true h
def exmB (x y : Str) (r : Bool) (K : PySem.W.Frag) : Bool := decide (PySem.W.exmOne K (.ref (He.ga K x)) (.ref (He.ga K y)) = some r)
theorem exmB_ok {x y : Str} {r : Bool} {K : PySem.W.Frag} (h : exmB x y r K = true) : PySem.W.exmOne K (.ref (He.ga K x)) (.ref (He.ga K y)) = some r := of_decide_eq_true h
def ownB (x : Str) (K : PySem.W.Frag) : Bool := lkB (PySem.W.findIn K (.ref (He.ga K x)) "__class__") (some (some (.builtin "object.__class__"))) && (lkB (PySem.W.specialIn K (.builtin "object.__class__") "__get__") (some (some (.builtin "getset_descriptor.__get__"))) &&
  (decide (PySem.W.takesIn K (.builtin "object.__class__") = some true) && decide (PySem.W.mroIn K (He.ga K x) (.type "object") = some true)))
theorem ownB_ok {x : Str} {K : PySem.W.Frag} (h : ownB x K = true) (c : Cls K (He.ga K x)) : OwnC K (He.ga K x) := by
  unfold ownB lkB at h
  simp only [Bool.and_eq_true, decide_eq_true_eq] at h
  obtain ⟨h1, h2, h3, h4⟩ := h
  exact ⟨c, h1, h2, h3, h4⟩
end MP
set_option Elab.async false
set_option linter.all false
set_option maxRecDepth 100000
set_option maxHeartbeats 0
namespace MP
open PySem PySem.Spec PyProof.Rows L2
def top (i : Nat) : Stmt := PySem.Challenge.pw_slipwire_k38_sizes_and_every.main.body.getD i (.Pass ⟨0, 0, 0, 0⟩)
def ktab : List ((Tyc × Tyc) × Bool) := [((.cls 4, .cls 4), true), ((.cls 5, .cls 4), false), ((.ty "NoneType", .cls 4), false), ((.ty "bool", .cls 4), false), ((.ty "int", .cls 4), false), ((.ty "str", .cls 4), false), ((.ty "list", .cls 4), false), ((.ty "tuple", .cls 4), false), ((.cls 4, .cls 5), false), ((.cls 5, .cls 5), true), ((.ty "NoneType", .cls 5), false), ((.ty "bool", .cls 5), false), ((.ty "int", .cls 5), false), ((.ty "str", .cls 5), false), ((.ty "list", .cls 5), false), ((.ty "tuple", .cls 5), false), ((.cls 4, .ty "list"), false), ((.cls 4, .ty "tuple"), false), ((.cls 4, .ty "int"), false), ((.cls 4, .ty "bool"), false), ((.cls 4, .ty "str"), false), ((.cls 5, .ty "list"), false), ((.cls 5, .ty "tuple"), false), ((.cls 5, .ty "int"), false), ((.cls 5, .ty "bool"), false), ((.cls 5, .ty "str"), false)]
def kt : Kit := kitX ktab
def D0 : DefT := ⟨⟨("is_number", none), "is_number", "is_number", defArgs (top 2), defBody (top 2), defScope (top 2), [], []⟩, ["thing"], ["thing"]⟩
def D1 : DefT := ⟨⟨("is_byte", none), "is_byte", "is_byte", defArgs (top 3), defBody (top 3), defScope (top 3), [], []⟩, ["thing"], ["thing"]⟩
def D2 : DefT := ⟨⟨("are_codes", none), "are_codes", "are_codes", defArgs (top 4), defBody (top 4), defScope (top 4), [], []⟩, ["thing"], ["thing", "one"]⟩
def D3 : DefT := ⟨⟨("is_fault", none), "is_fault", "is_fault", defArgs (top 11), defBody (top 11), defScope (top 11), [], []⟩, ["thing"], ["thing"]⟩
def D4 : DefT := ⟨⟨("is_sign", none), "is_sign", "is_sign", defArgs (top 33), defBody (top 33), defScope (top 33), [], []⟩, ["thing"], ["thing"]⟩
def D5 : DefT := ⟨⟨("is_words", none), "is_words", "is_words", defArgs (top 34), defBody (top 34), defScope (top 34), [], []⟩, ["thing"], ["thing", "sign"]⟩
def D6 : DefT := ⟨⟨("sign_bytes", none), "sign_bytes", "sign_bytes", defArgs (top 35), defBody (top 35), defScope (top 35), [], []⟩, ["sign"], ["sign", "last"]⟩
def D7 : DefT := ⟨⟨("words_bytes", none), "words_bytes", "words_bytes", defArgs (top 36), defBody (top 36), defScope (top 36), [], []⟩, ["words"], ["words", "sign", "byte"]⟩
def D8 : DefT := ⟨⟨("bytes_behind", none), "bytes_behind", "bytes_behind", defArgs (top 37), defBody (top 37), defScope (top 37), [], []⟩, ["first"], ["first"]⟩
def D9 : DefT := ⟨⟨("may_begin", none), "may_begin", "may_begin", defArgs (top 38), defBody (top 38), defScope (top 38), [], []⟩, ["byte"], ["byte"]⟩
def D10 : DefT := ⟨⟨("may_follow", none), "may_follow", "may_follow", defArgs (top 39), defBody (top 39), defScope (top 39), [], []⟩, ["begun", "byte"], ["begun", "byte", "least", "most"]⟩
def D11 : DefT := ⟨⟨("sign_of", none), "sign_of", "sign_of", defArgs (top 40), defBody (top 40), defScope (top 40), [], []⟩, ["codes"], ["codes", "first", "rest", "found", "byte"]⟩
def D12 : DefT := ⟨⟨("Signs", some "__init__"), "__init__", "Signs.__init__", defArgs (inClass (top 41) 0), defBody (inClass (top 41) 0), defScope (inClass (top 41) 0), [], []⟩, ["self"], ["self"]⟩
def D13 : DefT := ⟨⟨("Signs", some "put"), "put", "Signs.put", defArgs (inClass (top 41) 1), defBody (inClass (top 41) 1), defScope (inClass (top 41) 1), [], []⟩, ["self", "byte"], ["self", "byte", "fits", "sign"]⟩
def D14 : DefT := ⟨⟨("Signs", some "how_many"), "how_many", "Signs.how_many", defArgs (inClass (top 41) 2), defBody (inClass (top 41) 2), defScope (inClass (top 41) 2), [], []⟩, ["self"], ["self"]⟩
def D15 : DefT := ⟨⟨("Signs", some "is_whole"), "is_whole", "Signs.is_whole", defArgs (inClass (top 41) 3), defBody (inClass (top 41) 3), defScope (inClass (top 41) 3), [], []⟩, ["self"], ["self"]⟩
def D16 : DefT := ⟨⟨("Signs", some "words"), "words", "Signs.words", defArgs (inClass (top 41) 4), defBody (inClass (top 41) 4), defScope (inClass (top 41) 4), [], []⟩, ["self"], ["self"]⟩
def D17 : DefT := ⟨⟨("Signs", some "__len__"), "__len__", "Signs.__len__", defArgs (inClass (top 41) 5), defBody (inClass (top 41) 5), defScope (inClass (top 41) 5), [], []⟩, ["self"], ["self"]⟩
def D18 : DefT := ⟨⟨("Signs", some "__eq__"), "__eq__", "Signs.__eq__", defArgs (inClass (top 41) 6), defBody (inClass (top 41) 6), defScope (inClass (top 41) 6), [], []⟩, ["self", "other"], ["self", "other"]⟩
def D19 : DefT := ⟨⟨("Signs", some "__str__"), "__str__", "Signs.__str__", defArgs (inClass (top 41) 7), defBody (inClass (top 41) 7), defScope (inClass (top 41) 7), [], []⟩, ["self"], ["self", "texts", "sign"]⟩
def D20 : DefT := ⟨⟨("Signs", some "__repr__"), "__repr__", "Signs.__repr__", defArgs (inClass (top 41) 8), defBody (inClass (top 41) 8), defScope (inClass (top 41) 8), [], []⟩, ["self"], ["self"]⟩
def D21 : DefT := ⟨⟨("words_in", none), "words_in", "words_in", defArgs (top 42), defBody (top 42), defScope (top 42), [], []⟩, ["codes"], ["codes", "signs", "byte"]⟩
def D22 : DefT := ⟨⟨("is_mask", none), "is_mask", "is_mask", defArgs (top 45), defBody (top 45), defScope (top 45), [], []⟩, ["thing"], ["thing", "one"]⟩
def D23 : DefT := ⟨⟨("masked", none), "masked", "masked", defArgs (top 46), defBody (top 46), defScope (top 46), [], [("start", (.int 0))]⟩, ["codes", "mask", "start"], ["codes", "mask", "start", "place", "byte"]⟩
def D24 : DefT := ⟨⟨("size_bytes", none), "size_bytes", "size_bytes", defArgs (top 52), defBody (top 52), defScope (top 52), [], []⟩, ["size"], ["size", "above", "low", "high", "middle"]⟩
def D25 : DefT := ⟨⟨("is_control", none), "is_control", "is_control", defArgs (top 64), defBody (top 64), defScope (top 64), [], []⟩, ["sort"], ["sort"]⟩
def D26 : DefT := ⟨⟨("is_mask_or_none", none), "is_mask_or_none", "is_mask_or_none", defArgs (top 65), defBody (top 65), defScope (top 65), [], []⟩, ["thing"], ["thing"]⟩
def D27 : DefT := ⟨⟨("wrong_part", none), "wrong_part", "wrong_part", defArgs (top 66), defBody (top 66), defScope (top 66), [], []⟩, ["kind", "talk", "data", "last", "mask"], ["kind", "talk", "data", "last", "mask"]⟩
def D28 : DefT := ⟨⟨("Slip", some "__init__"), "__init__", "Slip.__init__", defArgs (inClass (top 67) 0), defBody (inClass (top 67) 0), defScope (inClass (top 67) 0), [(.adr (He.dflAt ("Slip", some "__init__") 0))], [("last", (.bl true)), ("mask", .non)]⟩, ["self", "kind", "talk", "data", "last", "mask"], ["self", "kind", "talk", "data", "last", "mask", "part"]⟩
def D29 : DefT := ⟨⟨("Slip", some "__len__"), "__len__", "Slip.__len__", defArgs (inClass (top 67) 1), defBody (inClass (top 67) 1), defScope (inClass (top 67) 1), [], []⟩, ["self"], ["self"]⟩
def D30 : DefT := ⟨⟨("Slip", some "__eq__"), "__eq__", "Slip.__eq__", defArgs (inClass (top 67) 2), defBody (inClass (top 67) 2), defScope (inClass (top 67) 2), [], []⟩, ["self", "other"], ["self", "other", "mine"]⟩
def D31 : DefT := ⟨⟨("Slip", some "__str__"), "__str__", "Slip.__str__", defArgs (inClass (top 67) 3), defBody (inClass (top 67) 3), defScope (inClass (top 67) 3), [], []⟩, ["self"], ["self", "words"]⟩
def D32 : DefT := ⟨⟨("Slip", some "__repr__"), "__repr__", "Slip.__repr__", defArgs (inClass (top 67) 4), defBody (inClass (top 67) 4), defScope (inClass (top 67) 4), [], []⟩, ["self"], ["self"]⟩
def D33 : DefT := ⟨⟨("Slip", some "bytes_ahead"), "bytes_ahead", "Slip.bytes_ahead", defArgs (inClass (top 67) 5), defBody (inClass (top 67) 5), defScope (inClass (top 67) 5), [], []⟩, ["self"], ["self", "head", "found"]⟩
def D34 : DefT := ⟨⟨("Slip", some "codes"), "codes", "Slip.codes", defArgs (inClass (top 67) 6), defBody (inClass (top 67) 6), defScope (inClass (top 67) 6), [], []⟩, ["self"], ["self", "data"]⟩
def D35 : DefT := ⟨⟨("letter_bytes", none), "letter_bytes", "letter_bytes", defArgs (top 73), defBody (top 73), defScope (top 73), [], []⟩, ["word", "data"], ["word", "data", "row"]⟩
def D36 : DefT := ⟨⟨("pieces_of", none), "pieces_of", "pieces_of", defArgs (top 74), defBody (top 74), defScope (top 74), [], []⟩, ["row", "sizes", "every"], ["row", "sizes", "every", "found", "at", "size"]⟩
def D37 : DefT := ⟨⟨("slips_for", none), "slips_for", "slips_for", defArgs (top 75), defBody (top 75), defScope (top 75), [], [("sizes", (.adr (kwdAt ("slips_for", none) "sizes"))), ("every", (.int 100))]⟩, ["talk", "word", "data", "sizes", "every"], ["talk", "word", "data", "sizes", "every", "pieces", "found", "number", "piece", "sort"]⟩
def D38 : DefT := ⟨⟨("Begun", some "__init__"), "__init__", "Begun.__init__", defArgs (inClass (top 76) 0), defBody (inClass (top 76) 0), defScope (inClass (top 76) 0), [], []⟩, ["self", "word"], ["self", "word"]⟩
def D39 : DefT := ⟨⟨("Begun", some "goes_on"), "goes_on", "Begun.goes_on", defArgs (inClass (top 76) 1), defBody (inClass (top 76) 1), defScope (inClass (top 76) 1), [], []⟩, ["self", "slip"], ["self", "slip", "byte"]⟩
def D40 : DefT := ⟨⟨("Begun", some "letter"), "letter", "Begun.letter", defArgs (inClass (top 76) 2), defBody (inClass (top 76) 2), defScope (inClass (top 76) 2), [], []⟩, ["self", "talk"], ["self", "talk"]⟩
def D41 : DefT := ⟨⟨("Joining", some "__init__"), "__init__", "Joining.__init__", defArgs (inClass (top 77) 0), defBody (inClass (top 77) 0), defScope (inClass (top 77) 0), [], []⟩, ["self"], ["self"]⟩
def D42 : DefT := ⟨⟨("Joining", some "is_over"), "is_over", "Joining.is_over", defArgs (inClass (top 77) 1), defBody (inClass (top 77) 1), defScope (inClass (top 77) 1), [], []⟩, ["self"], ["self"]⟩
def D43 : DefT := ⟨⟨("Joining", some "take"), "take", "Joining.take", defArgs (inClass (top 77) 2), defBody (inClass (top 77) 2), defScope (inClass (top 77) 2), [], []⟩, ["self", "slip"], ["self", "slip"]⟩
def D44 : DefT := ⟨⟨("Joining", some "take_letter"), "take_letter", "Joining.take_letter", defArgs (inClass (top 77) 3), defBody (inClass (top 77) 3), defScope (inClass (top 77) 3), [], []⟩, ["self", "slip"], ["self", "slip", "begun"]⟩
def D45 : DefT := ⟨⟨("Joining", some "take_end"), "take_end", "Joining.take_end", defArgs (inClass (top 77) 4), defBody (inClass (top 77) 4), defScope (inClass (top 77) 4), [], []⟩, ["self", "slip"], ["self", "slip", "first", "rest"]⟩
def D46 : DefT := ⟨⟨("joined_in", none), "joined_in", "joined_in", defArgs (top 78), defBody (top 78), defScope (top 78), [], []⟩, ["slips"], ["slips", "found", "joining", "number", "slip"]⟩
def D47 : DefT := ⟨⟨("_law_cell_at", none), "_law_cell_at", "_law_cell_at", defArgs (top 80), defBody (top 80), defScope (top 80), [], []⟩, ["_law_script", "_law_k"], ["_law_script", "_law_k"]⟩
def D48 : DefT := ⟨⟨("_law_box", none), "_law_box", "_law_box", defArgs (top 81), defBody (top 81), defScope (top 81), [], []⟩, ["_law_script", "_law_k"], ["_law_script", "_law_k", "_law_cell"]⟩
def D49 : DefT := ⟨⟨("_law_take", none), "_law_take", "_law_take", defArgs (top 82), defBody (top 82), defScope (top 82), [], []⟩, ["_law_box_here", "_law_count"], ["_law_box_here", "_law_count", "_law_found", "_law_once", "_law_twice"]⟩
def D50 : DefT := ⟨⟨("_law_same", none), "_law_same", "_law_same", defArgs (top 83), defBody (top 83), defScope (top 83), [], []⟩, ["_law_found", "_law_due"], ["_law_found", "_law_due", "_law_one", "_law_two"]⟩
def D51 : DefT := ⟨⟨("_law_of", none), "_law_of", "_law_of", defArgs (top 84), defBody (top 84), defScope (top 84), [], []⟩, ["_law_box_here", "_law_some"], ["_law_box_here", "_law_some"]⟩
def D52 : DefT := ⟨⟨("_law_cases", none), "_law_cases", "_law_cases", defArgs (top 85), defBody (top 85), defScope (top 85), [], []⟩, ["_law_box_here"], ["_law_box_here", "_law_some", "_law_pace", "_law_rest", "_law_found", "_law_ahead", "_law_behind"]⟩
def D53 : DefT := ⟨⟨("_law_lengths", none), "_law_lengths", "_law_lengths", defArgs (top 86), defBody (top 86), defScope (top 86), [], []⟩, ["_law_slips"], ["_law_slips", "_law_one"]⟩
def D54 : DefT := ⟨⟨("_law_right", none), "_law_right", "_law_right", defArgs (top 87), defBody (top 87), defScope (top 87), [], []⟩, ["_law_box_here"], ["_law_box_here", "_law_cuts", "_law_pace", "_law_some", "_law_due", "_law_row", "_law_ways", "_law_told", "_law_more", "_law_signs", "_law_long", "_law_turn", "_law_one"]⟩
def D55 : DefT := ⟨⟨("law", none), "law", "law", defArgs (top 88), defBody (top 88), defScope (top 88), [], []⟩, ["_law_script"], ["_law_script", "_law_k"]⟩
def D56 : DefT := ⟨⟨("BadSlip", some "__init__"), "__init__", "BadSlip.__init__", defArgs (inClass (top 13) 0), defBody (inClass (top 13) 0), defScope (inClass (top 13) 0), [], []⟩, ["self", "part"], ["self", "part"]⟩
def D57 : DefT := ⟨⟨("BadLetter", some "__init__"), "__init__", "BadLetter.__init__", defArgs (inClass (top 14) 0), defBody (inClass (top 14) 0), defScope (inClass (top 14) 0), [], []⟩, ["self", "part"], ["self", "part"]⟩
def D58 : DefT := ⟨⟨("Fault", some "__init__"), "__init__", "Fault.__init__", defArgs (inClass (top 15) 0), defBody (inClass (top 15) 0), defScope (inClass (top 15) 0), [], []⟩, ["self", "code", "at"], ["self", "code", "at"]⟩
def ds : List DefT := (D0 :: D1 :: D2 :: D3 :: D4 :: D5 :: D6 :: D7 :: D8 :: D9 :: D10 :: D11 :: D12 :: D13 :: D14 :: D15 :: D16 :: D17 :: D18 :: D19 :: D20 :: D21 :: D22 :: D23 :: D24 :: D25 :: D26 :: D27 :: D28 :: D29 :: D30 :: D31 :: D32 :: D33 :: D34 :: D35 :: D36 :: D37 :: D38 :: D39 :: D40 :: D41 :: D42 :: D43 :: D44 :: D45 :: D46 :: D47 :: D48 :: D49 :: D50 :: D51 :: D52 :: D53 :: D54 :: D55 :: D56 :: D57 :: D58 :: [])
def gl : List (Str × Gv) := (("bool", .free) :: ("isinstance", .free) :: ("int", .free) :: ("MOST_BYTE", (.int 255)) :: ("is_number", .fn none) :: ("is_byte", .fn none) :: ("all", .free) :: ("tuple", .free) :: ("list", .free) :: ("HEAD", (.int 10)) :: ("END", (.int 16)) :: ("FIRST_BARRED", (.int 55296)) :: ("LAST_BARRED", (.int 57343)) :: ("MOST_SIGN", (.int 65535)) :: ("is_sign", .fn none) :: ("LEAST_BEHIND", (.int 128)) :: ("STEP", (.int 64)) :: ("THREE_HEAD", (.int 224)) :: ("TWO_BYTES", (.int 2048)) :: ("TWO_HEAD", (.int 192)) :: ("ONE_BYTE", (.int 128)) :: ("sign_bytes", .fn none) :: ("LEAST_TWO", (.int 194)) :: ("NO_HEAD", (.int 240)) :: ("BARRED_HEAD", (.int 237)) :: ("MOST_UNBARRED", (.int 159)) :: ("MOST_BEHIND", (.int 191)) :: ("LEAST_OF_THREE", (.int 160)) :: ("len", .free) :: ("sign_of", .fn none) :: ("bytes_behind", .fn none) :: ("Fault", (.cls 2)) :: ("SIGNS", (.int 14)) :: ("may_begin", .fn none) :: ("may_follow", .fn none) :: ("Signs", (.cls 4)) :: ("str", .free) :: ("MASK_BYTES", (.int 4)) :: ("enumerate", .free) :: ("THREE_BEHIND", (.int 251)) :: ("BYTES_sizes", (.int 256)) :: ("divmod", .free) :: ("MOST_OF_TWO", (.int 65535)) :: ("TWO_BEHIND", (.int 250)) :: ("END_SORT", (.int 8)) :: ("is_mask", .fn none) :: ("is_mask_or_none", .fn none) :: ("is_control", .fn none) :: ("MOST_CONTROL", (.int 120)) :: ("are_codes", .fn none) :: ("MOST_TALK", (.int 31)) :: ("SORTS", (.val (.tup [(.int 0), (.int 1), (.int 2), (.int 8), (.int 9), (.int 10)]))) :: ("BadSlip", (.cls 0)) :: ("wrong_part", .fn none) :: ("Slip", (.cls 5)) :: ("NAMES", (.dct [((.inl 0), (.str "more")), ((.inl 1), (.str "words")), ((.inl 2), (.str "bytes")), ((.inl 8), (.str "end")), ((.inl 9), (.str "bell")), ((.inl 10), (.str "echo"))])) :: ("size_bytes", .fn none) :: ("LAST_PLACE", (.int 32)) :: ("MASKED_PLACE", (.int 16)) :: ("masked", .fn none) :: ("BadLetter", (.cls 1)) :: ("WORDS", (.str "words")) :: ("words_bytes", .fn none) :: ("is_words", .fn none) :: ("FIRST_SORTS", (.dct [((.inr "words"), (.int 1)), ((.inr "bytes"), (.int 2))])) :: ("MORE_SORT", (.int 0)) :: ("letter_bytes", .fn none) :: ("pieces_of", .fn none) :: ("BYTES_SORT", (.int 2)) :: ("WORDS_SORT", (.int 1)) :: ("ORDER", (.int 13)) :: ("BYTES_cutting", (.str "bytes")) :: ("Begun", (.cls 6)) :: ("is_fault", .fn none) :: ("words_in", .fn none) :: ("MOST_CODE", (.int 199)) :: ("Joining", (.cls 7)) :: ("abs", .free) :: ("_law_cell_at", .fn none) :: ("zip", .free) :: ("_law_same", .fn none) :: ("_law_take", .fn none) :: ("joined_in", .fn none) :: ("EVERY", (.int 100)) :: ("slips_for", .fn none) :: ("_law_lengths", .fn none) :: ("range", .free) :: ("_law_cases", .fn none) :: ("min", .free) :: ("_law_box", .fn none) :: ("_law_right", .fn none) :: ("ValueError", .free) :: [])
def calls : List (CKey × (Nat × List PArg)) := ((("is_number", 1, []), (0, [.ix 0])) :: (("is_byte", 1, []), (1, [.ix 0])) :: (("is_sign", 1, []), (4, [.ix 0])) :: (("sign_bytes", 1, []), (6, [.ix 0])) :: (("sign_of", 1, []), (11, [.ix 0])) :: (("bytes_behind", 1, []), (8, [.ix 0])) :: (("may_begin", 1, []), (9, [.ix 0])) :: (("may_follow", 2, []), (10, [.ix 0, .ix 1])) :: (("is_mask", 1, []), (22, [.ix 0])) :: (("is_mask_or_none", 1, []), (26, [.ix 0])) :: (("is_control", 1, []), (25, [.ix 0])) :: (("are_codes", 1, []), (2, [.ix 0])) :: (("wrong_part", 5, []), (27, [.ix 0, .ix 1, .ix 2, .ix 3, .ix 4])) :: (("size_bytes", 1, []), (24, [.ix 0])) :: (("masked", 2, []), (23, [.ix 0, .ix 1, .df (.int 0)])) :: (("words_bytes", 1, []), (7, [.ix 0])) :: (("is_words", 1, []), (5, [.ix 0])) :: (("letter_bytes", 2, []), (35, [.ix 0, .ix 1])) :: (("pieces_of", 3, []), (36, [.ix 0, .ix 1, .ix 2])) :: (("is_fault", 1, []), (3, [.ix 0])) :: (("words_in", 1, []), (21, [.ix 0])) :: (("_law_cell_at", 2, []), (47, [.ix 0, .ix 1])) :: (("_law_same", 2, []), (50, [.ix 0, .ix 1])) :: (("_law_take", 2, []), (49, [.ix 0, .ix 1])) :: (("joined_in", 1, []), (46, [.ix 0])) :: (("slips_for", 3, []), (37, [.ix 0, .ix 1, .ix 2, .df (.tup []), .df (.int 100)])) :: (("_law_lengths", 1, []), (53, [.ix 0])) :: (("slips_for", 3, ["every"]), (37, [.ix 0, .ix 1, .ix 2, .df (.tup []), .ix 3])) :: (("_law_cases", 1, []), (52, [.ix 0])) :: (("slips_for", 0, ["every", "sizes", "data", "word", "talk"]), (37, [.ix 4, .ix 3, .ix 2, .ix 1, .ix 0])) :: (("slips_for", 3, ["sizes", "every"]), (37, [.ix 0, .ix 1, .ix 2, .ix 3, .ix 4])) :: (("_law_box", 2, []), (48, [.ix 0, .ix 1])) :: (("_law_right", 1, []), (54, [.ix 0])) :: [])
def ow : Own0 := ⟨[("own_many", [4]), ("own_begun", [4, 7]), ("own_signs", [4, 6]), ("mask", [5]), ("last", [5]), ("data", [5]), ("talk", [5]), ("kind", [5]), ("own_bytes", [6]), ("own_word", [6]), ("own_over", [7]), ("own_ended", [7])], [(("Signs", 0, []), (4, 12, [.ix 0])), (("Slip", 3, ["last"]), (5, 28, [.ix 0, .ix 1, .ix 2, .ix 3, .ix 4, .df .non])), (("Begun", 1, []), (6, 38, [.ix 0, .ix 1])), (("Joining", 0, []), (7, 41, [.ix 0]))], [(("is_whole", 0, []), [(4, (15, [.ix 0]))]), (("words", 0, []), [(4, (16, [.ix 0]))]), (("how_many", 0, []), [(4, (14, [.ix 0]))]), (("put", 1, []), [(4, (13, [.ix 0, .ix 1]))]), (("codes", 0, []), [(5, (34, [.ix 0]))]), (("bytes_ahead", 0, []), [(5, (33, [.ix 0]))]), (("take_end", 1, []), [(7, (45, [.ix 0, .ix 1]))]), (("take_letter", 1, []), [(7, (44, [.ix 0, .ix 1]))]), (("letter", 1, []), [(6, (40, [.ix 0, .ix 1]))]), (("goes_on", 1, []), [(6, (39, [.ix 0, .ix 1]))]), (("take", 1, []), [(7, (43, [.ix 0, .ix 1]))]), (("is_over", 0, []), [(7, (42, [.ix 0]))]), (("__init__", 2, []), [(5, (28, [.ix 0, .ix 1, .ix 2, .df (.tup []), .df (.bl true), .df .non]))])], [(("Fault", 2), (2, ["code", "at"])), (("BadSlip", 1), (0, ["part"])), (("BadLetter", 1), (1, ["part"]))], [], [((0, 2), false), ((1, 2), false), ((2, 2), true)], [], [], []⟩
/-- is_number -/
def b0 (cs : MP.Sem) : TwS :=
  (retS (andS (biS (biW kt .isinstance) (consA (varS 0) (consA (cstS (.ty "int")) nilA))) (valS (notT (truS (biS (biW kt .isinstance) (consA (varS 0) (consA (cstS (.ty "bool")) nilA))))))))
/-- is_byte -/
def b1 (cs : MP.Sem) : TwS :=
  (retS (andS (callN cs 0 [.ix 0] 1 0 (consA (varS 0) nilA) nilA) (chnS (cmpW .LtE) (cmpW .LtE) (cstS (.int 0)) (varS 0) (cstS (.int 255)))))
/-- are_codes -/
def b2 (cs : MP.Sem) : TwS :=
  (retS (andS (biS (biW kt .isinstance) (consA (varS 0) (consA (tupS (consA (cstS (.ty "list")) (consA (cstS (.ty "tuple")) nilA))) nilA))) (biS (biW kt .all) (consA (lcS [1] (seqI (varS 0)) (.nm 1) yesT (callN cs 1 [.ix 0] 1 0 (consA (varS 1) nilA) nilA)) nilA))))
/-- is_fault -/
def b3 (cs : MP.Sem) : TwS :=
  (retS (andS (callN cs 0 [.ix 0] 1 0 (consA (varS 0) nilA) nilA) (chnS (cmpW .LtE) (cmpW .LtE) (cstS (.int 10)) (varS 0) (cstS (.int 16)))))
/-- is_sign -/
def b4 (cs : MP.Sem) : TwS :=
  (retS (andS (callN cs 0 [.ix 0] 1 0 (consA (varS 0) nilA) nilA) (andS (chnS (cmpW .LtE) (cmpW .LtE) (cstS (.int 0)) (varS 0) (cstS (.int 65535))) (valS (notT (truS (chnS (cmpW .LtE) (cmpW .LtE) (cstS (.int 55296)) (varS 0) (cstS (.int 57343)))))))))
/-- is_words -/
def b5 (cs : MP.Sem) : TwS :=
  (retS (andS (biS (biW kt .isinstance) (consA (varS 0) (consA (cstS (.ty "list")) nilA))) (biS (biW kt .all) (consA (lcS [1] (seqI (varS 0)) (.nm 1) yesT (callN cs 4 [.ix 0] 1 0 (consA (varS 1) nilA) nilA)) nilA))))
/-- sign_bytes -/
def b6 (cs : MP.Sem) : TwS :=
  (seqS (ifS' (tstS (op2S (cmpW .Lt) (varS 0) (cstS (.int 128))))
  (retS (lstS (consA (varS 0) nilA)))
  nextS)
  (seqS (setS 1 (op2S (binW .Add) (cstS (.int 128)) (op2S (binW .Mod) (varS 0) (cstS (.int 64)))))
  (seqS (ifS' (tstS (op2S (cmpW .Lt) (varS 0) (cstS (.int 2048))))
  (retS (lstS (consA (op2S (binW .Add) (cstS (.int 192)) (op2S (binW .FloorDiv) (varS 0) (cstS (.int 64)))) (consA (varS 1) nilA))))
  nextS)
  (retS (lstS (consA (op2S (binW .Add) (cstS (.int 224)) (op2S (binW .FloorDiv) (op2S (binW .FloorDiv) (varS 0) (cstS (.int 64))) (cstS (.int 64)))) (consA (op2S (binW .Add) (cstS (.int 128)) (op2S (binW .Mod) (op2S (binW .FloorDiv) (varS 0) (cstS (.int 64))) (cstS (.int 64)))) (consA (varS 1) nilA))))))))
/-- words_bytes -/
def b7 (cs : MP.Sem) : TwS :=
  (retS (lc2S [1, 2] [2] (seqI (varS 0)) (.nm 1) yesT (seqI (callN cs 6 [.ix 0] 1 0 (consA (varS 1) nilA) nilA)) (.nm 2) yesT (varS 2)))
/-- bytes_behind -/
def b8 (cs : MP.Sem) : TwS :=
  (seqS (ifS' (tstS (op2S (cmpW .Lt) (varS 0) (cstS (.int 128))))
  (retS (cstS (.int 1)))
  nextS)
  (retS (ifS (tstS (op2S (cmpW .Lt) (varS 0) (cstS (.int 224)))) (cstS (.int 2)) (cstS (.int 3)))))
/-- may_begin -/
def b9 (cs : MP.Sem) : TwS :=
  (retS (orS (op2S (cmpW .Lt) (varS 0) (cstS (.int 128))) (chnS (cmpW .LtE) (cmpW .Lt) (cstS (.int 194)) (varS 0) (cstS (.int 240)))))
/-- may_follow -/
def b10 (cs : MP.Sem) : TwS :=
  (seqS (setS 2 (ifS (tstS (op2S (cmpW .Eq) (varS 0) (lstS (consA (cstS (.int 224)) nilA)))) (cstS (.int 160)) (cstS (.int 128))))
  (seqS (setS 3 (ifS (tstS (op2S (cmpW .Eq) (varS 0) (lstS (consA (cstS (.int 237)) nilA)))) (cstS (.int 159)) (cstS (.int 191))))
  (retS (chnS (cmpW .LtE) (cmpW .LtE) (varS 2) (varS 1) (varS 3)))))
def L11_1 (cs : MP.Sem) : TwS :=
  (setS 3 (op2S (binW .Sub) (op2S (binW .Add) (op2S (binW .Mult) (varS 3) (cstS (.int 64))) (varS 4)) (cstS (.int 128))))
/-- sign_of -/
def b11 (cs : MP.Sem) : TwS :=
  (seqS (starS [1, 2] (varS 0))
  (seqS (setS 3 (ifS (tstS (op2S (cmpW .Eq) (biS (biW kt .len) (consA (varS 2) nilA)) (cstS (.int 0)))) (varS 1) (op2S (binW .Sub) (varS 1) (ifS (tstS (op2S (cmpW .Eq) (biS (biW kt .len) (consA (varS 2) nilA)) (cstS (.int 1)))) (cstS (.int 192)) (cstS (.int 224))))))
  (seqS (forS (seqI (varS 2)) (.nm 4)
  (L11_1 cs))
  (retS (varS 3)))))
/-- Signs.__init__ -/
def b12 (cs : MP.Sem) : TwS :=
  (seqS (fstS [4, 6] "own_signs" (varS 0) (lstS nilA))
  (seqS (fstS [4, 7] "own_begun" (varS 0) (lstS nilA))
  (fstS [4] "own_many" (varS 0) (cstS (.int 0)))))
/-- Signs.put -/
def b13 (cs : MP.Sem) : TwS :=
  (seqS (setS 2 (ifS (truS (methN cs [(4, (15, [.ix 0]))] "is_whole" 0 0 (varS 0) nilA nilA)) (callN cs 9 [.ix 0] 1 0 (consA (varS 1) nilA) nilA) (callN cs 10 [.ix 0, .ix 1] 2 0 (consA (fldC [4, 7] "own_begun" (varS 0)) (consA (varS 1) nilA)) nilA)))
  (seqS (ifS' (notT (truS (varS 2)))
  (raiseS 2 ["code", "at"] (consA (cstS (.int 14)) (consA (fldC [4] "own_many" (varS 0)) nilA)))
  nextS)
  (seqS (fauS [4] "own_many" .Add (varS 0) (cstS (.int 1)))
  (seqS (dropS (mtS .append (fldC [4, 7] "own_begun" (varS 0)) (consA (varS 1) nilA)))
  (seqS (ifS' (tstS (op2S (cmpW .Lt) (biS (biW kt .len) (consA (fldC [4, 7] "own_begun" (varS 0)) nilA)) (callN cs 8 [.ix 0] 1 0 (consA (op2S idxW (fldC [4, 7] "own_begun" (varS 0)) (cstS (.int 0))) nilA) nilA)))
  (retS (cstS .non))
  nextS)
  (seqS (setS 3 (callN cs 11 [.ix 0] 1 0 (consA (fldC [4, 7] "own_begun" (varS 0)) nilA) nilA))
  (seqS (fstS [4, 7] "own_begun" (varS 0) (lstS nilA))
  (seqS (dropS (mtS .append (fldC [4, 6] "own_signs" (varS 0)) (consA (varS 3) nilA)))
  (retS (varS 3))))))))))
/-- Signs.how_many -/
def b14 (cs : MP.Sem) : TwS :=
  (retS (fldC [4] "own_many" (varS 0)))
/-- Signs.is_whole -/
def b15 (cs : MP.Sem) : TwS :=
  (retS (op2S (cmpW .Eq) (fldC [4, 7] "own_begun" (varS 0)) (lstS nilA)))
/-- Signs.words -/
def b16 (cs : MP.Sem) : TwS :=
  (retS (biS (biW kt .list) (consA (fldC [4, 6] "own_signs" (varS 0)) nilA)))
/-- Signs.__len__ -/
def b17 (cs : MP.Sem) : TwS :=
  (retS (biS (biW kt .len) (consA (fldC [4, 6] "own_signs" (varS 0)) nilA)))
/-- Signs.__eq__ -/
def b18 (cs : MP.Sem) : TwS :=
  (seqS (ifS' (notT (truS (biS (biW kt .isinstance) (consA (varS 1) (consA (cstS (.cls 4)) nilA)))))
  (retS (cstS (.bl false)))
  nextS)
  (retS (andS (op2S (cmpW .Eq) (fldC [4, 6] "own_signs" (varS 0)) (fldC [4, 6] "own_signs" (varS 1))) (op2S (cmpW .Eq) (fldC [4, 7] "own_begun" (varS 0)) (fldC [4, 7] "own_begun" (varS 1))))))
/-- Signs.__str__ -/
def b19 (cs : MP.Sem) : TwS :=
  (seqS (setS 1 (lcS [2] (seqI (fldC [4, 6] "own_signs" (varS 0))) (.nm 2) yesT (biS (biW kt .str) (consA (varS 2) nilA))))
  (seqS (ifS' (notT (truS (methN cs [(4, (15, [.ix 0]))] "is_whole" 0 0 (varS 0) nilA nilA)))
  (dropS (mtS .append (varS 1) (consA (cstS (.str "..")) nilA)))
  nextS)
  (retS (tx2S jnW (cstS (.str " ")) (varS 1)))))
/-- Signs.__repr__ -/
def b20 (cs : MP.Sem) : TwS :=
  (retS (jnsS [cstS (.str "Signs("), fmS (biS (biW kt .len) (consA (fldC [4, 6] "own_signs" (varS 0)) nilA)), cstS (.str ")")] PySem.Str.empty))
def L21_1 (cs : MP.Sem) : TwS :=
  (dropS (methN cs [(4, (13, [.ix 0, .ix 1]))] "put" 1 0 (varS 1) (consA (varS 2) nilA) nilA))
/-- words_in -/
def b21 (cs : MP.Sem) : TwS :=
  (seqS (setS 1 (mkN cs 4 12 [.ix 0] 0 0 nilA nilA))
  (seqS (forS (seqI (varS 0)) (.nm 2)
  (L21_1 cs))
  (seqS (ifS' (notT (truS (methN cs [(4, (15, [.ix 0]))] "is_whole" 0 0 (varS 1) nilA nilA)))
  (raiseS 2 ["code", "at"] (consA (cstS (.int 14)) (consA (methN cs [(4, (14, [.ix 0]))] "how_many" 0 0 (varS 1) nilA nilA) nilA)))
  nextS)
  (retS (methN cs [(4, (16, [.ix 0]))] "words" 0 0 (varS 1) nilA nilA)))))
/-- is_mask -/
def b22 (cs : MP.Sem) : TwS :=
  (retS (andS (biS (biW kt .isinstance) (consA (varS 0) (consA (cstS (.ty "tuple")) nilA))) (andS (op2S (cmpW .Eq) (biS (biW kt .len) (consA (varS 0) nilA)) (cstS (.int 4))) (biS (biW kt .all) (consA (lcS [1] (seqI (varS 0)) (.nm 1) yesT (callN cs 1 [.ix 0] 1 0 (consA (varS 1) nilA) nilA)) nilA)))))
/-- masked -/
def b23 (cs : MP.Sem) : TwS :=
  (retS (lcS [3, 4] (enm2I (consA (varS 0) (consA (varS 2) nilA))) (.tup [3, 4]) yesT (op2S (binW .BitXor) (varS 4) (op2S idxW (varS 1) (op2S (binW .Mod) (varS 3) (cstS (.int 4)))))))
/-- size_bytes -/
def b24 (cs : MP.Sem) : TwS :=
  (seqS (ifS' (tstS (op2S (cmpW .Lt) (varS 0) (cstS (.int 250))))
  (retS (lstS (consA (varS 0) nilA)))
  nextS)
  (seqS (asgS (.tup [1, 2]) (biS (biW kt .divmod) (consA (varS 0) (consA (cstS (.int 256)) nilA))))
  (seqS (ifS' (tstS (op2S (cmpW .LtE) (varS 0) (cstS (.int 65535))))
  (retS (lstS (consA (cstS (.int 250)) (consA (varS 1) (consA (varS 2) nilA)))))
  nextS)
  (seqS (asgS (.tup [3, 4]) (biS (biW kt .divmod) (consA (varS 1) (consA (cstS (.int 256)) nilA))))
  (retS (lstS (consA (cstS (.int 251)) (consA (varS 3) (consA (varS 4) (consA (varS 2) nilA))))))))))
/-- is_control -/
def b25 (cs : MP.Sem) : TwS :=
  (retS (op2S (cmpW .GtE) (varS 0) (cstS (.int 8))))
/-- is_mask_or_none -/
def b26 (cs : MP.Sem) : TwS :=
  (retS (orS (op2S (cmpW .Is) (varS 0) (cstS .non)) (andS (biS (biW kt .isinstance) (consA (varS 0) (consA (tupS (consA (cstS (.ty "list")) (consA (cstS (.ty "tuple")) nilA))) nilA))) (callN cs 22 [.ix 0] 1 0 (consA (biS (biW kt .tuple) (consA (varS 0) nilA)) nilA) nilA))))
/-- wrong_part -/
def b27 (cs : MP.Sem) : TwS :=
  (seqS (ifS' (orT (notT (truS (callN cs 0 [.ix 0] 1 0 (consA (varS 0) nilA) nilA))) (tstS (op2S (cmpW .NotIn) (varS 0) (cstS (.tup [(.int 0), (.int 1), (.int 2), (.int 8), (.int 9), (.int 10)])))))
  (retS (cstS (.str "kind")))
  nextS)
  (seqS (ifS' (orT (notT (truS (callN cs 0 [.ix 0] 1 0 (consA (varS 1) nilA) nilA))) (notT (tstS (chnS (cmpW .LtE) (cmpW .LtE) (cstS (.int 0)) (varS 1) (cstS (.int 31))))))
  (retS (cstS (.str "talk")))
  nextS)
  (seqS (ifS' (orT (notT (truS (callN cs 2 [.ix 0] 1 0 (consA (varS 2) nilA) nilA))) (andT (truS (callN cs 25 [.ix 0] 1 0 (consA (varS 0) nilA) nilA)) (tstS (op2S (cmpW .Gt) (biS (biW kt .len) (consA (varS 2) nilA)) (cstS (.int 120))))))
  (retS (cstS (.str "data")))
  nextS)
  (seqS (ifS' (orT (notT (truS (biS (biW kt .isinstance) (consA (varS 3) (consA (cstS (.ty "bool")) nilA))))) (andT (truS (callN cs 25 [.ix 0] 1 0 (consA (varS 0) nilA) nilA)) (notT (truS (varS 3)))))
  (retS (cstS (.str "last")))
  nextS)
  (retS (ifS (truS (callN cs 26 [.ix 0] 1 0 (consA (varS 4) nilA) nilA)) (cstS .non) (cstS (.str "mask"))))))))
/-- Slip.__init__ -/
def b28 (cs : MP.Sem) : TwS :=
  (seqS (setS 6 (callN cs 27 [.ix 0, .ix 1, .ix 2, .ix 3, .ix 4] 5 0 (consA (varS 1) (consA (varS 2) (consA (varS 3) (consA (varS 4) (consA (varS 5) nilA))))) nilA))
  (seqS (ifS' (tstS (op2S (cmpW .IsNot) (varS 6) (cstS .non)))
  (raiseS 0 ["part"] (consA (varS 6) nilA))
  nextS)
  (seqS (fstS [5] "kind" (varS 0) (varS 1))
  (seqS (fstS [5] "talk" (varS 0) (varS 2))
  (seqS (fstS [5] "data" (varS 0) (biS (biW kt .tuple) (consA (varS 3) nilA)))
  (seqS (fstS [5] "last" (varS 0) (varS 4))
  (fstS [5] "mask" (varS 0) (ifS (tstS (op2S (cmpW .Is) (varS 5) (cstS .non))) (cstS .non) (biS (biW kt .tuple) (consA (varS 5) nilA))))))))))
/-- Slip.__len__ -/
def b29 (cs : MP.Sem) : TwS :=
  (retS (biS (biW kt .len) (consA (methN cs [(5, (34, [.ix 0]))] "codes" 0 0 (varS 0) nilA nilA) nilA)))
/-- Slip.__eq__ -/
def b30 (cs : MP.Sem) : TwS :=
  (seqS (ifS' (notT (truS (biS (biW kt .isinstance) (consA (varS 1) (consA (cstS (.cls 5)) nilA)))))
  (retS (cstS (.bl false)))
  nextS)
  (seqS (setS 2 (tupS (consA (fldC [5] "kind" (varS 0)) (consA (fldC [5] "talk" (varS 0)) (consA (fldC [5] "data" (varS 0)) (consA (fldC [5] "last" (varS 0)) (consA (fldC [5] "mask" (varS 0)) nilA)))))))
  (retS (op2S (cmpW .Eq) (varS 2) (tupS (consA (fldC [5] "kind" (varS 1)) (consA (fldC [5] "talk" (varS 1)) (consA (fldC [5] "data" (varS 1)) (consA (fldC [5] "last" (varS 1)) (consA (fldC [5] "mask" (varS 1)) nilA))))))))))
/-- Slip.__str__ -/
def b31 (cs : MP.Sem) : TwS :=
  (seqS (setS 1 (lstS (consA (digS [((.inl 0), (.str "more")), ((.inl 1), (.str "words")), ((.inl 2), (.str "bytes")), ((.inl 8), (.str "end")), ((.inl 9), (.str "bell")), ((.inl 10), (.str "echo"))] (fldC [5] "kind" (varS 0))) (consA (biS (biW kt .str) (consA (fldC [5] "talk" (varS 0)) nilA)) nilA))))
  (seqS (ifS' (andT (truS (fldC [5] "last" (varS 0))) (notT (truS (callN cs 25 [.ix 0] 1 0 (consA (fldC [5] "kind" (varS 0)) nilA) nilA))))
  (dropS (mtS .append (varS 1) (consA (cstS (.str "last")) nilA)))
  nextS)
  (seqS (ifS' (tstS (op2S (cmpW .IsNot) (fldC [5] "mask" (varS 0)) (cstS .non)))
  (dropS (mtS .append (varS 1) (consA (cstS (.str "masked")) nilA)))
  nextS)
  (retS (tx2S jnW (cstS (.str " ")) (op2S (binW .Add) (varS 1) (lstS (consA (biS (biW kt .str) (consA (biS (biW kt .len) (consA (fldC [5] "data" (varS 0)) nilA)) nilA)) nilA))))))))
/-- Slip.__repr__ -/
def b32 (cs : MP.Sem) : TwS :=
  (retS (jnsS [cstS (.str "<"), fmS (varS 0), cstS (.str ">")] PySem.Str.empty))
/-- Slip.bytes_ahead -/
def b33 (cs : MP.Sem) : TwS :=
  (seqS (setS 1 (fldC [5] "kind" (varS 0)))
  (seqS (ifS' (tstS (op2S (cmpW .IsNot) (fldC [5] "mask" (varS 0)) (cstS .non)))
  (augS 1 .Add (cstS (.int 16)))
  nextS)
  (seqS (ifS' (truS (fldC [5] "last" (varS 0)))
  (augS 1 .Add (cstS (.int 32)))
  nextS)
  (seqS (setS 2 (op2S (binW .Add) (lstS (consA (varS 1) (consA (fldC [5] "talk" (varS 0)) nilA))) (callN cs 24 [.ix 0] 1 0 (consA (biS (biW kt .len) (consA (fldC [5] "data" (varS 0)) nilA)) nilA) nilA)))
  (retS (ifS (tstS (op2S (cmpW .Is) (fldC [5] "mask" (varS 0)) (cstS .non))) (varS 2) (op2S (binW .Add) (varS 2) (biS (biW kt .list) (consA (fldC [5] "mask" (varS 0)) nilA)))))))))
/-- Slip.codes -/
def b34 (cs : MP.Sem) : TwS :=
  (seqS (setS 1 (ifS (tstS (op2S (cmpW .Is) (fldC [5] "mask" (varS 0)) (cstS .non))) (biS (biW kt .list) (consA (fldC [5] "data" (varS 0)) nilA)) (callN cs 23 [.ix 0, .ix 1, .df (.int 0)] 2 0 (consA (fldC [5] "data" (varS 0)) (consA (fldC [5] "mask" (varS 0)) nilA)) nilA)))
  (retS (op2S (binW .Add) (methN cs [(5, (33, [.ix 0]))] "bytes_ahead" 0 0 (varS 0) nilA nilA) (varS 1))))
/-- letter_bytes -/
def b35 (cs : MP.Sem) : TwS :=
  (seqS (ifS' (orT (notT (truS (biS (biW kt .isinstance) (consA (varS 0) (consA (cstS (.ty "str")) nilA))))) (tstS (dinS true [((.inr "words"), (.int 1)), ((.inr "bytes"), (.int 2))] (varS 0))))
  (raiseS 1 ["part"] (consA (cstS (.str "word")) nilA))
  nextS)
  (seqS (setS 2 (ifS (truS (biS (biW kt .isinstance) (consA (varS 1) (consA (tupS (consA (cstS (.ty "list")) (consA (cstS (.ty "tuple")) nilA))) nilA)))) (biS (biW kt .list) (consA (varS 1) nilA)) (cstS .non)))
  (seqS (ifS' (tstS (op2S (cmpW .Eq) (varS 0) (cstS (.str "words"))))
  (seqS (ifS' (notT (truS (callN cs 5 [.ix 0] 1 0 (consA (varS 2) nilA) nilA)))
  (raiseS 1 ["part"] (consA (cstS (.str "data")) nilA))
  nextS)
  (retS (callN cs 7 [.ix 0] 1 0 (consA (varS 2) nilA) nilA)))
  nextS)
  (seqS (ifS' (notT (truS (callN cs 2 [.ix 0] 1 0 (consA (varS 2) nilA) nilA)))
  (raiseS 1 ["part"] (consA (cstS (.str "data")) nilA))
  nextS)
  (retS (varS 2))))))
def L36_1 (cs : MP.Sem) : TwS :=
  (seqS (dropS (mtS .append (varS 3) (consA (slcS (varS 0) (someO (varS 4)) (someO (op2S (binW .Add) (varS 4) (varS 2)))) nilA)))
  (augS 4 .Add (varS 2)))
def L36_2 (cs : MP.Sem) : TwS :=
  (ifS' (tstS (op2S (cmpW .Lt) (varS 4) (biS (biW kt .len) (consA (varS 0) nilA))))
  (seqS (dropS (mtS .append (varS 3) (consA (slcS (varS 0) (someO (varS 4)) (someO (op2S (binW .Add) (varS 4) (varS 5)))) nilA)))
  (augS 4 .Add (varS 5)))
  nextS)
/-- pieces_of -/
def b36 (cs : MP.Sem) : TwS :=
  (seqS (setS 3 (lstS nilA))
  (seqS (setS 4 (cstS (.int 0)))
  (seqS (forS (seqI (varS 1)) (.nm 5)
  (L36_2 cs))
  (seqS (whileS (tstS (op2S (cmpW .Lt) (varS 4) (biS (biW kt .len) (consA (varS 0) nilA))))
  (L36_1 cs))
  (retS (ifS (tstS (op2S (cmpW .Gt) (biS (biW kt .len) (consA (varS 3) nilA)) (cstS (.int 0)))) (varS 3) (lstS (consA (lstS nilA) nilA))))))))
def L37_1 (cs : MP.Sem) : TwS :=
  (seqS (setS 9 (ifS (tstS (op2S (cmpW .Eq) (varS 7) (cstS (.int 0)))) (digS [((.inr "words"), (.int 1)), ((.inr "bytes"), (.int 2))] (varS 1)) (cstS (.int 0))))
  (dropS (mtS .append (varS 6) (consA (mkN cs 5 28 [.ix 0, .ix 1, .ix 2, .ix 3, .ix 4, .df .non] 3 1 (consA (varS 9) (consA (varS 0) (consA (varS 8) nilA))) (consA (op2S (cmpW .Eq) (varS 7) (op2S (binW .Sub) (biS (biW kt .len) (consA (varS 5) nilA)) (cstS (.int 1)))) nilA)) nilA))))
/-- slips_for -/
def b37 (cs : MP.Sem) : TwS :=
  (seqS (setS 5 (callN cs 36 [.ix 0, .ix 1, .ix 2] 3 0 (consA (callN cs 35 [.ix 0, .ix 1] 2 0 (consA (varS 1) (consA (varS 2) nilA)) nilA) (consA (varS 3) (consA (varS 4) nilA))) nilA))
  (seqS (setS 6 (lstS nilA))
  (seqS (forS (enm1I (consA (varS 5) nilA)) (.tup [7, 8])
  (L37_1 cs))
  (retS (varS 6)))))
/-- Begun.__init__ -/
def b38 (cs : MP.Sem) : TwS :=
  (seqS (fstS [6] "own_word" (varS 0) (varS 1))
  (seqS (fstS [6] "own_bytes" (varS 0) (lstS nilA))
  (fstS [4, 6] "own_signs" (varS 0) (mkN cs 4 12 [.ix 0] 0 0 nilA nilA))))
def L39_1 (cs : MP.Sem) : TwS :=
  (dropS (methN cs [(4, (13, [.ix 0, .ix 1]))] "put" 1 0 (fldC [4, 6] "own_signs" (varS 0)) (consA (varS 2) nilA) nilA))
/-- Begun.goes_on -/
def b39 (cs : MP.Sem) : TwS :=
  (seqS (dropS (mtS .extend (fldC [6] "own_bytes" (varS 0)) (consA (fldC [5] "data" (varS 1)) nilA)))
  (ifS' (tstS (op2S (cmpW .Eq) (fldC [6] "own_word" (varS 0)) (cstS (.str "words"))))
  (seqS (forS (seqI (fldC [5] "data" (varS 1))) (.nm 2)
  (L39_1 cs))
  (ifS' (andT (truS (fldC [5] "last" (varS 1))) (notT (truS (methN cs [(4, (15, [.ix 0]))] "is_whole" 0 0 (fldC [4, 6] "own_signs" (varS 0)) nilA nilA))))
  (raiseS 2 ["code", "at"] (consA (cstS (.int 14)) (consA (biS (biW kt .len) (consA (fldC [6] "own_bytes" (varS 0)) nilA)) nilA)))
  nextS))
  nextS))
/-- Begun.letter -/
def b40 (cs : MP.Sem) : TwS :=
  (retS (tupS (consA (varS 1) (consA (fldC [6] "own_word" (varS 0)) (consA (ifS (tstS (op2S (cmpW .Eq) (fldC [6] "own_word" (varS 0)) (cstS (.str "words")))) (methN cs [(4, (16, [.ix 0]))] "words" 0 0 (fldC [4, 6] "own_signs" (varS 0)) nilA nilA) (biS (biW kt .list) (consA (fldC [6] "own_bytes" (varS 0)) nilA))) nilA)))))
/-- Joining.__init__ -/
def b41 (cs : MP.Sem) : TwS :=
  (seqS (fstS [4, 7] "own_begun" (varS 0) dicN)
  (seqS (fstS [7] "own_ended" (varS 0) dicN)
  (fstS [7] "own_over" (varS 0) (cstS (.bl false)))))
/-- Joining.is_over -/
def b42 (cs : MP.Sem) : TwS :=
  (retS (fldC [7] "own_over" (varS 0)))
/-- Joining.take -/
def b43 (cs : MP.Sem) : TwS :=
  (seqS (ifS' (tstS (op2S (cmpW .In) (fldC [5] "talk" (varS 1)) (fldC [7] "own_ended" (varS 0))))
  (raiseS 2 ["code", "at"] (consA (cstS (.int 13)) (consA (cstS (.int 1)) nilA)))
  nextS)
  (seqS (ifS' (tstS (op2S (cmpW .In) (fldC [5] "kind" (varS 1)) (tupS (consA (cstS (.int 1)) (consA (cstS (.int 2)) (consA (cstS (.int 0)) nilA))))))
  (retS (methN cs [(7, (44, [.ix 0, .ix 1]))] "take_letter" 1 0 (varS 0) (consA (varS 1) nilA) nilA))
  nextS)
  (seqS (ifS' (tstS (op2S (cmpW .Eq) (fldC [5] "kind" (varS 1)) (cstS (.int 8))))
  (dropS (methN cs [(7, (45, [.ix 0, .ix 1]))] "take_end" 1 0 (varS 0) (consA (varS 1) nilA) nilA))
  nextS)
  (retS (lstS nilA)))))
/-- Joining.take_letter -/
def b44 (cs : MP.Sem) : TwS :=
  (seqS (ifS' (tstS (op2S (cmpW .NotEq) (op2S (cmpW .Eq) (fldC [5] "kind" (varS 1)) (cstS (.int 0))) (op2S (cmpW .In) (fldC [5] "talk" (varS 1)) (fldC [4, 7] "own_begun" (varS 0)))))
  (raiseS 2 ["code", "at"] (consA (cstS (.int 13)) (consA (cstS (.int 1)) nilA)))
  nextS)
  (seqS (ifS' (tstS (op2S (cmpW .NotEq) (fldC [5] "kind" (varS 1)) (cstS (.int 0))))
  (stiS (fldC [4, 7] "own_begun" (varS 0)) (fldC [5] "talk" (varS 1)) (mkN cs 6 38 [.ix 0, .ix 1] 1 0 (consA (ifS (tstS (op2S (cmpW .Eq) (fldC [5] "kind" (varS 1)) (cstS (.int 1)))) (cstS (.str "words")) (cstS (.str "bytes"))) nilA) nilA))
  nextS)
  (seqS (setS 2 (op2S idxW (fldC [4, 7] "own_begun" (varS 0)) (fldC [5] "talk" (varS 1))))
  (seqS (dropS (methN cs [(6, (39, [.ix 0, .ix 1]))] "goes_on" 1 0 (varS 2) (consA (varS 1) nilA) nilA))
  (seqS (ifS' (notT (truS (fldC [5] "last" (varS 1))))
  (retS (lstS nilA))
  nextS)
  (seqS (dropS (mtS .popAt (fldC [4, 7] "own_begun" (varS 0)) (consA (fldC [5] "talk" (varS 1)) nilA)))
  (retS (lstS (consA (methN cs [(6, (40, [.ix 0, .ix 1]))] "letter" 1 0 (varS 2) (consA (fldC [5] "talk" (varS 1)) nilA) nilA) nilA)))))))))
/-- Joining.take_end -/
def b45 (cs : MP.Sem) : TwS :=
  (seqS (ifS' (tstS (op2S (cmpW .Gt) (biS (biW kt .len) (consA (fldC [5] "data" (varS 1)) nilA)) (cstS (.int 0))))
  (seqS (starS [2, 3] (fldC [5] "data" (varS 1)))
  (seqS (ifS' (orT (tstS (op2S (cmpW .Eq) (biS (biW kt .len) (consA (varS 3) nilA)) (cstS (.int 0)))) (orT (tstS (op2S (cmpW .NotEq) (varS 2) (cstS (.int 0)))) (notT (tstS (chnS (cmpW .Lt) (cmpW .LtE) (cstS (.int 0)) (op2S idxW (varS 3) (cstS (.int 0))) (cstS (.int 199)))))))
  (raiseS 2 ["code", "at"] (consA (cstS (.int 16)) (consA (cstS (.int 0)) nilA)))
  nextS)
  (seqS (dropS (callN cs 21 [.ix 0] 1 0 (consA (slcS (varS 3) (someO (cstS (.int 1))) noO) nilA) nilA))
  (fstS [7] "own_over" (varS 0) (callN cs 3 [.ix 0] 1 0 (consA (op2S idxW (varS 3) (cstS (.int 0))) nilA) nilA)))))
  nextS)
  (seqS (stiS (fldC [7] "own_ended" (varS 0)) (fldC [5] "talk" (varS 1)) (cstS (.bl true)))
  (dropS (mtS .pop2 (fldC [4, 7] "own_begun" (varS 0)) (consA (fldC [5] "talk" (varS 1)) (consA (cstS .non) nilA))))))
def L46_1 (cs : MP.Sem) : TwS :=
  (seqS (ifS' (truS (methN cs [(7, (42, [.ix 0]))] "is_over" 0 0 (varS 2) nilA nilA))
  (retS (varS 1))
  nextS)
  (try0S (fun c => lk ow.exm (c, 2))
  (dropS (mtS .extend (varS 1) (consA (methN cs [(7, (43, [.ix 0, .ix 1]))] "take" 1 0 (varS 2) (consA (varS 4) nilA) nilA) nilA)))
  badS))
/-- joined_in -/
def b46 (cs : MP.Sem) : TwS :=
  (seqS (setS 1 (lstS nilA))
  (seqS (setS 2 (mkN cs 7 41 [.ix 0] 0 0 nilA nilA))
  (seqS (forS (enm1I (consA (varS 0) nilA)) (.tup [3, 4])
  (L46_1 cs))
  (retS (varS 1)))))
/-- _law_cell_at -/
def b47 (cs : MP.Sem) : TwS :=
  (seqS (ifS' (tstS (op2S (cmpW .Lt) (varS 1) (biS (biW kt .len) (consA (varS 0) nilA))))
  (retS (op2S idxW (varS 0) (varS 1)))
  nextS)
  (retS (cstS (.int 0))))
/-- _law_box -/
def b48 (cs : MP.Sem) : TwS :=
  (seqS (setS 2 (callN cs 47 [.ix 0, .ix 1] 2 0 (consA (varS 0) (consA (varS 1) nilA)) nilA))
  (retS (lstS (consA (op2S (binW .Mult) (biS (biW kt .abs) (consA (varS 2) nilA)) (biS (biW kt .int) (consA (op2S (cmpW .GtE) (biS (biW kt .abs) (consA (varS 2) nilA)) (op2S (binW .Pow) (cstS (.int 10)) (cstS (.int 18)))) nilA))) (consA (op2S (binW .Add) (op2S (binW .Add) (op2S (binW .Mod) (varS 2) (cstS (.int 2305843009213693951))) (op2S (binW .Mult) (cstS (.int 39373)) (varS 1))) (cstS (.int 17))) (consA (cstS (.int 0)) nilA))))))
/-- _law_take -/
def b49 (cs : MP.Sem) : TwS :=
  (seqS (ifS' (tstS (op2S (cmpW .Gt) (op2S idxW (varS 0) (cstS (.int 0))) (cstS (.int 0))))
  (seqS (setS 2 (op2S (binW .Mod) (op2S idxW (varS 0) (cstS (.int 0))) (varS 1)))
  (seqS (stiS (varS 0) (cstS (.int 0)) (op2S (binW .FloorDiv) (op2S idxW (varS 0) (cstS (.int 0))) (varS 1)))
  (retS (varS 2))))
  nextS)
  (seqS (stiS (varS 0) (cstS (.int 2)) (op2S (binW .Add) (op2S idxW (varS 0) (cstS (.int 2))) (cstS (.int 1))))
  (seqS (setS 3 (op2S (binW .Mod) (op2S (binW .Mult) (op2S (binW .Add) (op2S idxW (varS 0) (cstS (.int 1))) (op2S (binW .Mult) (cstS (.int 48271)) (op2S idxW (varS 0) (cstS (.int 2))))) (op2S (binW .Add) (cstS (.int 39373)) (op2S idxW (varS 0) (cstS (.int 2))))) (cstS (.int 2147483647))))
  (seqS (setS 4 (op2S (binW .Mod) (op2S (binW .Mult) (op2S (binW .Add) (op2S (binW .Add) (varS 3) (op2S idxW (varS 0) (cstS (.int 2)))) (op2S (binW .FloorDiv) (op2S idxW (varS 0) (cstS (.int 1))) (cstS (.int 1000003)))) (op2S (binW .Add) (op2S (binW .Mod) (varS 3) (cstS (.int 40009))) (cstS (.int 7)))) (cstS (.int 2147483629))))
  (retS (op2S (binW .Mod) (op2S (binW .FloorDiv) (op2S (binW .Mod) (op2S (binW .Add) (op2S (binW .Mult) (varS 4) (cstS (.int 48271))) (varS 3)) (cstS (.int 2147483587))) (cstS (.int 64))) (varS 1)))))))
/-- _law_same -/
def b50 (cs : MP.Sem) : TwS :=
  (seqS (ifS' (truS (biS (biW kt .isinstance) (consA (varS 1) (consA (tupS (consA (cstS (.ty "list")) (consA (cstS (.ty "tuple")) nilA))) nilA))))
  (seqS (ifS' (orT (tstS (op2S (cmpW .NotEq) (biS (biW kt .isinstance) (consA (varS 0) (consA (cstS (.ty "list")) nilA))) (biS (biW kt .isinstance) (consA (varS 1) (consA (cstS (.ty "list")) nilA))))) (tstS (op2S (cmpW .NotEq) (biS (biW kt .isinstance) (consA (varS 0) (consA (cstS (.ty "tuple")) nilA))) (biS (biW kt .isinstance) (consA (varS 1) (consA (cstS (.ty "tuple")) nilA))))))
  (retS (cstS (.bl false)))
  nextS)
  (retS (andS (op2S (cmpW .Eq) (biS (biW kt .len) (consA (varS 0) nilA)) (biS (biW kt .len) (consA (varS 1) nilA))) (biS (biW kt .all) (consA (lcS [2, 3] (zpI (consA (varS 0) (consA (varS 1) nilA))) (.tup [2, 3]) yesT (callN cs 50 [.ix 0, .ix 1] 2 0 (consA (varS 2) (consA (varS 3) nilA)) nilA)) nilA)))))
  nextS)
  (seqS (ifS' (orT (tstS (op2S (cmpW .NotEq) (biS (biW kt .isinstance) (consA (varS 0) (consA (cstS (.ty "bool")) nilA))) (biS (biW kt .isinstance) (consA (varS 1) (consA (cstS (.ty "bool")) nilA))))) (tstS (op2S (cmpW .NotEq) (biS (biW kt .isinstance) (consA (varS 0) (consA (cstS (.ty "int")) nilA))) (biS (biW kt .isinstance) (consA (varS 1) (consA (cstS (.ty "int")) nilA))))))
  (retS (cstS (.bl false)))
  nextS)
  (retS (op2S (cmpW .Eq) (varS 0) (varS 1)))))
/-- _law_of -/
def b51 (cs : MP.Sem) : TwS :=
  (retS (op2S idxW (varS 1) (callN cs 49 [.ix 0, .ix 1] 2 0 (consA (varS 0) (consA (biS (biW kt .len) (consA (varS 1) nilA)) nilA)) nilA)))
/-- _law_cases -/
def b52 (cs : MP.Sem) : TwS :=
  (seqS (parS [1, 2] (consA (op2S (binW .Add) (cstS (.int 1)) (callN cs 49 [.ix 0, .ix 1] 2 0 (consA (varS 0) (consA (cstS (.int 30)) nilA)) nilA)) (consA (op2S (binW .Add) (cstS (.int 1)) (callN cs 49 [.ix 0, .ix 1] 2 0 (consA (varS 0) (consA (cstS (.int 9)) nilA)) nilA)) nilA)))
  (seqS (setS 3 (op2S (binW .Add) (op2S (binW .Mult) (lstS (consA (varS 2) nilA)) (op2S (binW .FloorDiv) (varS 1) (varS 2))) (op2S (binW .Mult) (lstS (consA (op2S (binW .Mod) (varS 1) (varS 2)) nilA)) (biS (biW kt .int) (consA (op2S (cmpW .Gt) (op2S (binW .Mod) (varS 1) (varS 2)) (cstS (.int 0))) nilA)))))
  (seqS (setS 4 (lstS (consA (tupS (consA (lstS nilA) (consA (varS 2) (consA (varS 1) (consA (varS 3) nilA))))) (consA (tupS (consA (lstS (consA (cstS (.int 0)) (consA (cstS (.int 0)) nilA))) (consA (varS 2) (consA (varS 1) (consA (op2S (binW .Add) (lstS (consA (cstS (.int 0)) (consA (cstS (.int 0)) nilA))) (varS 3)) nilA))))) (consA (tupS (consA (lstS (consA (varS 1) nilA)) (consA (varS 2) (consA (varS 1) (consA (lstS (consA (varS 1) nilA)) nilA))))) nilA)))))
  (seqS (setS 4 (op2S (binW .Add) (varS 4) (lstS (consA (tupS (consA (lstS (consA (op2S (binW .Add) (varS 1) (cstS (.int 5))) (consA (cstS (.int 3)) nilA))) (consA (varS 2) (consA (varS 1) (consA (lstS (consA (varS 1) nilA)) nilA))))) (consA (tupS (consA (lstS (consA (varS 1) (consA (cstS (.int 0)) (consA (cstS (.int 0)) nilA)))) (consA (varS 2) (consA (varS 1) (consA (lstS (consA (varS 1) nilA)) nilA))))) nilA)))))
  (seqS (setS 4 (op2S (binW .Add) (varS 4) (lstS (consA (tupS (consA (lstS (consA (cstS (.int 0)) (consA (varS 1) (consA (cstS (.int 0)) (consA (cstS (.int 7)) nilA))))) (consA (varS 2) (consA (varS 1) (consA (lstS (consA (cstS (.int 0)) (consA (varS 1) nilA))) nilA))))) (consA (tupS (consA (lstS nilA) (consA (varS 2) (consA (cstS (.int 0)) (consA (lstS (consA (cstS (.int 0)) nilA)) nilA))))) (consA (tupS (consA (lstS (consA (cstS (.int 0)) (consA (cstS (.int 0)) (consA (cstS (.int 5)) nilA)))) (consA (varS 2) (consA (cstS (.int 0)) (consA (lstS (consA (cstS (.int 0)) nilA)) nilA))))) nilA))))))
  (seqS (setS 4 (op2S (binW .Add) (varS 4) (lstS (consA (tupS (consA (op2S (binW .Mult) (lstS (consA (cstS (.int 1)) nilA)) (cstS (.int 60))) (consA (varS 2) (consA (varS 1) (consA (op2S (binW .Mult) (lstS (consA (cstS (.int 1)) nilA)) (varS 1)) nilA))))) (consA (tupS (consA (op2S (binW .Add) (op2S (binW .Mult) (lstS (consA (cstS (.int 0)) nilA)) (cstS (.int 59))) (lstS (consA (varS 1) nilA))) (consA (cstS (.int 1)) (consA (varS 1) (consA (op2S (binW .Add) (op2S (binW .Mult) (lstS (consA (cstS (.int 0)) nilA)) (cstS (.int 59))) (lstS (consA (varS 1) nilA))) nilA))))) nilA)))))
  (seqS (setS 5 (callN cs 49 [.ix 0, .ix 1] 2 0 (consA (varS 0) (consA (varS 1) nilA)) nilA))
  (seqS (setS 6 (op2S (binW .Mult) (lstS (consA (cstS (.int 1)) nilA)) (op2S (binW .Sub) (varS 1) (varS 5))))
  (seqS (setS 4 (op2S (binW .Add) (varS 4) (lstS (consA (tupS (consA (lstS (consA (varS 5) (consA (cstS (.int 0)) nilA))) (consA (cstS (.int 1)) (consA (varS 1) (consA (op2S (binW .Add) (lstS (consA (varS 5) (consA (cstS (.int 0)) nilA))) (varS 6)) nilA))))) (consA (tupS (consA (lstS nilA) (consA (varS 1) (consA (varS 1) (consA (lstS (consA (varS 1) nilA)) nilA))))) (consA (tupS (consA (lstS nilA) (consA (op2S (binW .Add) (varS 1) (cstS (.int 9))) (consA (varS 1) (consA (lstS (consA (varS 1) nilA)) nilA))))) nilA))))))
  (retS (varS 4)))))))))))
/-- _law_lengths -/
def b53 (cs : MP.Sem) : TwS :=
  (retS (lcS [1] (seqI (varS 0)) (.nm 1) yesT (biS (biW kt .len) (consA (fldC [5] "data" (varS 1)) nilA))))
def L54_2 (cs : MP.Sem) : TwS :=
  (seqS (setS 8 (op2S (binW .Sub) (biS (biW kt .len) (consA (varS 4) nilA)) (cstS (.int 1))))
  (seqS (ifS' (orT (notT (truS (callN cs 50 [.ix 0, .ix 1] 2 0 (consA (callN cs 53 [.ix 0] 1 0 (consA (varS 7) nilA) nilA) (consA (varS 4) nilA)) nilA))) (tstS (op2S (cmpW .NotEq) (lcS [12] (seqI (varS 7)) (.nm 12) yesT (fldC [5] "last" (varS 12))) (op2S (binW .Add) (op2S (binW .Mult) (lstS (consA (cstS (.bl false)) nilA)) (varS 8)) (lstS (consA (cstS (.bl true)) nilA))))))
  (retS (cstS (.bl false)))
  nextS)
  (ifS' (orT (tstS (op2S (cmpW .NotEq) (lcS [12] (seqI (varS 7)) (.nm 12) yesT (fldC [5] "kind" (varS 12))) (op2S (binW .Add) (lstS (consA (cstS (.int 2)) nilA)) (op2S (binW .Mult) (lstS (consA (cstS (.int 0)) nilA)) (varS 8))))) (notT (truS (callN cs 50 [.ix 0, .ix 1] 2 0 (consA (callN cs 46 [.ix 0] 1 0 (consA (varS 7) nilA) nilA) (consA (lstS (consA (tupS (consA (cstS (.int 4)) (consA (cstS (.str "bytes")) (consA (varS 5) nilA)))) nilA)) nilA)) nilA))))
  (retS (cstS (.bl false)))
  nextS)))
def L54_1 (cs : MP.Sem) : TwS :=
  (seqS (setS 5 (lcS [11] (rng1I (consA (varS 3) nilA)) (.nm 11) yesT (callN cs 49 [.ix 0, .ix 1] 2 0 (consA (varS 0) (consA (cstS (.int 256)) nilA)) nilA)))
  (seqS (setS 6 (lstS (consA (callN cs 37 [.ix 0, .ix 1, .ix 2, .ix 3, .ix 4] 3 2 (consA (cstS (.int 4)) (consA (cstS (.str "bytes")) (consA (varS 5) nilA))) (consA (varS 1) (consA (varS 2) nilA))) nilA)))
  (seqS (dropS (mtS .append (varS 6) (consA (callN cs 37 [.ix 4, .ix 3, .ix 2, .ix 1, .ix 0] 0 5 nilA (consA (varS 2) (consA (biS (biW kt .tuple) (consA (varS 1) nilA)) (consA (varS 5) (consA (cstS (.str "bytes")) (consA (cstS (.int 4)) nilA)))))) nilA)))
  (forS (seqI (varS 6)) (.nm 7)
  (L54_2 cs)))))
/-- _law_right -/
def b54 (cs : MP.Sem) : TwS :=
  (seqS (forS (seqI (callN cs 52 [.ix 0] 1 0 (consA (varS 0) nilA) nilA)) (.tup [1, 2, 3, 4])
  (L54_1 cs))
  (seqS (setS 9 (lcS [11] (rng1I (consA (op2S (binW .Add) (cstS (.int 1)) (callN cs 49 [.ix 0, .ix 1] 2 0 (consA (varS 0) (consA (cstS (.int 9)) nilA)) nilA)) nilA)) (.nm 11) yesT (op2S (binW .Add) (cstS (.int 2048)) (callN cs 49 [.ix 0, .ix 1] 2 0 (consA (varS 0) (consA (cstS (.int 9999)) nilA)) nilA))))
  (seqS (setS 7 (callN cs 37 [.ix 0, .ix 1, .ix 2, .df (.tup []), .ix 3] 3 1 (consA (cstS (.int 5)) (consA (cstS (.str "words")) (consA (varS 9) nilA))) (consA (cstS (.int 1)) nilA)))
  (seqS (ifS' (orT (tstS (op2S (cmpW .NotEq) (biS (biW kt .len) (consA (varS 7) nilA)) (op2S (binW .Mult) (cstS (.int 3)) (biS (biW kt .len) (consA (varS 9) nilA))))) (tstS (op2S (cmpW .NotEq) (lcS [12] (seqI (varS 7)) (.nm 12) yesT (fldC [5] "kind" (varS 12))) (op2S (binW .Add) (lstS (consA (cstS (.int 1)) nilA)) (op2S (binW .Mult) (lstS (consA (cstS (.int 0)) nilA)) (op2S (binW .Sub) (biS (biW kt .len) (consA (varS 7) nilA)) (cstS (.int 1))))))))
  (retS (cstS (.bl false)))
  nextS)
  (seqS (setS 10 (op2S (binW .Mult) (lstS (consA (cstS (.int 7)) nilA)) (op2S (binW .Add) (op2S (binW .Add) (cstS (.int 100)) (cstS (.int 1))) (callN cs 49 [.ix 0, .ix 1] 2 0 (consA (varS 0) (consA (cstS (.int 90)) nilA)) nilA))))
  (seqS (ifS' (orT (tstS (op2S (cmpW .NotEq) (callN cs 53 [.ix 0] 1 0 (consA (callN cs 37 [.ix 0, .ix 1, .ix 2, .df (.tup []), .df (.int 100)] 3 0 (consA (cstS (.int 5)) (consA (cstS (.str "bytes")) (consA (varS 10) nilA))) nilA) nilA) nilA) (lstS (consA (cstS (.int 100)) (consA (op2S (binW .Sub) (biS (biW kt .len) (consA (varS 10) nilA)) (cstS (.int 100))) nilA))))) (tstS (op2S (cmpW .NotEq) (cstS (.int 100)) (cstS (.int 100)))))
  (retS (cstS (.bl false)))
  nextS)
  (retS (callN cs 50 [.ix 0, .ix 1] 2 0 (consA (callN cs 46 [.ix 0] 1 0 (consA (varS 7) nilA) nilA) (consA (lstS (consA (tupS (consA (cstS (.int 5)) (consA (cstS (.str "words")) (consA (varS 9) nilA)))) nilA)) nilA)) nilA))))))))
/-- law -/
def b55 (cs : MP.Sem) : TwS :=
  (retS (biS (biW kt .all) (consA (lcS [1] (rng1I (consA (op2S (binW .Add) (cstS (.int 1)) (biS (biW kt .min) (consA (cstS (.int 4)) (consA (biS (biW kt .len) (consA (varS 0) nilA)) nilA)))) nilA)) (.nm 1) yesT (callN cs 54 [.ix 0] 1 0 (consA (callN cs 48 [.ix 0, .ix 1] 2 0 (consA (varS 0) (consA (varS 1) nilA)) nilA) nilA) nilA)) nilA)))
/-- BadSlip.__init__ -/
def b56 (cs : MP.Sem) : TwS :=
  (seqS (dropS (methN cs [(5, (28, [.ix 0, .ix 1, .ix 2, .df (.tup []), .df (.bl true), .df .non]))] "__init__" 2 0 (cstS (.ty "ValueError")) (consA (varS 0) (consA (cstS (.str "refused")) nilA)) nilA))
  badS)
/-- BadLetter.__init__ -/
def b57 (cs : MP.Sem) : TwS :=
  (seqS (dropS (methN cs [(5, (28, [.ix 0, .ix 1, .ix 2, .df (.tup []), .df (.bl true), .df .non]))] "__init__" 2 0 (cstS (.ty "ValueError")) (consA (varS 0) (consA (cstS (.str "refused")) nilA)) nilA))
  badS)
/-- Fault.__init__ -/
def b58 (cs : MP.Sem) : TwS :=
  (seqS (dropS (methN cs [(5, (28, [.ix 0, .ix 1, .ix 2, .df (.tup []), .df (.bl true), .df .non]))] "__init__" 2 0 (cstS (.ty "ValueError")) (consA (varS 0) (consA (cstS (.str "refused")) nilA)) nilA))
  (seqS badS
  badS))
def bs : List FnE := (⟨1, 1, b0⟩ :: ⟨1, 1, b1⟩ :: ⟨1, 2, b2⟩ :: ⟨1, 1, b3⟩ :: ⟨1, 1, b4⟩ :: ⟨1, 2, b5⟩ :: ⟨1, 2, b6⟩ :: ⟨1, 3, b7⟩ :: ⟨1, 1, b8⟩ :: ⟨1, 1, b9⟩ :: ⟨2, 4, b10⟩ :: ⟨1, 5, b11⟩ :: ⟨1, 1, b12⟩ :: ⟨2, 4, b13⟩ :: ⟨1, 1, b14⟩ :: ⟨1, 1, b15⟩ :: ⟨1, 1, b16⟩ :: ⟨1, 1, b17⟩ :: ⟨2, 2, b18⟩ :: ⟨1, 3, b19⟩ :: ⟨1, 1, b20⟩ :: ⟨1, 3, b21⟩ :: ⟨1, 2, b22⟩ :: ⟨3, 5, b23⟩ :: ⟨1, 5, b24⟩ :: ⟨1, 1, b25⟩ :: ⟨1, 1, b26⟩ :: ⟨5, 5, b27⟩ :: ⟨6, 7, b28⟩ :: ⟨1, 1, b29⟩ :: ⟨2, 3, b30⟩ :: ⟨1, 2, b31⟩ :: ⟨1, 1, b32⟩ :: ⟨1, 3, b33⟩ :: ⟨1, 2, b34⟩ :: ⟨2, 3, b35⟩ :: ⟨3, 6, b36⟩ :: ⟨5, 10, b37⟩ :: ⟨2, 2, b38⟩ :: ⟨2, 3, b39⟩ :: ⟨2, 2, b40⟩ :: ⟨1, 1, b41⟩ :: ⟨1, 1, b42⟩ :: ⟨2, 2, b43⟩ :: ⟨2, 3, b44⟩ :: ⟨2, 4, b45⟩ :: ⟨1, 5, b46⟩ :: ⟨2, 2, b47⟩ :: ⟨2, 3, b48⟩ :: ⟨2, 5, b49⟩ :: ⟨2, 4, b50⟩ :: ⟨2, 2, b51⟩ :: ⟨1, 7, b52⟩ :: ⟨1, 2, b53⟩ :: ⟨1, 13, b54⟩ :: ⟨1, 2, b55⟩ :: ⟨2, 2, b56⟩ :: ⟨2, 2, b57⟩ :: ⟨3, 3, b58⟩ :: [])
theorem c0 (cs : MP.Sem) : ssOf (cmpS cs (Cg.of gl calls kt ow D0.N D0.d.scope) 60) D0.d.body = some (b0 cs) := by kernel_rfl
theorem c1 (cs : MP.Sem) : ssOf (cmpS cs (Cg.of gl calls kt ow D1.N D1.d.scope) 60) D1.d.body = some (b1 cs) := by kernel_rfl
theorem c2 (cs : MP.Sem) : ssOf (cmpS cs (Cg.of gl calls kt ow D2.N D2.d.scope) 60) D2.d.body = some (b2 cs) := by kernel_rfl
theorem c3 (cs : MP.Sem) : ssOf (cmpS cs (Cg.of gl calls kt ow D3.N D3.d.scope) 60) D3.d.body = some (b3 cs) := by kernel_rfl
theorem c4 (cs : MP.Sem) : ssOf (cmpS cs (Cg.of gl calls kt ow D4.N D4.d.scope) 60) D4.d.body = some (b4 cs) := by kernel_rfl
theorem c5 (cs : MP.Sem) : ssOf (cmpS cs (Cg.of gl calls kt ow D5.N D5.d.scope) 60) D5.d.body = some (b5 cs) := by kernel_rfl
theorem c6 (cs : MP.Sem) : ssOf (cmpS cs (Cg.of gl calls kt ow D6.N D6.d.scope) 60) D6.d.body = some (b6 cs) := by kernel_rfl
theorem c7 (cs : MP.Sem) : ssOf (cmpS cs (Cg.of gl calls kt ow D7.N D7.d.scope) 60) D7.d.body = some (b7 cs) := by kernel_rfl
theorem c8 (cs : MP.Sem) : ssOf (cmpS cs (Cg.of gl calls kt ow D8.N D8.d.scope) 60) D8.d.body = some (b8 cs) := by kernel_rfl
theorem c9 (cs : MP.Sem) : ssOf (cmpS cs (Cg.of gl calls kt ow D9.N D9.d.scope) 60) D9.d.body = some (b9 cs) := by kernel_rfl
theorem c10 (cs : MP.Sem) : ssOf (cmpS cs (Cg.of gl calls kt ow D10.N D10.d.scope) 60) D10.d.body = some (b10 cs) := by kernel_rfl
theorem c11 (cs : MP.Sem) : ssOf (cmpS cs (Cg.of gl calls kt ow D11.N D11.d.scope) 60) D11.d.body = some (b11 cs) := by kernel_rfl
theorem c12 (cs : MP.Sem) : ssOf (cmpS cs (Cg.of gl calls kt ow D12.N D12.d.scope) 60) D12.d.body = some (b12 cs) := by kernel_rfl
theorem c13 (cs : MP.Sem) : ssOf (cmpS cs (Cg.of gl calls kt ow D13.N D13.d.scope) 60) D13.d.body = some (b13 cs) := by kernel_rfl
theorem c14 (cs : MP.Sem) : ssOf (cmpS cs (Cg.of gl calls kt ow D14.N D14.d.scope) 60) D14.d.body = some (b14 cs) := by kernel_rfl
theorem c15 (cs : MP.Sem) : ssOf (cmpS cs (Cg.of gl calls kt ow D15.N D15.d.scope) 60) D15.d.body = some (b15 cs) := by kernel_rfl
theorem c16 (cs : MP.Sem) : ssOf (cmpS cs (Cg.of gl calls kt ow D16.N D16.d.scope) 60) D16.d.body = some (b16 cs) := by kernel_rfl
theorem c17 (cs : MP.Sem) : ssOf (cmpS cs (Cg.of gl calls kt ow D17.N D17.d.scope) 60) D17.d.body = some (b17 cs) := by kernel_rfl
theorem c18 (cs : MP.Sem) : ssOf (cmpS cs (Cg.of gl calls kt ow D18.N D18.d.scope) 60) D18.d.body = some (b18 cs) := by kernel_rfl
theorem c19 (cs : MP.Sem) : ssOf (cmpS cs (Cg.of gl calls kt ow D19.N D19.d.scope) 60) D19.d.body = some (b19 cs) := by kernel_rfl
theorem c20 (cs : MP.Sem) : ssOf (cmpS cs (Cg.of gl calls kt ow D20.N D20.d.scope) 60) D20.d.body = some (b20 cs) := by kernel_rfl
theorem c21 (cs : MP.Sem) : ssOf (cmpS cs (Cg.of gl calls kt ow D21.N D21.d.scope) 60) D21.d.body = some (b21 cs) := by kernel_rfl
theorem c22 (cs : MP.Sem) : ssOf (cmpS cs (Cg.of gl calls kt ow D22.N D22.d.scope) 60) D22.d.body = some (b22 cs) := by kernel_rfl
theorem c23 (cs : MP.Sem) : ssOf (cmpS cs (Cg.of gl calls kt ow D23.N D23.d.scope) 60) D23.d.body = some (b23 cs) := by kernel_rfl
theorem c24 (cs : MP.Sem) : ssOf (cmpS cs (Cg.of gl calls kt ow D24.N D24.d.scope) 60) D24.d.body = some (b24 cs) := by kernel_rfl
theorem c25 (cs : MP.Sem) : ssOf (cmpS cs (Cg.of gl calls kt ow D25.N D25.d.scope) 60) D25.d.body = some (b25 cs) := by kernel_rfl
theorem c26 (cs : MP.Sem) : ssOf (cmpS cs (Cg.of gl calls kt ow D26.N D26.d.scope) 60) D26.d.body = some (b26 cs) := by kernel_rfl
theorem c27 (cs : MP.Sem) : ssOf (cmpS cs (Cg.of gl calls kt ow D27.N D27.d.scope) 60) D27.d.body = some (b27 cs) := by kernel_rfl
theorem c28 (cs : MP.Sem) : ssOf (cmpS cs (Cg.of gl calls kt ow D28.N D28.d.scope) 60) D28.d.body = some (b28 cs) := by kernel_rfl
theorem c29 (cs : MP.Sem) : ssOf (cmpS cs (Cg.of gl calls kt ow D29.N D29.d.scope) 60) D29.d.body = some (b29 cs) := by kernel_rfl
theorem c30 (cs : MP.Sem) : ssOf (cmpS cs (Cg.of gl calls kt ow D30.N D30.d.scope) 60) D30.d.body = some (b30 cs) := by kernel_rfl
theorem c31 (cs : MP.Sem) : ssOf (cmpS cs (Cg.of gl calls kt ow D31.N D31.d.scope) 60) D31.d.body = some (b31 cs) := by kernel_rfl
theorem c32 (cs : MP.Sem) : ssOf (cmpS cs (Cg.of gl calls kt ow D32.N D32.d.scope) 60) D32.d.body = some (b32 cs) := by kernel_rfl
theorem c33 (cs : MP.Sem) : ssOf (cmpS cs (Cg.of gl calls kt ow D33.N D33.d.scope) 60) D33.d.body = some (b33 cs) := by kernel_rfl
theorem c34 (cs : MP.Sem) : ssOf (cmpS cs (Cg.of gl calls kt ow D34.N D34.d.scope) 60) D34.d.body = some (b34 cs) := by kernel_rfl
theorem c35 (cs : MP.Sem) : ssOf (cmpS cs (Cg.of gl calls kt ow D35.N D35.d.scope) 60) D35.d.body = some (b35 cs) := by kernel_rfl
theorem c36 (cs : MP.Sem) : ssOf (cmpS cs (Cg.of gl calls kt ow D36.N D36.d.scope) 60) D36.d.body = some (b36 cs) := by kernel_rfl
theorem c37 (cs : MP.Sem) : ssOf (cmpS cs (Cg.of gl calls kt ow D37.N D37.d.scope) 60) D37.d.body = some (b37 cs) := by kernel_rfl
theorem c38 (cs : MP.Sem) : ssOf (cmpS cs (Cg.of gl calls kt ow D38.N D38.d.scope) 60) D38.d.body = some (b38 cs) := by kernel_rfl
theorem c39 (cs : MP.Sem) : ssOf (cmpS cs (Cg.of gl calls kt ow D39.N D39.d.scope) 60) D39.d.body = some (b39 cs) := by kernel_rfl
theorem c40 (cs : MP.Sem) : ssOf (cmpS cs (Cg.of gl calls kt ow D40.N D40.d.scope) 60) D40.d.body = some (b40 cs) := by kernel_rfl
theorem c41 (cs : MP.Sem) : ssOf (cmpS cs (Cg.of gl calls kt ow D41.N D41.d.scope) 60) D41.d.body = some (b41 cs) := by kernel_rfl
theorem c42 (cs : MP.Sem) : ssOf (cmpS cs (Cg.of gl calls kt ow D42.N D42.d.scope) 60) D42.d.body = some (b42 cs) := by kernel_rfl
theorem c43 (cs : MP.Sem) : ssOf (cmpS cs (Cg.of gl calls kt ow D43.N D43.d.scope) 60) D43.d.body = some (b43 cs) := by kernel_rfl
theorem c44 (cs : MP.Sem) : ssOf (cmpS cs (Cg.of gl calls kt ow D44.N D44.d.scope) 60) D44.d.body = some (b44 cs) := by kernel_rfl
theorem c45 (cs : MP.Sem) : ssOf (cmpS cs (Cg.of gl calls kt ow D45.N D45.d.scope) 60) D45.d.body = some (b45 cs) := by kernel_rfl
theorem c46 (cs : MP.Sem) : ssOf (cmpS cs (Cg.of gl calls kt ow D46.N D46.d.scope) 60) D46.d.body = some (b46 cs) := by kernel_rfl
theorem c47 (cs : MP.Sem) : ssOf (cmpS cs (Cg.of gl calls kt ow D47.N D47.d.scope) 60) D47.d.body = some (b47 cs) := by kernel_rfl
theorem c48 (cs : MP.Sem) : ssOf (cmpS cs (Cg.of gl calls kt ow D48.N D48.d.scope) 60) D48.d.body = some (b48 cs) := by kernel_rfl
theorem c49 (cs : MP.Sem) : ssOf (cmpS cs (Cg.of gl calls kt ow D49.N D49.d.scope) 60) D49.d.body = some (b49 cs) := by kernel_rfl
theorem c50 (cs : MP.Sem) : ssOf (cmpS cs (Cg.of gl calls kt ow D50.N D50.d.scope) 60) D50.d.body = some (b50 cs) := by kernel_rfl
theorem c51 (cs : MP.Sem) : ssOf (cmpS cs (Cg.of gl calls kt ow D51.N D51.d.scope) 60) D51.d.body = some (b51 cs) := by kernel_rfl
theorem c52 (cs : MP.Sem) : ssOf (cmpS cs (Cg.of gl calls kt ow D52.N D52.d.scope) 60) D52.d.body = some (b52 cs) := by kernel_rfl
theorem c53 (cs : MP.Sem) : ssOf (cmpS cs (Cg.of gl calls kt ow D53.N D53.d.scope) 60) D53.d.body = some (b53 cs) := by kernel_rfl
theorem c54 (cs : MP.Sem) : ssOf (cmpS cs (Cg.of gl calls kt ow D54.N D54.d.scope) 60) D54.d.body = some (b54 cs) := by kernel_rfl
theorem c55 (cs : MP.Sem) : ssOf (cmpS cs (Cg.of gl calls kt ow D55.N D55.d.scope) 60) D55.d.body = some (b55 cs) := by kernel_rfl
theorem c56 (cs : MP.Sem) : ssOf (cmpS cs (Cg.of gl calls kt ow D56.N D56.d.scope) 60) D56.d.body = some (b56 cs) := by kernel_rfl
theorem c57 (cs : MP.Sem) : ssOf (cmpS cs (Cg.of gl calls kt ow D57.N D57.d.scope) 60) D57.d.body = some (b57 cs) := by kernel_rfl
theorem c58 (cs : MP.Sem) : ssOf (cmpS cs (Cg.of gl calls kt ow D58.N D58.d.scope) 60) D58.d.body = some (b58 cs) := by kernel_rfl
def gs : List (PySem.W.Frag → Bool) := (tupAtB (He.dflAt ("Slip", some "__init__") 0) [] :: tupAtB (kwdAt ("slips_for", none) "sizes") [] :: tupAtB (fun K => He.ga K "SORTS") [(.int 0), (.int 1), (.int 2), (.int 8), (.int 9), (.int 10)] :: dicVB (fun K => He.ga K "NAMES") [(.str "more"), (.str "words"), (.str "bytes"), (.str "end"), (.str "bell"), (.str "echo")] :: dicVB (fun K => He.ga K "FIRST_SORTS") [(.int 1), (.int 2)] :: exB "BadSlip" ["part"] :: exB "BadLetter" ["part"] :: exB "Fault" ["code", "at"] :: exmB "BadSlip" "Fault" false :: exmB "BadLetter" "Fault" false :: exmB "Fault" "Fault" true :: kitB1 (fun K => .ref (He.ga K "Signs")) (fun K => .ref (He.ga K "Signs")) true :: kitB1 (fun K => .ref (He.ga K "Slip")) (fun K => .ref (He.ga K "Signs")) false :: kitB1 (fun _ => .type "NoneType") (fun K => .ref (He.ga K "Signs")) false :: kitB1 (fun _ => .type "bool") (fun K => .ref (He.ga K "Signs")) false :: kitB1 (fun _ => .type "int") (fun K => .ref (He.ga K "Signs")) false :: kitB1 (fun _ => .type "str") (fun K => .ref (He.ga K "Signs")) false :: kitB1 (fun _ => .type "list") (fun K => .ref (He.ga K "Signs")) false :: kitB1 (fun _ => .type "tuple") (fun K => .ref (He.ga K "Signs")) false :: kitB1 (fun K => .ref (He.ga K "Signs")) (fun K => .ref (He.ga K "Slip")) false :: kitB1 (fun K => .ref (He.ga K "Slip")) (fun K => .ref (He.ga K "Slip")) true :: kitB1 (fun _ => .type "NoneType") (fun K => .ref (He.ga K "Slip")) false :: kitB1 (fun _ => .type "bool") (fun K => .ref (He.ga K "Slip")) false :: kitB1 (fun _ => .type "int") (fun K => .ref (He.ga K "Slip")) false :: kitB1 (fun _ => .type "str") (fun K => .ref (He.ga K "Slip")) false :: kitB1 (fun _ => .type "list") (fun K => .ref (He.ga K "Slip")) false :: kitB1 (fun _ => .type "tuple") (fun K => .ref (He.ga K "Slip")) false :: kitB1 (fun K => .ref (He.ga K "Signs")) (fun _ => .type "list") false :: kitB1 (fun K => .ref (He.ga K "Signs")) (fun _ => .type "tuple") false :: kitB1 (fun K => .ref (He.ga K "Signs")) (fun _ => .type "int") false :: kitB1 (fun K => .ref (He.ga K "Signs")) (fun _ => .type "bool") false :: kitB1 (fun K => .ref (He.ga K "Signs")) (fun _ => .type "str") false :: kitB1 (fun K => .ref (He.ga K "Slip")) (fun _ => .type "list") false :: kitB1 (fun K => .ref (He.ga K "Slip")) (fun _ => .type "tuple") false :: kitB1 (fun K => .ref (He.ga K "Slip")) (fun _ => .type "int") false :: kitB1 (fun K => .ref (He.ga K "Slip")) (fun _ => .type "bool") false :: kitB1 (fun K => .ref (He.ga K "Slip")) (fun _ => .type "str") false :: ownB "Signs" :: ownB "Slip" :: [])
def dtbs : List DTab := [(fun K => He.ga K "NAMES", [(.inl 0), (.inl 1), (.inl 2), (.inl 8), (.inl 9), (.inl 10)]), (fun K => He.ga K "FIRST_SORTS", [(.inr "words"), (.inr "bytes")])]
def fn : List He.DefD := (D0.d :: D1.d :: D2.d :: D3.d :: D4.d :: D5.d :: D6.d :: D7.d :: D8.d :: D9.d :: D10.d :: D11.d :: D12.d :: D13.d :: D14.d :: D15.d :: D16.d :: D17.d :: D18.d :: D19.d :: D20.d :: D21.d :: D22.d :: D23.d :: D24.d :: D25.d :: D26.d :: D27.d :: D28.d :: D29.d :: D30.d :: D31.d :: D32.d :: D33.d :: D34.d :: D35.d :: D36.d :: D37.d :: D38.d :: D39.d :: D40.d :: D41.d :: D42.d :: D43.d :: D44.d :: D45.d :: D46.d :: D47.d :: D48.d :: D49.d :: D50.d :: D51.d :: D52.d :: D53.d :: D54.d :: D55.d :: D56.d :: D57.d :: D58.d :: [])
def fa : List He.Fa := (.glo "is_number" :: .glo "is_byte" :: .glo "are_codes" :: .glo "is_fault" :: .glo "is_sign" :: .glo "is_words" :: .glo "sign_bytes" :: .glo "words_bytes" :: .glo "bytes_behind" :: .glo "may_begin" :: .glo "may_follow" :: .glo "sign_of" :: .glo "words_in" :: .glo "is_mask" :: .glo "masked" :: .glo "size_bytes" :: .glo "is_control" :: .glo "is_mask_or_none" :: .glo "wrong_part" :: .glo "letter_bytes" :: .glo "pieces_of" :: .glo "slips_for" :: .glo "joined_in" :: .glo "_law_cell_at" :: .glo "_law_box" :: .glo "_law_take" :: .glo "_law_same" :: .glo "_law_of" :: .glo "_law_cases" :: .glo "_law_lengths" :: .glo "_law_right" :: .glo "law" :: .free "bool" :: .free "isinstance" :: .free "int" :: .int "MOST_BYTE" 255 :: .free "all" :: .free "tuple" :: .free "list" :: .int "HEAD" 10 :: .int "END" 16 :: .int "FIRST_BARRED" 55296 :: .int "LAST_BARRED" 57343 :: .int "MOST_SIGN" 65535 :: .int "LEAST_BEHIND" 128 :: .int "STEP" 64 :: .int "THREE_HEAD" 224 :: .int "TWO_BYTES" 2048 :: .int "TWO_HEAD" 192 :: .int "ONE_BYTE" 128 :: .int "LEAST_TWO" 194 :: .int "NO_HEAD" 240 :: .int "BARRED_HEAD" 237 :: .int "MOST_UNBARRED" 159 :: .int "MOST_BEHIND" 191 :: .int "LEAST_OF_THREE" 160 :: .free "len" :: .int "SIGNS" 14 :: .free "str" :: .int "MASK_BYTES" 4 :: .free "enumerate" :: .int "THREE_BEHIND" 251 :: .int "BYTES_sizes" 256 :: .free "divmod" :: .int "MOST_OF_TWO" 65535 :: .int "TWO_BEHIND" 250 :: .int "END_SORT" 8 :: .int "MOST_CONTROL" 120 :: .int "MOST_TALK" 31 :: .int "LAST_PLACE" 32 :: .int "MASKED_PLACE" 16 :: .str "WORDS" "words" :: .int "MORE_SORT" 0 :: .int "BYTES_SORT" 2 :: .int "WORDS_SORT" 1 :: .int "ORDER" 13 :: .str "BYTES_cutting" "bytes" :: .int "MOST_CODE" 199 :: .free "abs" :: .free "zip" :: .int "EVERY" 100 :: .free "range" :: .free "min" :: .free "ValueError" :: .glo "Fault" :: .glo "Signs" :: .glo "SORTS" :: .glo "BadSlip" :: .glo "Slip" :: .glo "NAMES" :: .glo "BadLetter" :: .glo "FIRST_SORTS" :: .glo "Begun" :: .glo "Joining" :: .cls "Signs" :: .noat "Signs" "own_many" :: .noat "Signs" "own_begun" :: .cls "Joining" :: .noat "Joining" "own_begun" :: .noat "Signs" "own_signs" :: .cls "Begun" :: .noat "Begun" "own_signs" :: .cls "Slip" :: .noat "Slip" "mask" :: .noat "Slip" "last" :: .noat "Slip" "data" :: .noat "Slip" "talk" :: .noat "Slip" "kind" :: .noat "Begun" "own_bytes" :: .noat "Begun" "own_word" :: .noat "Joining" "own_over" :: .noat "Joining" "own_ended" :: .mkr "Signs" :: .mkr "Slip" :: .mkr "Begun" :: .mkr "Joining" :: .meth "Signs" "is_whole" :: .meth "Signs" "words" :: .meth "Signs" "how_many" :: .meth "Signs" "put" :: .meth "Slip" "codes" :: .meth "Slip" "bytes_ahead" :: .meth "Joining" "take_end" :: .meth "Joining" "take_letter" :: .meth "Begun" "letter" :: .meth "Begun" "goes_on" :: .meth "Joining" "take" :: .meth "Joining" "is_over" :: .meth "Slip" "__init__" :: [])
abbrev R : PySem.W.OpenRow := PySem.W.OpenLaw.row PySem.Challenge.rw_slipwire_k38_sizes_and_every
abbrev hk : PySem.W.Hook := hookX 5 fa fn gs dtbs
def ob (s : PySem.W.SharedT) : AlM := obsX 5 fa fn gs dtbs (HandSHeadRun.getT s)
theorem ob_eq (s : PySem.W.SharedT) : ob s = hk.obs s.abs := obsX_eq (HandSHeadRun.getT_eq s)
def ln0 : List Str := ["MOST_BYTE", "is_number", "is_byte", "are_codes", "HEAD", "ORDER", "SIGNS", "END", "EVERY", "is_fault", "BadSlip", "BadLetter", "Fault", "NoSlip", "MOST_SIGN", "FIRST_BARRED", "LAST_BARRED", "ONE_BYTE", "TWO_BYTES", "STEP"]
def ln1 : List Str := ["TWO_HEAD", "LEAST_TWO", "THREE_HEAD", "BARRED_HEAD", "NO_HEAD", "LEAST_BEHIND", "MOST_BEHIND", "LEAST_OF_THREE", "MOST_UNBARRED", "is_sign", "is_words", "sign_bytes", "words_bytes", "bytes_behind", "may_begin", "may_follow", "sign_of", "Signs", "words_in", "MASK_BYTES"]
def ln2 : List Str := ["is_mask", "masked", "TWO_BEHIND", "THREE_BEHIND", "BYTES_sizes", "MOST_OF_TWO", "size_bytes", "MORE_SORT", "WORDS_SORT", "BYTES_SORT", "END_SORT", "NAMES", "SORTS", "MOST_TALK", "MOST_CONTROL", "MASKED_PLACE", "LAST_PLACE", "is_control", "is_mask_or_none", "wrong_part"]
def ln3 : List Str := ["Slip", "WORDS", "BYTES_cutting", "FIRST_SORTS", "MOST_CODE", "letter_bytes", "pieces_of", "slips_for", "Begun", "Joining", "joined_in", "_law_cell_at", "_law_box", "_law_take", "_law_same", "_law_of", "_law_cases", "_law_lengths", "_law_right"]
def loose : List Str := ln0 ++ ln1 ++ ln2 ++ ln3
theorem run0 (w : World) : HandSHeadRun.RunEq R (PySem.W.view R.prog [88]) hk ob 30000 loose (w.withFollow "special-get-raises" false) := by
  intro os
  kernel_rfl
theorem run1 (w : World) : HandSHeadRun.RunEq R (PySem.W.view R.prog [88]) hk ob 30000 loose (w.withFollow "special-get-raises" true) := by
  intro os
  kernel_rfl
theorem run (w : World) : HandSHeadRun.RunEq R (PySem.W.view R.prog [88]) hk ob 30000 loose w :=
  PySem.W.byRow2 "special-get-raises" (P := fun w => HandSHeadRun.RunEq R (PySem.W.view R.prog [88]) hk ob 30000 loose w) run0 run1 w
section
variable {P : Program} {w : World} {K : PySem.W.Frag} {mg : Str → Option Value}
def fats : List (Str × Option Str) := (("is_number", none) :: ("is_byte", none) :: ("are_codes", none) :: ("is_fault", none) :: ("is_sign", none) :: ("is_words", none) :: ("sign_bytes", none) :: ("words_bytes", none) :: ("bytes_behind", none) :: ("may_begin", none) :: ("may_follow", none) :: ("sign_of", none) :: ("Signs", some "__init__") :: ("Signs", some "put") :: ("Signs", some "how_many") :: ("Signs", some "is_whole") :: ("Signs", some "words") :: ("Signs", some "__len__") :: ("Signs", some "__eq__") :: ("Signs", some "__str__") :: ("Signs", some "__repr__") :: ("words_in", none) :: ("is_mask", none) :: ("masked", none) :: ("size_bytes", none) :: ("is_control", none) :: ("is_mask_or_none", none) :: ("wrong_part", none) :: ("Slip", some "__init__") :: ("Slip", some "__len__") :: ("Slip", some "__eq__") :: ("Slip", some "__str__") :: ("Slip", some "__repr__") :: ("Slip", some "bytes_ahead") :: ("Slip", some "codes") :: ("letter_bytes", none) :: ("pieces_of", none) :: ("slips_for", none) :: ("Begun", some "__init__") :: ("Begun", some "goes_on") :: ("Begun", some "letter") :: ("Joining", some "__init__") :: ("Joining", some "is_over") :: ("Joining", some "take") :: ("Joining", some "take_letter") :: ("Joining", some "take_end") :: ("joined_in", none) :: ("_law_cell_at", none) :: ("_law_box", none) :: ("_law_take", none) :: ("_law_same", none) :: ("_law_of", none) :: ("_law_cases", none) :: ("_law_lengths", none) :: ("_law_right", none) :: ("law", none) :: ("BadSlip", some "__init__") :: ("BadLetter", some "__init__") :: ("Fault", some "__init__") :: [])
def GW (K : PySem.W.Frag) : Wd := ⟨fun c => He.ga K ([("BadSlip" : Str), ("BadLetter" : Str), ("Fault" : Str), ("NoSlip" : Str), ("Signs" : Str), ("Slip" : Str), ("Begun" : Str), ("Joining" : Str)].getD c "object"), fun f => He.fAd K (fats.getD f ("law", none))⟩
theorem fd_ex (c : SaysX fa fn gs dtbs w K) : ∀ (f : Nat) (D : DefT), ds[f]? = some D → ∃ fd, FunD K D.d.name D.d.qual D.d.params D.d.body D.d.scope (D.d.dvs K) (D.d.kws K) (He.fAd K D.d.at_) fd := by
  intro f D h
  refine c.d.def_ f (d := D.d) ?_
  show (ds.map (·.d))[f]? = _
  rw [List.getElem?_map, h]
  rfl
theorem fd_all (c : SaysX fa fn gs dtbs w K) (f : Nat) : ∃ fd : FuncData, ∀ D : DefT, ds[f]? = some D → FunD K D.d.name D.d.qual D.d.params D.d.body D.d.scope (D.d.dvs K) (D.d.kws K) (He.fAd K D.d.at_) fd := by
  cases h : ds[f]? with
  | none => exact ⟨(default : FuncData), fun D e => by cases e⟩
  | some D =>
    obtain ⟨fd, q⟩ := fd_ex c f D h
    exact ⟨fd, fun D2 e => by cases e; exact q⟩
noncomputable def fdF (c : SaysX fa fn gs dtbs w K) (f : Nat) : FuncData := Classical.choose (fd_all c f)
theorem fdF_ok (c : SaysX fa fn gs dtbs w K) (f : Nat) (D : DefT) (h : ds[f]? = some D) : FunD K D.d.name D.d.qual D.d.params D.d.body D.d.scope (D.d.dvs K) (D.d.kws K) (He.fAd K D.d.at_) (fdF c f) := Classical.choose_spec (fd_all c f) D h
theorem sc_ok : ∀ (f : Nat) (D : DefT), ds[f]? = some D → fsB D.N D.ps D.d.scope = true := by
  have h : (ds.all fun D => fsB D.N D.ps D.d.scope) = true := by decide +kernel
  intro f D e
  exact List.all_eq_true.mp h D (List.mem_of_getElem? e)
theorem co_ok : ∀ (f : Nat) (D : DefT), ds[f]? = some D → ∃ (n : Nat) (b : MP.Sem → TwS), bs[f]? = some ⟨D.ps.length, D.N.length, b⟩ ∧ ∀ cs, ssOf (cmpS cs (Cg.of gl calls kt ow D.N D.d.scope) n) D.d.body = some (b cs) := by
  intro f D h
  match f, h with
  | 0, h => cases h; exact ⟨60, b0, rfl, c0⟩
  | 1, h => cases h; exact ⟨60, b1, rfl, c1⟩
  | 2, h => cases h; exact ⟨60, b2, rfl, c2⟩
  | 3, h => cases h; exact ⟨60, b3, rfl, c3⟩
  | 4, h => cases h; exact ⟨60, b4, rfl, c4⟩
  | 5, h => cases h; exact ⟨60, b5, rfl, c5⟩
  | 6, h => cases h; exact ⟨60, b6, rfl, c6⟩
  | 7, h => cases h; exact ⟨60, b7, rfl, c7⟩
  | 8, h => cases h; exact ⟨60, b8, rfl, c8⟩
  | 9, h => cases h; exact ⟨60, b9, rfl, c9⟩
  | 10, h => cases h; exact ⟨60, b10, rfl, c10⟩
  | 11, h => cases h; exact ⟨60, b11, rfl, c11⟩
  | 12, h => cases h; exact ⟨60, b12, rfl, c12⟩
  | 13, h => cases h; exact ⟨60, b13, rfl, c13⟩
  | 14, h => cases h; exact ⟨60, b14, rfl, c14⟩
  | 15, h => cases h; exact ⟨60, b15, rfl, c15⟩
  | 16, h => cases h; exact ⟨60, b16, rfl, c16⟩
  | 17, h => cases h; exact ⟨60, b17, rfl, c17⟩
  | 18, h => cases h; exact ⟨60, b18, rfl, c18⟩
  | 19, h => cases h; exact ⟨60, b19, rfl, c19⟩
  | 20, h => cases h; exact ⟨60, b20, rfl, c20⟩
  | 21, h => cases h; exact ⟨60, b21, rfl, c21⟩
  | 22, h => cases h; exact ⟨60, b22, rfl, c22⟩
  | 23, h => cases h; exact ⟨60, b23, rfl, c23⟩
  | 24, h => cases h; exact ⟨60, b24, rfl, c24⟩
  | 25, h => cases h; exact ⟨60, b25, rfl, c25⟩
  | 26, h => cases h; exact ⟨60, b26, rfl, c26⟩
  | 27, h => cases h; exact ⟨60, b27, rfl, c27⟩
  | 28, h => cases h; exact ⟨60, b28, rfl, c28⟩
  | 29, h => cases h; exact ⟨60, b29, rfl, c29⟩
  | 30, h => cases h; exact ⟨60, b30, rfl, c30⟩
  | 31, h => cases h; exact ⟨60, b31, rfl, c31⟩
  | 32, h => cases h; exact ⟨60, b32, rfl, c32⟩
  | 33, h => cases h; exact ⟨60, b33, rfl, c33⟩
  | 34, h => cases h; exact ⟨60, b34, rfl, c34⟩
  | 35, h => cases h; exact ⟨60, b35, rfl, c35⟩
  | 36, h => cases h; exact ⟨60, b36, rfl, c36⟩
  | 37, h => cases h; exact ⟨60, b37, rfl, c37⟩
  | 38, h => cases h; exact ⟨60, b38, rfl, c38⟩
  | 39, h => cases h; exact ⟨60, b39, rfl, c39⟩
  | 40, h => cases h; exact ⟨60, b40, rfl, c40⟩
  | 41, h => cases h; exact ⟨60, b41, rfl, c41⟩
  | 42, h => cases h; exact ⟨60, b42, rfl, c42⟩
  | 43, h => cases h; exact ⟨60, b43, rfl, c43⟩
  | 44, h => cases h; exact ⟨60, b44, rfl, c44⟩
  | 45, h => cases h; exact ⟨60, b45, rfl, c45⟩
  | 46, h => cases h; exact ⟨60, b46, rfl, c46⟩
  | 47, h => cases h; exact ⟨60, b47, rfl, c47⟩
  | 48, h => cases h; exact ⟨60, b48, rfl, c48⟩
  | 49, h => cases h; exact ⟨60, b49, rfl, c49⟩
  | 50, h => cases h; exact ⟨60, b50, rfl, c50⟩
  | 51, h => cases h; exact ⟨60, b51, rfl, c51⟩
  | 52, h => cases h; exact ⟨60, b52, rfl, c52⟩
  | 53, h => cases h; exact ⟨60, b53, rfl, c53⟩
  | 54, h => cases h; exact ⟨60, b54, rfl, c54⟩
  | 55, h => cases h; exact ⟨60, b55, rfl, c55⟩
  | 56, h => cases h; exact ⟨60, b56, rfl, c56⟩
  | 57, h => cases h; exact ⟨60, b57, rfl, c57⟩
  | 58, h => cases h; exact ⟨60, b58, rfl, c58⟩
  | f + 59, h => simp [ds] at h
theorem gl_ok {h : Heap} (X : K.In h) (Gn : h.Ns mainGlobals mg) (c : SaysX fa fn gs dtbs w K) : ∀ p ∈ gl, GvM w K mg (GW K) p.1 p.2 := by
  intro p hp
  simp only [gl, List.mem_cons, List.not_mem_nil, or_false] at hp
  rcases hp with h | h | h | h | h | h | h | h | h | h | h | h | h | h | h | h | h | h | h | h | h | h | h | h | h | h | h | h | h | h | h | h | h | h | h | h | h | h | h | h | h | h | h | h | h | h | h | h | h | h | h | h | h | h | h | h | h | h | h | h | h | h | h | h | h | h | h | h | h | h | h | h | h | h | h | h | h | h | h | h | h | h | h | h | h | h | h | h | h | h | h | h
  · subst h; exact He.free_ok X Gn (c.d.fact 32 (f := .free "bool") rfl)
  · subst h; exact He.free_ok X Gn (c.d.fact 33 (f := .free "isinstance") rfl)
  · subst h; exact He.free_ok X Gn (c.d.fact 34 (f := .free "int") rfl)
  · subst h; exact He.int_ok X Gn (c.d.fact 35 (f := .int "MOST_BYTE" 255) rfl)
  · subst h; intro f e; cases e
  · subst h; intro f e; cases e
  · subst h; exact He.free_ok X Gn (c.d.fact 36 (f := .free "all") rfl)
  · subst h; exact He.free_ok X Gn (c.d.fact 37 (f := .free "tuple") rfl)
  · subst h; exact He.free_ok X Gn (c.d.fact 38 (f := .free "list") rfl)
  · subst h; exact He.int_ok X Gn (c.d.fact 39 (f := .int "HEAD" 10) rfl)
  · subst h; exact He.int_ok X Gn (c.d.fact 40 (f := .int "END" 16) rfl)
  · subst h; exact He.int_ok X Gn (c.d.fact 41 (f := .int "FIRST_BARRED" 55296) rfl)
  · subst h; exact He.int_ok X Gn (c.d.fact 42 (f := .int "LAST_BARRED" 57343) rfl)
  · subst h; exact He.int_ok X Gn (c.d.fact 43 (f := .int "MOST_SIGN" 65535) rfl)
  · subst h; intro f e; cases e
  · subst h; exact He.int_ok X Gn (c.d.fact 44 (f := .int "LEAST_BEHIND" 128) rfl)
  · subst h; exact He.int_ok X Gn (c.d.fact 45 (f := .int "STEP" 64) rfl)
  · subst h; exact He.int_ok X Gn (c.d.fact 46 (f := .int "THREE_HEAD" 224) rfl)
  · subst h; exact He.int_ok X Gn (c.d.fact 47 (f := .int "TWO_BYTES" 2048) rfl)
  · subst h; exact He.int_ok X Gn (c.d.fact 48 (f := .int "TWO_HEAD" 192) rfl)
  · subst h; exact He.int_ok X Gn (c.d.fact 49 (f := .int "ONE_BYTE" 128) rfl)
  · subst h; intro f e; cases e
  · subst h; exact He.int_ok X Gn (c.d.fact 50 (f := .int "LEAST_TWO" 194) rfl)
  · subst h; exact He.int_ok X Gn (c.d.fact 51 (f := .int "NO_HEAD" 240) rfl)
  · subst h; exact He.int_ok X Gn (c.d.fact 52 (f := .int "BARRED_HEAD" 237) rfl)
  · subst h; exact He.int_ok X Gn (c.d.fact 53 (f := .int "MOST_UNBARRED" 159) rfl)
  · subst h; exact He.int_ok X Gn (c.d.fact 54 (f := .int "MOST_BEHIND" 191) rfl)
  · subst h; exact He.int_ok X Gn (c.d.fact 55 (f := .int "LEAST_OF_THREE" 160) rfl)
  · subst h; exact He.free_ok X Gn (c.d.fact 56 (f := .free "len") rfl)
  · subst h; intro f e; cases e
  · subst h; intro f e; cases e
  · subst h; exact He.glo_ok X Gn (c.d.fact 84 (f := .glo "Fault") rfl)
  · subst h; exact He.int_ok X Gn (c.d.fact 57 (f := .int "SIGNS" 14) rfl)
  · subst h; intro f e; cases e
  · subst h; intro f e; cases e
  · subst h; exact He.glo_ok X Gn (c.d.fact 85 (f := .glo "Signs") rfl)
  · subst h; exact He.free_ok X Gn (c.d.fact 58 (f := .free "str") rfl)
  · subst h; exact He.int_ok X Gn (c.d.fact 59 (f := .int "MASK_BYTES" 4) rfl)
  · subst h; exact He.free_ok X Gn (c.d.fact 60 (f := .free "enumerate") rfl)
  · subst h; exact He.int_ok X Gn (c.d.fact 61 (f := .int "THREE_BEHIND" 251) rfl)
  · subst h; exact He.int_ok X Gn (c.d.fact 62 (f := .int "BYTES_sizes" 256) rfl)
  · subst h; exact He.free_ok X Gn (c.d.fact 63 (f := .free "divmod") rfl)
  · subst h; exact He.int_ok X Gn (c.d.fact 64 (f := .int "MOST_OF_TWO" 65535) rfl)
  · subst h; exact He.int_ok X Gn (c.d.fact 65 (f := .int "TWO_BEHIND" 250) rfl)
  · subst h; exact He.int_ok X Gn (c.d.fact 66 (f := .int "END_SORT" 8) rfl)
  · subst h; intro f e; cases e
  · subst h; intro f e; cases e
  · subst h; intro f e; cases e
  · subst h; exact He.int_ok X Gn (c.d.fact 67 (f := .int "MOST_CONTROL" 120) rfl)
  · subst h; intro f e; cases e
  · subst h; exact He.int_ok X Gn (c.d.fact 68 (f := .int "MOST_TALK" 31) rfl)
  · subst h; exact ⟨_, .ref _, He.glo_ok X Gn (c.d.fact 86 (f := .glo "SORTS") rfl), rfl, fun H => rw_tup.mpr ⟨_, _, rfl, tupAtB_ok (c.g 2 rfl) H, (.cons (rw_int.mpr rfl) (.cons (rw_int.mpr rfl) (.cons (rw_int.mpr rfl) (.cons (rw_int.mpr rfl) (.cons (rw_int.mpr rfl) (.cons (rw_int.mpr rfl) .nil))))))⟩⟩
  · subst h; exact He.glo_ok X Gn (c.d.fact 87 (f := .glo "BadSlip") rfl)
  · subst h; intro f e; cases e
  · subst h; exact He.glo_ok X Gn (c.d.fact 88 (f := .glo "Slip") rfl)
  · subst h; exact ⟨_, He.glo_ok X Gn (c.d.fact 89 (f := .glo "NAMES") rfl), dicM_of (p := fun K => He.ga K "NAMES") (c.t 0 rfl) (c.g 3 rfl) (by decide) fun H => (.cons (rw_str.mpr rfl) (.cons (rw_str.mpr rfl) (.cons (rw_str.mpr rfl) (.cons (rw_str.mpr rfl) (.cons (rw_str.mpr rfl) (.cons (rw_str.mpr rfl) .nil))))))⟩
  · subst h; intro f e; cases e
  · subst h; exact He.int_ok X Gn (c.d.fact 69 (f := .int "LAST_PLACE" 32) rfl)
  · subst h; exact He.int_ok X Gn (c.d.fact 70 (f := .int "MASKED_PLACE" 16) rfl)
  · subst h; intro f e; cases e
  · subst h; exact He.glo_ok X Gn (c.d.fact 90 (f := .glo "BadLetter") rfl)
  · subst h; exact He.str_ok X Gn (c.d.fact 71 (f := .str "WORDS" "words") rfl)
  · subst h; intro f e; cases e
  · subst h; intro f e; cases e
  · subst h; exact ⟨_, He.glo_ok X Gn (c.d.fact 91 (f := .glo "FIRST_SORTS") rfl), dicM_of (p := fun K => He.ga K "FIRST_SORTS") (c.t 1 rfl) (c.g 4 rfl) (by decide) fun H => (.cons (rw_int.mpr rfl) (.cons (rw_int.mpr rfl) .nil))⟩
  · subst h; exact He.int_ok X Gn (c.d.fact 72 (f := .int "MORE_SORT" 0) rfl)
  · subst h; intro f e; cases e
  · subst h; intro f e; cases e
  · subst h; exact He.int_ok X Gn (c.d.fact 73 (f := .int "BYTES_SORT" 2) rfl)
  · subst h; exact He.int_ok X Gn (c.d.fact 74 (f := .int "WORDS_SORT" 1) rfl)
  · subst h; exact He.int_ok X Gn (c.d.fact 75 (f := .int "ORDER" 13) rfl)
  · subst h; exact He.str_ok X Gn (c.d.fact 76 (f := .str "BYTES_cutting" "bytes") rfl)
  · subst h; exact He.glo_ok X Gn (c.d.fact 92 (f := .glo "Begun") rfl)
  · subst h; intro f e; cases e
  · subst h; intro f e; cases e
  · subst h; exact He.int_ok X Gn (c.d.fact 77 (f := .int "MOST_CODE" 199) rfl)
  · subst h; exact He.glo_ok X Gn (c.d.fact 93 (f := .glo "Joining") rfl)
  · subst h; exact He.free_ok X Gn (c.d.fact 78 (f := .free "abs") rfl)
  · subst h; intro f e; cases e
  · subst h; exact He.free_ok X Gn (c.d.fact 79 (f := .free "zip") rfl)
  · subst h; intro f e; cases e
  · subst h; intro f e; cases e
  · subst h; intro f e; cases e
  · subst h; exact He.int_ok X Gn (c.d.fact 80 (f := .int "EVERY" 100) rfl)
  · subst h; intro f e; cases e
  · subst h; intro f e; cases e
  · subst h; exact He.free_ok X Gn (c.d.fact 81 (f := .free "range") rfl)
  · subst h; intro f e; cases e
  · subst h; exact He.free_ok X Gn (c.d.fact 82 (f := .free "min") rfl)
  · subst h; intro f e; cases e
  · subst h; intro f e; cases e
  · subst h; exact He.free_ok X Gn (c.d.fact 83 (f := .free "ValueError") rfl)
theorem calls_ok {h : Heap} (X : K.In h) (Gn : h.Ns mainGlobals mg) (c : SaysX fa fn gs dtbs w K) : ∀ p ∈ calls, ShOk K mg (GW K) (fdF c) ds p := by
  intro p hp
  simp only [calls, List.mem_cons, List.not_mem_nil, or_false] at hp
  rcases hp with h | h | h | h | h | h | h | h | h | h | h | h | h | h | h | h | h | h | h | h | h | h | h | h | h | h | h | h | h | h | h | h | h
  · subst h
    have F := fdF_ok c 0 D0 rfl
    refine sh_of (is := [0]) (dw := []) (D := D0) rfl (He.glo_ok X Gn (c.d.fact 0 (f := .glo "is_number") rfl)) (fdF_ok c 0 D0 rfl).kp (kb0 F 1 [] [0] fun kV doc pm an cdv ct us ws hu hw => ?_) rfl (by decide) (fun H => .nil) rfl
    match us, hu, ws, hw with
    | [_], _, [], _ => rfl
  · subst h
    have F := fdF_ok c 1 D1 rfl
    refine sh_of (is := [0]) (dw := []) (D := D1) rfl (He.glo_ok X Gn (c.d.fact 1 (f := .glo "is_byte") rfl)) (fdF_ok c 1 D1 rfl).kp (kb0 F 1 [] [0] fun kV doc pm an cdv ct us ws hu hw => ?_) rfl (by decide) (fun H => .nil) rfl
    match us, hu, ws, hw with
    | [_], _, [], _ => rfl
  · subst h
    have F := fdF_ok c 4 D4 rfl
    refine sh_of (is := [0]) (dw := []) (D := D4) rfl (He.glo_ok X Gn (c.d.fact 4 (f := .glo "is_sign") rfl)) (fdF_ok c 4 D4 rfl).kp (kb0 F 1 [] [0] fun kV doc pm an cdv ct us ws hu hw => ?_) rfl (by decide) (fun H => .nil) rfl
    match us, hu, ws, hw with
    | [_], _, [], _ => rfl
  · subst h
    have F := fdF_ok c 6 D6 rfl
    refine sh_of (is := [0]) (dw := []) (D := D6) rfl (He.glo_ok X Gn (c.d.fact 6 (f := .glo "sign_bytes") rfl)) (fdF_ok c 6 D6 rfl).kp (kb0 F 1 [] [0] fun kV doc pm an cdv ct us ws hu hw => ?_) rfl (by decide) (fun H => .nil) rfl
    match us, hu, ws, hw with
    | [_], _, [], _ => rfl
  · subst h
    have F := fdF_ok c 11 D11 rfl
    refine sh_of (is := [0]) (dw := []) (D := D11) rfl (He.glo_ok X Gn (c.d.fact 11 (f := .glo "sign_of") rfl)) (fdF_ok c 11 D11 rfl).kp (kb0 F 1 [] [0] fun kV doc pm an cdv ct us ws hu hw => ?_) rfl (by decide) (fun H => .nil) rfl
    match us, hu, ws, hw with
    | [_], _, [], _ => rfl
  · subst h
    have F := fdF_ok c 8 D8 rfl
    refine sh_of (is := [0]) (dw := []) (D := D8) rfl (He.glo_ok X Gn (c.d.fact 8 (f := .glo "bytes_behind") rfl)) (fdF_ok c 8 D8 rfl).kp (kb0 F 1 [] [0] fun kV doc pm an cdv ct us ws hu hw => ?_) rfl (by decide) (fun H => .nil) rfl
    match us, hu, ws, hw with
    | [_], _, [], _ => rfl
  · subst h
    have F := fdF_ok c 9 D9 rfl
    refine sh_of (is := [0]) (dw := []) (D := D9) rfl (He.glo_ok X Gn (c.d.fact 9 (f := .glo "may_begin") rfl)) (fdF_ok c 9 D9 rfl).kp (kb0 F 1 [] [0] fun kV doc pm an cdv ct us ws hu hw => ?_) rfl (by decide) (fun H => .nil) rfl
    match us, hu, ws, hw with
    | [_], _, [], _ => rfl
  · subst h
    have F := fdF_ok c 10 D10 rfl
    refine sh_of (is := [0, 1]) (dw := []) (D := D10) rfl (He.glo_ok X Gn (c.d.fact 10 (f := .glo "may_follow") rfl)) (fdF_ok c 10 D10 rfl).kp (kb0 F 2 [] [0, 1] fun kV doc pm an cdv ct us ws hu hw => ?_) rfl (by decide) (fun H => .nil) rfl
    match us, hu, ws, hw with
    | [_, _], _, [], _ => rfl
  · subst h
    have F := fdF_ok c 22 D22 rfl
    refine sh_of (is := [0]) (dw := []) (D := D22) rfl (He.glo_ok X Gn (c.d.fact 13 (f := .glo "is_mask") rfl)) (fdF_ok c 22 D22 rfl).kp (kb0 F 1 [] [0] fun kV doc pm an cdv ct us ws hu hw => ?_) rfl (by decide) (fun H => .nil) rfl
    match us, hu, ws, hw with
    | [_], _, [], _ => rfl
  · subst h
    have F := fdF_ok c 26 D26 rfl
    refine sh_of (is := [0]) (dw := []) (D := D26) rfl (He.glo_ok X Gn (c.d.fact 17 (f := .glo "is_mask_or_none") rfl)) (fdF_ok c 26 D26 rfl).kp (kb0 F 1 [] [0] fun kV doc pm an cdv ct us ws hu hw => ?_) rfl (by decide) (fun H => .nil) rfl
    match us, hu, ws, hw with
    | [_], _, [], _ => rfl
  · subst h
    have F := fdF_ok c 25 D25 rfl
    refine sh_of (is := [0]) (dw := []) (D := D25) rfl (He.glo_ok X Gn (c.d.fact 16 (f := .glo "is_control") rfl)) (fdF_ok c 25 D25 rfl).kp (kb0 F 1 [] [0] fun kV doc pm an cdv ct us ws hu hw => ?_) rfl (by decide) (fun H => .nil) rfl
    match us, hu, ws, hw with
    | [_], _, [], _ => rfl
  · subst h
    have F := fdF_ok c 2 D2 rfl
    refine sh_of (is := [0]) (dw := []) (D := D2) rfl (He.glo_ok X Gn (c.d.fact 2 (f := .glo "are_codes") rfl)) (fdF_ok c 2 D2 rfl).kp (kb0 F 1 [] [0] fun kV doc pm an cdv ct us ws hu hw => ?_) rfl (by decide) (fun H => .nil) rfl
    match us, hu, ws, hw with
    | [_], _, [], _ => rfl
  · subst h
    have F := fdF_ok c 27 D27 rfl
    refine sh_of (is := [0, 1, 2, 3, 4]) (dw := []) (D := D27) rfl (He.glo_ok X Gn (c.d.fact 18 (f := .glo "wrong_part") rfl)) (fdF_ok c 27 D27 rfl).kp (kb0 F 5 [] [0, 1, 2, 3, 4] fun kV doc pm an cdv ct us ws hu hw => ?_) rfl (by decide) (fun H => .nil) rfl
    match us, hu, ws, hw with
    | [_, _, _, _, _], _, [], _ => rfl
  · subst h
    have F := fdF_ok c 24 D24 rfl
    refine sh_of (is := [0]) (dw := []) (D := D24) rfl (He.glo_ok X Gn (c.d.fact 15 (f := .glo "size_bytes") rfl)) (fdF_ok c 24 D24 rfl).kp (kb0 F 1 [] [0] fun kV doc pm an cdv ct us ws hu hw => ?_) rfl (by decide) (fun H => .nil) rfl
    match us, hu, ws, hw with
    | [_], _, [], _ => rfl
  · subst h
    have F := fdF_ok c 23 D23 rfl
    refine sh_of (is := [0, 1, 2]) (dw := [(.int 0)]) (D := D23) rfl (He.glo_ok X Gn (c.d.fact 14 (f := .glo "masked") rfl)) (fdF_ok c 23 D23 rfl).kp (kb2 F (List.cons_ne_nil _ _) 2 [] [("start", .int 0)] (mem_pick [0] rfl) [0, 1, 2] fun D doc pm an cdv ct us ws mv hu hw hm => ?_) rfl (by decide) (fun H => (.cons (rw_int.mpr rfl) .nil)) rfl
    match us, hu, ws, hw, mv, hm with
    | [_, _], _, [], _, [_], _ => exact ⟨_, _, _, _, _, _, rfl, rfl, rfl⟩
  · subst h
    have F := fdF_ok c 7 D7 rfl
    refine sh_of (is := [0]) (dw := []) (D := D7) rfl (He.glo_ok X Gn (c.d.fact 7 (f := .glo "words_bytes") rfl)) (fdF_ok c 7 D7 rfl).kp (kb0 F 1 [] [0] fun kV doc pm an cdv ct us ws hu hw => ?_) rfl (by decide) (fun H => .nil) rfl
    match us, hu, ws, hw with
    | [_], _, [], _ => rfl
  · subst h
    have F := fdF_ok c 5 D5 rfl
    refine sh_of (is := [0]) (dw := []) (D := D5) rfl (He.glo_ok X Gn (c.d.fact 5 (f := .glo "is_words") rfl)) (fdF_ok c 5 D5 rfl).kp (kb0 F 1 [] [0] fun kV doc pm an cdv ct us ws hu hw => ?_) rfl (by decide) (fun H => .nil) rfl
    match us, hu, ws, hw with
    | [_], _, [], _ => rfl
  · subst h
    have F := fdF_ok c 35 D35 rfl
    refine sh_of (is := [0, 1]) (dw := []) (D := D35) rfl (He.glo_ok X Gn (c.d.fact 19 (f := .glo "letter_bytes") rfl)) (fdF_ok c 35 D35 rfl).kp (kb0 F 2 [] [0, 1] fun kV doc pm an cdv ct us ws hu hw => ?_) rfl (by decide) (fun H => .nil) rfl
    match us, hu, ws, hw with
    | [_, _], _, [], _ => rfl
  · subst h
    have F := fdF_ok c 36 D36 rfl
    refine sh_of (is := [0, 1, 2]) (dw := []) (D := D36) rfl (He.glo_ok X Gn (c.d.fact 20 (f := .glo "pieces_of") rfl)) (fdF_ok c 36 D36 rfl).kp (kb0 F 3 [] [0, 1, 2] fun kV doc pm an cdv ct us ws hu hw => ?_) rfl (by decide) (fun H => .nil) rfl
    match us, hu, ws, hw with
    | [_, _, _], _, [], _ => rfl
  · subst h
    have F := fdF_ok c 3 D3 rfl
    refine sh_of (is := [0]) (dw := []) (D := D3) rfl (He.glo_ok X Gn (c.d.fact 3 (f := .glo "is_fault") rfl)) (fdF_ok c 3 D3 rfl).kp (kb0 F 1 [] [0] fun kV doc pm an cdv ct us ws hu hw => ?_) rfl (by decide) (fun H => .nil) rfl
    match us, hu, ws, hw with
    | [_], _, [], _ => rfl
  · subst h
    have F := fdF_ok c 21 D21 rfl
    refine sh_of (is := [0]) (dw := []) (D := D21) rfl (He.glo_ok X Gn (c.d.fact 12 (f := .glo "words_in") rfl)) (fdF_ok c 21 D21 rfl).kp (kb0 F 1 [] [0] fun kV doc pm an cdv ct us ws hu hw => ?_) rfl (by decide) (fun H => .nil) rfl
    match us, hu, ws, hw with
    | [_], _, [], _ => rfl
  · subst h
    have F := fdF_ok c 47 D47 rfl
    refine sh_of (is := [0, 1]) (dw := []) (D := D47) rfl (He.glo_ok X Gn (c.d.fact 23 (f := .glo "_law_cell_at") rfl)) (fdF_ok c 47 D47 rfl).kp (kb0 F 2 [] [0, 1] fun kV doc pm an cdv ct us ws hu hw => ?_) rfl (by decide) (fun H => .nil) rfl
    match us, hu, ws, hw with
    | [_, _], _, [], _ => rfl
  · subst h
    have F := fdF_ok c 50 D50 rfl
    refine sh_of (is := [0, 1]) (dw := []) (D := D50) rfl (He.glo_ok X Gn (c.d.fact 26 (f := .glo "_law_same") rfl)) (fdF_ok c 50 D50 rfl).kp (kb0 F 2 [] [0, 1] fun kV doc pm an cdv ct us ws hu hw => ?_) rfl (by decide) (fun H => .nil) rfl
    match us, hu, ws, hw with
    | [_, _], _, [], _ => rfl
  · subst h
    have F := fdF_ok c 49 D49 rfl
    refine sh_of (is := [0, 1]) (dw := []) (D := D49) rfl (He.glo_ok X Gn (c.d.fact 25 (f := .glo "_law_take") rfl)) (fdF_ok c 49 D49 rfl).kp (kb0 F 2 [] [0, 1] fun kV doc pm an cdv ct us ws hu hw => ?_) rfl (by decide) (fun H => .nil) rfl
    match us, hu, ws, hw with
    | [_, _], _, [], _ => rfl
  · subst h
    have F := fdF_ok c 46 D46 rfl
    refine sh_of (is := [0]) (dw := []) (D := D46) rfl (He.glo_ok X Gn (c.d.fact 22 (f := .glo "joined_in") rfl)) (fdF_ok c 46 D46 rfl).kp (kb0 F 1 [] [0] fun kV doc pm an cdv ct us ws hu hw => ?_) rfl (by decide) (fun H => .nil) rfl
    match us, hu, ws, hw with
    | [_], _, [], _ => rfl
  · subst h
    have F := fdF_ok c 37 D37 rfl
    refine sh_of (is := [0, 1, 2, 3, 4]) (dw := [(.tup []), (.int 100)]) (D := D37) rfl (He.glo_ok X Gn (c.d.fact 21 (f := .glo "slips_for") rfl)) (fdF_ok c 37 D37 rfl).kp (kb2 F (List.cons_ne_nil _ _) 3 [] [("sizes", .ref (kwdAt ("slips_for", none) "sizes" K)), ("every", .int 100)] (mem_pick [0, 1] rfl) [0, 1, 2, 3, 4] fun D doc pm an cdv ct us ws mv hu hw hm => ?_) rfl (by decide) (fun H => (.cons (rw_tup.mpr ⟨_, _, rfl, tupAtB_ok (c.g 1 rfl) H, .nil⟩) (.cons (rw_int.mpr rfl) .nil))) rfl
    match us, hu, ws, hw, mv, hm with
    | [_, _, _], _, [], _, [_, _], _ => exact ⟨_, _, _, _, _, _, rfl, rfl, ⟨_, _, _, _, _, _, rfl, rfl, rfl⟩⟩
  · subst h
    have F := fdF_ok c 53 D53 rfl
    refine sh_of (is := [0]) (dw := []) (D := D53) rfl (He.glo_ok X Gn (c.d.fact 29 (f := .glo "_law_lengths") rfl)) (fdF_ok c 53 D53 rfl).kp (kb0 F 1 [] [0] fun kV doc pm an cdv ct us ws hu hw => ?_) rfl (by decide) (fun H => .nil) rfl
    match us, hu, ws, hw with
    | [_], _, [], _ => rfl
  · subst h
    have F := fdF_ok c 37 D37 rfl
    refine sh_of (is := [0, 1, 2, 4, 3]) (dw := [(.tup [])]) (D := D37) rfl (He.glo_ok X Gn (c.d.fact 21 (f := .glo "slips_for") rfl)) (fdF_ok c 37 D37 rfl).kp (kb2 F (List.cons_ne_nil _ _) 3 ["every"] [("sizes", .ref (kwdAt ("slips_for", none) "sizes" K))] (mem_pick [0] rfl) [0, 1, 2, 4, 3] fun D doc pm an cdv ct us ws mv hu hw hm => ?_) rfl (by decide) (fun H => (.cons (rw_tup.mpr ⟨_, _, rfl, tupAtB_ok (c.g 1 rfl) H, .nil⟩) .nil)) rfl
    match us, hu, ws, hw, mv, hm with
    | [_, _, _], _, [_], _, [_], _ => exact ⟨_, _, _, _, _, _, rfl, rfl, rfl⟩
  · subst h
    have F := fdF_ok c 52 D52 rfl
    refine sh_of (is := [0]) (dw := []) (D := D52) rfl (He.glo_ok X Gn (c.d.fact 28 (f := .glo "_law_cases") rfl)) (fdF_ok c 52 D52 rfl).kp (kb0 F 1 [] [0] fun kV doc pm an cdv ct us ws hu hw => ?_) rfl (by decide) (fun H => .nil) rfl
    match us, hu, ws, hw with
    | [_], _, [], _ => rfl
  · subst h
    have F := fdF_ok c 37 D37 rfl
    refine sh_of (is := [4, 3, 2, 1, 0]) (dw := []) (D := D37) rfl (He.glo_ok X Gn (c.d.fact 21 (f := .glo "slips_for") rfl)) (fdF_ok c 37 D37 rfl).kp (kb2 F (List.cons_ne_nil _ _) 0 ["every", "sizes", "data", "word", "talk"] [] (mem_pick [] rfl) [4, 3, 2, 1, 0] fun D doc pm an cdv ct us ws mv hu hw hm => ?_) rfl (by decide) (fun H => .nil) rfl
    match us, hu, ws, hw, mv, hm with
    | [], _, [_, _, _, _, _], _, [], _ => exact rfl
  · subst h
    have F := fdF_ok c 37 D37 rfl
    refine sh_of (is := [0, 1, 2, 3, 4]) (dw := []) (D := D37) rfl (He.glo_ok X Gn (c.d.fact 21 (f := .glo "slips_for") rfl)) (fdF_ok c 37 D37 rfl).kp (kb2 F (List.cons_ne_nil _ _) 3 ["sizes", "every"] [] (mem_pick [] rfl) [0, 1, 2, 3, 4] fun D doc pm an cdv ct us ws mv hu hw hm => ?_) rfl (by decide) (fun H => .nil) rfl
    match us, hu, ws, hw, mv, hm with
    | [_, _, _], _, [_, _], _, [], _ => exact rfl
  · subst h
    have F := fdF_ok c 48 D48 rfl
    refine sh_of (is := [0, 1]) (dw := []) (D := D48) rfl (He.glo_ok X Gn (c.d.fact 24 (f := .glo "_law_box") rfl)) (fdF_ok c 48 D48 rfl).kp (kb0 F 2 [] [0, 1] fun kV doc pm an cdv ct us ws hu hw => ?_) rfl (by decide) (fun H => .nil) rfl
    match us, hu, ws, hw with
    | [_, _], _, [], _ => rfl
  · subst h
    have F := fdF_ok c 54 D54 rfl
    refine sh_of (is := [0]) (dw := []) (D := D54) rfl (He.glo_ok X Gn (c.d.fact 30 (f := .glo "_law_right") rfl)) (fdF_ok c 54 D54 rfl).kp (kb0 F 1 [] [0] fun kV doc pm an cdv ct us ws hu hw => ?_) rfl (by decide) (fun H => .nil) rfl
    match us, hu, ws, hw with
    | [_], _, [], _ => rfl
theorem flds_ok (c : SaysX fa fn gs dtbs w K) : ∀ p ∈ ow.flds, ∀ i, p.2.contains i = true → Cls K ((GW K).cad i) ∧ NoAttr K ((GW K).cad i) p.1 := by
  intro p hp
  simp only [ow, List.mem_cons, List.not_mem_nil, or_false] at hp
  rcases hp with h | h | h | h | h | h | h | h | h | h | h | h
  · subst h
    intro i hi
    have hi : i = 4 := by simpa using hi
    subst hi
    · exact ⟨He.cls_ok (x := "Signs") (c.d.fact 94 rfl), He.noat_ok (x := "Signs") (c.d.fact 95 rfl)⟩
  · subst h
    intro i hi
    have hi : i = 4 ∨ i = 7 := by simpa using hi
    rcases hi with rfl | rfl
    · exact ⟨He.cls_ok (x := "Signs") (c.d.fact 94 rfl), He.noat_ok (x := "Signs") (c.d.fact 96 rfl)⟩
    · exact ⟨He.cls_ok (x := "Joining") (c.d.fact 97 rfl), He.noat_ok (x := "Joining") (c.d.fact 98 rfl)⟩
  · subst h
    intro i hi
    have hi : i = 4 ∨ i = 6 := by simpa using hi
    rcases hi with rfl | rfl
    · exact ⟨He.cls_ok (x := "Signs") (c.d.fact 94 rfl), He.noat_ok (x := "Signs") (c.d.fact 99 rfl)⟩
    · exact ⟨He.cls_ok (x := "Begun") (c.d.fact 100 rfl), He.noat_ok (x := "Begun") (c.d.fact 101 rfl)⟩
  · subst h
    intro i hi
    have hi : i = 5 := by simpa using hi
    subst hi
    · exact ⟨He.cls_ok (x := "Slip") (c.d.fact 102 rfl), He.noat_ok (x := "Slip") (c.d.fact 103 rfl)⟩
  · subst h
    intro i hi
    have hi : i = 5 := by simpa using hi
    subst hi
    · exact ⟨He.cls_ok (x := "Slip") (c.d.fact 102 rfl), He.noat_ok (x := "Slip") (c.d.fact 104 rfl)⟩
  · subst h
    intro i hi
    have hi : i = 5 := by simpa using hi
    subst hi
    · exact ⟨He.cls_ok (x := "Slip") (c.d.fact 102 rfl), He.noat_ok (x := "Slip") (c.d.fact 105 rfl)⟩
  · subst h
    intro i hi
    have hi : i = 5 := by simpa using hi
    subst hi
    · exact ⟨He.cls_ok (x := "Slip") (c.d.fact 102 rfl), He.noat_ok (x := "Slip") (c.d.fact 106 rfl)⟩
  · subst h
    intro i hi
    have hi : i = 5 := by simpa using hi
    subst hi
    · exact ⟨He.cls_ok (x := "Slip") (c.d.fact 102 rfl), He.noat_ok (x := "Slip") (c.d.fact 107 rfl)⟩
  · subst h
    intro i hi
    have hi : i = 6 := by simpa using hi
    subst hi
    · exact ⟨He.cls_ok (x := "Begun") (c.d.fact 100 rfl), He.noat_ok (x := "Begun") (c.d.fact 108 rfl)⟩
  · subst h
    intro i hi
    have hi : i = 6 := by simpa using hi
    subst hi
    · exact ⟨He.cls_ok (x := "Begun") (c.d.fact 100 rfl), He.noat_ok (x := "Begun") (c.d.fact 109 rfl)⟩
  · subst h
    intro i hi
    have hi : i = 7 := by simpa using hi
    subst hi
    · exact ⟨He.cls_ok (x := "Joining") (c.d.fact 97 rfl), He.noat_ok (x := "Joining") (c.d.fact 110 rfl)⟩
  · subst h
    intro i hi
    have hi : i = 7 := by simpa using hi
    subst hi
    · exact ⟨He.cls_ok (x := "Joining") (c.d.fact 97 rfl), He.noat_ok (x := "Joining") (c.d.fact 111 rfl)⟩
theorem mks_ok {h : Heap} (X : K.In h) (Gn : h.Ns mainGlobals mg) (c : SaysX fa fn gs dtbs w K) : ∀ p ∈ ow.mks, mg p.1.1 = some (.ref ((GW K).cad p.2.1)) ∧ ∃ fa, Mk K ((GW K).cad p.2.1) fa ∧ MkSh K (GW K) (fdF c) ds p.1.2.1 p.1.2.2 p.2.2.1 p.2.2.2 fa := by
  intro p hp
  simp only [ow, List.mem_cons, List.not_mem_nil, or_false] at hp
  rcases hp with h | h | h | h
  · subst h
    refine ⟨He.glo_ok X Gn (c.d.fact 85 (f := .glo "Signs") rfl), _, He.mkr_ok (x := "Signs") (c.d.fact 112 rfl), ?_⟩
    have F := fdF_ok c 12 D12 rfl
    refine mksh_of (is := [0]) (dw := []) (D := D12) rfl (kb0 F 1 [] [0] fun kV doc pm an cdv ct us ws hu hw => ?_) rfl (by decide) (fun H => .nil) rfl
    match us, hu, ws, hw with
    | [_], _, [], _ => rfl
  · subst h
    refine ⟨He.glo_ok X Gn (c.d.fact 88 (f := .glo "Slip") rfl), _, He.mkr_ok (x := "Slip") (c.d.fact 113 rfl), ?_⟩
    have F := fdF_ok c 28 D28 rfl
    refine mksh_of (is := [0, 1, 2, 3, 4, 6]) (dw := [(.tup []), .non]) (D := D28) rfl (kb3 F (List.cons_ne_nil _ _) (List.cons_ne_nil _ _) 4 ["last"] [("mask", .non)] (mem_pick [1] rfl) [0, 1, 2, 3, 4, 6] fun T D doc pm an cdv ct us ws its mv hu hw hi hm => ?_) rfl (by decide) (fun H => (.cons (rw_tup.mpr ⟨_, _, rfl, tupAtB_ok (c.g 0 rfl) H, .nil⟩) (.cons (rw_non.mpr rfl) .nil))) rfl
    match us, hu, ws, hw, its, hi, mv, hm with
    | [_, _, _, _], _, [_], _, [_], _, [_], _ => exact ⟨_, rfl, ⟨_, _, _, _, _, _, rfl, rfl, rfl⟩⟩
  · subst h
    refine ⟨He.glo_ok X Gn (c.d.fact 92 (f := .glo "Begun") rfl), _, He.mkr_ok (x := "Begun") (c.d.fact 114 rfl), ?_⟩
    have F := fdF_ok c 38 D38 rfl
    refine mksh_of (is := [0, 1]) (dw := []) (D := D38) rfl (kb0 F 2 [] [0, 1] fun kV doc pm an cdv ct us ws hu hw => ?_) rfl (by decide) (fun H => .nil) rfl
    match us, hu, ws, hw with
    | [_, _], _, [], _ => rfl
  · subst h
    refine ⟨He.glo_ok X Gn (c.d.fact 93 (f := .glo "Joining") rfl), _, He.mkr_ok (x := "Joining") (c.d.fact 115 rfl), ?_⟩
    have F := fdF_ok c 41 D41 rfl
    refine mksh_of (is := [0]) (dw := []) (D := D41) rfl (kb0 F 1 [] [0] fun kV doc pm an cdv ct us ws hu hw => ?_) rfl (by decide) (fun H => .nil) rfl
    match us, hu, ws, hw with
    | [_], _, [], _ => rfl
theorem mts_ok (c : SaysX fa fn gs dtbs w K) : ∀ p ∈ ow.mts, ∀ q ∈ p.2, Cls K ((GW K).cad q.1) ∧ ∃ fa, Meth K ((GW K).cad q.1) p.1.1 fa ∧ MkSh K (GW K) (fdF c) ds p.1.2.1 p.1.2.2 q.2.1 q.2.2 fa := by
  intro p hp
  simp only [ow, List.mem_cons, List.not_mem_nil, or_false] at hp
  rcases hp with h | h | h | h | h | h | h | h | h | h | h | h | h
  · subst h
    intro q hq
    simp only [List.mem_cons, List.not_mem_nil, or_false] at hq
    subst hq
    · refine ⟨He.cls_ok (x := "Signs") (c.d.fact 94 rfl), _, He.meth_ok (x := "Signs") (c.d.fact 116 rfl), ?_⟩
      have F := fdF_ok c 15 D15 rfl
      refine mksh_of (is := [0]) (dw := []) (D := D15) rfl (kb0 F 1 [] [0] fun kV doc pm an cdv ct us ws hu hw => ?_) rfl (by decide) (fun H => .nil) rfl
      match us, hu, ws, hw with
      | [_], _, [], _ => rfl
  · subst h
    intro q hq
    simp only [List.mem_cons, List.not_mem_nil, or_false] at hq
    subst hq
    · refine ⟨He.cls_ok (x := "Signs") (c.d.fact 94 rfl), _, He.meth_ok (x := "Signs") (c.d.fact 117 rfl), ?_⟩
      have F := fdF_ok c 16 D16 rfl
      refine mksh_of (is := [0]) (dw := []) (D := D16) rfl (kb0 F 1 [] [0] fun kV doc pm an cdv ct us ws hu hw => ?_) rfl (by decide) (fun H => .nil) rfl
      match us, hu, ws, hw with
      | [_], _, [], _ => rfl
  · subst h
    intro q hq
    simp only [List.mem_cons, List.not_mem_nil, or_false] at hq
    subst hq
    · refine ⟨He.cls_ok (x := "Signs") (c.d.fact 94 rfl), _, He.meth_ok (x := "Signs") (c.d.fact 118 rfl), ?_⟩
      have F := fdF_ok c 14 D14 rfl
      refine mksh_of (is := [0]) (dw := []) (D := D14) rfl (kb0 F 1 [] [0] fun kV doc pm an cdv ct us ws hu hw => ?_) rfl (by decide) (fun H => .nil) rfl
      match us, hu, ws, hw with
      | [_], _, [], _ => rfl
  · subst h
    intro q hq
    simp only [List.mem_cons, List.not_mem_nil, or_false] at hq
    subst hq
    · refine ⟨He.cls_ok (x := "Signs") (c.d.fact 94 rfl), _, He.meth_ok (x := "Signs") (c.d.fact 119 rfl), ?_⟩
      have F := fdF_ok c 13 D13 rfl
      refine mksh_of (is := [0, 1]) (dw := []) (D := D13) rfl (kb0 F 2 [] [0, 1] fun kV doc pm an cdv ct us ws hu hw => ?_) rfl (by decide) (fun H => .nil) rfl
      match us, hu, ws, hw with
      | [_, _], _, [], _ => rfl
  · subst h
    intro q hq
    simp only [List.mem_cons, List.not_mem_nil, or_false] at hq
    subst hq
    · refine ⟨He.cls_ok (x := "Slip") (c.d.fact 102 rfl), _, He.meth_ok (x := "Slip") (c.d.fact 120 rfl), ?_⟩
      have F := fdF_ok c 34 D34 rfl
      refine mksh_of (is := [0]) (dw := []) (D := D34) rfl (kb0 F 1 [] [0] fun kV doc pm an cdv ct us ws hu hw => ?_) rfl (by decide) (fun H => .nil) rfl
      match us, hu, ws, hw with
      | [_], _, [], _ => rfl
  · subst h
    intro q hq
    simp only [List.mem_cons, List.not_mem_nil, or_false] at hq
    subst hq
    · refine ⟨He.cls_ok (x := "Slip") (c.d.fact 102 rfl), _, He.meth_ok (x := "Slip") (c.d.fact 121 rfl), ?_⟩
      have F := fdF_ok c 33 D33 rfl
      refine mksh_of (is := [0]) (dw := []) (D := D33) rfl (kb0 F 1 [] [0] fun kV doc pm an cdv ct us ws hu hw => ?_) rfl (by decide) (fun H => .nil) rfl
      match us, hu, ws, hw with
      | [_], _, [], _ => rfl
  · subst h
    intro q hq
    simp only [List.mem_cons, List.not_mem_nil, or_false] at hq
    subst hq
    · refine ⟨He.cls_ok (x := "Joining") (c.d.fact 97 rfl), _, He.meth_ok (x := "Joining") (c.d.fact 122 rfl), ?_⟩
      have F := fdF_ok c 45 D45 rfl
      refine mksh_of (is := [0, 1]) (dw := []) (D := D45) rfl (kb0 F 2 [] [0, 1] fun kV doc pm an cdv ct us ws hu hw => ?_) rfl (by decide) (fun H => .nil) rfl
      match us, hu, ws, hw with
      | [_, _], _, [], _ => rfl
  · subst h
    intro q hq
    simp only [List.mem_cons, List.not_mem_nil, or_false] at hq
    subst hq
    · refine ⟨He.cls_ok (x := "Joining") (c.d.fact 97 rfl), _, He.meth_ok (x := "Joining") (c.d.fact 123 rfl), ?_⟩
      have F := fdF_ok c 44 D44 rfl
      refine mksh_of (is := [0, 1]) (dw := []) (D := D44) rfl (kb0 F 2 [] [0, 1] fun kV doc pm an cdv ct us ws hu hw => ?_) rfl (by decide) (fun H => .nil) rfl
      match us, hu, ws, hw with
      | [_, _], _, [], _ => rfl
  · subst h
    intro q hq
    simp only [List.mem_cons, List.not_mem_nil, or_false] at hq
    subst hq
    · refine ⟨He.cls_ok (x := "Begun") (c.d.fact 100 rfl), _, He.meth_ok (x := "Begun") (c.d.fact 124 rfl), ?_⟩
      have F := fdF_ok c 40 D40 rfl
      refine mksh_of (is := [0, 1]) (dw := []) (D := D40) rfl (kb0 F 2 [] [0, 1] fun kV doc pm an cdv ct us ws hu hw => ?_) rfl (by decide) (fun H => .nil) rfl
      match us, hu, ws, hw with
      | [_, _], _, [], _ => rfl
  · subst h
    intro q hq
    simp only [List.mem_cons, List.not_mem_nil, or_false] at hq
    subst hq
    · refine ⟨He.cls_ok (x := "Begun") (c.d.fact 100 rfl), _, He.meth_ok (x := "Begun") (c.d.fact 125 rfl), ?_⟩
      have F := fdF_ok c 39 D39 rfl
      refine mksh_of (is := [0, 1]) (dw := []) (D := D39) rfl (kb0 F 2 [] [0, 1] fun kV doc pm an cdv ct us ws hu hw => ?_) rfl (by decide) (fun H => .nil) rfl
      match us, hu, ws, hw with
      | [_, _], _, [], _ => rfl
  · subst h
    intro q hq
    simp only [List.mem_cons, List.not_mem_nil, or_false] at hq
    subst hq
    · refine ⟨He.cls_ok (x := "Joining") (c.d.fact 97 rfl), _, He.meth_ok (x := "Joining") (c.d.fact 126 rfl), ?_⟩
      have F := fdF_ok c 43 D43 rfl
      refine mksh_of (is := [0, 1]) (dw := []) (D := D43) rfl (kb0 F 2 [] [0, 1] fun kV doc pm an cdv ct us ws hu hw => ?_) rfl (by decide) (fun H => .nil) rfl
      match us, hu, ws, hw with
      | [_, _], _, [], _ => rfl
  · subst h
    intro q hq
    simp only [List.mem_cons, List.not_mem_nil, or_false] at hq
    subst hq
    · refine ⟨He.cls_ok (x := "Joining") (c.d.fact 97 rfl), _, He.meth_ok (x := "Joining") (c.d.fact 127 rfl), ?_⟩
      have F := fdF_ok c 42 D42 rfl
      refine mksh_of (is := [0]) (dw := []) (D := D42) rfl (kb0 F 1 [] [0] fun kV doc pm an cdv ct us ws hu hw => ?_) rfl (by decide) (fun H => .nil) rfl
      match us, hu, ws, hw with
      | [_], _, [], _ => rfl
  · subst h
    intro q hq
    simp only [List.mem_cons, List.not_mem_nil, or_false] at hq
    subst hq
    · refine ⟨He.cls_ok (x := "Slip") (c.d.fact 102 rfl), _, He.meth_ok (x := "Slip") (c.d.fact 128 rfl), ?_⟩
      have F := fdF_ok c 28 D28 rfl
      refine mksh_of (is := [0, 1, 2, 3, 4, 5]) (dw := [(.tup []), (.bl true), .non]) (D := D28) rfl (kb3 F (List.cons_ne_nil _ _) (List.cons_ne_nil _ _) 3 [] [("last", .bl true), ("mask", .non)] (mem_pick [0, 1] rfl) [0, 1, 2, 3, 4, 5] fun T D doc pm an cdv ct us ws its mv hu hw hi hm => ?_) rfl (by decide) (fun H => (.cons (rw_tup.mpr ⟨_, _, rfl, tupAtB_ok (c.g 0 rfl) H, .nil⟩) (.cons (rw_bl.mpr rfl) (.cons (rw_non.mpr rfl) .nil)))) rfl
      match us, hu, ws, hw, its, hi, mv, hm with
      | [_, _, _], _, [], _, [_], _, [_, _], _ => exact ⟨_, rfl, ⟨_, _, _, _, _, _, rfl, rfl, ⟨_, _, _, _, _, _, rfl, rfl, rfl⟩⟩⟩
theorem kit_ok (c : SaysX fa fn gs dtbs w K) : KitOk K (GW K) kt := by
  refine kitX_ok ?_ ?_ ?_
  ·
    intro p hp
    simp only [ktab, List.mem_cons, List.not_mem_nil, or_false] at hp
    rcases hp with h | h | h | h | h | h | h | h | h | h | h | h | h | h | h | h | h | h | h | h | h | h | h | h | h | h
    · subst h; exact kitB1_ok (c.g 11 rfl)
    · subst h; exact kitB1_ok (c.g 12 rfl)
    · subst h; exact kitB1_ok (c.g 13 rfl)
    · subst h; exact kitB1_ok (c.g 14 rfl)
    · subst h; exact kitB1_ok (c.g 15 rfl)
    · subst h; exact kitB1_ok (c.g 16 rfl)
    · subst h; exact kitB1_ok (c.g 17 rfl)
    · subst h; exact kitB1_ok (c.g 18 rfl)
    · subst h; exact kitB1_ok (c.g 19 rfl)
    · subst h; exact kitB1_ok (c.g 20 rfl)
    · subst h; exact kitB1_ok (c.g 21 rfl)
    · subst h; exact kitB1_ok (c.g 22 rfl)
    · subst h; exact kitB1_ok (c.g 23 rfl)
    · subst h; exact kitB1_ok (c.g 24 rfl)
    · subst h; exact kitB1_ok (c.g 25 rfl)
    · subst h; exact kitB1_ok (c.g 26 rfl)
    · subst h; exact kitB1_ok (c.g 27 rfl)
    · subst h; exact kitB1_ok (c.g 28 rfl)
    · subst h; exact kitB1_ok (c.g 29 rfl)
    · subst h; exact kitB1_ok (c.g 30 rfl)
    · subst h; exact kitB1_ok (c.g 31 rfl)
    · subst h; exact kitB1_ok (c.g 32 rfl)
    · subst h; exact kitB1_ok (c.g 33 rfl)
    · subst h; exact kitB1_ok (c.g 34 rfl)
    · subst h; exact kitB1_ok (c.g 35 rfl)
    · subst h; exact kitB1_ok (c.g 36 rfl)
  ·
    intro p hp k e
    simp only [ktab, List.mem_cons, List.not_mem_nil, or_false] at hp
    rcases hp with h | h | h | h | h | h | h | h | h | h | h | h | h | h | h | h | h | h | h | h | h | h | h | h | h | h
    · subst h; cases e; exact ownB_ok (x := "Signs") (c.g 37 rfl) (He.cls_ok (x := "Signs") (c.d.fact 94 rfl))
    · subst h; cases e; exact ownB_ok (x := "Slip") (c.g 38 rfl) (He.cls_ok (x := "Slip") (c.d.fact 102 rfl))
    · subst h; cases e
    · subst h; cases e
    · subst h; cases e
    · subst h; cases e
    · subst h; cases e
    · subst h; cases e
    · subst h; cases e; exact ownB_ok (x := "Signs") (c.g 37 rfl) (He.cls_ok (x := "Signs") (c.d.fact 94 rfl))
    · subst h; cases e; exact ownB_ok (x := "Slip") (c.g 38 rfl) (He.cls_ok (x := "Slip") (c.d.fact 102 rfl))
    · subst h; cases e
    · subst h; cases e
    · subst h; cases e
    · subst h; cases e
    · subst h; cases e
    · subst h; cases e
    · subst h; cases e; exact ownB_ok (x := "Signs") (c.g 37 rfl) (He.cls_ok (x := "Signs") (c.d.fact 94 rfl))
    · subst h; cases e; exact ownB_ok (x := "Signs") (c.g 37 rfl) (He.cls_ok (x := "Signs") (c.d.fact 94 rfl))
    · subst h; cases e; exact ownB_ok (x := "Signs") (c.g 37 rfl) (He.cls_ok (x := "Signs") (c.d.fact 94 rfl))
    · subst h; cases e; exact ownB_ok (x := "Signs") (c.g 37 rfl) (He.cls_ok (x := "Signs") (c.d.fact 94 rfl))
    · subst h; cases e; exact ownB_ok (x := "Signs") (c.g 37 rfl) (He.cls_ok (x := "Signs") (c.d.fact 94 rfl))
    · subst h; cases e; exact ownB_ok (x := "Slip") (c.g 38 rfl) (He.cls_ok (x := "Slip") (c.d.fact 102 rfl))
    · subst h; cases e; exact ownB_ok (x := "Slip") (c.g 38 rfl) (He.cls_ok (x := "Slip") (c.d.fact 102 rfl))
    · subst h; cases e; exact ownB_ok (x := "Slip") (c.g 38 rfl) (He.cls_ok (x := "Slip") (c.d.fact 102 rfl))
    · subst h; cases e; exact ownB_ok (x := "Slip") (c.g 38 rfl) (He.cls_ok (x := "Slip") (c.d.fact 102 rfl))
    · subst h; cases e; exact ownB_ok (x := "Slip") (c.g 38 rfl) (He.cls_ok (x := "Slip") (c.d.fact 102 rfl))
  ·
    intro p hp k e
    simp only [ktab, List.mem_cons, List.not_mem_nil, or_false] at hp
    rcases hp with h | h | h | h | h | h | h | h | h | h | h | h | h | h | h | h | h | h | h | h | h | h | h | h | h | h
    · subst h; cases e
    · subst h; cases e
    · subst h; cases e
    · subst h; cases e
    · subst h; cases e
    · subst h; cases e
    · subst h; cases e
    · subst h; cases e
    · subst h; cases e
    · subst h; cases e
    · subst h; cases e
    · subst h; cases e
    · subst h; cases e
    · subst h; cases e
    · subst h; cases e
    · subst h; cases e
    · subst h; cases e
    · subst h; cases e
    · subst h; cases e
    · subst h; cases e
    · subst h; cases e
    · subst h; cases e
    · subst h; cases e
    · subst h; cases e
    · subst h; cases e
    · subst h; cases e
theorem exs_ok {h : Heap} (X : K.In h) (Gn : h.Ns mainGlobals mg) (c : SaysX fa fn gs dtbs w K) : ∀ p ∈ ow.exs, ExM P w K mg ((GW K).cad p.2.1) p.1.1 p.2.2 := by
  intro p hp
  simp only [ow, List.mem_cons, List.not_mem_nil, or_false] at hp
  rcases hp with h | h | h
  · subst h
    have F := fdF_ok c 58 D58 rfl
    refine exm_of (D := D58) (s := "self") (exB_ok (x := "Fault") (c.g 7 rfl)) F (fsB_ok (sc_ok 58 D58 rfl)) (by kernel_rfl) (by kernel_rfl) (He.free_ok X Gn (c.d.fact 83 (f := .free "ValueError") rfl)) (He.glo_ok X Gn (c.d.fact 84 (f := .glo "Fault") rfl)) (List.cons_ne_nil _ _) (by decide) (by decide) (F.bindsN fun _ _ _ _ _ _ us hl => ?_)
    match us, hl with
    | [_, _, _], _ => rfl
  · subst h
    have F := fdF_ok c 56 D56 rfl
    refine exm_of (D := D56) (s := "self") (exB_ok (x := "BadSlip") (c.g 5 rfl)) F (fsB_ok (sc_ok 56 D56 rfl)) (by kernel_rfl) (by kernel_rfl) (He.free_ok X Gn (c.d.fact 83 (f := .free "ValueError") rfl)) (He.glo_ok X Gn (c.d.fact 87 (f := .glo "BadSlip") rfl)) (List.cons_ne_nil _ _) (by decide) (by decide) (F.bindsN fun _ _ _ _ _ _ us hl => ?_)
    match us, hl with
    | [_, _], _ => rfl
  · subst h
    have F := fdF_ok c 57 D57 rfl
    refine exm_of (D := D57) (s := "self") (exB_ok (x := "BadLetter") (c.g 6 rfl)) F (fsB_ok (sc_ok 57 D57 rfl)) (by kernel_rfl) (by kernel_rfl) (He.free_ok X Gn (c.d.fact 83 (f := .free "ValueError") rfl)) (He.glo_ok X Gn (c.d.fact 90 (f := .glo "BadLetter") rfl)) (List.cons_ne_nil _ _) (by decide) (by decide) (F.bindsN fun _ _ _ _ _ _ us hl => ?_)
    match us, hl with
    | [_, _], _ => rfl
theorem xfl_ok (c : SaysX fa fn gs dtbs w K) : ∀ p ∈ ow.xfl, ∀ i, p.2.contains i = true → XfC K ((GW K).cad i) ∧ PySem.W.findIn K (.ref ((GW K).cad i)) p.1 = some none := by
  intro p hp
  simp only [ow, List.mem_cons, List.not_mem_nil, or_false] at hp
theorem exm_ok (c : SaysX fa fn gs dtbs w K) : ∀ p ∈ ow.exm, PySem.W.exmOne K (.ref ((GW K).cad p.1.1)) (.ref ((GW K).cad p.1.2)) = some p.2 := by
  intro p hp
  simp only [ow, List.mem_cons, List.not_mem_nil, or_false] at hp
  rcases hp with h | h | h
  · subst h; exact exmB_ok (c.g 8 rfl)
  · subst h; exact exmB_ok (c.g 9 rfl)
  · subst h; exact exmB_ok (c.g 10 rfl)
theorem fvs_ok (c : SaysX fa fn gs dtbs w K) : ∀ p ∈ ow.fvs, ∀ q ∈ p.2, FvSh K (GW K) (fdF c) ds p.1.1 p.1.2 q.1 q.2 := by
  intro p hp
  simp only [ow, List.mem_cons, List.not_mem_nil, or_false] at hp
theorem eqs_ok (c : SaysX fa fn gs dtbs w K) : ∀ d ∈ ow.eqs, EqC K ((GW K).cad d) := by
  intro d hd
  simp only [ow, List.mem_cons, List.not_mem_nil, or_false] at hd
theorem tab {h : Heap} (X : K.In h) (Gn : h.Ns mainGlobals mg) (c : SaysX fa fn gs dtbs w K) : TabOk P w K mg (GW K) (fdF c) ds bs gl calls kt ow := ⟨fdF_ok c, sc_ok, co_ok, kit_ok c, gl_ok X Gn c, calls_ok X Gn c, flds_ok c, mks_ok X Gn c, mts_ok c, exs_ok X Gn c, xfl_ok c, exm_ok c, fvs_ok c, eqs_ok c⟩
end
def Claim : Prop := ∀ sv S ns, ns.length ≤ 63 → Script sv S ns → (semN bs 40).call 55 [sv] S (fun w _ => w = .bl true) (fun _ _ => False)
theorem holds (claim : Claim) : PySem.Challenge.rw_slipwire_k38_sizes_and_every.Holds := by
  w_on; o_law
  refine HandSHeadRun.head_any (r := PySem.W.OpenLaw.row PySem.Challenge.rw_slipwire_k38_sizes_and_every) (q := PySem.W.view (PySem.W.OpenLaw.row PySem.Challenge.rw_slipwire_k38_sizes_and_every).prog [88]) (H := hk) (ob := ob) (M := 30000) (loose := loose) (d := HandSHeadRun.topDef (PySem.W.OpenLaw.row PySem.Challenge.rw_slipwire_k38_sizes_and_every).prog 88) (kwd := []) ob_eq
    (by kernel_rfl) (fun s => by kernel_rfl) run (by kernel_rfl) (by kernel_rfl) (by kernel_rfl) (by rfl) (by first | assumption | decide +kernel) (by decide +kernel) ⟨rfl, rfl, rfl, rfl, rfl, by decide +kernel⟩ ?hw ?hc
  case hw => w_witness2
  case hc =>
    refine walkG (l := PySem.Challenge.rw_slipwire_k38_sizes_and_every) (n := 63) (k := 161) (x := "_law_script") (CX := CXw (PySem.Challenge.rw_slipwire_k38_sizes_and_every).prog) rfl (by decide) (by kernel_rfl) ⟨rfl, by decide, by decide⟩ ?F cxw_no
    intro w mg f h Y G hmg0
    obtain ⟨K, KX, c⟩ := Y
    have hmg : mg ("law" : PySem.Str) = some (.ref f) := by
      have e : (HandSHeadRun.topDef (PySem.W.OpenLaw.row PySem.Challenge.rw_slipwire_k38_sizes_and_every).prog 88).name = ("law" : PySem.Str) := by kernel_rfl
      rw [← e]
      exact hmg0
    have e := hmg.symm.trans (He.glo_ok KX G (c.d.fact 31 (f := .glo "law") rfl))
    cases e
    have F := fdF_ok c 55 D55 rfl
    have b := FunD.bindsA (ps := ["_law_script"]) F fun _ _ _ _ _ _ us hl => match us, hl with | [_], _ => rfl
    exact ⟨K, fdF c 55, _, KX, fun s v => b s [v] rfl, fun H a ns hl hO hS => law_sp (K := K) (G := GW K) (n := 63) claim H a ns hl hO hS, fun base hb hn => fn_cx (fn_ok (P := (PySem.Challenge.rw_slipwire_k38_sizes_and_every).prog) (w := w) (base := base) (tab KX G c) 40 55 D55 rfl) fun _ _ _ _ _ _ q => ⟨w, q⟩⟩
end MP
set_option Elab.async false
set_option linter.all false
set_option maxRecDepth 100000
set_option maxHeartbeats 4000000
namespace MP
open PySem PySem.Spec PyProof.Rows L2
/-! ### steps of the readings -/
def brW (b : Bool) (p q : Prop) : Prop := match b with
  | true => p
  | false => q
theorem br_dec {p : Prop} [Decidable p] {A B : Prop} (h1 : p → A) (h2 : ¬p → B) : brW (decide p) A B := by
  by_cases h : p
  · rw [decide_eq_true h]; exact h1 h
  · rw [decide_eq_false h]; exact h2 h
theorem br_ndec {p : Prop} [Decidable p] {A B : Prop} (h1 : ¬p → A) (h2 : p → B) : brW (!decide p) A B := by
  by_cases h : p
  · rw [decide_eq_true h]; exact h2 h
  · rw [decide_eq_false h]; exact h1 h
theorem br_t {A B : Prop} (h : A) : brW true A B := h
theorem br_f {A B : Prop} (h : B) : brW false A B := h
theorem br_ft {A B : Prop} (h : A) : brW (!false) A B := h
theorem br_tf {A B : Prop} (h : B) : brW (!true) A B := h
def tsW (x : W) (Q : Bool → Store → Prop) (S : Store) : Prop := match x with
  | .bl b => Q b S
  | _ => False
theorem ts_bl {b : Bool} {Q : Bool → Store → Prop} {S : Store} (q : Q b S) : tsW (.bl b) Q S := q
def boW (x : W) (p q : Prop) : Prop := match x with
  | .bl true => p
  | .bl false => q
  | _ => False
theorem bo_dec {p : Prop} [Decidable p] {A B : Prop} (h1 : p → A) (h2 : ¬p → B) : boW (.bl (decide p)) A B := by
  by_cases h : p
  · rw [decide_eq_true h]; exact h1 h
  · rw [decide_eq_false h]; exact h2 h
theorem bo_t {A B : Prop} (h : A) : boW (.bl true) A B := h
theorem bo_f {A B : Prop} (h : B) : boW (.bl false) A B := h
def soW (x : W) (Q : Option Int → Store → Prop) (S : Store) : Prop := match x with
  | .int i => Q (some i) S
  | _ => False
theorem so_int {i : Int} {Q : Option Int → Store → Prop} {S : Store} (q : Q (some i) S) : soW (.int i) Q S := q
def sbW (o i v : W) (S : Store) (P : Store → Prop) : Prop := seW o i v S P ∨ sdW o i v S P
theorem se_at {a : Addr} {k : Int} {v : W} {S : Store} {P : Store → Prop} {xs : List W} {j : Nat} (h : S a = some (.lst xs)) (e : ixN xs.length k = some j) (q : P (put S a (.lst (xs.set j v)))) : seW (.ref a) (.int k) v S P := by
  unfold seW
  simp only [h, e]
  exact q
def paW (is : List Nat) (ws : List W) (σ : Sw) (P : Sw → Prop) : Prop := match setsW is ws σ with
  | some σ' => P σ'
  | none => False
theorem pa_at {is : List Nat} {ws : List W} {σ σ' : Sw} {P : Sw → Prop} (h : setsW is ws σ = some σ') (q : P σ') : paW is ws σ P := by
  unfold paW
  rw [h]
  exact q
theorem mg_at {m : Mt} {a : Addr} {S : Store} {P P2 : Prop} {xs : List W} (h : S a = some (.lst xs)) (hm : m.onL = true) (q : P) : mgW m (.ref a) S P P2 := by
  unfold mgW
  simp only [h]
  exact ⟨hm, q⟩
theorem mg_dic {m : Mt} {a : Addr} {S : Store} {P P2 : Prop} {xs : List (Key × W)} (h : S a = some (.dic xs)) (hm : m.onD = true) (q : P2) : mgW m (.ref a) S P P2 := by
  unfold mgW
  simp only [h]
  exact ⟨hm, q⟩
def siW (x : W) (S : Store) (Q : List W → (Store → Prop) → Store → Prop) : Prop := match items? S x with
  | some xs => Q xs (stillL x xs) S
  | none => False
theorem si_at {x : W} {S : Store} {Q : List W → (Store → Prop) → Store → Prop} {xs : List W} (h : items? S x = some xs) (q : Q xs (stillL x xs) S) : siW x S Q := by
  unfold siW
  rw [h]
  exact q
def ngW (x : W) (Q : WP) (S : Store) : Prop := match x with
  | .int i => Q (.int (-i)) S
  | _ => False
theorem ng_int {i : Int} {Q : WP} {S : Store} (q : Q (.int (-i)) S) : ngW (.int i) Q S := q
def e1W (xs : List W) (S : Store) (Q : List W → (Store → Prop) → Store → Prop) : Prop := match xs with
  | [.ref a] => (match items? S (.ref a) with
    | some ys => Q (enumI 0 ys) (stillL (.ref a) ys) S
    | none => False)
  | _ => False
theorem e1_at {a : Addr} {S : Store} {Q : List W → (Store → Prop) → Store → Prop} {ys : List W} (h : items? S (.ref a) = some ys) (q : Q (enumI 0 ys) (stillL (.ref a) ys) S) : e1W [.ref a] S Q := by
  unfold e1W
  simp only [h]
  exact q
def e2W (xs : List W) (S : Store) (Q : List W → (Store → Prop) → Store → Prop) : Prop := match xs with
  | [x, .int k] => (match items? S x with
    | some ys => -(2 ^ 63) ≤ k ∧ k < 2 ^ 63 ∧ Q (enumI k ys) (stillL x ys) S
    | none => False)
  | _ => False
def r1W (xs : List W) (S : Store) (Q : List W → (Store → Prop) → Store → Prop) : Prop := match xs with
  | [.int j] => -(2 ^ 62) ≤ j ∧ j < 2 ^ 62 ∧ Q ((List.range j.toNat).map fun (i : Nat) => W.int (0 + (i : Int))) (fun _ => True) S
  | _ => False
theorem r1_at {j : Int} {S : Store} {Q : List W → (Store → Prop) → Store → Prop} (h0 : -(2 ^ 62) ≤ j) (h1 : j < 2 ^ 62) (q : Q ((List.range j.toNat).map fun (i : Nat) => W.int (0 + (i : Int))) (fun _ => True) S) : r1W [.int j] S Q := ⟨h0, h1, q⟩
def r2W (xs : List W) (S : Store) (Q : List W → (Store → Prop) → Store → Prop) : Prop := match xs with
  | [.int i, .int j] => (-(2 ^ 62) ≤ i ∧ i < 2 ^ 62 ∧ -(2 ^ 62) ≤ j ∧ j < 2 ^ 62) ∧ Q ((List.range (j - i).toNat).map fun (k : Nat) => W.int (i + (k : Int))) (fun _ => True) S
  | _ => False
theorem r2_at {i j : Int} {S : Store} {Q : List W → (Store → Prop) → Store → Prop} (h : -(2 ^ 62) ≤ i ∧ i < 2 ^ 62 ∧ -(2 ^ 62) ≤ j ∧ j < 2 ^ 62) (q : Q ((List.range (j - i).toNat).map fun (k : Nat) => W.int (i + (k : Int))) (fun _ => True) S) : r2W [.int i, .int j] S Q := ⟨h, q⟩
def zpW (xs : List W) (S : Store) (Q : List W → (Store → Prop) → Store → Prop) : Prop := match xs with
  | [.ref a, .ref b] => (match items? S (.ref a), items? S (.ref b) with
    | some xs, some ys => Q (zipI xs ys) (fun S => stillL (.ref a) xs S ∧ stillL (.ref b) ys S) S
    | _, _ => False)
  | [.tup xs, .tup ys] => Q (zipI xs ys) (fun _ => True) S
  | _ => False
theorem zp_ref {a b : Addr} {S : Store} {Q : List W → (Store → Prop) → Store → Prop} {xs ys : List W} (h : items? S (.ref a) = some xs) (h2 : items? S (.ref b) = some ys) (q : Q (zipI xs ys) (fun S => stillL (.ref a) xs S ∧ stillL (.ref b) ys S) S) : zpW [.ref a, .ref b] S Q := by
  unfold zpW
  simp only [h, h2]
  exact q
theorem zp_tup {S : Store} {Q : List W → (Store → Prop) → Store → Prop} {xs ys : List W} (q : Q (zipI xs ys) (fun _ => True) S) : zpW [.tup xs, .tup ys] S Q := q
section
variable {D : EnW} {σ : Sw} {S : Store} {Q : WP} {E : XP} {t u : TwS} {ta tb tc : Tw} {ua ub : TwA} {c : TwT} {w x y : W} {i j : Int} {n : Nat} {K : Kit}
theorem v_seq (h : t { D with nx := u D } σ S) : seqS t u D σ S := h
theorem v_next (h : D.nx σ S) : nextS D σ S := h
theorem v_set (h : ta σ S (fun w S' => D.nx (σ.set n (some w)) S') (fun e S' => D.ex e σ S')) : setS n ta D σ S := h
theorem v_asg {p : Pat} (h : ta σ S (fun w S' => patW p w σ S' D.nx) (fun e S' => D.ex e σ S')) : asgS p ta D σ S := h
theorem v_par {is : List Nat} (h : ua σ S (fun ws S' => paW is ws σ fun σ' => D.nx σ' S') (fun e S' => D.ex e σ S')) : parS is ua D σ S := h
theorem v_drop (h : ta σ S (fun _ S' => D.nx σ S') (fun e S' => D.ex e σ S')) : dropS ta D σ S := h
theorem v_ret (h : ta σ S D.rt (fun e S' => D.ex e σ S')) : retS ta D σ S := h
theorem v_retN (h : D.rt .non S) : retN D σ S := h
theorem v_if (h : c σ S (fun b S' => brW b (t D σ S') (u D σ S')) (fun e S' => D.ex e σ S')) : ifS' c t u D σ S := h
theorem v_var (h : σ[n]? = some (some w)) (q : Q w S) : varS n σ S Q E := by
  unfold varS
  rw [h]
  exact q
theorem v_cst (q : Q w S) : cstS w σ S Q E := q
theorem v_op2 {b : W → W → Store → WP → Prop} (h : ta σ S (fun x S1 => tb σ S1 (fun y S2 => b x y S2 Q) E) E) : op2S b ta tb σ S Q E := h
theorem v_neg (h : ta σ S (fun x S1 => ngW x Q S1) E) : negS ta σ S Q E := h
theorem v_tst {Q : Bool → Store → Prop} (h : ta σ S (fun x S1 => tsW x Q S1) E) : tstS ta σ S Q E := h
theorem v_val (h : c σ S (fun b S1 => Q (.bl b) S1) E) : valS c σ S Q E := h
theorem v_not {Q : Bool → Store → Prop} (h : c σ S (fun b S1 => Q (!b) S1) E) : notT c σ S Q E := h
theorem v_andT {d : TwT} {Q : Bool → Store → Prop} (h : c σ S (fun b S1 => brW b (d σ S1 Q E) (Q false S1)) E) : andT c d σ S Q E := h
theorem v_orT {d : TwT} {Q : Bool → Store → Prop} (h : c σ S (fun b S1 => brW b (Q true S1) (d σ S1 Q E)) E) : orT c d σ S Q E := h
theorem v_ifE (h : c σ S (fun b S1 => brW b (ta σ S1 Q E) (tb σ S1 Q E)) E) : ifS c ta tb σ S Q E := h
theorem v_andE (h : ta σ S (fun x S1 => anW S1 x (tb σ S1 Q E) (fun y => Q y S1)) E) : andS ta tb σ S Q E := h
theorem v_orE (h : ta σ S (fun x S1 => orW S1 x (tb σ S1 Q E) (fun y => Q y S1)) E) : orS ta tb σ S Q E := h
theorem v_tru {Q : Bool → Store → Prop} (h : ta σ S (fun x S1 => truW S1 x (fun b => Q b S1)) E) : truS ta σ S Q E := h
theorem tr_bl {b : Bool} {P : Bool → Prop} (h : P b) : truW S (.bl b) P := h
theorem tr_non {P : Bool → Prop} (h : P false) : truW S .non P := h
theorem an_bl {b : Bool} {A : Prop} {B : W → Prop} (h : boW (.bl b) A (B (.bl false))) : anW S (.bl b) A B := by
  cases b <;> exact h
theorem or_bl {b : Bool} {A : Prop} {B : W → Prop} (h : boW (.bl b) (B (.bl true)) A) : orW S (.bl b) A B := by
  cases b <;> exact h
theorem an_non {A : Prop} {B : W → Prop} (h : B .non) : anW S .non A B := h
theorem or_non {A : Prop} {B : W → Prop} (h : A) : orW S .non A B := h
theorem v_nil {Q : List W → Store → Prop} (q : Q [] S) : nilA σ S Q E := q
theorem v_cons {Q : List W → Store → Prop} (h : ta σ S (fun x S1 => ua σ S1 (fun xs S2 => Q (x :: xs) S2) E) E) : consA ta ua σ S Q E := h
theorem v_bi {b : List W → Store → WP → Prop} (h : ua σ S (fun xs S1 => b xs S1 Q) E) : biS b ua σ S Q E := h
theorem v_slc {lo hi : TwO} (h : ta σ S (fun x S1 => lo σ S1 (fun l S2 => hi σ S2 (fun h S3 => slcW x l h S3 Q) E) E) E) : slcS ta lo hi σ S Q E := h
theorem v_noO {Q : Option Int → Store → Prop} (q : Q none S) : noO σ S Q E := q
theorem v_someO {Q : Option Int → Store → Prop} (h : ta σ S (fun x S1 => soW x Q S1) E) : someO ta σ S Q E := h
theorem v_mt {m : Mt} (h : ta σ S (fun o S1 => mgW m o S1 (ua σ S1 (fun as S2 => mtW m o as S2 Q) E) (ua σ S1 (fun as S2 => dmW m o as S2 Q) E)) E) : mtS m ta ua σ S Q E := h
theorem v_add (q : Q (.int (i + j)) S) : binW .Add (.int i) (.int j) S Q := q
theorem v_sub (q : Q (.int (i - j)) S) : binW .Sub (.int i) (.int j) S Q := q
theorem v_mul (h : (-(2 ^ 64) < i ∧ i < 2 ^ 64) ∨ (-(2 ^ 64) < j ∧ j < 2 ^ 64)) (q : Q (.int (i * j)) S) : binW .Mult (.int i) (.int j) S Q := ⟨.inl h, q⟩
theorem v_fdiv (h : 0 < j ∧ j < 1073741824) (q : Q (.int (i / j)) S) : binW .FloorDiv (.int i) (.int j) S Q := ⟨.inl h, q⟩
theorem v_mod (h : 0 < j) (q : Q (.int (i % j)) S) : binW .Mod (.int i) (.int j) S Q := ⟨h, q⟩
theorem v_pow (h : 0 ≤ j ∧ j ≤ 1000000 ∧ i.natAbs < 2 ^ 64) (q : Q (.int (i ^ j.toNat)) S) : binW .Pow (.int i) (.int j) S Q := ⟨h, q⟩
theorem v_xor (q : Q (.int (Builtin.bitXor i j)) S) : binW .BitXor (.int i) (.int j) S Q := q
theorem v_lt (q : Q (.bl (decide (i < j))) S) : cmpW .Lt (.int i) (.int j) S Q := q
theorem v_le (q : Q (.bl (decide (i ≤ j))) S) : cmpW .LtE (.int i) (.int j) S Q := q
theorem v_gt (q : Q (.bl (decide (j < i))) S) : cmpW .Gt (.int i) (.int j) S Q := q
theorem v_ge (q : Q (.bl (decide (j ≤ i))) S) : cmpW .GtE (.int i) (.int j) S Q := q
theorem v_eqI (q : Q (.bl (decide (i = j))) S) : cmpW .Eq (.int i) (.int j) S Q := by
  show Q (.bl (false != decide (i = j))) S
  simpa using q
theorem v_neI (q : Q (.bl (!decide (i = j))) S) : cmpW .NotEq (.int i) (.int j) S Q := by
  show Q (.bl (true != decide (i = j))) S
  simpa using q
theorem v_eqB {a b : Bool} (q : Q (.bl (decide (a = b))) S) : cmpW .Eq (.bl a) (.bl b) S Q := by
  show Q (.bl (false != decide (a = b))) S
  simpa using q
theorem v_neB {a b : Bool} (q : Q (.bl (!decide (a = b))) S) : cmpW .NotEq (.bl a) (.bl b) S Q := by
  show Q (.bl (true != decide (a = b))) S
  simpa using q
theorem idx_at {xs : List W} (h : items? S x = some xs) (e : atI xs i = some w) (q : Q w S) : idxW x (.int i) S Q := by
  have g : (match items? S x with
    | some xs => (match atI xs i with
      | some v => Q v S
      | none => False)
    | none => False) := by
    rw [h]
    show (match atI xs i with | some v => Q v S | none => False)
    rw [e]
    exact q
  refine .inl ?_
  cases x <;> first | exact g | (cases h; done)
theorem v_len {xs : List W} (h : items? S x = some xs) (q : Q (.int xs.length) S) : biW K .len [x] S Q := by
  have g : (match items? S x with
      | some xs => Q (.int xs.length) S
      | none => (match dicL S x with
        | some kvs => Q (.int kvs.length) S
        | none => False)) := by
    rw [h]
    exact q
  cases x <;> first | exact g | (cases h; done)
theorem v_abs (q : Q (.int i.natAbs) S) : biW K .abs [.int i] S Q := q
theorem v_list {xs : List W} (h : items? S x = some xs) (q : ∀ p, S p = none → Q (.ref p) (put S p (.lst xs))) : biW K .list [x] S Q := by
  show (match items? S x with
    | some xs => ∀ p, S p = none → Q (.ref p) (put S p (.lst xs))
    | none => False)
  rw [h]
  exact q
theorem v_tuple {xs : List W} (h : items? S x = some xs) (q : Q (.tup xs) S) : biW K .tuple [x] S Q := by
  show (match items? S x with
    | some xs => Q (.tup xs) S
    | none => False)
  rw [h]
  exact q
theorem v_isi {b : Bool} {t d : Tyc} (h : tyW S x = some t) (hd : clsOf y = some d) (e : kitT K t d = some b) (q : Q (.bl b) S) : biW K .isinstance [x, y] S Q := by
  show isiW K x y S Q
  unfold isiW
  rw [h]
  cases y <;> first | (cases hd; done) | (simp only [hd, e]; exact q)
theorem v_isiT {b : Bool} {t d : Tyc} {cs : List W} {ds : List Tyc} (h : tyW S x = some t) (hd : clsesOf cs = some (d :: ds)) (e : kitL K t (d :: ds) = some b) (q : Q (.bl b) S) : biW K .isinstance [x, .tup cs] S Q := by
  show isiW K x (.tup cs) S Q
  unfold isiW
  rw [h]
  simp only [hd, e]
  exact q
theorem v_append {a : Addr} {xs : List W} (h : S a = some (.lst xs)) (hl : xs.length < sizeLine) (q : Q .non (put S a (.lst (xs ++ [w])))) : mtW .append (.ref a) [w] S Q := by
  show (match S a with
    | some (.lst xs) => xs.length < sizeLine ∧ Q .non (put S a (.lst (xs ++ [w])))
    | _ => False)
  rw [h]
  exact ⟨hl, q⟩
theorem v_clear {a : Addr} {xs : List W} (h : S a = some (.lst xs)) (q : Q .non (put S a (.lst []))) : mtW .clear (.ref a) [] S Q := by
  show (match S a with
    | some (.lst xs) => Q .non (put S a (.lst []))
    | _ => False)
  rw [h]
  exact q
theorem v_sti {to ti tv : Tw} (h : tv σ S (fun v S1 => to σ S1 (fun o S2 => ti σ S2 (fun i S3 => sbW o i v S3 (D.nx σ)) (fun e S' => D.ex e σ S')) (fun e S' => D.ex e σ S')) (fun e S' => D.ex e σ S')) : stiS to ti tv D σ S := h
theorem v_for {ti : TwI} {p : Pat} (h : ti σ S (fun items still S' => loopI p t D still items σ S') (fun e S' => D.ex e σ S')) : forS ti p t D σ S := h
theorem v_seqI {Q : List W → (Store → Prop) → Store → Prop} (h : ta σ S (fun x S1 => siW x S1 Q) E) : seqI ta σ S Q E := h
theorem v_yes {Q : Bool → Store → Prop} (q : Q true S) : yesT σ S Q E := q
theorem v_e1I {Q : List W → (Store → Prop) → Store → Prop} (h : ua σ S (fun xs S1 => e1W xs S1 Q) E) : enm1I ua σ S Q E := h
theorem v_e2I {Q : List W → (Store → Prop) → Store → Prop} (h : ua σ S (fun xs S1 => e2W xs S1 Q) E) : enm2I ua σ S Q E := h
theorem v_r1I {Q : List W → (Store → Prop) → Store → Prop} (h : ua σ S (fun xs S1 => r1W xs S1 Q) E) : rng1I ua σ S Q E := h
theorem v_r2I {Q : List W → (Store → Prop) → Store → Prop} (h : ua σ S (fun xs S1 => r2W xs S1 Q) E) : rng2I ua σ S Q E := h
theorem v_zpI {Q : List W → (Store → Prop) → Store → Prop} (h : ua σ S (fun xs S1 => zpW xs S1 Q) E) : zpI ua σ S Q E := h
end
theorem v_nm {i : Nat} {w : W} {σ : Sw} {S : Store} {Q : Sw → Store → Prop} (q : Q (σ.set i (some w)) S) : patW (.nm i) w σ S Q := q
theorem v_ptwo {i : Nat} {js : List Nat} {a : W} {ws : List W} {σ σ' : Sw} {S : Store} {Q : Sw → Store → Prop} (h : setsW js ws (σ.set i (some a)) = some σ') (q : Q σ' S) : patW (.two i js) (.tup [a, .tup ws]) σ S Q := by
  show (match setsW js ws (σ.set i (some a)) with | some σ' => Q σ' S | none => False)
  rw [h]; exact q
theorem v_ptup {is : List Nat} {ws : List W} {σ σ' : Sw} {S : Store} {Q : Sw → Store → Prop} (h : setsW is ws σ = some σ') (q : Q σ' S) : patW (.tup is) (.tup ws) σ S Q := by
  show (match setsW is ws σ with
    | some σ' => Q σ' S
    | none => False)
  rw [h]
  exact q
/-- what is there stays -/
def Ext (S S' : Store) : Prop := ∀ a o, S a = some o → S' a = some o
theorem Ext.refl {S : Store} : Ext S S := fun _ _ h => h
theorem Ext.trans {S S1 S2 : Store} (a : Ext S S1) (b : Ext S1 S2) : Ext S S2 := fun x o h => b x o (a x o h)
theorem Ext.new {S : Store} {p : Addr} {o : O} (h : S p = none) : Ext S (put S p o) := fun a x e => by
  rw [put_ne]
  · exact e
  · rintro rfl
    rw [h] at e
    cases e
theorem Ext.items {S S' : Store} (x : Ext S S') {w : W} {xs : List W} (h : items? S w = some xs) : items? S' w = some xs := by
  cases w with
  | ref a =>
    simp only [items?] at h ⊢
    cases e : S a with
    | none => rw [e] at h; cases h
    | some o => rw [e] at h; rw [x a o e]; exact h
  | _ => exact h
theorem atI_nat' {α : Type} {xs : List α} {i : Int} {v : α} (h0 : 0 ≤ i) (h : xs[i.toNat]? = some v) : atI xs i = some v := by
  have e : i = (i.toNat : Int) := by omega
  rw [e]
  exact atI_nat (by simpa using h)
/-- decided -/
theorem call_eq {T : List FnE} {k f : Nat} {F : FnE} (h : T[f]? = some F) {ws : List W} {S : Store} {Q : WP} {E : XP} (hl : ws.length = F.np) (q : F.body (semN T k) (endW Q E) (startW F.nn ws) S) : (semN T (k + 1)).call f ws S Q E := by
  show (match T[f]? with | some F => ws.length = F.np ∧ F.body (semN T k) (endW Q E) (startW F.nn ws) S | none => False)
  rw [h]
  exact ⟨hl, q⟩
end MP
set_option Elab.async false
set_option linter.all false
set_option maxRecDepth 100000
set_option maxHeartbeats 4000000
namespace MP
open PySem PySem.Spec PyProof.Rows L2
/-! ### what is known of a store: a part that stays, and cells of one's own -/
inductive T where
  | non | bl (b : Bool) | int (i : Int) | str (x : Str) | tup (ts : List T) | lst (ts : List T) | obj (c : Nat) (ks : List Str) (ts : List T)
instance : Inhabited T := ⟨.non⟩
abbrev il (ns : List Int) : T := .lst (ns.map .int)
abbrev it (ns : List Int) : T := .tup (ns.map .int)
mutual
inductive Rp (R : Store) : T → W → Prop where
  | cNon : Rp R .non .non
  | cBl (b : Bool) : Rp R (.bl b) (.bl b)
  | cInt (b : Int) : Rp R (.int b) (.int b)
  | cStr (b : Str) : Rp R (.str b) (.str b)
  | cTup (ts : List T) (ws : List W) : RpA R ts ws → Rp R (.tup ts) (.tup ws)
  | cLst (ts : List T) (ws : List W) (a : Addr) : R a = some (.lst ws) → RpA R ts ws → Rp R (.lst ts) (.ref a)
  | cObj (c : Nat) (ks : List Str) (ts : List T) (ws : List W) (a : Addr) : R a = some (.ins c (ks.zip ws)) → ks.length = ts.length → RpA R ts ws → Rp R (.obj c ks ts) (.ref a)
inductive RpA (R : Store) : List T → List W → Prop where
  | cNil : RpA R [] []
  | cCons (t : T) (w : W) (ts : List T) (ws : List W) : Rp R t w → RpA R ts ws → RpA R (t :: ts) (w :: ws)
end
section
variable {R R' : Store} {w : W} {ws : List W}
theorem rp_non : Rp R .non .non := .cNon
theorem rp_bl {b : Bool} : Rp R (.bl b) (.bl b) := .cBl b
theorem rp_int {b : Int} : Rp R (.int b) (.int b) := .cInt b
theorem rp_str {b : Str} : Rp R (.str b) (.str b) := .cStr b
theorem rp_tup {ts : List T} (h : RpA R ts ws) : Rp R (.tup ts) (.tup ws) := .cTup _ _ h
theorem rp_lst {ts : List T} {a : Addr} (e : R a = some (.lst ws)) (h : RpA R ts ws) : Rp R (.lst ts) (.ref a) := .cLst _ _ _ e h
theorem rpA_nil : RpA R [] [] := .cNil
theorem rpA_cons {t : T} {ts : List T} (h : Rp R t w) (g : RpA R ts ws) : RpA R (t :: ts) (w :: ws) := .cCons _ _ _ _ h g
theorem Rp.non (h : Rp R .non w) : w = .non := by cases h; rfl
theorem Rp.bl {b : Bool} (h : Rp R (.bl b) w) : w = .bl b := by cases h; rfl
theorem Rp.int {b : Int} (h : Rp R (.int b) w) : w = .int b := by cases h; rfl
theorem Rp.str {b : Str} (h : Rp R (.str b) w) : w = .str b := by cases h; rfl
theorem Rp.tup {ts : List T} (h : Rp R (.tup ts) w) : ∃ ws, w = .tup ws ∧ RpA R ts ws := by cases h; exact ⟨_, rfl, by assumption⟩
theorem Rp.lst {ts : List T} (h : Rp R (.lst ts) w) : ∃ a ws, w = .ref a ∧ R a = some (.lst ws) ∧ RpA R ts ws := by cases h; exact ⟨_, _, rfl, by assumption, by assumption⟩
theorem Rp.obj {c : Nat} {ks : List Str} {ts : List T} (h : Rp R (.obj c ks ts) w) : ∃ a ws, w = .ref a ∧ R a = some (.ins c (ks.zip ws)) ∧ ks.length = ts.length ∧ RpA R ts ws := by cases h; exact ⟨_, _, rfl, by assumption, by assumption, by assumption⟩
theorem RpA.nil (h : RpA R [] ws) : ws = [] := by cases h; rfl
theorem RpA.cons {t : T} {ts : List T} (h : RpA R (t :: ts) ws) : ∃ w r, ws = w :: r ∧ Rp R t w ∧ RpA R ts r := by cases h; exact ⟨_, _, rfl, by assumption, by assumption⟩
mutual
theorem Rp.mono (x : Ext R R') : ∀ {t : T} {w : W}, Rp R t w → Rp R' t w
  | .non, w, h => by rw [h.non]; exact rp_non
  | .bl b, w, h => by rw [h.bl]; exact rp_bl
  | .int b, w, h => by rw [h.int]; exact rp_int
  | .str b, w, h => by rw [h.str]; exact rp_str
  | .tup ts, w, h => by
    obtain ⟨ws, e, g⟩ := h.tup
    subst e
    exact rp_tup (RpA.mono x g)
  | .lst ts, w, h => by
    obtain ⟨a, ws, e, q, g⟩ := h.lst
    subst e
    exact rp_lst (x _ _ q) (RpA.mono x g)
  | .obj c ks ts, w, h => by
    obtain ⟨a, ws, e, q, l, g⟩ := h.obj
    subst e
    exact .cObj _ _ _ _ _ (x _ _ q) l (RpA.mono x g)
theorem RpA.mono (x : Ext R R') : ∀ {ts : List T} {ws : List W}, RpA R ts ws → RpA R' ts ws
  | [], ws, h => by rw [h.nil]; exact rpA_nil
  | t :: ts, ws, h => by
    obtain ⟨w, r, e, a, b⟩ := h.cons
    subst e
    exact rpA_cons (Rp.mono x a) (RpA.mono x b)
end
theorem RpA.length : ∀ {ts : List T} {ws : List W}, RpA R ts ws → ws.length = ts.length
  | [], ws, h => by rw [h.nil]; rfl
  | t :: ts, ws, h => by
    obtain ⟨w, r, e, a, b⟩ := h.cons
    subst e
    simp [RpA.length b]
theorem RpA.get : ∀ {ts : List T} {ws : List W} {i : Nat} {t : T}, RpA R ts ws → ts[i]? = some t → ∃ w, ws[i]? = some w ∧ Rp R t w
  | [], ws, i, t, h, e => by simp at e
  | t :: ts, ws, 0, u, h, e => by
    obtain ⟨w, r, z, a, b⟩ := h.cons
    subst z
    simp at e; subst e
    exact ⟨w, rfl, a⟩
  | t :: ts, ws, i + 1, u, h, e => by
    obtain ⟨w, r, z, a, b⟩ := h.cons
    subst z
    obtain ⟨w', g1, g2⟩ := RpA.get b (by simpa using e)
    exact ⟨w', by simpa using g1, g2⟩
theorem RpA.of : ∀ {ts : List T} {ws : List W} {i : Nat} {w : W}, RpA R ts ws → ws[i]? = some w → ∃ t, ts[i]? = some t ∧ Rp R t w
  | [], ws, i, t, h, e => by rw [h.nil] at e; simp at e
  | t :: ts, ws, 0, u, h, e => by
    obtain ⟨w, r, z, a, b⟩ := h.cons
    subst z
    simp at e; subst e
    exact ⟨t, rfl, a⟩
  | t :: ts, ws, i + 1, u, h, e => by
    obtain ⟨w, r, z, a, b⟩ := h.cons
    subst z
    obtain ⟨w', g1, g2⟩ := RpA.of (i := i) b (by simpa using e)
    exact ⟨w', by simpa using g1, g2⟩
theorem RpA.app : ∀ {ts us : List T} {ws vs : List W}, RpA R ts ws → RpA R us vs → RpA R (ts ++ us) (ws ++ vs)
  | [], us, ws, vs, h, g => by rw [h.nil]; simpa using g
  | t :: ts, us, ws, vs, h, g => by
    obtain ⟨w, r, z, a, b⟩ := h.cons
    subst z
    exact rpA_cons a (RpA.app b g)
theorem RpA.take {ts : List T} {ws : List W} : ∀ (n : Nat), RpA R ts ws → RpA R (ts.take n) (ws.take n) := by
  induction ts generalizing ws with
  | nil => intro n h; rw [h.nil]; simpa using rpA_nil
  | cons t ts ih =>
    intro n h
    obtain ⟨w, r, z, a, b⟩ := h.cons
    subst z
    cases n with
    | zero => simpa using rpA_nil
    | succ n => exact rpA_cons a (ih n b)
theorem RpA.drop {ts : List T} {ws : List W} : ∀ (n : Nat), RpA R ts ws → RpA R (ts.drop n) (ws.drop n) := by
  induction ts generalizing ws with
  | nil => intro n h; rw [h.nil]; simpa using rpA_nil
  | cons t ts ih =>
    intro n h
    obtain ⟨w, r, z, a, b⟩ := h.cons
    subst z
    cases n with
    | zero => exact rpA_cons a b
    | succ n => exact ih n b
theorem RpA.reverse {ts : List T} {ws : List W} (h : RpA R ts ws) : RpA R ts.reverse ws.reverse := by
  induction ts generalizing ws with
  | nil => rw [h.nil]; simpa using rpA_nil
  | cons t ts ih =>
    obtain ⟨w, r, z, a, b⟩ := h.cons
    subst z
    rw [List.reverse_cons, List.reverse_cons]
    exact (ih b).app (rpA_cons a rpA_nil)
theorem rpA_ints : ∀ {ns : List Int}, RpA R (ns.map .int) (ns.map .int)
  | [] => rpA_nil
  | n :: ns => rpA_cons rp_int rpA_ints
theorem RpA.ints : ∀ {ns : List Int} {ws : List W}, RpA R (ns.map .int) ws → ws = ns.map .int
  | [], ws, h => h.nil
  | n :: ns, ws, h => by
    obtain ⟨w, r, z, a, b⟩ := h.cons
    rw [z, a.int, RpA.ints b]; rfl
theorem RpA.bls : ∀ {ns : List Bool} {ws : List W}, RpA R (ns.map .bl) ws → ws = ns.map .bl
  | [], ws, h => h.nil
  | n :: ns, ws, h => by
    obtain ⟨w, r, z, a, b⟩ := h.cons
    rw [z, a.bl, RpA.bls b]; rfl
end
abbrev Cells := List (Addr × O)
structure Own (S R : Store) (cs : Cells) : Prop where
  r : Ext R S
  c : ∀ p ∈ cs, S p.1 = some p.2
  d : ∀ p ∈ cs, R p.1 = none
  n : (cs.map (·.1)).Nodup
section
variable {S S' R R' : Store} {cs : Cells} {p : Addr} {o o' : O}
theorem Own.ext (h : Own S R cs) (x : Ext S S') : Own S' R cs := ⟨h.r.trans x, fun q hq => x _ _ (h.c q hq), h.d, h.n⟩
theorem Own.free (h : Own S R cs) (e : S p = none) : R p = none := by
  cases q : R p with
  | none => rfl
  | some u => rw [h.r _ _ q] at e; cases e
/-- a new object as a cell -/
theorem Own.new (h : Own S R cs) (e : S p = none) : Own (put S p o) R ((p, o) :: cs) := by
  refine ⟨h.r.trans (.new e), fun q hq => ?_, fun q hq => ?_, ?_⟩
  · rcases List.mem_cons.mp hq with z | z
    · rw [z]; exact put_same
    · exact Ext.new e _ _ (h.c q z)
  · rcases List.mem_cons.mp hq with z | z
    · rw [z]; exact h.free e
    · exact h.d q z
  · rw [List.map_cons, List.nodup_cons]
    refine ⟨fun z => ?_, h.n⟩
    obtain ⟨q, hq, eq⟩ := List.mem_map.mp z
    have := h.c q hq
    rw [eq] at this
    rw [e] at this
    cases this
/-- a cell is let stay -/
theorem Own.frz (h : Own S R ((p, o) :: cs)) : Own S (put R p o) cs ∧ Ext R (put R p o) ∧ put R p o p = some o := by
  have hn : R p = none := h.d _ (List.mem_cons_self ..)
  refine ⟨⟨fun a u e => ?_, fun q hq => h.c q (List.mem_cons_of_mem _ hq), fun q hq => ?_, (List.nodup_cons.mp h.n).2⟩, .new hn, put_same⟩
  · by_cases z : a = p
    · subst z
      rw [put_same] at e
      cases e
      exact h.c _ (List.mem_cons_self ..)
    · rw [put_ne z] at e
      exact h.r _ _ e
  · rw [put_ne]
    · exact h.d q (List.mem_cons_of_mem _ hq)
    · intro z
      refine (List.nodup_cons.mp h.n).1 ?_
      show p ∈ _
      rw [← z]
      exact List.mem_map_of_mem hq
theorem Own.drop (h : Own S R ((p, o) :: cs)) : Own S R cs := ⟨h.r, fun q hq => h.c q (List.mem_cons_of_mem _ hq), fun q hq => h.d q (List.mem_cons_of_mem _ hq), (List.nodup_cons.mp h.n).2⟩
theorem Own.at (h : Own S R ((p, o) :: cs)) : S p = some o := h.c _ (List.mem_cons_self ..)
theorem Own.wr (h : Own S R ((p, o) :: cs)) : Own (put S p o') R ((p, o') :: cs) := by
  have hn : R p = none := h.d _ (List.mem_cons_self ..)
  refine ⟨fun a u e => ?_, fun q hq => ?_, fun q hq => ?_, h.n⟩
  · rw [put_ne]
    · exact h.r _ _ e
    · rintro rfl
      rw [hn] at e
      cases e
  · rcases List.mem_cons.mp hq with z | z
    · rw [z]; exact put_same
    · rw [put_ne]
      · exact h.c q (List.mem_cons_of_mem _ z)
      · intro y
        refine (List.nodup_cons.mp h.n).1 ?_
        show p ∈ _
        rw [← y]
        exact List.mem_map_of_mem z
  · rcases List.mem_cons.mp hq with z | z
    · rw [z]; exact hn
    · exact h.d q (List.mem_cons_of_mem _ z)
theorem Own.perm {ds : Cells} (h : Own S R cs) (e : cs.Perm ds) : Own S R ds :=
  ⟨h.r, fun q hq => h.c q (e.mem_iff.mpr hq), fun q hq => h.d q (e.mem_iff.mpr hq), ((e.map _).nodup_iff).mp h.n⟩
theorem Own.swap {c d : Addr × O} (h : Own S R (c :: d :: cs)) : Own S R (d :: c :: cs) := h.perm (List.Perm.swap ..)
/-- the third one first, and back -/
theorem Own.rot {c d e : Addr × O} (h : Own S R (c :: d :: e :: cs)) : Own S R (e :: c :: d :: cs) :=
  h.perm (((List.Perm.swap e d cs).cons c).trans (List.Perm.swap e c (d :: cs)))
theorem Own.tor {c d e : Addr × O} (h : Own S R (e :: c :: d :: cs)) : Own S R (c :: d :: e :: cs) :=
  h.perm ((List.Perm.swap c e (d :: cs)).trans ((List.Perm.swap d e cs).cons c))
theorem Own.wk (h : Own S R' cs) (x : Ext R R') : Own S R cs := by
  refine ⟨x.trans h.r, h.c, fun q hq => ?_, h.n⟩
  cases e : R q.1 with
  | none => rfl
  | some u =>
    have := x _ _ e
    rw [h.d q hq] at this
    cases this
theorem Own.thaw {S1 : Store} (h : Own S' (put R p o) cs) (g : Own S1 R ((p, o) :: cs)) : Own S' R ((p, o) :: cs) := by
  have hn : R p = none := g.d _ (List.mem_cons_self ..)
  refine ⟨fun a u e => h.r _ _ (Ext.new hn _ _ e), fun q hq => ?_, g.d, g.n⟩
  rcases List.mem_cons.mp hq with z | z
  · rw [z]
    exact h.r _ _ put_same
  · exact h.c q z
theorem Own.r4 {c d e f : Addr × O} (h : Own S R (c :: d :: e :: f :: cs)) : Own S R (f :: c :: d :: e :: cs) :=
  h.perm ((((List.Perm.swap f e cs).cons d).trans (List.Perm.swap f d (e :: cs))).cons c |>.trans (List.Perm.swap f c (d :: e :: cs)))
theorem Own.r5 {c d e f g : Addr × O} (h : Own S R (c :: d :: e :: f :: g :: cs)) : Own S R (g :: c :: d :: e :: f :: cs) := by
  have h2 : Own S R ((d :: e :: f :: g :: cs) ++ [c]) := h.perm (List.perm_append_comm (l₁ := [c]) (l₂ := d :: e :: f :: g :: cs))
  have p : ((d :: e :: f :: g :: cs) ++ [c]).Perm (g :: c :: d :: e :: f :: cs) := by
    refine (List.perm_append_comm (l₁ := d :: e :: f :: g :: cs) (l₂ := [c])).trans ?_
    show (c :: d :: e :: f :: g :: cs).Perm (g :: c :: d :: e :: f :: cs)
    have q : (d :: e :: f :: g :: cs).Perm (g :: d :: e :: f :: cs) := ((((List.Perm.swap g f cs).cons e).trans (List.Perm.swap g e (f :: cs))).cons d).trans (List.Perm.swap g d (e :: f :: cs))
    exact (q.cons c).trans (List.Perm.swap g c _)
  exact h2.perm p
theorem Own.start : Own S S [] := ⟨.refl, fun _ h => (by cases h), fun _ h => (by cases h), List.nodup_nil⟩
/-- a new object that stays -/
theorem Own.newF (h : Own S R cs) (e : S p = none) : Own (put S p o) (put R p o) cs ∧ Ext R (put R p o) ∧ put R p o p = some o := (h.new e).frz
end
/-! ### items -/
theorem Rp.items {S R : Store} {cs : Cells} (o : Own S R cs) {ts : List T} {w : W} (h : Rp R (.lst ts) w) : ∃ a ws, w = .ref a ∧ S a = some (.lst ws) ∧ items? S w = some ws ∧ RpA R ts ws := by
  obtain ⟨a, ws, e, q, g⟩ := h.lst
  subst e
  have := o.r _ _ q
  exact ⟨a, ws, rfl, this, by simp only [items?, this], g⟩
theorem items_lst {S : Store} {b : Addr} {xs : List W} (h : S b = some (.lst xs)) : items? S (.ref b) = some xs := by simp only [items?, h]
theorem sz_ok {n : Nat} (h : n ≤ 1000000) : n ≤ sizeLine := by rw [sizeLine_eq]; omega
theorem sz_lt {n : Nat} (h : n ≤ 1000000) : n < sizeLine := by rw [sizeLine_eq]; omega
/-- a sequence: list or tuple -/
def T.seq? : T → Option (List T)
  | .lst ts => some ts
  | .tup ts => some ts
  | _ => none
theorem Rp.seq {S R : Store} {cs : Cells} (o : Own S R cs) {t : T} {ts : List T} {w : W} (h : Rp R t w) (e : t.seq? = some ts) : ∃ ws, items? S w = some ws ∧ RpA R ts ws := by
  cases t <;> first | (cases e; done) | skip
  · cases e
    obtain ⟨ws, rfl, g⟩ := h.tup
    exact ⟨ws, rfl, g⟩
  · cases e
    obtain ⟨a, ws, rfl, q, i, g⟩ := h.items o
    exact ⟨ws, i, g⟩
/-- a cell that is a list, or a list, or a tuple: its items -/
structure Its (S R : Store) (w : W) (ts : List T) : Prop where
  ex : ∃ ws, items? S w = some ws ∧ RpA R ts ws
theorem Its.cell {S R : Store} {cs : Cells} {p : Addr} {ws : List W} {ts : List T} (o : Own S R ((p, .lst ws) :: cs)) (h : RpA R ts ws) : Its S R (.ref p) ts := ⟨ws, items_lst o.at, h⟩
theorem atI_map {R : Store} {ts : List T} {ws : List W} (h : RpA R ts ws) {i : Int} {t : T} (e : atI ts i = some t) : ∃ w, atI ws i = some w ∧ Rp R t w := by
  unfold atI at e ⊢
  rw [h.length]
  cases q : ixN ts.length i with
  | none => rw [q] at e; cases e
  | some j =>
    rw [q] at e
    obtain ⟨w, a, b⟩ := h.get (show ts[j]? = some t from e)
    exact ⟨w, a, b⟩
def cutT {α : Type} (xs : List α) (lo hi : Option Int) : List α := (xs.drop (HT.sIx xs.length 0 lo)).take (HT.sIx xs.length xs.length hi - HT.sIx xs.length 0 lo)
theorem cutT_rel {R : Store} {ts : List T} {ws : List W} (h : RpA R ts ws) (lo hi : Option Int) : RpA R (cutT ts lo hi) (cutW ws lo hi) := by
  unfold cutT cutW
  rw [h.length]
  exact (h.drop _).take _
theorem cutT_map {α β : Type} (f : α → β) (xs : List α) (lo hi : Option Int) : cutT (xs.map f) lo hi = (cutT xs lo hi).map f := by
  unfold cutT
  rw [List.length_map, List.map_take, List.map_drop]
/-! ### data, and what == tells of it -/
mutual
def T.py : T → Option PyData
  | .non => some .none
  | .bl b => some (.bool b)
  | .int i => some (.int i)
  | .str x => some (.str x)
  | .tup ts => (T.pyA ts).map .tuple
  | .lst ts => (T.pyA ts).map .list
  | .obj _ _ _ => none
def T.pyA : List T → Option (List PyData)
  | [] => some []
  | t :: ts => (match T.py t, T.pyA ts with
    | some d, some ds => some (d :: ds)
    | _, _ => none)
end
mutual
theorem Rp.dw {S R : Store} (x : Ext R S) : ∀ {t : T} {w : W} {d : PyData}, Rp R t w → t.py = some d → Dw S d w
  | .non, w, d, h, e => by simp only [T.py] at e; cases e; simp only [Dw]; exact h.non
  | .bl b, w, d, h, e => by simp only [T.py] at e; cases e; simp only [Dw]; exact h.bl
  | .int b, w, d, h, e => by simp only [T.py] at e; cases e; simp only [Dw]; exact h.int
  | .str b, w, d, h, e => by simp only [T.py] at e; cases e; simp only [Dw]; exact h.str
  | .tup ts, w, d, h, e => by
    simp only [T.py, Option.map_eq_some_iff] at e
    obtain ⟨ds, e, rfl⟩ := e
    obtain ⟨ws, rfl, g⟩ := h.tup
    simp only [Dw]
    exact ⟨ws, rfl, RpA.dw x g e⟩
  | .lst ts, w, d, h, e => by
    simp only [T.py, Option.map_eq_some_iff] at e
    obtain ⟨ds, e, rfl⟩ := e
    obtain ⟨a, ws, rfl, q, g⟩ := h.lst
    simp only [Dw]
    exact ⟨a, ws, rfl, items_lst (x _ _ q), RpA.dw x g e⟩
  | .obj _ _ _, w, d, h, e => by simp only [T.py] at e; cases e
theorem RpA.dw {S R : Store} (x : Ext R S) : ∀ {ts : List T} {ws : List W} {ds : List PyData}, RpA R ts ws → T.pyA ts = some ds → DwAll S ds ws
  | [], ws, ds, h, e => by simp only [T.pyA] at e; cases e; simp only [DwAll]; exact h.nil
  | t :: ts, ws, ds, h, e => by
    obtain ⟨w, r, rfl, a, b⟩ := h.cons
    simp only [T.pyA] at e
    split at e
    · rename_i d ds' e1 e2
      cases e
      simp only [DwAll]
      exact ⟨w, r, rfl, Rp.dw x a e1, RpA.dw x b e2⟩
    · cases e
end
mutual
/-- one data, its depth at most n -/
def T.ok : T → Nat → Bool
  | .non, _ => true
  | .bl _, _ => true
  | .int _, _ => true
  | .str x, _ => PyData.strOk x
  | .tup ts, n => (match n with
    | 0 => false
    | n + 1 => T.okA ts n)
  | .lst ts, n => (match n with
    | 0 => false
    | n + 1 => T.okA ts n)
  | .obj _ _ _, _ => false
def T.okA : List T → Nat → Bool
  | [], _ => true
  | t :: ts, n => T.ok t n && T.okA ts n
end
theorem okA_ints : ∀ (ns : List Int) (n : Nat), T.okA (ns.map .int) n = true
  | [], n => by simp only [List.map_nil, T.okA]
  | i :: ns, n => by simp only [List.map_cons, T.okA, T.ok, okA_ints ns n, Bool.and_self]
mutual
theorem T.ok_py : ∀ {t : T} {n : Nat}, t.ok n = true → ∃ d, t.py = some d ∧ d.canLay0 = true ∧ d.depth ≤ n
  | .non, n, h => ⟨_, by simp only [T.py]; rfl, by simp only [PyData.canLay0], by simp [PyData.depth]⟩
  | .bl b, n, h => ⟨_, by simp only [T.py]; rfl, by simp only [PyData.canLay0], by simp [PyData.depth]⟩
  | .int b, n, h => ⟨_, by simp only [T.py]; rfl, by simp only [PyData.canLay0], by simp [PyData.depth]⟩
  | .str b, n, h => ⟨_, by simp only [T.py]; rfl, by simp only [PyData.canLay0]; simpa only [T.ok] using h, by simp [PyData.depth]⟩
  | .tup ts, n, h => by
    cases n with
    | zero => simp [T.ok] at h
    | succ n =>
      simp only [T.ok] at h
      obtain ⟨ds, e, a, b⟩ := T.okA_py h
      refine ⟨.tuple ds, by simp only [T.py, e]; rfl, by simp only [PyData.canLay0]; exact a, by simp only [PyData.depth]; omega⟩
  | .lst ts, n, h => by
    cases n with
    | zero => simp [T.ok] at h
    | succ n =>
      simp only [T.ok] at h
      obtain ⟨ds, e, a, b⟩ := T.okA_py h
      refine ⟨.list ds, by simp only [T.py, e]; rfl, by simp only [PyData.canLay0]; exact a, by simp only [PyData.depth]; omega⟩
  | .obj _ _ _, n, h => by simp [T.ok] at h
theorem T.okA_py : ∀ {ts : List T} {n : Nat}, T.okA ts n = true → ∃ ds, T.pyA ts = some ds ∧ PyData.canLayAll0 ds = true ∧ PyData.depthAll ds ≤ n
  | [], n, h => ⟨[], by simp only [T.pyA], by simp only [PyData.canLayAll0], by simp [PyData.depthAll]⟩
  | t :: ts, n, h => by
    simp only [T.okA, Bool.and_eq_true] at h
    obtain ⟨d, e1, a1, b1⟩ := T.ok_py h.1
    obtain ⟨ds, e2, a2, b2⟩ := T.okA_py h.2
    refine ⟨d :: ds, by simp only [T.pyA, e1, e2], by simp only [PyData.canLayAll0, a1, a2, Bool.and_self], by simp only [PyData.depthAll]; omega⟩
end
mutual
/-- == of data -/
def T.eqv : T → T → Bool
  | .non, .non => true
  | .bl a, .bl b => a == b
  | .bl a, .int j => (if a then 1 else 0) == j
  | .int i, .bl b => i == (if b then 1 else 0)
  | .int i, .int j => i == j
  | .str x, .str y => x == y
  | .lst xs, .lst ys => T.eqvA xs ys
  | .tup xs, .tup ys => T.eqvA xs ys
  | _, _ => false
def T.eqvA : List T → List T → Bool
  | [], [] => true
  | x :: xs, y :: ys => T.eqv x y && T.eqvA xs ys
  | _, _ => false
end
mutual
theorem eqv_py : ∀ {t u : T} {d e : PyData}, t.py = some d → u.py = some e → PyData.eqv d e = T.eqv t u
  | .obj _ _ _, u, d, e, h, g => by simp [T.py] at h
  | t, .obj _ _ _, d, e, h, g => by simp [T.py] at g
  | .lst xs, .lst ys, d, e, h, g => by
    simp only [T.py, Option.map_eq_some_iff] at h g
    obtain ⟨ds, h, rfl⟩ := h
    obtain ⟨es, g, rfl⟩ := g
    simp only [PyData.eqv, T.eqv]
    exact eqvA_py h g
  | .tup xs, .tup ys, d, e, h, g => by
    simp only [T.py, Option.map_eq_some_iff] at h g
    obtain ⟨ds, h, rfl⟩ := h
    obtain ⟨es, g, rfl⟩ := g
    simp only [PyData.eqv, T.eqv]
    exact eqvA_py h g
  | .lst xs, .tup ys, d, e, h, g => by
    simp only [T.py, Option.map_eq_some_iff] at h g
    obtain ⟨ds, h, rfl⟩ := h
    obtain ⟨es, g, rfl⟩ := g
    simp only [PyData.eqv, T.eqv]
  | .tup xs, .lst ys, d, e, h, g => by
    simp only [T.py, Option.map_eq_some_iff] at h g
    obtain ⟨ds, h, rfl⟩ := h
    obtain ⟨es, g, rfl⟩ := g
    simp only [PyData.eqv, T.eqv]
  | .lst xs, .non, d, e, h, g | .lst xs, .bl _, d, e, h, g | .lst xs, .int _, d, e, h, g | .lst xs, .str _, d, e, h, g
  | .tup xs, .non, d, e, h, g | .tup xs, .bl _, d, e, h, g | .tup xs, .int _, d, e, h, g | .tup xs, .str _, d, e, h, g => by
    simp only [T.py, Option.map_eq_some_iff, Option.some.injEq] at h g
    obtain ⟨ds, h, rfl⟩ := h
    subst g
    simp only [PyData.eqv, T.eqv]
  | .non, .lst xs, d, e, h, g | .bl _, .lst xs, d, e, h, g | .int _, .lst xs, d, e, h, g | .str _, .lst xs, d, e, h, g
  | .non, .tup xs, d, e, h, g | .bl _, .tup xs, d, e, h, g | .int _, .tup xs, d, e, h, g | .str _, .tup xs, d, e, h, g => by
    simp only [T.py, Option.map_eq_some_iff, Option.some.injEq] at h g
    obtain ⟨ds, g, rfl⟩ := g
    subst h
    simp only [PyData.eqv, T.eqv]
  | .non, .non, d, e, h, g | .non, .bl _, d, e, h, g | .non, .int _, d, e, h, g | .non, .str _, d, e, h, g
  | .bl _, .non, d, e, h, g | .bl _, .bl _, d, e, h, g | .bl _, .int _, d, e, h, g | .bl _, .str _, d, e, h, g
  | .int _, .non, d, e, h, g | .int _, .bl _, d, e, h, g | .int _, .int _, d, e, h, g | .int _, .str _, d, e, h, g
  | .str _, .non, d, e, h, g | .str _, .bl _, d, e, h, g | .str _, .int _, d, e, h, g | .str _, .str _, d, e, h, g => by
    simp only [T.py, Option.some.injEq] at h g
    subst h g
    simp only [PyData.eqv, T.eqv]
theorem eqvA_py : ∀ {t u : List T} {d e : List PyData}, T.pyA t = some d → T.pyA u = some e → PyData.eqvAll d e = T.eqvA t u
  | [], [], d, e, h, g => by
    simp only [T.pyA, Option.some.injEq] at h g
    subst h g
    simp only [PyData.eqvAll, T.eqvA]
  | [], u :: us, d, e, h, g => by
    simp only [T.pyA, Option.some.injEq] at h g
    subst h
    split at g
    · cases g
      simp only [PyData.eqvAll, T.eqvA]
    · cases g
  | t :: ts, [], d, e, h, g => by
    simp only [T.pyA, Option.some.injEq] at h g
    subst g
    split at h
    · cases h
      simp only [PyData.eqvAll, T.eqvA]
    · cases h
  | t :: ts, u :: us, d, e, h, g => by
    simp only [T.pyA] at h g
    split at h
    · rename_i d1 d2 e1 e2
      split at g
      · rename_i d3 d4 e3 e4
        cases h
        cases g
        simp only [PyData.eqvAll, T.eqvA]
        rw [eqv_py e1 e3, eqvA_py e2 e4]
      · cases g
    · cases h
end
end MP
set_option Elab.async false
set_option linter.all false
set_option maxRecDepth 100000
set_option maxHeartbeats 4000000
namespace MP
open PySem PySem.Spec PyProof.Rows L2
/-! ### steps over what is known -/
@[irreducible] def cl (T : List FnE) (k f : Nat) (ws : List W) (S : Store) (Q : WP) (E : XP) : Prop := (semN T k).call f ws S Q E
theorem cl_eq {T : List FnE} {k f : Nat} {ws : List W} {S : Store} {Q : WP} {E : XP} : cl T k f ws S Q E = (semN T k).call f ws S Q E := by unfold cl; rfl
theorem cl_in {T : List FnE} {k f : Nat} {F : FnE} (h : T[f]? = some F) {ws : List W} {S : Store} {Q : WP} {E : XP} (hl : ws.length = F.np) (q : F.body (semN T k) (endW Q E) (startW F.nn ws) S) : cl T (k + 1) f ws S Q E := by
  rw [cl_eq]
  exact call_eq h hl q
def clW (T : List FnE) (k f : Nat) (perm : List PArg) (m n : Nat) (xs ys : List W) (S : Store) (Q : WP) (E : XP) : Prop := xs.length = m ∧ ys.length = n ∧ (semN T k).call f (perm.map (PArg.pick (xs ++ ys))) S Q E
theorem s_cl {T : List FnE} {k f : Nat} {perm : List PArg} {m n : Nat} {xs ys ws : List W} {S : Store} {Q : WP} {E : XP} (h1 : xs.length = m) (h2 : ys.length = n) (h3 : perm.map (PArg.pick (xs ++ ys)) = ws) (q : cl T k f ws S Q E) : clW T k f perm m n xs ys S Q E :=
  ⟨h1, h2, by rw [h3, ← cl_eq]; exact q⟩
def lsW (xs : List W) (S : Store) (Q : WP) : Prop := xs.length ≤ sizeLine ∧ ∀ p, S p = none → Q (.ref p) (put S p (.lst xs))
def tpW (xs : List W) (S : Store) (Q : WP) : Prop := xs.length ≤ sizeLine ∧ Q (.tup xs) S
def lcW (p : Pat) (tt : TwT) (te : Tw) (σ : Sw) (still : Store → Prop) (Q : WP) (items : List W) (S : Store) : Prop := ∀ D, S D = none → lcI D p tt te σ still Q items (put S D (.lst []))
section
variable {D : EnW} {σ : Sw} {S S' R : Store} {cs : Cells} {Q : WP} {E : XP} {t u : TwS} {ta tb tc : Tw} {ua ub : TwA} {c : TwT} {w x y : W} {i j : Int} {n m : Int} {K : Kit} {ws xs : List W} {p : Addr}
theorem w_lst (h : ua σ S (fun xs S1 => lsW xs S1 Q) E) : lstS ua σ S Q E := h
theorem w_tup (h : ua σ S (fun xs S1 => tpW xs S1 Q) E) : tupS ua σ S Q E := h
theorem w_call {T : List FnE} {l f a k : Nat} {perm : List PArg} (h : ua σ S (fun xs S1 => ub σ S1 (fun ys S2 => clW T l f perm a k xs ys S2 Q E) E) E) : callN (semN T l) f perm a k ua ub σ S Q E := h
theorem w_cv {cs : MP.Sem} {tb : List (Nat × List PArg)} {a k : Nat} (h : ta σ S (fun fv S0 => cvW cs tb a k ua ub σ fv S0 Q E) E) : callV cs tb a k ta ua ub σ S Q E := h
theorem s_cv {T : List FnE} {l f a k : Nat} {tb : List (Nat × List PArg)} {perm : List PArg} (e : tb.lookup f = some perm) (h : ua σ S (fun xs S1 => ub σ S1 (fun ys S2 => clW T l f perm a k xs ys S2 Q E) E) E) : cvW (semN T l) tb a k ua ub σ (.fn f) S Q E := by
  unfold cvW
  simp only [e]
  exact h
theorem w_lc {own : List Nat} {ti : TwI} {p : Pat} {tt : TwT} (h : ti σ S (fun items still S1 => lcW p tt ta (wipeW σ own) still Q items S1) E) : lcS own ti p tt ta σ S Q E := h
theorem w_chn {r r' : W → W → Store → WP → Prop} (h : ta σ S (fun x S1 => tb σ S1 (fun y S2 => r x y S2 (fun z S3 => boW z (tc σ S3 (fun w S4 => r' y w S4 Q) E) (Q (.bl false) S3))) E) E) : chnS r r' ta tb tc σ S Q E := h
theorem s_tup (hl : xs.length ≤ 1000000) (q : Q (.tup xs) S) : tpW xs S Q := ⟨sz_ok hl, q⟩
/-- [..]: it stays as it is -/
theorem s_lstF (o : Own S R cs) {ts : List T} (h : RpA R ts xs) (hl : xs.length ≤ 1000000) (q : ∀ p S' R', Own S' R' cs → Ext R R' → Rp R' (.lst ts) (.ref p) → Q (.ref p) S') : lsW xs S Q :=
  ⟨sz_ok hl, fun p hp => by
    obtain ⟨a, b, c⟩ := o.newF (o := .lst xs) hp
    exact q p _ _ a b (rp_lst c (h.mono b))⟩
/-- [..]: a cell -/
theorem s_lstC (o : Own S R cs) (hl : xs.length ≤ 1000000) (q : ∀ p S', Own S' R ((p, .lst xs) :: cs) → Q (.ref p) S') : lsW xs S Q :=
  ⟨sz_ok hl, fun p hp => q p _ (o.new hp)⟩
theorem s_len (o : Own S R cs) {t : T} {ts : List T} (h : Rp R t x) (e : t.seq? = some ts) (q : Q (.int ts.length) S) : biW K .len [x] S Q := by
  obtain ⟨ws, i, g⟩ := h.seq o e
  refine v_len i ?_
  rw [g.length]; exact q
theorem s_lenI (o : Own S R cs) {ns : List Int} (h : Rp R (il ns) x) (q : Q (.int ns.length) S) : biW K .len [x] S Q := s_len o h rfl (by rw [List.length_map]; exact q)
theorem s_lenC (o : Own S R ((p, .lst ws) :: cs)) (q : Q (.int ws.length) S) : biW K .len [.ref p] S Q := v_len (items_lst o.at) q
theorem s_idx (o : Own S R cs) {t u : T} {ts : List T} (h : Rp R t x) (e : t.seq? = some ts) (a : atI ts i = some u) (q : ∀ v, Rp R u v → Q v S) : idxW x (.int i) S Q := by
  obtain ⟨ws, e2, g⟩ := h.seq o e
  obtain ⟨v, e3, r⟩ := atI_map g a
  exact idx_at e2 e3 (q v r)
theorem atI_mapI {α β : Type} (f : α → β) {xs : List α} {i : Int} {v : α} (a : atI xs i = some v) : atI (xs.map f) i = some (f v) := by
  unfold atI at a ⊢
  rw [List.length_map]
  cases q : ixN xs.length i with
  | none => rw [q] at a; cases a
  | some j =>
    rw [q] at a
    show (xs.map f)[j]? = _
    rw [List.getElem?_map, show xs[j]? = some v from a]
    rfl
theorem s_idxC (o : Own S R ((p, .lst ws) :: cs)) (a : atI ws i = some w) (q : Q w S) : idxW (.ref p) (.int i) S Q := idx_at (items_lst o.at) a q
theorem s_idxT {ts : List W} (a : atI ts i = some w) (q : Q w S) : idxW (.tup ts) (.int i) S Q := idx_at (xs := ts) rfl a q
theorem rp_inv_int {R : Store} {t : T} {i : Int} (h : Rp R t (.int i)) : t = .int i := by
  cases t with
  | int j => have := h.int; cases this; rfl
  | non => exact absurd h.non (by simp)
  | bl b => exact absurd h.bl (by simp)
  | str b => exact absurd h.str (by simp)
  | tup ts => obtain ⟨_, z, _⟩ := h.tup; cases z
  | lst ts => obtain ⟨_, _, z, _⟩ := h.lst; cases z
  | obj c ks ts => obtain ⟨_, _, z, _⟩ := h.obj; cases z
theorem rp_inv_str {R : Store} {t : T} {i : Str} (h : Rp R t (.str i)) : t = .str i := by
  cases t with
  | str j => have := h.str; cases this; rfl
  | non => exact absurd h.non (by simp)
  | bl b => exact absurd h.bl (by simp)
  | int b => exact absurd h.int (by simp)
  | tup ts => obtain ⟨_, z, _⟩ := h.tup; cases z
  | lst ts => obtain ⟨_, _, z, _⟩ := h.lst; cases z
  | obj c ks ts => obtain ⟨_, _, z, _⟩ := h.obj; cases z
theorem rp_inv_bl {R : Store} {t : T} {i : Bool} (h : Rp R t (.bl i)) : t = .bl i := by
  cases t with
  | bl j => have := h.bl; cases this; rfl
  | non => exact absurd h.non (by simp)
  | str b => exact absurd h.str (by simp)
  | int b => exact absurd h.int (by simp)
  | tup ts => obtain ⟨_, z, _⟩ := h.tup; cases z
  | lst ts => obtain ⟨_, _, z, _⟩ := h.lst; cases z
  | obj c ks ts => obtain ⟨_, _, z, _⟩ := h.obj; cases z
theorem s_eqB (b : Bool) (o : Own S R cs) {t u : T} (h : Rp R t x) (g : Rp R u y) (ht : t.ok 60 = true) (hu : u.ok 60 = true) (q : Q (.bl (b != T.eqv t u)) S) : eqW b x y S Q := by
  obtain ⟨d, e1, a1, b1⟩ := T.ok_py ht
  obtain ⟨e, e2, a2, b2⟩ := T.ok_py hu
  have sh : ∀ {d : PyData}, d.canLay0 = true → d.depth ≤ 60 → SeqAt.shaped d = true := fun a b => by
    show (_ && decide _) = true
    rw [a]
    simp only [Bool.true_and, decide_eq_true_eq]
    omega
  have key : ∃ d e, Dw S d x ∧ Dw S e y ∧ SeqAt.shaped d = true ∧ SeqAt.shaped e = true ∧ Q (.bl (b != PyData.eqv d e)) S := ⟨d, e, h.dw o.r e1, g.dw o.r e2, sh a1 b1, sh a2 b2, by rw [eqv_py e1 e2]; exact q⟩
  unfold eqW
  split
  · rw [rp_inv_int h, rp_inv_int g] at q
    simp only [T.eqv] at q
    rename_i i j
    have e : (i == j) = decide (i = j) := by by_cases z : i = j <;> simp [z]
    rw [e] at q
    exact q
  · rw [rp_inv_str h, rp_inv_str g] at q
    simp only [T.eqv] at q
    rename_i i j
    have e : (i == j) = decide (i = j) := by by_cases z : i = j <;> simp [z]
    rw [e] at q
    exact q
  · rw [rp_inv_bl h, rp_inv_bl g] at q
    simp only [T.eqv] at q
    rename_i i j
    have e : (i == j) = decide (i = j) := by by_cases z : i = j <;> simp [z]
    rw [e] at q
    exact q
  · exact key
theorem s_eq (o : Own S R cs) {t u : T} (h : Rp R t x) (g : Rp R u y) (ht : t.ok 60 = true) (hu : u.ok 60 = true) (q : Q (.bl (T.eqv t u)) S) : cmpW .Eq x y S Q :=
  s_eqB false o h g ht hu (by simpa using q)
theorem s_ne (o : Own S R cs) {t u : T} (h : Rp R t x) (g : Rp R u y) (ht : t.ok 60 = true) (hu : u.ok 60 = true) (q : Q (.bl (!T.eqv t u)) S) : cmpW .NotEq x y S Q :=
  s_eqB true o h g ht hu (by simpa using q)
theorem eqvA_ints : ∀ xs ys : List Int, T.eqvA (xs.map .int) (ys.map .int) = decide (xs = ys)
  | [], [] => by simp [T.eqvA]
  | [], _ :: _ => by simp [T.eqvA]
  | _ :: _, [] => by simp [T.eqvA]
  | x :: xs, y :: ys => by
    simp only [List.map_cons, T.eqvA, T.eqv, eqvA_ints xs ys]
    by_cases h : x = y <;> by_cases h2 : xs = ys <;> simp [h, h2]
theorem il_ok {ns : List Int} : T.ok (il ns) 60 = true := by simp only [T.ok]; exact okA_ints ns 59
theorem s_eqI (o : Own S R cs) {ns ms : List Int} (h : Rp R (il ns) x) (g : Rp R (il ms) y) (q : Q (.bl (decide (ns = ms))) S) : cmpW .Eq x y S Q :=
  s_eq o h g il_ok il_ok (by simp only [T.eqv]; rw [eqvA_ints]; exact q)
theorem s_neI (o : Own S R cs) {ns ms : List Int} (h : Rp R (il ns) x) (g : Rp R (il ms) y) (q : Q (.bl (!decide (ns = ms))) S) : cmpW .NotEq x y S Q :=
  s_ne o h g il_ok il_ok (by simp only [T.eqv]; rw [eqvA_ints]; exact q)
theorem v_slcL' {a : Addr} {lo hi : Option Int} {xs : List W} (ha : items? S (.ref a) = some xs) (q : ∀ p, S p = none → Q (.ref p) (put S p (.lst (cutW xs lo hi)))) : slcW (.ref a) lo hi S Q := by
  show (match items? S (.ref a) with
    | some xs => ∀ p, S p = none → Q (.ref p) (put S p (.lst (cutW xs lo hi)))
    | none => False)
  rw [ha]
  exact q
theorem s_slc (o : Own S R cs) {ts : List T} {lo hi : Option Int} (h : Rp R (.lst ts) x) (q : ∀ p S' R', Own S' R' cs → Ext R R' → Rp R' (.lst (cutT ts lo hi)) (.ref p) → Q (.ref p) S') : slcW x lo hi S Q := by
  obtain ⟨a, ws, rfl, e, i, g⟩ := h.items o
  refine v_slcL' i fun p hp => ?_
  obtain ⟨a, b, c⟩ := o.newF (o := .lst (cutW ws lo hi)) hp
  exact q p _ _ a b (rp_lst c ((cutT_rel g lo hi).mono b))
theorem s_slcI (o : Own S R cs) {ns : List Int} {lo hi : Option Int} (h : Rp R (il ns) x) (q : ∀ p S' R', Own S' R' cs → Ext R R' → Rp R' (il (cutT ns lo hi)) (.ref p) → Q (.ref p) S') : slcW x lo hi S Q :=
  s_slc o h fun p S' R' a b c => q p S' R' a b (by rw [cutT_map] at c; exact c)
theorem s_slcT {ts : List T} {lo hi : Option Int} (h : Rp R (.tup ts) x) (q : ∀ v, Rp R (.tup (cutT ts lo hi)) v → Q v S) : slcW x lo hi S Q := by
  obtain ⟨ws, rfl, g⟩ := h.tup
  exact q _ (rp_tup (cutT_rel g lo hi))
theorem v_addL' {a b : Addr} {xs ys : List W} (ha : S a = some (.lst xs)) (hb : S b = some (.lst ys)) (hl : xs.length + ys.length ≤ 1000000) (q : ∀ p, S p = none → Q (.ref p) (put S p (.lst (xs ++ ys)))) : binW .Add (.ref a) (.ref b) S Q := by
  show (match S a, S b with
    | some (.lst xs), some (.lst ys) => xs.length + ys.length ≤ sizeLine ∧ ∀ p, S p = none → Q (.ref p) (put S p (.lst (xs ++ ys)))
    | _, _ => False)
  rw [ha, hb]
  exact ⟨sz_ok hl, q⟩
theorem s_add (o : Own S R cs) {ts us : List T} (h : Rp R (.lst ts) x) (g : Rp R (.lst us) y) (hl : ts.length + us.length ≤ 1000000) (q : ∀ p S' R', Own S' R' cs → Ext R R' → Rp R' (.lst (ts ++ us)) (.ref p) → Q (.ref p) S') : binW .Add x y S Q := by
  obtain ⟨a, ws, rfl, e, i, r⟩ := h.items o
  obtain ⟨a2, ws2, rfl, e2, i2, r2⟩ := g.items o
  refine v_addL' e e2 (by rw [r.length, r2.length]; exact hl) fun p hp => ?_
  obtain ⟨a, b, c⟩ := o.newF (o := .lst (ws ++ ws2)) hp
  exact q p _ _ a b (rp_lst c ((r.app r2).mono b))
theorem s_addI (o : Own S R cs) {ns ms : List Int} (h : Rp R (il ns) x) (g : Rp R (il ms) y) (hl : ns.length + ms.length ≤ 1000000) (q : ∀ p S' R', Own S' R' cs → Ext R R' → Rp R' (il (ns ++ ms)) (.ref p) → Q (.ref p) S') : binW .Add x y S Q :=
  s_add o h g (by rw [List.length_map, List.length_map]; exact hl) fun p S' R' a b c => q p S' R' a b (by rw [← List.map_append] at c; exact c)
theorem RpA.rep {R : Store} {ts : List T} {ws : List W} (h : RpA R ts ws) : ∀ k : Nat, RpA R (List.replicate k ts).flatten (List.replicate k ws).flatten
  | 0 => rpA_nil
  | k + 1 => by
    rw [List.replicate_succ, List.replicate_succ, List.flatten_cons, List.flatten_cons]
    exact h.app (RpA.rep h k)
theorem s_rep (o : Own S R cs) {ts : List T} {k : Int} (h : Rp R (.lst ts) x) (h0 : 0 ≤ k) (h1 : k ≤ 1000000) (hl : ts.length * k.toNat ≤ 1000000) (q : ∀ p S' R', Own S' R' cs → Ext R R' → Rp R' (.lst (List.replicate k.toNat ts).flatten) (.ref p) → Q (.ref p) S') : binW .Mult x (.int k) S Q := by
  obtain ⟨a, ws, rfl, e, i, r⟩ := h.items o
  show mulW (.ref a) (.int k) S Q
  simp only [mulW, e]
  refine ⟨by omega, by omega, by rw [r.length]; exact sz_ok hl, fun p hp => ?_⟩
  obtain ⟨a, b, c⟩ := o.newF (o := .lst (List.replicate k.toNat ws).flatten) hp
  exact q p _ _ a b (rp_lst c ((r.rep _).mono b))
theorem s_list (o : Own S R cs) {t : T} {ts : List T} (h : Rp R t x) (e : t.seq? = some ts) (q : ∀ p S' R', Own S' R' cs → Ext R R' → Rp R' (.lst ts) (.ref p) → Q (.ref p) S') : biW K .list [x] S Q := by
  obtain ⟨ws, i, g⟩ := h.seq o e
  refine v_list i fun p hp => ?_
  obtain ⟨a, b, c⟩ := o.newF (o := .lst ws) hp
  exact q p _ _ a b (rp_lst c (g.mono b))
theorem s_tuple (o : Own S R cs) {t : T} {ts : List T} (h : Rp R t x) (e : t.seq? = some ts) (q : ∀ v, Rp R (.tup ts) v → Q v S) : biW K .tuple [x] S Q := by
  obtain ⟨ws, i, g⟩ := h.seq o e
  exact v_tuple i (q _ (rp_tup g))
theorem s_app (o : Own S R ((p, .lst ws) :: cs)) (hl : ws.length ≤ 1000000) (q : ∀ S', Own S' R ((p, .lst (ws ++ [w])) :: cs) → Q .non S') : mtW .append (.ref p) [w] S Q :=
  v_append o.at (sz_lt hl) (q _ o.wr)
theorem s_mg (o : Own S R ((p, .lst ws) :: cs)) {m : Mt} {P P2 : Prop} (hm : m.onL = true) (q : P) : mgW m (.ref p) S P P2 := mg_at o.at hm q
theorem s_rev (o : Own S R ((p, .lst ws) :: cs)) (k : ∀ S', Own S' R ((p, .lst ws.reverse) :: cs) → Q .non S') : mtW .reverse (.ref p) [] S Q := by
  show (match S p with
    | some (.lst xs) => Q .non (put S p (.lst xs.reverse))
    | _ => False)
  rw [o.at]
  exact k _ o.wr
theorem s_clear (o : Own S R ((p, .lst ws) :: cs)) (k : ∀ S', Own S' R ((p, .lst []) :: cs) → Q .non S') : mtW .clear (.ref p) [] S Q := v_clear o.at (k _ o.wr)
theorem s_sti (o : Own S R ((p, .lst ws) :: cs)) {k : Int} {j : Nat} {P : Store → Prop} (e : ixN ws.length k = some j) (q : ∀ S', Own S' R ((p, .lst (ws.set j w)) :: cs) → P S') : sbW (.ref p) (.int k) w S P := .inl (se_at o.at e (q _ o.wr))
/-- the class of a thing -/
def T.ty : T → Tyc
  | .non => .ty "NoneType"
  | .bl _ => .ty "bool"
  | .int _ => .ty "int"
  | .str _ => .ty "str"
  | .tup _ => .ty "tuple"
  | .lst _ => .ty "list"
  | .obj c _ _ => .cls c
theorem Rp.ty (o : Own S R cs) {t : T} (h : Rp R t x) : tyW S x = some t.ty := by
  cases t with
  | non => rw [h.non]; rfl
  | bl b => rw [h.bl]; rfl
  | int b => rw [h.int]; rfl
  | str b => rw [h.str]; rfl
  | tup ts => obtain ⟨ws, rfl, g⟩ := h.tup; rfl
  | lst ts =>
    obtain ⟨a, ws, rfl, e, i, g⟩ := h.items o
    simp only [tyW, e, T.ty]
  | obj c ks ts =>
    obtain ⟨a, ws, rfl, e, l, g⟩ := h.obj
    simp only [tyW, o.r _ _ e, T.ty]
theorem s_isi (o : Own S R cs) {t : T} {b : Bool} {d : Tyc} (h : Rp R t x) (hd : clsOf y = some d) (e : kitT K t.ty d = some b) (q : Q (.bl b) S) : biW K .isinstance [x, y] S Q := v_isi (h.ty o) hd e q
theorem s_isiT (o : Own S R cs) {t : T} {b : Bool} {d : Tyc} {us : List W} {ds : List Tyc} (h : Rp R t x) (hd : clsesOf us = some (d :: ds)) (e : kitL K t.ty (d :: ds) = some b) (q : Q (.bl b) S) : biW K .isinstance [x, .tup us] S Q := v_isiT (h.ty o) hd e q
theorem s_isiC (o : Own S R ((p, .lst ws) :: cs)) {b : Bool} {d : Tyc} (hd : clsOf y = some d) (e : kitT K (.ty "list") d = some b) (q : Q (.bl b) S) : biW K .isinstance [.ref p, y] S Q := v_isi (by simp only [tyW, o.at]) hd e q
theorem s_isiTC (o : Own S R ((p, .lst ws) :: cs)) {b : Bool} {d : Tyc} {us : List W} {ds : List Tyc} (hd : clsesOf us = some (d :: ds)) (e : kitL K (.ty "list") (d :: ds) = some b) (q : Q (.bl b) S) : biW K .isinstance [.ref p, .tup us] S Q := v_isiT (by simp only [tyW, o.at]) hd e q
theorem s_bls {f : List Bool → Bool} (o : Own S R cs) {bs : List Bool} (h : Rp R (.lst (bs.map .bl)) (.ref p)) (q : Q (.bl (f bs)) S) : blsW f [.ref p] S Q := by
  obtain ⟨a, ws, e, eb, i, r⟩ := h.items o
  cases e
  rw [r.bls] at i
  show (match items? S (.ref p) with
    | some xs => (match blsOf xs with
      | some bs => Q (.bl (f bs)) S
      | none => False)
    | none => False)
  rw [i]
  show (match blsOf (bs.map W.bl) with
      | some bs => Q (.bl (f bs)) S
      | none => False)
  rw [blsOf_map]
  exact q
theorem s_all (o : Own S R cs) {bs : List Bool} (h : Rp R (.lst (bs.map .bl)) (.ref p)) (q : Q (.bl (bs.all id)) S) : biW K .all [.ref p] S Q := s_bls o h q
theorem s_any (o : Own S R cs) {bs : List Bool} (h : Rp R (.lst (bs.map .bl)) (.ref p)) (q : Q (.bl (bs.any id)) S) : biW K .any [.ref p] S Q := s_bls o h q
/-! ### what is walked -/
theorem s_si (o : Own S R cs) {t : T} {ts : List T} {Q : List W → (Store → Prop) → Store → Prop} (h : Rp R t x) (e : t.seq? = some ts) (q : ∀ ws, RpA R ts ws → (∀ S' R' cs', Own S' R' cs' → Ext R R' → stillL x ws S') → Q ws (stillL x ws) S) : siW x S Q := by
  obtain ⟨ws, i, g⟩ := h.seq o e
  refine si_at i (q ws g fun S' R' cs' o' x' => ?_)
  cases t <;> first | (cases e; done) | skip
  · obtain ⟨vs, rfl, g2⟩ := h.tup
    exact i
  · obtain ⟨a, vs, rfl, q, i2, g2⟩ := h.items o
    rw [i2] at i
    cases i
    obtain ⟨a', ws', e1, e2, e3⟩ := h.lst
    cases e1
    have := o.r _ _ e2
    rw [q] at this
    cases this
    exact items_lst (o'.r _ _ (x' _ _ e2))
theorem s_e1 (o : Own S R cs) {ts : List T} {Q : List W → (Store → Prop) → Store → Prop} {a : Addr} (h : Rp R (.lst ts) (.ref a)) (q : ∀ ws, RpA R ts ws → (∀ S' R' cs', Own S' R' cs' → Ext R R' → stillL (.ref a) ws S') → Q (enumI 0 ws) (stillL (.ref a) ws) S) : e1W [.ref a] S Q := by
  obtain ⟨a', ws, e, e2, i, g⟩ := h.items o
  cases e
  refine e1_at i (q ws g fun S' R' cs' o' x' => ?_)
  obtain ⟨a', ws', e1, e3, _⟩ := h.lst
  cases e1
  have := o.r _ _ e3
  rw [e2] at this
  cases this
  exact items_lst (o'.r _ _ (x' _ _ e3))
theorem s_zp (o : Own S R cs) {ts us : List T} {Q : List W → (Store → Prop) → Store → Prop} {a b : Addr} (h : Rp R (.lst ts) (.ref a)) (g : Rp R (.lst us) (.ref b))
    (q : ∀ ws vs, RpA R ts ws → RpA R us vs → (∀ S' R' cs', Own S' R' cs' → Ext R R' → stillL (.ref a) ws S' ∧ stillL (.ref b) vs S') → Q (zipI ws vs) (fun S => stillL (.ref a) ws S ∧ stillL (.ref b) vs S) S) : zpW [.ref a, .ref b] S Q := by
  obtain ⟨a1, ws, e1, f1, i1, g1⟩ := h.items o
  obtain ⟨a2, vs, e2, f2, i2, g2⟩ := g.items o
  cases e1
  cases e2
  refine zp_ref i1 i2 (q ws vs g1 g2 fun S' R' cs' o' x' => ?_)
  obtain ⟨_, ws', e1, e3, _⟩ := h.lst
  obtain ⟨_, vs', e2, e4, _⟩ := g.lst
  cases e1
  cases e2
  have t1 := o.r _ _ e3
  have t2 := o.r _ _ e4
  rw [f1] at t1
  rw [f2] at t2
  cases t1
  cases t2
  exact ⟨items_lst (o'.r _ _ (x' _ _ e3)), items_lst (o'.r _ _ (x' _ _ e4))⟩
/-! ### loops by what stands ahead of each turn -/
theorem lp_by {pt : Pat} {tb : TwS} {still : Store → Prop} {items : List W} (I : Nat → Sw → Store → Prop) (h0 : I 0 σ S) (hs : ∀ i w σ S, items[i]? = some w → I i σ S → still S ∧ patW pt w σ S fun σ' S' => tb { D with nx := I (i + 1), ct := I (i + 1), bk := D.nx } σ' S')
    (he : ∀ σ S, I items.length σ S → still S ∧ D.nx σ S) : loopI pt tb D still items σ S := by
  refine ⟨I, h0, fun i σ S hi q => ?_⟩
  by_cases c : i < items.length
  · rw [List.getElem?_eq_getElem c]
    exact hs i _ σ S (List.getElem?_eq_getElem c) q
  · have e : i = items.length := by omega
    subst e
    rw [List.getElem?_eq_none (Nat.le_refl _)]
    exact he σ S q
def apI (D : Addr) (y : W) (S : Store) (P : Store → Prop) : Prop := match S D with
  | some (.lst acc) => acc.length < sizeLine ∧ P (put S D (.lst (acc ++ [y])))
  | _ => False
/-- [..for..]: P i ds cs: behind i turns ds is made, the other cells are cs -/
theorem lc_by {pt : Pat} {tt : TwT} {still : Store → Prop} {items : List W} (o : Own S R cs) (P : Nat → List T → Cells → Prop) (h0 : P 0 [] cs) (hz : ∀ i ds cs, P i ds cs → ds.length ≤ 1000000)
    (hst : ∀ S' R' cs', Own S' R' cs' → Ext R R' → still S')
    (hs : ∀ i w D S' R' ds ws cs' (N : Store → Prop), items[i]? = some w → P i ds cs' → Own S' R' ((D, .lst ws) :: cs') → Ext R R' → RpA R' ds ws →
      (∀ S2 R2 cs2 y t, P (i + 1) (ds ++ [t]) cs2 → Own S2 R2 ((D, .lst ws) :: cs2) → Ext R' R2 → Rp R2 t y → apI D y S2 N) →
      (∀ S2 R2 cs2, P (i + 1) ds cs2 → Own S2 R2 ((D, .lst ws) :: cs2) → Ext R' R2 → N S2) →
      patW pt w σ S' fun σ2 S2 => tt σ2 S2 (fun b S3 => brW b (ta σ2 S3 (fun y S4 => apI D y S4 N) noX) (N S3)) noX)
    (he : ∀ ds cs' D S' R', P items.length ds cs' → Own S' R' cs' → Ext R R' → Rp R' (.lst ds) (.ref D) → Q (.ref D) S') : lcW pt tt ta σ still Q items S := by
  intro D hD
  refine ⟨fun i S' => ∃ R' ds ws cs', P i ds cs' ∧ Own S' R' ((D, .lst ws) :: cs') ∧ Ext R R' ∧ RpA R' ds ws, ⟨R, [], [], cs, h0, o.new hD, .refl, rpA_nil⟩, fun i S' hi q => ?_⟩
  obtain ⟨R', ds, ws, cs', p, o', x', r⟩ := q
  refine ⟨hst _ _ _ o' x', ?_⟩
  by_cases c : i < items.length
  · rw [List.getElem?_eq_getElem c]
    refine hs i _ D S' R' ds ws cs' (fun S' => ∃ R' ds ws cs', P (i + 1) ds cs' ∧ Own S' R' ((D, .lst ws) :: cs') ∧ Ext R R' ∧ RpA R' ds ws) (List.getElem?_eq_getElem c) p o' x' r (fun S2 R2 cs2 y t p2 o2 x2 r2 => ?_) fun S2 R2 cs2 p2 o2 x2 => ⟨R2, ds, ws, cs2, p2, o2, x'.trans x2, r.mono x2⟩
    have hz' := hz _ _ _ p2
    rw [List.length_append] at hz'
    unfold apI
    rw [o2.at]
    refine ⟨?_, R2, ds ++ [t], ws ++ [y], cs2, p2, o2.wr, x'.trans x2, (r.mono x2).app (rpA_cons r2 rpA_nil)⟩
    rw [r.length]
    exact sz_lt (by simp at hz'; omega)
  · have e : i = items.length := by omega
    subst e
    rw [List.getElem?_eq_none (Nat.le_refl _)]
    obtain ⟨a, b, d⟩ := o'.frz
    exact he ds cs' D S' _ p a (x'.trans b) (rp_lst d (r.mono b))
end
theorem enum_at {ws : List W} {k : Int} {i : Nat} {w : W} (h : (enumI k ws)[i]? = some w) : ∃ v, ws[i]? = some v ∧ w = .tup [.int (k + i), v] := by
  rw [enumI_get] at h
  cases q : ws[i]? with
  | none => rw [q] at h; cases h
  | some v => rw [q] at h; cases h; exact ⟨v, rfl, rfl⟩
theorem rng_at {n : Nat} {lo : Int} {i : Nat} {w : W} (h : ((List.range n).map fun (i : Nat) => W.int (lo + (i : Int)))[i]? = some w) : i < n ∧ w = .int (lo + i) := by
  have hi : i < n := by
    have := (List.getElem?_eq_some_iff.mp h).1
    simpa using this
  refine ⟨hi, ?_⟩
  rw [List.getElem?_map, List.getElem?_range hi] at h
  simpa using h.symm
theorem rng_len {n : Nat} {lo : Int} : ((List.range n).map fun (i : Nat) => W.int (lo + (i : Int))).length = n := by simp
theorem zip_at {xs ys : List W} {i : Nat} {w : W} (h : (zipI xs ys)[i]? = some w) : ∃ x y, xs[i]? = some x ∧ ys[i]? = some y ∧ w = .tup [x, y] := zipI_of h
theorem br_pos {p : Prop} [Decidable p] {A B : Prop} (h : p) (q : A) : brW (decide p) A B := by rw [decide_eq_true h]; exact q
theorem br_neg {p : Prop} [Decidable p] {A B : Prop} (h : ¬p) (q : B) : brW (decide p) A B := by rw [decide_eq_false h]; exact q
theorem br_npos {p : Prop} [Decidable p] {A B : Prop} (h : p) (q : B) : brW (!decide p) A B := by rw [decide_eq_true h]; exact q
theorem br_nneg {p : Prop} [Decidable p] {A B : Prop} (h : ¬p) (q : A) : brW (!decide p) A B := by rw [decide_eq_false h]; exact q
theorem bo_pos {p : Prop} [Decidable p] {A B : Prop} (h : p) (q : A) : boW (.bl (decide p)) A B := by rw [decide_eq_true h]; exact q
theorem bo_neg {p : Prop} [Decidable p] {A B : Prop} (h : ¬p) (q : B) : boW (.bl (decide p)) A B := by rw [decide_eq_false h]; exact q
theorem br_ite {b : Bool} {A B : Prop} (h1 : b = true → A) (h2 : b = false → B) : brW b A B := by
  cases b with
  | true => exact h1 rfl
  | false => exact h2 rfl
/-- the script -/
theorem Script.frame {sv : W} {S S' R R' : Store} {cs cs' : Cells} {ns : List Int} (h : Script sv R ns) (x : Ext R R') : Script sv R' ns := by
  rcases h with rfl | ⟨a, rfl, e⟩
  · exact .inl rfl
  · exact .inr ⟨a, rfl, x _ _ e⟩
/-- the box of draws -/
def bx (a m c : Int) : O := .lst [.int a, .int m, .int c]
def Bx (u : Int) (o : O) : Prop := ∃ a m c, o = bx a m c ∧ 0 ≤ a ∧ 0 ≤ m ∧ m < 2 ^ 62 ∧ 0 ≤ c ∧ c ≤ u
theorem Bx.mono {u v : Int} {o : O} (h : Bx u o) (l : u ≤ v) : Bx v o := by
  obtain ⟨a, m, c, e, h1, h2, h3, h4, h5⟩ := h
  exact ⟨a, m, c, e, h1, h2, h3, h4, by omega⟩
theorem v_int {K : Kit} {b : Bool} {S : Store} {Q : WP} (q : Q (.int (if b then 1 else 0)) S) : biW K .int [.bl b] S Q := q
theorem v_divmod {K : Kit} {i j : Int} {S : Store} {Q : WP} (hj : 0 < j ∧ j < 1073741824) (q : Q (.tup [.int (i / j), .int (i % j)]) S) : biW K .divmod [.int i, .int j] S Q := ⟨hj, q⟩
theorem v_min {K : Kit} {i j : Int} {S : Store} {Q : WP} (q : Q (.int (min i j)) S) : biW K .min [.int i, .int j] S Q := q
theorem v_max {K : Kit} {i j : Int} {S : Store} {Q : WP} (q : Q (.int (max i j)) S) : biW K .max [.int i, .int j] S Q := q
theorem st_at {is : List Nat} {w : W} {σ : Sw} {S : Store} {P : Sw → Store → Prop} {ws : List W} (h : items? S w = some ws) (hl : is.length - 1 ≤ ws.length) (q : ∀ p, S p = none → ∃ σ', setsW is (ws.take (is.length - 1) ++ [.ref p]) σ = some σ' ∧ P σ' (put S p (.lst (ws.drop (is.length - 1))))) : stW is w σ S P := by
  unfold stW
  rw [h]
  refine ⟨hl, fun p hp => ?_⟩
  obtain ⟨σ', e, q⟩ := q p hp
  rw [e]
  exact q
theorem v_star {is : List Nat} {t : Tw} {D : EnW} {σ : Sw} {S : Store} (h : t σ S (fun w S' => stW is w σ S' D.nx) (fun e S' => D.ex e σ S')) : starS is t D σ S := h
/-- a, b, *rest = w -/
theorem s_star {is : List Nat} {w : W} {σ : Sw} {S R : Store} {cs : Cells} {P : Sw → Store → Prop} (o : Own S R cs) {t : T} {ts : List T} (h : Rp R t w) (e : t.seq? = some ts) (hl : is.length - 1 ≤ ts.length)
    (q : ∀ p S' R' ws, Own S' R' cs → Ext R R' → RpA R (ts.take (is.length - 1)) ws → Rp R' (.lst (ts.drop (is.length - 1))) (.ref p) → ∃ σ', setsW is (ws ++ [.ref p]) σ = some σ' ∧ P σ' S') : stW is w σ S P := by
  obtain ⟨ws, i, g⟩ := h.seq o e
  refine st_at i (by rw [g.length]; exact hl) fun p hp => ?_
  obtain ⟨a, b, c⟩ := o.newF (o := .lst (ws.drop (is.length - 1))) hp
  exact q p _ _ _ a b (g.take _) (rp_lst c ((g.drop _).mono b))
/-- a row of bytes -/
def Byt (xs : List Int) : Prop := ∀ x ∈ xs, 0 ≤ x ∧ x < 256
theorem Byt.nil : Byt [] := fun _ h => (by cases h)
theorem Byt.app {xs ys : List Int} (h : Byt xs) (g : Byt ys) : Byt (xs ++ ys) := fun x hx => by
  rcases List.mem_append.mp hx with z | z
  · exact h x z
  · exact g x z
theorem Byt.one {x : Int} (h : 0 ≤ x ∧ x < 256) : Byt [x] := fun y hy => by rw [List.mem_singleton.mp hy]; exact h
theorem v_eqS {S : Store} {Q : WP} {a b : Str} (q : Q (.bl (decide (a = b))) S) : cmpW .Eq (.str a) (.str b) S Q := by
  show Q (.bl (false != decide (a = b))) S
  simpa using q
theorem v_neS {S : Store} {Q : WP} {a b : Str} (q : Q (.bl (!decide (a = b))) S) : cmpW .NotEq (.str a) (.str b) S Q := by
  show Q (.bl (true != decide (a = b))) S
  simpa using q
theorem v_eqN {S : Store} {Q : WP} (q : Q (.bl true) S) : cmpW .Eq .non .non S Q :=
  s_eq .start rp_non rp_non rfl rfl (by simp only [T.eqv]; exact q)
theorem v_isN {S : Store} {Q : WP} {x : W} (q : Q (.bl (isNon x)) S) : cmpW .Is x .non S Q := by
  show Q (.bl (false != isNon x)) S
  simpa using q
theorem v_isnN {S : Store} {Q : WP} {x : W} (q : Q (.bl (!isNon x)) S) : cmpW .IsNot x .non S Q := by
  show Q (.bl (true != isNon x)) S
  simpa using q
theorem v_isNT {S : Store} {Q : WP} {x : W} (h : isNon x = true) (q : Q (.bl true) S) : cmpW .Is x .non S Q := v_isN (by rw [h]; exact q)
theorem v_isNF {S : Store} {Q : WP} {x : W} (h : isNon x = false) (q : Q (.bl false) S) : cmpW .Is x .non S Q := v_isN (by rw [h]; exact q)
theorem v_isnNT {S : Store} {Q : WP} {x : W} (h : isNon x = true) (q : Q (.bl false) S) : cmpW .IsNot x .non S Q := v_isnN (by rw [h]; exact q)
theorem v_isnNF {S : Store} {Q : WP} {x : W} (h : isNon x = false) (q : Q (.bl true) S) : cmpW .IsNot x .non S Q := v_isnN (by rw [h]; exact q)
theorem v_isB {S : Store} {Q : WP} {a b : Bool} (q : Q (.bl (decide (a = b))) S) : cmpW .Is (.bl a) (.bl b) S Q := by
  show Q (.bl (false != decide (a = b))) S
  simpa using q
theorem v_isnB {S : Store} {Q : WP} {a b : Bool} (q : Q (.bl (!decide (a = b))) S) : cmpW .IsNot (.bl a) (.bl b) S Q := by
  show Q (.bl (true != decide (a = b))) S
  simpa using q
mutual
def T.okS : T → Nat → Prop
  | .non, _ => True
  | .bl _, _ => True
  | .int _, _ => True
  | .str x, _ => True
  | .tup ts, n => (match n with
    | 0 => False
    | n + 1 => ts.length ≤ 900000 ∧ T.okSA ts n)
  | .lst ts, n => (match n with
    | 0 => False
    | n + 1 => ts.length ≤ 900000 ∧ T.okSA ts n)
  | .obj _ _ _, _ => False
def T.okSA : List T → Nat → Prop
  | [], _ => True
  | t :: ts, n => T.okS t n ∧ T.okSA ts n
end
@[simp] theorem okS_non {n : Nat} : T.okS .non n := by simp only [T.okS]
@[simp] theorem okS_bl {n : Nat} {b : Bool} : T.okS (.bl b) n := by simp only [T.okS]
@[simp] theorem okS_int {n : Nat} {b : Int} : T.okS (.int b) n := by simp only [T.okS]
@[simp] theorem okS_str {n : Nat} {b : Str} : T.okS (.str b) n := by simp only [T.okS]
@[simp] theorem okS_tup {n : Nat} {ts : List T} : T.okS (.tup ts) (n + 1) = (ts.length ≤ 900000 ∧ T.okSA ts n) := by simp only [T.okS]
@[simp] theorem okS_lst {n : Nat} {ts : List T} : T.okS (.lst ts) (n + 1) = (ts.length ≤ 900000 ∧ T.okSA ts n) := by simp only [T.okS]
@[simp] theorem okSA_nil {n : Nat} : T.okSA [] n := by simp only [T.okSA]
@[simp] theorem okSA_cons {n : Nat} {t : T} {ts : List T} : T.okSA (t :: ts) n = (T.okS t n ∧ T.okSA ts n) := by simp only [T.okSA]
@[simp] theorem okSA_ints {n : Nat} : ∀ {ns : List Int}, T.okSA (ns.map .int) n
  | [] => by simp
  | i :: ns => by simp only [List.map_cons, okSA_cons]; exact ⟨okS_int, okSA_ints⟩
theorem okSA_at {n : Nat} : ∀ {ts : List T} {i : Nat} {t : T}, T.okSA ts n → ts[i]? = some t → t.okS n
  | [], i, t, h, e => by simp at e
  | t :: ts, 0, u, h, e => by simp at e; subst e; rw [okSA_cons] at h; exact h.1
  | t :: ts, i + 1, u, h, e => by rw [okSA_cons] at h; exact okSA_at h.2 (by simpa using e)
theorem all_rep (n : Nat) : (List.replicate n true).all id = true := by
  rw [List.all_eq_true]
  intro x hx
  rw [List.eq_of_mem_replicate hx]
  rfl
theorem map_rep (n : Nat) : List.replicate n (T.bl true) = (List.replicate n true).map .bl := by simp
theorem s_lstFI {S R : Store} {cs : Cells} {Q : WP} {xs : List W} {ns : List Int} (o : Own S R cs) (e : intsOf xs = some ns) (hl : xs.length ≤ 1000000) (q : ∀ p S' R', Own S' R' cs → Ext R R' → Rp R' (il ns) (.ref p) → Q (.ref p) S') : lsW xs S Q := by
  rw [intsOf_eq e] at hl ⊢
  exact s_lstF o rpA_ints hl q
section
variable {S R : Store} {cs : Cells} {Q : WP} {x : W} {K : Kit}
theorem seq_or {t : T} {ts : List T} (e : t.seq? = some ts) : t = .lst ts ∨ t = .tup ts := by
  cases t <;> first | (cases e; done) | skip
  · cases e; exact .inr rfl
  · cases e; exact .inl rfl
theorem s_lenQ (o : Own S R cs) {t : T} {ns : List Int} (h : Rp R t x) (e : t.seq? = some (ns.map .int)) (q : Q (.int ns.length) S) : biW K .len [x] S Q := s_len o h e (by rw [List.length_map]; exact q)
theorem s_slcQ (o : Own S R cs) {t : T} {ns : List Int} {lo hi : Option Int} (h : Rp R t x) (e : t.seq? = some (ns.map .int)) (q : ∀ v t' S' R', Own S' R' cs → Ext R R' → Rp R' t' v → t'.seq? = some ((cutT ns lo hi).map .int) → Q v S') : slcW x lo hi S Q := by
  rcases seq_or e with rfl | rfl
  · exact s_slcI o h fun p S' R' a b c => q _ _ S' R' a b c rfl
  · exact s_slcT h fun v c => q v _ S R o .refl c (by rw [cutT_map]; rfl)
theorem s_idxQ (o : Own S R cs) {t : T} {ns : List Int} {i n : Int} (h : Rp R t x) (e : t.seq? = some (ns.map .int)) (a : atI ns i = some n) (q : Q (.int n) S) : idxW x (.int i) S Q :=
  s_idx o h e (atI_mapI T.int a) fun v r => by rw [r.int]; exact q
end
theorem cut_mid {α : Type} {xs : List α} {a c : Int} (h0 : 0 ≤ a) (h1 : a ≤ c) : cutT xs (some a) (some c) = (xs.drop a.toNat).take (c.toNat - a.toNat) := by
  have si : ∀ {n d : Nat} {c : Int}, 0 ≤ c → HT.sIx n d (some c) = min c.toNat n := fun {n d c} h0 => by
    show (if c < 0 then _ else min c.toNat n) = _
    rw [if_neg (by omega)]
  unfold cutT
  rw [si h0, si (by omega)]
  apply List.ext_getElem?
  intro i
  rw [List.getElem?_take, List.getElem?_take, List.getElem?_drop, List.getElem?_drop]
  by_cases h : a.toNat ≤ xs.length
  · rw [Nat.min_eq_left h]
    by_cases h2 : a.toNat + i < xs.length
    · have e : (i < min c.toNat xs.length - a.toNat) ↔ (i < c.toNat - a.toNat) := by omega
      by_cases h3 : i < c.toNat - a.toNat
      · rw [if_pos h3, if_pos (e.mpr h3)]
      · rw [if_neg h3, if_neg fun z => h3 (e.mp z)]
    · have e : xs[a.toNat + i]? = none := by rw [List.getElem?_eq_none_iff]; omega
      rw [e]
      split <;> split <;> rfl
  · have e1 : xs[min a.toNat xs.length + i]? = none := by rw [List.getElem?_eq_none_iff]; omega
    have e2 : xs[a.toNat + i]? = none := by rw [List.getElem?_eq_none_iff]; omega
    rw [e1, e2]
    split <;> split <;> rfl
theorem s_lenSc {S R : Store} {cs : Cells} {Q : WP} {sv : W} {K : Kit} {ns : List Int} (o : Own S R cs) (h : Script sv R ns) (q : Q (.int ns.length) S) : biW K .len [sv] S Q := by
  have h' : items? S sv = some (ns.map W.int) := by
    rcases h with rfl | ⟨a, rfl, e⟩
    · rfl
    · simp only [items?, o.r _ _ e]
  refine v_len h' ?_
  rw [List.length_map]
  exact q
theorem Script.mono {sv : W} {R R' : Store} {ns : List Int} (x : Ext R R') (h : Script sv R ns) : Script sv R' ns := by
  rcases h with rfl | ⟨a, rfl, e⟩
  · exact .inl rfl
  · exact .inr ⟨a, rfl, x _ _ e⟩
theorem Own.frzL {S R : Store} {cs : Cells} {p : Addr} {ws : List W} {ts : List T} (o : Own S R ((p, .lst ws) :: cs)) (h : RpA R ts ws) : ∃ R', Own S R' cs ∧ Ext R R' ∧ Rp R' (.lst ts) (.ref p) := by
  obtain ⟨a, b, c⟩ := o.frz
  exact ⟨_, a, b, rp_lst c (h.mono b)⟩
theorem Own.frzI {S R : Store} {cs : Cells} {p : Addr} {ns : List Int} (o : Own S R ((p, .lst (ns.map .int)) :: cs)) : ∃ R', Own S R' cs ∧ Ext R R' ∧ Rp R' (il ns) (.ref p) := o.frzL rpA_ints
end MP
set_option Elab.async false
set_option linter.all false
set_option maxRecDepth 100000
set_option maxHeartbeats 4000000
namespace MP
open PySem PySem.Spec PyProof.Rows L2
/-! ### steps: instances -/
def mkW (T : List FnE) (k c f : Nat) (perm : List PArg) (n m : Nat) (xs ys : List W) (S : Store) (Q : WP) (E : XP) : Prop := xs.length = n ∧ ys.length = m ∧
  ∀ a, S a = none → (semN T k).mk_ f (perm.map (PArg.pick (.ref a :: (xs ++ ys)))) (put S a (.ins c [])) (fun w S3 => w = .non ∧ Q (.ref a) S3) E
def meW (cs : Sem) (tb : List (Nat × (Nat × List PArg))) (nm : Str) (n m : Nat) (t u : TwA) (o : W) (σ : Sw) (S : Store) (Q : WP) (E : XP) : Prop := match o with
  | .ref a => (match S a with
    | some (.ins c fs) => fs.lookup nm = none ∧ (match tb.lookup c with
      | some p => t σ S (fun xs S2 => u σ S2 (fun ys S3 => xs.length = n ∧ ys.length = m ∧ cs.call p.1 (p.2.map (PArg.pick (.ref a :: (xs ++ ys)))) S3 Q E) E) E
      | none => False)
    | _ => False)
  | _ => False
def fdW (cls : List Nat) (f : Str) (x : W) (S : Store) (Q : WP) : Prop := match x with
  | .ref a => (match S a with
    | some (.ins c fs) => cls.contains c = true ∧ (match fs.lookup f with
      | some v => Q v S
      | none => False)
    | _ => False)
  | _ => False
def fsW (cls : List Nat) (f : Str) (v o : W) (σ : Sw) (S : Store) (P : Store → Prop) : Prop := match o with
  | .ref a => (match S a with
    | some (.ins c fs) => cls.contains c = true ∧ fs.length ≤ 60 ∧ P (put S a (.ins c (putFW f v fs)))
    | _ => False)
  | _ => False
def agW (op : Operator) (a : Int) (y : W) (P : Int → Prop) : Prop := match y with
  | .int b => (match opI op a b with
    | some c => P c
    | none => False)
  | _ => False
def cmW (T : List FnE) (k f : Nat) (perm : List PArg) (n m : Nat) (o : W) (xs ys : List W) (S : Store) (Q : WP) (E : XP) : Prop := xs.length = n ∧ ys.length = m ∧ (semN T k).call f (perm.map (PArg.pick (o :: (xs ++ ys)))) S Q E
/-- o.f += e: what o.f is, then what is stored -/
def fuW (cls : List Nat) (f : Str) (op : Operator) (te : Tw) (D : EnW) (o : W) (σ : Sw) (S : Store) : Prop := match o with
  | .ref a => (match S a with
    | some (.ins c fs) => cls.contains c = true ∧ (match fs.lookup f with
      | some (.int i) => te σ S (fun y S2 => match y with
        | .int j => (match opI op i j with
          | some k => (match S2 a with
            | some (.ins c2 fs2) => c2 = c ∧ fs2.length ≤ 60 ∧ D.nx σ (put S2 a (.ins c (putFW f (.int k) fs2)))
            | _ => False)
          | none => False)
        | _ => False) (fun e S' => D.ex e σ S')
      | _ => False)
    | _ => False)
  | _ => False
section
variable {D : EnW} {σ : Sw} {S S' R : Store} {cs : Cells} {Q : WP} {E : XP} {t u : TwS} {ta tb tc to : Tw} {ua ub : TwA} {c : TwT} {w x y : W} {i j : Int} {n m k cc f : Nat} {K : Kit} {ws xs ys : List W} {p : Addr} {TT : List FnE} {perm : List PArg} {nm : Str} {cls : List Nat} {tbl : List (Nat × (Nat × List PArg))} {op : Operator}
theorem w_mk (h : ua σ S (fun xs S1 => ub σ S1 (fun ys S2 => mkW TT k cc f perm n m xs ys S2 Q E) E) E) : mkN (semN TT k) cc f perm n m ua ub σ S Q E := h
theorem w_me {cs : Sem} (h : to σ S (fun o S1 => meW cs tbl nm n m ua ub o σ S1 Q E) E) : methN cs tbl nm n m to ua ub σ S Q E := h
theorem w_fd (h : ta σ S (fun x S1 => fdW cls nm x S1 Q) E) : fldC cls nm ta σ S Q E := h
theorem w_fs (h : ta σ S (fun v S1 => to σ S1 (fun o S2 => fsW cls nm v o σ S2 (fun S3 => D.nx σ S3)) (fun e S' => D.ex e σ S')) (fun e S' => D.ex e σ S')) : fstS cls nm to ta D σ S := h
theorem w_fu (h : to σ S (fun o S1 => fuW cls nm op ta D o σ S1) (fun e S' => D.ex e σ S')) : fauS cls nm op to ta D σ S := h
theorem w_ag {a : Int} {i : Nat} (e : σ[i]? = some (some (.int a))) (h : ta σ S (fun y S1 => agW op a y (fun z => D.nx (σ.set i (some (.int z))) S1)) (fun e S' => D.ex e σ S')) : augS i op ta D σ S := by
  unfold augS
  simp only [e]
  exact h
theorem ag_add {P : Int → Prop} (q : P (i + j)) : agW .Add i (.int j) P := q
theorem ag_sub {P : Int → Prop} (q : P (i - j)) : agW .Sub i (.int j) P := q
/-- C(..): a cell of one's own -/
theorem s_mk (o : Own S R cs) (h1 : xs.length = n) (h2 : ys.length = m) {ws : Addr → List W} (h3 : ∀ a, perm.map (PArg.pick (.ref a :: (xs ++ ys))) = ws a)
    (q : ∀ a S', Own S' R ((a, .ins cc []) :: cs) → cl TT k f (ws a) S' (fun w S3 => w = .non ∧ Q (.ref a) S3) E) : mkW TT (k + 1) cc f perm n m xs ys S Q E :=
  ⟨h1, h2, fun a ha => by
    rw [h3]
    have := q a _ (o.new ha)
    rw [cl_eq] at this
    exact this⟩
/-- the fields of what is known -/
theorem zip_look {R : Store} : ∀ {ks : List Str} {ts : List T} {ws : List W} {t : T}, RpA R ts ws → (ks.zip ts).lookup nm = some t → ∃ v, (ks.zip ws).lookup nm = some v ∧ Rp R t v
  | [], ts, ws, t, h, e => by simp at e
  | k :: ks, [], ws, t, h, e => by simp at e
  | k :: ks, u :: ts, ws, t, h, e => by
    obtain ⟨w, r, rfl, a, b⟩ := h.cons
    rw [List.zip_cons_cons, List.lookup_cons] at e ⊢
    cases q : nm == k with
    | true => rw [q] at e; cases e; exact ⟨w, rfl, a⟩
    | false => rw [q] at e; exact zip_look b e
theorem zip_none : ∀ {ks : List Str} {ws : List W}, ks.contains nm = false → (ks.zip ws).lookup nm = none
  | [], ws, h => by simp
  | k :: ks, [], h => by simp
  | k :: ks, w :: ws, h => by
    rw [List.contains_cons, Bool.or_eq_false_iff] at h
    rw [List.zip_cons_cons, List.lookup_cons, h.1]
    exact zip_none h.2
theorem s_cm (h1 : xs.length = n) (h2 : ys.length = m) (h3 : perm.map (PArg.pick (x :: (xs ++ ys))) = ws) (q : cl TT k f ws S Q E) : cmW TT k f perm n m x xs ys S Q E :=
  ⟨h1, h2, by rw [h3, ← cl_eq]; exact q⟩
/-- o.m(..), o known -/
theorem s_meR {ks : List Str} {ts : List T} {qf : Nat} {qp : List PArg} (o : Own S R cs) (h : Rp R (.obj cc ks ts) x) (hn : ks.contains nm = false) (ht : tbl.lookup cc = some (qf, qp))
    (g : ua σ S (fun xs S2 => ub σ S2 (fun ys S3 => cmW TT k qf qp n m x xs ys S3 Q E) E) E) : meW (semN TT k) tbl nm n m ua ub x σ S Q E := by
  obtain ⟨a, ws, rfl, e, hl, r⟩ := h.obj
  unfold meW
  simp only [o.r _ _ e, ht]
  exact ⟨zip_none hn, g⟩
/-- .. a cell -/
theorem s_meC {fs : List (Str × W)} {qf : Nat} {qp : List PArg} (o : Own S R ((p, .ins cc fs) :: cs)) (hn : fs.lookup nm = none) (ht : tbl.lookup cc = some (qf, qp))
    (g : ua σ S (fun xs S2 => ub σ S2 (fun ys S3 => cmW TT k qf qp n m (.ref p) xs ys S3 Q E) E) E) : meW (semN TT k) tbl nm n m ua ub (.ref p) σ S Q E := by
  unfold meW
  simp only [o.at, ht]
  exact ⟨hn, g⟩
/-- o.f -/
theorem s_fdR {ks : List Str} {ts : List T} {u : T} (o : Own S R cs) (h : Rp R (.obj cc ks ts) x) (hc : cls.contains cc = true) (hu : (ks.zip ts).lookup nm = some u) (q : ∀ v, Rp R u v → Q v S) : fdW cls nm x S Q := by
  obtain ⟨a, ws, rfl, e, hl, r⟩ := h.obj
  obtain ⟨v, ev, rv⟩ := zip_look r hu
  unfold fdW
  simp only [o.r _ _ e, ev]
  exact ⟨hc, q v rv⟩
theorem s_fdC {fs : List (Str × W)} {v : W} (o : Own S R ((p, .ins cc fs) :: cs)) (hc : cls.contains cc = true) (hv : fs.lookup nm = some v) (q : Q v S) : fdW cls nm (.ref p) S Q := by
  unfold fdW
  simp only [o.at, hv]
  exact ⟨hc, q⟩
/-- o.f = v -/
theorem s_fs {fs fs' : List (Str × W)} {P : Store → Prop} (o : Own S R ((p, .ins cc fs) :: cs)) (hc : cls.contains cc = true) (hl : fs.length ≤ 60) (he : putFW nm w fs = fs') (q : ∀ S', Own S' R ((p, .ins cc fs') :: cs) → P S') : fsW cls nm w (.ref p) σ S P := by
  unfold fsW
  simp only [o.at]
  exact ⟨hc, hl, by rw [he]; exact q _ o.wr⟩
/-- o.f += k -/
theorem s_fuA {fs : List (Str × W)} {a b : Int} (o : Own S R ((p, .ins cc fs) :: cs)) (hc : cls.contains cc = true) (hv : fs.lookup nm = some (.int a)) (hl : fs.length ≤ 60) (q : ∀ S', Own S' R ((p, .ins cc (putFW nm (.int (a + b)) fs)) :: cs) → D.nx σ S') : fuW cls nm .Add (cstS (.int b)) D (.ref p) σ S := by
  unfold fuW
  simp only [o.at, hv]
  exact ⟨hc, by
    show (match opI .Add a b with | some k => _ | none => False)
    simp only [opI]
    show (match S p with | some (.ins c2 fs2) => c2 = cc ∧ fs2.length ≤ 60 ∧ D.nx σ (put S p (.ins cc (putFW nm (.int (a + b)) fs2))) | _ => False)
    rw [o.at]
    exact ⟨rfl, hl, q _ o.wr⟩⟩
/-- an instance is made whole -/
theorem Own.frzO {c : Nat} {ks : List Str} {ts : List T} {ws : List W} {a : Addr} (o : Own S R ((a, .ins c (ks.zip ws)) :: cs)) (hl : ks.length = ts.length) (h : RpA R ts ws) : ∃ R', Own S R' cs ∧ Ext R R' ∧ Rp R' (.obj c ks ts) (.ref a) := by
  obtain ⟨x, y, z⟩ := o.frz
  exact ⟨_, x, y, .cObj _ _ _ _ _ z hl (h.mono y)⟩
theorem s_inT {b : Bool} (h1 : flatW x = true) (h2 : ws.all flatW = true) (q : Q (.bl (b != ws.any fun w => eqF w x)) S) : inW b x (.tup ws) S Q := .inl ⟨h1, h2, q⟩
theorem v_inT (h1 : flatW x = true) (h2 : ws.all flatW = true) (q : Q (.bl (ws.any fun w => eqF w x)) S) : cmpW .In x (.tup ws) S Q := by
  show inW false x (.tup ws) S Q
  exact s_inT h1 h2 (by simpa using q)
theorem v_ninT (h1 : flatW x = true) (h2 : ws.all flatW = true) (q : Q (.bl (!ws.any fun w => eqF w x)) S) : cmpW .NotIn x (.tup ws) S Q := by
  show inW true x (.tup ws) S Q
  exact s_inT h1 h2 (by simpa using q)
/-- len, where instances have their own -/
theorem s_lenO (o : Own S R cs) {t : T} {ts : List T} (h : Rp R t x) (e : t.seq? = some ts) (q : Q (.int ts.length) S) {sm : Sem} : lenO sm tbl [x] S Q := by
  obtain ⟨ws, i, g⟩ := h.seq o e
  have q2 : lenW [x] S Q := v_len (K := ⟨fun _ _ => none⟩) i (by rw [g.length]; exact q)
  unfold lenO
  cases x <;> first | exact q2 | skip
  rename_i a
  simp only
  split
  · rename_i c fs ec
    simp only [items?, ec] at i
    cases i
  · exact q2
theorem s_lenOL (o : Own S R cs) {ns : List Int} (h : Rp R (il ns) x) (q : Q (.int ns.length) S) {sm : Sem} : lenO sm tbl [x] S Q :=
  s_lenO o h rfl (by rw [List.length_map]; exact q)
theorem s_lenOC (o : Own S R ((p, .lst ws) :: cs)) (q : Q (.int ws.length) S) {sm : Sem} : lenO sm tbl [.ref p] S Q := by
  have q2 : lenW [.ref p] S Q := v_len (K := ⟨fun _ _ => none⟩) (items_lst o.at) q
  unfold lenO
  simp only [o.at]
  exact q2
theorem s_lenOI {ks : List Str} {ts : List T} {qf : Nat} {qp : List PArg} (o : Own S R cs) (h : Rp R (.obj cc ks ts) x) (ht : tbl.lookup cc = some (qf, qp)) (hp : qp.map (PArg.pick [x]) = ws) (g : cl TT k qf ws S (isLen Q) noX) : lenO (semN TT k) tbl [x] S Q := by
  obtain ⟨a, vs, rfl, e, hl, r⟩ := h.obj
  unfold lenO ownLen
  simp only [o.r _ _ e, ht]
  rw [hp, ← cl_eq]
  exact g
theorem s_boolOI {ks : List Str} {ts : List T} {qf : Nat} {qp : List PArg} (o : Own S R cs) (h : Rp R (.obj cc ks ts) x) (hc : cls.contains cc = true) (ht : tbl.lookup cc = some (qf, qp)) (hp : qp.map (PArg.pick [x]) = ws)
    (g : cl TT k qf ws S (isLen fun v S' => match v with | .int n => Q (.bl (n != 0)) S' | _ => False) noX) : boolO (semN TT k) tbl cls [x] S Q := by
  obtain ⟨a, vs, rfl, e, hl, r⟩ := h.obj
  unfold boolO ownLen
  simp only [o.r _ _ e, ht]
  refine ⟨hc, ?_⟩
  rw [hp, ← cl_eq]
  exact g
/-! texts -/
theorem s_strOI {ks : List Str} {ts : List T} {qf : Nat} {qp : List PArg} (o : Own S R cs) (h : Rp R (.obj cc ks ts) x) (ht : tbl.lookup cc = some (qf, qp)) (hp : qp.map (PArg.pick [x]) = ws) (g : cl TT k qf ws S (isStr Q) noX) : strO (semN TT k) tbl [x] S Q := by
  obtain ⟨a, vs, rfl, e, hl, r⟩ := h.obj
  unfold strO ownStr
  simp only [o.r _ _ e, ht]
  rw [hp, ← cl_eq]
  exact g
theorem s_strOC {fs : List (Str × W)} {qf : Nat} {qp : List PArg} (o : Own S R ((p, .ins cc fs) :: cs)) (ht : tbl.lookup cc = some (qf, qp)) (hp : qp.map (PArg.pick [.ref p]) = ws) (g : cl TT k qf ws S (isStr Q) noX) : strO (semN TT k) tbl [.ref p] S Q := by
  unfold strO ownStr
  simp only [o.at, ht]
  rw [hp, ← cl_eq]
  exact g
theorem s_lenOIC {fs : List (Str × W)} {qf : Nat} {qp : List PArg} (o : Own S R ((p, .ins cc fs) :: cs)) (ht : tbl.lookup cc = some (qf, qp)) (hp : qp.map (PArg.pick [.ref p]) = ws) (g : cl TT k qf ws S (isLen Q) noX) : lenO (semN TT k) tbl [.ref p] S Q := by
  unfold lenO ownLen
  simp only [o.at, ht]
  rw [hp, ← cl_eq]
  exact g
theorem s_boolOIC {fs : List (Str × W)} {qf : Nat} {qp : List PArg} (o : Own S R ((p, .ins cc fs) :: cs)) (hc : cls.contains cc = true) (ht : tbl.lookup cc = some (qf, qp)) (hp : qp.map (PArg.pick [.ref p]) = ws)
    (g : cl TT k qf ws S (isLen fun v S' => match v with | .int n => Q (.bl (n != 0)) S' | _ => False) noX) : boolO (semN TT k) tbl cls [.ref p] S Q := by
  unfold boolO ownLen
  simp only [o.at, ht]
  refine ⟨hc, ?_⟩
  rw [hp, ← cl_eq]
  exact g
/-! repr -/
theorem s_rpOI {ks : List Str} {ts : List T} {qf : Nat} {qp : List PArg} (o : Own S R cs) (h : Rp R (.obj cc ks ts) x) (ht : tbl.lookup cc = some (qf, qp)) (hp : qp.map (PArg.pick [x]) = ws) (g : cl TT k qf ws S (isStr Q) noX) : rpO (semN TT k) tbl [x] S Q := by
  obtain ⟨a, vs, rfl, e, hl, r⟩ := h.obj
  unfold rpO ownStr
  simp only [o.r _ _ e, ht]
  rw [hp, ← cl_eq]
  exact g
theorem s_rpOC {fs : List (Str × W)} {qf : Nat} {qp : List PArg} (o : Own S R ((p, .ins cc fs) :: cs)) (ht : tbl.lookup cc = some (qf, qp)) (hp : qp.map (PArg.pick [.ref p]) = ws) (g : cl TT k qf ws S (isStr Q) noX) : rpO (semN TT k) tbl [.ref p] S Q := by
  unfold rpO ownStr
  simp only [o.at, ht]
  rw [hp, ← cl_eq]
  exact g
/-! f-strings -/
def jsW (ts : List Tw) (acc : Str) (x : W) (σ : Sw) (S : Store) (Q : WP) (E : XP) : Prop := match x with
  | .str y => (acc ++ y).length ≤ sizeLine ∧ jnsS ts (acc ++ y) σ S Q E
  | _ => False
theorem w_js {t : Tw} {ts : List Tw} {acc : Str} (h : t σ S (fun x S1 => jsW ts acc x σ S1 Q E) E) : jnsS (t :: ts) acc σ S Q E := h
theorem js_nil {acc : Str} (q : Q (.str acc) S) : jnsS [] acc σ S Q E := q
theorem js_at {ts : List Tw} {acc y : Str} (h : (acc ++ y).length ≤ 1000000) (q : jnsS ts (acc ++ y) σ S Q E) : jsW ts acc (.str y) σ S Q E := ⟨sz_ok h, q⟩
theorem w_fm {t : Tw} (h : t σ S (fun x S1 => fmW x S1 Q) E) : fmS t σ S Q E := h
theorem s_strOs {z : Str} {sm : Sem} (q : Q (.str z) S) : strO sm tbl [.str z] S Q := q
theorem s_strS {z : Str} (q : Q (.str z) S) : biW K .str [.str z] S Q := q
/-! xs[::-1], zip of three, == of instances -/
theorem w_rev {t : Tw} (h : t σ S (fun x S1 => rvW x S1 Q) E) : revS t σ S Q E := h
theorem s_rvL (o : Own S R cs) {ts : List T} (h : Rp R (.lst ts) x) (q : ∀ p S' R', Own S' R' cs → Ext R R' → Rp R' (.lst ts.reverse) (.ref p) → Q (.ref p) S') : rvW x S Q := by
  obtain ⟨a, ws, rfl, e, i, g⟩ := h.items o
  unfold rvW
  simp only [i]
  intro p hp
  obtain ⟨a, b, c⟩ := o.newF (o := .lst ws.reverse) hp
  exact q p _ _ a b (rp_lst c (g.reverse.mono b))
def z3W (xs : List W) (S1 : Store) (Q : List W → (Store → Prop) → Store → Prop) : Prop := match xs with
  | [x, y, z] => (match sqW S1 x, sqW S1 y, sqW S1 z with
    | some xs, some ys, some zs => Q (zipI3 xs ys zs) (fun S => stlW x xs S ∧ stlW y ys S ∧ stlW z zs S) S1
    | _, _, _ => False)
  | _ => False
theorem w_z3I {Q : List W → (Store → Prop) → Store → Prop} (h : ua σ S (fun xs S1 => z3W xs S1 Q) E) : zp3I ua σ S Q E := h
def zSW (xs : List W) (S1 : Store) (Q : List W → (Store → Prop) → Store → Prop) : Prop := match xs with
  | [x, y] => (match sqW S1 x, sqW S1 y with
    | some xs, some ys => xs.length = ys.length ∧ Q (zipI xs ys) (fun S => stlW x xs S ∧ stlW y ys S) S1
    | _, _ => False)
  | _ => False
theorem w_zSI {Q : List W → (Store → Prop) → Store → Prop} (h : ua σ S (fun xs S1 => zSW xs S1 Q) E) : zpSI ua σ S Q E := h
def dinW (n : Bool) (kvs : List (Key × W)) (x : W) (S1 : Store) (Q : WP) : Prop := match keyW x with
  | some k => Q (.bl (n != (lkD kvs k).isSome)) S1
  | none => False
def digW (kvs : List (Key × W)) (x : W) (S1 : Store) (Q : WP) : Prop := match keyW x with
  | some k => (match lkD kvs k with
    | some w => Q w S1
    | none => False)
  | none => False
theorem w_din {n : Bool} {kvs : List (Key × W)} {t : Tw} (h : t σ S (fun x S1 => dinW n kvs x S1 Q) E) : dinS n kvs t σ S Q E := h
theorem w_dig {kvs : List (Key × W)} {t : Tw} (h : t σ S (fun x S1 => digW kvs x S1 Q) E) : digS kvs t σ S Q E := h
theorem s_dinS {n : Bool} {kvs : List (Key × W)} {z : Str} (q : Q (.bl (n != (lkD kvs (.inr z)).isSome)) S) : dinW n kvs (.str z) S Q := q
theorem s_dinI {n : Bool} {kvs : List (Key × W)} {i : Int} (q : Q (.bl (n != (lkD kvs (.inl i)).isSome)) S) : dinW n kvs (.int i) S Q := q
theorem s_digS {kvs : List (Key × W)} {z : Str} {w : W} (e : lkD kvs (.inr z) = some w) (q : Q w S) : digW kvs (.str z) S Q := by
  show (match lkD kvs (.inr z) with | some w => Q w S | none => False)
  rw [e]; exact q
theorem s_digI {kvs : List (Key × W)} {i : Int} {w : W} (e : lkD kvs (.inl i) = some w) (q : Q w S) : digW kvs (.int i) S Q := by
  show (match lkD kvs (.inl i) with | some w => Q w S | none => False)
  rw [e]; exact q
theorem is_bl {b neg : Bool} (q : Q (.bl (neg != b)) S) : isBl neg Q (.bl b) S := q
theorem is_str {z : Str} (q : Q (.str z) S) : isStr Q (.str z) S := q
theorem s_strOi {i : Int} {sm : Sem} (h : i.natAbs.log2 < 1920) (q : Q (.str (toString i)) S) : strO sm tbl [.int i] S Q := ⟨h, q⟩
theorem s_strOn {i : Int} {sm : Sem} (h0 : 0 ≤ i) (h1 : i < 2 ^ 63) (q : Q (.str (toString i)) S) : strO sm tbl [.int i] S Q := by
  refine s_strOi ?_ q
  by_cases z : i.natAbs = 0
  · rw [z]
    decide
  · have h : i.natAbs.log2 < 63 := (Nat.log2_lt z).mpr (by omega)
    exact Nat.lt_trans h (by decide)
def tx2W (x : W) (P : Prop) : Prop := match x with
  | .str _ => P
  | _ => False
theorem w_tx2 {b : W → W → Store → WP → Prop} {to te : Tw} (h : to σ S (fun x S1 => tx2W x (te σ S1 (fun y S2 => b x y S2 Q) E)) E) : tx2S b to te σ S Q E := h
theorem tx_str {z : Str} {P : Prop} (q : P) : tx2W (.str z) P := q
theorem w_tx1 {b : W → Store → WP → Prop} {to : Tw} (h : to σ S (fun x S1 => b x S1 Q) E) : tx1S b to σ S Q E := h
theorem v_lenO {ws : List W} (h : items? S x = some ws) (q : Q (.int ws.length) S) {sm : Sem} : lenO sm tbl [x] S Q := by
  have q2 : lenW [x] S Q := v_len (K := ⟨fun _ _ => none⟩) h q
  unfold lenO
  cases x <;> first | exact q2 | skip
  rename_i a
  simp only
  split
  · rename_i c fs ec
    simp only [items?, ec] at h
    cases h
  · exact q2
theorem s_lenOSc {sv : W} {ns : List Int} (o : Own S R cs) (h : Script sv R ns) (q : Q (.int ns.length) S) {sm : Sem} : lenO sm tbl [sv] S Q := by
  have h' : items? S sv = some (ns.map W.int) := by
    rcases h with rfl | ⟨a, rfl, e⟩
    · rfl
    · simp only [items?, o.r _ _ e]
  exact v_lenO h' (by rw [List.length_map]; exact q)
theorem Rp.st (o : Own S R cs) {t : T} {ts : List T} (h : Rp R t x) (e : t.seq? = some ts) : ∃ ws, items? S x = some ws ∧ RpA R ts ws ∧ ∀ S' R' cs', Own S' R' cs' → Ext R R' → stillL x ws S' := by
  obtain ⟨ws, i, g⟩ := h.seq o e
  refine ⟨ws, i, g, fun S' R' cs' o' x' => ?_⟩
  cases t <;> first | (cases e; done) | skip
  · obtain ⟨vs, rfl, g2⟩ := h.tup
    exact i
  · obtain ⟨a, vs, rfl, q, i2, g2⟩ := h.items o
    rw [i2] at i
    cases i
    obtain ⟨a', ws', e1, e2, e3⟩ := h.lst
    cases e1
    have := o.r _ _ e2
    rw [q] at this
    cases this
    exact items_lst (o'.r _ _ (x' _ _ e2))
theorem bo_isT {b : Bool} {A B : Prop} (h : b = true) (q : A) : boW (.bl b) A B := by rw [h]; exact q
theorem bo_isF {b : Bool} {A B : Prop} (h : b = false) (q : B) : boW (.bl b) A B := by rw [h]; exact q
theorem br_isT {b : Bool} {A B : Prop} (h : b = true) (q : A) : brW b A B := by rw [h]; exact q
theorem br_isF {b : Bool} {A B : Prop} (h : b = false) (q : B) : brW b A B := by rw [h]; exact q
/-! ### dicts that change -/
def dnW (S : Store) (Q : WP) : Prop := ∀ p, S p = none → Q (.ref p) (put S p (.dic []))
theorem v_dicN {σ : Sw} (h : dnW S Q) : dicN σ S Q E := h
theorem s_dn (o : Own S R cs) (q : ∀ p S', Own S' R ((p, .dic []) :: cs) → Q (.ref p) S') : dnW S Q := fun p hp => q p _ (o.new hp)
theorem s_mgD {kvs : List (Key × W)} {m : Mt} {P P2 : Prop} (o : Own S R ((p, .dic kvs) :: cs)) (hm : m.onD = true) (q : P2) : mgW m (.ref p) S P P2 := mg_dic o.at hm q
theorem s_inDc {kvs : List (Key × W)} {k : Key} (o : Own S R ((p, .dic kvs) :: cs)) (e : keyW x = some k) (q : Q (.bl (lkD kvs k).isSome) S) : cmpW .In x (.ref p) S Q :=
  .inr ⟨p, kvs, k, rfl, o.at, e, by simpa using q⟩
theorem s_ninDc {kvs : List (Key × W)} {k : Key} (o : Own S R ((p, .dic kvs) :: cs)) (e : keyW x = some k) (q : Q (.bl (!(lkD kvs k).isSome)) S) : cmpW .NotIn x (.ref p) S Q :=
  .inr ⟨p, kvs, k, rfl, o.at, e, by simpa using q⟩
theorem s_idxD {kvs : List (Key × W)} {k : Key} {w : W} (o : Own S R ((p, .dic kvs) :: cs)) (e : keyW x = some k) (l : lkD kvs k = some w) (q : Q w S) : idxW (.ref p) x S Q := .inr ⟨p, kvs, k, w, rfl, o.at, e, l, q⟩
theorem s_stiD {kvs : List (Key × W)} {k : Key} {w : W} {P : Store → Prop} (o : Own S R ((p, .dic kvs) :: cs)) (e : keyW x = some k) (hl : kvs.length ≤ 1000000) (q : ∀ S', Own S' R ((p, .dic (putD kvs k w)) :: cs) → P S') : sbW (.ref p) x w S P :=
  .inr ⟨p, kvs, k, rfl, o.at, e, sz_lt hl, q _ o.wr⟩
theorem s_popD {kvs : List (Key × W)} {k : Key} {w : W} (o : Own S R ((p, .dic kvs) :: cs)) (e : keyW x = some k) (l : lkD kvs k = some w) (q : ∀ S', Own S' R ((p, .dic (dropD kvs k)) :: cs) → Q w S') : dmW .popAt (.ref p) [x] S Q :=
  ⟨p, kvs, rfl, o.at, k, w, e, l, q _ o.wr⟩
theorem s_extT (o : Own S R ((p, .lst ws) :: cs)) {us : List T} {y : W} (h : Rp R (.tup us) y) (hl : ws.length + us.length ≤ 1000000) (k : ∀ S' vs, RpA R us vs → Own S' R ((p, .lst (ws ++ vs)) :: cs) → Q .non S') : mtW .extend (.ref p) [y] S Q := by
  obtain ⟨vs, rfl, g⟩ := h.tup
  have hl2 := g.length
  have e := o.at
  show (match S p with | some (.lst xs) => _ | _ => False)
  rw [e]
  exact ⟨by show ws.length + vs.length ≤ _; rw [hl2]; exact sz_ok hl, k _ vs g o.wr⟩
/-! ### comprehensions of two clauses -/
def ljW (D : Addr) (pt : Pat) (tt : TwT) (te : Tw) (σ : Sw) (still : Store → Prop) (N : Store → Prop) (items : List W) (S : Store) : Prop := lcI D pt tt te σ still (fun _ S => N S) items S
def lc2W (pt : Pat) (tt : TwT) (ti1 : TwI) (pt1 : Pat) (tt1 : TwT) (te : Tw) (vs1 : List Nat) (σ : Sw) (still : Store → Prop) (Q : WP) (items : List W) (S : Store) : Prop := ∀ D, S D = none → lcI2 D pt tt ti1 pt1 tt1 te vs1 σ still Q items (put S D (.lst []))
theorem w_lc2 {own vs1 : List Nat} {ti ti1 : TwI} {pt pt1 : Pat} {tt tt1 : TwT} (h : ti σ S (fun items still S1 => lc2W pt tt ti1 pt1 tt1 ta vs1 (wipeW σ own) still Q items S1) E) : lc2S own vs1 ti pt tt ti1 pt1 tt1 ta σ S Q E := h
theorem lj_by {D : Addr} {pt : Pat} {tt : TwT} {still N : Store → Prop} {items : List W} {ds : List T} (o : Own S R ((D, .lst ws) :: cs)) (r : RpA R ds ws) (P : Nat → List T → Cells → Prop) (h0 : P 0 ds cs) (hz : ∀ i ds cs, P i ds cs → ds.length ≤ 1000000)
    (hst : ∀ S' R' cs', Own S' R' cs' → Ext R R' → still S')
    (hs : ∀ i w S' R' ds ws cs' (N : Store → Prop), items[i]? = some w → P i ds cs' → Own S' R' ((D, .lst ws) :: cs') → Ext R R' → RpA R' ds ws →
      (∀ S2 R2 cs2 y t, P (i + 1) (ds ++ [t]) cs2 → Own S2 R2 ((D, .lst ws) :: cs2) → Ext R' R2 → Rp R2 t y → apI D y S2 N) →
      (∀ S2 R2 cs2, P (i + 1) ds cs2 → Own S2 R2 ((D, .lst ws) :: cs2) → Ext R' R2 → N S2) →
      patW pt w σ S' fun σ2 S2 => tt σ2 S2 (fun b S3 => brW b (ta σ2 S3 (fun y S4 => apI D y S4 N) noX) (N S3)) noX)
    (he : ∀ ds ws cs' S' R', P items.length ds cs' → Own S' R' ((D, .lst ws) :: cs') → Ext R R' → RpA R' ds ws → N S') : ljW D pt tt ta σ still N items S := by
  refine ⟨fun i S' => ∃ R' ds ws cs', P i ds cs' ∧ Own S' R' ((D, .lst ws) :: cs') ∧ Ext R R' ∧ RpA R' ds ws, ⟨R, ds, ws, cs, h0, o, .refl, r⟩, fun i S' hi q => ?_⟩
  obtain ⟨R', ds, ws, cs', p, o', x', r⟩ := q
  refine ⟨hst _ _ _ o' x', ?_⟩
  by_cases c : i < items.length
  · rw [List.getElem?_eq_getElem c]
    refine hs i _ S' R' ds ws cs' (fun S' => ∃ R' ds ws cs', P (i + 1) ds cs' ∧ Own S' R' ((D, .lst ws) :: cs') ∧ Ext R R' ∧ RpA R' ds ws) (List.getElem?_eq_getElem c) p o' x' r (fun S2 R2 cs2 y t p2 o2 x2 r2 => ?_) fun S2 R2 cs2 p2 o2 x2 => ⟨R2, ds, ws, cs2, p2, o2, x'.trans x2, r.mono x2⟩
    have hz' := hz _ _ _ p2
    rw [List.length_append] at hz'
    unfold apI
    rw [o2.at]
    refine ⟨?_, R2, ds ++ [t], ws ++ [y], cs2, p2, o2.wr, x'.trans x2, (r.mono x2).app (rpA_cons r2 rpA_nil)⟩
    rw [r.length]
    exact sz_lt (by simp at hz'; omega)
  · have e : i = items.length := by omega
    subst e
    rw [List.getElem?_eq_none (Nat.le_refl _)]
    exact he ds ws cs' S' R' p o' x' r
theorem lc2_by {pt pt1 : Pat} {tt tt1 : TwT} {ti1 : TwI} {vs1 : List Nat} {still : Store → Prop} {items : List W} (o : Own S R cs) (P : Nat → List T → Cells → Prop) (h0 : P 0 [] cs)
    (hst : ∀ S' R' cs', Own S' R' cs' → Ext R R' → still S')
    (hs : ∀ i w D S' R' ds ws cs' (N : Store → Prop), items[i]? = some w → P i ds cs' → Own S' R' ((D, .lst ws) :: cs') → Ext R R' → RpA R' ds ws →
      (∀ S2 R2 cs2 ds2 ws2, P (i + 1) ds2 cs2 → Own S2 R2 ((D, .lst ws2) :: cs2) → Ext R' R2 → RpA R2 ds2 ws2 → N S2) →
      patW pt w σ S' fun σ2 S2 => tt σ2 S2 (fun b S3 => brW b (ti1 σ2 S3 (fun items1 still1 S4 => ljW D pt1 tt1 ta (wipeW σ2 vs1) still1 N items1 S4) noX) (N S3)) noX)
    (he : ∀ ds ws cs' D S' R', P items.length ds cs' → Own S' R' ((D, .lst ws) :: cs') → Ext R R' → RpA R' ds ws → Q (.ref D) S') : lc2W pt tt ti1 pt1 tt1 ta vs1 σ still Q items S := by
  intro D hD
  refine ⟨fun i S' => ∃ R' ds ws cs', P i ds cs' ∧ Own S' R' ((D, .lst ws) :: cs') ∧ Ext R R' ∧ RpA R' ds ws, ⟨R, [], [], cs, h0, o.new hD, .refl, rpA_nil⟩, fun i S' hi q => ?_⟩
  obtain ⟨R', ds, ws, cs', p, o', x', r⟩ := q
  refine ⟨hst _ _ _ o' x', ?_⟩
  by_cases c : i < items.length
  · rw [List.getElem?_eq_getElem c]
    exact hs i _ D S' R' ds ws cs' (fun S' => ∃ R' ds ws cs', P (i + 1) ds cs' ∧ Own S' R' ((D, .lst ws) :: cs') ∧ Ext R R' ∧ RpA R' ds ws) (List.getElem?_eq_getElem c) p o' x' r fun S2 R2 cs2 ds2 ws2 p2 o2 x2 r2 => ⟨R2, ds2, ws2, cs2, p2, o2, x'.trans x2, r2⟩
  · have e : i = items.length := by omega
    subst e
    rw [List.getElem?_eq_none (Nat.le_refl _)]
    exact he ds ws cs' D S' R' p o' x' r
end
/-! ### steps: exceptions -/
def raW (c : Nat) (ks : List Str) (ws : List W) (P : Exn → Prop) : Prop := ws.length = ks.length ∧ P ⟨c, (ks.zip ws).reverse⟩
def catW (ms : Nat → Option Bool) (i : Nat) (ts : TwS) (D : EnW) (e : Exn) (σ : Sw) (S : Store) : Prop := match ms e.c with
  | some true => ts ⟨fun σ S => D.nx (σ.set i none) S, D.rt, fun σ S => D.bk (σ.set i none) S, fun σ S => D.ct (σ.set i none) S, fun _ _ _ => False⟩ (σ.set i (some (.exc e.c (e.fs.map (·.1)) (e.fs.map (·.2))))) S
  | some false => D.ex e σ S
  | none => False
def ca0W (ms : Nat → Option Bool) (ts : TwS) (D : EnW) (e : Exn) (σ : Sw) (S : Store) : Prop := match ms e.c with
  | some true => ts ⟨D.nx, D.rt, D.bk, D.ct, fun _ _ _ => False⟩ σ S
  | some false => D.ex e σ S
  | none => False
def fxW (cls ecl : List Nat) (f : Str) (x : W) (S : Store) (Q : WP) : Prop := match x with
  | .ref a => (match S a with
    | some (.ins c fs) => cls.contains c = true ∧ (match fs.lookup f with
      | some v => Q v S
      | none => False)
    | _ => False)
  | .exc c ks ws => ecl.contains c = true ∧ (match (ks.zip ws).lookup f with
    | some v => Q v S
    | none => False)
  | _ => False
section
variable {D : EnW} {σ : Sw} {S S' R : Store} {cs : Cells} {Q : WP} {E : XP} {tb ts : TwS} {ta : Tw} {u : TwA} {c i : Nat} {K : Kit} {ws xs : List W} {ks : List Str} {ms : Nat → Option Bool} {nm : Str} {cls ecl : List Nat} {fs : List (Str × W)} {x v : W}
theorem w_raise (h : u σ S (fun ws S1 => raW c ks ws (fun e => D.ex e σ S1)) (fun e S' => D.ex e σ S')) : raiseS c ks u D σ S := h
theorem s_raise {P : Exn → Prop} (h : ws.length = ks.length) (he : (ks.zip ws).reverse = fs) (q : P ⟨c, fs⟩) : raW c ks ws P := ⟨h, by rw [he]; exact q⟩
theorem w_try (h : tb ⟨D.nx, D.rt, D.bk, D.ct, fun e σ S => catW ms i ts D e σ S⟩ σ S) : tryS ms i tb ts D σ S := h
theorem w_try0 (h : tb ⟨D.nx, D.rt, D.bk, D.ct, fun e σ S => ca0W ms ts D e σ S⟩ σ S) : try0S ms tb ts D σ S := h
theorem s_catT (h : ms c = some true) (q : ts ⟨fun σ S => D.nx (σ.set i none) S, D.rt, fun σ S => D.bk (σ.set i none) S, fun σ S => D.ct (σ.set i none) S, fun _ _ _ => False⟩ (σ.set i (some (.exc c (fs.map (·.1)) (fs.map (·.2))))) S) : catW ms i ts D ⟨c, fs⟩ σ S := by
  unfold catW
  simp only [h]
  exact q
theorem s_catF (h : ms c = some false) (q : D.ex ⟨c, fs⟩ σ S) : catW ms i ts D ⟨c, fs⟩ σ S := by
  unfold catW
  simp only [h]
  exact q
theorem s_ca0T (h : ms c = some true) (q : ts ⟨D.nx, D.rt, D.bk, D.ct, fun _ _ _ => False⟩ σ S) : ca0W ms ts D ⟨c, fs⟩ σ S := by
  unfold ca0W
  simp only [h]
  exact q
theorem s_ca0F (h : ms c = some false) (q : D.ex ⟨c, fs⟩ σ S) : ca0W ms ts D ⟨c, fs⟩ σ S := by
  unfold ca0W
  simp only [h]
  exact q
theorem w_fdx (h : ta σ S (fun x S1 => fxW cls ecl nm x S1 Q) E) : fldX cls ecl nm ta σ S Q E := h
theorem s_fdE (h1 : ecl.contains c = true) (h2 : (ks.zip ws).lookup nm = some v) (q : Q v S) : fxW cls ecl nm (.exc c ks ws) S Q := by
  refine ⟨h1, ?_⟩
  rw [h2]
  exact q
theorem s_isiX {cl : List W} {d : Tyc} {ds : List Tyc} {b : Bool} (h : clsesOf cl = some (d :: ds)) (h2 : kitL K (.exc c) (d :: ds) = some b) (q : Q (.bl b) S) : biW K .isinstance [.exc c ks ws, .tup cl] S Q := by
  show isiW K (.exc c ks ws) (.tup cl) S Q
  unfold isiW
  simp only [tyW, h, h2]
  exact q
theorem s_isiX1 {w : W} {d : Tyc} {b : Bool} (h : clsOf w = some d) (h2 : kitT K (.exc c) d = some b) (q : Q (.bl b) S) : biW K .isinstance [.exc c ks ws, w] S Q := by
  show isiW K (.exc c ks ws) w S Q
  unfold isiW
  cases w <;> simp only [clsOf, Option.some.injEq] at h <;> first | (cases h; done) | skip
  all_goals
    subst h
    simp only [tyW, clsOf, h2]
    exact q
end
theorem at_n {α : Type} {xs : List α} {n : Nat} {v : α} (h : xs[n]? = some v) : atI xs (n : Int) = some v := by
  have hi := (List.getElem?_eq_some_iff.mp h).1
  unfold atI ixN
  rw [if_pos (by omega), if_pos (by omega)]
  simpa using h
theorem at_0 {α : Type} {a : α} {xs : List α} : atI (a :: xs) 0 = some a := at_n (n := 0) rfl
theorem at_1 {α : Type} {a b : α} {xs : List α} : atI (a :: b :: xs) 1 = some b := at_n (n := 1) rfl
theorem at_2 {α : Type} {a b c : α} {xs : List α} : atI (a :: b :: c :: xs) 2 = some c := at_n (n := 2) rfl
theorem at_3 {α : Type} {a b c d : α} {xs : List α} : atI (a :: b :: c :: d :: xs) 3 = some d := at_n (n := 3) rfl
end MP
set_option Elab.async false
set_option linter.all false
set_option maxRecDepth 100000
set_option maxHeartbeats 4000000
namespace MP
open PySem PySem.Spec PyProof.Rows L2
local macro_rules | `(tactic| wtm_at "own") => `(tactic| first | with_reducible assumption | ((with_reducible apply Own.swap); with_reducible assumption) | ((with_reducible apply Own.rot); with_reducible assumption) | ((with_reducible apply Own.tor); with_reducible assumption) | ((with_reducible apply Own.r4); with_reducible assumption) | ((with_reducible apply Own.r5); with_reducible assumption))
local macro_rules | `(tactic| wtm_at "rp") => `(tactic| first | with_reducible assumption | with_reducible exact rp_int | with_reducible exact rp_bl | with_reducible exact rp_non | with_reducible exact rp_str | ((with_reducible apply rp_tup); wtm_at "rpA") | ((with_reducible apply Rp.mono); (· with_reducible assumption); wtm_at "rp"))
local macro_rules | `(tactic| wtm_at "rpA") => `(tactic| first | with_reducible assumption | with_reducible exact rpA_nil | with_reducible exact rpA_ints | ((with_reducible apply rpA_cons); (· wtm_at "rp"); wtm_at "rpA") | ((with_reducible apply RpA.mono); (· with_reducible assumption); wtm_at "rpA"))
local macro_rules | `(tactic| wtm_at "sc") => `(tactic| first | with_reducible assumption | ((with_reducible apply Script.mono); (· with_reducible assumption); wtm_at "sc"))
local macro_rules | `(tactic| wtm_at "ar") => `(tactic| first | with_reducible assumption | omega | with_reducible rfl | decide | assumption | rfl | (simp only [List.length_map, List.length_append, List.length_cons, List.length_nil, List.length_reverse]; omega) | (simp; done) | (simp; omega))
local macro_rules | `(tactic| wtm_at "mul") => `(tactic| first | exact .inr (by decide) | exact .inl (by decide) | exact .inr (by omega) | exact .inl (by omega))
local macro_rules | `(tactic| wtm_at "u1") => `(tactic| first
  | ((with_reducible apply v_var); · exact rfl)
  | ((with_reducible refine v_seq ?_); try simp only [List.set_cons_succ, List.set_cons_zero])
  | ((with_reducible refine v_set ?_); try simp only [List.set_cons_succ, List.set_cons_zero])
  | ((with_reducible refine v_asg ?_); try simp only [List.set_cons_succ, List.set_cons_zero])
  | ((with_reducible refine v_par ?_); try simp only [List.set_cons_succ, List.set_cons_zero])
  | ((with_reducible refine v_drop ?_); try simp only [List.set_cons_succ, List.set_cons_zero])
  | ((with_reducible refine v_ret ?_); try simp only [List.set_cons_succ, List.set_cons_zero])
  | ((with_reducible refine v_if ?_); try simp only [List.set_cons_succ, List.set_cons_zero])
  | ((with_reducible refine v_for ?_); try simp only [List.set_cons_succ, List.set_cons_zero])
  | ((with_reducible refine v_sti ?_); try simp only [List.set_cons_succ, List.set_cons_zero])
  | (with_reducible refine v_next ?_)
  | (with_reducible refine v_retN ?_)
  | (with_reducible refine v_op2 ?_)
  | (with_reducible refine v_neg ?_)
  | (with_reducible refine v_tst ?_)
  | (with_reducible refine v_tru ?_)
  | (with_reducible refine v_val ?_)
  | (with_reducible refine v_not ?_)
  | (with_reducible refine v_andT ?_)
  | (with_reducible refine v_orT ?_)
  | (with_reducible refine v_ifE ?_)
  | (with_reducible refine v_andE ?_)
  | (with_reducible refine v_orE ?_)
  | (with_reducible refine v_nil ?_)
  | (with_reducible refine v_cons ?_)
  | (with_reducible refine v_bi ?_)
  | (with_reducible refine v_slc ?_)
  | (with_reducible refine v_noO ?_)
  | (with_reducible refine v_someO ?_)
  | (with_reducible refine v_add ?_)
  | (with_reducible refine v_sub ?_)
  | (with_reducible refine v_xor ?_)
  | (with_reducible refine v_lt ?_)
  | (with_reducible refine v_le ?_)
  | (with_reducible refine v_gt ?_)
  | (with_reducible refine v_ge ?_)
  | (with_reducible refine v_eqI ?_)
  | (with_reducible refine v_neI ?_)
  | (with_reducible refine v_eqB ?_)
  | (with_reducible refine v_neB ?_)
  | (with_reducible refine v_eqS ?_)
  | (with_reducible refine v_neS ?_)
  | (with_reducible refine v_eqN ?_)
  | (with_reducible refine v_isB ?_)
  | (with_reducible refine v_isnB ?_)
  | (with_reducible refine v_abs ?_)
  | (with_reducible refine v_int ?_)
  | (with_reducible refine v_min ?_)
  | (with_reducible refine v_max ?_)
  | (with_reducible refine v_yes ?_)
  | (with_reducible refine v_seqI ?_)
  | (with_reducible refine v_e1I ?_)
  | (with_reducible refine v_e2I ?_)
  | (with_reducible refine v_r1I ?_)
  | (with_reducible refine v_r2I ?_)
  | (with_reducible refine v_zpI ?_)
  | (with_reducible refine v_cst ?_)
  | (with_reducible refine v_nm ?_)
  | (with_reducible refine v_mt ?_)
  | (with_reducible refine v_star ?_)
  | ((with_reducible refine w_fs ?_); try simp only [List.set_cons_succ, List.set_cons_zero])
  | ((with_reducible refine w_fu ?_); try simp only [List.set_cons_succ, List.set_cons_zero])
  | ((with_reducible apply w_ag); (· exact rfl); try simp only [List.set_cons_succ, List.set_cons_zero])
  | (with_reducible refine w_rev ?_)
  | (with_reducible refine w_z3I ?_)
  | (with_reducible refine w_zSI ?_)
  | (with_reducible refine w_din ?_)
  | (with_reducible refine w_dig ?_)
  | (with_reducible refine s_dinS ?_)
  | (with_reducible refine s_dinI ?_)
  | (with_reducible refine is_bl ?_)
  | (with_reducible refine w_js ?_)
  | (with_reducible refine js_nil ?_)
  | (with_reducible refine w_fm ?_)
  | (with_reducible refine s_strOs ?_)
  | (with_reducible refine s_strS ?_)
  | (with_reducible refine w_tx2 ?_)
  | (with_reducible refine w_tx1 ?_)
  | (with_reducible refine tx_str ?_)
  | (with_reducible refine is_str ?_)
  | (with_reducible refine w_mk ?_)
  | (with_reducible refine w_me ?_)
  | (with_reducible refine w_fd ?_)
  | (with_reducible refine w_fdx ?_)
  | (with_reducible refine w_raise ?_)
  | (with_reducible refine w_try ?_)
  | (with_reducible refine w_try0 ?_)
  | (with_reducible refine ag_add ?_)
  | (with_reducible refine ag_sub ?_)
  | (with_reducible refine w_lst ?_)
  | (with_reducible refine w_tup ?_)
  | (with_reducible refine w_call ?_)
  | (with_reducible refine w_cv ?_)
  | (with_reducible refine w_lc ?_)
  | (with_reducible refine w_lc2 ?_)
  | (with_reducible refine w_chn ?_)
  | (with_reducible refine ts_bl ?_)
  | (with_reducible refine tr_bl ?_)
  | (with_reducible refine tr_non ?_)
  | (with_reducible refine an_bl ?_)
  | (with_reducible refine or_bl ?_)
  | (with_reducible refine an_non ?_)
  | (with_reducible refine or_non ?_)
  | (with_reducible refine so_int ?_)
  | (with_reducible refine ng_int ?_)
  | (with_reducible refine br_t ?_)
  | (with_reducible refine br_f ?_)
  | (with_reducible refine br_ft ?_)
  | (with_reducible refine br_tf ?_)
  | (with_reducible refine bo_t ?_)
  | (with_reducible refine bo_f ?_)
  | ((with_reducible apply v_ptup); · exact rfl)
  | ((with_reducible apply v_ptwo); · exact rfl)
  | ((with_reducible apply pa_at); · exact rfl)
  | (with_reducible refine s_tup (by simp) ?_)
  | ((with_reducible apply s_cl); (· rfl); (· rfl); (· (simp only [List.map_cons, List.map_nil, PArg.pick, List.append_nil, List.cons_append, List.nil_append, List.getD_cons_zero, List.getD_cons_succ]; exact rfl)))
  | ((with_reducible apply s_tup); (· simp))
  | ((with_reducible apply s_cl); (· rfl); (· rfl); (· (simp only [List.map_cons, List.map_nil, PArg.pick, List.append_nil, List.cons_append, List.nil_append, List.getD_cons_zero, List.getD_cons_succ]; exact rfl)))
  | ((with_reducible apply s_cv); (· rfl))
  | ((with_reducible apply s_raise); (· rfl); (· rfl))
  | ((with_reducible apply s_digS); (· exact rfl))
  | ((with_reducible apply s_digI); (· exact rfl))
  | ((with_reducible apply s_catT); (· exact rfl); try simp only [List.set_cons_succ, List.set_cons_zero, List.map_cons, List.map_nil])
  | ((with_reducible apply s_catF); (· exact rfl))
  | ((with_reducible apply s_ca0T); (· exact rfl))
  | ((with_reducible apply s_ca0F); (· exact rfl))
  | ((with_reducible apply s_fdE); (· exact rfl); (· exact rfl))
  | ((with_reducible apply s_isiX); (· exact rfl); (· exact rfl))
  | ((with_reducible apply s_isiX1); (· exact rfl); (· exact rfl))
  | ((with_reducible apply v_isNT); (· rfl))
  | ((with_reducible apply v_isNF); (· rfl))
  | ((with_reducible apply v_isnNT); (· rfl))
  | ((with_reducible apply v_isnNF); (· rfl))
  | ((with_reducible apply s_mg); (· wtm_at "own"); (· exact rfl))
  | ((with_reducible apply s_mgD); (· wtm_at "own"); (· exact rfl))
  | ((with_reducible apply s_inDc); (· wtm_at "own"); (· exact rfl))
  | ((with_reducible apply s_ninDc); (· wtm_at "own"); (· exact rfl))
  | ((with_reducible refine v_dicN ?_); (with_reducible apply s_dn); (· wtm_at "own"); intro _ _ _)
  | ((with_reducible apply s_lenI); (· wtm_at "own"); (· wtm_at "rp"))
  | ((with_reducible apply s_lenC); (· wtm_at "own"))
  | ((with_reducible apply s_lenSc); (· wtm_at "own"); (· wtm_at "sc"))
  | ((with_reducible apply r1_at); (· wtm_at "ar"); (· wtm_at "ar"))
  | ((with_reducible apply r2_at); (· wtm_at "ar"))
  | ((with_reducible apply s_lenQ); (· wtm_at "own"); (· wtm_at "rp"); (· assumption))
  | ((with_reducible apply s_len); (· wtm_at "own"); (· wtm_at "rp"); (· first | rfl | assumption))
  | ((with_reducible apply v_mul); (· wtm_at "mul"))
  | ((with_reducible apply v_fdiv); (· wtm_at "ar"))
  | ((with_reducible apply v_mod); (· wtm_at "ar"))
  | ((with_reducible apply v_pow); (· wtm_at "ar"))
  | ((with_reducible apply v_divmod); (· wtm_at "ar"))
  | ((with_reducible apply s_idxC); (· wtm_at "own"); (· rfl))
  | ((with_reducible apply s_idxT); (· rfl))
  | ((with_reducible apply s_isi); (· wtm_at "own"); (· wtm_at "rp"); (· rfl); (· rfl))
  | ((with_reducible apply s_isiT); (· wtm_at "own"); (· wtm_at "rp"); (· rfl); (· rfl))
  | ((with_reducible apply s_isiC); (· wtm_at "own"); (· rfl); (· rfl))
  | ((with_reducible apply s_isiTC); (· wtm_at "own"); (· rfl); (· rfl))
  | ((with_reducible apply s_mk); (· wtm_at "own"); (· rfl); (· rfl); (· intro _; (simp only [List.map_cons, List.map_nil, PArg.pick, List.append_nil, List.cons_append, List.nil_append, List.getD_cons_zero, List.getD_cons_succ]; exact rfl)); intro _ _ _)
  | ((with_reducible apply s_cm); (· rfl); (· rfl); (· (simp only [List.map_cons, List.map_nil, PArg.pick, List.append_nil, List.cons_append, List.nil_append, List.getD_cons_zero, List.getD_cons_succ]; exact rfl)))
  | ((with_reducible apply s_fdC); (· wtm_at "own"); (· rfl); (· rfl))
  | ((with_reducible apply s_meC); (· wtm_at "own"); (· rfl); (· rfl))
  | ((with_reducible apply s_fs); (· wtm_at "own"); (· rfl); (· exact Nat.le_of_ble_eq_true rfl); (· rfl); intro _ _)
  | ((with_reducible apply s_fuA); (· wtm_at "own"); (· rfl); (· rfl); (· exact Nat.le_of_ble_eq_true rfl); intro _ _)
  | ((with_reducible apply s_fdR); (· wtm_at "own"); (· wtm_at "rp"); (· rfl); (· rfl); intro _ _)
  | ((with_reducible apply s_meR); (· wtm_at "own"); (· wtm_at "rp"); (· rfl); (· rfl))
  | ((with_reducible apply s_idxQ); (· wtm_at "own"); (· wtm_at "rp"); (· exact rfl); (· first | exact rfl | exact at_0 | exact at_1 | exact at_2 | exact at_3))
  | ((with_reducible apply s_idx); (· wtm_at "own"); (· wtm_at "rp"); (· exact rfl); (· exact rfl); intro _ _)
  | ((with_reducible apply s_lenOC); (· wtm_at "own"))
  | ((with_reducible apply s_lenOSc); (· wtm_at "own"); (· wtm_at "sc"))
  | ((with_reducible apply s_lenOL); (· wtm_at "own"); (· wtm_at "rp"))
  | ((with_reducible apply s_lenO); (· wtm_at "own"); (· wtm_at "rp"); (· first | rfl | assumption))
  | ((with_reducible apply s_lenOI); (· wtm_at "own"); (· wtm_at "rp"); (· rfl); (· (simp only [List.map_cons, List.map_nil, PArg.pick, List.append_nil, List.cons_append, List.nil_append, List.getD_cons_zero, List.getD_cons_succ]; exact rfl)))
  | ((with_reducible apply s_boolOI); (· wtm_at "own"); (· wtm_at "rp"); (· rfl); (· rfl); (· (simp only [List.map_cons, List.map_nil, PArg.pick, List.append_nil, List.cons_append, List.nil_append, List.getD_cons_zero, List.getD_cons_succ]; exact rfl)))
  | ((with_reducible apply s_strOI); (· wtm_at "own"); (· wtm_at "rp"); (· rfl); (· (simp only [List.map_cons, List.map_nil, PArg.pick, List.append_nil, List.cons_append, List.nil_append, List.getD_cons_zero, List.getD_cons_succ]; exact rfl)))
  | ((with_reducible apply s_rpOI); (· wtm_at "own"); (· wtm_at "rp"); (· rfl); (· (simp only [List.map_cons, List.map_nil, PArg.pick, List.append_nil, List.cons_append, List.nil_append, List.getD_cons_zero, List.getD_cons_succ]; exact rfl)))
  | ((with_reducible apply s_rpOC); (· wtm_at "own"); (· rfl); (· (simp only [List.map_cons, List.map_nil, PArg.pick, List.append_nil, List.cons_append, List.nil_append, List.getD_cons_zero, List.getD_cons_succ]; exact rfl)))
  | ((with_reducible apply s_boolOIC); (· wtm_at "own"); (· rfl); (· rfl); (· (simp only [List.map_cons, List.map_nil, PArg.pick, List.append_nil, List.cons_append, List.nil_append, List.getD_cons_zero, List.getD_cons_succ]; exact rfl)))
  | ((with_reducible apply js_at); (· (first | decide | assumption)))
  | ((with_reducible apply s_strOC); (· wtm_at "own"); (· rfl); (· (simp only [List.map_cons, List.map_nil, PArg.pick, List.append_nil, List.cons_append, List.nil_append, List.getD_cons_zero, List.getD_cons_succ]; exact rfl)))
  | ((with_reducible apply s_lenOIC); (· wtm_at "own"); (· rfl); (· (simp only [List.map_cons, List.map_nil, PArg.pick, List.append_nil, List.cons_append, List.nil_append, List.getD_cons_zero, List.getD_cons_succ]; exact rfl)))
  | ((with_reducible apply s_strOn); (· wtm_at "ar"); (· wtm_at "ar"))
  | ((with_reducible apply s_lstC (xs := [])); (· wtm_at "own"); (· decide); intro _ _ _)
  | ((with_reducible apply s_slcQ); (· wtm_at "own"); (· wtm_at "rp"); (· assumption); intro _ _ _ _ _ _ _ _)
  | ((with_reducible apply s_all); (· wtm_at "own"); (· wtm_at "rp"))
  | ((with_reducible apply s_any); (· wtm_at "own"); (· wtm_at "rp"))
  | ((with_reducible apply s_slcI); (· wtm_at "own"); (· wtm_at "rp"); intro _ _ _ _ _ _)
  | ((with_reducible apply s_addI); (· wtm_at "own"); (· wtm_at "rp"); (· wtm_at "rp"); (· wtm_at "ar"); intro _ _ _ _ _ _)
  | ((with_reducible apply s_eqI); (· wtm_at "own"); (· wtm_at "rp"); (· wtm_at "rp"))
  | ((with_reducible apply s_neI); (· wtm_at "own"); (· wtm_at "rp"); (· wtm_at "rp"))
  | ((with_reducible apply s_rev); (· wtm_at "own"); intro _ _)
  | ((with_reducible apply s_list); (· wtm_at "own"); (· wtm_at "rp"); (· first | rfl | assumption); intro _ _ _ _ _ _)
  | ((with_reducible apply s_tuple); (· wtm_at "own"); (· wtm_at "rp"); (· first | rfl | assumption); intro _ _)
  | ((with_reducible apply s_app); (· wtm_at "own"); (· wtm_at "ar"); intro _ _)
  | ((with_reducible apply s_clear); (· wtm_at "own"); intro _ _)
  | ((with_reducible apply br_isT); (· exact rfl))
  | ((with_reducible apply br_isF); (· exact rfl))
  | ((with_reducible apply bo_isT); (· exact rfl))
  | ((with_reducible apply bo_isF); (· exact rfl))
  | ((with_reducible apply br_pos); (· wtm_at "ar"))
  | ((with_reducible apply br_npos); (· wtm_at "ar"))
  | ((with_reducible apply br_neg); (· wtm_at "ar"))
  | ((with_reducible apply br_nneg); (· wtm_at "ar"))
  | ((with_reducible apply bo_pos); (· wtm_at "ar"))
  | ((with_reducible apply bo_neg); (· wtm_at "ar")))
local macro_rules | `(tactic| wtm_at "v1") => `(tactic| first
  | wtm_at "u1"
  | ((with_reducible apply s_lstFI); (· wtm_at "own"); (· rfl); (· simp); intro _ _ _ _ _ _)
  | ((with_reducible apply s_lstF); (· wtm_at "own"); (· wtm_at "rpA"); (· simp); intro _ _ _ _ _ _)
  | ((with_reducible apply s_rvL); (· wtm_at "own"); (· wtm_at "rp"); intro _ _ _ _ _ _)
  | ((with_reducible apply s_rep); (· wtm_at "own"); (· wtm_at "rp"); (· wtm_at "ar"); (· wtm_at "ar"); (· wtm_at "ar"); intro _ _ _ _ _ _))
local macro_rules | `(tactic| wtm_at "u") => `(tactic| repeat (wtm_at "u1"))
local macro_rules | `(tactic| wtm_at "v") => `(tactic| repeat (wtm_at "v1"))
/-! ### slips: what is a part, what is a slip -/
def T.noObj : T → Bool
  | .obj _ _ _ => false
  | _ => true
def T.isNum : T → Bool
  | .int _ => true
  | _ => false
def T.isByt : T → Bool
  | .int n => decide (0 ≤ n) && decide (n ≤ 255)
  | _ => false
def T.isCod (t : T) : Bool := match t.seq? with
  | some ts => ts.all T.isByt
  | none => false
def T.isMsk : T → Bool
  | .tup ts => decide (ts.length = 4) && ts.all T.isByt
  | _ => false
def T.isMsN (t : T) : Bool := match t with
  | .non => true
  | t => (match t.seq? with
    | some ts => T.isMsk (.tup ts)
    | none => false)
theorem isNum_ok {k : Nat} {t : T} {x : W} {S R : Store} {cs : Cells} {Q : WP} {E : XP} (o : Own S R cs) (h : Rp R t x) (hk : t.noObj = true) (q : Q (.bl t.isNum) S) : cl bs (k + 1) 0 [x] S Q E := by
  refine cl_in (F := ⟨1, 1, b0⟩) rfl rfl ?_
  show b0 (semN bs k) (endW Q E) [some x] S
  unfold b0
  cases t <;> first | (cases hk; done) | (wtm_at "v"; exact q)
theorem isByt_ok {k : Nat} {t : T} {x : W} {S R : Store} {cs : Cells} {Q : WP} {E : XP} (o : Own S R cs) (h : Rp R t x) (hk : t.noObj = true) (q : Q (.bl t.isByt) S) : cl bs (k + 2) 1 [x] S Q E := by
  refine cl_in (F := ⟨1, 1, b1⟩) rfl rfl ?_
  show b1 (semN bs (k + 1)) (endW Q E) [some x] S
  unfold b1
  wtm_at "v"
  refine isNum_ok o h hk ?_
  cases t with
  | int n =>
    rw [h.int]
    simp only [T.isNum, T.isByt] at q ⊢
    wtm_at "v"
    refine bo_dec (fun e => ?_) (fun e => ?_)
    · rw [decide_eq_true e, Bool.true_and] at q
      wtm_at "v"
      exact q
    · rw [decide_eq_false e, Bool.false_and] at q
      exact q
  | obj c ks ts => cases hk
  | _ => simp only [T.isNum, T.isByt] at q ⊢; wtm_at "v"; exact q
theorem all_byt {ts : List T} : ((ts.map fun t => T.isByt t)).all id = ts.all T.isByt := by
  induction ts with
  | nil => rfl
  | cons t ts ih => simp only [List.map_cons, List.all_cons, id, ih]
/-- [is_byte(one) for one in thing] -/
theorem byt_row {k : Nat} {t : T} {ts : List T} {x : W} {S R : Store} {cs : Cells} {P : WP} (o : Own S R cs) (h : Rp R t x) (e : t.seq? = some ts) (hl : ts.length ≤ 900000 ∧ ∀ u ∈ ts, u.noObj = true)
    (q : ∀ p S', Own S' R cs → (∃ R', Own S' R' cs ∧ Ext R R' ∧ Rp R' (.lst ((ts.map fun t => T.isByt t).map .bl)) (.ref p)) → P (.ref p) S') : siW x S (fun items still S1 => lcW (.nm 1) yesT (callN (semN bs (k + 2)) 1 [.ix 0] 1 0 (consA (varS 1) nilA) nilA) [some x, none] still P items S1) := by
  refine s_si o h e fun ws g hst => ?_
  refine lc_by o (fun i ds cs' => ds = (ts.take i).map (fun t => .bl (T.isByt t)) ∧ cs' = cs ∧ i ≤ 1000000) ⟨by simp, rfl, by decide⟩ (fun i ds _ h => by rw [h.1, List.length_map, List.length_take]; omega) hst (fun i w D S' R' ds ws' cs' N e p o' x' r k1 k2 => ?_) fun ds cs' D S' R' p o' x' r => ?_
  · obtain ⟨rfl, rfl, hi⟩ := p
    obtain ⟨t, f1, r1⟩ := g.of e
    have hlt := (List.getElem?_eq_some_iff.mp f1).1
    wtm_at "v"
    refine isByt_ok o' (r1.mono x') (hl.2 _ (List.mem_of_getElem? f1)) ?_
    refine k1 S' _ _ _ (.bl (T.isByt t)) ⟨?_, rfl, by omega⟩ o' .refl rp_bl
    rw [List.take_add_one, f1, List.map_append]
    rfl
  · obtain ⟨rfl, rfl, _⟩ := p
    rw [List.take_of_length_le (by rw [g.length]; exact Nat.le_refl _)] at r
    refine q D S' (o'.wk x') ⟨R', o', x', ?_⟩
    rw [List.map_map]
    exact r
theorem isCod_ok {k : Nat} {t : T} {x : W} {S R : Store} {cs : Cells} {Q : WP} {E : XP} (o : Own S R cs) (h : Rp R t x) (hk : t.noObj = true) (hl : ∀ ts, t.seq? = some ts → ts.length ≤ 900000 ∧ ∀ u ∈ ts, u.noObj = true) (q : ∀ S', Own S' R cs → Q (.bl t.isCod) S') : cl bs (k + 3) 2 [x] S Q E := by
  refine cl_in (F := ⟨1, 2, b2⟩) rfl rfl ?_
  show b2 (semN bs (k + 2)) (endW Q E) [some x, none] S
  unfold b2
  have key : ∀ {ts : List T}, t.seq? = some ts → siW x S (fun items still S1 => lcW (.nm 1) yesT (callN (semN bs (k + 2)) 1 [.ix 0] 1 0 (consA (varS 1) nilA) nilA) [some x, none] still (fun w S1 => biW kt .all [w] S1 Q) items S1) := fun {ts} e => by
    refine byt_row o h e (hl ts e) fun p S' o' ⟨R', o2, x2, r⟩ => ?_
    wtm_at "v"
    rw [all_byt]
    have := q S' o'
    unfold T.isCod at this
    rw [e] at this
    exact this
  cases t with
  | tup ts => wtm_at "v"; exact key rfl
  | lst ts => wtm_at "v"; exact key rfl
  | obj c ks ts => cases hk
  | _ => wtm_at "v"; exact q _ o
theorem isMsk_ok {k : Nat} {t : T} {x : W} {S R : Store} {cs : Cells} {Q : WP} {E : XP} (o : Own S R cs) (h : Rp R t x) (hk : t.noObj = true) (hl : ∀ ts, t.seq? = some ts → ∀ u ∈ ts, u.noObj = true) (q : ∀ S', Own S' R cs → Q (.bl t.isMsk) S') : cl bs (k + 3) 22 [x] S Q E := by
  refine cl_in (F := ⟨1, 2, b22⟩) rfl rfl ?_
  show b22 (semN bs (k + 2)) (endW Q E) [some x, none] S
  unfold b22
  cases t with
  | tup ts =>
    wtm_at "v"
    refine bo_dec (p := ((ts.length : Int) = 4)) (fun e => ?_) (fun e => ?_)
    · wtm_at "v"
      refine byt_row o h rfl ⟨by omega, hl ts rfl⟩ fun p S' o' ⟨R', o2, x2, r⟩ => ?_
      wtm_at "v"
      rw [all_byt]
      have := q S' o'
      simp only [T.isMsk] at this
      rw [decide_eq_true (p := ts.length = 4) (by omega), Bool.true_and] at this
      exact this
    · have := q S o
      simp only [T.isMsk] at this
      rw [decide_eq_false (p := ts.length = 4) (by omega), Bool.false_and] at this
      exact this
  | obj c ks ts => cases hk
  | _ => wtm_at "v"; exact q _ o
theorem isMsN_ok {k : Nat} {t : T} {x : W} {S R : Store} {cs : Cells} {Q : WP} {E : XP} (o : Own S R cs) (h : Rp R t x) (hk : t.noObj = true) (hl : ∀ ts, t.seq? = some ts → ∀ u ∈ ts, u.noObj = true) (q : ∀ S', Own S' R cs → Q (.bl t.isMsN) S') : cl bs (k + 4) 26 [x] S Q E := by
  refine cl_in (F := ⟨1, 1, b26⟩) rfl rfl ?_
  show b26 (semN bs (k + 3)) (endW Q E) [some x] S
  unfold b26
  cases t with
  | non => rw [h.non]; wtm_at "v"; exact q _ o
  | tup ts =>
    obtain ⟨ws, rfl, g⟩ := h.tup
    wtm_at "v"
    rename_i v d
    exact isMsk_ok o d rfl (fun us e => by cases e; exact hl _ rfl) fun S' o' => q S' o'
  | lst ts =>
    obtain ⟨a, _, rfl, _⟩ := h.lst
    wtm_at "v"
    rename_i v d
    exact isMsk_ok o d rfl (fun us e => by cases e; exact hl _ rfl) fun S' o' => q S' o'
  | bl b => rw [h.bl]; wtm_at "v"; exact q _ o
  | int b => rw [h.int]; wtm_at "v"; exact q _ o
  | str b => rw [h.str]; wtm_at "v"; exact q _ o
  | obj c ks ts => cases hk
def T.sortB : T → Bool
  | .int n => decide (n = 0 ∨ n = 1 ∨ n = 2 ∨ n = 8 ∨ n = 9 ∨ n = 10)
  | _ => false
def T.talkB : T → Bool
  | .int n => decide (0 ≤ n) && decide (n ≤ 31)
  | _ => false
def T.ctlB : T → Bool
  | .int n => decide (8 ≤ n)
  | _ => false
def T.dataB (a c : T) : Bool := match c.seq? with
  | some ts => ts.all T.isByt && !(a.ctlB && decide (120 < ts.length))
  | none => false
def T.lastB (a d : T) : Bool := match d with
  | .bl b => !(a.ctlB && !b)
  | _ => false
/-- the first of a slip's five parts that isn't so -/
def wrongW (a b c d e : T) : W := if a.sortB = false then .str "kind" else if b.talkB = false then .str "talk" else if T.dataB a c = false then .str "data" else if T.lastB a d = false then .str "last" else if e.isMsN = true then .non else .str "mask"
theorem sorts_any {n : Int} : ([W.int 0, .int 1, .int 2, .int 8, .int 9, .int 10].any fun w => eqF w (.int n)) = decide (n = 0 ∨ n = 1 ∨ n = 2 ∨ n = 8 ∨ n = 9 ∨ n = 10) := by
  have h : ∀ m : Int, (m == n) = decide (n = m) := fun m => by
    by_cases z : m = n
    · simp [z]
    · have : ¬ n = m := fun y => z y.symm
      simp [z, this]
  simp only [List.any_cons, List.any_nil, eqF, h, Bool.or_false]
  simp only [Bool.decide_or]
theorem ctl_ok {k : Nat} {n : Int} {S R : Store} {cs : Cells} {Q : WP} {E : XP} (o : Own S R cs) (q : Q (.bl (decide (8 ≤ n))) S) : cl bs (k + 1) 25 [.int n] S Q E := by
  refine cl_in (F := ⟨1, 1, b25⟩) rfl rfl ?_
  show b25 (semN bs k) (endW Q E) [some (.int n)] S
  unfold b25
  wtm_at "v"
  exact q
theorem wrong_ok {k : Nat} {a b c d e : T} {x1 x2 x3 x4 x5 : W} {S R : Store} {cs : Cells} {Q : WP} {E : XP} (o : Own S R cs) (h1 : Rp R a x1) (h2 : Rp R b x2) (h3 : Rp R c x3) (h4 : Rp R d x4) (h5 : Rp R e x5)
    (n1 : a.noObj = true) (n2 : b.noObj = true) (n3 : c.noObj = true) (n4 : d.noObj = true) (n5 : e.noObj = true) (m3 : ∀ ts, c.seq? = some ts → ts.length ≤ 900000 ∧ ∀ u ∈ ts, u.noObj = true) (m5 : ∀ ts, e.seq? = some ts → ∀ u ∈ ts, u.noObj = true)
    (q : ∀ S', Own S' R cs → Q (wrongW a b c d e) S') : cl bs (k + 5) 27 [x1, x2, x3, x4, x5] S Q E := by
  refine cl_in (F := ⟨5, 5, b27⟩) rfl rfl ?_
  show b27 (semN bs (k + 4)) (endW Q E) [some x1, some x2, some x3, some x4, some x5] S
  unfold b27
  unfold wrongW at q
  wtm_at "v"
  refine isNum_ok o h1 n1 ?_
  wtm_at "v"
  cases a with
  | int s =>
    obtain rfl := h1.int
    simp only [T.isNum]
    wtm_at "v"
    refine v_ninT rfl rfl ?_
    rw [sorts_any]
    wtm_at "v"
    refine br_ite (b := !(T.int s).sortB) (fun e1 => ?_) (fun e1 => ?_)
    · wtm_at "v"
      rw [if_pos (Bool.not_eq_true' _ |>.mp e1)] at q
      exact q _ o
    rw [if_neg (by rw [Bool.not_eq_false' _ |>.mp e1]; decide)] at q
    wtm_at "v"
    refine isNum_ok o h2 n2 ?_
    cases b with
    | int l =>
      obtain rfl := h2.int
      simp only [T.isNum]
      wtm_at "v"
      refine bo_dec (fun e2 => ?_) (fun e2 => ?_)
      · wtm_at "v"
        refine br_ndec (fun e3 => ?_) (fun e3 => ?_)
        · wtm_at "v"
          have : (T.int l).talkB = false := by show (decide (0 ≤ l) && decide (l ≤ 31)) = false; rw [decide_eq_false e3, Bool.and_false]
          rw [if_pos this] at q
          exact q _ o
        have : (T.int l).talkB = true := by show (decide (0 ≤ l) && decide (l ≤ 31)) = true; rw [decide_eq_true e3, decide_eq_true e2]; rfl
        rw [if_neg (by rw [this]; decide)] at q
        wtm_at "v"
        refine isCod_ok o h3 n3 m3 fun S1 o1 => ?_
        cases ec : c.seq? with
        | none =>
          have hd : T.dataB (.int s) c = false := by unfold T.dataB; rw [ec]
          have hi : c.isCod = false := by unfold T.isCod; rw [ec]
          rw [if_pos hd] at q
          rw [hi]
          wtm_at "v"
          exact q _ o1
        | some ts =>
          have hi : c.isCod = ts.all T.isByt := by unfold T.isCod; rw [ec]
          have hd : T.dataB (.int s) c = (ts.all T.isByt && !(decide (8 ≤ s) && decide (120 < ts.length))) := by unfold T.dataB; rw [ec]; rfl
          rw [hi]
          rw [hd] at q
          wtm_at "v"
          refine br_ite (b := !ts.all T.isByt) (fun e4 => ?_) (fun e4 => ?_)
          · wtm_at "v"
            rw [Bool.not_eq_true' _ |>.mp e4, Bool.false_and, if_pos rfl] at q
            exact q _ o1
          rw [Bool.not_eq_false' _ |>.mp e4, Bool.true_and] at q
          wtm_at "v"
          refine ctl_ok o1 ?_
          wtm_at "v"
          have tail : (∀ S', Own S' R cs → Q (if T.lastB (.int s) d = false then .str "last" else if e.isMsN = true then .non else .str "mask") S') → ∀ {S1}, Own S1 R cs → (seqS (ifS' (orT (notT (truS (biS (biW kt .isinstance) (consA (varS 3) (consA (cstS (.ty "bool")) nilA))))) (andT (truS (callN (semN bs (k + 4)) 25 [.ix 0] 1 0 (consA (varS 0) nilA) nilA)) (notT (truS (varS 3)))))
            (retS (cstS (.str "last")))
            nextS)
            (retS (ifS (truS (callN (semN bs (k + 4)) 26 [.ix 0] 1 0 (consA (varS 4) nilA) nilA)) (cstS .non) (cstS (.str "mask"))))) (endW Q E) [some (.int s), some (.int l), some x3, some x4, some x5] S1 := fun q S1 o1 => by
            have last : ∀ {S1}, Own S1 R cs → T.lastB (.int s) d = true → cl bs (k + 4) 26 [x5] S1 (fun x S1 => truW S1 x fun b => brW b (Q .non S1) (Q (.str "mask") S1)) E := fun {S1} o1 hl => by
              rw [if_neg (by rw [hl]; decide)] at q
              refine isMsN_ok o1 h5 n5 m5 fun S2 o2 => ?_
              wtm_at "v"
              refine br_ite (fun e6 => ?_) (fun e6 => ?_)
              · rw [if_pos e6] at q
                exact q _ o2
              · rw [if_neg (by rw [e6]; decide)] at q
                exact q _ o2
            wtm_at "v"
            cases d with
            | bl b =>
              obtain rfl := h4.bl
              wtm_at "v"
              refine ctl_ok o1 ?_
              wtm_at "v"
              refine br_dec (fun e5 => ?_) (fun e5 => ?_)
              · wtm_at "v"
                have hl : T.lastB (.int s) (.bl b) = b := by show (!(decide (8 ≤ s) && !b)) = b; rw [decide_eq_true e5]; cases b <;> rfl
                cases b with
                | true =>
                  wtm_at "v"
                  exact last o1 hl
                | false =>
                  wtm_at "v"
                  rw [if_pos hl] at q
                  exact q _ o1
              · wtm_at "v"
                exact last o1 (by show (!(decide (8 ≤ s) && !b)) = true; rw [decide_eq_false e5]; rfl)
            | obj c ks ts => cases n4
            | _ => wtm_at "v"; exact q _ o1
          refine br_dec (fun e5 => ?_) (fun e5 => ?_)
          · rw [decide_eq_true e5, Bool.true_and] at q
            wtm_at "v"
            refine br_dec (fun e6 => ?_) (fun e6 => ?_)
            · wtm_at "v"
              rw [decide_eq_true (p := 120 < ts.length) (by omega)] at q
              exact q _ o1
            · wtm_at "v"
              rw [decide_eq_false (p := 120 < ts.length) (by omega)] at q
              exact tail q o1
          · rw [decide_eq_false e5, Bool.false_and] at q
            wtm_at "v"
            exact tail q o1
      · wtm_at "v"
        have : (T.int l).talkB = false := by show (decide (0 ≤ l) && decide (l ≤ 31)) = false; rw [decide_eq_false e2, Bool.false_and]
        rw [if_pos this] at q
        exact q _ o
    | obj c ks ts => cases n2
    | _ => simp only [T.isNum]; wtm_at "v"; exact q _ o
  | obj c ks ts => cases n1
  | _ => simp only [T.isNum]; wtm_at "v"; exact q _ o
/-! ### slips: made -/
def mskT : Option (List Int) → T
  | none => .non
  | some m => it m
structure SlipOk (s l : Int) (xs : List Int) (b : Bool) (m : Option (List Int)) : Prop where
  kind : s = 0 ∨ s = 1 ∨ s = 2 ∨ s = 8 ∨ s = 9 ∨ s = 10
  talk : 0 ≤ l ∧ l ≤ 31
  data : Byt xs
  len : xs.length ≤ 800000
  ctl : 8 ≤ s → b = true ∧ xs.length ≤ 120
  mask : ∀ ns, m = some ns → Byt ns ∧ ns.length = 4
abbrev slipKs : List Str := ["kind", "talk", "data", "last", "mask"]
/-- an instance of Slip -/
abbrev slipT (s l : Int) (xs : List Int) (b : Bool) (m : Option (List Int)) : T := .obj 5 slipKs [.int s, .int l, it xs, .bl b, mskT m]
/-- what may be handed in as a mask -/
inductive MskIn : Option (List Int) → T → Prop where
  | non : MskIn none .non
  | lst (m : List Int) : MskIn (some m) (il m)
  | tup (m : List Int) : MskIn (some m) (it m)
theorem byt_all {xs : List Int} (h : Byt xs) : (xs.map T.int).all T.isByt = true := by
  rw [List.all_eq_true]
  intro t ht
  obtain ⟨x, hx, rfl⟩ := List.mem_map.mp ht
  have := h x hx
  show (decide (0 ≤ x) && decide (x ≤ 255)) = true
  rw [decide_eq_true (by omega), decide_eq_true (by omega)]
  rfl
theorem noObj_ints {xs : List Int} : ∀ u ∈ xs.map T.int, u.noObj = true := by
  intro t ht
  obtain ⟨x, hx, rfl⟩ := List.mem_map.mp ht
  rfl
theorem MskIn.no {m : Option (List Int)} {t : T} (h : MskIn m t) : t.noObj = true := by cases h <;> rfl
theorem MskIn.items {m : Option (List Int)} {t : T} (h : MskIn m t) : ∀ ts, t.seq? = some ts → ∀ u ∈ ts, u.noObj = true := by
  intro ts e
  cases h <;> (cases e; try exact noObj_ints)
theorem seq_no {c : T} {ts : List T} (e : c.seq? = some ts) : c.noObj = true := by cases c <;> first | rfl | cases e
theorem wrong_none {s l : Int} {xs : List Int} {b : Bool} {m : Option (List Int)} {c t : T} (h : SlipOk s l xs b m) (hc : c.seq? = some (xs.map .int)) (hm : MskIn m t) : wrongW (.int s) (.int l) c (.bl b) t = .non := by
  have e1 : (T.int s).sortB = true := decide_eq_true h.kind
  have e2 : (T.int l).talkB = true := by show (decide (0 ≤ l) && decide (l ≤ 31)) = true; rw [decide_eq_true h.talk.1, decide_eq_true h.talk.2]; rfl
  have e3 : T.dataB (.int s) c = true := by
    unfold T.dataB
    rw [hc]
    show ((xs.map T.int).all T.isByt && !(decide (8 ≤ s) && decide (120 < (xs.map T.int).length))) = true
    rw [byt_all h.data, List.length_map]
    by_cases z : 8 ≤ s
    · have := (h.ctl z).2
      rw [decide_eq_false (p := 120 < xs.length) (by omega), Bool.and_false]; rfl
    · rw [decide_eq_false z]; rfl
  have e4 : T.lastB (.int s) (.bl b) = true := by
    show (!(decide (8 ≤ s) && !b)) = true
    by_cases z : 8 ≤ s
    · rw [(h.ctl z).1, Bool.not_true, Bool.and_false]; rfl
    · rw [decide_eq_false z]; rfl
  have e5 : t.isMsN = true := by
    cases hm with
    | non => rfl
    | lst ns =>
      show (decide ((ns.map T.int).length = 4) && (ns.map T.int).all T.isByt) = true
      rw [byt_all (h.mask ns rfl).1, List.length_map, decide_eq_true (h.mask ns rfl).2]; rfl
    | tup ns =>
      show (decide ((ns.map T.int).length = 4) && (ns.map T.int).all T.isByt) = true
      rw [byt_all (h.mask ns rfl).1, List.length_map, decide_eq_true (h.mask ns rfl).2]; rfl
  unfold wrongW
  rw [if_neg (by rw [e1]; decide), if_neg (by rw [e2]; decide), if_neg (by rw [e3]; decide), if_neg (by rw [e4]; decide), if_pos e5]
theorem init_ok {k : Nat} {a : Addr} {s l : Int} {xs : List Int} {b : Bool} {m : Option (List Int)} {c t : T} {x3 x5 : W} {S R : Store} {cs : Cells} {Q : WP} {E : XP} (o : Own S R ((a, .ins 5 []) :: cs)) (h : SlipOk s l xs b m) (h3 : Rp R c x3) (hc : c.seq? = some (xs.map .int)) (h5 : Rp R t x5) (hm : MskIn m t)
    (q : ∀ S' R', Own S' R' cs → Ext R R' → Rp R' (slipT s l xs b m) (.ref a) → Q .non S') : cl bs (k + 6) 28 [.ref a, .int s, .int l, x3, .bl b, x5] S Q E := by
  refine cl_in (F := ⟨6, 7, b28⟩) rfl rfl ?_
  show b28 (semN bs (k + 5)) (endW Q E) [some (.ref a), some (.int s), some (.int l), some x3, some (.bl b), some x5, none] S
  unfold b28
  have hl := h.len
  wtm_at "v"
  refine wrong_ok o rp_int rp_int h3 rp_bl h5 rfl rfl (seq_no hc) rfl hm.no (fun ts e => by rw [hc] at e; cases e; exact ⟨by rw [List.length_map]; omega, noObj_ints⟩) hm.items fun S1 o1 => ?_
  rw [wrong_none h hc hm]
  wtm_at "v"
  rename_i S2 o2 S3 o3 v d S4 o4 S5 o5
  have fin : ∀ {S6} {w : W}, Own S6 R ((a, .ins 5 (slipKs.zip [.int s, .int l, v, .bl b, w])) :: cs) → Rp R (mskT m) w → Q .non S6 := fun {S6 w} o6 dw => by
    obtain ⟨R', o7, x7, d7⟩ := o6.frzO (ts := [.int s, .int l, it xs, .bl b, mskT m]) rfl (rpA_cons rp_int (rpA_cons rp_int (rpA_cons d (rpA_cons rp_bl (rpA_cons dw rpA_nil)))))
    exact q S6 R' o7 x7 d7
  cases hm with
  | non =>
    obtain rfl := h5.non
    wtm_at "v"
    rename_i S6 o6
    exact fin o6 rp_non
  | lst ns =>
    obtain ⟨p, _, rfl, _⟩ := h5.lst
    wtm_at "v"
    rename_i w dw S6 o6
    exact fin o6 dw
  | tup ns =>
    obtain ⟨ws, rfl, _⟩ := h5.tup
    wtm_at "v"
    rename_i w dw S6 o6
    exact fin o6 dw
/-! ### things whose text is told: small numbers, short texts, none too deep -/
mutual
def T.g : T → Bool
  | .non => true
  | .bl _ => true
  | .int i => decide (-(2 ^ 110) < i) && decide (i < 2 ^ 110)
  | .str x => x.cps.toList.all fun c => decide (c < 16 ^ 8)
  | .tup ts => T.gA ts
  | .lst ts => T.gA ts
  | .obj _ _ _ => false
def T.gA : List T → Bool
  | [] => true
  | t :: ts => T.g t && T.gA ts
end
mutual
def T.w : T → Nat
  | .int i => PyData.weight (.int i)
  | .str x => x.cps.size
  | .tup ts => T.wA ts
  | .lst ts => T.wA ts
  | _ => 0
def T.wA : List T → Nat
  | [] => 0
  | t :: ts => T.w t + 1 + T.wA ts
end
theorem int_w {i : Int} (h : -(2 ^ 110) < i ∧ i < 2 ^ 110) : PyData.weight (.int i) ≤ 111 ∧ i.natAbs.log2 < 1920 ∧ (PyData.shown (.int i)).length ≤ 40 := by
  have h2 : i.natAbs.log2 < 110 ∨ i.natAbs = 0 := by
    by_cases z : i.natAbs = 0
    · exact .inr z
    · exact .inl ((Nat.log2_lt z).mpr (by omega))
  refine ⟨?_, ?_, ?_⟩
  · simp only [PyData.weight]
    split
    · omega
    · rename_i n
      rcases h2 with z | z
      · omega
      · exact absurd (by simp; omega) n
  · rcases h2 with z | z
    · exact Nat.lt_trans z (by decide)
    · rw [z]; decide
  · have e := int_text_length_le10 (a := i) (k := 35) (by decide) (by omega)
    show (Str.ofString (toString i)).length ≤ 40
    rw [PySem.ofString_length]
    omega
def Sh (k m : Nat) (t : T) : Prop := t.g = true ∧ t.ok k = true ∧ t.w ≤ m
def ShA (k m : Nat) (ts : List T) : Prop := T.gA ts = true ∧ T.okA ts k = true ∧ T.wA ts ≤ m
mutual
theorem T.ok_mono : ∀ {t : T} {n m : Nat}, t.ok n = true → n ≤ m → t.ok m = true
  | .non, _, _, _, _ => by simp only [T.ok]
  | .bl _, _, _, _, _ => by simp only [T.ok]
  | .int _, _, _, _, _ => by simp only [T.ok]
  | .str x, n, m, h, _ => by simp only [T.ok] at h ⊢; exact h
  | .tup ts, n, m, h, l => by
    cases n with
    | zero => simp [T.ok] at h
    | succ n => cases m with
      | zero => omega
      | succ m =>
        simp only [T.ok] at h ⊢
        exact T.okA_mono h (by omega)
  | .lst ts, n, m, h, l => by
    cases n with
    | zero => simp [T.ok] at h
    | succ n => cases m with
      | zero => omega
      | succ m =>
        simp only [T.ok] at h ⊢
        exact T.okA_mono h (by omega)
  | .obj _ _ _, n, m, h, _ => by simp [T.ok] at h
theorem T.okA_mono : ∀ {ts : List T} {n m : Nat}, T.okA ts n = true → n ≤ m → T.okA ts m = true
  | [], _, _, _, _ => by simp only [T.okA]
  | t :: ts, n, m, h, l => by
    simp only [T.okA, Bool.and_eq_true] at h ⊢
    exact ⟨T.ok_mono h.1 l, T.okA_mono h.2 l⟩
end
theorem Sh.mono {k m k' m' : Nat} {t : T} (h : Sh k m t) (a : k ≤ k') (b : m ≤ m') : Sh k' m' t := ⟨h.1, T.ok_mono h.2.1 a, Nat.le_trans h.2.2 b⟩
theorem ShA.mono {k m k' m' : Nat} {ts : List T} (h : ShA k m ts) (a : k ≤ k') (b : m ≤ m') : ShA k' m' ts := ⟨h.1, T.okA_mono h.2.1 a, Nat.le_trans h.2.2 b⟩
theorem Sh.lst {k m : Nat} {ts : List T} : Sh (k + 1) m (.lst ts) ↔ ShA k m ts := by simp only [Sh, ShA, T.g, T.ok, T.w]
theorem Sh.tup {k m : Nat} {ts : List T} : Sh (k + 1) m (.tup ts) ↔ ShA k m ts := by simp only [Sh, ShA, T.g, T.ok, T.w]
theorem ShA.nil {k m : Nat} : ShA k m [] := by simp [ShA, T.gA, T.okA, T.wA]
theorem ShA.cons {k m n : Nat} {t : T} {ts : List T} (h : Sh k m t) (g : ShA k n ts) : ShA k (m + 1 + n) (t :: ts) := by
  obtain ⟨a, b, c⟩ := h
  obtain ⟨d, e, f⟩ := g
  refine ⟨by simp only [T.gA, a, d, Bool.and_self], by simp only [T.okA, b, e, Bool.and_self], by simp only [T.wA]; omega⟩
theorem ShA.app {k m n : Nat} : ∀ {ts us : List T}, ShA k m ts → ShA k n us → ShA k (m + n) (ts ++ us)
  | [], us, h, g => g.mono (Nat.le_refl _) (by omega)
  | t :: ts, us, h, g => by
    obtain ⟨a, b, c⟩ := h
    simp only [T.gA, T.okA, T.wA, Bool.and_eq_true] at a b c
    have hh : ShA k (T.wA ts) ts := ⟨a.2, b.2, Nat.le_refl _⟩
    obtain ⟨d, e, f⟩ := ShA.app hh g
    refine ⟨by rw [List.cons_append]; simp only [T.gA, a.1, d, Bool.and_self], by rw [List.cons_append]; simp only [T.okA, b.1, e, Bool.and_self], by rw [List.cons_append]; simp only [T.wA]; omega⟩
theorem ShA.take {k m : Nat} : ∀ {ts : List T} (n : Nat), ShA k m ts → ShA k m (ts.take n)
  | _, 0, _ => by simpa using ShA.nil
  | [], n + 1, _ => by simpa using ShA.nil
  | t :: ts, n + 1, h => by
    obtain ⟨a, b, c⟩ := h
    simp only [T.gA, T.okA, T.wA, Bool.and_eq_true] at a b c
    have hh : ShA k (T.wA ts) ts := ⟨a.2, b.2, Nat.le_refl _⟩
    obtain ⟨d, e, f⟩ := hh.take n
    rw [List.take_succ_cons]
    exact ⟨by simp only [T.gA, a.1, d, Bool.and_self], by simp only [T.okA, b.1, e, Bool.and_self], by simp only [T.wA]; omega⟩
theorem ShA.drop {k m : Nat} : ∀ {ts : List T} (n : Nat), ShA k m ts → ShA k m (ts.drop n)
  | _, 0, h => by simpa using h
  | [], n + 1, _ => by simpa using ShA.nil
  | t :: ts, n + 1, h => by
    obtain ⟨a, b, c⟩ := h
    simp only [T.gA, T.okA, T.wA, Bool.and_eq_true] at a b c
    have hh : ShA k m ts := ⟨a.2, b.2, by omega⟩
    simpa using hh.drop n
theorem ShA.len {k m : Nat} : ∀ {ts : List T}, ShA k m ts → ts.length ≤ m
  | [], _ => by simp
  | t :: ts, h => by
    obtain ⟨a, b, c⟩ := h
    simp only [T.gA, T.okA, T.wA, Bool.and_eq_true] at a b c
    have hh : ShA k (T.wA ts) ts := ⟨a.2, b.2, Nat.le_refl _⟩
    have := hh.len
    rw [List.length_cons]
    omega
theorem ShA.get {k m : Nat} : ∀ {ts : List T} {t : T}, ShA k m ts → t ∈ ts → Sh k m t
  | u :: ts, t, h, e => by
    obtain ⟨a, b, c⟩ := h
    simp only [T.gA, T.okA, T.wA, Bool.and_eq_true] at a b c
    rcases List.mem_cons.mp e with z | z
    · rw [z]; exact ⟨a.1, b.1, by omega⟩
    · exact ShA.get (m := m) ⟨a.2, b.2, by omega⟩ z
theorem ShA.rev {k m : Nat} : ∀ {ts : List T}, ShA k m ts → ShA k m ts.reverse
  | [], _ => by simpa using ShA.nil
  | t :: ts, h => by
    obtain ⟨a, b, c⟩ := h
    simp only [T.gA, T.okA, T.wA, Bool.and_eq_true] at a b c
    have h1 : ShA k (T.wA ts) ts := ⟨a.2, b.2, Nat.le_refl _⟩
    have h2 : ShA k (T.w t + 1 + 0) [t] := .cons ⟨a.1, b.1, Nat.le_refl _⟩ .nil
    rw [List.reverse_cons]
    exact (h1.rev.app h2).mono (Nat.le_refl _) (by omega)
theorem small_w {i : Int} (h : -(2 ^ 10) < i ∧ i < 2 ^ 10) : PyData.weight (.int i) ≤ 10 := by
  have h2 : i.natAbs.log2 < 10 ∨ i.natAbs = 0 := by
    by_cases z : i.natAbs = 0
    · exact .inr z
    · exact .inl ((Nat.log2_lt z).mpr (by omega))
  simp only [PyData.weight]
  split
  · omega
  · rename_i n
    rcases h2 with z | z
    · omega
    · exact absurd (by simp; omega) n
theorem sh_small {k : Nat} {i : Int} (h : -(2 ^ 10) < i ∧ i < 2 ^ 10) : Sh k 10 (.int i) := ⟨by simp only [T.g]; simp; omega, by simp only [T.ok], by simp only [T.w]; exact small_w h⟩
theorem ShA.ints {k : Nat} : ∀ {ns : List Int}, (∀ n ∈ ns, -(2 ^ 10) < n ∧ n < 2 ^ 10) → ShA k (11 * ns.length) (ns.map .int)
  | [], _ => by simpa using ShA.nil
  | n :: ns, h => by
    have h1 := ShA.ints (k := k) (ns := ns) fun z hz => h z (List.mem_cons_of_mem _ hz)
    have h2 : Sh k 10 (.int n) := sh_small (h n (List.mem_cons_self ..))
    rw [List.map_cons]
    exact (ShA.cons h2 h1).mono (Nat.le_refl _) (by rw [List.length_cons]; omega)
theorem Sh.noObj {k m : Nat} {t : T} (h : Sh k m t) : t.noObj = true := by
  obtain ⟨a, b, c⟩ := h
  cases t <;> first | rfl | (simp [T.g] at a)
theorem cell_at {k : Nat} {sv : W} {S R : Store} {cs : Cells} {ns : List Int} {Q : WP} {E : XP} (o : Own S R cs) (h : Script sv R ns) {i : Int} (hi : 0 ≤ i) (q : ∀ v, Q (.int v) S) : cl bs (k + 1) 47 [sv, .int i] S Q E := by
  refine cl_in (F := ⟨2, 2, b47⟩) rfl rfl ?_
  show b47 (semN bs k) (endW Q E) [some sv, some (.int i)] S
  have h' : items? S sv = some (ns.map W.int) := by
    rcases h with rfl | ⟨a, rfl, e⟩
    · rfl
    · simp only [items?, o.r _ _ e]
  unfold b47
  wtm_at "v"
  first
    | refine v_len h' ?_
    | refine v_lenO h' ?_
    | skip
  wtm_at "v"
  refine br_dec (fun e => ?_) (fun e => ?_)
  · wtm_at "v"
    try rw [List.length_map] at e
    have e3 : i.toNat < ns.length := by omega
    refine idx_at h' (atI_nat' hi (v := .int ns[i.toNat]) ?_) (q _)
    rw [List.getElem?_map, List.getElem?_eq_getElem e3]
    rfl
  · wtm_at "v"
    exact q 0
theorem box_ok {k : Nat} {sv : W} {S R : Store} {cs : Cells} {ns : List Int} {Q : WP} {E : XP} (o : Own S R cs) (h : Script sv R ns) {i : Int} (hi : 0 ≤ i ∧ i < 2 ^ 20) (q : ∀ p S' ob, Own S' R ((p, ob) :: cs) → Bx 0 ob → Q (.ref p) S') : cl bs (k + 2) 48 [sv, .int i] S Q E := by
  refine cl_in (F := ⟨2, 3, b48⟩) rfl rfl ?_
  show b48 (semN bs (k + 1)) (endW Q E) [some sv, some (.int i), none] S
  unfold b48
  wtm_at "v"
  refine cell_at o h hi.1 fun v => ?_
  wtm_at "u"
  try (refine v_int ?_; wtm_at "u")
  refine s_lstC o (by simp) fun p S' o' => q p S' _ o' ⟨_, _, _, rfl, ?_, ?_, ?_, by decide, by decide⟩
  · split <;> omega
  · have h1 := Int.emod_nonneg v (b := 2305843009213693951) (by decide)
    omega
  · have h2 := Int.emod_lt_of_pos v (b := 2305843009213693951) (by decide)
    omega
theorem take_ok {k : Nat} {b : Addr} {S R : Store} {cs : Cells} {ob : O} {u n : Int} {Q : WP} {E : XP} (o : Own S R ((b, ob) :: cs)) (hb : Bx u ob) (hu : u < 2 ^ 50) (hn : 0 < n ∧ n < 1073741824)
    (q : ∀ r S' ob', 0 ≤ r → r < n → Own S' R ((b, ob') :: cs) → Bx (u + 1) ob' → Q (.int r) S') : cl bs (k + 1) 49 [.ref b, .int n] S Q E := by
  obtain ⟨a, m, c, rfl, ha, hm, hm2, hc, hc2⟩ := hb
  unfold bx at o
  refine cl_in (F := ⟨2, 5, b49⟩) rfl rfl ?_
  show b49 (semN bs k) (endW Q E) [some (.ref b), some (.int n), none, none, none] S
  unfold b49
  wtm_at "v"
  refine br_dec (fun e => ?_) (fun e => ?_)
  · wtm_at "v"
    refine s_sti (j := 0) o rfl fun S' o' => ?_
    wtm_at "v"
    exact q _ _ _ (Int.emod_nonneg _ (by omega)) (Int.emod_lt_of_pos _ hn.1) o' ⟨_, _, _, rfl, Int.ediv_nonneg ha (by omega), hm, hm2, hc, by omega⟩
  · wtm_at "v"
    refine s_sti (j := 2) o rfl fun S' o' => ?_
    simp only [List.set_cons_succ, List.set_cons_zero] at o'
    wtm_at "v"
    have o1 := Int.emod_nonneg ((m + 48271 * (c + 1)) * (39373 + (c + 1)) % 2147483647) (b := 40009) (by decide)
    have o2 := Int.emod_lt_of_pos ((m + 48271 * (c + 1)) * (39373 + (c + 1)) % 2147483647) (b := 40009) (by decide)
    exact q _ _ _ (Int.emod_nonneg _ (by omega)) (Int.emod_lt_of_pos _ hn.1) o' ⟨_, _, _, rfl, ha, hm, hm2, by omega, by omega⟩
/-! ### signs -/
def begB (x : Int) : Bool := decide (x < 128 ∨ (194 ≤ x ∧ x < 240))
def folB (bg : List Int) (x : Int) : Bool := decide ((if bg = [224] then 160 else 128) ≤ x ∧ x ≤ (if bg = [237] then 159 else 191))
def behN (x : Int) : Int := if x < 128 then 1 else if x < 224 then 2 else 3
def sigFold (a : Int) (r : List Int) : Int := r.foldl (fun f x => f * 64 + x - 128) a
def sigOf : List Int → Int
  | [] => 0
  | x :: r => sigFold (if r.length = 0 then x else x - (if r.length = 1 then 192 else 224)) r
theorem behind_ok {k : Nat} {x : Int} {S : Store} {Q : WP} {E : XP} (q : Q (.int (behN x)) S) : cl bs (k + 1) 8 [.int x] S Q E := by
  refine cl_in (F := ⟨1, 1, b8⟩) rfl rfl ?_
  show b8 (semN bs k) (endW Q E) [some (.int x)] S
  unfold b8
  unfold behN at q
  wtm_at "v"
  refine br_dec (fun e => ?_) (fun e => ?_)
  · rw [if_pos e] at q
    wtm_at "v"
    exact q
  · rw [if_neg e] at q
    wtm_at "v"
    refine br_dec (fun e2 => ?_) (fun e2 => ?_)
    · rw [if_pos e2] at q
      wtm_at "v"
      exact q
    · rw [if_neg e2] at q
      wtm_at "v"
      exact q
theorem begin_ok {k : Nat} {x : Int} {S : Store} {Q : WP} {E : XP} (q : Q (.bl (begB x)) S) : cl bs (k + 1) 9 [.int x] S Q E := by
  refine cl_in (F := ⟨1, 1, b9⟩) rfl rfl ?_
  show b9 (semN bs k) (endW Q E) [some (.int x)] S
  unfold b9
  unfold begB at q
  wtm_at "v"
  refine bo_dec (fun e => ?_) (fun e => ?_)
  · rw [decide_eq_true (by omega)] at q
    wtm_at "v"
    exact q
  · wtm_at "v"
    refine bo_dec (fun e2 => ?_) (fun e2 => ?_)
    · wtm_at "v"
      by_cases e3 : x < 240
      · rw [decide_eq_true e3]
        rw [decide_eq_true (by omega)] at q
        exact q
      · rw [decide_eq_false e3]
        rw [decide_eq_false (by omega)] at q
        exact q
    · wtm_at "v"
      rw [decide_eq_false (by omega)] at q
      exact q
theorem follow_ok {k : Nat} {bg : List Int} {x : W} {y : Int} {S R : Store} {cs : Cells} {Q : WP} {E : XP} (o : Own S R cs) (h : Rp R (il bg) x) (q : ∀ S', Own S' R cs → Q (.bl (folB bg y)) S') : cl bs (k + 1) 10 [x, .int y] S Q E := by
  refine cl_in (F := ⟨2, 4, b10⟩) rfl rfl ?_
  show b10 (semN bs k) (endW Q E) [some x, some (.int y), none, none] S
  unfold b10
  wtm_at "v"
  rename_i p1 S1 R1 o1 x1 d1
  refine br_dec (fun e1 => ?_) (fun e1 => ?_)
  all_goals
    wtm_at "v"
    rename_i p2 S2 R2 o2 x2 d2
    have o3 := (o2.wk x2).wk x1
    refine br_dec (fun e2 => ?_) (fun e2 => ?_)
    all_goals
      wtm_at "v"
      refine bo_dec (fun e => ?_) (fun e => ?_)
      all_goals
        wtm_at "v"
        have := q S2 o3
        unfold folB at this
        have z1 : ([224] : List Int) ≠ [237] := by decide
        have z2 : ([237] : List Int) ≠ [224] := by decide
        first
          | exact absurd (e1.symm.trans e2) z1
          | (simp only [e1, e2, e, z1, z2, if_true, if_false, true_and, false_and, decide_false] at this
             exact this)
theorem sign_of_ok {k : Nat} {a : Int} {r : List Int} {x : W} {S R : Store} {cs : Cells} {Q : WP} {E : XP} (o : Own S R cs) (h : Rp R (il (a :: r)) x) (hl : r.length ≤ 100000) (q : ∀ S', Own S' R cs → Q (.int (sigOf (a :: r))) S') : cl bs (k + 1) 11 [x] S Q E := by
  refine cl_in (F := ⟨1, 5, b11⟩) rfl rfl ?_
  show b11 (semN bs k) (endW Q E) [some x, none, none, none, none] S
  unfold b11
  wtm_at "v"
  refine s_star o h rfl (by simp) fun p S' R' ws o' x' g d => ?_
  obtain rfl := RpA.ints (ns := [a]) g
  replace d : Rp R' (il r) (.ref p) := d
  refine ⟨_, rfl, ?_⟩
  simp only [List.map_cons, List.map_nil, List.set_cons_succ, List.set_cons_zero]
  obtain ⟨f, hf⟩ : ∃ f, f = (if r.length = 0 then a else a - (if r.length = 1 then 192 else 224)) := ⟨_, rfl⟩
  have hq : sigOf (a :: r) = sigFold f r := by rw [hf]; rfl
  rw [hq] at q
  clear hq
  wtm_at "v"
  refine br_dec (fun e1 => ?_) (fun e1 => ?_)
  rotate_left
  wtm_at "v"
  refine br_dec (fun e2 => ?_) (fun e2 => ?_)
  · rw [if_neg (by omega), if_pos (by omega)] at hf
    wtm_at "v"
    refine s_si o' d rfl fun ws g hst => ?_
    refine lp_by (fun i σ S => ∃ w4, σ = [some x, some (.int a), some (.ref p), some (.int (sigFold f (r.take i))), w4] ∧ i ≤ r.length ∧ Own S R' cs) ⟨none, by rw [hf]; rfl, by omega, o'⟩ (fun i w σ S e h => ?_) fun σ S h => ?_
    · obtain ⟨w4, rfl, hi, o⟩ := h
      refine ⟨hst _ _ _ o .refl, ?_⟩
      obtain ⟨t, f1, r1⟩ := g.of e
      rw [List.getElem?_map] at f1
      cases ex : r[i]? with
      | none => rw [ex] at f1; cases f1
      | some y =>
        rw [ex] at f1
        cases f1
        obtain rfl := r1.int
        have hlt := (List.getElem?_eq_some_iff.mp ex).1
        wtm_at "v"
        unfold L11_1
        wtm_at "v"
        have st : sigFold f (r.take (i + 1)) = sigFold f (r.take i) * 64 + y - 128 := by
          unfold sigFold
          rw [List.take_add_one, ex, List.foldl_append]
          rfl
        exact ⟨_, by rw [st], hlt, o⟩
    · obtain ⟨w4, rfl, hi, o⟩ := h
      refine ⟨hst _ _ _ o .refl, ?_⟩
      wtm_at "v"
      rw [List.take_of_length_le (by have := g.length; rw [List.length_map] at this; omega)]
      exact q S (o.wk x')
  · rw [if_neg (by omega), if_neg (by omega)] at hf
    wtm_at "v"
    refine s_si o' d rfl fun ws g hst => ?_
    refine lp_by (fun i σ S => ∃ w4, σ = [some x, some (.int a), some (.ref p), some (.int (sigFold f (r.take i))), w4] ∧ i ≤ r.length ∧ Own S R' cs) ⟨none, by rw [hf]; rfl, by omega, o'⟩ (fun i w σ S e h => ?_) fun σ S h => ?_
    · obtain ⟨w4, rfl, hi, o⟩ := h
      refine ⟨hst _ _ _ o .refl, ?_⟩
      obtain ⟨t, f1, r1⟩ := g.of e
      rw [List.getElem?_map] at f1
      cases ex : r[i]? with
      | none => rw [ex] at f1; cases f1
      | some y =>
        rw [ex] at f1
        cases f1
        obtain rfl := r1.int
        have hlt := (List.getElem?_eq_some_iff.mp ex).1
        wtm_at "v"
        unfold L11_1
        wtm_at "v"
        have st : sigFold f (r.take (i + 1)) = sigFold f (r.take i) * 64 + y - 128 := by
          unfold sigFold
          rw [List.take_add_one, ex, List.foldl_append]
          rfl
        exact ⟨_, by rw [st], hlt, o⟩
    · obtain ⟨w4, rfl, hi, o⟩ := h
      refine ⟨hst _ _ _ o .refl, ?_⟩
      wtm_at "v"
      rw [List.take_of_length_le (by have := g.length; rw [List.length_map] at this; omega)]
      exact q S (o.wk x')
  · rw [if_pos (by omega)] at hf
    wtm_at "v"
    refine s_si o' d rfl fun ws g hst => ?_
    refine lp_by (fun i σ S => ∃ w4, σ = [some x, some (.int a), some (.ref p), some (.int (sigFold f (r.take i))), w4] ∧ i ≤ r.length ∧ Own S R' cs) ⟨none, by rw [hf]; rfl, by omega, o'⟩ (fun i w σ S e h => ?_) fun σ S h => ?_
    · obtain ⟨w4, rfl, hi, o⟩ := h
      refine ⟨hst _ _ _ o .refl, ?_⟩
      obtain ⟨t, f1, r1⟩ := g.of e
      rw [List.getElem?_map] at f1
      cases ex : r[i]? with
      | none => rw [ex] at f1; cases f1
      | some y =>
        rw [ex] at f1
        cases f1
        obtain rfl := r1.int
        have hlt := (List.getElem?_eq_some_iff.mp ex).1
        wtm_at "v"
        unfold L11_1
        wtm_at "v"
        have st : sigFold f (r.take (i + 1)) = sigFold f (r.take i) * 64 + y - 128 := by
          unfold sigFold
          rw [List.take_add_one, ex, List.foldl_append]
          rfl
        exact ⟨_, by rw [st], hlt, o⟩
    · obtain ⟨w4, rfl, hi, o⟩ := h
      refine ⟨hst _ _ _ o .refl, ?_⟩
      wtm_at "v"
      rw [List.take_of_length_le (by have := g.length; rw [List.length_map] at this; omega)]
      exact q S (o.wk x')
/-! ### a Signs: its parts are cells -/
abbrev sgF (a b : Addr) (n : Int) : List (Str × W) := [("own_signs", .ref a), ("own_begun", .ref b), ("own_many", .int n)]
theorem sinit_ok {k : Nat} {p : Addr} {S R : Store} {cs : Cells} {Q : WP} {E : XP} (o : Own S R ((p, .ins 4 []) :: cs)) (q : ∀ a b S', Own S' R ((p, .ins 4 (sgF a b 0)) :: (b, .lst []) :: (a, .lst []) :: cs) → Q .non S') : cl bs (k + 1) 12 [.ref p] S Q E := by
  refine cl_in (F := ⟨1, 1, b12⟩) rfl rfl ?_
  show b12 (semN bs k) (endW Q E) [some (.ref p)] S
  unfold b12
  wtm_at "v"
  rename_i o
  exact q _ _ _ o
theorem is_whole_ok {k : Nat} {p : Addr} {x : W} {fs : List (Str × W)} {bg : List Int} {S R : Store} {cs : Cells} {Q : WP} {E : XP} (o : Own S R ((p, .ins 4 fs) :: cs)) (hf : fs.lookup ("own_begun" : Str) = some x) (h : Rp R (il bg) x) (q : ∀ S', Own S' R ((p, .ins 4 fs) :: cs) → Q (.bl (decide (bg = []))) S') : cl bs (k + 1) 15 [.ref p] S Q E := by
  refine cl_in (F := ⟨1, 1, b15⟩) rfl rfl ?_
  show b15 (semN bs k) (endW Q E) [some (.ref p)] S
  unfold b15
  wtm_at "v"
  refine s_fdC o rfl hf ?_
  wtm_at "v"
  rename_i p1 S1 o1
  obtain ⟨R2, o2, x2, d2⟩ := o1.frzL (ts := []) rpA_nil
  exact s_eqI (ms := []) o2 (h.mono x2) d2 (q _ (o2.wk x2))
theorem put_ok {k : Nat} {p a b : Addr} {n y : Int} {ss : List W} {bg : List Int} {S R : Store} {cs : Cells} {Q : WP} {E : XP} (o : Own S R ((p, .ins 4 (sgF a b n)) :: (b, .lst (bg.map .int)) :: (a, .lst ss) :: cs)) (hb : bg.length ≤ 2) (hs : ss.length ≤ 900000)
    (hfit : (if bg = [] then begB y else folB bg y) = true)
    (q1 : ((bg ++ [y]).length : Int) < behN ((bg ++ [y]).headD 0) → ∀ S', Own S' R ((p, .ins 4 (sgF a b (n + 1))) :: (b, .lst ((bg ++ [y]).map .int)) :: (a, .lst ss) :: cs) → Q .non S')
    (q2 : ¬ ((bg ++ [y]).length : Int) < behN ((bg ++ [y]).headD 0) → ∀ b' S', Own S' R ((p, .ins 4 (sgF a b' (n + 1))) :: (b', .lst []) :: (a, .lst (ss ++ [.int (sigOf (bg ++ [y]))])) :: cs) → Q (.int (sigOf (bg ++ [y]))) S') : cl bs (k + 2) 13 [.ref p, .int y] S Q E := by
  refine cl_in (F := ⟨2, 4, b13⟩) rfl rfl ?_
  show b13 (semN bs (k + 1)) (endW Q E) [some (.ref p), some (.int y), none, none] S
  unfold b13
  wtm_at "v"
  obtain ⟨f1, y1, z1⟩ := o.swap.frz
  refine is_whole_ok f1 rfl (rp_lst z1 rpA_ints) fun S1 o1 => ?_
  replace o1 := o1.thaw o.swap
  clear f1 y1 z1
  obtain ⟨hd, tl, hl⟩ : ∃ hd tl, bg ++ [y] = hd :: tl := by cases bg <;> exact ⟨_, _, rfl⟩
  have hlw : bg.map W.int ++ [.int y] = .int hd :: tl.map .int := by rw [← List.map_cons, ← hl, List.map_append]; rfl
  have hlen : (bg ++ [y]).length ≤ 3 := by rw [List.length_append]; simpa using hb
  have htl : tl.length ≤ 2 := by rw [hl] at hlen; simpa using hlen
  rw [hl] at q1 q2
  wtm_at "v"
  refine br_dec (fun e => ?_) (fun e => ?_)
  · rw [if_pos e] at hfit
    wtm_at "v"
    refine begin_ok ?_
    rw [hfit]
    have o := o1.swap
    clear o1
    wtm_at "v"
    rename_i S3 o3
    rw [hlw] at o3 ⊢
    refine s_idxC o3 (w := .int hd) (atI_nat' (by decide) rfl) ?_
    wtm_at "v"
    refine behind_ok ?_
    wtm_at "v"
    have hlx : ((W.int hd :: tl.map W.int).length : Int) = ((hd :: tl).length : Int) := by simp
    refine br_dec (fun e2 => ?_) (fun e2 => ?_)
    · wtm_at "v"
      exact q1 (by rw [← hlx]; exact e2) _ o3.swap
    · wtm_at "v"
      obtain ⟨f1, y1, z1⟩ := o3.frz
      refine sign_of_ok f1 (rp_lst (ts := (hd :: tl).map .int) z1 (rpA_ints (ns := hd :: tl))) (by omega) fun S4 o4 => ?_
      replace o4 := o4.thaw o3
      wtm_at "v"
      rename_i o7
      exact q2 (by rw [← hlx]; exact e2) _ _ o7.r4.drop.tor
  · rw [if_neg e] at hfit
    wtm_at "v"
    obtain ⟨f1, y1, z1⟩ := o1.frz
    refine follow_ok f1 (rp_lst z1 rpA_ints) fun S2 o2 => ?_
    replace o2 := o2.thaw o1
    rw [hfit]
    have o := o2.swap
    clear o1 o2 f1 y1 z1
    wtm_at "v"
    rename_i S3 o3
    rw [hlw] at o3 ⊢
    refine s_idxC o3 (w := .int hd) (atI_nat' (by decide) rfl) ?_
    wtm_at "v"
    refine behind_ok ?_
    wtm_at "v"
    have hlx : ((W.int hd :: tl.map W.int).length : Int) = ((hd :: tl).length : Int) := by simp
    refine br_dec (fun e2 => ?_) (fun e2 => ?_)
    · wtm_at "v"
      exact q1 (by rw [← hlx]; exact e2) _ o3.swap
    · wtm_at "v"
      obtain ⟨f1, y1, z1⟩ := o3.frz
      refine sign_of_ok f1 (rp_lst (ts := (hd :: tl).map .int) z1 (rpA_ints (ns := hd :: tl))) (by omega) fun S4 o4 => ?_
      replace o4 := o4.thaw o3
      wtm_at "v"
      rename_i o7
      exact q2 (by rw [← hlx]; exact e2) _ _ o7.r4.drop.tor
theorem same_ok {k : Nat} : ∀ (n : Nat) {t : T} {x y : W} {S R : Store} {cs : Cells} {Q : WP} {E : XP}, Own S R cs → Rp R t x → Rp R t y → t.okS n → (∀ S', Own S' R cs → Q (.bl true) S') → cl bs (k + (n + 1)) 50 [x, y] S Q E := by
  intro n
  induction n with
  | zero =>
    intro t x y S R cs Q E o hx hy ht q
    refine cl_in (F := ⟨2, 4, b50⟩) rfl rfl ?_
    show b50 (semN bs k) (endW Q E) [some x, some y, none, none] S
    unfold b50
    cases t with
    | non => wtm_at "v"; rw [hx.non, hy.non]; wtm_at "v"; exact q _ o
    | bl b => wtm_at "v"; rw [hx.bl, hy.bl]; wtm_at "v"; rw [decide_eq_true rfl]; exact q _ o
    | int b => wtm_at "v"; rw [hx.int, hy.int]; wtm_at "v"; rw [decide_eq_true rfl]; exact q _ o
    | str b => wtm_at "v"; rw [hx.str, hy.str]; wtm_at "v"; rw [decide_eq_true rfl]; exact q _ o
    | tup ts => simp [T.okS] at ht
    | lst ts => simp [T.okS] at ht
    | obj c ks ts => simp [T.okS] at ht
  | succ n ih =>
    intro t x y S R cs Q E o hx hy ht q
    refine cl_in (F := ⟨2, 4, b50⟩) rfl rfl ?_
    show b50 (semN bs (k + (n + 1))) (endW Q E) [some x, some y, none, none] S
    unfold b50
    have key : ∀ {ts : List T} {ws vs : List W} {still : Store → Prop}, RpA R ts ws → RpA R ts vs → ts.length ≤ 900000 → T.okSA ts n → (∀ S' R' cs', Own S' R' cs' → Ext R R' → still S') →
        lcW (.tup [2, 3]) yesT (callN (semN bs (k + (n + 1))) 50 [.ix 0, .ix 1] 2 0 (consA (varS 2) (consA (varS 3) nilA)) nilA) [some x, some y, none, none] still (fun w S1 => biW kt .all [w] S1 Q) (zipI ws vs) S := by
      intro ts ws vs still g g2 hl ht hst
      refine lc_by o (fun i ds cs' => ds = List.replicate i (.bl true) ∧ cs' = cs ∧ i ≤ 1000000) ⟨rfl, rfl, by decide⟩ (fun i ds _ h => by rw [h.1]; simpa using h.2.2) hst (fun i w D S' R' ds ws' cs' N e p o' x' r k1 k2 => ?_) fun ds cs' D S' R' p o' x' r => ?_
      · obtain ⟨rfl, rfl, hi⟩ := p
        obtain ⟨a, b, e1, e2, rfl⟩ := zip_at e
        obtain ⟨t, f1, r1⟩ := g.of e1
        obtain ⟨t2, f2, r2⟩ := g2.of e2
        rw [f1] at f2; cases f2
        have hlt := (List.getElem?_eq_some_iff.mp f1).1
        wtm_at "v"
        refine ih o' (r1.mono x') (r2.mono x') (okSA_at ht f1) fun S2 o2 => ?_
        exact k1 S2 _ _ _ (.bl true) ⟨by rw [List.replicate_succ'], rfl, by omega⟩ o2 .refl rp_bl
      · obtain ⟨rfl, rfl, _⟩ := p
        rw [map_rep] at r
        wtm_at "v"
        rw [all_rep]
        exact q _ (o'.wk x')
    cases t with
    | non => wtm_at "v"; rw [hx.non, hy.non]; wtm_at "v"; exact q _ o
    | bl b => wtm_at "v"; rw [hx.bl, hy.bl]; wtm_at "v"; rw [decide_eq_true rfl]; exact q _ o
    | int b => wtm_at "v"; rw [hx.int, hy.int]; wtm_at "v"; rw [decide_eq_true rfl]; exact q _ o
    | str b => wtm_at "v"; rw [hx.str, hy.str]; wtm_at "v"; rw [decide_eq_true rfl]; exact q _ o
    | tup ts =>
      rw [okS_tup] at ht
      wtm_at "v"
      obtain ⟨ws, rfl, g⟩ := hx.tup
      obtain ⟨vs, rfl, g2⟩ := hy.tup
      exact zp_tup (key g g2 ht.1 ht.2 fun _ _ _ _ _ => trivial)
    | lst ts =>
      rw [okS_lst] at ht
      wtm_at "v"
      obtain ⟨a, _, rfl, _⟩ := hx.lst
      obtain ⟨b, _, rfl, _⟩ := hy.lst
      exact s_zp o hx hy fun ws vs g g2 hst => key g g2 ht.1 ht.2 hst
    | obj c ks ts => simp [T.okS] at ht
/-! ### signs, words: what is told of any thing -/
def T.isSgn : T → Bool
  | .int n => decide (0 ≤ n ∧ n ≤ 65535 ∧ ¬ (55296 ≤ n ∧ n ≤ 57343))
  | _ => false
def T.isWrd : T → Bool
  | .lst ts => ts.all T.isSgn
  | _ => false
theorem isSgn_ok {k : Nat} {t : T} {x : W} {S R : Store} {cs : Cells} {Q : WP} {E : XP} (o : Own S R cs) (h : Rp R t x) (hk : t.noObj = true) (q : Q (.bl t.isSgn) S) : cl bs (k + 2) 4 [x] S Q E := by
  refine cl_in (F := ⟨1, 1, b4⟩) rfl rfl ?_
  show b4 (semN bs (k + 1)) (endW Q E) [some x] S
  unfold b4
  wtm_at "v"
  refine isNum_ok o h hk ?_
  cases t with
  | int n =>
    rw [h.int]
    simp only [T.isNum, T.isSgn] at q ⊢
    wtm_at "v"
    refine bo_dec (fun e => ?_) (fun e => ?_)
    · wtm_at "v"
      refine bo_dec (fun e2 => ?_) (fun e2 => ?_)
      · wtm_at "v"
        refine bo_dec (fun e3 => ?_) (fun e3 => ?_)
        · wtm_at "v"
          have : (!decide (n ≤ 57343)) = decide (0 ≤ n ∧ n ≤ 65535 ∧ ¬ (55296 ≤ n ∧ n ≤ 57343)) := by
            by_cases z : n ≤ 57343
            · rw [decide_eq_true z, decide_eq_false (by omega)]; rfl
            · rw [decide_eq_false z, decide_eq_true (by omega)]; rfl
          rw [this]
          exact q
        · wtm_at "v"
          rw [decide_eq_true (by omega)] at q
          exact q
      · wtm_at "v"
        rw [decide_eq_false (by omega)] at q
        exact q
    · wtm_at "v"
      rw [decide_eq_false (by omega)] at q
      exact q
  | obj c ks ts => cases hk
  | _ => simp only [T.isNum, T.isSgn] at q ⊢; wtm_at "v"; exact q
theorem all_sgn {ts : List T} : ((ts.map fun t => T.isSgn t)).all id = ts.all T.isSgn := by
  induction ts with
  | nil => rfl
  | cons t ts ih => simp only [List.map_cons, List.all_cons, id, ih]
theorem isWrd_ok {k m n : Nat} {t : T} {x : W} {S R : Store} {cs : Cells} {Q : WP} {E : XP} (o : Own S R cs) (h : Rp R t x) (sh : Sh m n t) (hn : n ≤ 900000) (q : ∀ S', Own S' R cs → Q (.bl t.isWrd) S') : cl bs (k + 3) 5 [x] S Q E := by
  refine cl_in (F := ⟨1, 2, b5⟩) rfl rfl ?_
  show b5 (semN bs (k + 2)) (endW Q E) [some x, none] S
  unfold b5
  cases t with
  | lst ts =>
    have hts : ts.length ≤ n ∧ ∀ u ∈ ts, u.noObj = true := by
      cases m with
      | zero => have := sh.2.1; simp [T.ok] at this
      | succ m => exact ⟨(Sh.lst.mp sh).len, fun u hu => ((Sh.lst.mp sh).get hu).noObj⟩
    wtm_at "v"
    refine s_si o h rfl fun ws g hst => ?_
    refine lc_by o (fun i ds cs' => ds = (ts.take i).map (fun t => .bl (T.isSgn t)) ∧ cs' = cs ∧ i ≤ 1000000) ⟨by simp, rfl, by decide⟩ (fun i ds _ h => by rw [h.1, List.length_map, List.length_take]; omega) hst (fun i w D S' R' ds ws' cs' N e p o' x' r k1 k2 => ?_) fun ds cs' D S' R' p o' x' r => ?_
    · obtain ⟨rfl, rfl, hi⟩ := p
      obtain ⟨t, f1, r1⟩ := g.of e
      have hlt := (List.getElem?_eq_some_iff.mp f1).1
      wtm_at "v"
      refine isSgn_ok o' (r1.mono x') (hts.2 _ (List.mem_of_getElem? f1)) ?_
      refine k1 S' _ _ _ (.bl (T.isSgn t)) ⟨?_, rfl, by omega⟩ o' .refl rp_bl
      rw [List.take_add_one, f1, List.map_append]
      rfl
    · obtain ⟨rfl, rfl, _⟩ := p
      rw [List.take_of_length_le (by rw [g.length]; exact Nat.le_refl _)] at r
      have r : Rp R' (.lst ((ts.map fun t => T.isSgn t).map .bl)) (.ref D) := by
        rw [List.map_map]
        exact r
      wtm_at "v"
      rw [all_sgn]
      exact q _ (o'.wk x')
  | obj c ks ts => have := sh.noObj; cases this
  | _ => wtm_at "v"; exact q _ o
def sgRun : List Int → List Int → List Int → Option (List Int × List Int)
  | bg, ss, [] => some (bg, ss)
  | bg, ss, y :: r => if (if bg = [] then begB y else folB bg y) = true then (if ((bg ++ [y]).length : Int) < behN ((bg ++ [y]).headD 0) then sgRun (bg ++ [y]) ss r else sgRun [] (ss ++ [sigOf (bg ++ [y])]) r) else none
def encS (s : Int) : List Int := if s < 128 then [s] else if s < 2048 then [192 + s / 64, 128 + s % 64] else [224 + s / 64 / 64, 128 + s / 64 % 64, 128 + s % 64]
def isSig (s : Int) : Prop := 0 ≤ s ∧ s ≤ 65535 ∧ ¬ (55296 ≤ s ∧ s ≤ 57343)
theorem sgRun_go {bg ss r : List Int} {y : Int} (h1 : (if bg = [] then begB y else folB bg y) = true) (h2 : ((bg ++ [y]).length : Int) < behN ((bg ++ [y]).headD 0)) : sgRun bg ss (y :: r) = sgRun (bg ++ [y]) ss r := by
  rw [sgRun, if_pos h1, if_pos h2]
theorem sgRun_end {bg ss r : List Int} {y : Int} (h1 : (if bg = [] then begB y else folB bg y) = true) (h2 : ¬ ((bg ++ [y]).length : Int) < behN ((bg ++ [y]).headD 0)) : sgRun bg ss (y :: r) = sgRun [] (ss ++ [sigOf (bg ++ [y])]) r := by
  rw [sgRun, if_pos h1, if_neg h2]
theorem beh1 {x : Int} (h : x < 128) : behN x = 1 := by unfold behN; rw [if_pos h]
theorem beh2 {x : Int} (h : 128 ≤ x) (h2 : x < 224) : behN x = 2 := by unfold behN; rw [if_neg (by omega), if_pos h2]
theorem beh3 {x : Int} (h : 224 ≤ x) : behN x = 3 := by unfold behN; rw [if_neg (by omega), if_neg (by omega)]
theorem fol_mid {bg : List Int} {y : Int} (h : 128 ≤ y ∧ y ≤ 191) (h1 : bg = [224] → 160 ≤ y) (h2 : bg = [237] → y ≤ 159) : folB bg y = true := by
  unfold folB
  refine decide_eq_true ⟨?_, ?_⟩
  · split
    · rename_i e; exact h1 e
    · exact h.1
  · split
    · rename_i e; exact h2 e
    · exact h.2
theorem sgRun_enc {s : Int} (h : isSig s) {ss r : List Int} : sgRun [] ss (encS s ++ r) = sgRun [] (ss ++ [s]) r := by
  obtain ⟨h0, h1, h2⟩ := h
  unfold encS
  split
  · rename_i e
    show sgRun [] ss (s :: r) = _
    rw [sgRun_end (by rw [if_pos rfl]; exact decide_eq_true (.inl e)) (by show ¬ (1 : Int) < behN s; rw [beh1 e]; omega)]
    rfl
  · split
    · rename_i e e2
      show sgRun [] ss ((192 + s / 64) :: (128 + s % 64) :: r) = _
      rw [sgRun_go (by rw [if_pos rfl]; exact decide_eq_true (by omega)) (by show (1 : Int) < behN (192 + s / 64); rw [beh2 (by omega) (by omega)]; omega)]
      show sgRun [192 + s / 64] ss ((128 + s % 64) :: r) = _
      rw [sgRun_end (by rw [if_neg (by simp)]; exact fol_mid (by omega) (fun z => by have := List.head_eq_of_cons_eq z; omega) (fun z => by have := List.head_eq_of_cons_eq z; omega)) (by show ¬ (2 : Int) < behN (192 + s / 64); rw [beh2 (by omega) (by omega)]; omega)]
      have : sigOf ([192 + s / 64] ++ [128 + s % 64]) = s := by
        show (192 + s / 64 - 192) * 64 + (128 + s % 64) - 128 = s
        omega
      rw [this]
    · rename_i e e2
      show sgRun [] ss ((224 + s / 64 / 64) :: (128 + s / 64 % 64) :: (128 + s % 64) :: r) = _
      rw [sgRun_go (by rw [if_pos rfl]; exact decide_eq_true (by omega)) (by show (1 : Int) < behN (224 + s / 64 / 64); rw [beh3 (by omega)]; omega)]
      show sgRun [224 + s / 64 / 64] ss ((128 + s / 64 % 64) :: (128 + s % 64) :: r) = _
      rw [sgRun_go (by rw [if_neg (by simp)]; exact fol_mid (by omega) (fun z => by have := List.head_eq_of_cons_eq z; omega) (fun z => by have := List.head_eq_of_cons_eq z; omega)) (by show (2 : Int) < behN (224 + s / 64 / 64); rw [beh3 (by omega)]; omega)]
      show sgRun [224 + s / 64 / 64, 128 + s / 64 % 64] ss ((128 + s % 64) :: r) = _
      rw [sgRun_end (by rw [if_neg (by simp)]; exact fol_mid (by omega) (fun z => by simp at z) (fun z => by simp at z)) (by show ¬ (3 : Int) < behN (224 + s / 64 / 64); rw [beh3 (by omega)]; omega)]
      have : sigOf ([224 + s / 64 / 64, 128 + s / 64 % 64] ++ [128 + s % 64]) = s := by
        show ((224 + s / 64 / 64 - 224) * 64 + (128 + s / 64 % 64) - 128) * 64 + (128 + s % 64) - 128 = s
        omega
      rw [this]
theorem sgRun_all : ∀ {row ss r : List Int}, (∀ s ∈ row, isSig s) → sgRun [] ss (row.flatMap encS ++ r) = sgRun [] (ss ++ row) r
  | [], ss, r, _ => by simp
  | s :: row, ss, r, h => by
    rw [List.flatMap_cons, List.append_assoc, sgRun_enc (h s (List.mem_cons_self ..)), sgRun_all fun t ht => h t (List.mem_cons_of_mem _ ht), List.append_assoc]
    rfl
theorem sign_bytes_ok {k : Nat} {s : Int} {S R : Store} {cs : Cells} {Q : WP} {E : XP} (o : Own S R cs) (q : ∀ p S', Own S' R ((p, .lst ((encS s).map .int)) :: cs) → Q (.ref p) S') : cl bs (k + 1) 6 [.int s] S Q E := by
  refine cl_in (F := ⟨1, 2, b6⟩) rfl rfl ?_
  show b6 (semN bs k) (endW Q E) [some (.int s), none] S
  unfold b6
  unfold encS at q
  wtm_at "v"
  refine br_dec (fun e => ?_) (fun e => ?_)
  · rw [if_pos e] at q
    wtm_at "u"
    exact s_lstC o (by simp) q
  · rw [if_neg e] at q
    wtm_at "v"
    refine br_dec (fun e2 => ?_) (fun e2 => ?_)
    · rw [if_pos e2] at q
      wtm_at "u"
      exact s_lstC o (by simp) q
    · rw [if_neg e2] at q
      wtm_at "u"
      exact s_lstC o (by simp) q
theorem encS_len {s : Int} : (encS s).length ≤ 3 := by
  unfold encS
  split
  · simp
  · split <;> simp
theorem flat_len : ∀ {row : List Int}, (row.flatMap encS).length ≤ 3 * row.length
  | [] => by simp
  | s :: row => by
    have := encS_len (s := s)
    have := flat_len (row := row)
    rw [List.flatMap_cons, List.length_append, List.length_cons]
    omega
theorem words_bytes_ok {k : Nat} {c : T} {row : List Int} {x : W} {S R : Store} {cs : Cells} {Q : WP} {E : XP} (o : Own S R cs) (h : Rp R c x) (hc : c.seq? = some (row.map .int)) (hl : row.length ≤ 200000)
    (q : ∀ p S', Own S' R ((p, .lst ((row.flatMap encS).map .int)) :: cs) → Q (.ref p) S') : cl bs (k + 2) 7 [x] S Q E := by
  refine cl_in (F := ⟨1, 3, b7⟩) rfl rfl ?_
  show b7 (semN bs (k + 1)) (endW Q E) [some x, none, none] S
  unfold b7
  wtm_at "v"
  refine s_si o h hc fun ws g hst => ?_
  refine lc2_by o (fun i ds cs' => ds = ((row.take i).flatMap encS).map .int ∧ cs' = cs ∧ i ≤ row.length) ⟨by simp, rfl, by omega⟩ hst (fun i w D S' R' ds ws' cs' N e p o' x' r k1 => ?_) fun ds ws' cs' D S' R' p o' x' r => ?_
  · obtain ⟨rfl, rfl, hi⟩ := p
    obtain ⟨t, f1, r1⟩ := g.of e
    rw [List.getElem?_map] at f1
    cases ex : row[i]? with
    | none => rw [ex] at f1; cases f1
    | some s =>
      rw [ex] at f1
      cases f1
      obtain rfl := r1.int
      have hlt := (List.getElem?_eq_some_iff.mp ex).1
      wtm_at "v"
      refine sign_bytes_ok o' fun p2 S2 o2 => ?_
      obtain ⟨R2, o3, x3, d3⟩ := o2.frzI
      refine s_si o3 d3 rfl fun ws2 g2 hst2 => ?_
      have hz := flat_len (row := row.take i)
      rw [List.length_take] at hz
      have hz2 := encS_len (s := s)
      refine lj_by o3 (r.mono x3) (fun j ds cs2 => ds = (((row.take i).flatMap encS) ++ (encS s).take j).map .int ∧ cs2 = cs' ∧ j ≤ (encS s).length) ⟨by simp, rfl, by omega⟩ (fun j ds _ h => by rw [h.1, List.length_map, List.length_append, List.length_take]; omega) hst2 (fun j w S4 R4 ds ws4 cs2 N e p o4 x4 r4 k2 k3 => ?_) fun ds ws4 cs2 S4 R4 p o4 x4 r4 => ?_
      · obtain ⟨rfl, rfl, hj⟩ := p
        obtain ⟨t, f2, r2⟩ := g2.of e
        rw [List.getElem?_map] at f2
        cases ey : (encS s)[j]? with
        | none => rw [ey] at f2; cases f2
        | some y =>
          rw [ey] at f2
          cases f2
          obtain rfl := r2.int
          have hlt2 := (List.getElem?_eq_some_iff.mp ey).1
          wtm_at "v"
          refine k2 S4 _ _ _ (.int y) ⟨?_, rfl, hlt2⟩ o4 .refl rp_int
          rw [List.take_add_one, ey, ← List.append_assoc, List.map_append (l₂ := (some y).toList)]
          rfl
      · obtain ⟨rfl, rfl, _⟩ := p
        refine k1 S4 R4 _ _ _ ⟨?_, rfl, hlt⟩ o4 (x3.trans x4) r4
        rw [List.take_of_length_le (l := encS s) (i := ws2.length) (by have := g2.length; rw [List.length_map] at this; omega), List.take_add_one, ex, List.flatMap_append]
        simp
  · obtain ⟨rfl, rfl, _⟩ := p
    rw [List.take_of_length_le (by have := g.length; rw [List.length_map] at this; omega)] at r
    obtain rfl := RpA.ints r
    exact q D S' (o'.wk x')
/-! ### a letter's bytes, or its refusal -/
def T.isW (t : T) (s : Str) : Bool := match t with
  | .str z => decide (z = s)
  | _ => false
def wordB (t : T) : Bool := t.isW "words" || t.isW "bytes"
def datB (tw td : T) : Bool := match td.seq? with
  | some ts => if tw.isW "words" = true then ts.all T.isSgn else ts.all T.isByt
  | none => false
def letW (tw td : T) : W := if wordB tw = false then .str "word" else if datB tw td = true then .non else .str "data"
theorem lk_words {z : Str} : (lkD [((.inr "words"), (.int 1)), ((.inr "bytes"), (.int 2))] (.inr z)).isSome = (decide (z = "words") || decide (z = "bytes")) := by
  by_cases h1 : z = "words"
  · subst h1; rfl
  · by_cases h2 : z = "bytes"
    · subst h2; rfl
    · have n1 : ¬ (Sum.inr "words" : Key) = .inr z := fun e => h1 (Sum.inr.inj e).symm
      have n2 : ¬ (Sum.inr "bytes" : Key) = .inr z := fun e => h2 (Sum.inr.inj e).symm
      simp [lkD, List.find?_cons, n1, n2, h1, h2]
theorem ints_of_byt : ∀ {ts : List T}, ts.all T.isByt = true → ∃ xs : List Int, ts = xs.map .int ∧ Byt xs
  | [], _ => ⟨[], rfl, .nil⟩
  | t :: ts, h => by
    rw [List.all_cons, Bool.and_eq_true] at h
    obtain ⟨xs, rfl, hb⟩ := ints_of_byt h.2
    cases t with
    | int n =>
      have := h.1
      simp only [T.isByt, Bool.and_eq_true, decide_eq_true_eq] at this
      exact ⟨n :: xs, rfl, fun x hx => by rcases List.mem_cons.mp hx with rfl | hx; exact ⟨this.1, by omega⟩; exact hb x hx⟩
    | _ => cases h.1
theorem ints_of_sgn : ∀ {ts : List T}, ts.all T.isSgn = true → ∃ xs : List Int, ts = xs.map .int ∧ ∀ s ∈ xs, isSig s
  | [], _ => ⟨[], rfl, fun s h => (by cases h)⟩
  | t :: ts, h => by
    rw [List.all_cons, Bool.and_eq_true] at h
    obtain ⟨xs, rfl, hb⟩ := ints_of_sgn h.2
    cases t with
    | int n =>
      have := h.1
      simp only [T.isSgn, decide_eq_true_eq] at this
      exact ⟨n :: xs, rfl, fun x hx => by rcases List.mem_cons.mp hx with rfl | hx; exact this; exact hb x hx⟩
    | _ => cases h.1
theorem enc_byt {s : Int} (h : isSig s) : Byt (encS s) := by
  unfold isSig at h
  unfold encS
  intro x hx
  split at hx
  · simp only [List.mem_cons, List.not_mem_nil, or_false] at hx; omega
  · split at hx
    · simp only [List.mem_cons, List.not_mem_nil, or_false] at hx; omega
    · simp only [List.mem_cons, List.not_mem_nil, or_false] at hx; omega
theorem flat_byt : ∀ {row : List Int}, (∀ s ∈ row, isSig s) → Byt (row.flatMap encS)
  | [], _ => .nil
  | s :: row, h => by
    rw [List.flatMap_cons]
    exact (enc_byt (h s (List.mem_cons_self ..))).app (flat_byt fun z hz => h z (List.mem_cons_of_mem _ hz))
/-- a letter's bytes -/
def letB (tw : T) (row : List Int) : List Int := if tw.isW "words" = true then row.flatMap encS else row
theorem ints_inj : ∀ {xs ys : List Int}, xs.map T.int = ys.map T.int → xs = ys
  | [], [], _ => rfl
  | [], _ :: _, h => by cases h
  | _ :: _, [], h => by cases h
  | x :: xs, y :: ys, h => by
    rw [List.map_cons, List.map_cons] at h
    injection h with h1 h2
    injection h1 with h1
    rw [h1, ints_inj h2]
theorem letter_ok {k m n : Nat} {tw td : T} {xw xd : W} {S R : Store} {cs : Cells} {Q : WP} {E : XP} (o : Own S R cs) (h1 : Rp R tw xw) (h2 : Rp R td xd) (n1 : tw.noObj = true) (s2 : Sh (m + 1) n td) (hn : n ≤ 900000) (hl : ∀ ts, td.seq? = some ts → ts.length ≤ 100000)
    (qn : letW tw td = .non → ∀ p xs S' R', Byt xs → xs.length ≤ 300000 → (∀ row : List Int, td.seq? = some (row.map .int) → xs = letB tw row) → Own S' R' cs → Ext R R' → Rp R' (il xs) (.ref p) → Q (.ref p) S')
    (qe : ∀ z, letW tw td = .str z → ∀ S', Own S' R cs → E ⟨1, [("part", .str z)]⟩ S') : cl bs (k + 4) 35 [xw, xd] S Q E := by
  refine cl_in (F := ⟨2, 3, b35⟩) rfl rfl ?_
  show b35 (semN bs (k + 3)) (endW Q E) [some xw, some xd, none] S
  unfold b35
  have noword : wordB tw = false → ∀ S', Own S' R cs → E ⟨1, [("part", .str "word")]⟩ S' := fun h => qe "word" (by unfold letW; rw [if_pos h])
  cases tw with
  | str z =>
    obtain rfl := h1.str
    wtm_at "v"
    rw [lk_words]
    by_cases hz : z = "words"
    · subst hz
      have hw : letW (.str "words") td = if datB (.str "words") td = true then .non else .str "data" := by unfold letW; rw [if_neg (by decide)]
      rw [hw] at qn qe
      wtm_at "v"
      cases td with
      | lst ts =>
        wtm_at "v"
        rename_i p1 S1 R1 o1 x1 d1
        have shl : Sh (m + 1) n (.lst ts) := Sh.lst.mpr (Sh.lst.mp s2)
        refine isWrd_ok (k := k) o1 d1 shl hn fun S2 o2 => ?_
        have hb : (T.lst ts).isWrd = ts.all T.isSgn := rfl
        have hd : datB (.str "words") (.lst ts) = ts.all T.isSgn := by unfold datB; rw [show (T.str "words").isW "words" = true from by decide]; rfl
        rw [hb]
        rw [hd] at qn qe
        cases hall : ts.all T.isSgn with
        | false =>
          rw [hall] at qe
          wtm_at "v"
          exact qe "data" rfl _ (o2.wk x1)
        | true =>
          rw [hall] at qn
          wtm_at "v"
          obtain ⟨xs, rfl, hs⟩ := ints_of_sgn hall
          have hlen := hl _ rfl
          rw [List.length_map] at hlen
          refine words_bytes_ok (k := k + 1) o2 d1 rfl (by omega) fun p3 S3 o3 => ?_
          obtain ⟨R4, o4, x4, d4⟩ := o3.frzI
          exact qn rfl _ _ _ _ (flat_byt hs) (by have := flat_len (row := xs); omega) (fun row e => by rw [← ints_inj (Option.some.inj e)]; unfold letB; rw [if_pos (by decide)]) o4 (x1.trans x4) d4
      | tup ts =>
        wtm_at "v"
        rename_i p1 S1 R1 o1 x1 d1
        have shl : Sh (m + 1) n (.lst ts) := Sh.lst.mpr (Sh.tup.mp s2)
        refine isWrd_ok (k := k) o1 d1 shl hn fun S2 o2 => ?_
        have hb : (T.lst ts).isWrd = ts.all T.isSgn := rfl
        have hd : datB (.str "words") (.tup ts) = ts.all T.isSgn := by unfold datB; rw [show (T.str "words").isW "words" = true from by decide]; rfl
        rw [hb]
        rw [hd] at qn qe
        cases hall : ts.all T.isSgn with
        | false =>
          rw [hall] at qe
          wtm_at "v"
          exact qe "data" rfl _ (o2.wk x1)
        | true =>
          rw [hall] at qn
          wtm_at "v"
          obtain ⟨xs, rfl, hs⟩ := ints_of_sgn hall
          have hlen := hl _ rfl
          rw [List.length_map] at hlen
          refine words_bytes_ok (k := k + 1) o2 d1 rfl (by omega) fun p3 S3 o3 => ?_
          obtain ⟨R4, o4, x4, d4⟩ := o3.frzI
          exact qn rfl _ _ _ _ (flat_byt hs) (by have := flat_len (row := xs); omega) (fun row e => by rw [← ints_inj (Option.some.inj e)]; unfold letB; rw [if_pos (by decide)]) o4 (x1.trans x4) d4
      | obj c ks ts => have := s2.noObj; cases this
      | _ =>
        wtm_at "v"
        refine isWrd_ok (k := k) (t := .non) (m := 0) (n := 0) o rp_non ⟨by simp only [T.g], by simp only [T.ok], by simp only [T.w]; omega⟩ (by omega) fun S2 o2 => ?_
        wtm_at "v"
        exact qe "data" rfl _ o2
    · by_cases hz2 : z = "bytes"
      · subst hz2
        have hw : letW (.str "bytes") td = if datB (.str "bytes") td = true then .non else .str "data" := by unfold letW; rw [if_neg (by decide)]
        rw [hw] at qn qe
        wtm_at "v"
        cases td with
        | lst ts =>
          wtm_at "v"
          rename_i p1 S1 R1 o1 x1 d1
          have shl : Sh (m + 1) n (.lst ts) := Sh.lst.mpr (Sh.lst.mp s2)
          refine isCod_ok (k := k) o1 d1 rfl (fun us e => by cases e; exact ⟨by have := (Sh.lst.mp shl).len; omega, fun u hu => ((Sh.lst.mp shl).get hu).noObj⟩) fun S2 o2 => ?_
          have hb : (T.lst ts).isCod = ts.all T.isByt := rfl
          have hd : datB (.str "bytes") (.lst ts) = ts.all T.isByt := by unfold datB; rw [show (T.str "bytes").isW "words" = false from by decide]; rfl
          rw [hb]
          rw [hd] at qn qe
          cases hall : ts.all T.isByt with
          | false =>
            rw [hall] at qe
            wtm_at "v"
            exact qe "data" rfl _ (o2.wk x1)
          | true =>
            rw [hall] at qn
            wtm_at "v"
            obtain ⟨xs, rfl, hs⟩ := ints_of_byt hall
            have hlen := hl _ rfl
            rw [List.length_map] at hlen
            exact qn rfl _ _ _ _ hs (by omega) (fun row e => by rw [← ints_inj (Option.some.inj e)]; unfold letB; rw [if_neg (by decide)]) o2 x1 d1
        | tup ts =>
          wtm_at "v"
          rename_i p1 S1 R1 o1 x1 d1
          have shl : Sh (m + 1) n (.lst ts) := Sh.lst.mpr (Sh.tup.mp s2)
          refine isCod_ok (k := k) o1 d1 rfl (fun us e => by cases e; exact ⟨by have := (Sh.lst.mp shl).len; omega, fun u hu => ((Sh.lst.mp shl).get hu).noObj⟩) fun S2 o2 => ?_
          have hb : (T.lst ts).isCod = ts.all T.isByt := rfl
          have hd : datB (.str "bytes") (.tup ts) = ts.all T.isByt := by unfold datB; rw [show (T.str "bytes").isW "words" = false from by decide]; rfl
          rw [hb]
          rw [hd] at qn qe
          cases hall : ts.all T.isByt with
          | false =>
            rw [hall] at qe
            wtm_at "v"
            exact qe "data" rfl _ (o2.wk x1)
          | true =>
            rw [hall] at qn
            wtm_at "v"
            obtain ⟨xs, rfl, hs⟩ := ints_of_byt hall
            have hlen := hl _ rfl
            rw [List.length_map] at hlen
            exact qn rfl _ _ _ _ hs (by omega) (fun row e => by rw [← ints_inj (Option.some.inj e)]; unfold letB; rw [if_neg (by decide)]) o2 x1 d1
        | obj c ks ts => have := s2.noObj; cases this
        | _ =>
          wtm_at "v"
          refine isCod_ok (k := k) (t := .non) o rp_non rfl (fun ts e => by cases e) fun S2 o2 => ?_
          wtm_at "v"
          exact qe "data" rfl _ o2
      · rw [decide_eq_false hz, decide_eq_false hz2]
        have hw : wordB (.str z) = false := by
          show (decide (z = "words") || decide (z = "bytes")) = false
          rw [decide_eq_false hz, decide_eq_false hz2]; rfl
        wtm_at "v"
        exact noword hw _ o
  | obj c ks ts => cases n1
  | _ => wtm_at "v"; exact noword rfl _ o
/-! ### a letter's slips -/
/-- pieces of told sizes .. -/
def pcA (xs : List Int) (st : List (List Int) × Int) (s : Int) : List (List Int) × Int := if st.2 < (xs.length : Int) then (st.1 ++ [cutT xs (some st.2) (some (st.2 + s))], st.2 + s) else st
/-- .. then of one size -/
def pcB (xs : List Int) (pace : Int) : Nat → List (List Int) × Int → List (List Int) × Int
  | 0, st => st
  | n + 1, st => if st.2 < (xs.length : Int) then pcB xs pace n (pcA xs st pace) else st
def pcC (xs cuts : List Int) (pace : Int) : List (List Int) := (pcB xs pace xs.length (cuts.foldl (pcA xs) ([], 0))).1
def piecesL (xs cuts : List Int) (pace : Int) : List (List Int) := if pcC xs cuts pace = [] then [[]] else pcC xs cuts pace
theorem pcB_done {xs : List Int} {pace : Int} {n : Nat} {st : List (List Int) × Int} (h : ¬ st.2 < (xs.length : Int)) : pcB xs pace n st = st := by
  cases n with
  | zero => rfl
  | succ n => simp only [pcB]; rw [if_neg h]
theorem pcA_at {xs : List Int} {st : List (List Int) × Int} {s : Int} (h : 0 ≤ st.2) (hs : 0 ≤ s) : 0 ≤ (pcA xs st s).2 := by
  unfold pcA
  split
  · show 0 ≤ st.2 + s; omega
  · exact h
theorem pcA_len {xs : List Int} {st : List (List Int) × Int} {s : Int} : (pcA xs st s).1.length ≤ st.1.length + 1 := by
  unfold pcA
  split
  · rw [List.length_append]; exact Nat.le_refl _
  · omega
theorem cut_byt {xs : List Int} {lo hi : Option Int} (h : Byt xs) : Byt (cutT xs lo hi) := fun x hx => h x (List.mem_of_mem_drop (List.mem_of_mem_take hx))
theorem cut_len {α : Type} {xs : List α} {lo hi : Option Int} : (cutT xs lo hi).length ≤ xs.length := by
  unfold cutT
  rw [List.length_take, List.length_drop]
  omega
def pcOk (xs : List Int) (ps : List (List Int)) : Prop := ∀ p ∈ ps, (Byt xs → Byt p) ∧ p.length ≤ xs.length
theorem pcA_ok {xs : List Int} {st : List (List Int) × Int} {s : Int} (h : pcOk xs st.1) : pcOk xs (pcA xs st s).1 := by
  unfold pcA
  split
  · intro p hp
    rcases List.mem_append.mp hp with hp | hp
    · exact h p hp
    · rw [List.mem_singleton.mp hp]
      exact ⟨cut_byt, cut_len⟩
  · exact h
theorem pcB_ok {xs : List Int} {pace : Int} : ∀ {n : Nat} {st : List (List Int) × Int}, pcOk xs st.1 → pcOk xs (pcB xs pace n st).1
  | 0, _, h => h
  | n + 1, st, h => by
    simp only [pcB]
    split
    · exact pcB_ok (pcA_ok h)
    · exact h
theorem pcF_ok {xs : List Int} : ∀ {cuts : List Int} {st : List (List Int) × Int}, pcOk xs st.1 → pcOk xs (cuts.foldl (pcA xs) st).1
  | [], _, h => h
  | c :: cuts, st, h => pcF_ok (cuts := cuts) (pcA_ok h)
theorem pieces_each {xs cuts : List Int} {pace : Int} : pcOk xs (piecesL xs cuts pace) := by
  unfold piecesL
  split
  · intro p hp
    rw [List.mem_singleton.mp hp]
    exact ⟨fun _ => .nil, Nat.zero_le _⟩
  · exact pcB_ok (pcF_ok (by intro p hp; cases hp))
theorem pcB_len {xs : List Int} {pace : Int} : ∀ {n : Nat} {st : List (List Int) × Int}, (pcB xs pace n st).1.length ≤ st.1.length + n
  | 0, st => Nat.le_refl _
  | n + 1, st => by
    simp only [pcB]
    split
    · have h1 := pcB_len (xs := xs) (pace := pace) (n := n) (st := pcA xs st pace)
      have h2 := pcA_len (xs := xs) (st := st) (s := pace)
      omega
    · omega
theorem pcF_len {xs : List Int} : ∀ {cuts : List Int} {st : List (List Int) × Int}, (cuts.foldl (pcA xs) st).1.length ≤ st.1.length + cuts.length
  | [], st => Nat.le_refl _
  | c :: cuts, st => by
    have h1 := pcF_len (xs := xs) (cuts := cuts) (st := pcA xs st c)
    have h2 := pcA_len (xs := xs) (st := st) (s := c)
    rw [List.foldl_cons, List.length_cons]
    omega
theorem pieces_len {xs cuts : List Int} {pace : Int} : (piecesL xs cuts pace).length ≤ cuts.length + xs.length + 1 := by
  unfold piecesL
  split
  · simp
  · unfold pcC
    have h1 := pcB_len (xs := xs) (pace := pace) (n := xs.length) (st := cuts.foldl (pcA xs) ([], 0))
    have h2 := pcF_len (xs := xs) (cuts := cuts) (st := ([], 0))
    simp only [List.length_nil] at h2
    omega
theorem pieces_ok {k : Nat} {xs cuts : List Int} {pace : Int} {tc : T} {x y : W} {S R : Store} {cs : Cells} {Q : WP} {E : XP} (o : Own S R cs) (h : Rp R (il xs) x) (hy : Rp R tc y) (ec : tc.seq? = some (cuts.map .int)) (hc : ∀ c ∈ cuts, 0 ≤ c) (hp : 1 ≤ pace) (hl : xs.length ≤ 400000) (hcl : cuts.length ≤ 400000)
    (q : ∀ p S' R', Own S' R' cs → Ext R R' → Rp R' (.lst ((piecesL xs cuts pace).map il)) (.ref p) → Q (.ref p) S') : cl bs (k + 1) 36 [x, y, .int pace] S Q E := by
  refine cl_in (F := ⟨3, 6, b36⟩) rfl rfl ?_
  show b36 (semN bs k) (endW Q E) [some x, some y, some (.int pace), none, none, none] S
  unfold b36
  have hxl : (xs.map T.int).length = xs.length := List.length_map _
  wtm_at "v"
  rename_i p S1 o1
  refine s_si o1 hy ec fun ws g hst => ?_
  refine lp_by (fun i σ S => ∃ (w : Option W) (vs : List W) (R' : Store) (st : List (List Int) × Int), st = (cuts.take i).foldl (pcA xs) ([], 0) ∧ 0 ≤ st.2 ∧ i ≤ cuts.length ∧ σ = [some x, some y, some (.int pace), some (.ref p), some (.int st.2), w] ∧ Own S R' ((p, .lst vs) :: cs) ∧ Ext R R' ∧ RpA R' (st.1.map il) vs) ⟨_, [], R, ([], 0), rfl, by decide, Nat.zero_le _, rfl, o1, .refl, rpA_nil⟩ (fun i w σ S e h2 => ?_) fun σ S h2 => ?_
  · obtain ⟨_, vs, R', st, est, h0, hi, rfl, o2, x2, gv⟩ := h2
    refine ⟨hst _ _ _ o2 x2, ?_⟩
    obtain ⟨t, f1, r1⟩ := g.of e
    rw [List.getElem?_map] at f1
    cases ee : cuts[i]? with
    | none => rw [ee] at f1; cases f1
    | some c =>
    rw [ee] at f1
    cases f1
    obtain rfl := r1.int
    have hlt := (List.getElem?_eq_some_iff.mp ee).1
    have c0 := hc c (List.mem_of_getElem? ee)
    have fl : st.1.length ≤ i := by
      have := pcF_len (xs := xs) (cuts := cuts.take i) (st := ([], 0))
      rw [← est, List.length_take] at this
      simp only [List.length_nil] at this
      omega
    have vl : vs.length = st.1.length := by rw [gv.length, List.length_map]
    have nx : pcA xs st c = (cuts.take (i + 1)).foldl (pcA xs) ([], 0) := by
      rw [List.take_add_one, ee, List.foldl_append, ← est]; rfl
    wtm_at "v"
    unfold L36_2
    wtm_at "v"
    refine br_dec (fun e3 => ?_) (fun e3 => ?_)
    · wtm_at "v"
      rename_i p4 S4 R4 o4 x4 d4 S5 o5
      have e5 : pcA xs st c = (st.1 ++ [cutT xs (some st.2) (some (st.2 + c))], st.2 + c) := by unfold pcA; rw [if_pos e3]
      exact ⟨some (.int c), _, R4, pcA xs st c, nx, pcA_at h0 c0, by omega, by rw [e5], o5, x2.trans x4, by rw [e5, List.map_append]; exact (gv.mono x4).app (rpA_cons d4 rpA_nil)⟩
    · wtm_at "v"
      have e5 : pcA xs st c = st := by unfold pcA; rw [if_neg e3]
      exact ⟨some (.int c), _, R', pcA xs st c, nx, pcA_at h0 c0, by omega, by rw [e5], o2, x2, by rw [e5]; exact gv⟩
  obtain ⟨_, vs, R', st, est, h0, hi, rfl, o2, x2, gv⟩ := h2
  have hwl : ws.length = cuts.length := by rw [g.length, List.length_map]
  rw [hwl, List.take_length] at est
  refine ⟨hst _ _ _ o2 x2, ?_⟩
  refine v_seq ⟨fun n σ S => ∃ (w : Option W) (vs : List W) (R' : Store) (st : List (List Int) × Int), (pcB xs pace n st).1 = pcC xs cuts pace ∧ 0 ≤ st.2 ∧ (xs.length : Int) ≤ st.2 + n ∧ n ≤ xs.length ∧ st.1.length ≤ cuts.length + xs.length - n ∧ σ = [some x, some y, some (.int pace), some (.ref p), some (.int st.2), w] ∧ Own S R' ((p, .lst vs) :: cs) ∧ Ext R R' ∧ RpA R' (st.1.map il) vs, ⟨xs.length, _, vs, R', st, by rw [est]; rfl, h0, by omega, Nat.le_refl _, by have := pcF_len (xs := xs) (cuts := cuts) (st := ([], 0)); rw [← est] at this; simp only [List.length_nil] at this; omega, rfl, o2, x2, gv⟩, fun n σ S h3 => ?_⟩
  clear est h0 o2 x2 gv hst
  obtain ⟨_, vs, R', st, est, h0, hm, hn, hsl, rfl, o2, x2, gv⟩ := h3
  have vl : vs.length = st.1.length := by rw [gv.length, List.length_map]
  wtm_at "v"
  refine br_dec (fun e3 => ?_) (fun e3 => ?_)
  · unfold L36_1
    obtain ⟨n', rfl⟩ : ∃ n', n = n' + 1 := ⟨n - 1, by omega⟩
    wtm_at "v"
    rename_i p4 S4 R4 o4 x4 d4 S5 o5
    have e5 : pcA xs st pace = (st.1 ++ [cutT xs (some st.2) (some (st.2 + pace))], st.2 + pace) := by unfold pcA; rw [if_pos e3]
    refine ⟨n', by omega, _, _, R4, pcA xs st pace, by rw [← est]; simp only [pcB]; rw [if_pos e3], pcA_at h0 (by omega), by rw [e5]; show _ ≤ st.2 + pace + n'; omega, by omega, by have := pcA_len (xs := xs) (st := st) (s := pace); omega, by rw [e5], o5, x2.trans x4, by rw [e5, List.map_append]; exact (gv.mono x4).app (rpA_cons d4 rpA_nil)⟩
  · rw [pcB_done e3] at est
    wtm_at "v"
    refine br_dec (fun e4 => ?_) (fun e4 => ?_)
    · wtm_at "v"
      obtain ⟨R5, o5, x5, d5⟩ := o2.frzL gv
      have ne : pcC xs cuts pace ≠ [] := by
        intro z
        rw [z] at est
        rw [est] at vl
        simp only [List.length_nil] at vl
        omega
      refine q p S R5 o5 (x2.trans x5) ?_
      rw [est] at d5
      unfold piecesL
      rw [if_neg ne]
      exact d5
    · wtm_at "v"
      have e0 : pcC xs cuts pace = [] := by
        have : st.1.length = 0 := by omega
        rw [← est]
        exact List.eq_nil_of_length_eq_zero this
      rename_i p6 S6 o6
      have o6' : Own S6 R' ((p6, .lst (([] : List Int).map .int)) :: (p, .lst vs) :: cs) := o6
      obtain ⟨R7, o7, x7, d7⟩ := o6'.frzI
      refine s_lstF o7 (ts := [il []]) (rpA_cons d7 rpA_nil) (by simp) fun p8 S8 R8 o8 x8 d8 => ?_
      refine q p8 S8 R8 o8.drop (x2.trans (x7.trans x8)) ?_
      unfold piecesL
      rw [if_pos e0]
      exact d8
def slAt (s l : Int) (ps : List (List Int)) (i : Nat) : T := slipT (if i = 0 then s else 0) l (ps.getD i []) (decide ((i : Int) = (ps.length : Int) - 1)) none
def slipsL (s l : Int) (ps : List (List Int)) : List T := (List.range ps.length).map (slAt s l ps)
def firstS (tw : T) : Int := if tw.isW "words" = true then 1 else 2
theorem firstS_12 {tw : T} : firstS tw = 1 ∨ firstS tw = 2 := by
  unfold firstS
  split
  · exact .inl rfl
  · exact .inr rfl
theorem lk_first {tw : T} {z : Str} (e : tw = .str z) (h : wordB tw = true) : lkD [((.inr "words"), (.int 1)), ((.inr "bytes"), (.int 2))] (.inr z) = some (.int (firstS tw)) := by
  subst e
  by_cases h1 : z = "words"
  · subst h1; rfl
  · by_cases h2 : z = "bytes"
    · subst h2; rfl
    · unfold wordB T.isW at h
      simp only [decide_eq_false h1, decide_eq_false h2] at h
      cases h
theorem letW_word {tw td : T} (h : letW tw td = .non) : wordB tw = true ∧ ∃ z, tw = .str z := by
  unfold letW at h
  split at h
  · cases h
  · rename_i hw
    have hw : wordB tw = true := by cases e : wordB tw with
      | true => rfl
      | false => exact absurd e hw
    refine ⟨hw, ?_⟩
    cases tw <;> first | exact ⟨_, rfl⟩ | cases hw
theorem slips_for_ok {k m n : Nat} {tw td tc : T} {l pace : Int} {cuts : List Int} {xw xd y : W} {S R : Store} {cs : Cells} {Q : WP} {E : XP} (o : Own S R cs) (h1 : Rp R tw xw) (h2 : Rp R td xd) (n1 : tw.noObj = true) (s2 : Sh (m + 1) n td) (hn : n ≤ 900000) (hl : ∀ ts, td.seq? = some ts → ts.length ≤ 100000)
    (hy : Rp R tc y) (ec : tc.seq? = some (cuts.map .int)) (hc : ∀ c ∈ cuts, 0 ≤ c) (hp : 1 ≤ pace) (hcl : cuts.length ≤ 400000) (hlane : 0 ≤ l ∧ l ≤ 31)
    (qn : letW tw td = .non → ∀ p ws xs S' R', Byt xs → xs.length ≤ 300000 → (∀ row : List Int, td.seq? = some (row.map .int) → xs = letB tw row) → Own S' R' ((p, .lst ws) :: cs) → Ext R R' → RpA R' (slipsL (firstS tw) l (piecesL xs cuts pace)) ws → Q (.ref p) S')
    (qe : ∀ z, letW tw td = .str z → ∀ S', Own S' R cs → E ⟨1, [("part", .str z)]⟩ S') : cl bs (k + 8) 37 [.int l, xw, xd, y, .int pace] S Q E := by
  refine cl_in (F := ⟨5, 10, b37⟩) rfl rfl ?_
  show b37 (semN bs (k + 7)) (endW Q E) [some (.int l), some xw, some xd, some y, some (.int pace), none, none, none, none, none] S
  unfold b37
  wtm_at "v"
  refine letter_ok (k := k + 3) o h1 h2 n1 s2 hn hl (fun hw p xs S1 R1 hb hx hrow o1 x1 d1 => ?_) fun z hz S1 o1 => qe z hz S1 o1
  obtain ⟨hw2, z, rfl⟩ := letW_word hw
  obtain rfl := h1.str
  wtm_at "v"
  refine pieces_ok (k := k + 6) o1 d1 (hy.mono x1) ec hc hp (by omega) hcl fun p2 S2 R2 o2 x2 d2 => ?_
  generalize hps : piecesL xs cuts pace = ps at d2
  have plen : ps.length ≤ 800000 := by have := pieces_len (xs := xs) (cuts := cuts) (pace := pace); rw [hps] at this; omega
  have pok : pcOk xs ps := by rw [← hps]; exact pieces_each
  wtm_at "v"
  rename_i p3 S3 o3
  have ez : ((0 : Nat) : Int) = 0 := rfl
  refine s_e1 o3 d2 fun ws g hst => ?_
  have wl : ws.length = ps.length := by rw [g.length, List.length_map]
  refine lp_by (fun i σ S => ∃ (v7 v8 v9 : Option W) (vs : List W) (R' : Store), σ = [some (.int l), some (.str z), some xd, some y, some (.int pace), some (.ref p2), some (.ref p3), v7, v8, v9] ∧ i ≤ ps.length ∧ Own S R' ((p3, .lst vs) :: cs) ∧ Ext R2 R' ∧ RpA R' ((List.range i).map (slAt (firstS (.str z)) l ps)) vs) ⟨_, _, _, [], R2, rfl, Nat.zero_le _, o3, .refl, rpA_nil⟩ (fun i w σ S e h3 => ?_) fun σ S h3 => ?_
  · obtain ⟨v7, v8, v9, vs, R', rfl, hi, o4, x4, gv⟩ := h3
    refine ⟨hst _ _ _ o4 x4, ?_⟩
    obtain ⟨v, ev, rfl⟩ := enum_at e
    obtain ⟨t, f1, r1⟩ := g.of ev
    rw [List.getElem?_map] at f1
    cases ee : ps[i]? with
    | none => rw [ee] at f1; cases f1
    | some pc =>
    rw [ee] at f1
    cases f1
    have hlt := (List.getElem?_eq_some_iff.mp ee).1
    have hpk := pok pc (List.mem_of_getElem? ee)
    have pbyt := hpk.1 hb
    have plen1 := hpk.2
    have vl : vs.length = i := by rw [gv.length, List.length_map, List.length_range]
    have gd : ps.getD i [] = pc := by rw [List.getD_eq_getElem?_getD, ee]; rfl
    wtm_at "v"
    unfold L37_1
    wtm_at "v"
    have sok : ∀ {b : Bool}, SlipOk (if i = 0 then firstS (.str z) else 0) l pc b none := fun {b} => by
      have f12 := firstS_12 (tw := .str z)
      by_cases hi0 : i = 0
      · rw [if_pos hi0]
        exact ⟨by omega, hlane, pbyt, by omega, fun h8 => by omega, fun ns e => by cases e⟩
      · rw [if_neg hi0]
        exact ⟨by omega, hlane, pbyt, by omega, fun h8 => by omega, fun ns e => by cases e⟩
    have nxt : ∀ {b : Bool} {a : Addr} {R5 : Store}, decide (0 + (i : Int) = (ps.length : Int) - 1) = b → Rp R5 (slipT (if i = 0 then firstS (.str z) else 0) l pc b none) (.ref a) → RpA R5 ((List.range i).map (slAt (firstS (.str z)) l ps)) vs → RpA R5 ((List.range (i + 1)).map (slAt (firstS (.str z)) l ps)) (vs ++ [.ref a]) := fun {b a R5} hb d g5 => by
      rw [List.range_succ, List.map_append]
      refine g5.app (rpA_cons ?_ rpA_nil)
      have e0 : (0 : Int) + i = i := by omega
      unfold slAt
      rw [gd, ← e0, hb]
      exact d
    refine br_dec (fun e3 => ?_) (fun e3 => ?_)
    · have i0 : i = 0 := by omega
      refine s_digS (lk_first rfl hw2) ?_
      wtm_at "v"
      rename_i a5 S5 o5
      rw [if_pos i0] at sok nxt
      rw [List.length_map]
      refine init_ok (k := k) o5 sok (r1.mono x4) rfl rp_non .non fun S6 R6 o6 x6 d6 => ⟨rfl, ?_⟩
      wtm_at "v"
      rename_i S7 o7
      exact ⟨_, _, _, _, R6, rfl, by omega, o7, x4.trans x6, nxt rfl d6 (gv.mono x6)⟩
    · wtm_at "v"
      rename_i a5 S5 o5
      rw [if_neg (by omega)] at sok nxt
      rw [List.length_map]
      refine init_ok (k := k) o5 sok (r1.mono x4) rfl rp_non .non fun S6 R6 o6 x6 d6 => ⟨rfl, ?_⟩
      wtm_at "v"
      rename_i S7 o7
      exact ⟨_, _, _, _, R6, rfl, by omega, o7, x4.trans x6, nxt rfl d6 (gv.mono x6)⟩
  · obtain ⟨v7, v8, v9, vs, R', rfl, hi, o4, x4, gv⟩ := h3
    refine ⟨hst _ _ _ o4 x4, ?_⟩
    wtm_at "v"
    rw [enumI_len, wl] at gv
    exact qn hw p3 vs xs _ R' hb hx hrow o4 (x1.trans (x2.trans x4)) (by rw [hps]; exact gv)
theorem words_ok {k : Nat} {p a b : Addr} {n : Int} {ss : List Int} {bs' : List W} {S R : Store} {cs : Cells} {Q : WP} {E : XP} (o : Own S R ((p, .ins 4 (sgF a b n)) :: (b, .lst bs') :: (a, .lst (ss.map .int)) :: cs)) (q : ∀ c S', Own S' R ((c, .lst (ss.map .int)) :: (p, .ins 4 (sgF a b n)) :: (b, .lst bs') :: (a, .lst (ss.map .int)) :: cs) → Q (.ref c) S') : cl bs (k + 1) 16 [.ref p] S Q E := by
  refine cl_in (F := ⟨1, 1, b16⟩) rfl rfl ?_
  show b16 (semN bs k) (endW Q E) [some (.ref p)] S
  unfold b16
  wtm_at "v"
  exact v_list (items_lst o.rot.at) fun c hc => q c _ (o.new hc)
theorem behN_le {x : Int} : behN x ≤ 3 := by
  unfold behN
  split
  · omega
  · split <;> omega
/-! ### a letter that is begun -/
theorem perm_er {α : Type} {l : List α} {i : Nat} {x : α} (h : l[i]? = some x) : (x :: l.eraseIdx i).Perm l := by
  induction l generalizing i with
  | nil => cases h
  | cons a l ih =>
    cases i with
    | zero => cases h; exact .refl _
    | succ i => exact (List.Perm.swap ..).trans ((ih h).cons a)
theorem Own.nt {S R : Store} {l : Cells} (i : Nat) {x : Addr × O} (o : Own S R l) (h : l[i]? = some x) : Own S R (x :: l.eraseIdx i) := o.perm (perm_er h).symm
theorem Own.b3 {S R : Store} {a b c d e : Addr × O} {cs : Cells} (o : Own S R (a :: b :: c :: d :: e :: cs)) : Own S R (c :: d :: e :: a :: b :: cs) := by
  have o1 : Own S R (e :: a :: b :: c :: d :: cs) := o.nt 4 rfl
  have o2 : Own S R (d :: e :: a :: b :: c :: cs) := o1.nt 4 rfl
  exact o2.nt 4 rfl
theorem Own.f2 {S R : Store} {a b c d e : Addr × O} {cs : Cells} (o : Own S R (c :: d :: e :: a :: b :: cs)) : Own S R (a :: b :: c :: d :: e :: cs) := by
  have o1 : Own S R (b :: c :: d :: e :: a :: cs) := o.nt 4 rfl
  exact o1.nt 4 rfl
abbrev gF (w : Str) (b p : Addr) : List (Str × W) := [("own_word", .str w), ("own_bytes", .ref b), ("own_signs", .ref p)]
theorem ginit_ok {k : Nat} {g : Addr} {w : Str} {S R : Store} {cs : Cells} {Q : WP} {E : XP} (o : Own S R ((g, .ins 6 []) :: cs)) (q : ∀ b p sb sa S', Own S' R ((g, .ins 6 (gF w b p)) :: (b, .lst []) :: (p, .ins 4 (sgF sa sb 0)) :: (sb, .lst []) :: (sa, .lst []) :: cs) → Q .non S') : cl bs (k + 3) 38 [.ref g, .str w] S Q E := by
  refine cl_in (F := ⟨2, 2, b38⟩) rfl rfl ?_
  show b38 (semN bs (k + 2)) (endW Q E) [some (.ref g), some (.str w)] S
  unfold b38
  wtm_at "v"
  rename_i b S1 o1 S2 o2 p S3 o3
  refine sinit_ok (k := k) o3 fun sa sb S4 o4 => ⟨rfl, ?_⟩
  have o4 : Own S4 R ((g, .ins 6 (putFW "own_bytes" (.ref b) (putFW "own_word" (.str w) []))) :: (p, .ins 4 (sgF sa sb 0)) :: (sb, .lst []) :: (sa, .lst []) :: (b, .lst []) :: cs) := o4.nt 3 rfl
  wtm_at "v"
  rename_i S5 o5
  have o6 : Own S5 R ((b, .lst []) :: (g, .ins 6 (gF w b p)) :: (p, .ins 4 (sgF sa sb 0)) :: (sb, .lst []) :: (sa, .lst []) :: cs) := o5.nt 4 rfl
  exact q b p sb sa _ o6.swap
theorem goes_on_ok {k : Nat} {g b p sa sb : Addr} {w : Str} {n s l : Int} {xs pc bg ss bg' ss' : List Int} {last : Bool} {x : W} {S R : Store} {cs : Cells} {Q : WP} {E : XP}
    (o : Own S R ((g, .ins 6 (gF w b p)) :: (b, .lst (xs.map .int)) :: (p, .ins 4 (sgF sa sb n)) :: (sb, .lst (bg.map .int)) :: (sa, .lst (ss.map .int)) :: cs)) (h : Rp R (slipT s l pc last none) x) (hl : xs.length + pc.length ≤ 800000) (hss : ss.length ≤ xs.length) (hbg : bg.length ≤ 2)
    (hr : w = "words" → sgRun bg ss pc = some (bg', ss') ∧ (last = true → bg' = [])) (hb : w ≠ "words" → bg' = bg ∧ ss' = ss)
    (q : ∀ sb' n' S', bg'.length ≤ 2 → ss'.length ≤ xs.length + pc.length → Own S' R ((g, .ins 6 (gF w b p)) :: (b, .lst ((xs ++ pc).map .int)) :: (p, .ins 4 (sgF sa sb' n')) :: (sb', .lst (bg'.map .int)) :: (sa, .lst (ss'.map .int)) :: cs) → Q .non S') : cl bs (k + 3) 39 [.ref g, x] S Q E := by
  refine cl_in (F := ⟨2, 3, b39⟩) rfl rfl ?_
  show b39 (semN bs (k + 2)) (endW Q E) [some (.ref g), some x, none] S
  unfold b39
  wtm_at "v"
  rename_i v d
  refine s_extT o.swap d (by simp only [List.length_map]; omega) fun S1 vs g1 o1 => ?_
  obtain rfl := g1.ints
  rw [← List.map_append] at o1
  replace o1 := o1.swap
  by_cases hw : w = "words"
  · subst hw
    obtain ⟨hr1, hr2⟩ := hr rfl
    wtm_at "v"
    rename_i v2 d2
    refine s_si o1 d2 rfl fun ws g2 hst => ?_
    refine lp_by (fun i σ S => ∃ bg2 s2 sb2 n2 w2, σ = [some (.ref g), some x, w2] ∧ sgRun bg2 s2 (pc.drop i) = some (bg', ss') ∧ bg2.length ≤ 2 ∧ s2.length ≤ xs.length + i ∧ i ≤ pc.length ∧ Own S R ((g, .ins 6 (gF "words" b p)) :: (b, .lst ((xs ++ pc).map .int)) :: (p, .ins 4 (sgF sa sb2 n2)) :: (sb2, .lst (bg2.map .int)) :: (sa, .lst (s2.map .int)) :: cs)) ⟨bg, ss, sb, n, none, rfl, hr1, hbg, by omega, Nat.zero_le _, o1⟩ (fun i w σ S e h => ?_) fun σ S h => ?_
    · obtain ⟨bg2, s2, sb2, n2, w2, rfl, hr, hb, hs, hi, o⟩ := h
      refine ⟨hst _ _ _ o .refl, ?_⟩
      obtain ⟨t, f1, r1⟩ := g2.of e
      rw [List.getElem?_map] at f1
      cases ex : pc[i]? with
      | none => rw [ex] at f1; cases f1
      | some y =>
        rw [ex] at f1
        cases f1
        obtain rfl := r1.int
        have hlt := (List.getElem?_eq_some_iff.mp ex).1
        have hd : pc.drop i = y :: pc.drop (i + 1) := by
          rw [List.drop_eq_getElem_cons hlt]
          rw [List.getElem?_eq_getElem hlt] at ex
          cases ex
          rfl
        rw [hd, sgRun] at hr
        wtm_at "v"
        unfold L39_1
        wtm_at "v"
        have hfit : (if bg2 = [] then begB y else folB bg2 y) = true := by
          by_cases z : (if bg2 = [] then begB y else folB bg2 y) = true
          · exact z
          · rw [if_neg z] at hr; cases hr
        rw [if_pos hfit] at hr
        have hle := behN_le (x := (bg2 ++ [y]).headD 0)
        refine put_ok (k := k) o.b3 hb (by rw [List.length_map]; omega) hfit (fun z S3 o3 => ?_) (fun z b3 S3 o3 => ?_)
        · rw [if_pos z] at hr
          exact ⟨_, _, _, _, _, rfl, hr, by omega, by omega, by omega, o3.f2⟩
        · rw [if_neg z] at hr
          have em : (s2 ++ [sigOf (bg2 ++ [y])]).map W.int = s2.map W.int ++ [.int (sigOf (bg2 ++ [y]))] := by rw [List.map_append]; rfl
          exact ⟨[], _, _, _, _, rfl, hr, by simp, by simp; omega, by omega, by rw [em]; exact o3.f2⟩
    · obtain ⟨bg2, s2, sb2, n2, w2, rfl, hr, hb, hs, hi, o⟩ := h
      refine ⟨hst _ _ _ o .refl, ?_⟩
      rw [List.drop_eq_nil_of_le (by have := g2.length; rw [List.length_map] at this; omega), sgRun] at hr
      cases hr
      have hwl : ws.length = pc.length := by have := g2.length; rw [List.length_map] at this; omega
      wtm_at "v"
      rename_i vl dl
      obtain rfl := dl.bl
      cases last with
      | false =>
        wtm_at "v"
        exact q sb2 n2 _ hb (by omega) o
      | true =>
        obtain rfl := hr2 rfl
        have oS : Own S R ((sb2, .lst ([] : List W)) :: (g, .ins 6 (gF "words" b p)) :: (b, .lst ((xs ++ pc).map .int)) :: (p, .ins 4 (sgF sa sb2 n2)) :: (sa, .lst (ss'.map .int)) :: cs) := o.nt 3 rfl
        obtain ⟨f1, y1, z1⟩ := oS.frz
        have f2 : Own S _ ((p, .ins 4 (sgF sa sb2 n2)) :: (g, .ins 6 (gF "words" b p)) :: (b, .lst ((xs ++ pc).map .int)) :: (sa, .lst (ss'.map .int)) :: cs) := f1.nt 2 rfl
        wtm_at "v"
        refine is_whole_ok (k := k + 1) (bg := []) f2 rfl (rp_lst z1 rpA_nil) fun S1 o1 => ?_
        have o2 : Own S1 _ ((g, .ins 6 (gF "words" b p)) :: (b, .lst ((xs ++ pc).map .int)) :: (p, .ins 4 (sgF sa sb2 n2)) :: (sa, .lst (ss'.map .int)) :: cs) := (o1.nt 2 rfl).nt 2 rfl
        have o3 := (o2.thaw oS).nt 3 rfl
        have o4 : Own S1 R ((b, .lst ((xs ++ pc).map .int)) :: (p, .ins 4 (sgF sa sb2 n2)) :: (sb2, .lst ([] : List W)) :: (g, .ins 6 (gF "words" b p)) :: (sa, .lst (ss'.map .int)) :: cs) := o3.nt 3 rfl
        have o5 : Own S1 R ((g, .ins 6 (gF "words" b p)) :: (b, .lst ((xs ++ pc).map .int)) :: (p, .ins 4 (sgF sa sb2 n2)) :: (sb2, .lst ([] : List W)) :: (sa, .lst (ss'.map .int)) :: cs) := o4.nt 3 rfl
        wtm_at "v"
        exact q sb2 n2 _ hb (by omega) o5
  · obtain ⟨rfl, rfl⟩ := hb hw
    wtm_at "v"
    exact q sb n _ hbg (by omega) o1
theorem gletter_ok {k : Nat} {g b p sa sb : Addr} {w : Str} {n l : Int} {xs ss row : List Int} {bg : List W} {S R : Store} {cs : Cells} {Q : WP} {E : XP}
    (o : Own S R ((g, .ins 6 (gF w b p)) :: (b, .lst (xs.map .int)) :: (p, .ins 4 (sgF sa sb n)) :: (sb, .lst bg) :: (sa, .lst (ss.map .int)) :: cs)) (hr : row = if w = "words" then ss else xs) (hl : xs.length ≤ 800000)
    (q : ∀ c S', Own S' R ((c, .lst (row.map .int)) :: (g, .ins 6 (gF w b p)) :: (b, .lst (xs.map .int)) :: (p, .ins 4 (sgF sa sb n)) :: (sb, .lst bg) :: (sa, .lst (ss.map .int)) :: cs) → Q (.tup [.int l, .str w, .ref c]) S') : cl bs (k + 2) 40 [.ref g, .int l] S Q E := by
  refine cl_in (F := ⟨2, 2, b40⟩) rfl rfl ?_
  show b40 (semN bs (k + 1)) (endW Q E) [some (.ref g), some (.int l)] S
  unfold b40
  wtm_at "v"
  by_cases hw : w = "words"
  · subst hw
    rw [if_pos rfl] at hr
    subst hr
    wtm_at "v"
    refine words_ok (k := k) o.b3 fun c S1 o1 => ?_
    have o2 : Own S1 R ((b, .lst (xs.map .int)) :: (c, .lst (row.map .int)) :: (p, .ins 4 (sgF sa sb n)) :: (sb, .lst bg) :: (sa, .lst (row.map .int)) :: (g, .ins 6 (gF "words" b p)) :: cs) := o1.nt 5 rfl
    have o3 : Own S1 R ((g, .ins 6 (gF "words" b p)) :: (b, .lst (xs.map .int)) :: (c, .lst (row.map .int)) :: (p, .ins 4 (sgF sa sb n)) :: (sb, .lst bg) :: (sa, .lst (row.map .int)) :: cs) := o2.nt 5 rfl
    have o4 : Own S1 R ((c, .lst (row.map .int)) :: (g, .ins 6 (gF "words" b p)) :: (b, .lst (xs.map .int)) :: (p, .ins 4 (sgF sa sb n)) :: (sb, .lst bg) :: (sa, .lst (row.map .int)) :: cs) := o3.nt 2 rfl
    wtm_at "v"
    exact q c _ o4
  · rw [if_neg hw] at hr
    subst hr
    wtm_at "v"
    refine v_list (items_lst o.swap.at) fun c hc => ?_
    have o2 := Own.new (o := .lst (row.map .int)) o hc
    wtm_at "v"
    exact q c _ o2
/-! ### slips are joined -/
theorem Own.s35 {S R : Store} {a b c d e f g h : Addr × O} {cs : Cells} (o : Own S R (a :: b :: c :: d :: e :: f :: g :: h :: cs)) : Own S R (d :: e :: f :: g :: h :: a :: b :: c :: cs) := by
  have o1 : Own S R (h :: a :: b :: c :: d :: e :: f :: g :: cs) := o.nt 7 rfl
  have o2 : Own S R (g :: h :: a :: b :: c :: d :: e :: f :: cs) := o1.nt 7 rfl
  have o3 : Own S R (f :: g :: h :: a :: b :: c :: d :: e :: cs) := o2.nt 7 rfl
  have o4 : Own S R (e :: f :: g :: h :: a :: b :: c :: d :: cs) := o3.nt 7 rfl
  exact o4.nt 7 rfl
theorem Own.s53 {S R : Store} {a b c d e f g h : Addr × O} {cs : Cells} (o : Own S R (d :: e :: f :: g :: h :: a :: b :: c :: cs)) : Own S R (a :: b :: c :: d :: e :: f :: g :: h :: cs) := by
  have o1 : Own S R (c :: d :: e :: f :: g :: h :: a :: b :: cs) := o.nt 7 rfl
  have o2 : Own S R (b :: c :: d :: e :: f :: g :: h :: a :: cs) := o1.nt 7 rfl
  exact o2.nt 7 rfl
abbrev jF (d1 d2 : Addr) : List (Str × W) := [("own_begun", .ref d1), ("own_ended", .ref d2), ("own_over", .bl false)]
theorem jinit_ok {k : Nat} {j : Addr} {S R : Store} {cs : Cells} {Q : WP} {E : XP} (o : Own S R ((j, .ins 7 []) :: cs)) (q : ∀ d1 d2 S', Own S' R ((j, .ins 7 (jF d1 d2)) :: (d1, .dic []) :: (d2, .dic []) :: cs) → Q .non S') : cl bs (k + 1) 41 [.ref j] S Q E := by
  refine cl_in (F := ⟨1, 1, b41⟩) rfl rfl ?_
  show b41 (semN bs k) (endW Q E) [some (.ref j)] S
  unfold b41
  wtm_at "v"
  rename_i d1 S1 o1 S2 o2 d2 S3 o3 S4 o4 S5 o5
  have o6 : Own S5 R ((d1, .dic []) :: (j, .ins 7 (jF d1 d2)) :: (d2, .dic []) :: cs) := o5.nt 2 rfl
  exact q d1 d2 _ o6.swap
theorem lk_one {l : Int} {w : W} : lkD [((.inl l : Key), w)] (.inl l) = some w := by simp [lkD]
theorem drop_one {l : Int} {w : W} : dropD [((.inl l : Key), w)] (.inl l) = [] := by simp [dropD]
def tailT (cs : MP.Sem) : TwS := (seqS (setS 2 (op2S idxW (fldC [4, 7] "own_begun" (varS 0)) (fldC [5] "talk" (varS 1))))
  (seqS (dropS (methN cs [(6, (39, [.ix 0, .ix 1]))] "goes_on" 1 0 (varS 2) (consA (varS 1) nilA) nilA))
  (seqS (ifS' (notT (truS (fldC [5] "last" (varS 1))))
  (retS (lstS nilA))
  nextS)
  (seqS (dropS (mtS .popAt (fldC [4, 7] "own_begun" (varS 0)) (consA (fldC [5] "talk" (varS 1)) nilA)))
  (retS (lstS (consA (methN cs [(6, (40, [.ix 0, .ix 1]))] "letter" 1 0 (varS 2) (consA (fldC [5] "talk" (varS 1)) nilA) nilA) nilA)))))))
/-- what stands behind a slip of a letter -/
structure AfT (S R : Store) (cs : Cells) (j d1 d2 g b p sa : Addr) (w : Str) (l : Int) (xs bg ss : List Int) (last : Bool) (r : Addr) : Prop where
  go : last = false → ∃ sb n, Own S R ((r, .lst []) :: (j, .ins 7 (jF d1 d2)) :: (d1, .dic [(.inl l, .ref g)]) :: (d2, .dic []) :: (g, .ins 6 (gF w b p)) :: (b, .lst (xs.map .int)) :: (p, .ins 4 (sgF sa sb n)) :: (sb, .lst (bg.map .int)) :: (sa, .lst (ss.map .int)) :: cs)
  fin : last = true → ∃ c, Own S R ((r, .lst [.tup [.int l, .str w, .ref c]]) :: (c, .lst ((if w = "words" then ss else xs).map .int)) :: (j, .ins 7 (jF d1 d2)) :: (d1, .dic []) :: (d2, .dic []) :: cs)
theorem tailT_ok {k : Nat} {j d1 d2 g b p sa sb : Addr} {w : Str} {n s l : Int} {xs pc bg ss bg' ss' : List Int} {last : Bool} {x : W} {v2 : Option W} {S R : Store} {cs : Cells} {Q : WP} {E : XP}
    (o : Own S R ((j, .ins 7 (jF d1 d2)) :: (d1, .dic [(.inl l, .ref g)]) :: (d2, .dic []) :: (g, .ins 6 (gF w b p)) :: (b, .lst (xs.map .int)) :: (p, .ins 4 (sgF sa sb n)) :: (sb, .lst (bg.map .int)) :: (sa, .lst (ss.map .int)) :: cs)) (h : Rp R (slipT s l pc last none) x) (hl : xs.length + pc.length ≤ 800000) (hss : ss.length ≤ xs.length) (hbg : bg.length ≤ 2)
    (hr : w = "words" → sgRun bg ss pc = some (bg', ss') ∧ (last = true → bg' = [])) (hb : w ≠ "words" → bg' = bg ∧ ss' = ss)
    (q : ∀ r S', bg'.length ≤ 2 → ss'.length ≤ xs.length + pc.length → AfT S' R cs j d1 d2 g b p sa w l (xs ++ pc) bg' ss' last r → Q (.ref r) S') : tailT (semN bs (k + 3)) (endW Q E) [some (.ref j), some x, v2] S := by
  unfold tailT
  wtm_at "v"
  rename_i vl dl
  obtain rfl := dl.int
  refine s_idxD o.swap rfl lk_one ?_
  wtm_at "v"
  refine goes_on_ok (k := k) o.s35 h hl hss hbg hr hb fun sb' n' S1 hb2 hs2 o1 => ?_
  have o2 := o1.s53
  clear o o1
  wtm_at "v"
  rename_i vz dz
  obtain rfl := dz.bl
  cases last with
  | false =>
    wtm_at "v"
    rename_i r S3 o3
    exact q r _ hb2 hs2 ⟨fun _ => ⟨sb', n', o3⟩, fun e => by cases e⟩
  | true =>
    wtm_at "v"
    rename_i vl2 dl2
    obtain rfl := dl2.int
    refine s_popD o2.swap rfl lk_one fun S3 o3 => ?_
    rw [drop_one] at o3
    replace o3 := o3.swap
    wtm_at "v"
    rename_i vl3 dl3
    obtain rfl := dl3.int
    refine gletter_ok (k := k + 1) o3.s35 rfl (by rw [List.length_append]; omega) fun c S4 o4 => ?_
    wtm_at "v"
    refine s_lstC o4 (by simp) fun r S5 o5 => ?_
    refine q r _ hb2 hs2 ⟨(fun e => by cases e), fun _ => ⟨c, ?_⟩⟩
    have o6 := ((((((o5.nt 2 rfl : Own _ _ (_ :: _)).drop.nt 2 rfl : Own _ _ (_ :: _)).drop.nt 2 rfl : Own _ _ (_ :: _)).drop.nt 2 rfl : Own _ _ (_ :: _)).drop.nt 2 rfl : Own _ _ (_ :: _)).drop)
    exact o6
/-- a letter's first slip -/
theorem tl_first {k : Nat} {j d1 d2 : Addr} {w : Str} {s l : Int} {pc bg' ss' : List Int} {last : Bool} {x : W} {S R : Store} {cs : Cells} {Q : WP} {E : XP}
    (o : Own S R ((j, .ins 7 (jF d1 d2)) :: (d1, .dic []) :: (d2, .dic []) :: cs)) (h : Rp R (slipT s l pc last none) x) (hs : s = 1 ∧ w = "words" ∨ s = 2 ∧ w = "bytes") (hl : pc.length ≤ 800000)
    (hr : w = "words" → sgRun [] [] pc = some (bg', ss') ∧ (last = true → bg' = [])) (hb : w ≠ "words" → bg' = [] ∧ ss' = [])
    (q : ∀ g b p sa r S', bg'.length ≤ 2 → ss'.length ≤ pc.length → AfT S' R cs j d1 d2 g b p sa w l pc bg' ss' last r → Q (.ref r) S') : cl bs (k + 5) 44 [.ref j, x] S Q E := by
  refine cl_in (F := ⟨2, 3, b44⟩) rfl rfl ?_
  show b44 (semN bs (k + 4)) (endW Q E) [some (.ref j), some x, none] S
  unfold b44
  have fd : ∀ cs : MP.Sem, (seqS (setS 2 (op2S idxW (fldC [4, 7] "own_begun" (varS 0)) (fldC [5] "talk" (varS 1))))
  (seqS (dropS (methN cs [(6, (39, [.ix 0, .ix 1]))] "goes_on" 1 0 (varS 2) (consA (varS 1) nilA) nilA))
  (seqS (ifS' (notT (truS (fldC [5] "last" (varS 1))))
  (retS (lstS nilA))
  nextS)
  (seqS (dropS (mtS .popAt (fldC [4, 7] "own_begun" (varS 0)) (consA (fldC [5] "talk" (varS 1)) nilA)))
  (retS (lstS (consA (methN cs [(6, (40, [.ix 0, .ix 1]))] "letter" 1 0 (varS 2) (consA (fldC [5] "talk" (varS 1)) nilA) nilA) nilA))))))) = tailT cs := fun _ => rfl
  rw [fd (semN bs (k + 4))]
  have go : ∀ {g b p sb sa S1}, Own S1 R ((g, .ins 6 (gF w b p)) :: (b, .lst []) :: (p, .ins 4 (sgF sa sb 0)) :: (sb, .lst []) :: (sa, .lst []) :: (j, .ins 7 (jF d1 d2)) :: (d1, .dic [(.inl l, .ref g)]) :: (d2, .dic []) :: cs) → tailT (semN bs (k + 4)) (endW Q E) [some (.ref j), some x, none] S1 := fun {g b p sb sa S1} o1 => by
    refine tailT_ok (k := k + 1) (xs := []) (ss := []) (bg := []) o1.s53 h (by simpa using hl) (Nat.le_refl _) (by simp) hr hb fun r S' h1 h2 h3 => ?_
    exact q g b p sa r S' h1 (by simpa using h2) h3
  rcases hs with ⟨rfl, rfl⟩ | ⟨rfl, rfl⟩
  · wtm_at "v"
    rename_i v1 e1
    obtain rfl := e1.int
    wtm_at "v"
    rename_i v2 e2
    obtain rfl := e2.int
    refine s_inDc o.swap rfl ?_
    wtm_at "v"
    rename_i v3 e3
    obtain rfl := e3.int
    wtm_at "v"
    rename_i v4 e4
    obtain rfl := e4.int
    wtm_at "v"
    rename_i g S1 o1
    refine ginit_ok (k := k) o1 fun b p sb sa S2 o2 => ⟨rfl, ?_⟩
    have o3 := o2.s53
    wtm_at "v"
    rename_i v5 e5
    obtain rfl := e5.int
    refine s_stiD o3.swap rfl (by decide) fun S4 o4 => ?_
    exact go o4.swap.s35
  · wtm_at "v"
    rename_i v1 e1
    obtain rfl := e1.int
    wtm_at "v"
    rename_i v2 e2
    obtain rfl := e2.int
    refine s_inDc o.swap rfl ?_
    wtm_at "v"
    rename_i v3 e3
    obtain rfl := e3.int
    wtm_at "v"
    rename_i v4 e4
    obtain rfl := e4.int
    wtm_at "v"
    rename_i g S1 o1
    refine ginit_ok (k := k) o1 fun b p sb sa S2 o2 => ⟨rfl, ?_⟩
    have o3 := o2.s53
    wtm_at "v"
    rename_i v5 e5
    obtain rfl := e5.int
    refine s_stiD o3.swap rfl (by decide) fun S4 o4 => ?_
    exact go o4.swap.s35
/-- a letter's next slip -/
theorem tl_more {k : Nat} {j d1 d2 g b p sa sb : Addr} {w : Str} {n l : Int} {xs pc bg ss bg' ss' : List Int} {last : Bool} {x : W} {S R : Store} {cs : Cells} {Q : WP} {E : XP}
    (o : Own S R ((j, .ins 7 (jF d1 d2)) :: (d1, .dic [(.inl l, .ref g)]) :: (d2, .dic []) :: (g, .ins 6 (gF w b p)) :: (b, .lst (xs.map .int)) :: (p, .ins 4 (sgF sa sb n)) :: (sb, .lst (bg.map .int)) :: (sa, .lst (ss.map .int)) :: cs)) (h : Rp R (slipT 0 l pc last none) x) (hl : xs.length + pc.length ≤ 800000) (hss : ss.length ≤ xs.length) (hbg : bg.length ≤ 2)
    (hr : w = "words" → sgRun bg ss pc = some (bg', ss') ∧ (last = true → bg' = [])) (hb : w ≠ "words" → bg' = bg ∧ ss' = ss)
    (q : ∀ r S', bg'.length ≤ 2 → ss'.length ≤ xs.length + pc.length → AfT S' R cs j d1 d2 g b p sa w l (xs ++ pc) bg' ss' last r → Q (.ref r) S') : cl bs (k + 5) 44 [.ref j, x] S Q E := by
  refine cl_in (F := ⟨2, 3, b44⟩) rfl rfl ?_
  show b44 (semN bs (k + 4)) (endW Q E) [some (.ref j), some x, none] S
  unfold b44
  have fd : ∀ cs : MP.Sem, (seqS (setS 2 (op2S idxW (fldC [4, 7] "own_begun" (varS 0)) (fldC [5] "talk" (varS 1))))
  (seqS (dropS (methN cs [(6, (39, [.ix 0, .ix 1]))] "goes_on" 1 0 (varS 2) (consA (varS 1) nilA) nilA))
  (seqS (ifS' (notT (truS (fldC [5] "last" (varS 1))))
  (retS (lstS nilA))
  nextS)
  (seqS (dropS (mtS .popAt (fldC [4, 7] "own_begun" (varS 0)) (consA (fldC [5] "talk" (varS 1)) nilA)))
  (retS (lstS (consA (methN cs [(6, (40, [.ix 0, .ix 1]))] "letter" 1 0 (varS 2) (consA (fldC [5] "talk" (varS 1)) nilA) nilA) nilA))))))) = tailT cs := fun _ => rfl
  rw [fd (semN bs (k + 4))]
  wtm_at "v"
  rename_i v1 e1
  obtain rfl := e1.int
  wtm_at "v"
  rename_i v2 e2
  obtain rfl := e2.int
  refine s_inDc o.swap rfl ?_
  rw [lk_one]
  wtm_at "v"
  rename_i v3 e3
  obtain rfl := e3.int
  wtm_at "v"
  exact tailT_ok (k := k + 1) o h hl hss hbg hr hb q
theorem sgRun_app : ∀ {a b bg ss : List Int}, sgRun bg ss (a ++ b) = (sgRun bg ss a).bind fun q => sgRun q.1 q.2 b
  | [], b, bg, ss => by simp [sgRun]
  | y :: a, b, bg, ss => by
    rw [List.cons_append, sgRun, sgRun]
    by_cases f : (if bg = [] then begB y else folB bg y) = true
    · rw [if_pos f, if_pos f]
      split
      · exact sgRun_app
      · exact sgRun_app
    · rw [if_neg f, if_neg f]; rfl
theorem take_j_ok {k : Nat} {j d1 d2 : Addr} {D : O} {s l : Int} {pc : List Int} {last : Bool} {x : W} {S R : Store} {cs : Cells} {Q : WP} {E : XP} (o : Own S R ((j, .ins 7 (jF d1 d2)) :: (d1, D) :: (d2, .dic []) :: cs)) (h : Rp R (slipT s l pc last none) x) (hs : s = 0 ∨ s = 1 ∨ s = 2)
    (q : cl bs k 44 [.ref j, x] S Q (fun e S' => E e S')) : cl bs (k + 1) 43 [.ref j, x] S Q E := by
  refine cl_in (F := ⟨2, 2, b43⟩) rfl rfl ?_
  show b43 (semN bs k) (endW Q E) [some (.ref j), some x] S
  unfold b43
  wtm_at "v"
  rename_i v1 e1
  obtain rfl := e1.int
  refine s_inDc o.rot rfl ?_
  wtm_at "v"
  rename_i v2 e2
  obtain rfl := e2.int
  refine v_inT rfl rfl ?_
  have ea : ([W.int 1, .int 2, .int 0].any fun w => eqF w (.int s)) = true := by
    rcases hs with rfl | rfl | rfl <;> rfl
  rw [ea]
  wtm_at "v"
  exact q
theorem Own.push {S R : Store} {c : Addr × O} {L cs : Cells} (o : Own S R (c :: (L ++ cs))) : Own S R (L ++ c :: cs) := o.perm List.perm_middle.symm
theorem Own.pull {S R : Store} {c : Addr × O} {L cs : Cells} (o : Own S R (L ++ c :: cs)) : Own S R (c :: (L ++ cs)) := o.perm List.perm_middle
theorem s_extC {S R : Store} {f r : Addr} {ws vs : List W} {cs : Cells} {Q : WP} (o : Own S R ((f, .lst ws) :: (r, .lst vs) :: cs)) (hl : ws.length + vs.length ≤ 1000000) (k : ∀ S', Own S' R ((f, .lst (ws ++ vs)) :: (r, .lst vs) :: cs) → Q .non S') : mtW .extend (.ref f) [.ref r] S Q := by
  have e := o.at
  have e2 := o.swap.at
  show (match S f with | some (.lst xs) => (match S r with | some (.lst ys) => xs.length + ys.length ≤ sizeLine ∧ Q .non (put S f (.lst (xs ++ ys))) | _ => False) | _ => False)
  rw [e, e2]
  exact ⟨sz_ok hl, k _ o.wr⟩
theorem is_over_ok {k : Nat} {j d1 d2 : Addr} {S R : Store} {cs : Cells} {Q : WP} {E : XP} (o : Own S R ((j, .ins 7 (jF d1 d2)) :: cs)) (q : Q (.bl false) S) : cl bs (k + 1) 42 [.ref j] S Q E := by
  refine cl_in (F := ⟨1, 1, b42⟩) rfl rfl ?_
  show b42 (semN bs k) (endW Q E) [some (.ref j)] S
  unfold b42
  wtm_at "v"
  exact q
/-- a whole letter's slips -/
theorem joined_ok {k : Nat} {w : Str} {s l : Int} {ps : List (List Int)} {sg : List Int} {x : W} {S R : Store} {cs : Cells} {Q : WP} {E : XP} (o : Own S R cs) (h : Rp R (.lst (slipsL s l ps)) x) (hs : s = 1 ∧ w = "words" ∨ s = 2 ∧ w = "bytes") (hne : ps ≠ []) (hl : ps.flatten.length ≤ 800000) (hpl : ps.length ≤ 900000)
    (hr : w = "words" → sgRun [] [] ps.flatten = some ([], sg))
    (q : ∀ p S' R', Own S' R' cs → Ext R R' → Rp R' (.lst [.tup [.int l, .str w, il (if w = "words" then sg else ps.flatten)]]) (.ref p) → Q (.ref p) S') : cl bs (k + 7) 46 [x] S Q E := by
  refine cl_in (F := ⟨1, 5, b46⟩) rfl rfl ?_
  show b46 (semN bs (k + 6)) (endW Q E) [some x, none, none, none, none] S
  unfold b46
  have hn0 : 0 < ps.length := List.length_pos_iff.mpr hne
  obtain ⟨a, ws0, rfl, _⟩ := h.lst
  wtm_at "v"
  rename_i f S1 o1 j S2 o2
  refine jinit_ok (k := k + 4) o2 fun d1 d2 S3 o3 => ⟨rfl, ?_⟩
  wtm_at "v"
  refine s_e1 o3 h fun ws g hst => ?_
  have wl : ws.length = ps.length := by rw [g.length]; unfold slipsL; rw [List.length_map, List.length_range]
  -- what stands ahead of each turn
  let Z : Nat → Store → Prop := fun i S =>
    (i = 0 ∧ Own S R ((f, .lst []) :: (j, .ins 7 (jF d1 d2)) :: (d1, .dic []) :: (d2, .dic []) :: cs)) ∨
    (0 < i ∧ i < ps.length ∧ ∃ g b p sa sb n bg ss, bg.length ≤ 2 ∧ ss.length ≤ (ps.take i).flatten.length ∧ (w = "words" → sgRun [] [] (ps.take i).flatten = some (bg, ss)) ∧ (w ≠ "words" → bg = [] ∧ ss = []) ∧
      Own S R ((f, .lst []) :: (j, .ins 7 (jF d1 d2)) :: (d1, .dic [(.inl l, .ref g)]) :: (d2, .dic []) :: (g, .ins 6 (gF w b p)) :: (b, .lst ((ps.take i).flatten.map .int)) :: (p, .ins 4 (sgF sa sb n)) :: (sb, .lst (bg.map .int)) :: (sa, .lst (ss.map .int)) :: cs)) ∨
    (i = ps.length ∧ ∃ c, Own S R ((f, .lst [.tup [.int l, .str w, .ref c]]) :: (c, .lst ((if w = "words" then sg else ps.flatten).map .int)) :: (j, .ins 7 (jF d1 d2)) :: (d1, .dic []) :: (d2, .dic []) :: cs))
  have zo : ∀ {i S}, Z i S → ∃ cs', Own S R cs' := fun {i S} z => by
    rcases z with ⟨_, o⟩ | ⟨_, _, _, _, _, _, _, _, _, _, _, _, _, _, o⟩ | ⟨_, _, o⟩ <;> exact ⟨_, o⟩
  refine lp_by (fun i σ S => ∃ (v3 v4 : Option W), σ = [some (.ref a), some (.ref f), some (.ref j), v3, v4] ∧ i ≤ ps.length ∧ Z i S) ⟨_, _, rfl, Nat.zero_le _, .inl ⟨rfl, (Own.pull (L := [(j, _), (d1, _), (d2, _)]) o3)⟩⟩ (fun i w σ S e h2 => ?_) fun σ S h2 => ?_
  · obtain ⟨v3, v4, rfl, hi, z⟩ := h2
    obtain ⟨cs', oo⟩ := zo z
    refine ⟨hst _ _ _ oo .refl, ?_⟩
    clear oo
    obtain ⟨v, ev, rfl⟩ := enum_at e
    obtain ⟨t, f1, r1⟩ := g.of ev
    have hlt : i < ps.length := by rw [← wl]; exact (List.getElem?_eq_some_iff.mp ev).1
    have et : t = slAt s l ps i := by
      unfold slipsL at f1
      rw [List.getElem?_map, List.getElem?_range hlt] at f1
      exact (Option.some.inj f1).symm
    subst et
    unfold slAt at r1
    have gd : ps.getD i [] = ps[i] := by rw [List.getD_eq_getElem?_getD, List.getElem?_eq_getElem hlt]; rfl
    rw [gd] at r1
    have tk : (ps.take (i + 1)).flatten = (ps.take i).flatten ++ ps[i] := by
      rw [List.take_add_one, List.getElem?_eq_getElem hlt, List.flatten_append]
      simp
    have tot : ps.flatten = (ps.take (i + 1)).flatten ++ (ps.drop (i + 1)).flatten := by
      rw [← List.flatten_append, List.take_append_drop]
    have hlen : (ps.take i).flatten.length + ps[i].length ≤ 800000 := by
      have e1 := congrArg List.length tk
      have e2 := congrArg List.length tot
      rw [List.length_append] at e1 e2
      omega
    have run : ∀ {bg ss}, (w = "words" → sgRun [] [] (ps.take i).flatten = some (bg, ss)) → (w ≠ "words" → bg = [] ∧ ss = []) → ∃ bg' ss', (w = "words" → sgRun bg ss ps[i] = some (bg', ss') ∧ (decide ((i : Int) = (ps.length : Int) - 1) = true → bg' = [])) ∧ (w ≠ "words" → bg' = bg ∧ ss' = ss) ∧ (w = "words" → sgRun [] [] (ps.take (i + 1)).flatten = some (bg', ss')) ∧ (w ≠ "words" → bg' = [] ∧ ss' = []) ∧ (i + 1 = ps.length → (if w = "words" then ss' else (ps.take (i + 1)).flatten) = if w = "words" then sg else ps.flatten) := fun {bg ss} h1 h2 => by
      by_cases hw : w = "words"
      · have hf := hr hw
        have h1 := h1 hw
        rw [tot, sgRun_app] at hf
        obtain ⟨⟨bg', ss'⟩, e1, e2⟩ := Option.bind_eq_some_iff.mp hf
        have e3 := e1
        rw [tk, sgRun_app, h1] at e3
        have e3 : sgRun bg ss ps[i] = some (bg', ss') := e3
        have fin : i + 1 = ps.length → bg' = [] ∧ ss' = sg := fun he => by
          rw [List.drop_eq_nil_of_le (by omega)] at e2
          simp only [List.flatten_nil, sgRun, Option.some.injEq, Prod.mk.injEq] at e2
          exact e2
        refine ⟨bg', ss', fun _ => ⟨e3, fun hlast => (fin (by have := of_decide_eq_true hlast; omega)).1⟩, fun n => absurd hw n, fun _ => e1, fun n => absurd hw n, fun hend => ?_⟩
        rw [if_pos hw, if_pos hw, (fin hend).2]
      · obtain ⟨rfl, rfl⟩ := h2 hw
        exact ⟨[], [], fun e => absurd e hw, fun _ => ⟨rfl, rfl⟩, fun e => absurd e hw, fun _ => ⟨rfl, rfl⟩, fun hend => by rw [if_neg hw, if_neg hw, hend, List.take_length]⟩
    have next : ∀ {g b p sa : Addr} {bg' ss' : List Int} {r : Addr} {S' : Store} {P : WP}, bg'.length ≤ 2 → ss'.length ≤ (ps.take (i + 1)).flatten.length → (w = "words" → sgRun [] [] (ps.take (i + 1)).flatten = some (bg', ss')) → (w ≠ "words" → bg' = [] ∧ ss' = []) → (i + 1 = ps.length → (if w = "words" then ss' else (ps.take (i + 1)).flatten) = if w = "words" then sg else ps.flatten) →
        AfT S' R ((f, .lst []) :: cs) j d1 d2 g b p sa w l (ps.take (i + 1)).flatten bg' ss' (decide ((i : Int) = (ps.length : Int) - 1)) r → (∀ S'', Z (i + 1) S'' → P .non S'') → mtW .extend (.ref f) [.ref r] S' P := fun {g b p sa bg' ss' r S' P} h1 h2 h3 h4 h5 aft hP => by
      by_cases hend : i + 1 = ps.length
      · obtain ⟨c, o5⟩ := aft.fin (decide_eq_true (by omega))
        have o6 := Own.pull (c := (f, _)) (L := [(r, _), (c, _), (j, _), (d1, _), (d2, _)]) o5
        refine s_extC o6 (by simp) fun S6 o7 => hP _ (.inr (.inr ⟨hend, c, ?_⟩))
        rw [h5 hend] at o7
        exact o7.swap.drop
      · obtain ⟨sb, n, o5⟩ := aft.go (decide_eq_false (by omega))
        have o6 := Own.pull (c := (f, _)) (L := [(r, _), (j, _), (d1, _), (d2, _), (g, _), (b, _), (p, _), (sb, _), (sa, _)]) o5
        refine s_extC o6 (by simp) fun S6 o7 => hP _ (.inr (.inl ⟨by omega, by omega, g, b, p, sa, sb, n, bg', ss', h1, h2, h3, h4, o7.swap.drop⟩))
    rcases z with ⟨rfl, o4⟩ | ⟨i0, _, g', b, p, sa, sb, n, bg, ss, hb2, hs2, h3, h4, o4⟩ | ⟨z0, _⟩
    · obtain ⟨bg', ss', c1, c2, c3, c4, c5⟩ := run (bg := []) (ss := []) (fun _ => rfl) (fun _ => ⟨rfl, rfl⟩)
      rw [if_pos rfl] at r1
      wtm_at "v"
      unfold L46_1
      wtm_at "v"
      refine is_over_ok (k := k + 5) o4.swap ?_
      wtm_at "v"
      refine take_j_ok (k := k + 5) (Own.push (L := [(j, _), (d1, _), (d2, _)]) o4) r1 (by rcases hs with ⟨e, _⟩ | ⟨e, _⟩ <;> omega) ?_
      refine tl_first (k := k) (Own.push (L := [(j, _), (d1, _), (d2, _)]) o4) r1 hs (by omega) c1 c2 fun g b p sa r S' k1 k2 aft => ?_
      wtm_at "v"
      have tk0 : (ps.take (0 + 1)).flatten = ps[0] := by rw [tk]; simp
      exact next k1 (by rw [tk0]; exact k2) c3 c4 c5 (by rw [tk0]; exact aft) fun S'' z => ⟨_, _, rfl, by omega, z⟩
    · rw [if_neg (by omega)] at r1
      obtain ⟨bg', ss', c1, c2, c3, c4, c5⟩ := run h3 h4
      wtm_at "v"
      unfold L46_1
      wtm_at "v"
      refine is_over_ok (k := k + 5) o4.swap ?_
      wtm_at "v"
      have o5 := Own.push (L := [(j, _), (d1, _), (d2, _), (g', _), (b, _), (p, _), (sb, _), (sa, _)]) o4
      refine take_j_ok (k := k + 5) o5 r1 (by omega) ?_
      refine tl_more (k := k) o5 r1 hlen hs2 hb2 c1 c2 fun r S' k1 k2 aft => ?_
      wtm_at "v"
      exact next k1 (by rw [tk, List.length_append]; exact k2) c3 c4 c5 (by rw [tk]; exact aft) fun S'' z => ⟨_, _, rfl, by omega, z⟩
    · omega
  · obtain ⟨v3, v4, rfl, hi, z⟩ := h2
    obtain ⟨cs', oo⟩ := zo z
    refine ⟨hst _ _ _ oo .refl, ?_⟩
    clear oo
    rw [enumI_len, wl] at z
    rcases z with ⟨z0, _⟩ | ⟨_, z0, _⟩ | ⟨_, c, o4⟩
    · omega
    · omega
    obtain ⟨R5, o5, x5, d5⟩ := o4.swap.frzI
    obtain ⟨R6, o6, x6, d6⟩ := o5.frzL (ts := [.tup [.int l, .str w, il (if w = "words" then sg else ps.flatten)]]) (rpA_cons (rp_tup (rpA_cons rp_int (rpA_cons rp_str (rpA_cons d5 rpA_nil)))) rpA_nil)
    wtm_at "v"
    exact q f _ R6 o6.drop.drop.drop (x5.trans x6) d6
/-! ### pieces, by their lengths -/
def lnA (n : Nat) (st : List Int × Int) (s : Int) : List Int × Int := if st.2 < (n : Int) then (st.1 ++ [min s ((n : Int) - st.2)], st.2 + s) else st
def lnB (n : Nat) (pace : Int) : Nat → List Int × Int → List Int × Int
  | 0, st => st
  | m + 1, st => if st.2 < (n : Int) then lnB n pace m (lnA n st pace) else st
def lnC (n : Nat) (cuts : List Int) (pace : Int) : List Int := (lnB n pace n (cuts.foldl (lnA n) ([], 0))).1
def lnL (n : Nat) (cuts : List Int) (pace : Int) : List Int := if lnC n cuts pace = [] then [0] else lnC n cuts pace
def lnOf (st : List (List Int) × Int) : List Int × Int := (st.1.map fun p => (p.length : Int), st.2)
theorem cut_lenI {xs : List Int} {a s : Int} (h0 : 0 ≤ a) (h1 : a < (xs.length : Int)) (hs : 0 ≤ s) : ((cutT xs (some a) (some (a + s))).length : Int) = min s ((xs.length : Int) - a) := by
  rw [cut_mid h0 (by omega), List.length_take, List.length_drop]
  omega
theorem lnA_of {xs : List Int} {st : List (List Int) × Int} {s : Int} (h0 : 0 ≤ st.2) (hs : 0 ≤ s) : lnOf (pcA xs st s) = lnA xs.length (lnOf st) s := by
  unfold pcA lnA
  show lnOf (if st.2 < (xs.length : Int) then _ else _) = if st.2 < (xs.length : Int) then _ else _
  by_cases h : st.2 < (xs.length : Int)
  · rw [if_pos h, if_pos h]
    unfold lnOf
    simp only [List.map_append, List.map_cons, List.map_nil]
    rw [cut_lenI h0 h hs]
  · rw [if_neg h, if_neg h]
theorem lnB_of {xs : List Int} {pace : Int} (hp : 1 ≤ pace) : ∀ {n : Nat} {st : List (List Int) × Int}, 0 ≤ st.2 → lnOf (pcB xs pace n st) = lnB xs.length pace n (lnOf st)
  | 0, st, h0 => rfl
  | n + 1, st, h0 => by
    simp only [pcB, lnB]
    show lnOf (if st.2 < (xs.length : Int) then _ else _) = if st.2 < (xs.length : Int) then _ else _
    by_cases h : st.2 < (xs.length : Int)
    · rw [if_pos h, if_pos h, lnB_of hp (pcA_at h0 (by omega)), lnA_of h0 (by omega)]
    · rw [if_neg h, if_neg h]
theorem lnF_of {xs : List Int} : ∀ {cuts : List Int} {st : List (List Int) × Int}, (∀ c ∈ cuts, 0 ≤ c) → 0 ≤ st.2 → lnOf (cuts.foldl (pcA xs) st) = cuts.foldl (lnA xs.length) (lnOf st) ∧ 0 ≤ (cuts.foldl (pcA xs) st).2
  | [], st, _, h0 => ⟨rfl, h0⟩
  | c :: cuts, st, h, h0 => by
    have c0 := h c (List.mem_cons_self ..)
    have := lnF_of (xs := xs) (cuts := cuts) (st := pcA xs st c) (fun d hd => h d (List.mem_cons_of_mem _ hd)) (pcA_at h0 c0)
    rw [lnA_of h0 c0] at this
    exact this
theorem pc_lens {xs cuts : List Int} {pace : Int} (hc : ∀ c ∈ cuts, 0 ≤ c) (hp : 1 ≤ pace) : (piecesL xs cuts pace).map (fun p => (p.length : Int)) = lnL xs.length cuts pace := by
  have h1 := lnF_of (xs := xs) (cuts := cuts) (st := ([], 0)) hc (by decide)
  have h2 := lnB_of (xs := xs) hp (n := xs.length) h1.2
  rw [h1.1] at h2
  have h3 : (pcC xs cuts pace).map (fun p => (p.length : Int)) = lnC xs.length cuts pace := congrArg Prod.fst h2
  unfold piecesL lnL
  by_cases e : pcC xs cuts pace = []
  · have e2 : lnC xs.length cuts pace = [] := by rw [← h3, e]; rfl
    rw [if_pos e, if_pos e2]
    rfl
  · have e2 : ¬ lnC xs.length cuts pace = [] := fun z => e (by rw [← h3] at z; exact List.map_eq_nil_iff.mp z)
    rw [if_neg e, if_neg e2]
    exact h3
/-! ### pieces together are the row -/
theorem pcA_flat {xs : List Int} {st : List (List Int) × Int} {s : Int} (h : st.1.flatten = xs.take st.2.toNat) (h0 : 0 ≤ st.2) (hs : 0 ≤ s) : (pcA xs st s).1.flatten = xs.take (pcA xs st s).2.toNat := by
  unfold pcA
  split
  · show (st.1 ++ [_]).flatten = xs.take (st.2 + s).toNat
    rw [List.flatten_append, h, cut_mid h0 (by omega)]
    have e : (st.2 + s).toNat = st.2.toNat + ((st.2 + s).toNat - st.2.toNat) := by omega
    rw [e, List.take_add]
    simp
  · exact h
theorem pcB_flat {xs : List Int} {pace : Int} (hp : 1 ≤ pace) : ∀ {n : Nat} {st : List (List Int) × Int}, st.1.flatten = xs.take st.2.toNat → 0 ≤ st.2 → (xs.length : Int) ≤ st.2 + n → (pcB xs pace n st).1.flatten = xs
  | 0, st, h, h0, hn => by
    show st.1.flatten = xs
    rw [h, List.take_of_length_le (by omega)]
  | n + 1, st, h, h0, hn => by
    simp only [pcB]
    by_cases c : st.2 < (xs.length : Int)
    · rw [if_pos c]
      refine pcB_flat hp (pcA_flat h h0 (by omega)) (pcA_at h0 (by omega)) ?_
      unfold pcA
      rw [if_pos c]
      show (xs.length : Int) ≤ st.2 + pace + n
      omega
    · rw [if_neg c, h, List.take_of_length_le (by omega)]
theorem pcF_flat {xs : List Int} : ∀ {cuts : List Int} {st : List (List Int) × Int}, (∀ c ∈ cuts, 0 ≤ c) → st.1.flatten = xs.take st.2.toNat → 0 ≤ st.2 → (cuts.foldl (pcA xs) st).1.flatten = xs.take (cuts.foldl (pcA xs) st).2.toNat ∧ 0 ≤ (cuts.foldl (pcA xs) st).2
  | [], st, _, h, h0 => ⟨h, h0⟩
  | c :: cuts, st, hc, h, h0 => pcF_flat (cuts := cuts) (fun d hd => hc d (List.mem_cons_of_mem _ hd)) (pcA_flat h h0 (hc c (List.mem_cons_self ..))) (pcA_at h0 (hc c (List.mem_cons_self ..)))
theorem pc_flat {xs cuts : List Int} {pace : Int} (hc : ∀ c ∈ cuts, 0 ≤ c) (hp : 1 ≤ pace) : (piecesL xs cuts pace).flatten = xs := by
  have h1 := pcF_flat (xs := xs) (cuts := cuts) (st := ([], 0)) hc (by simp) (by decide)
  have h2 : (pcC xs cuts pace).flatten = xs := pcB_flat hp h1.1 h1.2 (by have := h1.2; omega)
  unfold piecesL
  split
  · rename_i e
    rw [e] at h2
    rw [← h2]; rfl
  · exact h2
theorem pc_ne {xs cuts : List Int} {pace : Int} : piecesL xs cuts pace ≠ [] := by
  unfold piecesL
  split
  · simp
  · assumption
/-! ### lengths that are known by hand -/
def rep (n : Int) (x : Int) : List Int := List.replicate n.toNat x
def restL (n p : Int) : List Int := rep (n / p) p ++ rep (if 0 < n % p then 1 else 0) (n % p)
theorem known1 : ∀ n p : Fin 31, 0 < n.val → 0 < p.val → p.val < 10 → lnL n.val [] (p.val : Int) = restL n.val p.val ∧ lnL n.val [0, 0] (p.val : Int) = [0, 0] ++ restL n.val p.val ∧ lnL n.val [(n.val : Int)] (p.val : Int) = [(n.val : Int)] ∧
    lnL n.val [(n.val : Int) + 5, 3] (p.val : Int) = [(n.val : Int)] ∧ lnL n.val [(n.val : Int), 0, 0] (p.val : Int) = [(n.val : Int)] ∧ lnL n.val [0, (n.val : Int), 0, 7] (p.val : Int) = [0, (n.val : Int)] ∧ lnL 0 [] (p.val : Int) = [0] ∧ lnL 0 [0, 0, 5] (p.val : Int) = [0] ∧
    lnL n.val (rep 60 1) (p.val : Int) = rep n.val 1 ∧ lnL n.val (rep 59 0 ++ [(n.val : Int)]) 1 = rep 59 0 ++ [(n.val : Int)] ∧ lnL n.val [] (n.val : Int) = [(n.val : Int)] ∧ lnL n.val [] ((n.val : Int) + 9) = [(n.val : Int)] := by decide +kernel
theorem known2 : ∀ n a : Fin 31, a.val < n.val → lnL n.val [(a.val : Int), 0] 1 = [(a.val : Int), 0] ++ rep ((n.val : Int) - a.val) 1 := by decide +kernel
theorem known3 : ∀ n : Fin 31, 0 < n.val → lnL n.val [] 1 = rep n.val 1 := by decide +kernel
theorem known4 : ∀ n : Fin 91, lnL (n.val + 101) [] 100 = [100, (n.val : Int) + 1] := by decide +kernel
/-! ### the law's cases -/
theorem flat_rep {k : Nat} {x : Int} : (List.replicate k [T.int x]).flatten = (List.replicate k x).map T.int := by
  rw [List.map_replicate]
  induction k with
  | zero => rfl
  | succ j ih => rw [List.replicate_succ, List.replicate_succ, List.flatten_cons, ih]; rfl
def CaseOk (t : T) : Prop := ∃ (cuts : List Int) (pace n : Int) (due : List Int), t = .tup [il cuts, .int pace, .int n, il due] ∧ (∀ c ∈ cuts, 0 ≤ c) ∧ 1 ≤ pace ∧ 0 ≤ n ∧ n ≤ 40 ∧ cuts.length ≤ 100 ∧ due = lnL n.toNat cuts pace
theorem cases_ok {k : Nat} {b : Addr} {S R : Store} {cs : Cells} {ob : O} {u : Int} {Q : WP} {E : XP} (o : Own S R ((b, ob) :: cs)) (hb : Bx u ob) (hu : u < 2 ^ 45)
    (q : ∀ p ts S' R' ob', Own S' R' ((b, ob') :: cs) → Ext R R' → Rp R' (.lst ts) (.ref p) → (∀ t ∈ ts, CaseOk t) → ts.length ≤ 20 → Bx (u + 10) ob' → Q (.ref p) S') : cl bs (k + 2) 52 [.ref b] S Q E := by
  refine cl_in (F := ⟨1, 7, b52⟩) rfl rfl ?_
  show b52 (semN bs (k + 1)) (endW Q E) [some (.ref b), none, none, none, none, none, none] S
  unfold b52
  wtm_at "v"
  refine take_ok (k := k) o hb (by omega) (by decide) fun n0 S1 ob1 n0a n0b o1 hb1 => ?_
  wtm_at "v"
  refine take_ok (k := k) o1 hb1 (by omega) (by decide) fun p0 S2 ob2 p0a p0b o2 hb2 => ?_
  obtain ⟨n, en, n1, n2⟩ : ∃ n, 1 + n0 = n ∧ 1 ≤ n ∧ n ≤ 30 := ⟨_, rfl, by omega, by omega⟩
  obtain ⟨p, ep, p1, p2⟩ : ∃ p, 1 + p0 = p ∧ 1 ≤ p ∧ p ≤ 9 := ⟨_, rfl, by omega, by omega⟩
  wtm_at "v"
  rw [en, ep]
  have d0 : 0 ≤ n / p := Int.ediv_nonneg (by omega) (by omega)
  have d1 : n / p ≤ 30 := Int.le_trans (Int.ediv_le_self _ (by omega)) n2
  have m0 : 0 ≤ n % p := Int.emod_nonneg _ (by omega)
  have m1 : n % p < p := Int.emod_lt_of_pos _ (by omega)
  wtm_at "v"
  rename_i a1 S3 R3 o3 x3 e3 a2 S4 R4 o4 x4 e4 a3 S5 R5 o5 x5 e5 a6 S6 R6 o6 x6 e6
  have e4' : Rp R4 (il (rep (n / p) p)) (.ref a2) := by rw [ep, show (List.map T.int [p]) = [T.int p] from rfl, flat_rep] at e4; exact e4
  have e6' : Rp R6 (il (rep (if 0 < n % p then 1 else 0) (n % p))) (.ref a6) := by
    rw [show (List.map T.int [n % p]) = [T.int (n % p)] from rfl, flat_rep] at e6
    simp only [decide_eq_true_eq] at e6
    exact e6
  have lr : (rep (n / p) p).length ≤ 30 := by unfold rep; rw [List.length_replicate]; omega
  have lr2 : (rep (if 0 < n % p then 1 else 0) (n % p)).length ≤ 1 := by unfold rep; rw [List.length_replicate]; split <;> decide
  have x36 := x3.trans (x4.trans (x5.trans x6))
  refine s_addI o6 (e4'.mono (x5.trans x6)) e6' (by omega) fun a7 S7 R7 o7 x7 e7 => ?_
  replace e7 : Rp R7 (il (restL n p)) (.ref a7) := e7
  have lrs : (restL n p).length ≤ 31 := by unfold restL; rw [List.length_append]; omega
  have x37 := x36.trans x7
  clear o3 o4 o5 o6 e3 e4 e4' e5 e6 e6' x3 x4 x5 x6 x36 x7
  wtm_at "v"
  rename_i c1 U1 w1 c2 U2 V2 w2 y2 g2 c3 U3 V3 w3 y3 g3 c4 U4 V4 w4 y4 g4 c5 U5 V5 w5 y5 g5 c6 U6 V6 w6 y6 g6
  have w6' : Own U6 V6 ((c1, .lst (([] : List Int).map .int)) :: (b, ob2) :: cs) := w6
  obtain ⟨V7, w7, y7, g1⟩ := w6'.frzI
  clear w1 w2 w3 w4 w5 w6 w6'
  refine s_lstF w7 (ts := [.tup [il [], .int p, .int n, il (restL n p)], .tup [il [0, 0], .int p, .int n, il ([0, 0] ++ restL n p)], .tup [il [n], .int p, .int n, il [n]]]) (by wtm_at "rpA") (by simp) fun b1 S8 R8 o8 x8 e8 => ?_
  have x78 := y2.trans (y3.trans (y4.trans (y5.trans (y6.trans (y7.trans x8)))))
  have x38 := x37.trans x78
  replace e7 := e7.mono x78
  clear y2 y3 y4 y5 y6 y7 x8 g1 g2 g3 g4 g5 g6 w7 x78 x37
  wtm_at "v"
  rename_i c1 U1 V1 w1 y1 g1 c2 U2 V2 w2 y2 g2 c3 U3 V3 w3 y3 g3 c4 U4 V4 w4 y4 g4 c5 U5 V5 w5 y5 g5
  have y15 := y1.trans (y2.trans (y3.trans (y4.trans y5)))
  refine s_add w5 (e8.mono y15) g5 (by simp) fun b2 S9 R9 o9 x9 e9 => ?_
  have x39 := x38.trans (y15.trans x9)
  replace e7 := e7.mono (y15.trans x9)
  clear e8 x38 w1 w2 w3 w4 w5 y1 y2 y3 y4 y5 g1 g2 g3 g4 g5 y15 x9
  wtm_at "v"
  rename_i c1 U1 V1 w1 y1 g1 c2 U2 V2 w2 y2 g2 c3 U3 w3 c4 U4 V4 w4 y4 g4 c5 U5 V5 w5 y5 g5 c6 U6 V6 w6 y6 g6
  have w6' : Own U6 V6 ((c3, .lst (([] : List Int).map .int)) :: (b, ob2) :: cs) := w6
  obtain ⟨V7, w7, y7, g3⟩ := w6'.frzI
  clear o8 o9 w1 w2 w3 w4 w5 w6 w6'
  have y17 := y1.trans (y2.trans (y4.trans (y5.trans (y6.trans y7))))
  refine s_lstF w7 (ts := [.tup [il [0, n, 0, 7], .int p, .int n, il [0, n]], .tup [il [], .int p, .int 0, il [0]], .tup [il [0, 0, 5], .int p, .int 0, il [0]]]) (rpA_cons (rp_tup (rpA_cons (g1.mono (y2.trans (y4.trans (y5.trans (y6.trans y7))))) (rpA_cons rp_int (rpA_cons rp_int (rpA_cons (g2.mono (y4.trans (y5.trans (y6.trans y7)))) rpA_nil))))) (rpA_cons (rp_tup (rpA_cons g3 (rpA_cons rp_int (rpA_cons rp_int (rpA_cons (g4.mono (y5.trans (y6.trans y7))) rpA_nil))))) (rpA_cons (rp_tup (rpA_cons (g5.mono (y6.trans y7)) (rpA_cons rp_int (rpA_cons rp_int (rpA_cons (g6.mono y7) rpA_nil))))) rpA_nil))) (by simp) fun b3 S10 R10 o10 x10 e10 => ?_
  have x9A := y17.trans x10
  refine s_add o10 (e9.mono x9A) e10 (by simp) fun b4 S11 R11 o11 x11 e11 => ?_
  have x3B := x39.trans (x9A.trans x11)
  clear e9 e7 x39 w7 y1 y2 y4 y5 y6 y7 g1 g2 g3 g4 g5 g6 y17 x9A x10 x11 e10 o10
  wtm_at "v"
  rename_i c1 U1 V1 w1 y1 g1 c2 U2 V2 w2 y2 g2 c3 U3 V3 w3 y3 g3 c4 U4 V4 w4 y4 g4 c5 U5 V5 w5 y5 g5 c6 U6 V6 w6 y6 g6 c7 U7 V7 w7 y7 g7
  have k2 : Rp V2 (il (rep 60 1)) (.ref c2) := by rw [show (List.map T.int [(1 : Int)]) = [T.int 1] from rfl, flat_rep] at g2; exact g2
  have k4 : Rp V4 (il (rep n 1)) (.ref c4) := by rw [show (List.map T.int [(1 : Int)]) = [T.int 1] from rfl, flat_rep] at g4; exact g4
  have k6 : Rp V6 (il (rep 59 0)) (.ref c6) := by rw [show (List.map T.int [(0 : Int)]) = [T.int 0] from rfl, flat_rep] at g6; exact g6
  have l59 : (rep 59 0 ++ [n]).length = 60 := by rw [List.length_append]; rfl
  have l59' : (rep 59 0).length = 59 := rfl
  refine s_addI w7 (k6.mono y7) g7 (by simp [l59']) fun c8 U8 V8 w8 y8 k8 => ?_
  clear w1 w2 w3 w4 w5 w6 w7 g1 g2 g3 g4 g5 g6 g7 k6
  wtm_at "v"
  rename_i c9 U9 V9 w9 y9 g9 cA UA VA wA yA gA cB UB VB wB yB gB
  have kA : Rp VA (il (rep 59 0)) (.ref cA) := by rw [show (List.map T.int [(0 : Int)]) = [T.int 0] from rfl, flat_rep] at gA; exact gA
  refine s_addI wB (kA.mono yB) gB (by simp [l59']) fun cC UC VC wC yC kC => ?_
  have y8C := y9.trans (yA.trans (yB.trans yC))
  have y4C := y5.trans (y6.trans (y7.trans (y8.trans y8C)))
  have y2C := y3.trans (y4.trans y4C)
  have y0C := y1.trans (y2.trans y2C)
  clear w8 w9 wA wB g9 gA gB kA y1 y2 y3 y4 y5 y6 y7 y8 y9 yA yB yC
  wtm_at "v"
  refine s_lstF wC (ts := [.tup [il (rep 60 1), .int p, .int n, il (rep n 1)], .tup [il (rep 59 0 ++ [n]), .int 1, .int n, il (rep 59 0 ++ [n])]]) (rpA_cons (rp_tup (rpA_cons (k2.mono y2C) (rpA_cons rp_int (rpA_cons rp_int (rpA_cons (k4.mono y4C) rpA_nil))))) (rpA_cons (rp_tup (rpA_cons (k8.mono y8C) (rpA_cons rp_int (rpA_cons rp_int (rpA_cons kC rpA_nil))))) rpA_nil)) (by simp) fun b5 S12 R12 o12 x12 e12 => ?_
  refine s_add o12 (e11.mono (y0C.trans x12)) e12 (by simp) fun b6 S13 R13 o13 x13 e13 => ?_
  have x3D := x3B.trans (y0C.trans (x12.trans x13))
  clear e11 x3B y0C y2C y4C y8C k2 k4 k8 kC wC e12 x12 x13 o11 o12
  wtm_at "v"
  refine take_ok (k := k) o13 hb2 (by omega) (by omega) fun h S14 ob14 h0 h1 o14 hb14 => ?_
  wtm_at "v"
  rename_i c1 U1 V1 w1 y1 g1 c2 U2 V2 w2 y2 g2 c3 U3 V3 w3 y3 g3 c4 U4 V4 w4 y4 g4
  have k2 : Rp V2 (il (rep (n - h) 1)) (.ref c2) := by rw [show (List.map T.int [(1 : Int)]) = [T.int 1] from rfl, flat_rep] at g2; exact g2
  have lnh : (rep (n - h) 1).length ≤ 30 := by unfold rep; rw [List.length_replicate]; omega
  refine s_addI w4 g4 (k2.mono (y3.trans y4)) (by simp only [List.length_cons, List.length_nil]; omega) fun c5 U5 V5 w5 y5 k5 => ?_
  have y03 := y1.trans (y2.trans y3)
  have y35 := y4.trans y5
  clear w1 w2 w3 w4 g1 g2 g4 k2 y1 y2 y3 y4 y5
  wtm_at "v"
  rename_i c6 U6 w6 c7 U7 V7 w7 y7 g7 c8 U8 w8 c9 U9 V9 w9 y9 g9
  have w9' : Own U9 V9 ((c8, .lst (([] : List Int).map .int)) :: (c6, .lst (([] : List Int).map .int)) :: (b, ob14) :: cs) := w9
  obtain ⟨VA, wA, yA, g8⟩ := w9'.frzI
  obtain ⟨VB, wB, yB, g6⟩ := wA.frzI
  have y7B := y9.trans (yA.trans yB)
  have y5B := y7.trans y7B
  refine s_lstF wB (ts := [.tup [il [h, 0], .int 1, .int n, il ([h, 0] ++ rep (n - h) 1)], .tup [il [], .int n, .int n, il [n]], .tup [il [], .int (n + 9), .int n, il [n]]]) (rpA_cons (rp_tup (rpA_cons (g3.mono (y35.trans y5B)) (rpA_cons rp_int (rpA_cons rp_int (rpA_cons (k5.mono y5B) rpA_nil))))) (rpA_cons (rp_tup (rpA_cons g6 (rpA_cons rp_int (rpA_cons rp_int (rpA_cons (g7.mono y7B) rpA_nil))))) (rpA_cons (rp_tup (rpA_cons (g8.mono yB) (rpA_cons rp_int (rpA_cons rp_int (rpA_cons (g9.mono (yA.trans yB)) rpA_nil))))) rpA_nil))) (by simp) fun b7 S15 R15 o15 x15 e15 => ?_
  have xDF := y03.trans (y35.trans (y5B.trans x15))
  refine s_add o15 (e13.mono xDF) e15 (by simp) fun b8 S16 R16 o16 x16 e16 => ?_
  wtm_at "v"
  refine q b8 _ S16 R16 ob14 o16 (x3D.trans (xDF.trans x16)) e16 ?_ (by simp) (hb14.mono (by omega))
  obtain ⟨k1, k2', k3, k4, k5', k6, k7, k8, k9, kA, kB, kC⟩ := known1 ⟨n.toNat, by omega⟩ ⟨p.toNat, by omega⟩ (by show 0 < n.toNat; omega) (by show 0 < p.toNat; omega) (by show p.toNat < 10; omega)
  have kD := known2 ⟨n.toNat, by omega⟩ ⟨h.toNat, by omega⟩ (by show h.toNat < n.toNat; omega)
  simp only [Int.toNat_of_nonneg (show 0 ≤ n by omega), Int.toNat_of_nonneg (show 0 ≤ p by omega), Int.toNat_of_nonneg h0] at k1 k2' k3 k4 k5' k6 k7 k8 k9 kA kB kC kD
  intro t ht
  simp only [List.mem_append, List.mem_cons, List.not_mem_nil, or_false] at ht
  rcases ht with ((((rfl | rfl | rfl) | rfl | rfl) | rfl | rfl | rfl) | rfl | rfl) | rfl | rfl | rfl
  · exact ⟨[], p, n, _, rfl, by simp, p1, by omega, by omega, by simp, k1.symm⟩
  · exact ⟨[0, 0], p, n, _, rfl, by simp, p1, by omega, by omega, by simp, k2'.symm⟩
  · exact ⟨[n], p, n, _, rfl, by simp; omega, p1, by omega, by omega, by simp, k3.symm⟩
  · exact ⟨[n + 5, 3], p, n, _, rfl, by simp; omega, p1, by omega, by omega, by simp, k4.symm⟩
  · exact ⟨[n, 0, 0], p, n, _, rfl, by simp; omega, p1, by omega, by omega, by simp, k5'.symm⟩
  · exact ⟨[0, n, 0, 7], p, n, _, rfl, by simp; omega, p1, by omega, by omega, by simp, k6.symm⟩
  · exact ⟨[], p, 0, _, rfl, by simp, p1, by omega, by omega, by simp, k7.symm⟩
  · exact ⟨[0, 0, 5], p, 0, _, rfl, by simp, p1, by omega, by omega, by simp, k8.symm⟩
  · exact ⟨rep 60 1, p, n, _, rfl, by decide, p1, by omega, by omega, by decide, k9.symm⟩
  · exact ⟨rep 59 0 ++ [n], 1, n, _, rfl, fun c hc => by (rcases List.mem_append.mp hc with hc | hc; (have := List.eq_of_mem_replicate hc; omega); (rw [List.mem_singleton.mp hc]; omega)), by decide, by omega, by omega, by rw [l59]; decide, kA.symm⟩
  · exact ⟨[h, 0], 1, n, _, rfl, by simp; omega, by decide, by omega, by omega, by simp, kD.symm⟩
  · exact ⟨[], n, n, _, rfl, by simp, n1, by omega, by omega, by simp, kB.symm⟩
  · exact ⟨[], n + 9, n, _, rfl, by simp, by omega, by omega, by omega, by simp, kC.symm⟩
theorem okS_il {n : Nat} {ns : List Int} (h : ns.length ≤ 900000) : T.okS (il ns) (n + 1) := by
  rw [okS_lst]
  exact ⟨by rw [List.length_map]; exact h, okSA_ints⟩
theorem sh_int {k : Nat} {i : Int} (h : -(2 ^ 110) < i ∧ i < 2 ^ 110) : Sh k 111 (.int i) := ⟨by simp only [T.g]; simp; omega, by simp only [T.ok], by simp only [T.w]; exact (int_w h).1⟩
theorem ShA.intsG {k : Nat} : ∀ {ns : List Int}, (∀ n ∈ ns, -(2 ^ 110) < n ∧ n < 2 ^ 110) → ShA k (112 * ns.length) (ns.map .int)
  | [], _ => by simpa using ShA.nil
  | n :: ns, h => by
    have h1 := ShA.intsG (k := k) (ns := ns) fun z hz => h z (List.mem_cons_of_mem _ hz)
    have h2 : Sh k 111 (.int n) := sh_int (h n (List.mem_cons_self ..))
    rw [List.map_cons]
    exact (ShA.cons h2 h1).mono (Nat.le_refl _) (by rw [List.length_cons]; omega)
theorem eqvA_bls : ∀ xs : List Bool, T.eqvA (xs.map .bl) (xs.map .bl) = true
  | [] => by simp [T.eqvA]
  | x :: xs => by simp only [List.map_cons, T.eqvA, T.eqv, eqvA_bls xs, beq_self_eq_true, Bool.and_self]
theorem okA_bls : ∀ (xs : List Bool) (n : Nat), T.okA (xs.map .bl) n = true
  | [], n => by simp only [List.map_nil, T.okA]
  | x :: xs, n => by simp only [List.map_cons, T.okA, T.ok, okA_bls xs n, Bool.and_self]
theorem ok_bls {xs : List Bool} : (T.lst (xs.map .bl)).ok 60 = true := by simp only [T.ok, okA_bls]
def lastL (n : Nat) : List Bool := (List.range n).map fun (i : Nat) => decide ((i : Int) = (n : Int) - 1)
def kindL (s : Int) (n : Nat) : List Int := (List.range n).map fun (i : Nat) => if i = 0 then s else 0
theorem lastL_eq {m : Nat} : lastL (m + 1) = List.replicate m false ++ [true] := by
  unfold lastL
  rw [List.range_succ, List.map_append]
  congr 1
  · rw [List.eq_replicate_iff]
    refine ⟨by rw [List.length_map, List.length_range], fun b hb => ?_⟩
    obtain ⟨i, hi, rfl⟩ := List.mem_map.mp hb
    have := List.mem_range.mp hi
    exact decide_eq_false (by omega)
  · simp only [List.map_cons, List.map_nil]
    rw [decide_eq_true (by omega)]
theorem kindL_eq {s : Int} {m : Nat} : kindL s (m + 1) = [s] ++ List.replicate m 0 := by
  unfold kindL
  rw [List.range_succ_eq_map, List.map_cons, List.map_map]
  show s :: _ = s :: List.replicate m 0
  congr 1
  rw [List.eq_replicate_iff]
  refine ⟨by rw [List.length_map, List.length_range], fun b hb => ?_⟩
  obtain ⟨i, hi, rfl⟩ := List.mem_map.mp hb
  show (if i + 1 = 0 then s else 0) = 0
  rw [if_neg (by omega)]
theorem lastL_get {n i : Nat} (h : i < n) : (lastL n)[i]? = some (decide ((i : Int) = (n : Int) - 1)) := by
  unfold lastL
  rw [List.getElem?_map, List.getElem?_range h]; rfl
theorem kindL_get {s : Int} {n i : Nat} (h : i < n) : (kindL s n)[i]? = some (if i = 0 then s else 0) := by
  unfold kindL
  rw [List.getElem?_map, List.getElem?_range h]; rfl
theorem lastL_len {n : Nat} : (lastL n).length = n := by unfold lastL; rw [List.length_map, List.length_range]
theorem kindL_len {s : Int} {n : Nat} : (kindL s n).length = n := by unfold kindL; rw [List.length_map, List.length_range]
theorem slipsL_get {s l : Int} {ps : List (List Int)} {i : Nat} {t : T} (h : (slipsL s l ps)[i]? = some t) : i < ps.length ∧ t = slAt s l ps i := by
  unfold slipsL at h
  rw [List.getElem?_map] at h
  cases e : (List.range ps.length)[i]? with
  | none => rw [e] at h; cases h
  | some j =>
    rw [e] at h
    obtain ⟨hj, ej⟩ := List.getElem?_eq_some_iff.mp e
    rw [List.length_range] at hj
    rw [List.getElem_range] at ej
    subst ej
    exact ⟨hj, (Option.some.inj h).symm⟩
theorem flat_repB {k : Nat} {x : Bool} : (List.replicate k [T.bl x]).flatten = (List.replicate k x).map T.bl := by
  rw [List.map_replicate]
  induction k with
  | zero => rfl
  | succ j ih => rw [List.replicate_succ, List.replicate_succ, List.flatten_cons, ih]; rfl
theorem lengths_ok {k : Nat} {s l : Int} {ps : List (List Int)} {x : W} {S R : Store} {cs : Cells} {Q : WP} {E : XP} (o : Own S R cs) (h : Rp R (.lst (slipsL s l ps)) x) (hl : ps.length ≤ 900000)
    (q : ∀ p S' R', Own S' R' cs → Ext R R' → Rp R' (il (ps.map fun p => (p.length : Int))) (.ref p) → Q (.ref p) S') : cl bs (k + 1) 53 [x] S Q E := by
  refine cl_in (F := ⟨1, 2, b53⟩) rfl rfl ?_
  show b53 (semN bs k) (endW Q E) [some x, none] S
  unfold b53
  have sl : (slipsL s l ps).length = ps.length := by unfold slipsL; rw [List.length_map, List.length_range]
  wtm_at "v"
  refine s_si o h rfl fun ws g hst => ?_
  refine lc_by o (fun i ds cs' => ds = ((ps.take i).map fun p => (p.length : Int)).map .int ∧ cs' = cs ∧ i ≤ 1000000) ⟨by simp, rfl, by decide⟩ (fun i ds _ h => by rw [h.1, List.length_map, List.length_map, List.length_take]; omega) hst (fun i w D S' R' ds ws' cs' N e p o' x' r k1 k2 => ?_) fun ds cs' D S' R' p o' x' r => ?_
  · obtain ⟨rfl, rfl, hi⟩ := p
    obtain ⟨t, f1, r1⟩ := g.of e
    obtain ⟨hlt, rfl⟩ := slipsL_get f1
    replace r1 := r1.mono x'
    unfold slAt at r1
    have gd : ps.getD i [] = ps[i] := by rw [List.getD_eq_getElem?_getD, List.getElem?_eq_getElem hlt]; rfl
    rw [gd] at r1
    wtm_at "v"
    rename_i v d
    wtm_at "v"
    refine k1 S' _ _ _ (.int ps[i].length) ⟨by rw [List.take_add_one, List.getElem?_eq_getElem hlt, List.map_append, List.map_append]; rfl, rfl, by omega⟩ o' .refl ?_
    rw [List.length_map]; exact rp_int
  · obtain ⟨rfl, rfl, _⟩ := p
    rw [List.take_of_length_le (by rw [g.length, sl]; exact Nat.le_refl _)] at r
    wtm_at "v"
    exact q D S' R' o' x' r
theorem t2_ok {k : Nat} {ps : List (List Int)} {row due : List Int} {xd xr xt : W} {v0 v1 v2 v3 v6 v8 v9 v10 v11 v12 : Option W} {D : EnW} {S R : Store} {cs : Cells} (o : Own S R cs) (ht : Rp R (.lst (slipsL 2 4 ps)) xt) (hd : Rp R (il due) xd) (hr : Rp R (il row) xr) (hne : ps ≠ []) (hfl : ps.flatten = row) (hrl : row.length ≤ 800000) (hpl : ps.length ≤ 900000) (hdu : due = ps.map fun p => (p.length : Int))
    (q : ∀ v8 S' R', Own S' R' cs → Ext R R' → D.nx [v0, v1, v2, v3, some xd, some xr, v6, some xt, v8, v9, v10, v11, v12] S') : L54_2 (semN bs (k + 8)) D [v0, v1, v2, v3, some xd, some xr, v6, some xt, v8, v9, v10, v11, v12] S := by
  unfold L54_2
  obtain ⟨m, hm⟩ : ∃ m, ps.length = m + 1 := ⟨ps.length - 1, by have := List.length_pos_iff.mpr hne; omega⟩
  have hdl : due.length = m + 1 := by rw [hdu, List.length_map, hm]
  have sl : (slipsL 2 4 ps).length = ps.length := by unfold slipsL; rw [List.length_map, List.length_range]
  wtm_at "v"
  refine lengths_ok (k := k + 7) o ht hpl fun p1 S1 R1 o1 x1 d1 => ?_
  rw [← hdu] at d1
  wtm_at "v"
  refine same_ok (k := k + 6) 1 o1 d1 (hd.mono x1) (okS_il (by omega)) fun S2 o2 => ?_
  wtm_at "v"
  refine s_si o2 (ht.mono x1) rfl fun ws g hst => ?_
  refine lc_by o2 (fun i ds cs' => ds = ((lastL ps.length).take i).map .bl ∧ cs' = cs ∧ i ≤ 1000000) ⟨by simp, rfl, by decide⟩ (fun i ds _ h => by rw [h.1, List.length_map, List.length_take]; omega) hst (fun i w D S' R' ds ws' cs' N e p o' x' r k1 k2 => ?_) fun ds cs' D S' R' p o' x' r => ?_
  · obtain ⟨rfl, rfl, hi⟩ := p
    obtain ⟨t, f1, r1⟩ := g.of e
    obtain ⟨hlt, rfl⟩ := slipsL_get f1
    replace r1 := r1.mono x'
    unfold slAt at r1
    wtm_at "v"
    rename_i v d
    exact k1 S' _ _ _ (.bl (decide ((i : Int) = (ps.length : Int) - 1))) ⟨by rw [List.take_add_one, lastL_get hlt, List.map_append]; rfl, rfl, by omega⟩ o' .refl d
  · obtain ⟨rfl, rfl, _⟩ := p
    rw [List.take_of_length_le (by rw [g.length, sl, lastL_len]; exact Nat.le_refl _)] at r
    wtm_at "v"
    rename_i c1 U1 V1 w1 y1 g1 c2 U2 V2 w2 y2 g2 c3 U3 V3 w3 y3 g3
    have em : ((due.length : Int) - 1).toNat = m := by omega
    refine s_add w3 (g2.mono y3) g3 (by rw [em, flat_repB, List.length_map, List.length_replicate]; simp; omega) fun c4 U4 V4 w4 y4 g4 => ?_
    have e4 : (List.replicate ((due.length : Int) - 1).toNat [T.bl false]).flatten ++ [T.bl true] = (lastL ps.length).map .bl := by
      rw [em, flat_repB, hm, lastL_eq, List.map_append]; rfl
    rw [e4] at g4
    have y04 := y1.trans (y2.trans (y3.trans y4))
    refine s_ne w4 (r.mono y04) g4 ok_bls ok_bls ?_
    have ee : T.eqv (.lst ((lastL ps.length).map .bl)) (.lst ((lastL ps.length).map .bl)) = true := by simp only [T.eqv]; exact eqvA_bls _
    rw [ee]
    have xA := x1.trans (x'.trans y04)
    clear w1 w2 w3 g1 g2 g3 g4 r o' o1 o2 y1 y2 y3 y4 y04 e4
    wtm_at "v"
    refine s_si w4 (ht.mono xA) rfl fun ws g hst => ?_
    refine lc_by w4 (fun i ds cs2 => ds = ((kindL 2 ps.length).take i).map .int ∧ cs2 = cs' ∧ i ≤ 1000000) ⟨by simp, rfl, by decide⟩ (fun i ds _ h => by rw [h.1, List.length_map, List.length_take]; omega) hst (fun i w D S' R' ds ws' cs2 N e p o' x' r k1 k2 => ?_) fun ds cs2 D S' R' p o' x' r => ?_
    · obtain ⟨rfl, rfl, hi⟩ := p
      obtain ⟨t, f1, r1⟩ := g.of e
      obtain ⟨hlt, rfl⟩ := slipsL_get f1
      replace r1 := r1.mono x'
      unfold slAt at r1
      wtm_at "v"
      rename_i v d
      exact k1 S' _ _ _ (.int (if i = 0 then 2 else 0)) ⟨by rw [List.take_add_one, kindL_get hlt, List.map_append]; rfl, rfl, by omega⟩ o' .refl d
    · obtain ⟨rfl, rfl, _⟩ := p
      rw [List.take_of_length_le (by rw [g.length, sl, kindL_len]; exact Nat.le_refl _)] at r
      wtm_at "v"
      rename_i c1 U1 V1 w1 y1 g1 c2 U2 V2 w2 y2 g2 c3 U3 V3 w3 y3 g3
      have k3 : Rp V3 (il (List.replicate m 0)) (.ref c3) := by rw [show (List.map T.int [(0 : Int)]) = [T.int 0] from rfl, flat_rep, em] at g3; exact g3
      refine s_addI w3 (g1.mono (y2.trans y3)) k3 (by rw [List.length_replicate]; simp; omega) fun c4 U4 V4 w4 y4 g4 => ?_
      rw [← kindL_eq, ← hm] at g4
      have y04 := y1.trans (y2.trans (y3.trans y4))
      refine s_neI w4 (r.mono y04) g4 ?_
      rw [decide_eq_true rfl]
      have xB := xA.trans (x'.trans y04)
      clear w1 w2 w3 g1 g2 g3 g4 r o' y1 y2 y3 y4 y04
      wtm_at "v"
      refine joined_ok (k := k + 1) (w := "bytes") (sg := []) w4 (ht.mono xB) (.inr ⟨rfl, rfl⟩) hne (by rw [hfl]; exact hrl) hpl (fun e => by cases e) fun p5 S5 R5 o5 x5 d5 => ?_
      rw [if_neg (by decide), hfl] at d5
      have xC := xB.trans x5
      wtm_at "v"
      rename_i p6 S6 R6 o6 x6 d6
      refine same_ok (k := k + 4) 3 o6 (d5.mono x6) d6 (by simp only [okS_lst, okS_tup, okSA_cons, okSA_nil, okS_int, okS_str, okSA_ints, List.length_map, List.length_cons, List.length_nil, and_true, true_and]; omega) fun S7 o7 => ?_
      wtm_at "v"
      exact q _ _ _ o7 (xC.trans x6)
theorem ShI {row : List Int} (h : ∀ n ∈ row, 0 ≤ n ∧ n ≤ 65535) (hl : row.length ≤ 1000) : Sh 1 112000 (il row) := Sh.lst.mpr ((ShA.intsG fun n hn => by have := h n hn; omega).mono (Nat.le_refl _) (by omega))
theorem sfB_ok {k : Nat} {l pace : Int} {row cuts : List Int} {tc : T} {xd y : W} {S R : Store} {cs : Cells} {Q : WP} {E : XP} (o : Own S R cs) (h2 : Rp R (il row) xd) (hb : Byt row) (hl : row.length ≤ 1000) (hy : Rp R tc y) (ec : tc.seq? = some (cuts.map .int)) (hc : ∀ n ∈ cuts, 0 ≤ n) (hcl : cuts.length ≤ 1000) (hp : 1 ≤ pace) (hlane : 0 ≤ l ∧ l ≤ 31)
    (q : ∀ p S' R', Own S' R' cs → Ext R R' → Rp R' (.lst (slipsL 2 l (piecesL row cuts pace))) (.ref p) → Q (.ref p) S') : cl bs (k + 8) 37 [.int l, .str "bytes", xd, y, .int pace] S Q E := by
  have hw : letW (.str "bytes") (il row) = .non := by
    have hd : datB (.str "bytes") (il row) = true := byt_all hb
    unfold letW
    rw [if_neg (by decide), if_pos hd]
  refine slips_for_ok (k := k) (m := 0) (n := 112000) (tw := .str "bytes") o rp_str h2 rfl (ShI (fun n hn => by have := hb n hn; omega) hl) (by decide) (fun ts e => by cases e; rw [List.length_map]; omega) hy ec hc hp (by omega) hlane (fun _ p ws xs S1 R1 hb1 hx hrow o1 x1 g1 => ?_) fun z' hz S1 o1 => ?_
  · rw [hrow row rfl] at g1
    obtain ⟨R2, o2, x2, d2⟩ := o1.frzL g1
    exact q p S1 R2 o2 (x1.trans x2) d2
  · rw [hw] at hz; cases hz
theorem sfW_ok {k : Nat} {l pace : Int} {row : List Int} {tc : T} {cuts : List Int} {xd y : W} {S R : Store} {cs : Cells} {Q : WP} {E : XP} (o : Own S R cs) (h2 : Rp R (il row) xd) (hb : ∀ n ∈ row, isSig n) (hl : row.length ≤ 1000) (hy : Rp R tc y) (ec : tc.seq? = some (cuts.map .int)) (hc : ∀ n ∈ cuts, 0 ≤ n) (hcl : cuts.length ≤ 1000) (hp : 1 ≤ pace) (hlane : 0 ≤ l ∧ l ≤ 31)
    (q : ∀ p S' R', Own S' R' cs → Ext R R' → Rp R' (.lst (slipsL 1 l (piecesL (row.flatMap encS) cuts pace))) (.ref p) → Q (.ref p) S') : cl bs (k + 8) 37 [.int l, .str "words", xd, y, .int pace] S Q E := by
  have hw : letW (.str "words") (il row) = .non := by
    have hd : datB (.str "words") (il row) = true := by
      show (row.map T.int).all T.isSgn = true
      rw [List.all_map, List.all_eq_true]
      intro n hn
      have := hb n hn
      unfold isSig at this
      exact decide_eq_true this
    unfold letW
    rw [if_neg (by decide), if_pos hd]
  refine slips_for_ok (k := k) (m := 0) (n := 112000) (tw := .str "words") o rp_str h2 rfl (ShI (fun n hn => by have := hb n hn; unfold isSig at this; omega) hl) (by decide) (fun ts e => by cases e; rw [List.length_map]; omega) hy ec hc hp (by omega) hlane (fun _ p ws xs S1 R1 hb1 hx hrow o1 x1 g1 => ?_) fun z' hz S1 o1 => ?_
  · rw [hrow row rfl] at g1
    obtain ⟨R2, o2, x2, d2⟩ := o1.frzL g1
    exact q p S1 R2 o2 (x1.trans x2) d2
  · rw [hw] at hz; cases hz
theorem t1_ok {k : Nat} {b : Addr} {cuts due : List Int} {pace n : Int} {xc xd : W} {v5 v6 v7 v8 v9 v10 v11 v12 : Option W} {D : EnW} {S R : Store} {cs : Cells} {ob : O} {u : Int} (o : Own S R ((b, ob) :: cs)) (hb : Bx u ob) (hu : u < 2 ^ 44) (hx : Rp R (il cuts) xc) (hd : Rp R (il due) xd) (hc : ∀ c ∈ cuts, 0 ≤ c) (hp : 1 ≤ pace) (h0 : 0 ≤ n) (hn : n ≤ 40) (hcl : cuts.length ≤ 100) (hdu : due = lnL n.toNat cuts pace)
    (q : ∀ v5 v6 v7 v8 S' R' ob', Own S' R' ((b, ob') :: cs) → Ext R R' → Bx (u + 50) ob' → D.nx [some (.ref b), some xc, some (.int pace), some (.int n), some xd, v5, v6, v7, v8, v9, v10, v11, v12] S') : L54_1 (semN bs (k + 8)) D [some (.ref b), some xc, some (.int pace), some (.int n), some xd, v5, v6, v7, v8, v9, v10, v11, v12] S := by
  unfold L54_1
  wtm_at "v"
  refine lc_by o (fun i ds cs' => ∃ (xs : List Int) (ob' : O), ds = xs.map .int ∧ xs.length = i ∧ Byt xs ∧ cs' = (b, ob') :: cs ∧ i ≤ 40 ∧ Bx (u + i) ob') ⟨[], ob, rfl, rfl, .nil, rfl, by decide, by simpa using hb⟩ (fun i ds _ h => by obtain ⟨xs, _, rfl, hl, _, _, hi, _⟩ := h; rw [List.length_map]; omega) (fun _ _ _ _ _ => trivial) (fun i w D S' R' ds ws' cs' N e p o' x' r k1 k2 => ?_) fun ds cs' D S' R' p o' x' r => ?_
  · obtain ⟨xs, ob', rfl, hl, hc, rfl, hi, hb'⟩ := p
    obtain ⟨hi2, rfl⟩ := rng_at e
    wtm_at "v"
    refine take_ok (k := k + 7) o'.swap hb' (by omega) (by decide) fun m S2 ob2 m0 m1 o2 hb2 => ?_
    exact k1 S2 _ _ _ (.int m) ⟨xs ++ [m], ob2, by rw [List.map_append]; rfl, by rw [List.length_append, hl]; rfl, hc.app (.one ⟨m0, m1⟩), rfl, by omega, hb2.mono (by omega)⟩ o2.swap .refl rp_int
  · obtain ⟨xs, ob', rfl, hl, hbx, rfl, hi, hb'⟩ := p
    rw [rng_len] at hl hb'
    have hs := pc_lens (xs := xs) (cuts := cuts) hc hp
    rw [hl, ← hdu] at hs
    have hf := pc_flat (xs := xs) (cuts := cuts) hc hp
    have hpl := pieces_len (xs := xs) (cuts := cuts) (pace := pace)
    wtm_at "v"
    refine sfB_ok (k := k) o' r hbx (by omega) (hx.mono x') rfl hc (by omega) hp (by decide) fun p1 S1 R1 o1 x1 d1 => ?_
    wtm_at "u"
    refine s_lstC o1 (by simp) fun p2 S2 o2 => ?_
    wtm_at "v"
    rename_i vt dt
    refine sfB_ok (k := k) o2 (r.mono x1) hbx (by omega) dt rfl hc (by omega) hp (by decide) fun p3 S3 R3 o3 x3 d3 => ?_
    wtm_at "v"
    rename_i S4 o4
    obtain ⟨R5, o5, x5, d5⟩ := o4.frzL (ts := [.lst (slipsL 2 4 (piecesL xs cuts pace)), .lst (slipsL 2 4 (piecesL xs cuts pace))]) (rpA_cons (d1.mono x3) (rpA_cons d3 rpA_nil))
    have xA := x'.trans (x1.trans (x3.trans x5))
    have rD := r.mono (x1.trans (x3.trans x5))
    clear o1 o2 o3 o4 dt r
    refine s_si o5 d5 rfl fun ws g hst => ?_
    refine lp_by (fun i σ S => ∃ (v7 v8 : Option W) (R6 : Store), σ = [some (.ref b), some xc, some (.int pace), some (.int n), some xd, some (.ref D), some (.ref p2), v7, v8, v9, v10, v11, v12] ∧ Own S R6 ((b, ob') :: cs) ∧ Ext R5 R6) ⟨_, _, R5, rfl, o5, .refl⟩ (fun i w σ S e h2 => ?_) fun σ S h2 => ?_
    · obtain ⟨v7, v8, R6, rfl, o6, x6⟩ := h2
      refine ⟨hst _ _ _ o6 x6, ?_⟩
      obtain ⟨t, f1, r1⟩ := g.of e
      have et : t = .lst (slipsL 2 4 (piecesL xs cuts pace)) := by
        have := List.mem_of_getElem? f1
        simpa using this
      subst et
      wtm_at "v"
      refine t2_ok (k := k) o6 (r1.mono x6) (hd.mono (xA.trans x6)) (rD.mono x6) pc_ne hf (by omega) (by omega) hs.symm fun v8 S7 R7 o7 x7 => ?_
      exact ⟨_, _, R7, rfl, o7, x6.trans x7⟩
    · obtain ⟨v7, v8, R6, rfl, o6, x6⟩ := h2
      refine ⟨hst _ _ _ o6 x6, ?_⟩
      exact q _ _ _ _ _ _ _ o6 (xA.trans x6) (hb'.mono (by omega))
theorem enc3 : ∀ {row : List Int}, (∀ s ∈ row, 2048 ≤ s ∧ s ≤ 20000) → (row.flatMap encS).length = 3 * row.length
  | [], _ => rfl
  | s :: row, h => by
    have h1 := h s (List.mem_cons_self ..)
    rw [List.flatMap_cons, List.length_append, enc3 (row := row) fun z hz => h z (List.mem_cons_of_mem _ hz)]
    unfold encS
    rw [if_neg (by omega), if_neg (by omega)]
    simp only [List.length_cons, List.length_nil]
    omega
theorem right_ok {k : Nat} {b : Addr} {S R : Store} {cs : Cells} {ob : O} {Q : WP} {E : XP} (o : Own S R ((b, ob) :: cs)) (hb : Bx 0 ob) (q : ∀ S' , Own S' R cs → Q (.bl true) S') : cl bs (k + 9) 54 [.ref b] S Q E := by
  refine cl_in (F := ⟨1, 13, b54⟩) rfl rfl ?_
  show b54 (semN bs (k + 8)) (endW Q E) [some (.ref b), none, none, none, none, none, none, none, none, none, none, none, none] S
  unfold b54
  wtm_at "v"
  refine cases_ok (k := k + 6) o hb (by omega) fun p0 ts S1 R1 ob1 o1 x1 d1 hts htl hb1 => ?_
  wtm_at "v"
  refine s_si o1 d1 rfl fun ws g hst => ?_
  refine lp_by (fun i σ S => ∃ (v1 v2 v3 v4 v5 v6 v7 v8 : Option W) (R' : Store) (ob' : O), σ = [some (.ref b), v1, v2, v3, v4, v5, v6, v7, v8, none, none, none, none] ∧ i ≤ 20 ∧ Own S R' ((b, ob') :: cs) ∧ Ext R1 R' ∧ Bx (10 + 50 * i) ob') ⟨_, _, _, _, _, _, _, _, R1, ob1, rfl, by decide, o1, .refl, hb1.mono (by omega)⟩ (fun i w σ S e h2 => ?_) fun σ S h2 => ?_
  · obtain ⟨v1, v2, v3, v4, v5, v6, v7, v8, R', ob', rfl, hi, o2, x2, hb2⟩ := h2
    refine ⟨hst _ _ _ o2 x2, ?_⟩
    obtain ⟨t, f1, r1⟩ := g.of e
    have hlt := (List.getElem?_eq_some_iff.mp f1).1
    obtain ⟨cuts, pace, n, due, rfl, c1, c2, c3, c4, c5, c6⟩ := hts t (List.mem_of_getElem? f1)
    obtain ⟨us, rfl, gu⟩ := r1.tup
    obtain ⟨xc, us, rfl, gc, gu⟩ := gu.cons
    obtain ⟨xp, us, rfl, gp, gu⟩ := gu.cons
    obtain ⟨xn, us, rfl, gn, gu⟩ := gu.cons
    obtain ⟨xd, us, rfl, gd, gu⟩ := gu.cons
    cases gu.nil
    obtain rfl := gp.int
    obtain rfl := gn.int
    wtm_at "v"
    refine t1_ok (k := k) o2 hb2 (by omega) (gc.mono x2) (gd.mono x2) c1 c2 c3 c4 c5 c6 fun v5 v6 v7 v8 S3 R3 ob3 o3 x3 hb3 => ?_
    exact ⟨_, _, _, _, _, _, _, _, R3, ob3, rfl, by omega, o3, x2.trans x3, hb3.mono (by omega)⟩
  · obtain ⟨v1, v2, v3, v4, v5, v6, v7, v8, R', ob', rfl, hi, o2, x2, hb2⟩ := h2
    refine ⟨hst _ _ _ o2 x2, ?_⟩
    clear hst g d1
    have x02 := x1.trans x2
    wtm_at "v"
    refine take_ok (k := k + 7) o2 hb2 (by omega) (by decide) fun n9 S3 ob3 n9a n9b o3 hb3 => ?_
    wtm_at "v"
    have hwl : (ws.length : Int) ≤ 20 := by omega
    refine lc_by o3 (fun i ds cs' => ∃ (xs : List Int) (ob' : O), ds = xs.map .int ∧ xs.length = i ∧ (∀ s ∈ xs, 2048 ≤ s ∧ s ≤ 20000) ∧ cs' = (b, ob') :: cs ∧ i ≤ 9 ∧ Bx (2000 + i) ob') ⟨[], ob3, rfl, rfl, by simp, rfl, by decide, hb3.mono (by omega)⟩ (fun i ds _ h => by obtain ⟨xs, _, rfl, hl, _, _, hi, _⟩ := h; rw [List.length_map]; omega) (fun _ _ _ _ _ => trivial) (fun i w D S' R' ds ws' cs' N e p o' x' r k1 k2 => ?_) fun ds cs' D S' R' p o' x' r => ?_
    · obtain ⟨xs, ob', rfl, hl, hc, rfl, hi, hb'⟩ := p
      obtain ⟨hi2, rfl⟩ := rng_at e
      wtm_at "v"
      refine take_ok (k := k + 7) o'.swap hb' (by omega) (by decide) fun m S2 ob2 m0 m1 o2 hb2 => ?_
      wtm_at "v"
      refine k1 S2 _ _ _ (.int (2048 + m)) ⟨xs ++ [2048 + m], ob2, by rw [List.map_append]; rfl, by rw [List.length_append, hl]; rfl, fun s hs => ?_, rfl, by omega, hb2.mono (by omega)⟩ o2.swap .refl rp_int
      rcases List.mem_append.mp hs with hs | hs
      · exact hc s hs
      · rw [List.mem_singleton.mp hs]; omega
    · obtain ⟨sg, ob', rfl, hl, hsg, rfl, hi, hb'⟩ := p
      rw [rng_len] at hl hb' hi
      have hsl : 1 ≤ sg.length ∧ sg.length ≤ 9 := by omega
      have his : ∀ s ∈ sg, isSig s := fun s hs => by have := hsg s hs; unfold isSig; omega
      have hel := enc3 hsg
      have x03 := x02.trans x'
      clear hl hi hts htl hb1 hb2 hb3 o1 o2 o3 x1 x2 x02 x' hb
      wtm_at "v"
      refine sfW_ok (k := k) o' r his (by omega) (tc := .tup []) (rp_tup rpA_nil) (cuts := []) rfl (by simp) (by decide) (by decide) (by decide) fun p1 S1 R1 o1 x1 d1 => ?_
      generalize hps : piecesL (sg.flatMap encS) [] 1 = ps at d1
      have hf := pc_flat (xs := sg.flatMap encS) (cuts := []) (pace := 1) (by simp) (by decide)
      have hs := pc_lens (xs := sg.flatMap encS) (cuts := []) (pace := 1) (by simp) (by decide)
      have hk3 := known3 ⟨3 * sg.length, by omega⟩ (by show 0 < 3 * sg.length; omega)
      rw [hps] at hf hs
      rw [hel] at hs
      have hs2 := hs.trans hk3
      have hpl : ps.length = 3 * sg.length := by
        have := congrArg List.length hs2
        rw [List.length_map] at this
        unfold rep at this
        rw [List.length_replicate] at this
        simp at this
        omega
      have hne : ps ≠ [] := by rw [← hps]; exact pc_ne
      have sl : (slipsL 1 5 ps).length = ps.length := by unfold slipsL; rw [List.length_map, List.length_range]
      obtain ⟨m, hm⟩ : ∃ m, ps.length = m + 1 := ⟨ps.length - 1, by omega⟩
      wtm_at "v"
      refine s_si o1 d1 rfl fun ws g hst => ?_
      refine lc_by o1 (fun i ds cs2 => ds = ((kindL 1 ps.length).take i).map .int ∧ cs2 = (b, ob') :: cs ∧ i ≤ 1000000) ⟨by simp, rfl, by decide⟩ (fun i ds _ h => by rw [h.1, List.length_map, List.length_take]; omega) hst (fun i w D S' R' ds ws' cs2 N e p o' x' r k1 k2 => ?_) fun ds cs2 D2 S' R' p o' x' r2 => ?_
      · obtain ⟨rfl, rfl, hi⟩ := p
        obtain ⟨t, f1, r1⟩ := g.of e
        obtain ⟨hlt, rfl⟩ := slipsL_get f1
        replace r1 := r1.mono x'
        unfold slAt at r1
        wtm_at "v"
        rename_i v d
        exact k1 S' _ _ _ (.int (if i = 0 then 1 else 0)) ⟨by rw [List.take_add_one, kindL_get hlt, List.map_append]; rfl, rfl, by omega⟩ o' .refl d
      · obtain ⟨rfl, rfl, _⟩ := p
        rw [List.take_of_length_le (by rw [g.length, sl, kindL_len]; exact Nat.le_refl _)] at r2
        wtm_at "v"
        rename_i c1 U1 V1 w1 y1 g1 c2 U2 V2 w2 y2 g2 c3 U3 V3 w3 y3 g3
        have em : (((slipsL 1 5 ps).length : Int) - 1).toNat = m := by omega
        have k3 : Rp V3 (il (List.replicate m 0)) (.ref c3) := by rw [show (List.map T.int [(0 : Int)]) = [T.int 0] from rfl, flat_rep, em] at g3; exact g3
        refine s_addI w3 (g1.mono (y2.trans y3)) k3 (by rw [List.length_replicate]; simp; omega) fun c4 U4 V4 w4 y4 g4 => ?_
        have y14 := y1.trans (y2.trans (y3.trans y4))
        rw [← kindL_eq, ← hm] at g4
        refine s_neI w4 (r2.mono y14) g4 ?_
        rw [decide_eq_true rfl]
        have xB := x1.trans (x'.trans y14)
        have d1B := d1.mono (x'.trans y14)
        clear w1 w2 w3 g1 g2 g3 g4 r2 o' y1 y2 y3 y4 y14 k3 hst g d1
        wtm_at "v"
        rename_i c5 U5 V5 w5 y5 g5
        refine take_ok (k := k + 7) w5 (hb'.mono (v := 3000) (by omega)) (by omega) (by decide) fun t90 S6 ob6 t0 t1 o6 hb6 => ?_
        wtm_at "v"
        rename_i c7 S7 R7 o7 x7 g7
        have k7 : Rp R7 (il (rep (100 + 1 + t90) 7)) (.ref c7) := by rw [show (List.map T.int [(7 : Int)]) = [T.int 7] from rfl, flat_rep] at g7; exact g7
        have lr : (rep (100 + 1 + t90) 7).length = t90.toNat + 101 := by unfold rep; rw [List.length_replicate]; omega
        have lr' : ((rep (100 + 1 + t90) 7).map T.int).length = t90.toNat + 101 := by rw [List.length_map]; exact lr
        clear g7 w5 g5
        wtm_at "v"
        refine sfB_ok (k := k) o7 k7 (fun n hn => by have := List.eq_of_mem_replicate hn; omega) (by omega) (tc := .tup []) (rp_tup rpA_nil) (cuts := []) rfl (by simp) (by decide) (by decide) (by decide) fun p8 S8 R8 o8 x8 d8 => ?_
        have hs8 := pc_lens (xs := rep (100 + 1 + t90) 7) (cuts := []) (pace := 100) (by simp) (by decide)
        have hk4 := known4 ⟨t90.toNat, by omega⟩
        rw [lr] at hs8
        have hs9 := hs8.trans hk4
        have pl8 := pieces_len (xs := rep (100 + 1 + t90) 7) (cuts := []) (pace := 100)
        wtm_at "v"
        refine lengths_ok (k := k + 7) o8 d8 (by simp only [List.length_nil] at pl8; omega) fun p9 S9 R9 o9 x9 d9 => ?_
        rw [hs9] at d9
        have k9 := k7.mono (x8.trans x9)
        clear k7 o8 d8
        wtm_at "v"
        rename_i cA SA RA oA xA' gA
        have e1 : ((t90.toNat : Int) + 1) = ((rep (100 + 1 + t90) 7).length : Int) - 100 := by rw [lr]; omega
        rw [decide_eq_true (by show [100, (t90.toNat : Int) + 1] = _; rw [e1])]
        have y4A := y5.trans (x7.trans (x8.trans (x9.trans xA')))
        have rsg := r.mono (xB.trans y4A)
        clear k9 d9 gA
        wtm_at "v"
        have hrun : sgRun [] [] ps.flatten = some ([], sg) := by
          rw [hf]
          have := sgRun_all (row := sg) (ss := []) (r := []) his
          rw [List.append_nil] at this
          rw [this]
          rfl
        refine joined_ok (k := k + 1) (w := "words") (sg := sg) oA (d1B.mono y4A) (.inl ⟨rfl, rfl⟩) hne (by rw [hf, hel]; omega) (by omega) (fun _ => hrun) fun pB SB RB oB xB' dB => ?_
        rw [if_pos rfl] at dB
        have rsg2 := rsg.mono xB'
        wtm_at "v"
        rename_i pC SC RC oC xC dC
        refine same_ok (k := k + 4) 3 oC (dB.mono xC) dC (by simp only [okS_lst, okS_tup, okSA_cons, okSA_nil, okS_int, okS_str, okSA_ints, List.length_map, List.length_cons, List.length_nil, and_true, true_and]; omega) fun SD oD => ?_
        exact q _ (oD.wk (x03.trans (xB.trans (y4A.trans (xB'.trans xC))))).drop
theorem claim : Claim := by
  intro sv S0 ns hn hs
  rw [← cl_eq]
  refine cl_in (k := 39) (F := ⟨1, 2, b55⟩) rfl rfl ?_
  show b55 (semN bs 39) (endW _ _) [some sv, none] S0
  unfold b55
  have o0 : Own S0 S0 [] := .start
  wtm_at "v"
  refine lc_by o0 (fun i ds cs' => ds = List.replicate i (.bl true) ∧ cs' = [] ∧ i ≤ 1000000) ⟨rfl, rfl, by decide⟩ (fun i ds _ h => by rw [h.1]; simpa using h.2.2) (fun _ _ _ _ _ => trivial) (fun i w D S' R' ds ws' cs' N e p o' x' r k1 k2 => ?_) fun ds cs' D S' R' p o' x' r => ?_
  · obtain ⟨rfl, rfl, hi⟩ := p
    obtain ⟨hi2, rfl⟩ := rng_at e
    have hi3 : i < 5 := by omega
    wtm_at "v"
    refine box_ok (k := 37) o' (hs.mono x') (by omega) fun b S2 ob o2 hb => ?_
    wtm_at "v"
    refine right_ok (k := 30) o2 hb fun S3 o3 => ?_
    exact k1 S3 _ _ _ (.bl true) ⟨by rw [List.replicate_succ'], rfl, by omega⟩ o3 .refl rp_bl
  · obtain ⟨rfl, rfl, _⟩ := p
    rw [map_rep] at r
    wtm_at "v"
    rw [all_rep]
end MP
theorem PySem.Challenge.cw_slipwire_k38_sizes_and_every_holds : PySem.Challenge.rw_slipwire_k38_sizes_and_every.Holds := by
  exact MP.holds MP.claim
