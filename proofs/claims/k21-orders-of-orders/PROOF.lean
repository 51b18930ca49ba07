import PyProof.Rows.All
import HandS.ForMost
import HandS.Exc
import HandS.Wide
import HandS.TupAny
import HandS.Steps
import HandS.Deep
import HandS.TupLe
import HandS.DictComp
import HandS.ExcOwn
import HandS.Property
import HandS.WordsExc
import KE.KExcIs
import HandS.IsInst
import HandS.RaiseMore
import HandS.SortInts
import HandS.SortRule
import HandS.Zip
import PyProof.ReprRoads
import PyProof.ReprDict
import KE.GoesNew
import KE.GoesEnumKw
import HandS.Iter
import HandS.Comp
import HandS.New
import HandS.More
import HandS.Small
import HandS.Conv
import HandS.ExcValue
import HandS.ExcField
import HandS.TryMany
import KE.KExcSuper
import HandS.Dict
import PySem.Challenge.RW_rimtrails_k21_whole_orders_of_orders
set_option Elab.async false
set_option linter.all false
set_option maxRecDepth 100000
set_option maxHeartbeats 0
namespace PM
open PySem L2

inductive W where
  | non | bl (b : Bool) | int (i : Int) | str (s : Str)
  | tup (ws : List W) | lst (ws : List W) | rol (ws : List W) | dic (ks vs : List W) | set (ws : List W)
  | obj (c : Str) (ns : List Str) (ws : List W) | exn (c : Str) (ns : List Str) (ws : List W)
  | ty (n : String) | glo (x : Str)
  deriving Inhabited

/-- a key of a dict as a value -/
def kW : Key → W
  | .inl i => .int i
  | .inr x => .str x

/-- what may not change whatever it is -/
def Fix : HO → Prop
  | .tup _ => True
  | .frz _ _ => True
  | _ => False

abbrev AP' := Addr → Prop

structure Kp (M : AP') (H H' : Hp) : Prop where
  k : ∀ a o, H a = some o → ¬ M a → H' a = some o
  t : ∀ a o, H a = some o → Fix o → H' a = some o
  d : ∀ a, H a ≠ none → H' a ≠ none
theorem Kp.refl (M : AP') (H : Hp) : Kp M H H := ⟨fun _ _ h _ => h, fun _ _ h _ => h, fun _ h => h⟩
theorem Kp.trans {M M' : AP'} {H H1 H2 : Hp} (a : Kp M H H1) (b : Kp M' H1 H2) (n : ∀ x, M' x → M x ∨ H x = none) : Kp M H H2 :=
  ⟨fun x o h hm => b.k x o (a.k x o h hm) fun z => (n x z).elim hm (fun e => by rw [e] at h; cases h), fun x o h f => b.t x o (a.t x o h f) f, fun x h => b.d x (a.d x h)⟩
theorem Kp.mono {M M' : AP'} {H H' : Hp} (a : Kp M H H') (h : ∀ x, M x → M' x) : Kp M' H H' := ⟨fun x o e hm => a.k x o e fun z => hm (h x z), a.t, a.d⟩
theorem Kp.new (M : AP') {H : Hp} {p : Addr} {o : HO} (h : H p = none) : Kp M H (upd H p o) :=
  ⟨fun a u e _ => by rw [upd_ne (ne_of_none e h)]; exact e, fun a u e _ => by rw [upd_ne (ne_of_none e h)]; exact e, fun a e => by
    by_cases q : a = p
    · rw [q, upd_same]; exact fun z => nomatch z
    · rw [upd_ne q]; exact e⟩
theorem Kp.mut {M : AP'} {H : Hp} {p : Addr} {o o' : HO} (h : H p = some o) (nf : ¬ Fix o) (hm : M p) : Kp M H (upd H p o') :=
  ⟨fun a u e n => by
    have : a ≠ p := fun z => n (z ▸ hm)
    rw [upd_ne this]; exact e, fun a u e f => by
    have : a ≠ p := fun z => by subst z; rw [h] at e; cases e; exact nf f
    rw [upd_ne this]; exact e, fun a e => by
    by_cases q : a = p
    · rw [q, upd_same]; exact fun z => nomatch z
    · rw [upd_ne q]; exact e⟩

section
variable (K : PySem.W.Frag) (mg : Str → Option Value)
/-- a list of the written part -/
def WrL (a : Addr) (xs : List V) : Prop := ∃ (o : Obj) (its : Array Value) (n : Nat), K.lookup a = some o ∧ o.cls = .type "list" ∧ o.dict = none ∧ o.data = .seq its n ∧ its.size ≤ sizeLine ∧ Vals xs its.toList
def LstAt (M : AP') (H : Hp) (a : Addr) (xs : List V) : Prop := H a = some (.lst xs) ∧ ¬ M a
def RolAt (H : Hp) (a : Addr) (xs : List V) : Prop := (∃ o, H a = some (.frz o (.lst xs))) ∨ WrL K a xs
/-- a dict that is a value is locked -/
def DicAt (M : AP') (H : Hp) (a : Addr) (kvs : List (Key × V)) : Prop := ∃ o, H a = some (.frz o (.dK kvs))
/-- an instance -/
def InsAt (M : AP') (H : Hp) (a C dx : Addr) (fs : List (Str × V)) : Prop := H a = some (.ins C dx fs) ∧ ¬ M a
/-- an exception's object -/
def ExV (C : Addr) (od : Option Addr) (a : Addr) : HO := .ext fun h => ∃ (oe : Obj) (vs : Array Value), h.get? a = some oe ∧ Zc (.ref C) od oe ∧ oe.data = .fields vs
/-- an exception as a value -/
def ExcAt (M : AP') (H : Hp) (a C : Addr) (od : Option Addr) (fs : List (Str × V)) : Prop := H a = some (ExV C od a) ∧ ¬ M a ∧ ((od = none ∧ fs = []) ∨ ∃ dx, od = some dx ∧ H dx = some (.xd fs) ∧ ¬ M dx)
theorem LstAt.sq {M : AP'} {H : Hp} {a : Addr} {xs : List V} (h : LstAt M H a xs) : SqL K H a xs := .inl (.inl h.1)
theorem RolAt.sq {H : Hp} {a : Addr} {xs : List V} (h : RolAt K H a xs) : SqL K H a xs := by
  rcases h with ⟨o, h⟩ | h
  · exact .inl (.inr ⟨o, h⟩)
  · exact .inr h
theorem DicAt.rd {M : AP'} {H : Hp} {a : Addr} {xs : List (Key × V)} (h : DicAt M H a xs) : L2.Rd H a (.dK xs) := .inr h

mutual
def Rep (M : AP') (H : Hp) : W → V → Prop
  | .non, v => v = .non
  | .bl b, v => v = .bl b
  | .int i, v => v = .int i
  | .str s, v => v = .str s
  | .tup ws, v => ∃ a vs, v = .ref a ∧ H a = some (.tup vs) ∧ RepL M H ws vs
  | .lst ws, v => ∃ a vs, v = .ref a ∧ LstAt M H a vs ∧ RepL M H ws vs
  | .rol ws, v => ∃ a vs, v = .ref a ∧ RolAt K H a vs ∧ RepL M H ws vs
  | .dic ks ws, v => ∃ a kvs, v = .ref a ∧ DicAt M H a kvs ∧ kvs.map (fun p => kW p.1) = ks ∧ RepL M H ws (kvs.map (·.2))
  | .set _, _ => False
  | .obj c ns ws, v => ∃ a C dx fs, v = .ref a ∧ mg c = some (.ref C) ∧ InsAt M H a C dx fs ∧ fs.map (·.1) = ns ∧ RepL M H ws (fs.map (·.2))
  | .exn c ns ws, v => ∃ a C od fs, v = .ref a ∧ mg c = some (.ref C) ∧ ExcAt M H a C od fs ∧ fs.map (·.1) = ns ∧ RepL M H ws (fs.map (·.2))
  | .ty n, v => v = .ty n
  | .glo x, v => ∃ a, mg x = some (.ref a) ∧ v = .ref a
def RepL (M : AP') (H : Hp) : List W → List V → Prop
  | [], vs => vs = []
  | w :: ws, vs => ∃ v r, vs = v :: r ∧ Rep M H w v ∧ RepL M H ws r
end

variable {K mg}
theorem nn {H : Hp} {a : Addr} {o : HO} (h : H a = some o) (e : H a = none) : False := by rw [e] at h; cases h
theorem sqt_kp {M : AP'} {H H' : Hp} {a : Addr} {xs : List V} (k : Kp M H H') (h : SqT K H a xs) : SqT K H' a xs := by
  rcases h with (h | ⟨o, h⟩) | h
  · exact .inl (.inl (k.t _ _ h trivial))
  · exact .inl (.inr ⟨o, k.t _ _ h trivial⟩)
  · exact .inr h
theorem LstAt.kp {M N M' : AP'} {H H' : Hp} {a : Addr} {xs : List V} (k : Kp N H H') (i : ∀ x, N x → M x ∨ H x = none) (n : ∀ x, M' x → M x ∨ H x = none) (h : LstAt M H a xs) : LstAt M' H' a xs :=
  ⟨k.k _ _ h.1 fun z => (i _ z).elim h.2 (nn h.1), fun z => (n _ z).elim h.2 (nn h.1)⟩
theorem RolAt.kp {N : AP'} {H H' : Hp} {a : Addr} {xs : List V} (k : Kp N H H') (h : RolAt K H a xs) : RolAt K H' a xs := by
  rcases h with ⟨o, h⟩ | h
  · exact .inl ⟨o, k.t _ _ h trivial⟩
  · exact .inr h
theorem DicAt.kp {M N M' : AP'} {H H' : Hp} {a : Addr} {xs : List (Key × V)} (k : Kp N H H') (i : ∀ x, N x → M x ∨ H x = none) (n : ∀ x, M' x → M x ∨ H x = none) (h : DicAt M H a xs) : DicAt M' H' a xs :=
  let ⟨o, h⟩ := h; ⟨o, k.t _ _ h trivial⟩
theorem InsAt.kp {M N M' : AP'} {H H' : Hp} {a C dx : Addr} {fs : List (Str × V)} (k : Kp N H H') (i : ∀ x, N x → M x ∨ H x = none) (n : ∀ x, M' x → M x ∨ H x = none) (h : InsAt M H a C dx fs) : InsAt M' H' a C dx fs :=
  ⟨k.k _ _ h.1 fun z => (i _ z).elim h.2 (nn h.1), fun z => (n _ z).elim h.2 (nn h.1)⟩
theorem ExcAt.kp {M N M' : AP'} {H H' : Hp} {a C : Addr} {od : Option Addr} {fs : List (Str × V)} (k : Kp N H H') (i : ∀ x, N x → M x ∨ H x = none) (n : ∀ x, M' x → M x ∨ H x = none) (h : ExcAt M H a C od fs) : ExcAt M' H' a C od fs :=
  ⟨k.k _ _ h.1 fun z => (i _ z).elim h.2.1 (nn h.1), fun z => (n _ z).elim h.2.1 (nn h.1), h.2.2.imp id fun ⟨dx, e, q, m⟩ => ⟨dx, e, k.k _ _ q fun z => (i _ z).elim m (nn q), fun z => (n _ z).elim m (nn q)⟩⟩

/-- THE persistence: N may change, M is avoided before, M' behind -/
theorem Rep.kp {M N M' : AP'} {H H' : Hp} (k : Kp N H H') (i : ∀ x, N x → M x ∨ H x = none) (n : ∀ x, M' x → M x ∨ H x = none) :
    (∀ w v, Rep K mg M H w v → Rep K mg M' H' w v) := by
  intro w
  refine W.rec (motive_1 := fun w => ∀ v, Rep K mg M H w v → Rep K mg M' H' w v) (motive_2 := fun ws => ∀ vs, RepL K mg M H ws vs → RepL K mg M' H' ws vs)
    ?_ ?_ ?_ ?_ ?_ ?_ ?_ ?_ ?_ ?_ ?_ ?_ ?_ ?_ ?_ w
  · intro v h; exact h
  · intro b v h; exact h
  · intro b v h; exact h
  · intro b v h; exact h
  · intro ws ih v h
    obtain ⟨a, vs, e, h1, h2⟩ := h
    exact ⟨a, vs, e, k.t _ _ h1 trivial, ih _ h2⟩
  · intro ws ih v h
    obtain ⟨a, vs, e, h1, h2⟩ := h
    exact ⟨a, vs, e, h1.kp k i n, ih _ h2⟩
  · intro ws ih v h
    obtain ⟨a, vs, e, h1, h2⟩ := h
    exact ⟨a, vs, e, h1.kp k, ih _ h2⟩
  · intro ks ws _ ih v h
    obtain ⟨a, kvs, e, h1, h2, h3⟩ := h
    exact ⟨a, kvs, e, h1.kp k i n, h2, ih _ h3⟩
  · intro ws _ v h; exact h
  · intro c ns ws ih v h
    obtain ⟨a, C, dx, fs, e, h0, h1, h2, h3⟩ := h
    exact ⟨a, C, dx, fs, e, h0, h1.kp k i n, h2, ih _ h3⟩
  · intro c ns ws ih v h
    obtain ⟨a, C, od, fs, e, h0, h1, h2, h3⟩ := h
    exact ⟨a, C, od, fs, e, h0, h1.kp k i n, h2, ih _ h3⟩
  · intro n v h; exact h
  · intro x v h; exact h
  · intro vs h; exact h
  · intro w ws ih1 ih2 vs h
    obtain ⟨v, r, e, h1, h2⟩ := h
    exact ⟨v, r, e, ih1 _ h1, ih2 _ h2⟩
theorem RepL.kp {M N M' : AP'} {H H' : Hp} (k : Kp N H H') (i : ∀ x, N x → M x ∨ H x = none) (n : ∀ x, M' x → M x ∨ H x = none) : ∀ {ws vs}, RepL K mg M H ws vs → RepL K mg M' H' ws vs
  | [], _, h => h
  | _ :: _, _, ⟨v, r, e, h1, h2⟩ => ⟨v, r, e, Rep.kp k i n _ _ h1, RepL.kp k i n h2⟩
theorem Rep.mono {M M' : AP'} {H : Hp} (n : ∀ x, M' x → M x) {w v} (h : Rep K mg M H w v) : Rep K mg M' H w v := Rep.kp (N := fun _ => False) (Kp.refl _ H) (fun _ z => z.elim) (fun x z => .inl (n x z)) w v h
theorem RepL.mono {M M' : AP'} {H : Hp} (n : ∀ x, M' x → M x) {w v} (h : RepL K mg M H w v) : RepL K mg M' H w v := RepL.kp (N := fun _ => False) (Kp.refl _ H) (fun _ z => z.elim) (fun x z => .inl (n x z)) h
theorem RepL.len {M : AP'} {H : Hp} : ∀ {ws vs}, RepL K mg M H ws vs → vs.length = ws.length
  | [], _, h => by rw [show _ = [] from h]; rfl
  | _ :: ws, _, ⟨v, r, e, _, h2⟩ => by rw [e, List.length_cons, List.length_cons, RepL.len h2]
theorem RepL.app {M : AP'} {H : Hp} : ∀ {ws vs xs us}, RepL K mg M H ws vs → RepL K mg M H xs us → RepL K mg M H (ws ++ xs) (vs ++ us)
  | [], _, _, _, h, h' => by rw [show _ = [] from h]; exact h'
  | _ :: _, _, _, _, ⟨v, r, e, h1, h2⟩, h' => ⟨v, r ++ _, by rw [e]; rfl, h1, RepL.app h2 h'⟩
theorem RepL.get {M : AP'} {H : Hp} : ∀ {ws vs} {i : Nat} {w}, RepL K mg M H ws vs → ws[i]? = some w → ∃ v, vs[i]? = some v ∧ Rep K mg M H w v
  | [], _, _, _, _, e => by simp at e
  | _ :: _, _, 0, _, ⟨v, r, e', h1, _⟩, e => by simp at e; subst e; exact ⟨v, by rw [e']; rfl, h1⟩
  | _ :: _, _, i + 1, _, ⟨v, r, e', _, h2⟩, e => by
    obtain ⟨u, h3, h4⟩ := RepL.get (i := i) h2 (by simpa using e)
    exact ⟨u, by rw [e']; simpa using h3, h4⟩
theorem RepL.one {M : AP'} {H : Hp} {w v} (h : Rep K mg M H w v) : RepL K mg M H [w] [v] := ⟨v, [], rfl, h, rfl⟩
theorem RepL.cons {M : AP'} {H : Hp} {w v ws vs} (h : Rep K mg M H w v) (h' : RepL K mg M H ws vs) : RepL K mg M H (w :: ws) (v :: vs) := ⟨v, vs, rfl, h, h'⟩
theorem RepL.take {M : AP'} {H : Hp} : ∀ (n : Nat) {ws vs}, RepL K mg M H ws vs → RepL K mg M H (ws.take n) (vs.take n)
  | 0, _, _, _ => rfl
  | _ + 1, [], _, h => by rw [show _ = [] from h]; exact rfl
  | n + 1, _ :: _, _, ⟨v, r, e, h1, h2⟩ => by rw [e]; exact ⟨v, _, rfl, h1, RepL.take n h2⟩
theorem RepL.drop {M : AP'} {H : Hp} : ∀ (n : Nat) {ws vs}, RepL K mg M H ws vs → RepL K mg M H (ws.drop n) (vs.drop n)
  | 0, _, _, h => h
  | _ + 1, [], _, h => by rw [show _ = [] from h]; exact rfl
  | n + 1, _ :: _, _, ⟨v, r, e, h1, h2⟩ => by rw [e]; exact RepL.drop n h2
theorem RepL.set {M : AP'} {H : Hp} : ∀ {ws vs} (i : Nat) {w v}, RepL K mg M H ws vs → Rep K mg M H w v → RepL K mg M H (ws.set i w) (vs.set i v)
  | [], _, _, _, _, h, _ => by rw [show _ = [] from h]; exact rfl
  | _ :: _, _, 0, _, _, ⟨v, r, e, _, h2⟩, h' => by rw [e]; exact ⟨_, r, rfl, h', h2⟩
  | _ :: _, _, i + 1, _, _, ⟨v, r, e, h1, h2⟩, h' => by rw [e]; exact ⟨v, _, rfl, h1, RepL.set i h2 h'⟩
theorem RepL.erase {M : AP'} {H : Hp} : ∀ {ws vs} (i : Nat), RepL K mg M H ws vs → RepL K mg M H (ws.eraseIdx i) (vs.eraseIdx i)
  | [], _, _, h => by rw [show _ = [] from h]; exact rfl
  | _ :: _, _, 0, ⟨v, r, e, _, h2⟩ => by rw [e]; exact h2
  | _ :: _, _, i + 1, ⟨v, r, e, h1, h2⟩ => by rw [e]; exact ⟨v, _, rfl, h1, RepL.erase i h2⟩

/-! ### configurations -/
inductive Slot where
  | no | val (w : W) | own (w : W)
  deriving Inhabited
abbrev Env := List Slot

variable (K mg)
/-- what an own object holds -/
def OwnAt (M : AP') (H : Hp) (a : Addr) : W → Prop
  | .lst ws => ∃ vs, H a = some (.lst vs) ∧ RepL K mg M H ws vs
  | .dic ks ws => ∃ kvs, H a = some (.dK kvs) ∧ kvs.map (fun p => kW p.1) = ks ∧ RepL K mg M H ws (kvs.map (·.2))
  | .obj c ns ws => ∃ C dx fs, mg c = some (.ref C) ∧ H a = some (.ins C dx fs) ∧ fs.map (·.1) = ns ∧ RepL K mg M H ws (fs.map (·.2))
  | _ => False
def SlotOk (M : AP') (H : Hp) : Slot → Option Addr → Option V → Prop
  | .no, _, _ => True
  | .val w, _, o => ∃ v, o = some v ∧ Rep K mg M H w v
  | .own w, o', o => ∃ a, o' = some a ∧ o = some (.ref a) ∧ OwnAt K mg M H a w
variable {K mg}
theorem OwnAt.fix {M : AP'} {H : Hp} {a : Addr} {w : W} (h : OwnAt K mg M H a w) : ∃ o, H a = some o ∧ ¬ Fix o := by
  cases w with
  | lst ws => obtain ⟨_, e, _⟩ := h; exact ⟨_, e, fun z => z⟩
  | dic ks ws => obtain ⟨_, e, _⟩ := h; exact ⟨_, e, fun z => z⟩
  | obj c ns ws => obtain ⟨_, _, _, _, e, _⟩ := h; exact ⟨_, e, fun z => z⟩
  | _ => exact h.elim
/-- an own object that is changed no more is a value -/
theorem OwnAt.rep {M M' : AP'} {H : Hp} {a : Addr} {w : W} (nd : ∀ ks ws, w ≠ .dic ks ws) (h : OwnAt K mg M H a w) (n : ∀ x, M' x → M x) (hm : ¬ M' a) : Rep K mg M' H w (.ref a) := by
  cases w with
  | lst ws => obtain ⟨_, e, r⟩ := h; exact ⟨a, _, rfl, ⟨e, hm⟩, r.mono n⟩
  | dic ks ws => exact (nd ks ws rfl).elim
  | obj c ns ws => obtain ⟨_, _, _, q, e, q2, r⟩ := h; exact ⟨a, _, _, _, rfl, q, ⟨e, hm⟩, q2, r.mono n⟩
  | _ => exact h.elim
/-- where only others change -/
theorem OwnAt.kp {M N M' : AP'} {H H' : Hp} {a : Addr} {w : W} (k : Kp N H H') (i : ∀ x, N x → M x ∨ H x = none) (n : ∀ x, M' x → M x ∨ H x = none) (hm : ¬ N a) (h : OwnAt K mg M H a w) : OwnAt K mg M' H' a w := by
  cases w with
  | lst ws => obtain ⟨_, e, r⟩ := h; exact ⟨_, k.k _ _ e hm, r.kp k i n⟩
  | dic ks ws => obtain ⟨_, e, q, r⟩ := h; exact ⟨_, k.k _ _ e hm, q, r.kp k i n⟩
  | obj c ns ws => obtain ⟨_, _, _, q, e, q2, r⟩ := h; exact ⟨_, _, _, q, k.k _ _ e hm, q2, r.kp k i n⟩
  | _ => exact h.elim

/-- a frame: the heap at the entry, what is lent to it, what nobody's data may hold (all own objects of the frames around, and what is lent) -/
structure Frm where
  H0 : Hp
  L : AP'
  M0 : AP'
abbrev Asg := List (Option Addr)
def Ow (α : Asg) : AP' := fun a => ∃ i : Nat, α[i]? = some (some a)
def MM (F : Frm) (α : Asg) (T : List Addr) : AP' := fun a => F.M0 a ∨ Ow α a ∨ a ∈ T

def gO {α : Type} (l : List (Option α)) (i : Nat) : Option α := (l[i]?).join
theorem gO_some {α : Type} {l : List (Option α)} {i : Nat} {a : α} (h : gO l i = some a) : l[i]? = some (some a) := by
  unfold gO at h
  cases e : l[i]? with
  | none => rw [e] at h; cases h
  | some x => rw [e] at h; cases x with
    | none => cases h
    | some y => cases h; rfl
theorem gO_of {α : Type} {l : List (Option α)} {i : Nat} {a : α} (h : l[i]? = some (some a)) : gO l i = some a := by unfold gO; rw [h]; rfl
theorem gO_set {α : Type} {l : List (Option α)} {i : Nat} {x : Option α} (h : i < l.length) : gO (l.set i x) i = x := by
  unfold gO; rw [List.getElem?_set_self h]; rfl
theorem gO_set_ne {α : Type} {l : List (Option α)} {i j : Nat} {x : Option α} (h : i ≠ j) : gO (l.set i x) j = gO l j := by
  unfold gO; rw [List.getElem?_set_ne h]

variable (K mg)
structure Cfg (F : Frm) (α : Asg) (T : List Addr) (env : Env) (σ : St) (H : Hp) : Prop where
  le : env.length = σ.length
  la : α.length = σ.length
  nd : ∀ (i j : Nat) a, gO α i = some a → gO α j = some a → i = j
  nt : ∀ (i : Nat) a, gO α i = some a → a ∉ T
  nw : ∀ a, (Ow α a ∨ a ∈ T) → F.L a ∨ F.H0 a = none
  tr : ∀ a, MM F α T a → H a ≠ none
  lm : ∀ a, F.L a → F.M0 a
  kp : Kp F.L F.H0 H
  sl : ∀ (i : Nat) s, env[i]? = some s → SlotOk K mg (MM F α T) H s (gO α i) (gO σ i)
variable {K mg}
end
end PM

namespace PM
open PySem L2
section
variable {K : PySem.W.Frag} {mg : Str → Option Value} {F : Frm} {α : Asg} {T : List Addr} {env : Env} {σ : St} {H H' : Hp} {p a : Addr} {w : W} {v : V}

theorem ow_iff {α : Asg} {a : Addr} : Ow α a ↔ ∃ i, gO α i = some a := ⟨fun ⟨i, h⟩ => ⟨i, gO_of h⟩, fun ⟨i, h⟩ => ⟨i, gO_some h⟩⟩
theorem ow_set {i : Nat} {o : Option Addr} (h : Ow (α.set i o) a) : o = some a ∨ Ow α a := by
  obtain ⟨j, h⟩ := ow_iff.mp h
  by_cases e : i = j
  · subst e
    by_cases hl : i < α.length
    · rw [gO_set hl] at h; exact .inl h
    · rw [List.set_eq_of_length_le (Nat.le_of_not_lt hl)] at h; exact .inr (ow_iff.mpr ⟨i, h⟩)
  · rw [gO_set_ne e] at h; exact .inr (ow_iff.mpr ⟨j, h⟩)
theorem SlotOk.kp {M N M' : AP'} {s : Slot} {o : Option Addr} {x : Option V} (k : Kp N H H') (i : ∀ x, N x → M x ∨ H x = none) (n : ∀ x, M' x → M x ∨ H x = none) (hm : ∀ a, o = some a → ¬ N a) (h : SlotOk K mg M H s o x) : SlotOk K mg M' H' s o x := by
  cases s with
  | no => trivial
  | val w => obtain ⟨v, e, r⟩ := h; exact ⟨v, e, r.kp k i n⟩
  | own w => obtain ⟨a, e, e2, r⟩ := h; exact ⟨a, e, e2, r.kp k i n (hm a e)⟩
theorem SlotOk.mono {M M' : AP'} {s : Slot} {o : Option Addr} {x : Option V} (n : ∀ x, M' x → M x) (h : SlotOk K mg M H s o x) : SlotOk K mg M' H s o x :=
  SlotOk.kp (N := fun _ => False) (Kp.refl _ H) (fun _ z => z.elim) (fun x z => .inl (n x z)) (fun _ _ z => z) h

theorem Cfg.notin (c : Cfg K mg F α T env σ H) (h : H p = none) : ¬ MM F α T p := fun z => c.tr p z h
theorem Cfg.h0 (c : Cfg K mg F α T env σ H) (h : H p = none) : F.H0 p = none := by
  cases e : F.H0 p with
  | none => rfl
  | some o => exact absurd h (c.kp.d p (by rw [e]; exact fun z => nomatch z))
theorem Cfg.drop (c : Cfg K mg F α (p :: T) env σ H) : Cfg K mg F α T env σ H :=
  ⟨c.le, c.la, c.nd, fun i a e z => c.nt i a e (List.mem_cons_of_mem _ z), fun a z => c.nw a (z.imp id (List.mem_cons_of_mem _)), fun a z => c.tr a (z.imp id (Or.imp id (List.mem_cons_of_mem _))), c.lm, c.kp,
    fun i s e => (c.sl i s e).mono fun x z => z.imp id (Or.imp id (List.mem_cons_of_mem _))⟩
/-- nothing is changed, things are made -/
theorem Cfg.ext (c : Cfg K mg F α T env σ H) (k : Kp (fun _ => False) H H') : Cfg K mg F α T env σ H' :=
  ⟨c.le, c.la, c.nd, c.nt, c.nw, fun a z => k.d a (c.tr a z), c.lm, c.kp.trans k (fun _ z => z.elim), fun i s e => (c.sl i s e).kp k (fun _ z => z.elim) (fun _ z => .inl z) (fun _ _ z => z)⟩
/-- what is made is set apart -/
theorem Cfg.apart (c : Cfg K mg F α T env σ H) (k : Kp (fun _ => False) H H') (h : H p = none) (h' : H' p ≠ none) : Cfg K mg F α (p :: T) env σ H' := by
  have c' := c.ext k
  have ni := c.notin h
  refine ⟨c'.le, c'.la, c'.nd, fun i a e z => ?_, fun a z => ?_, fun a z => ?_, c'.lm, c'.kp, fun i s e => (c.sl i s e).kp k (fun _ z => z.elim) (fun x z => ?_) (fun _ _ z => z)⟩
  · rcases List.mem_cons.mp z with e2 | z
    · subst e2; exact ni (.inr (.inl (ow_iff.mpr ⟨i, e⟩)))
    · exact c.nt i a e z
  · rcases z with z | z
    · exact c.nw a (.inl z)
    · rcases List.mem_cons.mp z with e2 | z
      · subst e2; exact .inr (c.h0 h)
      · exact c.nw a (.inr z)
  · rcases z with z | z | z
    · exact c'.tr a (.inl z)
    · exact c'.tr a (.inr (.inl z))
    · rcases List.mem_cons.mp z with e2 | z
      · subst e2; exact h'
      · exact c'.tr a (.inr (.inr z))
  · rcases z with z | z | z
    · exact .inl (.inl z)
    · exact .inl (.inr (.inl z))
    · rcases List.mem_cons.mp z with e2 | z
      · subst e2; exact .inr h
      · exact .inl (.inr (.inr z))

theorem gO_lt {α : Type} {l : List (Option α)} {i : Nat} {a : α} (h : gO l i = some a) : i < l.length := (List.getElem?_eq_some_iff.mp (gO_some h)).1
theorem ow_lent (c : Cfg K mg F α T env σ H) {a : Addr} {o : HO} (e : F.H0 a = some o) (nl : ¬ F.L a) : ¬ Ow α a := fun z => (c.nw a (.inl z)).elim nl (nn e)
/-- the content of an own object changes -/
theorem Cfg.mut {i : Nat} {o o' : HO} {w w' : W} (c : Cfg K mg F α T env σ H) (hi : env[i]? = some (.own w)) (ha : gO α i = some a) (ho : H a = some o) (nf : ¬ Fix o)
    (hw : OwnAt K mg (MM F α T) (upd H a o') a w') : Cfg K mg F α T (env.set i (.own w')) σ (upd H a o') := by
  have hO : Ow α a := ow_iff.mpr ⟨i, ha⟩
  have k : Kp (fun x => x = a) H (upd H a o') := Kp.mut ho nf rfl
  have kF : Kp F.L F.H0 (upd H a o') := by
    refine ⟨fun x u e n => ?_, fun x u e f => k.t _ _ (c.kp.t _ _ e f) f, fun x e => k.d _ (c.kp.d _ e)⟩
    exact k.k _ _ (c.kp.k _ _ e n) fun z => by subst z; exact ow_lent c e n hO
  refine ⟨by rw [List.length_set]; exact c.le, c.la, c.nd, c.nt, c.nw, fun x z => k.d _ (c.tr x z), c.lm, kF, fun j s e => ?_⟩
  by_cases hj : i = j
  · subst hj
    rw [List.getElem?_set_self (List.getElem?_eq_some_iff.mp hi).1] at e
    cases e
    obtain ⟨b, e1, e2, _⟩ := c.sl i _ hi
    rw [ha] at e1; cases e1
    exact ⟨a, ha, e2, hw⟩
  · rw [List.getElem?_set_ne hj] at e
    refine (c.sl j s e).kp k (fun x z => .inl (by subst z; exact .inr (.inl hO))) (fun _ z => .inl z) fun b e2 z => ?_
    subst z
    exact hj (c.nd i j b ha e2)

theorem mm_set_none {i : Nat} {x : Addr} (h : MM F (α.set i none) T x) : MM F α T x := by
  rcases h with h | h | h
  · exact .inl h
  · rcases ow_set h with e | h
    · cases e
    · exact .inr (.inl h)
  · exact .inr (.inr h)
/-- a name gets a value -/
theorem Cfg.setVal {i : Nat} (c : Cfg K mg F α T env σ H) (hi : i < σ.length) (r : Rep K mg (MM F α T) H w v) : Cfg K mg F (α.set i none) T (env.set i (.val w)) (σ.set i (some v)) H := by
  have mm : ∀ x, MM F (α.set i none) T x → MM F α T x := fun x => mm_set_none
  have ga : ∀ {j b}, gO (α.set i none) j = some b → i ≠ j ∧ gO α j = some b := fun {j b} e => by
    by_cases hj : i = j
    · subst hj; rw [gO_set (by rw [c.la]; exact hi)] at e; cases e
    · rw [gO_set_ne hj] at e; exact ⟨hj, e⟩
  refine ⟨by simp [c.le], by simp [c.la], fun j k b e1 e2 => c.nd j k b (ga e1).2 (ga e2).2, fun j b e => c.nt j b (ga e).2, fun b z => c.nw b (z.imp (fun z => ?_) id), fun b z => c.tr b (mm b z), c.lm, c.kp, fun j s e => ?_⟩
  · obtain ⟨j, z⟩ := ow_iff.mp z
    exact ow_iff.mpr ⟨j, (ga z).2⟩
  · by_cases hj : i = j
    · subst hj
      rw [List.getElem?_set_self (by rw [c.le]; exact hi)] at e
      cases e
      rw [gO_set hi]
      exact ⟨v, rfl, r.mono mm⟩
    · rw [List.getElem?_set_ne hj] at e
      rw [gO_set_ne hj, gO_set_ne hj]
      exact (c.sl j s e).mono mm
/-- a name gets a new object -/
theorem Cfg.setOwn {i : Nat} (c : Cfg K mg F α (p :: T) env σ H) (hi : i < σ.length) (r : OwnAt K mg (MM F α (p :: T)) H p w) (hT : p ∉ T) : Cfg K mg F (α.set i (some p)) T (env.set i (.own w)) (σ.set i (some (.ref p))) H := by
  have hia : i < α.length := by rw [c.la]; exact hi
  have mm : ∀ x, MM F (α.set i (some p)) T x → MM F α (p :: T) x := fun x z => by
    rcases z with z | z | z
    · exact .inl z
    · rcases ow_set z with e | z
      · cases e; exact .inr (.inr List.mem_cons_self)
      · exact .inr (.inl z)
    · exact .inr (.inr (List.mem_cons_of_mem _ z))
  have ga : ∀ {j b}, gO (α.set i (some p)) j = some b → (i = j ∧ b = p) ∨ (i ≠ j ∧ gO α j = some b) := fun {j b} e => by
    by_cases hj : i = j
    · subst hj; rw [gO_set hia] at e; cases e; exact .inl ⟨rfl, rfl⟩
    · rw [gO_set_ne hj] at e; exact .inr ⟨hj, e⟩
  have np : ∀ j b, gO α j = some b → b ≠ p := fun j b e z => c.nt j b e (by rw [z]; exact List.mem_cons_self)
  refine ⟨by simp [c.le], by simp [c.la], fun j k b e1 e2 => ?_, fun j b e z => ?_, fun b z => ?_, fun b z => c.tr b (mm b z), c.lm, c.kp, fun j s e => ?_⟩
  · rcases ga e1 with ⟨h1, h2⟩ | ⟨h1, h2⟩ <;> rcases ga e2 with ⟨h3, h4⟩ | ⟨h3, h4⟩
    · exact h1.symm.trans h3
    · exact absurd h2 (np _ _ h4)
    · exact absurd h4 (np _ _ h2)
    · exact c.nd j k b h2 h4
  · rcases ga e with ⟨_, h2⟩ | ⟨_, h2⟩
    · rw [h2] at z; exact hT z
    · exact c.nt j b h2 (List.mem_cons_of_mem _ z)
  · rcases z with z | z
    · rcases ow_set z with e | z
      · cases e; exact c.nw p (.inr List.mem_cons_self)
      · exact c.nw b (.inl z)
    · exact c.nw b (.inr (List.mem_cons_of_mem _ z))
  · by_cases hj : i = j
    · subst hj
      rw [List.getElem?_set_self (by rw [c.le]; exact hi)] at e
      cases e
      rw [gO_set hi, gO_set hia]
      refine ⟨p, rfl, rfl, ?_⟩
      exact OwnAt.kp (N := fun _ => False) (Kp.refl _ H) (fun _ z => z.elim) (fun x z => .inl (mm x z)) (fun z => z) r
    · rw [List.getElem?_set_ne hj] at e
      rw [gO_set_ne hj, gO_set_ne hj]
      exact (c.sl j s e).mono mm
theorem Cfg.fresh_nt (c : Cfg K mg F α T env σ H) (h : H p = none) : p ∉ T := fun z => c.tr p (.inr (.inr z)) h
/-- a thing of T changes -/
theorem Cfg.mutT {K : PySem.W.Frag} {mg : Str → Option Value} {α : Asg} {T : List Addr} {env : Env} {σ : St} {H : Hp} {a : Addr} {o o' : HO} (c : Cfg K mg F α T env σ H) (ha : a ∈ T) (ho : H a = some o) (nf : ¬ Fix o) (nl : F.H0 a = none) : Cfg K mg F α T env σ (upd H a o') := by
  have k : Kp (fun x => x = a) H (upd H a o') := Kp.mut ho nf rfl
  have kF : Kp F.L F.H0 (upd H a o') := by
    refine ⟨fun x u e n => ?_, fun x u e f => k.t _ _ (c.kp.t _ _ e f) f, fun x e => k.d _ (c.kp.d _ e)⟩
    exact k.k _ _ (c.kp.k _ _ e n) fun z => by subst z; rw [nl] at e; cases e
  refine ⟨c.le, c.la, c.nd, c.nt, c.nw, fun x z => k.d _ (c.tr x z), c.lm, kF, fun j s e => ?_⟩
  refine (c.sl j s e).kp k (fun x z => .inl (by subst z; exact .inr (.inr ha))) (fun _ z => .inl z) fun b e2 z => ?_
  subst z
  exact c.nt j _ e2 ha

/-- a value that may be locked first -/
def LkQ (Q : VK) : VK := fun v H => Q v H ∨ ∃ a kvs, v = .ref a ∧ H a = some (.dK kvs) ∧ ∀ od, Q v (upd H a (.frz od (.dK kvs)))
/-- a new thing as a value -/
theorem lk_own {Q : VK} (c : Cfg K mg F α (p :: T) env σ H) (h0 : F.H0 p = none) (hm : ¬ MM F α T p) (o : OwnAt K mg (MM F α (p :: T)) H p w)
    (k : ∀ H', Cfg K mg F α T env σ H' → Kp (fun x => x = p) H H' → Rep K mg (MM F α T) H' w (.ref p) → Q (.ref p) H') : LkQ Q (.ref p) H := by
  have nn' : ∀ x, MM F α T x → MM F α (p :: T) x := fun x z => z.imp id (Or.imp id (List.mem_cons_of_mem _))
  by_cases hd : ∃ ks ws, w = .dic ks ws
  · obtain ⟨ks, ws, rfl⟩ := hd
    obtain ⟨kvs, e, hks, r⟩ := o
    refine .inr ⟨p, kvs, rfl, e, fun od => ?_⟩
    have km : Kp (fun x => x = p) H (upd H p (.frz od (.dK kvs))) := Kp.mut e (fun z => z) rfl
    refine k _ (c.mutT List.mem_cons_self e (fun z => z) h0).drop km ⟨p, kvs, rfl, ⟨od, upd_same⟩, hks, ?_⟩
    exact r.kp km (fun x z => .inl (by rw [z]; exact .inr (.inr List.mem_cons_self))) fun x z => .inl (nn' x z)
  · exact .inl (k H c.drop (Kp.refl _ _) (o.rep (fun ks ws z => hd ⟨ks, ws, z⟩) nn' hm))

/-! ### results -/
/-- an exception: its class's name, what it keeps -/
structure Exn where
  c : Str
  f : List (Str × W)
  deriving Inhabited
inductive R (β : Type) where
  | ok (a : β) (e : Env) | exc (x : Exn) (e : Env) | no
/-- a value; or what the own name in slot i holds -/
inductive Hd where
  | v (w : W) | s (i : Nat)
def R.bind {β γ : Type} (r : R β) (f : β → Env → R γ) : R γ := match r with
  | .ok a e => f a e
  | .exc x e => .exc x e
  | .no => .no
@[simp] theorem R.bind_ok {β γ : Type} (a : β) (e : Env) (f : β → Env → R γ) : (R.ok a e).bind f = f a e := rfl
@[simp] theorem R.bind_exc {β γ : Type} (x : Exn) (e : Env) (f : β → Env → R γ) : (R.exc x e : R β).bind f = .exc x e := rfl
@[simp] theorem R.bind_no {β γ : Type} (f : β → Env → R γ) : (R.no : R β).bind f = .no := rfl

/-- what is read of a handle -/
def rd (env : Env) : Hd → Option W
  | .v w => some w
  | .s i => match env[i]? with
    | some (.own w) => some w
    | _ => none
variable (K mg)
def RepH (M : AP') (H : Hp) (α : Asg) : Hd → V → Prop
  | .v w, v => Rep K mg M H w v
  | .s i, v => ∃ a, gO α i = some a ∧ v = .ref a
/-- an exception stands -/
def RepX (M : AP') (x : Exn) (cls : Value) (d : Option Addr) (H : Hp) : Prop :=
  ∃ C, mg x.c = some (.ref C) ∧ cls = .ref C ∧ ((x.f = [] ∧ d = none) ∨ ∃ dx fs, d = some dx ∧ H dx = some (.xd fs) ∧ ¬ M dx ∧ fs.map (·.1) = x.f.map (·.1) ∧ RepL K mg M H (x.f.map (·.2)) (fs.map (·.2)))
variable {K mg}
theorem RepH.kp {M : AP'} {hd : Hd} {v : V} {N : AP'} (k : Kp N H H') (i : ∀ x, N x → M x ∨ H x = none) (h : RepH K mg M H α hd v) : RepH K mg M H' α hd v := by
  cases hd with
  | v w => exact Rep.kp k i (fun _ z => .inl z) _ _ h
  | s i => exact h
variable (K mg)
/-- read just now: a value, or what an own name holds -/
def RepB (M : AP') (H : Hp) (w : W) (v : V) : Prop := Rep K mg M H w v ∨ ∃ a, v = .ref a ∧ OwnAt K mg M H a w
variable {K mg}
/-- a handle is read -/
theorem Cfg.read {hd : Hd} (c : Cfg K mg F α T env σ H) (r : RepH K mg (MM F α T) H α hd v) (e : rd env hd = some w) : RepB K mg (MM F α T) H w v := by
  cases hd with
  | v u => cases e; exact .inl r
  | s i =>
    obtain ⟨a, ha, rfl⟩ := r
    simp only [rd] at e
    cases q : env[i]? with
    | none => rw [q] at e; cases e
    | some s =>
      rw [q] at e
      cases s with
      | own u =>
        cases e
        obtain ⟨b, e1, _, o⟩ := c.sl i _ q
        rw [ha] at e1; cases e1
        exact .inr ⟨a, rfl, o⟩
      | _ => cases e
theorem own_mm {x : Addr} (h : Ow α x) : MM F α T x := .inr (.inl h)

/-! ### readings -/
variable (K mg)
/-- an expression that yields a handle -/
def tE (F : Frm) (Wx : WX) (m : Env → R Hd) : TE := fun σ H Q => ∃ α T env, Cfg K mg F α T env σ H ∧ match m env with
  | .ok hd env' => ∀ H' v, Cfg K mg F α T env' σ H' → Kp (Ow α) H H' → RepH K mg (MM F α T) H' α hd v → Q v H'
  | .exc x env' => ∀ H' cls d, Cfg K mg F α T env' σ H' → Kp (Ow α) H H' → RepX K mg (MM F α T) x cls d H' → Wx cls d σ H'
  | .no => False
/-- a test -/
def tT (F : Frm) (Wx : WX) (m : Env → R Bool) : TT := fun σ H Q => ∃ α T env, Cfg K mg F α T env σ H ∧ match m env with
  | .ok b env' => ∀ H', Cfg K mg F α T env' σ H' → Kp (Ow α) H H' → Q b H'
  | .exc x env' => ∀ H' cls d, Cfg K mg F α T env' σ H' → Kp (Ow α) H H' → RepX K mg (MM F α T) x cls d H' → Wx cls d σ H'
  | .no => False
/-- a new thing -/
def tF (F : Frm) (Wx : WX) (m : Env → R W) : TE := fun σ H Q => ∃ α T env, Cfg K mg F α T env σ H ∧ match m env with
  | .ok w env' => ∀ H' p, H p = none → Cfg K mg F α (p :: T) env' σ H' → Kp (Ow α) H H' → OwnAt K mg (MM F α (p :: T)) H' p w → Q (.ref p) H'
  | .exc x env' => ∀ H' cls d, Cfg K mg F α T env' σ H' → Kp (Ow α) H H' → RepX K mg (MM F α T) x cls d H' → Wx cls d σ H'
  | .no => False
/-- handles in a row -/
def RepHs (M : AP') (H : Hp) (α : Asg) : List Hd → List V → Prop
  | [], vs => vs = []
  | h :: hs, vs => ∃ v r, vs = v :: r ∧ RepH K mg M H α h v ∧ RepHs M H α hs r
def tA (F : Frm) (Wx : WX) (m : Env → R (List Hd)) : TA := fun σ H Q => ∃ α T env, Cfg K mg F α T env σ H ∧ match m env with
  | .ok hs env' => ∀ H' vs, Cfg K mg F α T env' σ H' → Kp (Ow α) H H' → RepHs K mg (MM F α T) H' α hs vs → Q vs H'
  | .exc x env' => ∀ H' cls d, Cfg K mg F α T env' σ H' → Kp (Ow α) H H' → RepX K mg (MM F α T) x cls d H' → Wx cls d σ H'
  | .no => False
variable {K mg}
theorem RepHs.kp {M : AP'} {N : AP'} (k : Kp N H H') (i : ∀ x, N x → M x ∨ H x = none) : ∀ {hs : List Hd} {vs : List V}, RepHs K mg M H α hs vs → RepHs K mg M H' α hs vs
  | [], _, h => h
  | _ :: _, _, ⟨v, r, e, h1, h2⟩ => ⟨v, r, e, h1.kp k i, RepHs.kp k i h2⟩
def rds (env : Env) : List Hd → Option (List W)
  | [] => some []
  | h :: hs => match rd env h with
    | none => none
    | some w => match rds env hs with
      | none => none
      | some ws => some (w :: ws)
def RepBs (K : PySem.W.Frag) (mg : Str → Option Value) (M : AP') (H : Hp) : List W → List V → Prop
  | [], vs => vs = []
  | w :: ws, vs => ∃ v r, vs = v :: r ∧ RepB K mg M H w v ∧ RepBs K mg M H ws r
theorem Cfg.reads (c : Cfg K mg F α T env σ H) : ∀ {hs : List Hd} {vs : List V} {ws : List W}, RepHs K mg (MM F α T) H α hs vs → rds env hs = some ws → RepBs K mg (MM F α T) H ws vs
  | [], vs, ws, h, e => by
    cases e; exact h
  | hd :: hs, vs, ws, ⟨v, r, e1, h1, h2⟩, e => by
    simp only [rds] at e
    cases q : rd env hd with
    | none => rw [q] at e; cases e
    | some w =>
      rw [q] at e
      cases q2 : rds env hs with
      | none => rw [q2] at e; cases e
      | some us =>
        rw [q2] at e; cases e
        exact ⟨v, r, e1, c.read h1 q, Cfg.reads c h2 q2⟩
/-- values alone -/
def pv1 : Hd → Option W
  | .v w => some w
  | .s _ => none
def pvs : List Hd → Option (List W)
  | [] => some []
  | h :: hs => match pv1 h with
    | none => none
    | some w => match pvs hs with
      | none => none
      | some ws => some (w :: ws)
theorem RepHs.vals {M : AP'} : ∀ {hs : List Hd} {vs : List V} {ws : List W}, RepHs K mg M H α hs vs → pvs hs = some ws → RepL K mg M H ws vs
  | [], vs, ws, h, e => by cases e; exact h
  | hd :: hs, vs, ws, ⟨v, r, e1, h1, h2⟩, e => by
    simp only [pvs] at e
    cases hd with
    | s i => cases e
    | v w =>
      simp only [pv1] at e
      cases q2 : pvs hs with
      | none => rw [q2] at e; cases e
      | some us =>
        rw [q2] at e; cases e
        exact ⟨v, r, e1, h1, RepHs.vals h2 q2⟩
theorem pvs_rds (env : Env) : ∀ {hs : List Hd} {ws : List W}, pvs hs = some ws → rds env hs = some ws
  | [], _, e => e
  | hd :: hs, ws, e => by
    simp only [pvs] at e
    cases hd with
    | s i => cases e
    | v w =>
      simp only [pv1] at e
      cases q2 : pvs hs with
      | none => rw [q2] at e; cases e
      | some us =>
        rw [q2] at e; cases e
        simp only [rds, rd, pvs_rds env q2]
end
end PM

namespace PM
open PySem L2

def Str.ok (x : Str) : Bool := x.cps.all (· < 0x110000)

mutual
/-- data of a depth that is bounded -/
def dOk : Nat → W → Bool
  | _, .non => true
  | _, .bl _ => true
  | _, .int _ => true
  | _, .str x => PM.Str.ok x
  | n + 1, .tup ws => dOks n ws
  | n + 1, .lst ws => dOks n ws
  | n + 1, .rol ws => dOks n ws
  | _, _ => false
def dOks : Nat → List W → Bool
  | _, [] => true
  | n, w :: ws => dOk n w && dOks n ws
end
def b2i' (b : Bool) : Int := if b then 1 else 0
mutual
def eqB : W → W → Bool
  | .non, .non => true
  | .bl a, .bl b => a == b
  | .bl a, .int j => b2i' a == j
  | .int i, .bl b => i == b2i' b
  | .int i, .int j => i == j
  | .str x, .str y => x == y
  | .tup xs, .tup ys => eqBs xs ys
  | .lst xs, .lst ys => eqBs xs ys
  | .lst xs, .rol ys => eqBs xs ys
  | .rol xs, .lst ys => eqBs xs ys
  | .rol xs, .rol ys => eqBs xs ys
  | _, _ => false
def eqBs : List W → List W → Bool
  | [], [] => true
  | x :: xs, y :: ys => eqB x y && eqBs xs ys
  | _, _ => false
end
def eqW (a b : W) : Option Bool := if dOk 60 a && dOk 60 b then some (eqB a b) else none

def big : Nat := 2 ^ 8000
def mulI (i j : Int) : Option W := if decide (i.natAbs < big) && decide (j.natAbs < big) then some (.int (i * j)) else none
def binW : Operator → W → W → Option W
  | .Add, .int i, .int j => some (.int (i + j))
  | .Add, .str x, .str y => if x.length + y.length ≤ sizeLine then some (.str (x ++ y)) else none
  | .Add, .tup xs, .tup ys => if xs.length + ys.length ≤ sizeLine then some (.tup (xs ++ ys)) else none
  | .Add, .lst xs, .lst ys => if xs.length + ys.length ≤ sizeLine then some (.lst (xs ++ ys)) else none
  | .Sub, .int i, .int j => some (.int (i - j))
  | .Mult, .int i, .int j => mulI i j
  | .Mult, .str x, .int k => if k = 0 ∨ k = 1 then some (.str (if k = 0 then Str.empty else x)) else none
  | .Mult, .lst xs, .int k => if 0 ≤ k ∧ k ≤ 1000 ∧ xs.length ≤ 1000 then some (.lst (List.replicate k.toNat xs).flatten) else none
  | .FloorDiv, .int i, .int j => if 0 < j ∧ j.natAbs < big then some (.int (i / j)) else none
  | .Mod, .int i, .int j => if 0 < j then some (.int (i % j)) else none
  | .Pow, .int i, .int j => if 0 ≤ j ∧ j ≤ 1000 ∧ i.natAbs < 2 ^ 60 then some (.int (i ^ j.toNat)) else none
  | _, _, _ => none

/-- x < y -/
def ltB : W → W → Option Bool
  | .int i, .int j => some (decide (i < j))
  | .str x, .str y => some (decide (x.cps.toList < y.cps.toList))
  | _, _ => none
def flatW : W → Bool
  | .non => true
  | .bl _ => true
  | .int _ => true
  | .str _ => true
  | _ => false
def inT (x : W) (ws : List W) : Option Bool := if flatW x && ws.all flatW then some (ws.any fun y => eqB y x) else none
def inW (x : W) (ws : List W) : Option Bool := if dOk 60 x && dOks 59 ws then some (ws.any fun y => eqB y x) else none
def isNonW : W → Bool
  | .non => true
  | _ => false
def kEq : W → W → Bool
  | .int i, .int j => i == j
  | .str x, .str y => x == y
  | _, _ => false
def dGet : List W → List W → W → Option W
  | k :: ks, w :: ws, x => if kEq k x then some w else dGet ks ws x
  | _, _, _ => none
def isKey : W → Bool
  | .int _ => true
  | .str _ => true
  | _ => false
/-- equal flat values of one kind -/
def flatEq : W → W → Bool
  | .non, .non => true
  | .bl a, .bl b => a == b
  | .int a, .int b => a == b
  | .str a, .str b => decide (a = b)
  | _, _ => false
/-- each key of a dict is in another one, with an equal value -/
def dSub : List W → List W → List W → List W → Bool
  | [], [], _, _ => true
  | k :: ks, w :: ws, ls, us => isKey k && (match dGet ls us k with | some u => flatEq w u | none => false) && dSub ks ws ls us
  | _, _, _, _ => false
def dSame (ks ws ls us : List W) : Bool := (ks.length == ls.length) && dSub ks ws ls us
def cmpW : CmpOp → W → W → Option Bool
  | .Eq, .dic ks ws, .dic ls us => if dSame ks ws ls us = true then some true else none
  | .NotEq, .dic ks ws, .dic ls us => if dSame ks ws ls us = true then some false else none
  | .Eq, a, b => eqW a b
  | .NotEq, a, b => (eqW a b).map not
  | .Lt, a, b => ltB a b
  | .Gt, a, b => ltB b a
  | .LtE, a, b => (ltB b a).map not
  | .GtE, a, b => (ltB a b).map not
  | .Is, a, .non => some (isNonW a)
  | .IsNot, a, .non => some (!isNonW a)
  | .Is, .bl a, .bl b => some (a == b)
  | .IsNot, .bl a, .bl b => some (!(a == b))
  | .In, x, .tup ws => inT x ws
  | .In, x, .lst ws => inW x ws
  | .NotIn, x, .tup ws => (inT x ws).map not
  | .NotIn, x, .lst ws => (inW x ws).map not
  | _, _, _ => none
/-- the place of an index -/
def ixW (n : Nat) (i : Int) : Option Nat := if 0 ≤ i then (if i < n then some i.toNat else none) else if -(n : Int) ≤ i then some (i + n).toNat else none
def subW : W → W → Option W
  | .tup ws, .int i => match ixW ws.length i with | some j => ws[j]? | none => none
  | .lst ws, .int i => match ixW ws.length i with | some j => ws[j]? | none => none
  | .rol ws, .int i => match ixW ws.length i with | some j => ws[j]? | none => none
  | .dic ks ws, k => if isKey k then dGet ks ws k else none
  | _, _ => none
def insInt (x : Int) : List Int → List Int
  | [] => [x]
  | y :: ys => if x ≤ y then x :: y :: ys else y :: insInt x ys
def sortInt : List Int → List Int
  | [] => []
  | x :: xs => insInt x (sortInt xs)
def leP (p q : Int × Int) : Bool := decide (p.1 < q.1) || (p.1 == q.1 && decide (p.2 ≤ q.2))
def insP (x : Int × Int) : List (Int × Int) → List (Int × Int)
  | [] => [x]
  | y :: ys => if leP x y then x :: y :: ys else y :: insP x ys
def sortP : List (Int × Int) → List (Int × Int)
  | [] => []
  | x :: xs => insP x (sortP xs)
def ints? : List W → Option (List Int)
  | [] => some []
  | .int i :: ws => match ints? ws with | some l => some (i :: l) | none => none
  | _ => none
def bools? : List W → Option (List Bool)
  | [] => some []
  | .bl i :: ws => match bools? ws with | some l => some (i :: l) | none => none
  | _ => none
def strs? : List W → Option (List Str)
  | [] => some []
  | .str i :: ws => match strs? ws with | some l => some (i :: l) | none => none
  | _ => none
def pairs? : List W → Option (List (Int × Int))
  | [] => some []
  | .tup [.int i, .int j] :: ws => match pairs? ws with | some l => some ((i, j) :: l) | none => none
  | _ => none
def pairW (p : Int × Int) : W := .tup [.int p.1, .int p.2]
/-- items of a list or a tuple -/
def seqW : W → Option (List W)
  | .tup ws => some ws
  | .lst ws => some ws
  | .rol ws => some ws
  | _ => none
inductive Bi where
  | len | abs | int | str | tuple | max | min | sum | all | any | isin | repr
  deriving DecidableEq
inductive Fb where
  | list | sorted | dict
  deriving DecidableEq
/-- a type's name, an own class's -/
def tyW : W → Option W
  | .non => some (.ty "NoneType")
  | .bl _ => some (.ty "bool")
  | .int _ => some (.ty "int")
  | .str _ => some (.ty "str")
  | .tup _ => some (.ty "tuple")
  | .lst _ => some (.ty "list")
  | .dic _ _ => some (.ty "dict")
  | .obj c _ _ => some (.glo c)
  | .exn c _ _ => some (.exn c [] [])
  | _ => none
def distinct : List Int → Bool
  | [] => true
  | x :: xs => !xs.contains x && distinct xs
def lenW : List W → Option W
  | [.str x] => if x.length ≤ sizeLine then some (.int x.length) else none
  | [.dic ks _] => some (.int ks.length)
  | [w] => match seqW w with | some ws => some (.int ws.length) | none => none
  | _ => none
def absW : List W → Option W
  | [.int i] => some (.int (if i < 0 then -i else i))
  | _ => none
def intW : List W → Option W
  | [.int i] => some (.int i)
  | [.bl b] => some (.int (if b then 1 else 0))
  | _ => none
def strW : List W → Option W
  | [.int i] => if i.natAbs < 2 ^ 1900 then some (.str (toString i : String)) else none
  | [.str x] => some (.str x)
  | _ => none
def tupleW : List W → Option W
  | [w] => match seqW w with | some ws => some (.tup ws) | none => none
  | _ => none
def maxW : List W → Option W
  | [.int i, .int j] => some (.int (if j > i then j else i))
  | _ => none
def minW : List W → Option W
  | [.int i, .int j] => some (.int (if j < i then j else i))
  | _ => none
def sumW : List W → Option W
  | [.lst ws] => match ints? ws with | some l => some (.int l.sum) | none => none
  | _ => none
def allW : List W → Option W
  | [.lst ws] => match bools? ws with | some l => some (.bl (l.all id)) | none => none
  | _ => none
def anyW : List W → Option W
  | [.lst ws] => match bools? ws with | some l => some (.bl (l.any id)) | none => none
  | _ => none
def isinW (isi : W → W → Option Bool) : List W → Option W
  | [x, c] => match tyW x with | some t => (match isi t c with | some b => some (.bl b) | none => none) | none => none
  | _ => none
def lensetW : W → Option W
  | .lst ws => match ints? ws with | some l => if l.length ≤ 4000 ∧ distinct l = true then some (.int l.length) else none | none => none
  | _ => none
/-! what repr tells -/
def zipD : List PyData → List PyData → List (PyData × PyData)
  | a :: as, b :: bs => (a, b) :: zipD as bs
  | _, _ => []
mutual
def rD : W → PyData
  | .non => .none
  | .bl b => .bool b
  | .int i => .int i
  | .str x => .str x
  | .tup ws => .tuple (rDs ws)
  | .lst ws => .list (rDs ws)
  | .dic ks ws => .dict (zipD (rDs ks) (rDs ws))
  | _ => .none
def rDs : List W → List PyData
  | [] => []
  | w :: ws => rD w :: rDs ws
end
mutual
def rOk : Nat → W → Bool
  | _, .non => true
  | _, .bl _ => true
  | _, .int i => decide (i.natAbs.log2 < 1920)
  | _, .str _ => true
  | n + 1, .tup ws => rOks n ws
  | n + 1, .lst ws => rOks n ws
  | n + 1, .dic ks ws => rOks n ks && (rOks n ws && (ks.length == ws.length))
  | _, _ => false
def rOks : Nat → List W → Bool
  | _, [] => true
  | n, w :: ws => rOk n w && rOks n ws
end
def reprW : List W → Option W
  | [w] => if rOk 30 w = true ∧ (rD w).shown.length ≤ sizeLine then some (.str (rD w).shown) else none
  | _ => none
def biW (isi : W → W → Option Bool) : Bi → List W → Option W
  | .len => lenW | .abs => absW | .int => intW | .str => strW | .tuple => tupleW | .max => maxW | .min => minW | .sum => sumW | .all => allW | .any => anyW | .isin => isinW isi | .repr => reprW
def pair? : W → Option (W × W)
  | .tup [k, v] => some (k, v)
  | _ => none
def dRep : List W → List W → W → W → List W
  | k :: ks, w :: ws, x, y => (if kEq k x = true then y else w) :: dRep ks ws x y
  | _, _, _, _ => []
def dPut (ks ws : List W) (x y : W) : List W × List W := if (ks.any fun k => kEq k x) = true then (ks, dRep ks ws x y) else (ks ++ [x], ws ++ [y])
def dOf : List W → List W × List W → Option (List W × List W)
  | [], acc => some acc
  | .tup [k, v] :: r, acc => if isKey k then dOf r (dPut acc.1 acc.2 k v) else none
  | _, _ => none
def listW : List W → Option W
  | [w] => match seqW w with | some ws => some (.lst ws) | none => none
  | _ => none
def lstW : W → Option (List W)
  | .lst ws => some ws
  | .rol ws => some ws
  | _ => none
def sortedW : List W → Option W
  | [w] => match lstW w with
    | some ws => match ints? ws with
      | some l => some (.lst ((sortInt l).map .int))
      | none => match pairs? ws with
        | some l => some (.lst ((sortP l).map pairW))
        | none => none
    | none => none
  | _ => none
def dictW : List W → Option W
  | [.lst ws] => match dOf ws ([], []) with | some (ks, vs) => some (.dic ks vs) | none => none
  | [.dic ks vs] => some (.dic ks vs)
  | _ => none
def fbW : Fb → List W → Option W
  | .list => listW | .sorted => sortedW | .dict => dictW
/-- methods of own lists and dicts: what they yield, what is held behind -/
inductive Om where
  | append | pop | popAt | extend
  deriving DecidableEq
def appendW : W → List W → Option (W × W)
  | .lst ws, [x] => if ws.length < 1000000 then some (.non, .lst (ws ++ [x])) else none
  | _, _ => none
def popW : W → List W → Option (W × W)
  | .lst ws, [] => match ws.getLast? with | some x => some (x, .lst ws.dropLast) | none => none
  | _, _ => none
def popAtW : W → List W → Option (W × W)
  | .lst ws, [.int i] => if 0 ≤ i ∧ i < ws.length ∧ ws.length < 1000000 then match ws[i.toNat]? with | some x => some (x, .lst (ws.eraseIdx i.toNat)) | none => none else none
  | _, _ => none
def extendW : W → List W → Option (W × W)
  | .lst ws, [.lst xs] => if ws.length + xs.length < 1000000 then some (.non, .lst (ws ++ xs)) else none
  | _, _ => none
def omW : Om → W → List W → Option (W × W)
  | .append => appendW | .pop => popW | .popAt => popAtW | .extend => extendW
/-- o[k] = e -/
def setW : W → W → W → Option W
  | .lst ws, .int i, x => match ixW ws.length i with | some j => some (.lst (ws.set j x)) | none => none
  | .dic ks ws, k, x => if isKey k ∧ ks.length < 1000000 then (let r := dPut ks ws k x; some (.dic r.1 r.2)) else none
  | _, _, _ => none
def rngW : List W → Option (List W)
  | [.int n] => if -1000000 ≤ n ∧ n ≤ 1000000 then some ((List.range n.toNat).map fun i => .int (i : Nat)) else none
  | [.int a, .int b] => if -1000000 ≤ a ∧ a ≤ 1000000 ∧ -1000000 ≤ b ∧ b ≤ 1000000 then some ((List.range (b - a).toNat).map fun i => .int (a + (i : Nat))) else none
  | _ => none

/-! ### the terms -/
inductive Tg where
  | nm (i : Nat) | tp2 (a b : Tg) | tp3 (a b c : Tg)
mutual
inductive Ex where
  | var (i : Nat) | bor (i : Nat) | lit (w : W) | glo (x : Str)
  | bin (op : Operator) (a b : Ex) | neg (a : Ex) | not (a : Ex)
  | cmp (op : CmpOp) (a b : Ex) | cmp2 (o1 o2 : CmpOp) (a b c : Ex)
  | and (a b : Ex) | or (a b : Ex) | ite (c a b : Ex)
  | tup (es : Exs) | frz (f : Fr) | sub (a i : Ex) | att (a : Ex) (f : Str)
  | call (f : Str) (as : Exs) | meth (a : Ex) (m : Str) (as : Exs) | bi (b : Bi) (as : Exs) | lenset (a : Ex) | om (i : Nat) (m : Om) (as : Exs) | mkx (c : Str) (e : Ex)
inductive Exs where
  | nil | cons (e : Ex) (es : Exs)
inductive Fr where
  | lst (es : Exs) | comp (elt : Ex) (tg : Tg) (it : Iz) (c : Ex) (vs : List Nat) | comp2 (elt : Ex) (tg : Tg) (it : Iz) (c : Ex) (tg1 : Tg) (it1 : Iz) (c1 : Ex) (vs vs1 : List Nat)
  | fb (b : Fb) (as : Exs) | call (f : Str) (as : Exs) | dcomp (k v : Ex) (tg : Tg) (it : Iz) (c : Ex) (vs : List Nat) | lrng1 (a : Ex) | lrng2 (a b : Ex) | dic0 | dic1 (k v : Ex)
inductive Iz where
  | seq (e : Ex) | rng (as : Exs) | enum (e : Ex) (s : Ex) | zip (a b : Ex)
end
/-- a value, or a new thing that is held -/
inductive Pt where
  | v (e : Ex) | f (f : Fr)
mutual
inductive Sm where
  | asg (t : Tg) (e : Ex) | asgO (i : Nat) (f : Fr)
  | par (i j : Nat) (a b : Pt)
  | aug (i : Nat) (op : Operator) (e : Ex)
  | seti (i : Nat) (k e : Ex) | setf (i : Nat) (f : Str) (e : Ex)
  | expr (e : Ex) | ret (e : Ex) | retF (f : Fr) | retO (i : Nat) | retC (f : Str) (as : Exs) | retN
  | ifs (c : Ex) (a b : Sms) | fors (t : Tg) (it : Iz) (b : Sms) | whil (c : Ex) (b : Sms)
  | brk | cont | pass | nev | raise0 (c : Str) | raise1 (c : Str) (e : Ex) | tryx (b : Sms) (hs : Hds) | par3 (i j k : Nat) (es : Exs)
inductive Sms where
  | nil | cons (s : Sm) (ss : Sms)
/-- except clauses: the class, the name, the suite -/
inductive Hds where
  | nil | cons (c : W) (i : Option Nat) (b : Sms) (r : Hds)
end

/-! ### calls -/
inductive Ar where
  | val (w : W) | own (w : W)
/-- the result of a call: whether it is new, the value, what the lent things hold -/
inductive CRs where
  | ok (fr : Bool) (w : W) (backs : List W) | exc (x : Exn) (backs : List W) | no
abbrev CallT := Str → Str → List Ar → CRs
inductive MKind where
  | meth | prop | spec | clsm
  deriving DecidableEq
structure ClsD where
  flds : List Str
  meths : List (Str × MKind)
structure Glob where
  cls : Str → Option ClsD
  cst : Str → Option W
  isi : W → W → Option Bool
  xcl : Str → Option (Option Str)   -- exception classes: the field that is kept
  exm : Str → W → Option Bool       -- is an exception of the class caught by a clause
  hc : CallT                        -- calls where an exception is handled

def ars (env : Env) : List Hd → Option (List Ar)
  | [] => some []
  | .v w :: hs => match ars env hs with | some r => some (.val w :: r) | none => none
  | .s i :: hs => match env[i]? with
    | some (.own w) => match ars env hs with | some r => some (.own w :: r) | none => none
    | _ => none
def lents : List Hd → List Nat
  | [] => []
  | .v _ :: hs => lents hs
  | .s i :: hs => i :: lents hs
def nodupN : List Nat → Bool
  | [] => true
  | x :: xs => !xs.contains x && nodupN xs
def putBacks : Env → List Nat → List W → Option Env
  | env, [], [] => some env
  | env, i :: is, w :: ws => putBacks (env.set i (.own w)) is ws
  | _, _, _ => none
def callH (C : CallT) (c f : Str) (hs : List Hd) (env : Env) : R (Bool × W) :=
  if nodupN (lents hs) then match ars env hs with
    | none => .no
    | some as => match C c f as with
      | .ok fr w backs => match putBacks env (lents hs) backs with | some env' => .ok (fr, w) env' | none => .no
      | .exc x backs => match putBacks env (lents hs) backs with | some env' => .exc x env' | none => .no
      | .no => .no
  else .no

def R.opt {β : Type} (o : Option β) (env : Env) : R β := match o with | some x => .ok x env | none => .no
@[simp] theorem R.opt_some {β : Type} (x : β) (env : Env) : R.opt (some x) env = .ok x env := rfl
@[simp] theorem R.opt_none {β : Type} (env : Env) : (R.opt none env : R β) = .no := rfl
def R.val (r : R Hd) : R W := r.bind fun h env => R.opt (pv1 h) env
def R.bool (r : R Hd) : R Bool := r.bind fun h env => match h with | .v (.bl b) => .ok b env | _ => .no
def R.hd (r : R W) : R Hd := r.bind fun w env => .ok (.v w) env

def bindT : Tg → W → Env → Option Env
  | .nm i, w, env => if i < env.length then some (env.set i (.val w)) else none
  | .tp2 a b, .tup [x, y], env => match bindT a x env with | some e => bindT b y e | none => none
  | .tp3 a b c, .tup [x, y, z], env => match bindT a x env with | some e => (match bindT b y e with | some e2 => bindT c z e2 | none => none) | none => none
  | _, _, _ => none
def noOwn (env : Env) : List Nat → Bool
  | [] => true
  | i :: is => (match env[i]? with | some (.own _) => false | none => false | _ => true) && noOwn env is
def wipeE (env : Env) : List Nat → Env
  | [] => env
  | i :: is => (wipeE env is).set i .no
/-- the slots vs as they were -/
def backE (env0 env : Env) : List Nat → Env
  | [] => env
  | i :: is => (backE env0 env is).set i (env0[i]?.getD .no)
/-- no exception leaves a comprehension -/
def R.nox {β : Type} : R β → R β
  | .exc _ _ => .no
  | r => r
def compL (ft : Env → R Bool) (fe : Env → R W) (tg : Tg) (vs : List Nat) : List W → List W → Env → R (List W)
  | [], acc, env => .ok acc env
  | w :: ws, acc, env => match bindT tg w (wipeE env vs) with
    | none => .no
    | some e1 => match ft e1 with
      | .ok true e2 => match fe e2 with
        | .ok x e3 => if acc.length < 1000000 then compL ft fe tg vs ws (acc ++ [x]) e3 else .no
        | _ => .no
      | .ok false e2 => compL ft fe tg vs ws acc e2
      | _ => .no
/-- a dict comprehension's turns -/
def dcompL (ft : Env → R Bool) (fk fv : Env → R W) (tg : Tg) (vs : List Nat) : List W → List W → List W → Env → R (List W × List W)
  | [], ks, us, env => .ok (ks, us) env
  | w :: ws, ks, us, env => match bindT tg w (wipeE env vs) with
    | none => .no
    | some e1 => match ft e1 with
      | .ok true e2 => match fk e2 with
        | .ok x e3 => match fv e3 with
          | .ok y e4 => if isKey x = true ∧ ks.length < 1000000 then dcompL ft fk fv tg vs ws (dPut ks us x y).1 (dPut ks us x y).2 e4 else .no
          | _ => .no
        | _ => .no
      | .ok false e2 => dcompL ft fk fv tg vs ws ks us e2
      | _ => .no
end PM

namespace PM
open PySem L2
def compL2 (ft : Env → R Bool) (fi : Env → R (List W)) (ft1 : Env → R Bool) (fe : Env → R W) (tg tg1 : Tg) (vs vs1 : List Nat) : List W → List W → Env → R (List W)
  | [], acc, env => .ok acc env
  | w :: ws, acc, env => match bindT tg w (wipeE env vs) with
    | none => .no
    | some e1 => match ft e1 with
      | .ok true e2 => match fi e2 with
        | .ok us e3 => match compL ft1 fe tg1 vs1 us acc e3 with
          | .ok acc' e4 => compL2 ft fi ft1 fe tg tg1 vs vs1 ws acc' e4
          | _ => .no
        | _ => .no
      | .ok false e2 => compL2 ft fi ft1 fe tg tg1 vs vs1 ws acc e2
      | _ => .no
def enumW : Int → List W → List W
  | _, [] => []
  | k, w :: ws => .tup [.int k, w] :: enumW (k + 1) ws
def enumP (w u : W) : Option (List W) := match seqW w, u with
  | some ws, .int k => if 0 ≤ k ∧ k ≤ 1000000 then some (enumW k ws) else none
  | _, _ => none
def zipW : List W → List W → List W
  | a :: as, b :: bs => .tup [a, b] :: zipW as bs
  | _, _ => []
def fldW : List Str → List W → Str → Option W
  | n :: ns, w :: ws, f => if n == f then some w else fldW ns ws f
  | _, _, _ => none
def zipP (w u : W) : Option (List W) := match w, u with
  | .tup ws, .tup us => some (zipW ws us)
  | w, u => match lstW w, lstW u with
    | some ws, some us => some (zipW ws us)
    | _, _ => none
/-- items of what is walked -/
def itemsW : W → Option (List W)
  | .dic ks _ => some ks
  | .str x => some (x.cps.toList.map fun c => .str ⟨#[c]⟩)
  | w => seqW w
/-- the class of an instance, its fields -/
def objH (env : Env) (h : Hd) : Option (Str × List Str) := match rd env h with
  | some (.obj c ns _) => some (c, ns)
  | _ => none
def fldK (G : Glob) (c f : Str) : Bool := match G.cls c with | some d => d.flds.contains f | none => false
def methK (G : Glob) (c m : Str) : Option MKind := match G.cls c with | some d => d.meths.lookup m | none => none

/-- two instances of one class that has its own == -/
def ownEq (G : Glob) (op : CmpOp) (u v : W) : Option (Str × Bool) := match u, v with
  | .obj c _ _, .obj c' _ _ => if c = c' ∧ methK G c "__eq__" = some .spec then (match op with | .Eq => some (c, false) | .NotEq => some (c, true) | _ => none) else none
  | _, _ => none
/-- a comparison; of instances of one class by their own == -/
def cmpH (C : CallT) (G : Glob) (op : CmpOp) (x y : Hd) (env : Env) : R Hd :=
  match rd env x, rd env y with
  | some u, some v => match ownEq G op u v with
    | some (c, neg) => (callH C c "__eq__" [x, y] env).nox.bind fun r e2 => match r.2 with | .bl k => .ok (.v (.bl (if neg = true then !k else k))) e2 | _ => .no
    | none => (R.opt (cmpW op u v) env).bind fun k e => .ok (.v (.bl k)) e
  | _, _ => .no
mutual
def evalE (C : CallT) (G : Glob) : Ex → Env → R Hd
  | .var i, env => match env[i]? with | some (.val w) => .ok (.v w) env | _ => .no
  | .bor i, env => match env[i]? with | some (.own _) => .ok (.s i) env | _ => .no
  | .lit w, env => .ok (.v w) env
  | .glo x, env => match G.cst x with | some w => .ok (.v w) env | none => .no
  | .bin op a b, env => (evalE C G a env).bind fun x e1 => (evalE C G b e1).bind fun y e2 => match rd e2 x, rd e2 y with
    | some u, some v => (R.opt (binW op u v) e2).hd
    | _, _ => .no
  | .neg a, env => (evalE C G a env).bind fun x e1 => match x with | .v (.int i) => .ok (.v (.int (-i))) e1 | _ => .no
  | .not a, env => (evalE C G a env).bool.bind fun b e1 => .ok (.v (.bl (!b))) e1
  | .cmp op a b, env => (evalE C G a env).bind fun x e1 => (evalE C G b e1).bind fun y e2 => cmpH C G op x y e2
  | .cmp2 o1 o2 a b c, env => (evalE C G a env).bind fun x e1 => (evalE C G b e1).bind fun y e2 => match rd e2 x, pv1 y with
    | some u, some v => match cmpW o1 u v with
      | some true => (evalE C G c e2).bind fun z e3 => match rd e3 z with
        | some w => (R.opt (cmpW o2 v w) e3).bind fun k e4 => .ok (.v (.bl k)) e4
        | none => .no
      | some false => .ok (.v (.bl false)) e2
      | none => .no
    | _, _ => .no
  | .and a b, env => (evalE C G a env).bool.bind fun k e1 => if k = true then (evalE C G b e1).bool.bind fun k2 e2 => .ok (.v (.bl k2)) e2 else .ok (.v (.bl false)) e1
  | .or a b, env => (evalE C G a env).bool.bind fun k e1 => if k = true then .ok (.v (.bl true)) e1 else (evalE C G b e1).bool.bind fun k2 e2 => .ok (.v (.bl k2)) e2
  | .ite c a b, env => (evalE C G c env).bool.bind fun k e1 => if k = true then evalE C G a e1 else evalE C G b e1
  | .tup es, env => (evalEs C G es env).bind fun hs e1 => match pvs hs with | some ws => .ok (.v (.tup ws)) e1 | none => .no
  | .frz f, env => (evalF C G f env).hd
  | .sub a i, env => (evalE C G a env).bind fun x e1 => (evalE C G i e1).bind fun y e2 => match rd e2 x, rd e2 y with
    | some u, some v => (R.opt (subW u v) e2).hd
    | _, _ => .no
  | .att a f, env => (evalE C G a env).bind fun h e1 => match rd e1 h with
    | some (.obj c ns ws) => match fldW ns ws f with
      | some u => if fldK G c f = true then .ok (.v u) e1 else .no
      | none => if methK G c f = some .prop then (callH C c f [h] e1).nox.bind fun r e2 => .ok (.v r.2) e2 else .no
    | some (.exn c ns ws) => match fldW ns ws f with
      | some u => if G.xcl c = some (some f) then .ok (.v u) e1 else .no
      | none => .no
    | _ => .no
  | .call f as, env => (evalEs C G as env).bind fun hs e1 => (callH C "" f hs e1).bind fun r e2 => .ok (.v r.2) e2
  | .meth a m as, env => (evalE C G a env).bind fun h e1 => match objH e1 h with
    | some (c, ns) => if methK G c m = some .meth ∧ ns.contains m = false then (evalEs C G as e1).bind fun hs e2 => (callH C c m (h :: hs) e2).bind fun r e3 => .ok (.v r.2) e3 else .no
    | none => .no
  | .bi b as, env => (evalEs C G as env).bind fun hs e1 => match rds e1 hs with
    | some ws => (R.opt (biW G.isi b ws) e1).hd
    | none => .no
  | .lenset a, env => (evalE C G a env).bind fun x e1 => match rd e1 x with
    | some w => (R.opt (lensetW w) e1).hd
    | none => .no
  | .om i m as, env => match env[i]? with
    | some (.own (.lst _)) => (evalEs C G as env).bind fun hs e1 => match pvs hs, e1[i]? with
      | some ws, some (.own w) => match omW m w ws with
        | some (r, w') => .ok (.v r) (e1.set i (.own w'))
        | none => .no
      | _, _ => .no
    | _ => .no
  | .mkx c e, env => (evalE C G e env).val.bind fun w e1 => match G.xcl c with
    | some none => .ok (.v (.exn c [] [])) e1
    | some (some f) => .ok (.v (.exn c [f] [w])) e1
    | none => .no
def evalEs (C : CallT) (G : Glob) : Exs → Env → R (List Hd)
  | .nil, env => .ok [] env
  | .cons e es, env => (evalE C G e env).bind fun h e1 => (evalEs C G es e1).bind fun hs e2 => .ok (h :: hs) e2
def evalF (C : CallT) (G : Glob) : Fr → Env → R W
  | .lst es, env => (evalEs C G es env).bind fun hs e1 => match pvs hs with | some ws => .ok (.lst ws) e1 | none => .no
  | .comp elt tg it c vs, env => (evalI C G it env).bind fun us e1 =>
    if noOwn e1 vs then (compL (fun e => (evalE C G c e).bool) (fun e => (evalE C G elt e).val) tg vs us [] e1).nox.bind fun ws e2 => .ok (.lst ws) (backE e1 e2 vs) else .no
  | .comp2 elt tg it c tg1 it1 c1 vs vs1, env => (evalI C G it env).bind fun us e1 =>
    if noOwn e1 vs then (compL2 (fun e => (evalE C G c e).bool) (fun e => evalI C G it1 e) (fun e => (evalE C G c1 e).bool) (fun e => (evalE C G elt e).val) tg tg1 vs vs1 us [] e1).nox.bind fun ws e2 => .ok (.lst ws) (backE e1 e2 vs) else .no
  | .fb b as, env => (evalEs C G as env).bind fun hs e1 => match rds e1 hs with
    | some ws => R.opt (fbW b ws) e1
    | none => .no
  | .call f as, env => (evalEs C G as env).bind fun hs e1 => (callH C "" f hs e1).bind fun r e2 => if r.1 = true then .ok r.2 e2 else .no
  | .lrng1 a, env => (evalE C G a env).bind fun x e1 => match x with
    | .v (.int n) => (R.opt (rngW [.int n]) e1).bind fun us e2 => .ok (.lst us) e2
    | _ => .no
  | .lrng2 a b, env => (evalE C G a env).bind fun x e1 => (evalE C G b e1).bind fun y e2 => match x, y with
    | .v (.int m), .v (.int n) => (R.opt (rngW [.int m, .int n]) e2).bind fun us e3 => .ok (.lst us) e3
    | _, _ => .no
  | .dic0, env => .ok (.dic [] []) env
  | .dic1 k v, env => (evalE C G k env).val.bind fun x e1 => (evalE C G v e1).val.bind fun y e2 => if isKey x = true then .ok (.dic [x] [y]) e2 else .no
  | .dcomp k v tg it c vs, env => (evalI C G it env).bind fun us e1 =>
    if noOwn e1 vs then (dcompL (fun e => (evalE C G c e).bool) (fun e => (evalE C G k e).val) (fun e => (evalE C G v e).val) tg vs us [] [] e1).nox.bind fun r e2 => .ok (.dic r.1 r.2) (backE e1 e2 vs) else .no
def evalI (C : CallT) (G : Glob) : Iz → Env → R (List W)
  | .seq e, env => (evalE C G e env).bind fun h e1 => match h with
    | .v w => R.opt (itemsW w) e1
    | .s _ => .no
  | .rng as, env => (evalEs C G as env).bind fun hs e1 => match pvs hs with | some ws => R.opt (rngW ws) e1 | none => .no
  | .enum e s, env => (evalE C G e env).bind fun x e1 => (evalE C G s e1).bind fun y e2 => match x, y with
    | .v u, .v v => R.opt (enumP u v) e2
    | _, _ => .no
  | .zip a b, env => (evalE C G a env).bind fun x e1 => (evalE C G b e1).bind fun y e2 => match x, y with
    | .v u, .v v => R.opt (zipP u v) e2
    | _, _ => .no
end

/-! ### statements -/
inductive Fl where
  | nx | bk | ct | rt (fr : Bool) (w : W)
/-- a for's turns -/
def forL (t : Tg) (b : Env → R Fl) : List W → Env → R Fl
  | [], env => .ok .nx env
  | w :: ws, env => match bindT t w env with
    | none => .no
    | some e1 => (b e1).bind fun f e2 => match f with
      | .nx => forL t b ws e2
      | .ct => forL t b ws e2
      | .bk => .ok .nx e2
      | .rt fr u => .ok (.rt fr u) e2
/-- a while's turns -/
def whileL (c : Env → R Bool) (b : Env → R Fl) : Nat → Env → R Fl
  | 0, _ => .no
  | n + 1, env => (c env).bind fun k e1 => if k = true then (b e1).bind fun f e2 => match f with
      | .nx => whileL c b n e2
      | .ct => whileL c b n e2
      | .bk => .ok .nx e2
      | .rt fr u => .ok (.rt fr u) e2
    else .ok .nx e1
def whileFuel : Nat := 1000000
/-- in a name that holds no own object the value is put -/
def putV (i : Nat) (w : W) (env : Env) : R Fl := if i < env.length then .ok .nx (env.set i (.val w)) else .no
def putO (i : Nat) (w : W) (env : Env) : R Fl := if i < env.length then .ok .nx (env.set i (.own w)) else .no
def setfW : List Str → List W → Str → W → List Str × List W
  | n :: ns, w :: ws, f, x => if n == f then (n :: ns, x :: ws) else let r := setfW ns ws f x; (n :: r.1, w :: r.2)
  | _, _, f, x => ([f], [x])
def evalP (C : CallT) (G : Glob) : Pt → Env → R Slot
  | .v e, env => (evalE C G e env).bind fun h e1 => match h with | .v w => .ok (.val w) e1 | .s _ => .no
  | .f f, env => (evalF C G f env).bind fun w e1 => .ok (.own w) e1
def putS (i : Nat) (x : Slot) (j : Nat) (y : Slot) (e : Env) : R Fl := if i < e.length ∧ j < e.length ∧ i ≠ j then .ok .nx ((e.set i x).set j y) else .no
def ipW : Operator → W → W → Option W
  | .Add, .int i, .int j => some (.int (i + j))
  | .Sub, .int i, .int j => some (.int (i - j))
  | _, _, _ => none
/-- the name of an except clause is bound, goes -/
def asE (i : Option Nat) (x : Exn) (env : Env) : Option Env := match i with
  | none => some env
  | some j => if j < env.length then some (env.set j (.val (.exn x.c (x.f.map (·.1)) (x.f.map (·.2))))) else none
def unE (i : Option Nat) (f : Fl) (env : Env) : Env := match i, f with
  | some _, .rt _ _ => env
  | some j, _ => env.set j .no
  | none, _ => env
mutual
def execS (C : CallT) (G : Glob) : Sm → Env → R Fl
  | .asg t e, env => (evalE C G e env).val.bind fun w e1 => match bindT t w e1 with | some e2 => .ok .nx e2 | none => .no
  | .asgO i f, env => (evalF C G f env).bind fun w e1 => putO i w e1
  | .par i j a b, env => (evalP C G a env).bind fun x e1 => (evalP C G b e1).bind fun y e2 => putS i x j y e2
  | .aug i op e, env => match env[i]? with
    | some (.val x) => (evalE C G e env).val.bind fun u e1 => match ipW op x u with | some z => putV i z e1 | none => .no
    | _ => .no
  | .seti i k e, env => (evalE C G e env).val.bind fun x e1 => match e1[i]? with
    | some (.own _) => (evalE C G k e1).val.bind fun u e2 => match e2[i]? with
      | some (.own w) => match setW w u x with | some w' => .ok .nx (e2.set i (.own w')) | none => .no
      | _ => .no
    | _ => .no
  | .setf i f e, env => (evalE C G e env).val.bind fun x e1 => match e1[i]? with
    | some (.own (.obj c ns ws)) => (match (G.cls c) with | some d => if d.flds.contains f = true ∧ ns.length < 1000 then (let r := setfW ns ws f x; .ok .nx (e1.set i (.own (.obj c r.1 r.2)))) else .no | none => .no)
    | _ => .no
  | .expr e, env => (evalE C G e env).bind fun _ e1 => .ok .nx e1
  | .ret e, env => (evalE C G e env).val.bind fun w e1 => .ok (.rt false w) e1
  | .retF f, env => (evalF C G f env).bind fun w e1 => .ok (.rt true w) e1
  | .retO i, env => match env[i]? with
    | some (.own w) => .ok (.rt true w) (env.set i .no)
    | _ => .no
  | .retC f as, env => (evalEs C G as env).bind fun hs e1 => (callH C "" f hs e1).bind fun r e2 => .ok (.rt r.1 r.2) e2
  | .retN, env => .ok (.rt false .non) env
  | .ifs c a b, env => (evalE C G c env).bool.bind fun k e1 => if k = true then execSs C G a e1 else execSs C G b e1
  | .fors t it b, env => (evalI C G it env).bind fun ws e1 => forL t (fun e => execSs C G b e) ws e1
  | .whil c b, env => whileL (fun e => (evalE C G c e).bool) (fun e => execSs C G b e) whileFuel env
  | .brk, env => .ok .bk env
  | .cont, env => .ok .ct env
  | .pass, env => .ok .nx env
  | .nev, _ => .no
  | .raise0 c, env => match G.xcl c with
    | some none => .exc ⟨c, []⟩ env
    | _ => .no
  | .raise1 c e, env => (evalE C G e env).val.bind fun w e1 => match G.xcl c with
    | some (some f) => .exc ⟨c, [(f, w)]⟩ e1
    | _ => .no
  | .tryx b hs, env => match execSs C G b env with
    | .exc x e1 => hdsS G x e1 hs
    | .ok f e1 => .ok f e1
    | .no => .no
  | .par3 i j k es, env => (evalEs C G es env).bind fun hs e1 => match pvs hs with
    | some [x, y, z] => if i < e1.length ∧ j < e1.length ∧ k < e1.length ∧ i ≠ j ∧ i ≠ k ∧ j ≠ k then .ok .nx (((e1.set i (.val x)).set j (.val y)).set k (.val z)) else .no
    | _ => .no
def hdsS (G : Glob) (x : Exn) (env : Env) : Hds → R Fl
  | .nil => .exc x env
  | .cons c i b r => match G.exm x.c c with
    | some true => match asE i x env with
      | some e1 => match execSs G.hc G b e1 with
        | .ok f e2 => .ok f (unE i f e2)
        | _ => .no
      | none => .no
    | some false => hdsS G x env r
    | none => .no
def execSs (C : CallT) (G : Glob) : Sms → Env → R Fl
  | .nil, env => .ok .nx env
  | .cons s ss, env => (execS C G s env).bind fun f e1 => match f with
    | .nx => execSs C G ss e1
    | g => .ok g e1
end

/-! ### the table, the calls -/
structure FnD where
  n : Nat            -- the slots
  ps : Nat           -- the parameters
  rb : List Nat      -- the slots that the body binds
  body : Sms
abbrev Tab := Str → Str → Option FnD
def startE : List Ar → Env
  | [] => []
  | .val w :: r => .val w :: startE r
  | .own w :: r => .own w :: startE r
def backs : List Ar → Env → Option (List W)
  | [], _ => some []
  | .val _ :: r, e => backs r e.tail
  | .own _ :: r, e => match e with
    | .own w :: e' => (match backs r e' with | some ws => some (w :: ws) | none => none)
    | _ => none
/-- what is lent stays where it is -/
def lentOk (rb : List Nat) : Nat → List Ar → Bool
  | _, [] => true
  | i, .val _ :: r => lentOk rb (i + 1) r
  | i, .own _ :: r => !rb.contains i && lentOk rb (i + 1) r
/-- a def's run -/
def runF (C : CallT) (G : Glob) (d : FnD) (as : List Ar) : CRs :=
  if as.length = d.ps ∧ lentOk d.rb 0 as = true then
    match execSs C G d.body (startE as ++ List.replicate (d.n - d.ps) .no) with
    | .ok (.rt fr w) e => match backs as e with | some bs => .ok fr w bs | none => .no
    | .ok .nx e => match backs as e with | some bs => .ok false .non bs | none => .no
    | .exc x e => match backs as e with | some bs => .exc x bs | none => .no
    | _ => .no
  else .no
inductive CKd where
  | plain | prop | cls
def kindC (G : Glob) (c f : Str) : CKd := if c = "" then (match G.cls f with | some _ => .cls | none => .plain) else match methK G c f with | some .prop => .prop | some .spec => .prop | _ => .plain
def runT (T : Tab) (G : Glob) (C : CallT) (c f : Str) (as : List Ar) : CRs := match T c f with
  | some d => runF C G d as
  | none => .no
/-- an instance is made -/
def clsR : CRs → CRs
  | .ok _ .non (o :: bs) => .ok true o bs
  | .exc x (_ :: bs) => .exc x bs
  | _ => .no
/-- calls, n deep; a property and a class's __init__ stand one level deeper -/
def callN (T : Tab) (G : Glob) : Nat → CallT
  | 0 => fun _ _ _ => .no
  | 1 => fun _ _ _ => .no
  | 2 => fun c f as => match kindC G c f with
    | .plain => runT T G (fun _ _ _ => .no) c f as
    | _ => .no
  | n + 3 => fun c f as => match kindC G c f with
    | .plain => runT T G (callN T G (n + 2)) c f as
    | .prop => runT T G (callN T G (n + 1)) c f as
    | .cls => clsR (runT T G (callN T G (n + 1)) f "__init__" (.own (.obj f [] []) :: as))
end PM

namespace PM
open PySem L2
section
variable {X : Cx} {e : Expr} {st : Stmt} {t t' : TE}
theorem pe_by (h : ∀ σ H Q, t' σ H Q → ∃ t, PE X e t ∧ t σ H Q) : PE X e t' := ⟨fun pins s σ H Q I hq => by
  obtain ⟨t, p, q⟩ := h σ H Q hq
  exact p.run pins s σ H Q I q⟩
theorem pe_lk {e : Expr} {t : TE} (h : PE X e t) : PE X e (fun σ H Q => t σ H (LkQ Q)) := ⟨fun pins s σ H Q I hq => thn (h.run pins s σ H _ I hq) fun u s1 ⟨v, H1, I1, r, q⟩ => by
  rcases q with q | ⟨a, kvs, rfl, e, q⟩
  · exact ⟨v, H1, I1, r, q⟩
  · obtain ⟨od, I2⟩ := I1.lock e trivial
    exact ⟨.ref a, _, I2, r, q od⟩⟩
theorem pt_by {t' : TT} (h : ∀ σ H Q, t' σ H Q → ∃ t, PT X e t ∧ t σ H Q) : PT X e t' := ⟨fun pins s σ H Q I hq => by
  obtain ⟨t, p, q⟩ := h σ H Q hq
  exact p.run pins s σ H Q I q⟩
theorem pa_by {es : List Expr} {t' : TA} (h : ∀ σ H Q, t' σ H Q → ∃ t, PA X es t ∧ t σ H Q) : PA X es t' := ⟨fun pos pins s σ H Q I hq => by
  obtain ⟨t, p, q⟩ := h σ H Q hq
  exact p.run pos pins s σ H Q I q⟩
theorem ps_by {t' : TS} (h : ∀ D σ H, t' D σ H → ∃ t, PS X st t ∧ t D σ H) : PS X st t' := ⟨fun pins s σ H D I hq => by
  obtain ⟨t, p, q⟩ := h D σ H hq
  exact p.run pins s σ H D I q⟩
theorem pi_by {tg : Expr} {t' : TI} (h : ∀ σ H Q, t' σ H Q → ∃ t, PI X tg e t ∧ t σ H Q) : PI X tg e t' := ⟨fun pins s σ H Q I hq => by
  obtain ⟨t, p, q⟩ := h σ H Q hq
  exact p.run pins s σ H Q I q⟩
theorem opr_false {f : Value → Value → Sem Value} : OpR X f (fun _ _ _ _ => False) := fun _ _ _ _ _ _ _ _ _ _ _ _ h => h.elim
end

def OutR {β : Type} (okP : β → Env → Prop) (exP : Exn → Env → Prop) : R β → Prop
  | .ok b e => okP b e
  | .exc x e => exP x e
  | .no => False
section
variable (K : PySem.W.Frag) (mg : Str → Option Value) (F : Frm) (Wx : WX) (α : Asg) (T : List Addr) (σ : St) (H : Hp)
def exE : Exn → Env → Prop := fun x e => ∀ H' cls d, Cfg K mg F α T e σ H' → Kp (Ow α) H H' → RepX K mg (MM F α T) x cls d H' → Wx cls d σ H'
def okE (Q : VK) : Hd → Env → Prop := fun hd e => ∀ H' v, Cfg K mg F α T e σ H' → Kp (Ow α) H H' → RepH K mg (MM F α T) H' α hd v → Q v H'
def okT (Q : Bool → Hp → Prop) : Bool → Env → Prop := fun b e => ∀ H', Cfg K mg F α T e σ H' → Kp (Ow α) H H' → Q b H'
def okF (Q : VK) : W → Env → Prop := fun w e => ∀ H' p, H p = none → Cfg K mg F α (p :: T) e σ H' → Kp (Ow α) H H' → OwnAt K mg (MM F α (p :: T)) H' p w → Q (.ref p) H'
def okA (Q : List V → Hp → Prop) : List Hd → Env → Prop := fun hs e => ∀ H' vs, Cfg K mg F α T e σ H' → Kp (Ow α) H H' → RepHs K mg (MM F α T) H' α hs vs → Q vs H'
end
section
variable {K : PySem.W.Frag} {mg : Str → Option Value} {F : Frm} {Wx : WX} {α : Asg} {T : List Addr} {env : Env} {σ : St} {H H1 : Hp} {β γ : Type}
theorem tE_iff {m : Env → R Hd} {Q : VK} : tE K mg F Wx m σ H Q ↔ ∃ α T env, Cfg K mg F α T env σ H ∧ OutR (okE K mg F α T σ H Q) (exE K mg F Wx α T σ H) (m env) := by
  unfold tE OutR okE exE
  constructor <;> (rintro ⟨α, T, env, c, h⟩; refine ⟨α, T, env, c, ?_⟩; cases q : m env <;> (rw [q] at h; exact h))
theorem tT_iff {m : Env → R Bool} {Q : Bool → Hp → Prop} : tT K mg F Wx m σ H Q ↔ ∃ α T env, Cfg K mg F α T env σ H ∧ OutR (okT K mg F α T σ H Q) (exE K mg F Wx α T σ H) (m env) := by
  unfold tT OutR okT exE
  constructor <;> (rintro ⟨α, T, env, c, h⟩; refine ⟨α, T, env, c, ?_⟩; cases q : m env <;> (rw [q] at h; exact h))
theorem tF_iff {m : Env → R W} {Q : VK} : tF K mg F Wx m σ H Q ↔ ∃ α T env, Cfg K mg F α T env σ H ∧ OutR (okF K mg F α T σ H Q) (exE K mg F Wx α T σ H) (m env) := by
  unfold tF OutR okF exE
  constructor <;> (rintro ⟨α, T, env, c, h⟩; refine ⟨α, T, env, c, ?_⟩; cases q : m env <;> (rw [q] at h; exact h))
theorem tA_iff {m : Env → R (List Hd)} {Q : List V → Hp → Prop} : tA K mg F Wx m σ H Q ↔ ∃ α T env, Cfg K mg F α T env σ H ∧ OutR (okA K mg F α T σ H Q) (exE K mg F Wx α T σ H) (m env) := by
  unfold tA OutR okA exE
  constructor <;> (rintro ⟨α, T, env, c, h⟩; refine ⟨α, T, env, c, ?_⟩; cases q : m env <;> (rw [q] at h; exact h))
theorem OutR.imp {P P' : β → Env → Prop} {E E' : Exn → Env → Prop} {r : R β} (h : OutR P E r) (a : ∀ b e, P b e → P' b e) (b : ∀ x e, E x e → E' x e) : OutR P' E' r := by
  cases r with
  | ok => exact a _ _ h
  | exc => exact b _ _ h
  | no => exact h
theorem exE.later (k : Kp (Ow α) H H1) {x : Exn} {e : Env} (h : exE K mg F Wx α T σ H x e) : exE K mg F Wx α T σ H1 x e := fun H' cls d c k' r => h H' cls d c (k.trans k' fun _ z => .inl z) r
theorem okE.later {Q : VK} (k : Kp (Ow α) H H1) {b : Hd} {e : Env} (h : okE K mg F α T σ H Q b e) : okE K mg F α T σ H1 Q b e := fun H' v c k' r => h H' v c (k.trans k' fun _ z => .inl z) r
theorem okT.later {Q : Bool → Hp → Prop} (k : Kp (Ow α) H H1) {b : Bool} {e : Env} (h : okT K mg F α T σ H Q b e) : okT K mg F α T σ H1 Q b e := fun H' c k' => h H' c (k.trans k' fun _ z => .inl z)
theorem okA.later {Q : List V → Hp → Prop} (k : Kp (Ow α) H H1) {b : List Hd} {e : Env} (h : okA K mg F α T σ H Q b e) : okA K mg F α T σ H1 Q b e := fun H' vs c k' r => h H' vs c (k.trans k' fun _ z => .inl z) r
theorem kp_none {N : AP'} {p : Addr} (k : Kp N H H1) (h : H1 p = none) : H p = none := by
  cases e : H p with
  | none => rfl
  | some o => exact absurd h (k.d p (by rw [e]; exact fun z => nomatch z))
theorem okF.later {Q : VK} (k : Kp (Ow α) H H1) {b : W} {e : Env} (h : okF K mg F α T σ H Q b e) : okF K mg F α T σ H1 Q b e := fun H' p hp c k' r => h H' p (kp_none k hp) c (k.trans k' fun _ z => .inl z) r

/-- a part is evaluated, then the rest -/
theorem tE_bind {ma : Env → R Hd} {f : Hd → Env → R β} {P : β → Env → Prop} {Rr : VK} (c : Cfg K mg F α T env σ H) (o : OutR P (exE K mg F Wx α T σ H) ((ma env).bind f))
    (k : ∀ hd e1 H1 v, ma env = .ok hd e1 → Cfg K mg F α T e1 σ H1 → Kp (Ow α) H H1 → RepH K mg (MM F α T) H1 α hd v → OutR P (exE K mg F Wx α T σ H) (f hd e1) → Rr v H1) : tE K mg F Wx ma σ H Rr := by
  refine tE_iff.mpr ⟨α, T, env, c, ?_⟩
  cases q : ma env with
  | ok hd e1 => rw [q] at o; exact fun H' v c' k' r => k hd e1 H' v q c' k' r o
  | exc x e1 => rw [q] at o; exact o
  | no => rw [q] at o; exact o
theorem tT_bind {ma : Env → R Bool} {f : Bool → Env → R β} {P : β → Env → Prop} {Rr : Bool → Hp → Prop} (c : Cfg K mg F α T env σ H) (o : OutR P (exE K mg F Wx α T σ H) ((ma env).bind f))
    (k : ∀ b e1 H1, ma env = .ok b e1 → Cfg K mg F α T e1 σ H1 → Kp (Ow α) H H1 → OutR P (exE K mg F Wx α T σ H) (f b e1) → Rr b H1) : tT K mg F Wx ma σ H Rr := by
  refine tT_iff.mpr ⟨α, T, env, c, ?_⟩
  cases q : ma env with
  | ok hd e1 => rw [q] at o; exact fun H' c' k' => k hd e1 H' q c' k' o
  | exc x e1 => rw [q] at o; exact o
  | no => rw [q] at o; exact o
theorem tF_bind {ma : Env → R W} {f : W → Env → R β} {P : β → Env → Prop} {Rr : VK} (c : Cfg K mg F α T env σ H) (o : OutR P (exE K mg F Wx α T σ H) ((ma env).bind f))
    (k : ∀ w e1 H1 p, ma env = .ok w e1 → H p = none → Cfg K mg F α (p :: T) e1 σ H1 → Kp (Ow α) H H1 → OwnAt K mg (MM F α (p :: T)) H1 p w → OutR P (exE K mg F Wx α T σ H) (f w e1) → Rr (.ref p) H1) : tF K mg F Wx ma σ H Rr := by
  refine tF_iff.mpr ⟨α, T, env, c, ?_⟩
  cases q : ma env with
  | ok hd e1 => rw [q] at o; exact fun H' p hp c' k' r => k hd e1 H' p q hp c' k' r o
  | exc x e1 => rw [q] at o; exact o
  | no => rw [q] at o; exact o
theorem tA_bind {ma : Env → R (List Hd)} {f : List Hd → Env → R β} {P : β → Env → Prop} {Rr : List V → Hp → Prop} (c : Cfg K mg F α T env σ H) (o : OutR P (exE K mg F Wx α T σ H) ((ma env).bind f))
    (k : ∀ hs e1 H1 vs, ma env = .ok hs e1 → Cfg K mg F α T e1 σ H1 → Kp (Ow α) H H1 → RepHs K mg (MM F α T) H1 α hs vs → OutR P (exE K mg F Wx α T σ H) (f hs e1) → Rr vs H1) : tA K mg F Wx ma σ H Rr := by
  refine tA_iff.mpr ⟨α, T, env, c, ?_⟩
  cases q : ma env with
  | ok hd e1 => rw [q] at o; exact fun H' v c' k' r => k hd e1 H' v q c' k' r o
  | exc x e1 => rw [q] at o; exact o
  | no => rw [q] at o; exact o

/-- what a value yields: nothing is changed but made -/
theorem okE.val {Q : VK} {w : W} {v : V} {H' : Hp} (c : Cfg K mg F α T env σ H) (o : okE K mg F α T σ H Q (.v w) env) (k : Kp (fun _ => False) H H') (r : Rep K mg (MM F α T) H' w v) : Q v H' :=
  o H' v (c.ext k) (k.mono fun _ z => z.elim) r
theorem RepH.later {hd : Hd} {v : V} (k : Kp (Ow α) H H1) (h : RepH K mg (MM F α T) H α hd v) : RepH K mg (MM F α T) H1 α hd v := h.kp k fun x z => .inl (own_mm z)
theorem OutR.opt {P : β → Env → Prop} {E : Exn → Env → Prop} {o : Option β} {e : Env} (h : OutR P E (R.opt o e)) : ∃ x, o = some x ∧ P x e := by
  cases o with
  | none => exact h.elim
  | some x => exact ⟨x, rfl, h⟩
theorem OutR.hd {P : Hd → Env → Prop} {E : Exn → Env → Prop} {r : R W} (h : OutR P E r.hd) : OutR (fun w e => P (.v w) e) E r := by
  cases r with
  | ok => exact h
  | exc => exact h
  | no => exact h
end
end PM

namespace PM
open PySem L2
section
variable {K : PySem.W.Frag} {mg : Str → Option Value} {M : AP'} {H : Hp} {v : V} {w : W}
theorem repB_int {i : Int} (h : RepB K mg M H (.int i) v) : v = .int i := by
  rcases h with h | ⟨_, _, h⟩
  · exact h
  · exact h.elim
theorem repB_str {i : Str} (h : RepB K mg M H (.str i) v) : v = .str i := by
  rcases h with h | ⟨_, _, h⟩
  · exact h
  · exact h.elim
theorem repB_bl {i : Bool} (h : RepB K mg M H (.bl i) v) : v = .bl i := by
  rcases h with h | ⟨_, _, h⟩
  · exact h
  · exact h.elim
theorem repB_non (h : RepB K mg M H .non v) : v = .non := by
  rcases h with h | ⟨_, _, h⟩
  · exact h
  · exact h.elim
theorem repB_tup {ws : List W} (h : RepB K mg M H (.tup ws) v) : ∃ a vs, v = .ref a ∧ SqT K H a vs ∧ RepL K mg M H ws vs := by
  rcases h with ⟨a, vs, e, h1, h2⟩ | ⟨_, _, h⟩
  · exact ⟨a, vs, e, .inl (.inl h1), h2⟩
  · exact h.elim
theorem repB_tupH {ws : List W} (h : RepB K mg M H (.tup ws) v) : ∃ a vs, v = .ref a ∧ H a = some (.tup vs) ∧ RepL K mg M H ws vs := by
  rcases h with h | ⟨_, _, h⟩
  · exact h
  · exact h.elim
theorem repB_lst {ws : List W} (h : RepB K mg M H (.lst ws) v) : ∃ a vs, v = .ref a ∧ H a = some (.lst vs) ∧ RepL K mg M H ws vs := by
  rcases h with h | ⟨a, e, h⟩
  · obtain ⟨a, vs, e, h1, h2⟩ := h
    exact ⟨a, vs, e, h1.1, h2⟩
  · obtain ⟨vs, h1, h2⟩ := h
    exact ⟨a, vs, e, h1, h2⟩
theorem repB_rol {ws : List W} (h : RepB K mg M H (.rol ws) v) : ∃ a vs, v = .ref a ∧ RolAt K H a vs ∧ RepL K mg M H ws vs := by
  rcases h with h | ⟨_, _, h⟩
  · exact h
  · exact h.elim
theorem repB_dic {ks ws : List W} (h : RepB K mg M H (.dic ks ws) v) : ∃ a kvs, v = .ref a ∧ L2.Rd H a (.dK kvs) ∧ kvs.map (fun p => kW p.1) = ks ∧ RepL K mg M H ws (kvs.map (·.2)) := by
  rcases h with h | ⟨a, e, h⟩
  · obtain ⟨a, vs, e, h1, h2, h3⟩ := h
    exact ⟨a, vs, e, h1.rd, h2, h3⟩
  · obtain ⟨vs, h1, h2, h3⟩ := h
    exact ⟨a, vs, e, .inl h1, h2, h3⟩
/-- what is new is nobody's -/
theorem new_not (tr : ∀ a, M a → H a ≠ none) {p : Addr} (h : H p = none) : ¬ M p := fun z => tr p z h
theorem repL_new {ws : List W} {vs : List V} {p : Addr} {o : HO} (h : H p = none) (r : RepL K mg M H ws vs) : RepL K mg M (upd H p o) ws vs :=
  r.kp (Kp.new (fun _ => False) h) (fun _ z => z.elim) fun _ z => .inl z
theorem rep_newT {ws : List W} {vs : List V} {p : Addr} (h : H p = none) (r : RepL K mg M H ws vs) : Rep K mg M (upd H p (.tup vs)) (.tup ws) (.ref p) :=
  ⟨p, vs, rfl, upd_same, repL_new h r⟩
theorem rep_newL {ws : List W} {vs : List V} {p : Addr} (tr : ∀ a, M a → H a ≠ none) (h : H p = none) (r : RepL K mg M H ws vs) : Rep K mg M (upd H p (.lst vs)) (.lst ws) (.ref p) :=
  ⟨p, vs, rfl, ⟨upd_same, new_not tr h⟩, repL_new h r⟩
theorem repL_rep {ws : List W} {vs : List V} (r : RepL K mg M H ws vs) : ∀ k : Nat, RepL K mg M H (List.replicate k ws).flatten (List.replicate k vs).flatten
  | 0 => rfl
  | k + 1 => by
    rw [List.replicate_succ, List.replicate_succ, List.flatten_cons, List.flatten_cons]
    exact r.app (repL_rep r k)
/-- a tuple without items -/
theorem repL_nil {ws : List W} (r : RepL K mg M H ws []) : ws = [] := by
  cases ws with
  | nil => rfl
  | cons => obtain ⟨_, _, e, _⟩ := r; cases e
theorem sz6 {n : Nat} (h : n ≤ 1000000) : n < sizeLine := Nat.lt_of_le_of_lt h (by decide)

def BinSem (X : Cx) (op : Operator) (u v w : W) : Prop := ∃ r, OpR X (binaryOp op) r ∧ ∀ (M : AP') (H : Hp) (x y : V) (Q : VK), (∀ a, M a → H a ≠ none) → RepB X.K X.mg M H u x → RepB X.K X.mg M H v y →
  (∀ H' z, Kp (fun _ => False) H H' → Rep X.K X.mg M H' w z → Q z H') → r x y H Q
theorem log2_big {i : Nat} (h : i < big) : i < 2 ^ 8000 := h
theorem op_mulS : OpR X (binaryOp .Mult) (fun x y H Q => ∃ (a : Str) (k : Int), x = .str a ∧ y = .int k ∧ (k = 0 ∨ k = 1) ∧ Q (.str (if k = 0 then Str.empty else a)) H) := by
  intro pins s σ H x y v u Q I rx ry h
  obtain ⟨a, k, rfl, rfl, hk, q⟩ := h
  obtain ⟨t, rfl⟩ := rx
  obtain ⟨t', rfl⟩ := ry
  refine SB.mul ?_ fun t2 k2 => ?_
  · rcases hk with rfl | rfl
    · exact ⟨by decide, fun z => absurd (by decide) z, fun z => absurd (by decide) z⟩
    · exact ⟨by decide, fun _ z => by simp at z, fun _ z => by simp at z⟩
  · have e : Txt.mul a k = if k = 0 then Str.empty else a := by
      rcases hk with rfl | rfl <;> simp [Txt.mul]
    rw [e]
    exact ⟨.str (if k = 0 then Str.empty else a), H, I.tok _, ⟨_, rfl⟩, q⟩
theorem binSem {X : Cx} {op : Operator} {u v w : W} (h : binW op u v = some w) : BinSem X op u v w := by
  unfold binW at h
  split at h
  · cases h
    exact ⟨_, op_add, fun M H x y Q tr rx ry k => ⟨_, _, repB_int rx, repB_int ry, k H _ (Kp.refl _ _) rfl⟩⟩
  · split at h <;> cases h
    rename_i hz
    exact ⟨_, op_add_str, fun M H x y Q tr rx ry k => ⟨_, _, repB_str rx, repB_str ry, hz, k H _ (Kp.refl _ _) rfl⟩⟩
  · split at h <;> cases h
    rename_i xs ys hz
    refine ⟨_, op_catA, fun M H x y Q tr rx ry k => ?_⟩
    obtain ⟨a, vs, rfl, h1, h2⟩ := repB_tupH rx
    obtain ⟨b, us, rfl, h3, h4⟩ := repB_tupH ry
    refine ⟨a, b, vs, us, rfl, rfl, .inl (.inl h1), .inl (.inl h3), by rw [h2.len, h4.len]; exact hz, fun e => ?_, fun _ e => ?_, fun _ _ p hp => ?_⟩
    · subst e; have e2 := repL_nil h2; subst e2; exact k H _ (Kp.refl _ _) ⟨b, us, rfl, h3, h4⟩
    · subst e; have e2 := repL_nil h4; subst e2; exact k H _ (Kp.refl _ _) (by rw [List.append_nil]; exact ⟨a, vs, rfl, h1, h2⟩)
    · exact k _ _ (Kp.new _ hp) (rep_newT hp (h2.app h4))
  · split at h <;> cases h
    rename_i xs ys hz
    refine ⟨_, op_cat, fun M H x y Q tr rx ry k => ?_⟩
    obtain ⟨a, vs, rfl, h1, h2⟩ := repB_lst rx
    obtain ⟨b, us, rfl, h3, h4⟩ := repB_lst ry
    exact ⟨a, b, vs, us, rfl, rfl, h1, h3, by rw [h2.len, h4.len]; exact hz, fun p hp => k _ _ (Kp.new _ hp) (rep_newL tr hp (h2.app h4))⟩
  · cases h
    exact ⟨_, op_sub, fun M H x y Q tr rx ry k => ⟨_, _, repB_int rx, repB_int ry, k H _ (Kp.refl _ _) rfl⟩⟩
  · unfold mulI at h
    split at h <;> cases h
    rename_i hb
    simp only [Bool.and_eq_true, decide_eq_true_eq] at hb
    exact ⟨_, op_mulW, fun M H x y Q tr rx ry k => ⟨_, _, repB_int rx, repB_int ry, wide_mul (log2_big hb.1) (log2_big hb.2) (by decide) (by decide) (by decide), k H _ (Kp.refl _ _) rfl⟩⟩
  · split at h <;> cases h
    rename_i a k hk
    refine ⟨_, op_mulS, fun M H x y Q tr rx ry q => ⟨a, k, repB_str rx, repB_int ry, hk, q H _ (Kp.refl _ _) rfl⟩⟩
  · split at h <;> cases h
    rename_i xs j hb
    refine ⟨_, op_rep, fun M H x y Q tr rx ry k => ?_⟩
    obtain ⟨a, vs, rfl, h1, h2⟩ := repB_lst rx
    refine ⟨a, j, vs, rfl, repB_int ry, h1, by omega, by omega, ?_, fun p hp => k _ _ (Kp.new _ hp) (rep_newL tr hp (repL_rep h2 _))⟩
    have e1 : vs.length ≤ 1000 := by rw [h2.len]; exact hb.2.2
    have e2 : j.toNat ≤ 1000 := by omega
    have e3 := Nat.mul_le_mul e1 e2
    exact Nat.le_trans e3 (by decide)
  · split at h <;> cases h
    rename_i hb
    exact ⟨_, op_fdivW, fun M H x y Q tr rx ry k => ⟨_, _, repB_int rx, repB_int ry, wide_div hb.1 (log2_big hb.2) (by decide) (by decide), k H _ (Kp.refl _ _) rfl⟩⟩
  · split at h <;> cases h
    rename_i hb
    exact ⟨_, op_mod, fun M H x y Q tr rx ry k => ⟨_, _, repB_int rx, repB_int ry, hb, k H _ (Kp.refl _ _) rfl⟩⟩
  · split at h <;> cases h
    rename_i hb
    exact ⟨_, op_pow, fun M H x y Q tr rx ry k => ⟨_, _, repB_int rx, repB_int ry, ⟨hb.1, by omega, Nat.lt_of_lt_of_le hb.2.2 (by decide)⟩, k H _ (Kp.refl _ _) rfl⟩⟩
  · cases h
end
end PM

namespace PM
open PySem L2

mutual
def toD : W → PyData
  | .non => .none
  | .bl b => .bool b
  | .int i => .int i
  | .str s => .str s
  | .tup ws => .tuple (toDs ws)
  | .lst ws => .list (toDs ws)
  | .rol ws => .list (toDs ws)
  | _ => .none
def toDs : List W → List PyData
  | [] => []
  | w :: ws => toD w :: toDs ws
end
section
variable {K : PySem.W.Frag} {mg : Str → Option Value} {M : AP'} {H : Hp} {v : V} {w : W}
theorem dpAll_of (n : Nat) (ih : ∀ w v, dOk n w = true → Rep K mg M H w v → Dp K H v (toD w)) : ∀ {ws : List W} {vs : List V}, dOks n ws = true → RepL K mg M H ws vs → DpAll K H vs (toDs ws)
  | [], vs, _, r => by
    have e : vs = [] := r
    subst e
    exact DpAll.nil
  | w :: ws, vs, h, ⟨v, r, e, h1, h2⟩ => by
    subst e
    rw [dOks, Bool.and_eq_true] at h
    exact DpAll.cons (ih w v h.1 h1) (dpAll_of n ih h.2 h2)
theorem dp_of : ∀ (n : Nat) (w : W) (v : V), dOk n w = true → Rep K mg M H w v → Dp K H v (toD w) := by
  intro n
  induction n with
  | zero =>
    intro w v h r
    cases w with
    | non => have e : v = .non := r; subst e; exact .non
    | bl b => have e : v = .bl b := r; subst e; exact .bl b
    | int b => have e : v = .int b := r; subst e; exact .int b
    | str b => have e : v = .str b := r; subst e; exact .str b
    | _ => simp [dOk] at h
  | succ n ih =>
    intro w v h r
    cases w with
    | non => have e : v = .non := r; subst e; exact .non
    | bl b => have e : v = .bl b := r; subst e; exact .bl b
    | int b => have e : v = .int b := r; subst e; exact .int b
    | str b => have e : v = .str b := r; subst e; exact .str b
    | tup ws =>
      rw [dOk] at h
      obtain ⟨a, vs, rfl, h1, h2⟩ := r
      exact .tup (.inl (.inl h1)) (dpAll_of n ih h h2)
    | lst ws =>
      rw [dOk] at h
      obtain ⟨a, vs, rfl, h1, h2⟩ := r
      exact .lst (LstAt.sq _ h1) (dpAll_of n ih h h2)
    | rol ws =>
      rw [dOk] at h
      obtain ⟨a, vs, rfl, h1, h2⟩ := r
      exact .lst h1.sq (dpAll_of n ih h h2)
    | _ => simp [dOk] at h
theorem dp_ofB {n : Nat} (h : dOk n w = true) (r : RepB K mg M H w v) : Dp K H v (toD w) := by
  rcases r with r | ⟨a, rfl, r⟩
  · exact dp_of n w v h r
  · cases w with
    | lst ws =>
      obtain ⟨vs, h1, h2⟩ := r
      cases n with
      | zero => simp [dOk] at h
      | succ n =>
        rw [dOk] at h
        exact .lst (.inl (.inl h1)) (dpAll_of n (dp_of n) h h2)
    | dic => cases n <;> simp [dOk] at h
    | obj => cases n <;> simp [dOk] at h
    | _ => exact r.elim
theorem lay_all (n : Nat) (ih : ∀ w, dOk n w = true → (toD w).canLay0 = true ∧ (toD w).depth ≤ n) : ∀ ws, dOks n ws = true → PyData.canLayAll0 (toDs ws) = true ∧ PyData.depthAll (toDs ws) ≤ n
  | [], _ => ⟨by rw [toDs, PyData.canLayAll0], by rw [toDs, PyData.depthAll]; exact Nat.zero_le _⟩
  | w :: ws, h => by
    rw [dOks, Bool.and_eq_true] at h
    obtain ⟨a, b⟩ := ih w h.1
    obtain ⟨c, d⟩ := lay_all n ih ws h.2
    exact ⟨by rw [toDs, PyData.canLayAll0, a, c]; rfl, by rw [toDs, PyData.depthAll]; exact Nat.max_le.mpr ⟨b, d⟩⟩
theorem lay_of : ∀ (n : Nat) (w : W), dOk n w = true → (toD w).canLay0 = true ∧ (toD w).depth ≤ n := by
  have sOk : ∀ b, PM.Str.ok b = true → PyData.canLay0 (.str b) = true := fun b h => by rw [PyData.canLay0]; exact h
  intro n
  induction n with
  | zero =>
    intro w h
    cases w with
    | non => exact ⟨by rw [toD, PyData.canLay0], by rw [toD, PyData.depth]; exact Nat.zero_le _⟩
    | bl b => exact ⟨by rw [toD, PyData.canLay0], by rw [toD, PyData.depth]; exact Nat.zero_le _⟩
    | int b => exact ⟨by rw [toD, PyData.canLay0], by rw [toD, PyData.depth]; exact Nat.zero_le _⟩
    | str b => exact ⟨by rw [toD]; exact sOk b (by simpa [dOk] using h), by rw [toD, PyData.depth]; exact Nat.zero_le _⟩
    | _ => simp [dOk] at h
  | succ n ih =>
    intro w h
    cases w with
    | non => exact ⟨by rw [toD, PyData.canLay0], by rw [toD, PyData.depth]; exact Nat.zero_le _⟩
    | bl b => exact ⟨by rw [toD, PyData.canLay0], by rw [toD, PyData.depth]; exact Nat.zero_le _⟩
    | int b => exact ⟨by rw [toD, PyData.canLay0], by rw [toD, PyData.depth]; exact Nat.zero_le _⟩
    | str b => exact ⟨by rw [toD]; exact sOk b (by simpa [dOk] using h), by rw [toD, PyData.depth]; exact Nat.zero_le _⟩
    | tup ws =>
      rw [dOk] at h
      obtain ⟨a, b⟩ := lay_all n ih ws h
      exact ⟨by rw [toD, PyData.canLay0]; exact a, by rw [toD, PyData.depth]; omega⟩
    | lst ws =>
      rw [dOk] at h
      obtain ⟨a, b⟩ := lay_all n ih ws h
      exact ⟨by rw [toD, PyData.canLay0]; exact a, by rw [toD, PyData.depth]; omega⟩
    | rol ws =>
      rw [dOk] at h
      obtain ⟨a, b⟩ := lay_all n ih ws h
      exact ⟨by rw [toD, PyData.canLay0]; exact a, by rw [toD, PyData.depth]; omega⟩
    | _ => simp [dOk] at h
theorem shaped_of (h : dOk 60 w = true) : SeqAt.shaped (toD w) = true := by
  obtain ⟨a, b⟩ := lay_of 60 w h
  unfold SeqAt.shaped
  rw [a, decide_eq_true (Nat.le_trans b (by decide))]
  rfl
theorem eqv_all (n : Nat) (ih : ∀ a b, dOk n a = true → (toD a).eqv (toD b) = eqB a b ∨ (∀ m, dOk m b = false)) : ∀ (xs ys : List W), dOks n xs = true → PyData.eqvAll (toDs xs) (toDs ys) = eqBs xs ys ∨ (∀ m, dOks m ys = false)
  | [], [], _ => .inl rfl
  | [], _ :: _, _ => .inl rfl
  | _ :: _, [], _ => .inl rfl
  | x :: xs, y :: ys, h => by
    rw [dOks, Bool.and_eq_true] at h
    rcases ih x y h.1 with e | e
    · rcases eqv_all n ih xs ys h.2 with e2 | e2
      · exact .inl (by rw [toDs, toDs, PyData.eqvAll, eqBs, e, e2])
      · exact .inr fun m => by rw [dOks, e2, Bool.and_false]
    · exact .inr fun m => by rw [dOks, e, Bool.false_and]
theorem eqv_or : ∀ (n : Nat) (a b : W), dOk n a = true → (toD a).eqv (toD b) = eqB a b ∨ (∀ m, dOk m b = false) := by
  have dz : ∀ (b : W), (match b with | .dic _ _ => True | .set _ => True | .obj _ _ _ => True | .exn _ _ _ => True | .ty _ => True | .glo _ => True | _ => False) → ∀ m, dOk m b = false := fun b h m => by
    cases b <;> first | exact h.elim | (cases m <;> rfl)
  have dzs : ∀ {ws : List W} (f : List W → W), (∀ n, dOk (n + 1) (f ws) = dOks n ws) → dOk 0 (f ws) = false → (∀ m, dOks m ws = false) → ∀ m, dOk m (f ws) = false := fun f h1 h0 h m => by
    cases m with
    | zero => exact h0
    | succ m => rw [h1]; exact h m
  intro n
  induction n with
  | zero =>
    intro a b h
    cases a with
    | non => cases b <;> first | exact .inr (dz _ trivial) | exact .inl rfl
    | bl x => cases b <;> first | exact .inr (dz _ trivial) | exact .inl rfl
    | int x => cases b <;> first | exact .inr (dz _ trivial) | exact .inl rfl
    | str x => cases b <;> first | exact .inr (dz _ trivial) | exact .inl rfl
    | _ => simp [dOk] at h
  | succ n ih =>
    intro a b h
    cases a with
    | non => cases b <;> first | exact .inr (dz _ trivial) | exact .inl rfl
    | bl x => cases b <;> first | exact .inr (dz _ trivial) | exact .inl rfl
    | int x => cases b <;> first | exact .inr (dz _ trivial) | exact .inl rfl
    | str x => cases b <;> first | exact .inr (dz _ trivial) | exact .inl rfl
    | tup xs =>
      rw [dOk] at h
      cases b with
      | tup ys =>
        rcases eqv_all n ih xs ys h with e | e
        · exact .inl (by rw [toD, toD, PyData.eqv, eqB, e])
        · exact .inr (dzs W.tup (fun _ => rfl) rfl e)
      | _ => first | exact .inr (dz _ trivial) | exact .inl rfl
    | lst xs =>
      rw [dOk] at h
      cases b with
      | lst ys =>
        rcases eqv_all n ih xs ys h with e | e
        · exact .inl (by rw [toD, toD, PyData.eqv, eqB, e])
        · exact .inr (dzs W.lst (fun _ => rfl) rfl e)
      | rol ys =>
        rcases eqv_all n ih xs ys h with e | e
        · exact .inl (by rw [toD, toD, PyData.eqv, eqB, e])
        · exact .inr (dzs W.rol (fun _ => rfl) rfl e)
      | _ => first | exact .inr (dz _ trivial) | exact .inl rfl
    | rol xs =>
      rw [dOk] at h
      cases b with
      | lst ys =>
        rcases eqv_all n ih xs ys h with e | e
        · exact .inl (by rw [toD, toD, PyData.eqv, eqB, e])
        · exact .inr (dzs W.lst (fun _ => rfl) rfl e)
      | rol ys =>
        rcases eqv_all n ih xs ys h with e | e
        · exact .inl (by rw [toD, toD, PyData.eqv, eqB, e])
        · exact .inr (dzs W.rol (fun _ => rfl) rfl e)
      | _ => first | exact .inr (dz _ trivial) | exact .inl rfl
    | _ => simp [dOk] at h
theorem eqv_of {n m : Nat} {a b : W} (h : dOk n a = true) (h' : dOk m b = true) : (toD a).eqv (toD b) = eqB a b := by
  rcases eqv_or n a b h with e | e
  · exact e
  · rw [e m] at h'; cases h'
theorem toDs_map : ∀ ws, toDs ws = ws.map toD
  | [] => rfl
  | w :: ws => by rw [toDs, toDs_map ws]; rfl
end

def CmpSem (X : Cx) (op : CmpOp) (u v : W) (b : Bool) : Prop := ∃ r, OpR X (compareOp op) r ∧ ∀ (M : AP') (H : Hp) (x y : V) (Q : VK), RepB X.K X.mg M H u x → RepB X.K X.mg M H v y → Q (.bl b) H → r x y H Q
theorem eqW_some {a b : W} {k : Bool} (h : eqW a b = some k) : dOk 60 a = true ∧ dOk 60 b = true ∧ k = eqB a b := by
  unfold eqW at h
  split at h
  · rename_i q
    rw [Bool.and_eq_true] at q
    cases h
    exact ⟨q.1, q.2, rfl⟩
  · cases h
theorem cmp_eq {X : Cx} {u v : W} {b : Bool} (hu : X.A.units + 70 < cLine) (h : eqW u v = some b) : CmpSem X .Eq u v b := by
  obtain ⟨h1, h2, rfl⟩ := eqW_some h
  exact ⟨_, op_eqD (by omega), fun M H x y Q rx ry q => ⟨_, _, dp_ofB h1 rx, dp_ofB h2 ry, shaped_of h1, shaped_of h2, by rw [eqv_of h1 h2]; exact q⟩⟩
theorem cmp_ne {X : Cx} {u v : W} {b : Bool} (hu : X.A.units + 70 < cLine) (h : eqW u v = some b) : CmpSem X .NotEq u v (!b) := by
  obtain ⟨h1, h2, rfl⟩ := eqW_some h
  exact ⟨_, op_neD (by omega), fun M H x y Q rx ry q => ⟨_, _, dp_ofB h1 rx, dp_ofB h2 ry, shaped_of h1, shaped_of h2, by rw [eqv_of h1 h2]; exact q⟩⟩
theorem map_some {α β : Type} {o : Option α} {f : α → β} {b : β} (h : o.map f = some b) : ∃ a, o = some a ∧ b = f a := by
  cases o with
  | none => cases h
  | some a => cases h; exact ⟨a, rfl, rfl⟩

theorem rep_flat {K : PySem.W.Frag} {mg : Str → Option Value} {M : AP'} {H : Hp} {w : W} {v : V} (f : flatW w = true) (r : Rep K mg M H w v) : flatV v = true ∧ ∀ w' v', flatW w' = true → Rep K mg M H w' v' → eqV v v' = eqB w w' := by
  cases w with
  | non =>
    have e : v = .non := r
    subst e
    refine ⟨rfl, fun w' v' f' r' => ?_⟩
    cases w' <;> first | (simp [flatW] at f'; done) | (have e : v' = _ := r'; subst e; rfl)
  | bl b =>
    have e : v = .bl b := r
    subst e
    refine ⟨rfl, fun w' v' f' r' => ?_⟩
    cases w' <;> first | (simp [flatW] at f'; done) | (have e : v' = _ := r'; subst e; rfl)
  | int b =>
    have e : v = .int b := r
    subst e
    refine ⟨rfl, fun w' v' f' r' => ?_⟩
    cases w' <;> first | (simp [flatW] at f'; done) | (have e : v' = _ := r'; subst e; rfl)
  | str b =>
    have e : v = .str b := r
    subst e
    refine ⟨rfl, fun w' v' f' r' => ?_⟩
    cases w' <;> first | (simp [flatW] at f'; done) | (have e : v' = _ := r'; subst e; rfl)
  | _ => simp [flatW] at f
theorem repL_flat {K : PySem.W.Frag} {mg : Str → Option Value} {M : AP'} {H : Hp} {x : W} {vx : V} (fx : flatW x = true) (rx : Rep K mg M H x vx) : ∀ {ws : List W} {vs : List V}, ws.all flatW = true → RepL K mg M H ws vs → vs.all flatV = true ∧ inV vx vs = ws.any fun y => eqB y x
  | [], _, _, r => by rw [show _ = [] from r]; exact ⟨rfl, rfl⟩
  | w :: ws, _, f, ⟨v, r, e, h1, h2⟩ => by
    subst e
    rw [List.all_cons, Bool.and_eq_true] at f
    obtain ⟨a, b⟩ := repL_flat fx rx f.2 h2
    obtain ⟨c, d⟩ := rep_flat f.1 h1
    refine ⟨by rw [List.all_cons, c, a]; rfl, ?_⟩
    show (eqV v vx || inV vx r) = (eqB w x || ws.any fun y => eqB y x)
    rw [d _ _ fx rx, b]
theorem repB_flat {K : PySem.W.Frag} {mg : Str → Option Value} {M : AP'} {H : Hp} {w : W} {v : V} (f : flatW w = true) (r : RepB K mg M H w v) : Rep K mg M H w v := by
  rcases r with r | ⟨_, _, r⟩
  · exact r
  · cases w <;> first | (simp [flatW] at f; done) | exact r.elim
/-- what kind of a value it is -/
def SortV (w : W) (v : V) : Prop := match w with | .non => v = .non | .bl b => v = .bl b | .int b => v = .int b | .str b => v = .str b | .ty n => v = .ty n | _ => ∃ a, v = .ref a
theorem sort_ty {K : PySem.W.Frag} {mg : Str → Option Value} {M : AP'} {H : Hp} {w : W} {v : V} (r : RepB K mg M H w v) : SortV w v := by
  cases w with
  | non => exact repB_non r
  | bl => exact repB_bl r
  | int => exact repB_int r
  | str => exact repB_str r
  | tup => obtain ⟨a, _, e, _⟩ := repB_tup r; exact ⟨a, e⟩
  | lst => obtain ⟨a, _, e, _⟩ := repB_lst r; exact ⟨a, e⟩
  | rol => obtain ⟨a, _, e, _⟩ := repB_rol r; exact ⟨a, e⟩
  | dic => obtain ⟨a, _, e, _⟩ := repB_dic r; exact ⟨a, e⟩
  | set => rcases r with r | ⟨_, _, r⟩ <;> exact r.elim
  | obj =>
    rcases r with ⟨a, _, _, _, e, _⟩ | ⟨a, e, _⟩ <;> exact ⟨a, e⟩
  | exn =>
    rcases r with ⟨a, _, _, _, e, _⟩ | ⟨_, _, r⟩
    · exact ⟨a, e⟩
    · exact r.elim
  | ty => rcases r with r | ⟨_, _, r⟩
          · exact r
          · exact r.elim
  | glo =>
    rcases r with ⟨a, _, e⟩ | ⟨_, _, r⟩
    · exact ⟨a, e⟩
    · exact r.elim
theorem dec_non {w : W} {v : V} (r : SortV w v) : decide (v = .non) = isNonW w := by
  cases w <;> first | (have e : v = _ := r; subst e; rfl) | (obtain ⟨a, e⟩ := r; subst e; rfl)
theorem any_eqv {x : W} (h : dOk 60 x = true) : ∀ {n : Nat} {ws : List W}, dOks n ws = true → ((toDs ws).any fun z => PyData.eqv z (toD x)) = ws.any fun y => eqB y x
  | _, [], _ => rfl
  | n, w :: ws, f => by
    rw [dOks, Bool.and_eq_true] at f
    rw [toDs, List.any_cons, List.any_cons, any_eqv h f.2, eqv_of f.1 h]
theorem kEq_kW (a b : Key) : kEq (kW a) (kW b) = decide (a = b) := by
  cases a <;> cases b <;> first | (simp [kW, kEq]; done) | (simp [kW, kEq]; exact Bool.eq_iff_iff.mpr (by rw [beq_iff_eq, decide_eq_true_iff]))
theorem key_of {w : W} (h : isKey w = true) : ∃ k, w = kW k := by
  cases w with
  | int i => exact ⟨.inl i, rfl⟩
  | str x => exact ⟨.inr x, rfl⟩
  | _ => cases h
theorem rep_kW {K : PySem.W.Frag} {mg : Str → Option Value} {M : AP'} {H : Hp} {k : Key} {v : V} (h : Rep K mg M H (kW k) v) : v = kV k := by
  cases k with
  | inl i => exact h
  | inr x => exact h
theorem dget_val {K : PySem.W.Frag} {mg : Str → Option Value} {M : AP'} {H : Hp} {k : Key} {w : W} : ∀ {kvs : List (Key × V)} {ws : List W}, dGet (kvs.map fun p => kW p.1) ws (kW k) = some w → RepL K mg M H ws (kvs.map (·.2)) → ∃ v, valV kvs k = some v ∧ Rep K mg M H w v
  | [], _, h, _ => by simp [dGet] at h
  | p :: t, [], h, _ => by simp [dGet] at h
  | p :: t, u :: ws, h, r => by
    obtain ⟨v', r', e, r1, r2⟩ := r
    simp only [List.map_cons] at e
    cases e
    simp only [List.map_cons, dGet, kEq_kW] at h
    by_cases hk : p.1 = k
    · simp only [hk, decide_true, if_true] at h
      cases h
      exact ⟨p.2, valV_pos hk, r1⟩
    · simp only [hk, decide_false, if_false, Bool.false_eq_true] at h
      obtain ⟨v, h1, h2⟩ := dget_val h r2
      exact ⟨v, by rw [valV_neg hk]; exact h1, h2⟩
theorem flatEq_of {K : PySem.W.Frag} {mg : Str → Option Value} {M : AP'} {H : Hp} {w u : W} {v v' : V} (h : flatEq w u = true) (r : Rep K mg M H w v) (r' : Rep K mg M H u v') : v = v' ∧ flatB v = true := by
  unfold flatEq at h
  split at h
  · exact ⟨(show v = .non from r).trans (show v' = .non from r').symm, by rw [show v = .non from r]; rfl⟩
  · rename_i a b
    obtain rfl : a = b := by simpa using h
    exact ⟨(show v = .bl a from r).trans (show v' = .bl a from r').symm, by rw [show v = .bl a from r]; rfl⟩
  · rename_i a b
    obtain rfl : a = b := by simpa using h
    exact ⟨(show v = .int a from r).trans (show v' = .int a from r').symm, by rw [show v = .int a from r]; rfl⟩
  · rename_i a b
    obtain rfl : a = b := of_decide_eq_true h
    exact ⟨(show v = .str a from r).trans (show v' = .str a from r').symm, by rw [show v = .str a from r]; rfl⟩
  · cases h
theorem dSub_of {K : PySem.W.Frag} {mg : Str → Option Value} {M : AP'} {H : Hp} {us : List W} {kb : List (Key × V)} (rb : RepL K mg M H us (kb.map (·.2))) : ∀ {ka : List (Key × V)} {ws : List W}, dSub (ka.map fun p => kW p.1) ws (kb.map fun p => kW p.1) us = true → RepL K mg M H ws (ka.map (·.2)) → ∀ p ∈ ka, valV kb p.1 = some p.2 ∧ flatB p.2 = true
  | [], _, _, _, p, hp => by cases hp
  | a :: ka, [], h, _, p, hp => by simp [dSub] at h
  | a :: ka, w :: ws, h, r, p, hp => by
    obtain ⟨v', r', e, r1, r2⟩ := r
    simp only [List.map_cons] at e
    injection e with e1 e2
    subst e1 e2
    simp only [List.map_cons, dSub, Bool.and_eq_true] at h
    rcases List.mem_cons.mp hp with rfl | hp
    · have h2 := h.1.2
      cases q : dGet (kb.map fun p => kW p.1) us (kW p.1) with
      | none => rw [q] at h2; cases h2
      | some u =>
        rw [q] at h2
        obtain ⟨v, g1, g2⟩ := dget_val q rb
        obtain ⟨e3, e4⟩ := flatEq_of h2 r1 g2
        exact ⟨by rw [g1, e3], e4⟩
    · exact dSub_of rb h.2 r2 p hp
def rEqR : R2 := fun x y H Q => ∃ a b ks ls, x = .ref a ∧ y = .ref b ∧ L2.Rd H a (.dK ks) ∧ L2.Rd H b (.dK ls) ∧ ks.length = ls.length ∧ (∀ p ∈ ks, valV ls p.1 = some p.2 ∧ flatB p.2 = true) ∧ Q (.bl true) H
def rNeR : R2 := fun x y H Q => ∃ a b ks ls, x = .ref a ∧ y = .ref b ∧ L2.Rd H a (.dK ks) ∧ L2.Rd H b (.dK ls) ∧ ks.length = ls.length ∧ (∀ p ∈ ks, valV ls p.1 = some p.2 ∧ flatB p.2 = true) ∧ Q (.bl false) H
theorem op_eqR {X : Cx} (hu : X.A.units < cLine) : OpR X (compareOp .Eq) rEqR := by
  intro pins s σ H x y v u Q I rx ry h
  obtain ⟨a, b, ks, ls, rfl, rfl, ea, eb, hlen, hp, q⟩ := h
  obtain rfl : v = Value.ref a := rx
  obtain rfl : u = Value.ref b := ry
  obtain ⟨_, ya, va, ra, da⟩ := dk_rd I.hok ea
  obtain ⟨_, yb, vb, rb, db⟩ := dk_rd I.hok eb
  have hl : va.length = vb.length := by rw [← ra.length, ← rb.length]; exact hlen
  exact PySem.W.keq_eq (knd := mixKind X.prog X.w) (r := true) ya yb da db hu (fun _ => hits_all rb ra hp) (fin_bl I q (by simp [hl]))
theorem op_neR {X : Cx} (hu : X.A.units < cLine) : OpR X (compareOp .NotEq) rNeR := by
  intro pins s σ H x y v u Q I rx ry h
  obtain ⟨a, b, ks, ls, rfl, rfl, ea, eb, hlen, hp, q⟩ := h
  obtain rfl : v = Value.ref a := rx
  obtain rfl : u = Value.ref b := ry
  obtain ⟨_, ya, va, ra, da⟩ := dk_rd I.hok ea
  obtain ⟨_, yb, vb, rb, db⟩ := dk_rd I.hok eb
  have hl : va.length = vb.length := by rw [← ra.length, ← rb.length]; exact hlen
  exact PySem.W.keq_ne (knd := mixKind X.prog X.w) (r := true) ya yb da db hu (fun _ => hits_all rb ra hp) (fin_bl I q (by simp [hl]))
theorem cmp_dic {X : Cx} {ks ws ls us : List W} (hu : X.A.units + 70 < cLine) (h : dSame ks ws ls us = true) : CmpSem X .Eq (.dic ks ws) (.dic ls us) true ∧ CmpSem X .NotEq (.dic ks ws) (.dic ls us) false := by
  unfold dSame at h
  rw [Bool.and_eq_true, beq_iff_eq] at h
  have key : ∀ (M : AP') (H : Hp) (x y : V), RepB X.K X.mg M H (.dic ks ws) x → RepB X.K X.mg M H (.dic ls us) y → ∃ a b ka kb, x = .ref a ∧ y = .ref b ∧ L2.Rd H a (.dK ka) ∧ L2.Rd H b (.dK kb) ∧ ka.length = kb.length ∧ ∀ p ∈ ka, valV kb p.1 = some p.2 ∧ flatB p.2 = true := fun M H x y rx ry => by
    obtain ⟨a, ka, rfl, d1, k1, r1⟩ := repB_dic rx
    obtain ⟨b, kb, rfl, d2, k2, r2⟩ := repB_dic ry
    subst k1 k2
    exact ⟨a, b, ka, kb, rfl, rfl, d1, d2, by simpa using h.1, dSub_of r2 h.2 r1⟩
  refine ⟨⟨_, op_eqR (by omega), fun M H x y Q rx ry q => ?_⟩, ⟨_, op_neR (by omega), fun M H x y Q rx ry q => ?_⟩⟩
  · obtain ⟨a, b, ka, kb, e1, e2, d1, d2, l, p⟩ := key M H x y rx ry
    exact ⟨a, b, ka, kb, e1, e2, d1, d2, l, p, q⟩
  · obtain ⟨a, b, ka, kb, e1, e2, d1, d2, l, p⟩ := key M H x y rx ry
    exact ⟨a, b, ka, kb, e1, e2, d1, d2, l, p, q⟩
theorem cmpSem {X : Cx} {op : CmpOp} {u v : W} {b : Bool} (hu : X.A.units + 70 < cLine) (h : cmpW op u v = some b) : CmpSem X op u v b := by
  have cints : ∀ {o : CmpOp} {p : Int → Int → Bool} {i j : Int}, OpR X (compareOp o) (rI0 fun i j => .bl (p i j)) → CmpSem X o (.int i) (.int j) (p i j) := fun ho =>
    ⟨_, ho, fun M H x y Q rx ry q => ⟨_, _, repB_int rx, repB_int ry, q⟩⟩
  have nlt : ∀ {i j : Int}, (!decide (j < i)) = decide (i ≤ j) := fun {i j} => by
    by_cases e : j < i
    · rw [decide_eq_true e, decide_eq_false (by omega)]; rfl
    · rw [decide_eq_false e, decide_eq_true (by omega)]; rfl
  unfold cmpW at h
  split at h
  · split at h
    · rename_i q; cases h; exact (cmp_dic hu q).1
    · cases h
  · split at h
    · rename_i q; cases h; exact (cmp_dic hu q).2
    · cases h
  · exact cmp_eq hu h
  · obtain ⟨a, h', rfl⟩ := map_some h
    clear h
    have h := h'
    clear h'
    exact cmp_ne hu h
  · unfold ltB at h
    split at h
    · cases h; exact cints op_lt
    · cases h; exact ⟨_, op_lt_str, fun M H x y Q rx ry q => ⟨_, _, repB_str rx, repB_str ry, q⟩⟩
    · cases h
  · unfold ltB at h
    split at h
    · cases h; exact cints op_gt
    · cases h; exact ⟨_, op_gt_str, fun M H x y Q rx ry q => ⟨_, _, repB_str rx, repB_str ry, q⟩⟩
    · cases h
  · obtain ⟨a, h', rfl⟩ := map_some h
    clear h
    have h := h'
    clear h'
    unfold ltB at h
    split at h
    · cases h; rw [nlt]; exact cints op_le
    · cases h; exact ⟨_, op_le_str, fun M H x y Q rx ry q => ⟨_, _, repB_str rx, repB_str ry, q⟩⟩
    · cases h
  · obtain ⟨a, h', rfl⟩ := map_some h
    clear h
    have h := h'
    clear h'
    unfold ltB at h
    split at h
    · cases h; rw [nlt]; exact cints op_ge
    · cases h; exact ⟨_, op_ge_str, fun M H x y Q rx ry q => ⟨_, _, repB_str rx, repB_str ry, q⟩⟩
    · cases h
  · cases h
    exact ⟨_, op_isN, fun M H x y Q rx ry q => ⟨repB_non ry, by rw [dec_non (sort_ty rx)]; exact q⟩⟩
  · cases h
    refine ⟨_, op_notN, fun M H x y Q rx ry q => ⟨repB_non ry, ?_⟩⟩
    rw [dec_non (sort_ty rx)]
    exact q
  · cases h
    refine ⟨_, op_is_bl, fun M H x y Q rx ry q => ⟨_, _, repB_bl rx, repB_bl ry, ?_⟩⟩
    rename_i a b
    rw [show decide (a = b) = (a == b) by cases a <;> cases b <;> rfl]; exact q
  · cases h
    refine ⟨_, op_isnot_bl, fun M H x y Q rx ry q => ⟨_, _, repB_bl rx, repB_bl ry, ?_⟩⟩
    rename_i a b
    rw [show decide (a = b) = (a == b) by cases a <;> cases b <;> rfl]; exact q
  · rename_i ws
    unfold inT at h
    split at h
    case isFalse => cases h
    rename_i hf
    have h := (Option.some.inj h).symm
    subst h
    rw [Bool.and_eq_true] at hf
    refine ⟨_, op_in_seq, fun M H x y Q rx ry q => ?_⟩
    obtain ⟨a, vs, rfl, h1, h2⟩ := repB_tup ry
    obtain ⟨f1, f2⟩ := repL_flat hf.1 (repB_flat hf.1 rx) hf.2 h2
    exact ⟨a, vs, rfl, .inr h1, (rep_flat hf.1 (repB_flat hf.1 rx)).1, f1, by rw [f2]; exact q⟩
  · rename_i ws
    unfold inW at h
    split at h
    case isFalse => cases h
    rename_i hf
    have h := (Option.some.inj h).symm
    subst h
    rw [Bool.and_eq_true] at hf
    refine ⟨_, op_inD (by omega), fun M H x y Q rx ry q => ?_⟩
    have hl : dOk 60 (.lst ws) = true := by rw [dOk]; exact hf.2
    have d2 := dp_ofB hl ry
    refine ⟨_, toDs ws, dp_ofB hf.1 rx, d2, shaped_of hf.1, shaped_of hl, ?_⟩
    have e : ((toDs ws).any fun z => PyData.eqv z (toD u)) = ws.any fun y => eqB y u := any_eqv hf.1 hf.2
    rw [e]; exact q
  · rename_i ws
    obtain ⟨a, h', rfl⟩ := map_some h
    clear h
    have h := h'
    clear h'
    unfold inT at h
    split at h
    case isFalse => cases h
    rename_i hf
    have h := (Option.some.inj h).symm
    subst h
    rw [Bool.and_eq_true] at hf
    refine ⟨_, op_notIn_seq, fun M H x y Q rx ry q => ?_⟩
    obtain ⟨a, vs, rfl, h1, h2⟩ := repB_tup ry
    obtain ⟨f1, f2⟩ := repL_flat hf.1 (repB_flat hf.1 rx) hf.2 h2
    exact ⟨a, vs, rfl, .inr h1, (rep_flat hf.1 (repB_flat hf.1 rx)).1, f1, by rw [f2]; exact q⟩
  · rename_i ws
    obtain ⟨a, h', rfl⟩ := map_some h
    clear h
    have h := h'
    clear h'
    unfold inW at h
    split at h
    case isFalse => cases h
    rename_i hf
    have h := (Option.some.inj h).symm
    subst h
    rw [Bool.and_eq_true] at hf
    refine ⟨_, op_notInD (by omega), fun M H x y Q rx ry q => ?_⟩
    have hl : dOk 60 (.lst ws) = true := by rw [dOk]; exact hf.2
    have d2 := dp_ofB hl ry
    refine ⟨_, toDs ws, dp_ofB hf.1 rx, d2, shaped_of hf.1, shaped_of hl, ?_⟩
    have e : ((toDs ws).any fun z => PyData.eqv z (toD u)) = ws.any fun y => eqB y u := any_eqv hf.1 hf.2
    rw [e]; exact q
  · cases h
end PM

namespace PM
open PySem L2
section
variable {X : Cx} {F : Frm} {Wx : WX} {a b c e : Expr} {pos : Pos} {ma mb mc : Env → R Hd}
abbrev SE (X : Cx) (F : Frm) (Wx : WX) (e : Expr) (m : Env → R Hd) : Prop := PE X e (tE X.K X.mg F Wx m)
abbrev ST (X : Cx) (F : Frm) (Wx : WX) (e : Expr) (m : Env → R Bool) : Prop := PT X e (tT X.K X.mg F Wx m)
abbrev SF (X : Cx) (F : Frm) (Wx : WX) (e : Expr) (m : Env → R W) : Prop := PE X e (tF X.K X.mg F Wx m)
abbrev SA (X : Cx) (F : Frm) (Wx : WX) (es : List Expr) (m : Env → R (List Hd)) : Prop := PA X es (tA X.K X.mg F Wx m)

theorem se_var {i : Nat} {x : Str} (hN : X.N[i]? = some x) (hv : Vis X.env.scope x) (hd : (x == ("__debug__" : Str)) = false) (hcd : (x == ("__classdict__" : Str)) = false) :
    SE X F Wx (.Name x pos) (fun env => match env[i]? with | some (.val w) => .ok (.v w) env | _ => .no) := by
  refine pe_by fun σ H Q h => ⟨_, pe_var hN hv hd hcd, ?_⟩
  obtain ⟨α, T, env, c, o⟩ := tE_iff.mp h
  cases q : env[i]? with
  | none => simp only [q] at o; exact o.elim
  | some s =>
    simp only [q] at o
    cases s with
    | val w =>
      obtain ⟨v, e1, r⟩ := c.sl i _ q
      exact ⟨v, gO_some e1, okE.val c o (Kp.refl _ _) r⟩
    | _ => exact o.elim
theorem se_bor {i : Nat} {x : Str} (hN : X.N[i]? = some x) (hv : Vis X.env.scope x) (hd : (x == ("__debug__" : Str)) = false) (hcd : (x == ("__classdict__" : Str)) = false) :
    SE X F Wx (.Name x pos) (fun env => match env[i]? with | some (.own _) => .ok (.s i) env | _ => .no) := by
  refine pe_by fun σ H Q h => ⟨_, pe_var hN hv hd hcd, ?_⟩
  obtain ⟨α, T, env, c, o⟩ := tE_iff.mp h
  cases q : env[i]? with
  | none => simp only [q] at o; exact o.elim
  | some s =>
    simp only [q] at o
    cases s with
    | own w =>
      obtain ⟨a, e1, e2, r⟩ := c.sl i _ q
      exact ⟨_, gO_some e2, o H _ c (Kp.refl _ _) ⟨a, e1, rfl⟩⟩
    | _ => exact o.elim
/-- a value that is known -/
theorem se_const {w : W} {v : V} (h : PE X e (tC v)) (r : ∀ M H, Rep X.K X.mg M H w v) : SE X F Wx e (fun env => .ok (.v w) env) := by
  refine pe_by fun σ H Q h' => ⟨_, h, ?_⟩
  obtain ⟨α, T, env, c, o⟩ := tE_iff.mp h'
  exact okE.val c o (Kp.refl _ _) (r _ _)
theorem se_int {i j} : SE X F Wx (.Constant (.int i) j pos) (fun env => .ok (.v (.int i)) env) := se_const pe_int fun _ _ => rfl
theorem se_bl {i j} : SE X F Wx (.Constant (.bool i) j pos) (fun env => .ok (.v (.bl i)) env) := se_const pe_bl fun _ _ => rfl
theorem se_str {i j} : SE X F Wx (.Constant (.str i) j pos) (fun env => .ok (.v (.str i)) env) := se_const pe_str fun _ _ => rfl
theorem se_non {j} : SE X F Wx (.Constant .none j pos) (fun env => .ok (.v .non) env) := se_const pe_non fun _ _ => rfl

/-- two operands, by a rule that the values choose -/
def two (ma mb : Env → R Hd) (sem : W → W → Option W) : Env → R Hd := fun env => (ma env).bind fun x e1 => (mb e1).bind fun y e2 => match rd e2 x, rd e2 y with
  | some u, some v => (R.opt (sem u v) e2).hd
  | _, _ => .no
def Sem2 (X : Cx) (P : R2 → Prop) (u v w : W) : Prop := ∃ r, P r ∧ ∀ (M : AP') (H : Hp) (x y : V) (Q : VK), (∀ a, M a → H a ≠ none) → RepB X.K X.mg M H u x → RepB X.K X.mg M H v y →
  (∀ H' z, Kp (fun _ => False) H H' → Rep X.K X.mg M H' w z → Q z H') → r x y H Q
theorem se_two {sem : W → W → Option W} {P : R2 → Prop} {tt : R2 → TE} (mk : ∀ r, P r → PE X e (tOp r (tE X.K X.mg F Wx ma) (tE X.K X.mg F Wx mb))) (h0 : P fun _ _ _ _ => False)
    (hs : ∀ u v w, sem u v = some w → Sem2 X P u v w) : SE X F Wx e (two ma mb sem) := by
  refine pe_by fun σ H Q h => ?_
  obtain ⟨α, T, env, c, o⟩ := tE_iff.mp h
  have bad : ∀ r, P r → (∀ x y e1 e2, ma env = .ok x e1 → mb e1 = .ok y e2 → False) → ∃ t, PE X e t ∧ t σ H Q := fun r hr hno => ⟨_, mk r hr, by
    refine tE_bind c o fun x e1 H1 v q1 c1 k1 r1 o1 => ?_
    exact tE_bind c1 (o1.imp (fun _ _ z => z) fun _ _ z => z.later k1) fun y e2 H2 v2 q2 _ _ _ _ => (hno x y e1 e2 q1 q2).elim⟩
  cases q1 : ma env with
  | no => exact bad _ h0 fun x y e1 e2 h1 _ => by rw [q1] at h1; cases h1
  | exc x e1 => exact bad _ h0 fun x y e1 e2 h1 _ => by rw [q1] at h1; cases h1
  | ok x e1 =>
    cases q2 : mb e1 with
    | no => exact bad _ h0 fun x y e1 e2 h1 h2 => by rw [q1] at h1; cases h1; rw [q2] at h2; cases h2
    | exc x e1 => exact bad _ h0 fun x y e1 e2 h1 h2 => by rw [q1] at h1; cases h1; rw [q2] at h2; cases h2
    | ok y e2 =>
      have o' := o
      simp only [two, q1, q2, R.bind_ok] at o'
      cases q3 : rd e2 x with
      | none => rw [q3] at o'; exact o'.elim
      | some u =>
        cases q4 : rd e2 y with
        | none => rw [q3, q4] at o'; exact o'.elim
        | some v =>
          rw [q3, q4] at o'
          simp only at o'
          obtain ⟨w, q5, _⟩ := OutR.opt (OutR.hd o')
          obtain ⟨r, hr, hq⟩ := hs u v w q5
          refine ⟨_, mk r hr, ?_⟩
          refine tE_bind c o fun x' e1' H1 vx q1' c1 k1 r1 o1 => ?_
          rw [q1] at q1'; cases q1'
          refine tE_bind c1 (o1.imp (fun _ _ z => z) fun _ _ z => z.later k1) fun y' e2' H2 vy q2' c2 k2 r2 o2 => ?_
          rw [q2] at q2'; cases q2'
          simp only [q3, q4, q5, R.opt_some] at o2
          have o2 : okE X.K X.mg F α T σ H Q (.v w) e2 := o2
          exact hq (MM F α T) H2 vx vy Q c2.tr (c2.read (r1.later k2) q3) (c2.read r2 q4) fun H' z k r => o2 H' z (c2.ext k) ((k1.trans k2 fun _ z => .inl z).trans (k.mono fun _ z => z.elim) fun _ z => .inl z) r
theorem se_bin {op : Operator} (ha : SE X F Wx a ma) (hb : SE X F Wx b mb) : SE X F Wx (.BinOp a op b pos) (two ma mb (binW op)) :=
  se_two (P := fun r => OpR X (binaryOp op) r) (tt := fun r => tOp r (tE X.K X.mg F Wx ma) (tE X.K X.mg F Wx mb)) (fun r hr => pe_op hr ha hb) opr_false fun u v w h => binSem h
theorem cmp_sem2 {op : CmpOp} {u v w : W} (hu : X.A.units + 70 < cLine) (h : (cmpW op u v).map W.bl = some w) : Sem2 X (fun r => OpR X (compareOp op) r) u v w := by
  obtain ⟨k, h1, rfl⟩ := map_some h
  obtain ⟨r, hr, hq⟩ := cmpSem hu h1
  exact ⟨r, hr, fun M H x y Q _ rx ry q => hq M H x y Q rx ry (q H _ (Kp.refl _ _) rfl)⟩
theorem se_cmp {op : CmpOp} (hu : X.A.units + 70 < cLine) (hm : behindInMarks op b = false) (ha : SE X F Wx a ma) (hb : SE X F Wx b mb) : SE X F Wx (.Compare a [op] [b] pos) (two ma mb fun u v => (cmpW op u v).map W.bl) :=
  se_two (P := fun r => OpR X (compareOp op) r) (tt := fun r => tOp r (tE X.K X.mg F Wx ma) (tE X.K X.mg F Wx mb)) (fun r hr => pe_cmpR hr ha hb hm) opr_false fun u v w h => cmp_sem2 hu h

/-- an expression whose value is a bool, as a test -/
theorem tB_of {m : Env → R Hd} {σ : St} {H : Hp} {Q : Bool → Hp → Prop} (h : tT X.K X.mg F Wx (fun env => (m env).bool) σ H Q) : tB (tE X.K X.mg F Wx m) σ H Q := by
  obtain ⟨α, T, env, c, o⟩ := tT_iff.mp h
  refine tE_bind c o fun hd e1 H1 v q c1 k1 r1 o1 => ?_
  cases hd with
  | s i => exact o1.elim
  | v w =>
    cases w with
    | bl k => exact ⟨k, r1, (show okT X.K X.mg F α T σ H Q k e1 from o1) H1 c1 k1⟩
    | _ => exact o1.elim
theorem st_val (h : SE X F Wx e ma) (he : ∀ whole, isTrue e X.env whole = (do let v ← whole; standAt e.pos; holding [v] (truthy v))) : ST X F Wx e (fun env => (ma env).bool) :=
  pt_by fun _ _ _ hq => ⟨_, pt_val h he, tB_of hq⟩
theorem st_not {m : Env → R Bool} (h : ST X F Wx a m) : ST X F Wx (.UnaryOp .Not a pos) (fun env => (m env).bind fun k e1 => .ok (!k) e1) := by
  refine pt_by fun σ H Q hq => ⟨_, pt_not h, ?_⟩
  obtain ⟨α, T, env, c, o⟩ := tT_iff.mp hq
  exact tT_bind c o fun k e1 H1 _ c1 k1 o1 => (show okT X.K X.mg F α T σ H Q (!k) e1 from o1) H1 c1 k1
/-- a test gives a value -/
theorem se_not {m : Env → R Hd} (h : SE X F Wx a m) : SE X F Wx (.UnaryOp .Not a pos) (fun env => (m env).bool.bind fun k e1 => .ok (.v (.bl (!k))) e1) := by
  refine pe_by fun σ H Q hq => ⟨_, pe_not h, ?_⟩
  obtain ⟨α, T, env, c, o⟩ := tE_iff.mp hq
  unfold R.bool at o
  show tE X.K X.mg F Wx m σ H _
  cases q : m env with
  | no => rw [q] at o; exact o.elim
  | exc x e1 => rw [q] at o; exact tE_iff.mpr ⟨α, T, env, c, by rw [q]; exact o⟩
  | ok hd e1 =>
    rw [q] at o
    refine tE_iff.mpr ⟨α, T, env, c, ?_⟩
    rw [q]
    intro H1 v c1 k1 r1
    cases hd with
    | s i => exact o.elim
    | v w =>
      cases w with
      | bl k => exact ⟨k, r1, (show okE X.K X.mg F α T σ H Q (.v (.bl (!k))) e1 from o) H1 _ c1 k1 rfl⟩
      | _ => exact o.elim
theorem st_cmp {op : CmpOp} (hu : X.A.units + 70 < cLine) (hm : behindInMarks op b = false) (ha : SE X F Wx a ma) (hb : SE X F Wx b mb) : ST X F Wx (.Compare a [op] [b] pos) (fun env => (two ma mb (fun u v => (cmpW op u v).map W.bl) env).bool) := by
  refine pt_by fun σ H Q hq => ?_
  have hq' := tB_of hq
  obtain ⟨α, T, env, c, o⟩ := tE_iff.mp hq'
  have mk : ∀ r, OpR X (compareOp op) r → PT X (.Compare a [op] [b] pos) (tTest (tOp r (tE X.K X.mg F Wx ma) (tE X.K X.mg F Wx mb))) := fun r hr => pt_cmpR hr ha hb hm
  -- the same choice as for the value
  have key : ∃ r, OpR X (compareOp op) r ∧ tOp r (tE X.K X.mg F Wx ma) (tE X.K X.mg F Wx mb) σ H (fun z H1 => ∃ k, z = .bl k ∧ Q k H1) := by
    have bad : ∀ r, OpR X (compareOp op) r → (∀ x y e1 e2, ma env = .ok x e1 → mb e1 = .ok y e2 → False) → ∃ r, OpR X (compareOp op) r ∧ tOp r (tE X.K X.mg F Wx ma) (tE X.K X.mg F Wx mb) σ H (fun z H1 => ∃ k, z = .bl k ∧ Q k H1) := fun r hr hno => ⟨r, hr, by
      refine tE_bind c o fun x e1 H1 v q1 c1 k1 r1 o1 => ?_
      exact tE_bind c1 (o1.imp (fun _ _ z => z) fun _ _ z => z.later k1) fun y e2 H2 v2 q2 _ _ _ _ => (hno x y e1 e2 q1 q2).elim⟩
    cases q1 : ma env with
    | no => exact bad _ opr_false fun x y e1 e2 h1 _ => by rw [q1] at h1; cases h1
    | exc x e1 => exact bad _ opr_false fun x y e1 e2 h1 _ => by rw [q1] at h1; cases h1
    | ok x e1 =>
      cases q2 : mb e1 with
      | no => exact bad _ opr_false fun x y e1 e2 h1 h2 => by rw [q1] at h1; cases h1; rw [q2] at h2; cases h2
      | exc x e1 => exact bad _ opr_false fun x y e1 e2 h1 h2 => by rw [q1] at h1; cases h1; rw [q2] at h2; cases h2
      | ok y e2 =>
        have o' := o
        simp only [two, q1, q2, R.bind_ok] at o'
        cases q3 : rd e2 x with
        | none => rw [q3] at o'; exact o'.elim
        | some u =>
          cases q4 : rd e2 y with
          | none => rw [q3, q4] at o'; exact o'.elim
          | some v =>
            rw [q3, q4] at o'
            simp only at o'
            obtain ⟨w, q5, _⟩ := OutR.opt (OutR.hd o')
            obtain ⟨r, hr, hs⟩ := cmp_sem2 hu q5
            refine ⟨r, hr, ?_⟩
            refine tE_bind c o fun x' e1' H1 vx q1' c1 k1 r1 o1 => ?_
            rw [q1] at q1'; cases q1'
            refine tE_bind c1 (o1.imp (fun _ _ z => z) fun _ _ z => z.later k1) fun y' e2' H2 vy q2' c2 k2 r2 o2 => ?_
            rw [q2] at q2'; cases q2'
            simp only [q3, q4, q5, R.opt_some] at o2
            exact hs (MM F α T) H2 vx vy _ c2.tr (c2.read (r1.later k2) q3) (c2.read r2 q4) fun H' z k r => (show okE X.K X.mg F α T σ H _ (.v w) e2 from o2) H' z (c2.ext k) ((k1.trans k2 fun _ z => .inl z).trans (k.mono fun _ z => z.elim) fun _ z => .inl z) r
  obtain ⟨r, hr, q⟩ := key
  exact ⟨_, mk r hr, q⟩
/-- a test's value -/
def R.ofBool (r : R Bool) : R Hd := r.bind fun k e => .ok (.v (.bl k)) e

theorem se_neg (ha : SE X F Wx a ma) : SE X F Wx (.UnaryOp .USub a pos) (fun env => (ma env).bind fun x e1 => match x with | .v (.int i) => .ok (.v (.int (-i))) e1 | _ => .no) := by
  refine pe_by fun σ H Q hq => ⟨_, pe_un un_neg ha, ?_⟩
  obtain ⟨α, T, env, c, o⟩ := tE_iff.mp hq
  refine tE_bind c o fun hd e1 H1 v q c1 k1 r1 o1 => ?_
  cases hd with
  | s i => exact o1.elim
  | v w =>
    cases w with
    | int i => exact ⟨i, r1, (show okE X.K X.mg F α T σ H Q (.v (.int (-i))) e1 from o1) H1 _ c1 k1 rfl⟩
    | _ => exact o1.elim
theorem R.bool_ok {r : R Hd} {k : Bool} {e : Env} (h : r.bool = .ok k e) : r = .ok (.v (.bl k)) e := by
  unfold R.bool at h
  cases r with
  | ok hd e1 =>
    cases hd with
    | s i => cases h
    | v w =>
      cases w with
      | bl k' => cases h; rfl
      | _ => cases h
  | exc => cases h
  | no => cases h
/-- bind over a bool's value -/
theorem tE_bool {β : Type} {α : Asg} {T : List Addr} {env : Env} {σ : St} {H : Hp} {f : Bool → Env → R β} {P : β → Env → Prop} {Rr : VK} (c : Cfg X.K X.mg F α T env σ H) (o : OutR P (exE X.K X.mg F Wx α T σ H) ((ma env).bool.bind f))
    (k : ∀ b e1 H1, (ma env).bool = .ok b e1 → Cfg X.K X.mg F α T e1 σ H1 → Kp (Ow α) H H1 → OutR P (exE X.K X.mg F Wx α T σ H) (f b e1) → Rr (.bl b) H1) : tE X.K X.mg F Wx ma σ H Rr := by
  refine tE_iff.mpr ⟨α, T, env, c, ?_⟩
  cases q : ma env with
  | no => rw [q] at o; exact o
  | exc x e1 => rw [q] at o; exact o
  | ok hd e1 =>
    rw [q] at o
    intro H1 v c1 k1 r1
    cases hd with
    | s i => exact o.elim
    | v w =>
      cases w with
      | bl b =>
        have e : v = .bl b := r1
        subst e
        exact k b e1 H1 (by rw [q]; rfl) c1 k1 o
      | _ => exact o.elim
theorem se_and {rest : List Expr} (ha : SE X F Wx a ma) (hb : SE X F Wx (.BoolOp .And (b :: rest) pos) mb) : SE X F Wx (.BoolOp .And (a :: b :: rest) pos)
    (fun env => (ma env).bool.bind fun k e1 => if k = true then (mb e1).bool.bind fun k2 e2 => .ok (.v (.bl k2)) e2 else .ok (.v (.bl false)) e1) := by
  refine pe_by fun σ H Q hq => ⟨_, pe_and ha hb, ?_⟩
  obtain ⟨α, T, env, c, o⟩ := tE_iff.mp hq
  refine tE_bool c o fun k e1 H1 q c1 k1 o1 => ⟨k, rfl, ?_⟩
  cases k with
  | false => exact (show okE X.K X.mg F α T σ H Q (.v (.bl false)) e1 from o1) H1 _ c1 k1 rfl
  | true =>
    rw [if_pos rfl] at o1 ⊢
    exact tE_bool c1 (o1.imp (fun _ _ z => z) fun _ _ z => z.later k1) fun k2 e2 H2 q2 c2 k3 o2 => (show okE X.K X.mg F α T σ H Q (.v (.bl k2)) e2 from o2) H2 _ c2 (k1.trans k3 fun _ z => .inl z) rfl
theorem se_or {rest : List Expr} (ha : SE X F Wx a ma) (hb : SE X F Wx (.BoolOp .Or (b :: rest) pos) mb) : SE X F Wx (.BoolOp .Or (a :: b :: rest) pos)
    (fun env => (ma env).bool.bind fun k e1 => if k = true then .ok (.v (.bl true)) e1 else (mb e1).bool.bind fun k2 e2 => .ok (.v (.bl k2)) e2) := by
  refine pe_by fun σ H Q hq => ⟨_, pe_or ha hb, ?_⟩
  obtain ⟨α, T, env, c, o⟩ := tE_iff.mp hq
  refine tE_bool c o fun k e1 H1 q c1 k1 o1 => ⟨k, rfl, ?_⟩
  cases k with
  | true => exact (show okE X.K X.mg F α T σ H Q (.v (.bl true)) e1 from o1) H1 _ c1 k1 rfl
  | false =>
    rw [if_neg (by decide)] at o1 ⊢
    exact tE_bool c1 (o1.imp (fun _ _ z => z) fun _ _ z => z.later k1) fun k2 e2 H2 q2 c2 k3 o2 => (show okE X.K X.mg F α T σ H Q (.v (.bl k2)) e2 from o2) H2 _ c2 (k1.trans k3 fun _ z => .inl z) rfl
theorem se_one {op} (h : SE X F Wx a ma) : SE X F Wx (.BoolOp op [a] pos) ma := pe_one h
/-- .. as tests -/
abbrev SW (X : Cx) (F : Frm) (Wx : WX) (e : Expr) (m : Env → R Bool) : Prop := PW X e (tT X.K X.mg F Wx m)
theorem pw_by {t' : TT} (h : ∀ σ H Q, t' σ H Q → ∃ t, PW X e t ∧ t σ H Q) : PW X e t' := ⟨fun wh pins s σ H Q I hq => by
  obtain ⟨t, p, q⟩ := h σ H Q hq
  exact p.run wh pins s σ H Q I q⟩
theorem sw_and {m1 m2 : Env → R Bool} {rest : List Expr} (ha : ST X F Wx a m1) (hb : SW X F Wx (.BoolOp .And (b :: rest) pos) m2) : SW X F Wx (.BoolOp .And (a :: b :: rest) pos)
    (fun env => (m1 env).bind fun k e1 => if k = true then m2 e1 else .ok false e1) := by
  refine pw_by fun σ H Q hq => ⟨_, pw_and ha hb, ?_⟩
  obtain ⟨α, T, env, c, o⟩ := tT_iff.mp hq
  refine tT_bind c o fun k e1 H1 q c1 k1 o1 => ?_
  cases k with
  | false => exact (show okT X.K X.mg F α T σ H Q false e1 from o1) H1 c1 k1
  | true =>
    rw [if_pos rfl] at o1 ⊢
    exact tT_iff.mpr ⟨α, T, e1, c1, o1.imp (fun _ _ z => z.later k1) fun _ _ z => z.later k1⟩
theorem sw_or {m1 m2 : Env → R Bool} {rest : List Expr} (ha : ST X F Wx a m1) (hb : SW X F Wx (.BoolOp .Or (b :: rest) pos) m2) : SW X F Wx (.BoolOp .Or (a :: b :: rest) pos)
    (fun env => (m1 env).bind fun k e1 => if k = true then .ok true e1 else m2 e1) := by
  refine pw_by fun σ H Q hq => ⟨_, pw_or ha hb, ?_⟩
  obtain ⟨α, T, env, c, o⟩ := tT_iff.mp hq
  refine tT_bind c o fun k e1 H1 q c1 k1 o1 => ?_
  cases k with
  | true => exact (show okT X.K X.mg F α T σ H Q true e1 from o1) H1 c1 k1
  | false =>
    rw [if_neg (by decide)] at o1 ⊢
    exact tT_iff.mpr ⟨α, T, e1, c1, o1.imp (fun _ _ z => z.later k1) fun _ _ z => z.later k1⟩
theorem sw_one1 {m1 : Env → R Bool} (ha : ST X F Wx a m1) : SW X F Wx (.BoolOp .And [a] pos) m1 := pw_and1 ha
theorem sw_one2 {m1 : Env → R Bool} (ha : ST X F Wx a m1) : SW X F Wx (.BoolOp .Or [a] pos) m1 := pw_or1 ha
theorem se_ite {m : Env → R Bool} (hc : ST X F Wx c m) (ha : SE X F Wx a ma) (hb : SE X F Wx b mb) : SE X F Wx (.IfExp c a b pos) (fun env => (m env).bind fun k e1 => if k = true then ma e1 else mb e1) := by
  refine pe_by fun σ H Q hq => ⟨_, pe_ifExp hc ha hb, ?_⟩
  obtain ⟨α, T, env, cc, o⟩ := tE_iff.mp hq
  refine tT_bind cc o fun k e1 H1 q c1 k1 o1 => ?_
  cases k with
  | true => rw [if_pos rfl] at o1 ⊢; exact tE_iff.mpr ⟨α, T, e1, c1, o1.imp (fun _ _ z => z.later k1) fun _ _ z => z.later k1⟩
  | false => rw [if_neg (by decide)] at o1 ⊢; exact tE_iff.mpr ⟨α, T, e1, c1, o1.imp (fun _ _ z => z.later k1) fun _ _ z => z.later k1⟩
end
end PM

namespace PM
open PySem L2
section
variable {X : Cx} {F : Frm} {Wx : WX} {a b c e : Expr} {pos : Pos} {ma mb mc : Env → R Hd}
/-- a part of the form of what may stand in a row -/
def nS : Expr → Bool
  | .Starred _ _ => false
  | _ => true
theorem star_cons {env : PySem.Env} {e : Expr} {es : List Expr} (h : nS e = true) : starEach (e :: es) env = (false, eval e env) :: starEach es env := by
  cases e <;> first | rfl | (simp [nS] at h)
theorem star_any {env : PySem.Env} {pos : Pos} : ∀ {es : List Expr}, es.all nS = true → (backTo pos (starEach es env)).any (·.1) = false
  | [], _ => rfl
  | e :: es, h => by
    rw [List.all_cons, Bool.and_eq_true] at h
    rw [star_cons h.1]
    show (false || (backTo pos (starEach es env)).any (·.1)) = false
    rw [star_any h.2]; rfl
def bmOk : Expr → Bool
  | .Set _ _ _ => false
  | _ => true
theorem bm_of {op : CmpOp} {b : Expr} (h : bmOk b = true) : behindInMarks op b = false := by
  cases b <;> first | rfl | (simp [bmOk] at h)
def slOk : Expr → Bool
  | .Slice _ _ _ _ => false
  | _ => true
theorem sl_of {b : Expr} (h : slOk b = true) : PlainIx b := by
  intro o i
  cases b <;> first | rfl | (simp [slOk] at h)

theorem later_E {β : Type} {α : Asg} {T : List Addr} {σ : St} {H H1 : Hp} {P : β → Env → Prop} {r : R β} (k : Kp (Ow α) H H1) (o : OutR P (exE X.K X.mg F Wx α T σ H) r) : OutR P (exE X.K X.mg F Wx α T σ H1) r :=
  o.imp (fun _ _ z => z) fun _ _ z => z.later k
theorem kk {α : Asg} {H H1 H2 : Hp} (a : Kp (Ow α) H H1) (b : Kp (Ow α) H1 H2) : Kp (Ow α) H H2 := a.trans b fun _ z => .inl z
theorem k0 {α : Asg} {H H1 H2 : Hp} (a : Kp (Ow α) H H1) (b : Kp (fun _ => False) H1 H2) : Kp (Ow α) H H2 := a.trans b fun _ z => z.elim

/-! ### rows -/
theorem sa_nil : SA X F Wx [] (fun env => .ok [] env) := by
  refine pa_by fun σ H Q h => ⟨_, pa_nil, ?_⟩
  obtain ⟨α, T, env, c, o⟩ := tA_iff.mp h
  exact (show okA X.K X.mg F α T σ H Q [] env from o) H [] c (Kp.refl _ _) rfl
theorem sa_cons {es : List Expr} {ms : Env → R (List Hd)} (hn : nS e = true) (h : SE X F Wx e ma) (hs : SA X F Wx es ms) : SA X F Wx (e :: es) (fun env => (ma env).bind fun x e1 => (ms e1).bind fun xs e2 => .ok (x :: xs) e2) := by
  refine pa_by fun σ H Q hq => ⟨_, pa_cons h hs (star_cons hn), ?_⟩
  obtain ⟨α, T, env, c, o⟩ := tA_iff.mp hq
  refine tE_bind c o fun x e1 H1 v q1 c1 k1 r1 o1 => ?_
  refine tA_bind c1 (later_E k1 o1) fun xs e2 H2 vs q2 c2 k2 r2 o2 => ?_
  exact (show okA X.K X.mg F α T σ H Q (x :: xs) e2 from o2) H2 _ c2 (kk k1 k2) ⟨v, vs, rfl, r1.later k2, r2⟩
theorem repHs_len {K : PySem.W.Frag} {mg : Str → Option Value} {M : AP'} {H : Hp} {α : Asg} : ∀ {hs : List Hd} {vs : List V}, RepHs K mg M H α hs vs → vs.length = hs.length
  | [], _, h => by rw [show _ = [] from h]; rfl
  | _ :: hs, _, ⟨v, r, e, _, h⟩ => by rw [e, List.length_cons, List.length_cons, repHs_len h]
/-- the written length of a row -/
theorem se_tup {es : List Expr} {k : Nat} {ms : Env → R (List Hd)} (h : SA X F Wx es ms) (hl : ∀ env hs e1, ms env = .ok hs e1 → hs.length ≤ 1000000) : SE X F Wx (.Tuple es k pos) (fun env => (ms env).bind fun hs e1 => match pvs hs with | some ws => .ok (.v (.tup ws)) e1 | none => .no) := by
  refine pe_by fun σ H Q hq => ⟨_, pe_tup h, ?_⟩
  obtain ⟨α, T, env, c, o⟩ := tE_iff.mp hq
  refine tA_bind c o fun hs e1 H1 vs q1 c1 k1 r1 o1 => ?_
  cases q2 : pvs hs with
  | none => simp only [q2] at o1; exact o1.elim
  | some ws =>
    simp only [q2] at o1
    refine ⟨by rw [repHs_len r1]; exact Nat.le_of_lt (sz6 (hl _ _ _ q1)), fun p hp => ?_⟩
    exact (show okE X.K X.mg F α T σ H Q (.v (.tup ws)) e1 from o1) _ _ (c1.ext (Kp.new _ hp)) (k0 k1 (Kp.new _ hp)) (rep_newT hp (r1.vals q2))
theorem own_newL {K : PySem.W.Frag} {mg : Str → Option Value} {M M' : AP'} {H : Hp} {ws : List W} {vs : List V} {p : Addr} (h : H p = none) (r : RepL K mg M H ws vs) (n : ∀ x, M' x → M x ∨ x = p) : OwnAt K mg M' (upd H p (.lst vs)) p (.lst ws) :=
  ⟨vs, upd_same, r.kp (Kp.new (fun _ => False) h) (fun _ z => z.elim) fun x z => (n x z).imp id fun e => by rw [e]; exact h⟩
theorem mm_cons {α : Asg} {T : List Addr} {p x : Addr} (h : MM F α (p :: T) x) : MM F α T x ∨ x = p := by
  rcases h with h | h | h
  · exact .inl (.inl h)
  · exact .inl (.inr (.inl h))
  · rcases List.mem_cons.mp h with e | h
    · exact .inr e
    · exact .inl (.inr (.inr h))
theorem sf_lst {es : List Expr} {ms : Env → R (List Hd)} (h : SA X F Wx es ms) (hl : ∀ env hs e1, ms env = .ok hs e1 → hs.length ≤ 1000000) : SF X F Wx (.List es pos) (fun env => (ms env).bind fun hs e1 => match pvs hs with | some ws => .ok (.lst ws) e1 | none => .no) := by
  refine pe_by fun σ H Q hq => ⟨_, pe_lst h, ?_⟩
  obtain ⟨α, T, env, c, o⟩ := tF_iff.mp hq
  refine tA_bind c o fun hs e1 H1 vs q1 c1 k1 r1 o1 => ?_
  cases q2 : pvs hs with
  | none => simp only [q2] at o1; exact o1.elim
  | some ws =>
    simp only [q2] at o1
    refine ⟨by rw [repHs_len r1]; exact Nat.le_of_lt (sz6 (hl _ _ _ q1)), fun p hp => ?_⟩
    exact (show okF X.K X.mg F α T σ H Q (.lst ws) e1 from o1) _ p (kp_none k1 hp) (c1.apart (Kp.new _ hp) hp (by rw [upd_same]; exact fun z => nomatch z)) (k0 k1 (Kp.new _ hp)) (own_newL hp (r1.vals q2) fun x z => mm_cons z)
/-- a new thing as a value -/
theorem tF_lk {m : Env → R W} {σ : St} {H : Hp} {Q : VK} (hq : tE X.K X.mg F Wx (fun env => (m env).hd) σ H Q) : tF X.K X.mg F Wx m σ H (LkQ Q) := by
  obtain ⟨α, T, env, c, o⟩ := tE_iff.mp hq
  refine tF_iff.mpr ⟨α, T, env, c, ?_⟩
  refine (OutR.hd o).imp (fun w e1 o1 H' p hp c1 k1 r1 => ?_) fun _ _ z => z
  exact lk_own c1 (c.h0 hp) (c.notin hp) r1 fun H2 c2 k2 r2 => o1 H2 _ c2 (k1.trans k2 fun x z => .inr (by rw [z]; exact hp)) r2
theorem se_frz {m : Env → R W} (h : SF X F Wx e m) : SE X F Wx e (fun env => (m env).hd) := pe_by fun σ H Q hq => ⟨_, pe_lk h, tF_lk hq⟩

/-! ### chains -/
def chainE (ma mb mc : Env → R Hd) (o1 o2 : CmpOp) : Env → R Hd := fun env => (ma env).bind fun x e1 => (mb e1).bind fun y e2 => match rd e2 x, pv1 y with
    | some u, some v => match cmpW o1 u v with
      | some true => (mc e2).bind fun z e3 => match rd e3 z with
        | some w => (R.opt (cmpW o2 v w) e3).bind fun k e4 => .ok (.v (.bl k)) e4
        | none => .no
      | some false => .ok (.v (.bl false)) e2
      | none => .no
    | _, _ => .no
theorem pv1_rd {y : Hd} {v : W} {env : Env} (h : pv1 y = some v) : rd env y = some v ∧ y = .v v := by
  cases y with
  | v w => cases h; exact ⟨rfl, rfl⟩
  | s i => cases h
theorem chain_key {o1 o2 : CmpOp} (hu : X.A.units + 70 < cLine) {σ : St} {H : Hp} {Q : VK} (h : tE X.K X.mg F Wx (chainE ma mb mc o1 o2) σ H Q) :
    ∃ r r', OpR X (compareOp o1) r ∧ OpR X (compareOp o2) r' ∧ tChain r r' (tE X.K X.mg F Wx ma) (tE X.K X.mg F Wx mb) (tE X.K X.mg F Wx mc) σ H Q := by
  obtain ⟨α, T, env, c, o⟩ := tE_iff.mp h
  have bad : (∀ x y e1 e2, ma env = .ok x e1 → mb e1 = .ok y e2 → False) → ∃ r r', OpR X (compareOp o1) r ∧ OpR X (compareOp o2) r' ∧ tChain r r' (tE X.K X.mg F Wx ma) (tE X.K X.mg F Wx mb) (tE X.K X.mg F Wx mc) σ H Q := fun hno => ⟨_, _, opr_false, opr_false, by
    refine tE_bind c o fun x e1 H1 v q1 c1 k1 r1 o1 => ?_
    exact tE_bind c1 (later_E k1 o1) fun y e2 H2 v2 q2 _ _ _ _ => (hno x y e1 e2 q1 q2).elim⟩
  cases q1 : ma env with
  | no => exact bad fun x y e1 e2 h1 _ => by rw [q1] at h1; cases h1
  | exc x e1 => exact bad fun x y e1 e2 h1 _ => by rw [q1] at h1; cases h1
  | ok x e1 =>
    cases q2 : mb e1 with
    | no => exact bad fun x y e1 e2 h1 h2 => by rw [q1] at h1; cases h1; rw [q2] at h2; cases h2
    | exc x e1 => exact bad fun x y e1 e2 h1 h2 => by rw [q1] at h1; cases h1; rw [q2] at h2; cases h2
    | ok y e2 =>
      have o' := o
      simp only [chainE, q1, q2, R.bind_ok] at o'
      cases q3 : rd e2 x with
      | none => rw [q3] at o'; exact o'.elim
      | some u =>
        cases q4 : pv1 y with
        | none => rw [q3, q4] at o'; exact o'.elim
        | some v =>
          rw [q3, q4] at o'
          simp only at o'
          obtain ⟨p4, ey⟩ := pv1_rd (env := e2) q4
          cases q5 : cmpW o1 u v with
          | none => rw [q5] at o'; exact o'.elim
          | some k =>
            rw [q5] at o'
            obtain ⟨r, hr, hs⟩ := cmpSem hu q5
            -- the walk to the first comparison
            have walk : ∀ {r'}, OpR X (compareOp o2) r' → (∀ H2 vx vy, Cfg X.K X.mg F α T e2 σ H2 → Kp (Ow α) H H2 → RepH X.K X.mg (MM F α T) H2 α x vx → Rep X.K X.mg (MM F α T) H2 v vy → (if k = true then tE X.K X.mg F Wx mc σ H2 (fun w' H4 => r' vy w' H4 Q) else Q (.bl false) H2)) →
                ∃ r r', OpR X (compareOp o1) r ∧ OpR X (compareOp o2) r' ∧ tChain r r' (tE X.K X.mg F Wx ma) (tE X.K X.mg F Wx mb) (tE X.K X.mg F Wx mc) σ H Q := fun {r'} hr' hk => ⟨r, r', hr, hr', by
              refine tE_bind c o fun x' e1' H1 vx q1' c1 k1 r1 oo => ?_
              rw [q1] at q1'; cases q1'
              refine tE_bind c1 (later_E k1 oo) fun y' e2' H2 vy q2' c2 k2 r2 o2' => ?_
              rw [q2] at q2'; cases q2'
              subst ey
              refine hs (MM F α T) H2 vx vy _ (c2.read (r1.later k2) q3) (.inl r2) ?_
              exact ⟨k, rfl, hk H2 vx vy c2 (kk k1 k2) (r1.later k2) r2⟩⟩
            cases k with
            | false =>
              refine walk opr_false fun H2 vx vy c2 k2 r1 r2 => ?_
              rw [if_neg (by decide)]
              exact (show okE X.K X.mg F α T σ H Q (.v (.bl false)) e2 from o') H2 _ c2 k2 rfl
            | true =>
              cases q6 : mc e2 with
              | no => rw [q6] at o'; exact o'.elim
              | exc z e3 =>
                refine walk opr_false fun H2 vx vy c2 k2 r1 r2 => ?_
                rw [if_pos rfl]
                refine tE_iff.mpr ⟨α, T, e2, c2, ?_⟩
                rw [q6] at o' ⊢
                exact (show exE X.K X.mg F Wx α T σ H z e3 from o').later k2
              | ok z e3 =>
                rw [q6] at o'
                simp only [R.bind_ok] at o'
                cases q7 : rd e3 z with
                | none => rw [q7] at o'; exact o'.elim
                | some w =>
                  rw [q7] at o'
                  simp only at o'
                  cases q8 : cmpW o2 v w with
                  | none => rw [q8] at o'; exact o'.elim
                  | some k' =>
                    rw [q8] at o'
                    obtain ⟨r', hr', hs'⟩ := cmpSem hu q8
                    refine walk hr' fun H2 vx vy c2 k2 r1 r2 => ?_
                    · rw [if_pos rfl]
                      refine tE_iff.mpr ⟨α, T, e2, c2, ?_⟩
                      rw [q6]
                      intro H3 vz c3 k3 r3
                      exact hs' (MM F α T) H3 vy vz Q (.inl (Rep.kp k3 (fun x z => .inl (own_mm z)) (fun _ z => .inl z) _ _ r2)) (c3.read r3 q7) ((show okE X.K X.mg F α T σ H Q (.v (.bl k')) e3 from o') H3 _ c3 (kk k2 k3) rfl)
theorem lm_of {o1 o2 : CmpOp} {b c : Expr} (h : bmOk c = true) : lastMarks [o1, o2] [b, c] = false := bm_of h
theorem se_chain {o1 o2 : CmpOp} (hu : X.A.units + 70 < cLine) (hb' : bmOk c = true) (ha : SE X F Wx a ma) (hb : SE X F Wx b mb) (hc : SE X F Wx c mc) : SE X F Wx (.Compare a [o1, o2] [b, c] pos) (chainE ma mb mc o1 o2) := by
  refine pe_by fun σ H Q hq => ?_
  obtain ⟨r, r', h1, h2, h3⟩ := chain_key hu hq
  exact ⟨_, pe_chain h1 h2 ha hb hc (lm_of hb'), h3⟩
theorem st_chain {o1 o2 : CmpOp} (hu : X.A.units + 70 < cLine) (hb' : bmOk c = true) (ha : SE X F Wx a ma) (hb : SE X F Wx b mb) (hc : SE X F Wx c mc) : ST X F Wx (.Compare a [o1, o2] [b, c] pos) (fun env => (chainE ma mb mc o1 o2 env).bool) := by
  refine pt_by fun σ H Q hq => ?_
  obtain ⟨r, r', h1, h2, h3⟩ := chain_key hu (tB_of hq)
  exact ⟨_, pt_chain h1 h2 ha hb hc (lm_of hb'), h3⟩

/-! ### subscripts -/
theorem ixW_at {α : Type} {xs : List α} {i : Int} {j : Nat} {x : α} (h : ixW xs.length i = some j) (hx : xs[j]? = some x) : atI xs i = some x := by
  show (ixN xs.length i).bind (fun j => xs[j]?) = some x
  rw [show ixN xs.length i = some j from h]; exact hx
theorem sub_sem {u v w : W} (h : subW u v = some w) (hd : ∀ ks ws, u ≠ .dic ks ws) : Sem2 X (fun r => IxR X r) u v w := by
  unfold subW at h
  split at h
  · split at h
    · rename_i q
      refine ⟨_, ix_tup, fun M H x y Q tr rx ry k => ?_⟩
      obtain ⟨a, vs, rfl, h1, h2⟩ := repB_tup rx
      obtain ⟨z, e, r⟩ := h2.get h
      refine ⟨a, vs, _, z, rfl, repB_int ry, h1, ixW_at (by rw [h2.len]; exact q) e, k H z (Kp.refl _ _) r⟩
    · cases h
  · split at h
    · rename_i q
      refine ⟨_, ix_list, fun M H x y Q tr rx ry k => ?_⟩
      obtain ⟨a, vs, rfl, h1, h2⟩ := repB_lst rx
      obtain ⟨z, e, r⟩ := h2.get h
      refine ⟨a, vs, _, z, rfl, repB_int ry, .inl (.inl h1), ixW_at (by rw [h2.len]; exact q) e, k H z (Kp.refl _ _) r⟩
    · cases h
  · split at h
    · rename_i q
      refine ⟨_, ix_list, fun M H x y Q tr rx ry k => ?_⟩
      obtain ⟨a, vs, rfl, h1, h2⟩ := repB_rol rx
      obtain ⟨z, e, r⟩ := h2.get h
      refine ⟨a, vs, _, z, rfl, repB_int ry, h1.sq, ixW_at (by rw [h2.len]; exact q) e, k H z (Kp.refl _ _) r⟩
    · cases h
  · exact (hd _ _ rfl).elim
  · cases h
end
end PM

namespace PMX
open PySem PySem.Spec PyProof.Rows L2
/-- room, nothing under way; hot: an exception may be handled -/
structure RoomG (hot : Bool) (k : Nat) (A : Around) : Prop where
  hd : hot = false → A.handled = none
  gd : A.guards = some []
  dp : A.depth + 3 * k + 5 < recursionLimit
  un : A.units + 16 * k + 200 < cLine
variable {hot : Bool}
theorem RoomG.mono {j k : Nat} {A : Around} (r : RoomG hot k A) (h : j ≤ k) : RoomG hot j A := ⟨r.hd, r.gd, by have := r.dp; omega, by have := r.un; omega⟩
theorem RoomG.deeper {k : Nat} {A : Around} (r : RoomG hot (k + 1) A) (env : Env) : RoomG hot k (A.deeper env) :=
  ⟨r.hd, r.gd, by have := r.dp; show A.depth + 1 + 3 * k + 5 < _; omega, by have := r.un; show A.units + 3 + 16 * k + 200 < _; omega⟩
theorem RoomG.in1 {k : Nat} {A : Around} (r : RoomG hot (k + 1) A) : RoomG hot k A.in1 :=
  ⟨r.hd, r.gd, by have := r.dp; show A.depth + 3 * k + 5 < _; omega, by have := r.un; show A.units + 1 + 16 * k + 200 < _; omega⟩
theorem make_gd {A : Around} {C : Addr} {us : List Value} {kw : List (Str × Value)} (h : A.guards = some []) : (A.under (.builtin "type.__call__" ⟨.ref C :: us, kw⟩)).guards = some [] := by
  have e : (Code.builtin "type.__call__" ⟨.ref C :: us, kw⟩).guards = [] := by
    first
      | rfl
      | simp [Code.guards, Code.isGuard, guardIds]
  unfold Around.under
  simp only [e, h]
  rfl
theorem RoomG.make {k : Nat} {A : Around} (r : RoomG hot (k + 1) A) (C : Addr) (us : List Value) (kw : List (Str × Value)) : RoomG hot k (A.under (.builtin "type.__call__" ⟨.ref C :: us, kw⟩)) :=
  ⟨r.hd, make_gd r.gd, by have := r.dp; rw [make_depth]; omega, by have := r.un; rw [make_units]; omega⟩
theorem RoomG.depth {k : Nat} {A : Around} (r : RoomG hot k A) : A.depth < recursionLimit := by have := r.dp; omega
theorem RoomG.units0 {k : Nat} {A : Around} (r : RoomG hot k A) : A.units < cLine := by have := r.un; omega
theorem RoomG.heat {k : Nat} {A : Around} (r : RoomG false k A) (a : Addr) : RoomG true k (A.mark (some (.ref a))) := ⟨(fun z => nomatch z), r.gd, r.dp, r.un⟩

/-- a def's promise there -/
structure FnG (P : Program) (w : World) (K : PySem.W.Frag) (mg : Str → Option Value) (base : Heap) (hot : Bool) (k : Nat) (f : Addr) (fd : FuncData) (ps : List Str) (sp : Sp) : Prop where
  len : ∀ vs H Q E, sp vs H Q E → vs.length = ps.length
  run : ∀ (A : Around) (outer : List Env) (s : Shared) (H : Hp) (args : Args) (us : List Value) (vs : List V) (Q : VK) (E : XK), RoomG hot k A → Env0 P w K mg base A outer s H → BindsTo s fd args (ps.zip us) → Vals vs us → sp vs H Q E →
    codeAny (model P w) A (.call (.ref f) args) (CR (L2.CX P w) outer P w H s Q E) s
section
variable {P : Program} {w : World} {K : PySem.W.Frag} {mg : Str → Option Value} {base : Heap} {k : Nat} {f : Addr} {fd : FuncData} {ps : List Str} {sp : Sp}
theorem FnG.imp {sp' : Sp} (F : FnG P w K mg base hot k f fd ps sp) (h : ∀ vs H Q E, sp' vs H Q E → sp vs H Q E) : FnG P w K mg base hot k f fd ps sp' :=
  ⟨fun vs H Q E z => F.len vs H Q E (h _ _ _ _ z), fun A outer s H args us vs Q E r e b v z => F.run A outer s H args us vs Q E r e b v (h _ _ _ _ z)⟩
end
/-- the context of a def's body -/
abbrev cxG (hot : Bool) (P : Program) (w : World) (K : PySem.W.Frag) (mg : Str → Option Value) (base : Heap) (N : List Str) (qual : Str) (scope : Scope) (f : Addr) (cd : Value) (A : Around) (outer : List Env) (s : Shared) (H : Hp) (E : XK) : Cx :=
  { cxOf (L2.CX P w) P w K mg base N qual scope f cd A outer s H E with calm := !hot }
theorem inv_startG {P : Program} {w : World} {K : PySem.W.Frag} {mg : Str → Option Value} {base : Heap} {N ps : List Str} {qual : Str} {scope : Scope} {f : Addr} {cd : Value} {A : Around} {outer : List Env} {s s1 : Shared} {H : Hp} {E : XK} {us : List Value} {vs : List V}
    (S : FnScope N ps scope) (hd : hot = false → A.handled = none) (e0 : Env0 P w K mg base A outer s H) (hl : vs.length = ps.length) (r : Vals vs us)
    (x : InCallC s s.heap.objs.size (bindL (envOfC qual scope s.heap.objs.size f cd).kindOf (ps.zip us) fun _ => none) (cellsFrom (s.heap.objs.size + 1) scope.names []) (bindC (envOfC qual scope s.heap.objs.size f cd).kindOf (ps.zip us) fun _ => none) s1) :
    Inv (cxG hot P w K mg base N qual scope f cd A outer s H E) [] (L2.start N vs) H s1 := by
  let A0 : Around := { A with handled := none }
  have e1 : Env0 P w K mg base A0 outer s H := ⟨e0.frames, e0.mod, e0.bs, e0.bsz, e0.funs, e0.frf, e0.hok, e0.bare⟩
  have J : Inv (cxOf (L2.CX P w) P w K mg base N qual scope f cd A0 outer s H E) [] (L2.start N vs) H s1 := inv_start S rfl e1 hl r x
  have O := J.ok
  exact ⟨⟨O.mod, O.kind, O.glob, O.blt, O.above, O.inj, O.has, O.cab, fun z => hd (by cases hot with | false => rfl | true => cases z), O.frames, O.stk, O.exf, O.bs, O.bsz, O.noex, O.exfs, O.funs, O.frf⟩,
    J.os, J.bare, J.base, J.loc, J.cell, J.free, J.freeC, J.pin, J.hok, J.len⟩
/-- a def by its body -/
theorem fn_ofG {P : Program} {w : World} {K : PySem.W.Frag} {mg : Str → Option Value} {base : Heap} {k : Nat} {f : Addr} {name qual : Str} {params : Arguments} {body : List Stmt} {scope : Scope} {dV kV doc pm cdv ct oc : Value} {an od : Option Addr}
    {osl : Array (Option Value)} {N ps : List Str} {sp : Sp} (lk : K.lookup f = some ⟨oc, od, .func (PySem.W.fnOf name qual params body scope dV kV doc pm an cdv ct), osl⟩) (hcd : PySem.W.codeIn K cdv qual = true) (S : FnScope N ps scope)
    (len : ∀ vs H Q E, sp vs H Q E → vs.length = ps.length)
    (bd : ∀ (A : Around) (outer : List Env) (s : Shared) (H : Hp) (vs : List V) (Q : VK) (E : XK), RoomG hot k (A.deeper (envOfC qual scope s.heap.objs.size f cdv)) → sp vs H Q E →
      ∃ t, PSs (cxG hot P w K mg base N qual scope f cdv A outer s H E) body t ∧ t { nx := fun _ H' => Q .non H', rt := Q } (L2.start N vs) H) :
    FnG P w K mg base hot (k + 1) f (PySem.W.fnOf name qual params body scope dV kV doc pm an cdv ct) ps sp := by
  refine ⟨len, fun A outer s H args us vs Q E hr e0 hb r z => ?_⟩
  have hl := len _ _ _ _ z
  have KX : K.In s.heap := e0.mod.kin.keeps fun b o e => (e0.bs b o e).1
  have lim : s.heap.NoLimit := e0.mod.nolimit.keeps fun b o e => (e0.bs b o e).1
  have kinds : ∀ y ∈ ps.zip us, scope.names.lookup y.1 = some .local ∨ (scope.names.lookup y.1 = some .cell ∧ ((cellsFrom (s.heap.objs.size + 1) scope.names []).lookup y.1).isSome = true) := fun ⟨n, v⟩ hy =>
    (S.par n (List.of_mem_zip hy).1).imp id fun q => ⟨q, PySem.W.cellsFrom_some _ _ _ (.inl q)⟩
  refine codeAny_call_function hr.depth (KX _ _ lk) rfl S.co S.gen rfl (PySem.W.codeRec_of KX hcd) (hb _ _ _ _ ?_)
  refine wpAny_newFunctionEnv_cells S.kind kinds fun env he s1 x => ?_
  subst he
  refine ⟨lim.keeps x.toInCall.keep, codeAny_func ?_⟩
  obtain ⟨t, ht, hq⟩ := bd A outer s H vs Q E (hr.deeper _) z
  have I : Inv (cxG hot P w K mg base N qual scope f cdv A outer s H E) [] (L2.start N vs) H s1 := inv_startG S hr.hd e0 hl r x
  refine wpAny_mono (ht.run [] s1 (L2.start N vs) H _ I hq) (fun fl s' hs => ?_) fun e s' hs => hs
  have fin : ∀ {σ' : L2.St} {H' : Hp} {v : V} {u : Value}, Inv (cxG hot P w K mg base N qual scope f cdv A outer s H E) [] σ' H' s' → RelV v u → Q v H' → CE outer P w H s Q u s' :=
    fun {σ' H' v u} J rv q => ⟨v, H', J.os, J.bare, J.base, J.hok, rv, q⟩
  cases fl with
  | next =>
    obtain ⟨σ', H', J, q⟩ := hs
    exact fin (v := V.non) (u := Value.none) J rfl q
  | ret u =>
    obtain ⟨v, σ', H', J, rv, q⟩ := hs
    exact fin J rv q
  | brk => exact hs.elim fun _ z => z.elim fun _ z => z.2.elim
  | cont => exact hs.elim fun _ z => z.elim fun _ z => z.2.elim
/-! ### a property -/
section
variable {X : Cx} {k : Nat} {C p g a dx : Addr} {fs : List (Str × V)} {f : Str} {fd : FuncData} {ps : List Str} {sp : Sp} {e : Expr} {pos : Pos} {ta : TE}
theorem getpropG {pins : List (Addr × Obj)} {σ : L2.St} {H : Hp} {s : Shared} {Q : VK} {b : Bool} {E' : Value → Shared → Prop} (I : Inv X pins σ H s) (ea : H a = some (.ins C dx fs)) (c : Cls X.K C) (hp : PropOf X.K C f p g)
    (F : FnG X.prog X.w X.K X.mg X.base hot k g fd ps sp) (hr : RoomG hot (k + 1) X.A) (hb : Binds X.K fd ps []) (z : sp [.ref a] H Q fun _ _ _ => False) : wpAny (model X.prog X.w) X.A (getAttr (.ref a) f b) (EP X pins σ Q) E' s := by
  obtain ⟨mA, O, _, _, _, _⟩ := ins_get I.hok ea
  obtain ⟨od, J, _⟩ := O.look
  obtain ⟨rest, hrec⟩ := hp.rec_
  have I1 := I.tok (s.toks + 1)
  have hl : ([Value.ref a] ++ ([] : List Value)).length = ps.length := (F.len _ _ _ _ z)
  have hc : (PySem.W.clsIn X.K C).isSome = true := by
    obtain ⟨cd, hc, _⟩ := PySem.W.any_some c.hd
    rw [hc]
    rfl
  refine PySem.W.get_bind I.kIn J (PySem.W.plainGet_of (c.get f)).1 (PySem.W.findObj_data hc hp.at_ hp.get hp.tak) (PySem.W.plainGet_of (c.get f)).2 (wpAny_call (PySem.W.prop_get (s := { s with toks := s.toks + 1 }) I.kIn hrec ?_))
  refine codeAny_mono (F.run X.A.in1 X.stack { s with toks := s.toks + 1 } H ⟨[.ref a], []⟩ [.ref a] [.ref a] Q _ hr.in1 I1.env0.in1 (hb _ [.ref a] I1.kIn hl) (.cons rfl .nil) z) fun r s' hq => ?_
  match r, hq with
  | .error _, ⟨_, _, _, _, _, _, _, _, _, _, _, _, y⟩ => exact y.elim
  | .ok .next, y => exact False.elim y
  | .ok .brk, y => exact False.elim y
  | .ok .cont, y => exact False.elim y
  | .ok (.ret u), y =>
    obtain ⟨v, H', I3, rv, q3⟩ := I1.after y
    show wpAny _ _ (handedOut u) _ _ _
    rw [PySem.W.handedOut_of (handed_of rv)]
    exact wpAny_pure ⟨v, H', I3, rv, q3⟩
/-- e.f -/
theorem pe_propG (he : PE X e ta) (c : Cls X.K C) (hp : PropOf X.K C f p g) (F : FnG X.prog X.w X.K X.mg X.base hot k g fd ps sp) (hr : RoomG hot (k + 1) X.A) (hb : Binds X.K fd ps [])
    (hab : attributeBase e f X.env (eval e X.env) = eval e X.env) : PE X (.Attribute e f pos) (tProp C sp [] (fun _ _ _ => False) ta) := by
  refine ⟨fun pins s σ H Q I h => ?_⟩
  refine attr_of hab (thn (he.run pins s σ H _ I h) fun u s1 ⟨x, H1, I1, rx, a, dx, fs, ex, ea, q⟩ => ?_)
  subst ex
  obtain rfl : u = Value.ref a := rx
  exact getpropG I1 ea c hp F hr hb q
end
/-! ### the head -/
theorem law_callG {P : Program} {w : World} {K : PySem.W.Frag} {mg mb : Str → Option Value} {k : Nat} {fa a : Addr} {fd : FuncData} {x : Str} {sp : Sp} {s1 : Shared} {vs : List Value} {ns : List Int}
    (KX : K.In s1.heap) (hns : s1.heap.Ns mainGlobals mg) (hb : s1.heap.Ns builtinsNs mb) (hbb : ∀ x : Str, x ≠ "__name__" → mb x = bootBuiltins x) (hlim : s1.heap.NoLimit) (hg : s1.gens = #[])
    (ha : s1.heap.get? a = some { cls := .type "list", data := .seq vs.toArray }) (hi : IntsAre vs ns) (hl : ns.length ≤ sizeLine) (hr : RoomG false k callerA)
    (F : ∀ base : Heap, K.In base → base.Ns mainGlobals mg → FnG P w K mg base false k fa fd [x] sp) (hbind : ∀ (s : Shared) (u : Value), BindsTo s fd ⟨[u], []⟩ [(x, u)])
    (hsp : ∀ H : Hp, Only H → SqL K H a (ns.map V.int) → sp [.ref a] H (fun v _ => v = .bl true) fun _ _ _ => False) :
    codeAny (model P w) callerA (.call (.ref fa) ⟨[.ref a], []⟩) (fun r s' => r = .ok (.ret (.bool true)) ∧ OldK s1.heap s'.heap ∧ s'.os = s1.os ∧ AllBare s'.gens) s1 := by
  have rv := vals_ints hi
  have lv := hi.length
  have main : ∀ H : Hp, Only H → SqL K H a (ns.map V.int) → HOk P w H s1.heap → (∀ b, H b ≠ none → b = a) → (H a ≠ none → K.lookup a = none) →
      codeAny (model P w) callerA (.call (.ref fa) ⟨[.ref a], []⟩) (fun r s' => r = .ok (.ret (.bool true)) ∧ OldK s1.heap s'.heap ∧ s'.os = s1.os ∧ AllBare s'.gens) s1 := by
    intro H hO hS hok hA hK
    have only : ∀ {b : Addr} {u : HO}, H b = some u → b = a := fun {b u} q => hA b (by rw [q]; simp)
    have bs : ∀ {b : Addr} {o : Obj}, s1.heap.get? b = some o → H b = none → (hidT s1.heap H).get? b = some o := fun e n => hidT_get e n
    have noA : ∀ {b : Addr} {o : Obj} {es : Array DictEntry} {ep : Nat}, s1.heap.get? b = some o → o.data = .dict es ep → H b = none := fun {b o es ep} e d => by
      cases q : H b with
      | none => rfl
      | some u =>
        obtain rfl := only q
        rw [ha] at e; cases e
        exact nomatch (show Data.seq vs.toArray _ = Data.dict es ep from d)
    have nk : ∀ {b : Addr} {m : Str → Option Value}, s1.heap.Ns b m → (hidT s1.heap H).Ns b m := fun {b m} ⟨o, es, ep, e, d, r⟩ => ⟨o, es, ep, bs e (noA e d), d, r⟩
    have hKb : K.In (hidT s1.heap H) := fun b o e => bs (KX b o e) (by
      cases q : H b with
      | none => rfl
      | some u =>
        obtain rfl := only q
        rw [hK (by rw [q]; simp)] at e; cases e)
    have hM : Mod K mg (hidT s1.heap H) := ⟨hKb, nk hns, ⟨mb, nk hb, hbb⟩, let ⟨mc, h1, h2⟩ := hlim; ⟨mc, nk h1, h2⟩⟩
    have e0 : Env0 P w K mg (hidT s1.heap H) callerA [] s1 H := ⟨rfl, hM, fun b o e => of_hidT e, Nat.le_of_eq (hidT_size _ _), trivial, fun b hb => absurd (show b ∈ ([] : List Addr) from hb) (by simp), hok, .of_eq hg⟩
    refine codeAny_mono ((F _ hKb (nk hns)).run callerA [] s1 H ⟨[.ref a], []⟩ [.ref a] [.ref a] _ _ hr e0 (hbind s1 (.ref a)) (.cons rfl .nil) (hsp H hO hS)) fun r s' h => ?_
    match r, h with
    | .error _, ⟨_, _, _, _, _, _, _, _, _, _, _, _, z⟩ => exact z.elim
    | .ok .next, z => exact False.elim z
    | .ok .brk, z => exact False.elim z
    | .ok .cont, z => exact False.elim z
    | .ok (.ret u), z =>
      obtain ⟨v, H', os, bare, un, hok', r', q⟩ := z
      obtain rfl : v = .bl true := q
      obtain rfl : u = Value.bool true := r'
      refine ⟨rfl, OldK.of_keep fun b o e => ?_, os, bare⟩
      cases q : H b with
      | none => exact un.keep b o e q (fun z => absurd (show b ∈ ([] : List Addr) from z) (by simp)) (by simp)
      | some u =>
        rcases hO b with z | ⟨ob, xs, z⟩
        · rw [q] at z; cases z
        · obtain ⟨e1, _⟩ := hok b _ z
          obtain ⟨e2, _⟩ := hok' b _ (un.frzs b ob _ z)
          rw [e] at e1; cases e1
          exact e2
  cases hk : K.lookup a with
  | some o =>
    have e := KX a o hk
    rw [ha] at e
    cases e
    refine main (fun _ => none) (fun _ => .inl rfl) (.inr ⟨_, vs.toArray, _, hk, rfl, rfl, rfl, by rw [List.size_toArray, lv]; exact hl, by simpa using rv⟩) (fun b u z => nomatch (show (none : Option HO) = some u from z)) (fun b z => absurd rfl z) fun z => absurd rfl z
  | none =>
    have yes : ∀ {b : Addr}, b = a → (if b = a then some (HO.frz { cls := .type "list", data := .seq vs.toArray } (.lst (ns.map V.int))) else none) = some (HO.frz { cls := .type "list", data := .seq vs.toArray } (.lst (ns.map V.int))) := fun h => if_pos h
    have no : ∀ {b : Addr}, b ≠ a → (if b = a then some (HO.frz { cls := .type "list", data := .seq vs.toArray } (.lst (ns.map V.int))) else none) = none := fun h => if_neg h
    refine main (fun b => if b = a then some (.frz { cls := .type "list", data := .seq vs.toArray } (.lst (ns.map V.int))) else none) (fun b => ?_) (.inl (.inr ⟨{ cls := .type "list", data := .seq vs.toArray }, yes rfl⟩)) (fun b u z => ?_) (fun b z => ?_) fun _ => hk
    · by_cases hb : b = a
      · exact .inr ⟨_, _, yes hb⟩
      · exact .inl (no hb)
    · by_cases hb : b = a
      · have z' := (yes hb).symm.trans z
        cases z'
        subst hb
        exact ⟨ha, by rw [List.length_map]; exact hl, vs, _, rv, ha⟩
      · exact nomatch (no hb).symm.trans z
    · by_cases hb : b = a
      · exact hb
      · exact absurd (no hb) z
theorem walk_ofG {l : PySem.W.OpenLaw} {n k : Nat} {q : Program} {loose : List Str} {XP : (Str → Option Value) → Heap → Prop} {YP : World → Heap → Prop} {d : DefRec} {K : Params → PySem.W.Frag} {sp : World → Sp} {x : Str}
    (hn : l.most = some n) (hn2 : n ≤ sizeLine) (hdf : d.params.defaults = []) (hr : RoomG false k callerA)
    (hY : ∀ (w : World) (h : Heap), YP w h → (K w.params).In h)
    (F : ∀ (w : World) (mg : Str → Option Value) (fa : Addr) (h : Heap), (K w.params).In h → h.Ns mainGlobals mg → mg d.name = some (.ref fa) →
      ∃ fd : FuncData, (∀ (s : Shared) (u : Value), BindsTo s fd ⟨[u], []⟩ [(x, u)]) ∧ ∀ base : Heap, (K w.params).In base → base.Ns mainGlobals mg → FnG l.prog w (K w.params) mg base false k fa fd [x] (sp w))
    (hsp : ∀ (w : World) (H : Hp) (a : Addr) (ns : List Int), ns.length ≤ n → Only H → SqL (K w.params) H a (ns.map V.int) → sp w [.ref a] H (fun v _ => v = .bl true) fun _ _ _ => False) :
    PySem.W.WalkO q loose XP YP l.row.toRowW d [] (fun f vs => PySem.call f vs) := by
  refine Att.attach_call hn hdf fun w s0 s1 mg mb fa o pm cd doc a vs ns G Y ho hd hcd hmg hobj hints hlen hg => ?_
  have KX := hY w _ Y
  obtain ⟨fd, hb, hF⟩ := F w mg fa _ KX G.T.g hmg
  exact law_callG KX G.T.g G.T.b G.T.builtins G.T.nolimit hg hobj hints (Nat.le_trans hlen hn2) hr hF hb fun H hO hS => hsp w H a ns hlen hO hS
end PMX

namespace PM
open PySem L2
section
variable (K : PySem.W.Frag) (mg : Str → Option Value)
def ArsOk (M : AP') (H : Hp) : List Ar → List (Option Addr) → List V → Prop
  | [], [], [] => True
  | .val w :: r, none :: as, v :: vs => Rep K mg M H w v ∧ ArsOk M H r as vs
  | .own w :: r, some a :: as, v :: vs => v = .ref a ∧ OwnAt K mg M H a w ∧ ArsOk M H r as vs
  | _, _, _ => False
def BacksOk (M : AP') (H : Hp) : List (Option Addr) → List W → Prop
  | [], [] => True
  | none :: as, bs => BacksOk M H as bs
  | some a :: as, b :: bs => OwnAt K mg M H a b ∧ BacksOk M H as bs
  | _, _ => False
/-- what a call gives: a value, or a new thing -/
def RetOk (M : AP') (H H' : Hp) (fr : Bool) (w : W) (v : V) : Prop :=
  if fr = true then ∃ p, v = .ref p ∧ H p = none ∧ OwnAt K mg (fun x => M x ∨ x = p) H' p w else Rep K mg M H' w v
/-- what is asked of a call's run -/
def CallQ (M : AP') (ad : List (Option Addr)) (H : Hp) (Q : VK) (E : XK) : CRs → Prop
  | .ok fr w bs => ∀ H' v, Kp (Ow ad) H H' → BacksOk K mg (fun x => M x ∨ (fr = true ∧ v = .ref x)) H' ad bs → RetOk K mg M H H' fr w v → Q v H'
  | .exc x bs => ∀ H' cls d, Kp (Ow ad) H H' → BacksOk K mg M H' ad bs → RepX K mg M x cls d H' → E cls d H'
  | .no => False
/-- the promise of a def whose run is g -/
def SpC (g : List Ar → CRs) : Sp := fun vs H Q E => ∃ (M : AP') (as : List Ar) (ad : List (Option Addr)), ArsOk K mg M H as ad vs ∧ (∀ a, M a → H a ≠ none) ∧ (∀ a, Ow ad a → M a) ∧
  (∀ (i j : Nat) a, gO ad i = some a → gO ad j = some a → i = j) ∧ CallQ K mg M ad H Q E (g as)
variable {K mg}
theorem ArsOk.len {M : AP'} {H : Hp} : ∀ {as : List Ar} {ad : List (Option Addr)} {vs : List V}, ArsOk K mg M H as ad vs → vs.length = as.length ∧ ad.length = as.length
  | [], [], [], _ => ⟨rfl, rfl⟩
  | .val _ :: r, none :: as, v :: vs, h => by
    obtain ⟨a, b⟩ := ArsOk.len h.2
    exact ⟨by simp [a], by simp [b]⟩
  | .own _ :: r, some _ :: as, v :: vs, h => by
    obtain ⟨a, b⟩ := ArsOk.len h.2.2
    exact ⟨by simp [a], by simp [b]⟩
  | [], _ :: _, _, h => h.elim
  | [], [], _ :: _, h => h.elim
  | .val _ :: _, some _ :: _, _, h => h.elim
  | .val _ :: _, [], _, h => h.elim
  | .val _ :: _, none :: _, [], h => h.elim
  | .own _ :: _, none :: _, _, h => h.elim
  | .own _ :: _, [], _, h => h.elim
  | .own _ :: _, some _ :: _, [], h => h.elim
end
section
variable {K : PySem.W.Frag} {mg : Str → Option Value} {F : Frm} {α : Asg} {T : List Addr} {env env' : Env} {σ : St} {H H' : Hp} {M : AP'}
def adr (α : Asg) : List Hd → List (Option Addr)
  | [] => []
  | .v _ :: hs => none :: adr α hs
  | .s i :: hs => gO α i :: adr α hs
theorem ow_cons {o : Option Addr} {r : List (Option Addr)} {a : Addr} : Ow (o :: r) a ↔ o = some a ∨ Ow r a := by
  constructor
  · rintro ⟨i, h⟩
    cases i with
    | zero => exact .inl (by simpa using h)
    | succ i => exact .inr ⟨i, by simpa using h⟩
  · rintro (h | ⟨i, h⟩)
    · exact ⟨0, by simp [h]⟩
    · exact ⟨i + 1, by simpa using h⟩
theorem ow_adr : ∀ {hs : List Hd} {a : Addr}, Ow (adr α hs) a → ∃ i, i ∈ lents hs ∧ gO α i = some a
  | [], _, h => by obtain ⟨i, h⟩ := h; simp [adr] at h
  | .v _ :: hs, a, h => by
    rcases ow_cons.mp h with h | h
    · cases h
    · exact ow_adr (hs := hs) h
  | .s i :: hs, a, h => by
    rcases ow_cons.mp h with h | h
    · exact ⟨i, List.mem_cons_self, h⟩
    · obtain ⟨j, h1, h2⟩ := ow_adr (hs := hs) h
      exact ⟨j, List.mem_cons_of_mem _ h1, h2⟩
theorem ars_ok (c : Cfg K mg F α T env σ H) : ∀ {hs : List Hd} {vs : List V} {as : List Ar}, RepHs K mg (MM F α T) H α hs vs → ars env hs = some as → ArsOk K mg (MM F α T) H as (adr α hs) vs
  | [], vs, as, h, e => by
    have e2 : vs = [] := h
    subst e2
    cases e
    trivial
  | .v w :: hs, _, as, ⟨v, r, e1, h1, h2⟩, e => by
    subst e1
    simp only [ars] at e
    cases q : ars env hs with
    | none => rw [q] at e; cases e
    | some r' => rw [q] at e; cases e; exact ⟨h1, ars_ok c h2 q⟩
  | .s i :: hs, _, as, ⟨v, r, e1, ⟨a, ha, hv⟩, h2⟩, e => by
    subst e1
    simp only [ars] at e
    cases q0 : env[i]? with
    | none => rw [q0] at e; cases e
    | some s =>
      rw [q0] at e
      cases s with
      | own w =>
        simp only at e
        cases q : ars env hs with
        | none => rw [q] at e; cases e
        | some r' =>
          rw [q] at e; cases e
          obtain ⟨b, e3, _, o⟩ := c.sl i _ q0
          rw [ha] at e3; cases e3
          show ArsOk K mg _ H (.own w :: r') (gO α i :: adr α hs) (v :: r)
          rw [ha]
          exact ⟨hv, o, ars_ok c h2 q⟩
      | _ => cases e
theorem adr_nd (c : Cfg K mg F α T env σ H) : ∀ {hs : List Hd}, nodupN (lents hs) = true → ∀ (i j : Nat) a, gO (adr α hs) i = some a → gO (adr α hs) j = some a → i = j
  | [], _, i, j, a, h, _ => by simp [adr, gO] at h
  | .v w :: hs, hn, i, j, a, h1, h2 => by
    cases i with
    | zero => simp [adr, gO] at h1
    | succ i =>
      cases j with
      | zero => simp [adr, gO] at h2
      | succ j => rw [adr_nd c (hs := hs) hn i j a (by simpa [adr, gO] using h1) (by simpa [adr, gO] using h2)]
  | .s k :: hs, hn, i, j, a, h1, h2 => by
    rw [lents, nodupN, Bool.and_eq_true] at hn
    have nk : ∀ m, gO (adr α hs) m = some a → gO α k ≠ some a := fun m hm hk => by
      obtain ⟨l, l1, l2⟩ := ow_adr (ow_iff.mpr ⟨m, hm⟩)
      have := c.nd k l a hk l2
      subst this
      have := hn.1
      rw [List.contains_iff_mem.mpr l1] at this
      cases this
    cases i with
    | zero =>
      cases j with
      | zero => rfl
      | succ j => exact (nk j (by simpa [adr, gO] using h2) (by simpa [adr, gO] using h1)).elim
    | succ i =>
      cases j with
      | zero => exact (nk i (by simpa [adr, gO] using h1) (by simpa [adr, gO] using h2)).elim
      | succ j => rw [adr_nd c (hs := hs) hn.2 i j a (by simpa [adr, gO] using h1) (by simpa [adr, gO] using h2)]
/-- the slots of a frame have new contents -/
theorem Cfg.change {N : AP'} (c : Cfg K mg F α T env σ H) (k : Kp N H H') (hN : ∀ x, N x → Ow α x) (le : env'.length = env.length)
    (sl : ∀ (i : Nat) s, env'[i]? = some s → SlotOk K mg (MM F α T) H' s (gO α i) (gO σ i)) : Cfg K mg F α T env' σ H' :=
  ⟨le.trans c.le, c.la, c.nd, c.nt, c.nw, fun a z => k.d a (c.tr a z), c.lm, by
    refine ⟨fun x u e n => k.k _ _ (c.kp.k _ _ e n) fun z => ow_lent c e n (hN x z), fun x u e f => k.t _ _ (c.kp.t _ _ e f) f, fun x e => k.d _ (c.kp.d _ e)⟩, sl⟩
theorem putBacks_len : ∀ {is : List Nat} {bs : List W} {env env' : Env}, putBacks env is bs = some env' → env'.length = env.length
  | [], [], _, _, h => by cases h; rfl
  | i :: is, w :: ws, env, env', h => by
    rw [putBacks] at h
    rw [putBacks_len h, List.length_set]
  | [], _ :: _, _, _, h => by cases h
  | _ :: _, [], _, _, h => by cases h
theorem putBacks_other : ∀ {is : List Nat} {bs : List W} {env env' : Env}, putBacks env is bs = some env' → ∀ j, j ∉ is → env'[j]? = env[j]?
  | [], [], _, _, h, _, _ => by cases h; rfl
  | i :: is, w :: ws, env, env', h, j, hj => by
    rw [putBacks] at h
    rw [putBacks_other h j fun z => hj (List.mem_cons_of_mem _ z), List.getElem?_set_ne fun z => hj (by rw [z]; exact List.mem_cons_self)]
  | [], _ :: _, _, _, h, _, _ => by cases h
  | _ :: _, [], _, _, h, _, _ => by cases h
/-- what was lent is back -/
theorem putBacks_own : ∀ {hs : List Hd} {bs : List W} {env env' : Env}, nodupN (lents hs) = true → (∀ i ∈ lents hs, i < env.length) → putBacks env (lents hs) bs = some env' → BacksOk K mg M H' (adr α hs) bs → (∀ i ∈ lents hs, ∃ a, gO α i = some a) →
    ∀ i ∈ lents hs, ∃ w a, env'[i]? = some (.own w) ∧ gO α i = some a ∧ OwnAt K mg M H' a w
  | [], _, _, _, _, _, _, _, _, i, hi => by simp [lents] at hi
  | .v w :: hs, bs, env, env', hn, hlt, hp, hb, ha, i, hi => putBacks_own (hs := hs) hn hlt hp hb ha i hi
  | .s k :: hs, [], _, _, _, _, hp, _, _, _, _ => by simp [lents, putBacks] at hp
  | .s k :: hs, b :: bs, env, env', hn, hlt, hp, hb, ha, i, hi => by
    rw [lents, nodupN, Bool.and_eq_true] at hn
    rw [lents, putBacks] at hp
    obtain ⟨a, hk⟩ := ha k List.mem_cons_self
    have hb' : BacksOk K mg M H' (gO α k :: adr α hs) (b :: bs) := hb
    rw [hk] at hb'
    have nk : k ∉ lents hs := fun z => by
      have := hn.1
      rw [List.contains_iff_mem.mpr z] at this
      cases this
    rcases List.mem_cons.mp hi with e | hi
    · subst e
      exact ⟨b, a, by rw [putBacks_other hp _ nk, List.getElem?_set_self (hlt _ List.mem_cons_self)], hk, hb'.1⟩
    · exact putBacks_own (hs := hs) hn.2 (fun j hj => by rw [List.length_set]; exact hlt j (List.mem_cons_of_mem _ hj)) hp hb'.2 (fun j hj => ha j (List.mem_cons_of_mem _ hj)) i hi
theorem lents_own : ∀ {hs : List Hd} {as : List Ar}, ars env hs = some as → ∀ i ∈ lents hs, ∃ w, env[i]? = some (.own w)
  | [], _, _, i, hi => by simp [lents] at hi
  | .v w :: hs, as, e, i, hi => by
    simp only [ars] at e
    cases q : ars env hs with
    | none => rw [q] at e; cases e
    | some r => exact lents_own q i hi
  | .s k :: hs, as, e, i, hi => by
    simp only [ars] at e
    cases q0 : env[k]? with
    | none => rw [q0] at e; cases e
    | some s =>
      rw [q0] at e
      cases s with
      | own w =>
        simp only at e
        cases q : ars env hs with
        | none => rw [q] at e; cases e
        | some r' =>
          rcases List.mem_cons.mp hi with e2 | hi
          · subst e2; exact ⟨w, q0⟩
          · exact lents_own q i hi
      | _ => cases e
theorem BacksOk.mono {M M' : AP'} (n : ∀ x, M' x → M x) : ∀ {ad : List (Option Addr)} {bs : List W}, BacksOk K mg M H ad bs → BacksOk K mg M' H ad bs
  | [], [], _ => trivial
  | none :: as, bs, h => BacksOk.mono (ad := as) n h
  | some a :: as, b :: bs, h => ⟨OwnAt.kp (N := fun _ => False) (Kp.refl _ _) (fun _ z => z.elim) (fun x z => .inl (n x z)) (fun z => z) h.1, BacksOk.mono n h.2⟩
  | [], _ :: _, h => h.elim
  | some _ :: _, [], h => h.elim
theorem Cfg.backSlots {hs : List Hd} {as : List Ar} {bs : List W} {M' : AP'} (c : Cfg K mg F α T env σ H) (ha : ars env hs = some as) (hn : nodupN (lents hs) = true) (hp : putBacks env (lents hs) bs = some env')
    (k : Kp (Ow (adr α hs)) H H') (n : ∀ x, M' x → MM F α T x ∨ H x = none) (hb : BacksOk K mg M' H' (adr α hs) bs) : ∀ (i : Nat) s, env'[i]? = some s → SlotOk K mg M' H' s (gO α i) (gO σ i) := by
  have la : ∀ i ∈ lents hs, ∃ a, gO α i = some a ∧ gO σ i = some (.ref a) ∧ i < env.length := fun i hi => by
    obtain ⟨w, e⟩ := lents_own ha i hi
    obtain ⟨a, e1, e2, _⟩ := c.sl i _ e
    exact ⟨a, e1, e2, (List.getElem?_eq_some_iff.mp e).1⟩
  have hO : ∀ x, Ow (adr α hs) x → Ow α x := fun x z => by
    obtain ⟨i, _, e⟩ := ow_adr z
    exact ow_iff.mpr ⟨i, e⟩
  intro i s e
  by_cases hi : i ∈ lents hs
  · obtain ⟨w, a, e1, e2, o⟩ := putBacks_own hn (fun j hj => (la j hj).choose_spec.2.2) hp hb (fun j hj => ⟨_, (la j hj).choose_spec.1⟩) i hi
    rw [e1] at e; cases e
    obtain ⟨a', f1, f2, _⟩ := la i hi
    rw [e2] at f1; cases f1
    exact ⟨a, e2, f2, o⟩
  · rw [putBacks_other hp i hi] at e
    refine (c.sl i s e).kp k (fun x z => .inl (own_mm (hO x z))) n fun a ea z => ?_
    obtain ⟨j, j1, j2⟩ := ow_adr z
    rw [c.nd i j a ea j2] at hi
    exact hi j1
theorem Cfg.backs {hs : List Hd} {as : List Ar} {bs : List W} (c : Cfg K mg F α T env σ H) (ha : ars env hs = some as) (hn : nodupN (lents hs) = true) (hp : putBacks env (lents hs) bs = some env')
    (k : Kp (Ow (adr α hs)) H H') (hb : BacksOk K mg (MM F α T) H' (adr α hs) bs) : Cfg K mg F α T env' σ H' := by
  have hO : ∀ x, Ow (adr α hs) x → Ow α x := fun x z => by
    obtain ⟨i, _, e⟩ := ow_adr z
    exact ow_iff.mpr ⟨i, e⟩
  exact c.change k hO (putBacks_len hp) (c.backSlots ha hn hp k (fun _ z => .inl z) hb)
/-- a further thing set apart -/
theorem Cfg.more {p : Addr} (c : Cfg K mg F α T env σ H) (h0 : F.H0 p = none) (hp : H p ≠ none) (nm : ¬ Ow α p) (sl : ∀ (i : Nat) s, env[i]? = some s → SlotOk K mg (MM F α (p :: T)) H s (gO α i) (gO σ i)) : Cfg K mg F α (p :: T) env σ H := by
  refine ⟨c.le, c.la, c.nd, fun i a e z => ?_, fun a z => ?_, fun a z => ?_, c.lm, c.kp, sl⟩
  · rcases List.mem_cons.mp z with e2 | z
    · subst e2; exact nm (ow_iff.mpr ⟨i, e⟩)
    · exact c.nt i a e z
  · rcases z with z | z
    · exact c.nw a (.inl z)
    · rcases List.mem_cons.mp z with e2 | z
      · subst e2; exact .inr h0
      · exact c.nw a (.inr z)
  · rcases z with z | z | z
    · exact c.tr a (.inl z)
    · exact c.tr a (.inr (.inl z))
    · rcases List.mem_cons.mp z with e2 | z
      · subst e2; exact hp
      · exact c.tr a (.inr (.inr z))
theorem ow_adr_sub {hs : List Hd} {x : Addr} (h : Ow (adr α hs) x) : Ow α x := by
  obtain ⟨i, _, e⟩ := ow_adr h
  exact ow_iff.mpr ⟨i, e⟩

/-- THE CALL, seen from the frame that calls: the promise holds, and behind it the frame goes on -/
theorem call_at {C : CallT} {Wx : WX} {cl f : Str} {hs : List Hd} {vs : List V} {Q : VK} {γ : Type} {P : γ → PM.Env → Prop} {g : Bool × W → PM.Env → R γ} {H0 : Hp} (c : Cfg K mg F α T env σ H) (k0 : Kp (Ow α) H0 H) (r : RepHs K mg (MM F α T) H α hs vs)
    (o : OutR P (exE K mg F Wx α T σ H0) ((callH C cl f hs env).bind g))
    (hq : ∀ fr w env' H' v, callH C cl f hs env = .ok (fr, w) env' → Cfg K mg F α T env' σ H' → Kp (Ow α) H0 H' → RetOk K mg (MM F α T) H H' fr w v → (∀ p, fr = true → v = .ref p → H p = none → Cfg K mg F α (p :: T) env' σ H') → OutR P (exE K mg F Wx α T σ H0) (g (fr, w) env') → Q v H') :
    SpC K mg (C cl f) vs H Q (fun cls d H' => Wx cls d σ H') := by
  unfold callH at o hq
  split at o
  case isFalse => exact o.elim
  rename_i hn
  rw [if_pos hn] at hq
  cases qa : ars env hs with
  | none => rw [qa] at o; exact o.elim
  | some as =>
    rw [qa] at o hq
    simp only at o hq
    refine ⟨MM F α T, as, adr α hs, ars_ok c r qa, c.tr, fun a z => own_mm (ow_adr_sub z), adr_nd c hn, ?_⟩
    cases qc : C cl f as with
    | no => rw [qc] at o; exact o.elim
    | ok fr w bs =>
      rw [qc] at o hq
      simp only at o hq
      cases qp : putBacks env (lents hs) bs with
      | none => rw [qp] at o; exact o.elim
      | some env' =>
        rw [qp] at o hq
        simp only at o hq
        intro H' v k hb hr
        have c' := c.backs qa hn qp k (hb.mono fun _ z => .inl z)
        refine hq fr w env' H' v rfl c' (k0.trans (k.mono fun _ z => ow_adr_sub z) fun _ z => .inl z) hr (fun p e1 e2 hp => ?_) o
        subst e1 e2
        have h3 : H' p ≠ none := by
          unfold RetOk at hr
          rw [if_pos rfl] at hr
          obtain ⟨q, e, _, oo⟩ := hr
          cases e
          obtain ⟨o2, ho2, _⟩ := oo.fix
          rw [ho2]; exact fun z => nomatch z
        refine c'.more (c.h0 hp) h3 (fun z => c.notin hp (own_mm z)) (c.backSlots qa hn qp k (fun x z => ?_) (hb.mono fun x z => ?_))
        · exact (mm_cons z).imp id fun e => by rw [e]; exact hp
        · exact (mm_cons z).imp id fun e => ⟨rfl, by rw [e]⟩
    | exc x bs =>
      rw [qc] at o
      simp only at o
      cases qp : putBacks env (lents hs) bs with
      | none => rw [qp] at o; exact o.elim
      | some env' =>
        rw [qp] at o
        simp only at o
        intro H' cls d k hb hr
        have c' := c.backs qa hn qp k hb
        exact (show exE K mg F Wx α T σ H0 x env' from o) H' cls d c' (k0.trans (k.mono fun _ z => ow_adr_sub z) fun _ z => .inl z) hr
/-- what a call gives, as a value -/
theorem ret_val {fr : Bool} {w : W} {v : V} (nd : ∀ ks ws, w ≠ .dic ks ws) (c : Cfg K mg F α T env σ H) (h : RetOk K mg (MM F α T) H H' fr w v) : Rep K mg (MM F α T) H' w v := by
  unfold RetOk at h
  cases fr with
  | false => rw [if_neg (by decide)] at h; exact h
  | true =>
    rw [if_pos rfl] at h
    obtain ⟨p, rfl, hp, o⟩ := h
    exact o.rep nd (fun _ z => .inl z) (c.notin hp)
/-- .. a dict is locked -/
theorem ret_lk {Q : VK} {fr : Bool} {w : W} {v : V} {H0 : Hp} (nm : ∀ p, H p = none → ¬ MM F α T p) (h0 : ∀ p, H p = none → F.H0 p = none) (k1 : Kp (Ow α) H0 H) (k2 : Kp (Ow α) H0 H') (c2 : Cfg K mg F α T env' σ H') (hx : ∀ p, fr = true → v = .ref p → H p = none → Cfg K mg F α (p :: T) env' σ H')
    (h : RetOk K mg (MM F α T) H H' fr w v) (k : ∀ H2 u, Cfg K mg F α T env' σ H2 → Kp (Ow α) H0 H2 → Rep K mg (MM F α T) H2 w u → Q u H2) : LkQ Q v H' := by
  unfold RetOk at h
  cases fr with
  | false => rw [if_neg (by decide)] at h; exact .inl (k H' v c2 k2 h)
  | true =>
    rw [if_pos rfl] at h
    obtain ⟨p, rfl, hp, o⟩ := h
    refine lk_own (hx p rfl rfl hp) (h0 p hp) (nm p hp) (OwnAt.kp (N := fun _ => False) (Kp.refl _ _) (fun _ z => z.elim) (fun x z => .inl (mm_cons z)) (fun z => z) o) fun H2 c3 k3 r3 => ?_
    exact k H2 _ c3 (k2.trans k3 fun x z => .inr (by rw [z]; exact kp_none k1 hp)) r3
end

/-! ### a def's call -/
section
variable {hot : Bool} {X : Cx} {F : Frm} {Wx : WX} {k : Nat} {f : Addr} {fd : FuncData} {ps : List Str} {sp : Sp} {x : Str} {p pos : Pos} {e : Expr} {es : List Expr} {t : TA}
theorem run_fnX {pins : List (Addr × Obj)} {σ : St} {H : Hp} {s : Shared} {Q : VK} {us : List Value} {vs : List V} (Fn : PMX.FnG X.prog X.w X.K X.mg X.base hot k f fd ps sp) (hr : PMX.RoomG hot k X.A) (hb : Binds X.K fd ps []) (tk : Takes X Wx)
    (I : Inv X pins σ H s) (r : Vals vs us) (h : sp vs H Q (fun cls d H' => Wx cls d σ H')) : wpAny (model X.prog X.w) X.A (call (.ref f) us) (EP X pins σ Q) X.xe s := by
  have hl : (us ++ ([] : List Value)).length = ps.length := by rw [List.append_nil, ← r.length]; exact Fn.len _ _ _ _ h
  have hb' := hb s us I.kIn hl
  rw [List.append_nil] at hb'
  refine wpAny_call (codeAny_mono (Fn.run X.A X.stack s H ⟨us, []⟩ us vs Q _ hr I.env0 hb' r h) fun r s' hq => ?_)
  cases r with
  | error e => exact tk e s' (XE.of_call I (fun _ _ _ z => z) hq)
  | ok fl =>
    cases fl with
    | ret u => exact I.after hq
    | next => exact False.elim hq
    | brk => exact False.elim hq
    | cont => exact False.elim hq
def tCX (Wx : WX) (sp : Sp) (t : TA) : TE := fun σ H Q => t σ H fun vs H1 => sp vs H1 Q (fun cls d H' => Wx cls d σ H')
theorem pe_callX (Fn : PMX.FnG X.prog X.w X.K X.mg X.base hot k f fd ps sp) (hr : PMX.RoomG hot k X.A) (hg : Gl X x) (hm : X.mg x = some (.ref f)) (hk : PySem.W.keepIn X.K (.ref f) = true) (hb : Binds X.K fd ps []) (tk : Takes X Wx)
    (ha : PA X (e :: es) t) (hdb : (x == ("__debug__" : Str)) = false) (hs : nS e = true) (hs2 : es.all nS = true) : PE X (.Call (.Name x p) (e :: es) [] pos) (tCX Wx sp t) := by
  refine ⟨fun pins s σ H Q I h => ?_⟩
  refine wpAny_Call_Name_kw (ld_glob I hg hm ?_ hdb)
  refine PySem.W.callWith_K (h₀ := X.base) I.ok.mod.kin hk (thn (ha.run pos pins s σ H _ I h) fun us s1 ⟨vs, H1, I1, r, q⟩ => ⟨I1.kIn, ?_⟩) (star_cons hs) (star_any hs2)
  exact run_fnX Fn hr hb tk I1 r q
theorem pe_callX0 (Fn : PMX.FnG X.prog X.w X.K X.mg X.base hot k f fd ps sp) (hr : PMX.RoomG hot k X.A) (hg : Gl X x) (hm : X.mg x = some (.ref f)) (hk : PySem.W.keepIn X.K (.ref f) = true) (hb : Binds X.K fd ps []) (tk : Takes X Wx)
    (hdb : (x == ("__debug__" : Str)) = false) : PE X (.Call (.Name x p) [] [] pos) (tCX Wx sp tNil) := by
  refine ⟨fun pins s σ H Q I h => ?_⟩
  refine wpAny_Call_Name_kw (ld_glob I hg hm ?_ hdb)
  exact PySem.W.callWith_K0 I.kIn hk (run_fnX (us := []) Fn hr hb tk I .nil h)
/-- what is known of a def that may be called by its name -/
structure FnH (X : Cx) (hot : Bool) (k : Nat) (C : CallT) (x : Str) : Prop where
  ex : ∃ (f : Addr) (fd : FuncData) (ps : List Str), PMX.FnG X.prog X.w X.K X.mg X.base hot k f fd ps (SpC X.K X.mg (C "" x)) ∧ X.mg x = some (.ref f) ∧ PySem.W.keepIn X.K (.ref f) = true ∧ Binds X.K fd ps []
variable {C : CallT}
def mCall (C : CallT) (c f : Str) (ms : PM.Env → R (List Hd)) : PM.Env → R (Bool × W) := fun env => (ms env).bind fun hs e1 => callH C c f hs e1
/-- the call, whatever is wanted of its result -/
theorem call_run {ms : PM.Env → R (List Hd)} {γ : Type} {P : γ → PM.Env → Prop} {g : Bool × W → PM.Env → R γ} {α : Asg} {T : List Addr} {env : PM.Env} {σ : St} {H : Hp} {Q : VK} (c : Cfg X.K X.mg F α T env σ H)
    (o : OutR P (exE X.K X.mg F Wx α T σ H) ((mCall C "" x ms env).bind g))
    (hq : ∀ fr w env' H1 H' v, mCall C "" x ms env = .ok (fr, w) env' → Cfg X.K X.mg F α T env' σ H' → Kp (Ow α) H H' → Kp (Ow α) H H1 → (∀ p, H1 p = none → ¬ MM F α T p) → RetOk X.K X.mg (MM F α T) H1 H' fr w v → (∀ p, fr = true → v = .ref p → H1 p = none → Cfg X.K X.mg F α (p :: T) env' σ H') → OutR P (exE X.K X.mg F Wx α T σ H) (g (fr, w) env') → Q v H') :
    tCX Wx (SpC X.K X.mg (C "" x)) (tA X.K X.mg F Wx ms) σ H Q := by
  have o2 : OutR P (exE X.K X.mg F Wx α T σ H) ((ms env).bind fun hs e1 => (callH C "" x hs e1).bind g) := by
    unfold mCall at o
    cases q : ms env <;> (rw [q] at o; exact o)
  refine tA_bind c o2 fun hs e1 H1 vs q1 c1 k1 r1 o1 => ?_
  refine call_at c1 k1 r1 o1 fun fr w env' H' v q2 c2 k2 hr hx o3 => ?_
  exact hq fr w env' H1 H' v (by unfold mCall; rw [q1]; exact q2) c2 k2 k1 (fun p hp => c1.notin hp) hr hx o3
theorem pe_FnH (Fn : FnH X hot k C x) (hr : PMX.RoomG hot k X.A) (hg : Gl X x) (tk : Takes X Wx) (hdb : (x == ("__debug__" : Str)) = false) {ms : PM.Env → R (List Hd)} (ha : SA X F Wx es ms) (hs : es.all nS = true) :
    PE X (.Call (.Name x p) es [] pos) (tCX Wx (SpC X.K X.mg (C "" x)) (tA X.K X.mg F Wx ms)) ∨ es = [] := by
  obtain ⟨f, fd, ps, h1, h2, h3, h4⟩ := Fn.ex
  cases es with
  | nil => exact .inr rfl
  | cons e es =>
    rw [List.all_cons, Bool.and_eq_true] at hs
    exact .inl (pe_callX h1 hr hg h2 h3 h4 tk ha hdb hs.1 hs.2)
theorem pe_FnH0 (Fn : FnH X hot k C x) (hr : PMX.RoomG hot k X.A) (hg : Gl X x) (tk : Takes X Wx) (hdb : (x == ("__debug__" : Str)) = false) :
    PE X (.Call (.Name x p) [] [] pos) (tCX Wx (SpC X.K X.mg (C "" x)) (tA X.K X.mg F Wx fun env => .ok [] env)) := by
  obtain ⟨f, fd, ps, h1, h2, h3, h4⟩ := Fn.ex
  refine pe_by fun σ H Q hq => ⟨_, pe_callX0 h1 hr hg h2 h3 h4 tk hdb, ?_⟩
  obtain ⟨α, T, env, c, o⟩ := tA_iff.mp hq
  exact (show okA X.K X.mg F α T σ H _ [] env from o) H [] c (Kp.refl _ _) rfl
/-- f(..) as a value -/
theorem se_call_of {ms : PM.Env → R (List Hd)} {e : Expr} (h : PE X e (tCX Wx (SpC X.K X.mg (C "" x)) (tA X.K X.mg F Wx ms))) : SE X F Wx e (fun env => (ms env).bind fun hs e1 => (callH C "" x hs e1).bind fun r e2 => .ok (.v r.2) e2) := by
  refine pe_by fun σ H Q hq => ⟨_, pe_lk h, ?_⟩
  obtain ⟨α, T, env, c, o⟩ := tE_iff.mp hq
  have o' : OutR (okE X.K X.mg F α T σ H Q) (exE X.K X.mg F Wx α T σ H) ((mCall C "" x ms env).bind fun r e2 => .ok (.v r.2) e2) := by
    unfold mCall
    cases q : ms env <;> (simp only [q] at o; exact o)
  refine call_run c o' fun fr w env' H1 H' v q1 c1 k1 k2 nm r hx o1 => ?_
  exact ret_lk nm (fun p hp => c.h0 (kp_none k2 hp)) k2 k1 c1 hx r fun H2 u c2 k3 r2 => (show okE X.K X.mg F α T σ H Q (.v w) env' from o1) H2 u c2 k3 r2
/-- f(..) as a new thing -/
theorem sf_call_of {ms : PM.Env → R (List Hd)} {e : Expr} (h : PE X e (tCX Wx (SpC X.K X.mg (C "" x)) (tA X.K X.mg F Wx ms))) : SF X F Wx e (fun env => (ms env).bind fun hs e1 => (callH C "" x hs e1).bind fun r e2 => if r.1 = true then .ok r.2 e2 else .no) := by
  refine pe_by fun σ H Q hq => ⟨_, h, ?_⟩
  obtain ⟨α, T, env, c, o⟩ := tF_iff.mp hq
  have o' : OutR (okF X.K X.mg F α T σ H Q) (exE X.K X.mg F Wx α T σ H) ((mCall C "" x ms env).bind fun r e2 => if r.1 = true then .ok r.2 e2 else .no) := by
    unfold mCall
    cases q : ms env <;> (simp only [q] at o; exact o)
  refine call_run c o' fun fr w env' H1 H' v q1 c1 k1 k2 nm r hx o1 => ?_
  unfold RetOk at r
  cases fr with
  | false => exact o1.elim
  | true =>
    rw [if_pos rfl] at r o1
    obtain ⟨p, rfl, hp, oo⟩ := r
    have hp0 : H p = none := kp_none k2 hp
    have c2 := hx p rfl rfl hp
    exact (show okF X.K X.mg F α T σ H Q w env' from o1) H' p hp0 c2 k1 (OwnAt.kp (N := fun _ => False) (Kp.refl _ _) (fun _ z => z.elim) (fun x z => .inl (mm_cons z)) (fun z => z) oo)
end
end PM

namespace PM
open PySem L2
section
variable {X : Cx} {F : Frm} {Wx : WX} {x : Str} {p pos : Pos} {e : Expr} {es : List Expr}
theorem cr_false {f : Value} : CallR X f (fun _ _ _ => False) := fun _ _ _ _ _ _ _ _ _ h => h.elim
/-- the name stands for a built-in whose calls are as r says -/
def BiCall (X : Cx) (x : Str) (r : List V → Hp → VK → Prop) : Prop := (∃ id, CallR X (.builtin id) r ∧ bootBuiltins x = some (.builtin id)) ∨ ∃ T, CallR X (.type T) r ∧ bootBuiltins x = some (.type T)
theorem pe_bi {r : List V → Hp → VK → Prop} {t : TA} (h : BiCall X x r) (hg : Gl X x) (hm : X.mg x = none) (ha : PA X (e :: es) t) (hn : x ≠ "__name__") (hdb : (x == ("__debug__" : Str)) = false) (hs : nS e = true) (hs2 : es.all nS = true) :
    PE X (.Call (.Name x p) (e :: es) [] pos) (tCB r t) := by
  rcases h with ⟨id, hc, hv⟩ | ⟨T, hc, hv⟩
  · exact pe_callB hc hg hm hv ha hn hdb (star_cons hs) (star_any hs2)
  · exact pe_callTy hc hg hm hv ha hn hdb (star_cons hs) (star_any hs2)
def BiSem (X : Cx) (x : Str) (ws : List W) (w : W) : Prop := ∃ r, BiCall X x r ∧ ∀ (M : AP') (H : Hp) (vs : List V) (Q : VK), (∀ a, M a → H a ≠ none) → RepBs X.K X.mg M H ws vs →
  (∀ H' z, Kp (fun _ => False) H H' → Rep X.K X.mg M H' w z → Q z H') → r vs H Q
/-- f(..), f a built-in, its result a value -/
theorem se_bi {ms : PM.Env → R (List Hd)} {sem : List W → Option W} (ha : SA X F Wx (e :: es) ms) (hg : Gl X x) (hm : X.mg x = none) (hn : x ≠ "__name__") (hdb : (x == ("__debug__" : Str)) = false) (hs : nS e = true) (hs2 : es.all nS = true)
    (h0 : BiCall X x fun _ _ _ => False) (hsem : ∀ ws w, sem ws = some w → BiSem X x ws w) :
    SE X F Wx (.Call (.Name x p) (e :: es) [] pos) (fun env => (ms env).bind fun hs e1 => match rds e1 hs with | some ws => (R.opt (sem ws) e1).hd | none => .no) := by
  refine pe_by fun σ H Q hq => ?_
  obtain ⟨α, T, env, c, o⟩ := tE_iff.mp hq
  have bad : (∀ hs e1, ms env = .ok hs e1 → False) → ∃ t, PE X (.Call (.Name x p) (e :: es) [] pos) t ∧ t σ H Q := fun hno => ⟨_, pe_bi h0 hg hm ha hn hdb hs hs2, tA_bind c o fun hs e1 H1 vs q _ _ _ _ => (hno _ _ q).elim⟩
  cases q1 : ms env with
  | no => exact bad fun _ _ h => by rw [q1] at h; cases h
  | exc => exact bad fun _ _ h => by rw [q1] at h; cases h
  | ok hs' e1 =>
    have o' := o
    rw [q1] at o'
    simp only [R.bind_ok] at o'
    cases q2 : rds e1 hs' with
    | none => rw [q2] at o'; exact o'.elim
    | some ws =>
      rw [q2] at o'
      obtain ⟨w, q3, _⟩ := OutR.opt (OutR.hd o')
      obtain ⟨r, hr, hrs⟩ := hsem ws w q3
      refine ⟨_, pe_bi hr hg hm ha hn hdb hs hs2, ?_⟩
      refine tA_bind c o fun hs2' e1' H1 vs q1' c1 k1 r1 o1 => ?_
      rw [q1] at q1'; cases q1'
      simp only [q2, q3, R.opt_some] at o1
      exact hrs (MM F α T) H1 vs Q c1.tr (c1.reads r1 q2) fun H' z k r => (show okE X.K X.mg F α T σ H Q (.v w) e1 from o1) H' z (c1.ext k) (k0 k1 k) r
/-- .. a new thing -/
def FbSem (X : Cx) (x : Str) (ws : List W) (w : W) : Prop := ∃ r, BiCall X x r ∧ ∀ (M : AP') (H : Hp) (vs : List V) (Q : VK), (∀ a, M a → H a ≠ none) → RepBs X.K X.mg M H ws vs →
  (∀ H' p, H p = none → Kp (fun _ => False) H H' → H' p ≠ none → OwnAt X.K X.mg (fun y => M y ∨ y = p) H' p w → Q (.ref p) H') → r vs H Q
theorem sf_bi {ms : PM.Env → R (List Hd)} {sem : List W → Option W} (ha : SA X F Wx (e :: es) ms) (hg : Gl X x) (hm : X.mg x = none) (hn : x ≠ "__name__") (hdb : (x == ("__debug__" : Str)) = false) (hs : nS e = true) (hs2 : es.all nS = true)
    (h0 : BiCall X x fun _ _ _ => False) (hsem : ∀ ws w, sem ws = some w → FbSem X x ws w) :
    SF X F Wx (.Call (.Name x p) (e :: es) [] pos) (fun env => (ms env).bind fun hs e1 => match rds e1 hs with | some ws => R.opt (sem ws) e1 | none => .no) := by
  refine pe_by fun σ H Q hq => ?_
  obtain ⟨α, T, env, c, o⟩ := tF_iff.mp hq
  have bad : (∀ hs e1, ms env = .ok hs e1 → False) → ∃ t, PE X (.Call (.Name x p) (e :: es) [] pos) t ∧ t σ H Q := fun hno => ⟨_, pe_bi h0 hg hm ha hn hdb hs hs2, tA_bind c o fun hs e1 H1 vs q _ _ _ _ => (hno _ _ q).elim⟩
  cases q1 : ms env with
  | no => exact bad fun _ _ h => by rw [q1] at h; cases h
  | exc => exact bad fun _ _ h => by rw [q1] at h; cases h
  | ok hs' e1 =>
    have o' := o
    rw [q1] at o'
    simp only [R.bind_ok] at o'
    cases q2 : rds e1 hs' with
    | none => rw [q2] at o'; exact o'.elim
    | some ws =>
      rw [q2] at o'
      obtain ⟨w, q3, _⟩ := OutR.opt o'
      obtain ⟨r, hr, hrs⟩ := hsem ws w q3
      refine ⟨_, pe_bi hr hg hm ha hn hdb hs hs2, ?_⟩
      refine tA_bind c o fun hs2' e1' H1 vs q1' c1 k1 r1 o1 => ?_
      rw [q1] at q1'; cases q1'
      simp only [q2, q3, R.opt_some] at o1
      refine hrs (MM F α T) H1 vs Q c1.tr (c1.reads r1 q2) fun H' z hz k hz' oo => ?_
      exact (show okF X.K X.mg F α T σ H Q w e1 from o1) H' z (kp_none k1 hz) (c1.apart k hz hz') (k0 k1 k) (OwnAt.kp (N := fun _ => False) (Kp.refl _ _) (fun _ z => z.elim) (fun x z => .inl (mm_cons z)) (fun z => z) oo)
end

/-! ### each of them -/
section
variable {X : Cx}
theorem repBs1 {K : PySem.W.Frag} {mg : Str → Option Value} {M : AP'} {H : Hp} {w : W} {vs : List V} (h : RepBs K mg M H [w] vs) : ∃ v, vs = [v] ∧ RepB K mg M H w v := by
  obtain ⟨v, r, e, h1, h2⟩ := h
  have e2 : r = [] := h2
  subst e2
  exact ⟨v, e, h1⟩
theorem repBs2 {K : PySem.W.Frag} {mg : Str → Option Value} {M : AP'} {H : Hp} {w u : W} {vs : List V} (h : RepBs K mg M H [w, u] vs) : ∃ v z, vs = [v, z] ∧ RepB K mg M H w v ∧ RepB K mg M H u z := by
  obtain ⟨v, r, e, h1, h2⟩ := h
  obtain ⟨z, rfl, h3⟩ := repBs1 h2
  exact ⟨v, z, e, h1, h3⟩
/-- a list or a tuple, read -/
theorem repB_seq {K : PySem.W.Frag} {mg : Str → Option Value} {M : AP'} {H : Hp} {w : W} {ws : List W} {v : V} (h : RepB K mg M H w v) (e : seqW w = some ws) : ∃ a vs, v = .ref a ∧ (SqL K H a vs ∨ SqT K H a vs) ∧ RepL K mg M H ws vs ∧ (∀ us, w = .tup us → H a = some (.tup vs)) ∧ ((∀ us, w ≠ .tup us) → SqL K H a vs) := by
  cases w with
  | tup us => cases e; obtain ⟨a, vs, rfl, h1, h2⟩ := repB_tupH h; exact ⟨a, vs, rfl, .inr (.inl (.inl h1)), h2, fun _ _ => h1, fun z => (z _ rfl).elim⟩
  | lst us => cases e; obtain ⟨a, vs, rfl, h1, h2⟩ := repB_lst h; exact ⟨a, vs, rfl, .inl (.inl (.inl h1)), h2, fun _ z => (nomatch z), fun _ => .inl (.inl h1)⟩
  | rol us => cases e; obtain ⟨a, vs, rfl, h1, h2⟩ := repB_rol h; exact ⟨a, vs, rfl, .inl h1.sq, h2, fun _ z => (nomatch z), fun _ => h1.sq⟩
  | _ => cases e
theorem len_rd : CallR X (.builtin "len") (fun xs H Q => ∃ a kvs, xs = [V.ref a] ∧ L2.Rd H a (.dK kvs) ∧ Q (.int kvs.length) H) := by
  intro pins s σ H xs us Q I r ⟨a, kvs, ex, ha, q⟩
  subst ex
  obtain ⟨u, eu, ru⟩ := vals1 r
  subst eu
  cases ru
  exact d_len I ha fun t s' I' => ⟨.int kvs.length, H, I', ⟨t, rfl⟩, q⟩
theorem bi_len {ws : List W} {w : W} (h : lenW ws = some w) : BiSem X "len" ws w := by
  have hb : bootBuiltins "len" = some (.builtin "len") := PySem.boot_len
  unfold lenW at h
  split at h
  · rename_i s
    split at h <;> cases h
    rename_i hz
    refine ⟨_, .inl ⟨_, call_len, hb⟩, fun M H vs Q tr r k => ?_⟩
    obtain ⟨v, rfl, r1⟩ := repBs1 r
    obtain rfl := repB_str r1
    exact ⟨_, _, rfl, ⟨hz, rfl⟩, k H _ (Kp.refl _ _) rfl⟩
  · rename_i ks us
    cases h
    refine ⟨_, .inl ⟨_, len_rd, hb⟩, fun M H vs Q tr r k => ?_⟩
    obtain ⟨v, rfl, r1⟩ := repBs1 r
    obtain ⟨a, kvs, rfl, h1, h2, _⟩ := repB_dic r1
    subst h2
    refine ⟨a, kvs, rfl, h1, ?_⟩
    have e := k H (V.int (kvs.length : Int)) (Kp.refl _ _)
    rw [List.length_map] at e
    exact e rfl
  · rename_i u _ _
    split at h <;> cases h
    rename_i us hu
    refine ⟨_, .inl ⟨_, call_len_seq, hb⟩, fun M H vs Q tr r k => ?_⟩
    obtain ⟨v, rfl, r1⟩ := repBs1 r
    obtain ⟨a, vs, rfl, h1, h2, _⟩ := repB_seq r1 hu
    exact ⟨a, vs, rfl, h1, by rw [h2.len]; exact k H _ (Kp.refl _ _) rfl⟩
  · cases h
theorem bi_abs {ws : List W} {w : W} (h : absW ws = some w) : BiSem X "abs" ws w := by
  unfold absW at h
  split at h <;> cases h
  refine ⟨_, .inl ⟨_, call_abs, by decide +kernel⟩, fun M H vs Q tr r k => ?_⟩
  obtain ⟨v, rfl, r1⟩ := repBs1 r
  obtain rfl := repB_int r1
  exact ⟨_, rfl, k H _ (Kp.refl _ _) rfl⟩
theorem bi_int {ws : List W} {w : W} (h : intW ws = some w) : BiSem X "int" ws w := by
  unfold intW at h
  split at h <;> cases h
  · refine ⟨_, .inr ⟨_, call_int1, by decide +kernel⟩, fun M H vs Q tr r k => ?_⟩
    obtain ⟨v, rfl, r1⟩ := repBs1 r
    obtain rfl := repB_int r1
    exact .inl ⟨_, rfl, k H _ (Kp.refl _ _) rfl⟩
  · refine ⟨_, .inr ⟨_, call_int1, by decide +kernel⟩, fun M H vs Q tr r k => ?_⟩
    obtain ⟨v, rfl, r1⟩ := repBs1 r
    obtain rfl := repB_bl r1
    exact .inr ⟨_, rfl, k H _ (Kp.refl _ _) rfl⟩
theorem bi_str {ws : List W} {w : W} (h : strW ws = some w) : BiSem X "str" ws w := by
  unfold strW at h
  split at h
  · split at h <;> cases h
    rename_i i hz
    refine ⟨_, .inr ⟨_, call_str_int, by decide +kernel⟩, fun M H vs Q tr r k => ?_⟩
    obtain ⟨v, rfl, r1⟩ := repBs1 r
    obtain rfl := repB_int r1
    exact ⟨_, rfl, Nat.lt_of_lt_of_le (PySem.Flt.log2_lt_of (by decide) hz) (by decide), k H _ (Kp.refl _ _) rfl⟩
  · cases h
    refine ⟨_, .inr ⟨_, SkE.call_str_str, by decide +kernel⟩, fun M H vs Q tr r k => ?_⟩
    obtain ⟨v, rfl, r1⟩ := repBs1 r
    obtain rfl := repB_str r1
    exact ⟨_, rfl, k H _ (Kp.refl _ _) rfl⟩
  · cases h
theorem bi_tuple {ws : List W} {w : W} (h : tupleW ws = some w) : BiSem X "tuple" ws w := by
  unfold tupleW at h
  split at h
  · rename_i u
    split at h <;> cases h
    rename_i us hu
    refine ⟨_, .inr ⟨_, call_tuple_of, by decide +kernel⟩, fun M H vs Q tr r k => ?_⟩
    obtain ⟨v, rfl, r1⟩ := repBs1 r
    obtain ⟨a, vs, rfl, h1, h2, h3, h4⟩ := repB_seq r1 hu
    by_cases ht : ∃ us, u = .tup us
    · obtain ⟨us', rfl⟩ := ht
      cases hu
      exact ⟨a, vs, rfl, .inr ⟨.inl (.inl (h3 _ rfl)), k H _ (Kp.refl _ _) ⟨a, vs, rfl, h3 _ rfl, h2⟩⟩⟩
    · exact ⟨a, vs, rfl, .inl ⟨h4 fun us e => ht ⟨us, e⟩, fun l hl => k _ _ (Kp.new _ hl) (rep_newT hl h2)⟩⟩
  · cases h
theorem bi_max (hc : X.calm = true) {ws : List W} {w : W} (h : maxW ws = some w) : BiSem X "max" ws w := by
  unfold maxW at h
  split at h <;> cases h
  refine ⟨_, .inl ⟨_, call_max2 hc, by decide +kernel⟩, fun M H vs Q tr r k => ?_⟩
  obtain ⟨v, z, rfl, r1, r2⟩ := repBs2 r
  obtain rfl := repB_int r1
  obtain rfl := repB_int r2
  exact ⟨_, _, rfl, k H _ (Kp.refl _ _) rfl⟩
theorem bi_min (hc : X.calm = true) {ws : List W} {w : W} (h : minW ws = some w) : BiSem X "min" ws w := by
  unfold minW at h
  split at h <;> cases h
  refine ⟨_, .inl ⟨_, call_min2 hc, by decide +kernel⟩, fun M H vs Q tr r k => ?_⟩
  obtain ⟨v, z, rfl, r1, r2⟩ := repBs2 r
  obtain rfl := repB_int r1
  obtain rfl := repB_int r2
  exact ⟨_, _, rfl, k H _ (Kp.refl _ _) rfl⟩
theorem ints_vals {K : PySem.W.Frag} {mg : Str → Option Value} {M : AP'} {H : Hp} : ∀ {ws : List W} {vs : List V} {l : List Int}, ints? ws = some l → RepL K mg M H ws vs → vs = l.map V.int ∧ ws = l.map W.int
  | [], vs, l, h, r => by cases h; exact ⟨r, rfl⟩
  | .int i :: ws, _, l, h, ⟨v, r, e, h1, h2⟩ => by
    simp only [ints?] at h
    cases q : ints? ws with
    | none => rw [q] at h; cases h
    | some l' =>
      rw [q] at h; cases h
      obtain ⟨a, b⟩ := ints_vals q h2
      have e1 : v = .int i := h1
      exact ⟨by rw [e, e1, a]; rfl, by rw [b]; rfl⟩
theorem bools_vals {K : PySem.W.Frag} {mg : Str → Option Value} {M : AP'} {H : Hp} : ∀ {ws : List W} {vs : List V} {l : List Bool}, bools? ws = some l → RepL K mg M H ws vs → vs = l.map V.bl
  | [], vs, l, h, r => by cases h; exact r
  | .bl i :: ws, _, l, h, ⟨v, r, e, h1, h2⟩ => by
    simp only [bools?] at h
    cases q : bools? ws with
    | none => rw [q] at h; cases h
    | some l' =>
      rw [q] at h; cases h
      have e1 : v = .bl i := h1
      rw [e, e1, bools_vals q h2]; rfl
theorem bi_sum (hc : X.calm = true) {ws : List W} {w : W} (h : sumW ws = some w) : BiSem X "sum" ws w := by
  unfold sumW at h
  split at h
  · split at h <;> cases h
    rename_i us l hl
    refine ⟨_, .inl ⟨_, cr_sum hc, by decide +kernel⟩, fun M H vs Q tr r k => ?_⟩
    obtain ⟨v, rfl, r1⟩ := repBs1 r
    obtain ⟨a, vs, rfl, h1, h2⟩ := repB_lst r1
    obtain ⟨e, _⟩ := ints_vals hl h2
    subst e
    exact ⟨a, l, rfl, .inl (.inl h1), k H _ (Kp.refl _ _) rfl⟩
  · cases h
theorem bi_all (hc : X.calm = true) {ws : List W} {w : W} (h : allW ws = some w) : BiSem X "all" ws w := by
  unfold allW at h
  split at h
  · split at h <;> cases h
    rename_i us l hl
    refine ⟨_, .inl ⟨_, cr_all hc, by decide +kernel⟩, fun M H vs Q tr r k => ?_⟩
    obtain ⟨v, rfl, r1⟩ := repBs1 r
    obtain ⟨a, vs, rfl, h1, h2⟩ := repB_lst r1
    have e := bools_vals hl h2
    subst e
    exact ⟨a, l, rfl, .inl (.inl h1), k H _ (Kp.refl _ _) rfl⟩
  · cases h
theorem bi_any (hc : X.calm = true) {ws : List W} {w : W} (h : anyW ws = some w) : BiSem X "any" ws w := by
  unfold anyW at h
  split at h
  · split at h <;> cases h
    rename_i us l hl
    refine ⟨_, .inl ⟨_, cr_any hc, by decide +kernel⟩, fun M H vs Q tr r k => ?_⟩
    obtain ⟨v, rfl, r1⟩ := repBs1 r
    obtain ⟨a, vs, rfl, h1, h2⟩ := repB_lst r1
    have e := bools_vals hl h2
    subst e
    exact ⟨a, l, rfl, .inl (.inl h1), k H _ (Kp.refl _ _) rfl⟩
  · cases h
/-- a class as a value of ours -/
def clsV (mg : Str → Option Value) : W → Value → Prop
  | .ty n, u => u = .type n
  | .glo x, u => ∃ C, mg x = some (.ref C) ∧ u = .ref C
  | .exn x _ _, u => ∃ C, mg x = some (.ref C) ∧ u = .ref C
  | _, _ => False
/-- what is written of an exception class -/
structure ExK (K : PySem.W.Frag) (C : Addr) : Prop where
  hcl : (PySem.W.clsIn K C).isSome = true
  ga : PySem.W.findIn K (.ref C) "__getattribute__" = some (some (.builtin "BaseException.__getattribute__"))
  gg : PySem.W.findIn K (.ref C) "__getattr__" = some none
  ex : PySem.W.subIn K (.ref C) (.type "BaseException") = some true
  ca : PySem.W.findIn K (.ref C) "__class__" = some (some (.builtin "object.__class__"))
  cg : PySem.W.specialIn K (.builtin "object.__class__") "__get__" = some (some (.builtin "getset_descriptor.__get__"))
  tk : PySem.W.takesIn K (.builtin "object.__class__") = some true
  mo : PySem.W.mroIn K C (.type "object") = some true
  hd : PySem.W.hasDictIn K C = true
/-- an exception, as an instance -/
theorem exc_inst {P : Program} {w : World} {H : Hp} {h : Heap} {M : AP'} {a C : Addr} {od : Option Addr} {fs : List (Str × V)} (hok : HOk P w H h) (e : ExcAt M H a C od fs) :
    ∃ oe od', PySem.W.InstAt h a oe C od' ∧ ∀ f v, fs.lookup f = some v → ∃ o u, od' = some o ∧ PySem.W.lookIn f o = some (some u) ∧ RelV v u := by
  obtain ⟨⟨oe, vs, h1, h2, h3⟩, _, _⟩ := (show ObjOk P w H h a (.ext _) from hok a _ e.1)
  have nc : PySem.W.notCls oe = true := by unfold PySem.W.notCls; rw [h3] <;> rfl
  rcases e.2.2 with ⟨rfl, rfl⟩ | ⟨dx, rfl, hx, _⟩
  · exact ⟨oe, none, ⟨h1, h2.1, nc, by rw [h2.2]; trivial⟩, fun f v z => by cases z⟩
  · obtain ⟨mA, hns, hr⟩ := (show ObjOk P w H h dx (.xd fs) from hok dx _ hx)
    obtain ⟨o, ho, hl⟩ := lookIn_ns hns
    refine ⟨oe, some o, ⟨h1, h2.1, nc, by rw [h2.2]; exact ho⟩, fun f v z => ?_⟩
    obtain ⟨u, hu, ru⟩ := RelO.some_of (v := v) (o := mA f) (by rw [← z]; exact hr f)
    exact ⟨o, u, rfl, by rw [hl, hu], ru⟩
def rIsiX (K : PySem.W.Frag) : List V → Hp → VK → Prop := fun xs H Q => rIsi K xs H Q ∨ ∃ (M : AP') (a C : Addr) (od : Option Addr) (fs : List (Str × V)) (c : V) (u : Value) (b : Bool), xs = [.ref a, c] ∧ ClsV c u ∧ ExcAt M H a C od fs ∧ ExK K C ∧ PySem.W.kitOne K (.ref C) u = some b ∧ Q (.bl b) H
theorem call_isiX {X : Cx} : CallR X (.builtin "isinstance") (rIsiX X.K) := by
  intro pins s σ H xs us Q I r h
  rcases h with h | ⟨M, a, C, od, fs, c, u, b, rfl, k, ea, T, e, q⟩
  · exact call_isi pins s σ H xs us Q I r h
  obtain ⟨u1, u2, rfl, r1, r2⟩ := vals2 r
  cases (show u1 = Value.ref a from r1)
  have e2 := k.eq r2
  subst e2
  obtain ⟨oe, od', J, _⟩ := exc_inst I.hok ea
  exact PySem.W.kia_one (PySem.W.kitx_exc (ox := oe) (od := od') T.hcl T.ga T.gg T.ex T.ca T.cg T.tk T.mo) I.kIn J e (fun z => nomatch z) fun tk => ⟨.bl b, H, I.tok tk, rfl, q⟩
/-- what is known of isinstance -/
structure IsiOk (X : Cx) (isi : W → W → Option Bool) : Prop where
  cv : ∀ t c b, isi t c = some b → (match c with | .ty _ => True | .glo _ => True | _ => False)
  kit : ∀ t c b u v, isi t c = some b → clsV X.mg t u → clsV X.mg c v → PySem.W.kitOne X.K u v = some b
  cls : ∀ x c b C, isi (.glo x) c = some b → X.mg x = some (.ref C) → Cls X.K C ∧ PySem.W.findIn X.K (.ref C) "__class__" = some (some (.builtin "object.__class__")) ∧
    PySem.W.specialIn X.K (.builtin "object.__class__") "__get__" = some (some (.builtin "getset_descriptor.__get__")) ∧ PySem.W.takesIn X.K (.builtin "object.__class__") = some true ∧ PySem.W.mroIn X.K C (.type "object") = some true
  exc : ∀ x c b C, isi (.exn x [] []) c = some b → X.mg x = some (.ref C) → ExK X.K C
theorem bi_isin {isi : W → W → Option Bool} (ok : IsiOk X isi) {ws : List W} {w : W} (h : isinW isi ws = some w) : BiSem X "isinstance" ws w := by
  unfold isinW at h
  split at h
  · rename_i x c
    split at h
    · rename_i t ht
      split at h <;> cases h
      rename_i b hb
      refine ⟨_, .inl ⟨_, call_isiX, by decide +kernel⟩, fun M H vs Q tr r k => ?_⟩
      obtain ⟨v, z, rfl, r1, r2⟩ := repBs2 r
      have tc : ∀ {z}, RepB X.K X.mg M H c z → (∃ v', clsV X.mg c v') → ∃ u, ClsV z u ∧ clsV X.mg c u := fun {z} r2 hv => by
        obtain ⟨v', hv⟩ := hv
        cases c with
        | ty n =>
          rcases r2 with r2 | ⟨_, _, r2⟩
          · have e : z = .ty n := r2
            subst e
            exact ⟨_, .ty n, rfl⟩
          · exact r2.elim
        | glo y =>
          rcases r2 with r2 | ⟨_, _, r2⟩
          · obtain ⟨a, e1, rfl⟩ := r2
            exact ⟨_, .own a, a, e1, rfl⟩
          · exact r2.elim
        | exn y ns us => exact (ok.cv _ _ _ hb).elim
        | _ => exact hv.elim
      have hc : ∃ v', clsV X.mg c v' := by
        cases c with
        | ty n => exact ⟨_, rfl⟩
        | glo y =>
          rcases r2 with r2 | ⟨_, _, r2⟩
          · obtain ⟨a, e1, rfl⟩ := r2
            exact ⟨_, a, e1, rfl⟩
          · exact r2.elim
        | _ => exact (ok.cv _ _ _ hb).elim
      obtain ⟨u, hu1, hu2⟩ := tc r2 hc
      by_cases hx : ∃ y ns us, x = .exn y ns us
      · obtain ⟨y, ns, us, rfl⟩ := hx
        cases ht
        rcases r1 with r1 | ⟨_, _, r1⟩
        case inr => exact r1.elim
        obtain ⟨a, C, od, fs, rfl, e0, e1, _, _⟩ := r1
        exact .inr ⟨M, a, C, od, fs, z, u, b, rfl, hu1, e1, ok.exc y c b C hb e0, ok.kit _ _ _ _ _ hb ⟨C, e0, rfl⟩ hu2, k H _ (Kp.refl _ _) rfl⟩
      have ty : ∃ tv, TyX X.K H v tv ∧ clsV X.mg t tv := by
        cases x with
        | non => cases ht; obtain rfl := repB_non r1; exact ⟨_, .base .non, rfl⟩
        | bl b => cases ht; obtain rfl := repB_bl r1; exact ⟨_, .base (.bl _), rfl⟩
        | int b => cases ht; obtain rfl := repB_int r1; exact ⟨_, .base (.int _), rfl⟩
        | str b => cases ht; obtain rfl := repB_str r1; exact ⟨_, .base (.str _), rfl⟩
        | tup us =>
          cases ht
          obtain ⟨a, vs, rfl, h1, _⟩ := repB_tupH r1
          exact ⟨_, .base (.tup h1), rfl⟩
        | lst us => cases ht; obtain ⟨a, vs, rfl, h1, _⟩ := repB_lst r1; exact ⟨_, .base (.lst h1), rfl⟩
        | dic ks us => cases ht; obtain ⟨a, kvs, rfl, h1, _⟩ := repB_dic r1; exact h1.elim (fun h1 => ⟨_, .base (.dK h1), rfl⟩) fun ⟨o, h1⟩ => ⟨_, .fDict h1, rfl⟩
        | obj y ns us =>
          cases ht
          have : ∃ a C dx fs, v = .ref a ∧ X.mg y = some (.ref C) ∧ H a = some (.ins C dx fs) := by
            rcases r1 with ⟨a, C, dx, fs, e, e2, e3, _⟩ | ⟨a, e, C, dx, fs, e2, e3, _⟩
            · exact ⟨a, C, dx, fs, e, e2, e3.1⟩
            · exact ⟨a, C, dx, fs, e, e2, e3⟩
          obtain ⟨a, C, dx, fs, rfl, e2, e3⟩ := this
          obtain ⟨c1, c2, c3, c4, c5⟩ := ok.cls y c b C hb e2
          exact ⟨_, .base (.ins e3 c1 c2 c3 c4 c5), C, e2, rfl⟩
        | exn y ns us => exact (hx ⟨y, ns, us, rfl⟩).elim
        | _ => cases ht
      obtain ⟨tv, ht1, ht2⟩ := ty
      exact .inl ⟨v, z, tv, u, b, rfl, hu1, ht1, ok.kit _ _ _ _ _ hb ht2 hu2, k H _ (Kp.refl _ _) rfl⟩
    · cases h
  · cases h
end
end PM

namespace PM
open PySem L2 PyProof.Rows
section
variable {P : Program} {wd : World} {h : Heap} {H : Hp} {K : PySem.W.Frag} {mg : Str → Option Value} {M : AP'}
/-- a value whose text is told, from below -/
def RK (P : Program) (wd : World) (h : Heap) (u : Value) (d : PyData) : Prop := ∃ as bs, Reads h u d as ∧ ReadAtMost h d.depth bs ∧ ReprK P wd bs h d.depth u d.shown
def RKs (P : Program) (wd : World) (h : Heap) (us : List Value) (ds : List PyData) : Prop := ∃ as bs, ReadsAll h us ds as ∧ ReadAtMost h (PyData.depthAll ds) bs ∧ ReprAllK P wd bs h (PyData.depthAll ds) us (PyData.shownAll ds)
theorem RKs.nil : RKs P wd h [] [] := ⟨_, [], .nil, (fun _ h => nomatch h), by simp only [PyData.shownAll]; exact .nil⟩
theorem RKs.cons {u : Value} {d : PyData} {us : List Value} {ds : List PyData} (a : RK P wd h u d) (b : RKs P wd h us ds) : RKs P wd h (u :: us) (d :: ds) := by
  obtain ⟨as, bs, r1, m1, k1⟩ := a
  obtain ⟨cs, es, r2, m2, k2⟩ := b
  refine ⟨_, bs ++ es, .cons r1 r2, ?_, ?_⟩
  · simp only [PyData.depthAll]
    exact (m1.mono (Nat.le_max_left _ _)).append (m2.mono (Nat.le_max_right _ _))
  · simp only [PyData.depthAll, PyData.shownAll]
    exact .cons ((k1.more fun b hb => List.mem_append_left _ hb).level_le (Nat.le_max_left _ _)) (k2.more_le (fun b hb => List.mem_append_right _ hb) (Nat.le_max_right _ _))
/-- how such an object is called for its text -/
def RC (P : Program) (wd : World) (h : Heap) (a : Addr) (d : PyData) : Prop := ∀ (A : Around) (E : Value → Shared → Prop) (s : Shared) (Q : Value → Shared → Prop), A.guards = some [] → A.units + (d.depth + 1) < cLine → s.heap = h →
  (∀ h' u tk, (∀ b o, s.heap.get? b = some o → h'.get? b = some o) → Q (.str d.shown u) { s with heap := h', toks := tk }) → wpAny (model P wd) A (call (.builtin "repr") [.ref a]) Q E s
theorem rk_lst {a : Addr} {o : Obj} {us : List Value} {ds : List PyData} {n : Nat} (h1 : h.get? a = some o) (h2 : o.cls = .type "list") (h3 : o.data = .seq us.toArray n) (k : RKs P wd h us ds) (hz : (PyData.list ds).shown.length ≤ sizeLine) : RK P wd h (.ref a) (.list ds) ∧ RC P wd h a (.list ds) := by
  obtain ⟨as, bs, r, m, k⟩ := k
  have rr : Reads h (.ref a) (.list ds) (a :: as) := .list h1 h2 h3 (by simpa using r)
  have na : a ∉ bs := not_mem_of_deeper rr (by simp only [PyData.depth]; omega) m
  have hz' : (listText (PyData.shownAll ds)).length ≤ sizeLine := by simpa only [PyData.shown] using hz
  refine ⟨⟨_, a :: bs, rr, ReadAtMost.cons rr (by simp only [PyData.depth]; omega) m, ?_⟩, fun A E s Q hg hu hs hQ => ?_⟩
  · simp only [PyData.depth, PyData.shown]
    cases us with
    | nil =>
      cases r
      simp only [PyData.shownAll, listText_nil]
      exact ReprK.listEmpty h1 h2 h3
    | cons x l => exact ReprK.list h1 h2 h3 na (by simpa using k.length_eq) (fun i y e => k.item i y (by simpa using e))
  · subst hs
    simp only [PyData.depth] at hu
    simp only [PyData.shown] at hQ
    refine call_repr_slot (by omega) ⟨o, h1, h2⟩ F.slot_list_repr.toG ?_
    cases us with
    | nil =>
      cases r
      simp only [PyData.shownAll, listText_nil] at hQ
      exact call_list_repr_empty ⟨o, h1, h2⟩ h1 h3 ⟨_, _, rfl, hQ s.heap _ _ fun _ _ e => e⟩
    | cons x l =>
      exact call_list_reprK h1 h2 h3 na (by simpa using k.length_eq) (fun i y e => k.item i y (by simpa using e)) hg (fun b _ => Clear.nil b) (by show A.units + 1 + _ < _; omega) (fun _ _ e => e) (fun h' u tk hk => ⟨_, _, rfl, hQ h' u tk hk⟩) hz'
theorem rk_tup {a : Addr} {us : List Value} {ds : List PyData} (ht : IsTup h a us.toArray) (k : RKs P wd h us ds) (hz : (PyData.tuple ds).shown.length ≤ sizeLine) : RK P wd h (.ref a) (.tuple ds) ∧ RC P wd h a (.tuple ds) := by
  obtain ⟨o, h1, h2, n, h3⟩ := ht
  obtain ⟨as, bs, r, m, k⟩ := k
  have rr : Reads h (.ref a) (.tuple ds) as := .tuple h1 h2 h3 (by simpa using r)
  have na : a ∉ bs := not_mem_of_deeper rr (by simp only [PyData.depth]; omega) m
  have hz' : (tupleText (PyData.shownAll ds)).length ≤ sizeLine := by simpa only [PyData.shown] using hz
  have k' : ReprAllK P wd bs h (PyData.depthAll ds) us.toArray.toList (PyData.shownAll ds) := by simpa using k
  refine ⟨⟨_, a :: bs, rr, ReadAtMost.cons rr (by simp only [PyData.depth]; omega) m, ?_⟩, fun A E s Q hg hu hs hQ => ?_⟩
  · simp only [PyData.depth, PyData.shown]
    exact ReprK.tuple h1 h2 h3 na k'
  · subst hs
    simp only [PyData.depth] at hu
    simp only [PyData.shown] at hQ
    refine call_repr_slot (by omega) ⟨o, h1, h2⟩ F.slot_tuple_repr ?_
    exact call_tuple_reprK h1 h2 h3 na k' hg (fun b _ => Clear.nil b) (by show A.units + 1 + _ < _; omega) (fun _ _ e => e) (fun h' u tk hk => ⟨_, _, rfl, hQ h' u tk hk⟩) hz'
theorem rk_dic {a : Addr} {o : Obj} {es : Array DictEntry} {n : Nat} {kvs : List (PyData × PyData)} (hsys : (a == sysModules) = false) (h1 : h.get? a = some o) (h2 : o.cls = .type "dict") (h3 : o.data = .dict es n)
    (kk : RKs P wd h (es.toList.map (·.key)) (kvs.map (·.1))) (kv : RKs P wd h (es.toList.map (·.val)) (kvs.map (·.2))) (hz : (PyData.dict kvs).shown.length ≤ sizeLine) : RK P wd h (.ref a) (.dict kvs) ∧ RC P wd h a (.dict kvs) := by
  obtain ⟨as1, b1, r1, m1, k1⟩ := kk
  obtain ⟨as2, b2, r2, m2, k2⟩ := kv
  have rr : Reads h (.ref a) (.dict kvs) _ := .dict h1 h2 h3 r1 r2
  have m : ReadAtMost h (PyData.depthKv kvs) (b1 ++ b2) := (m1.mono (PyData.depthAll_keys_le kvs)).append (m2.mono (PyData.depthAll_vals_le kvs))
  have na : a ∉ b1 ++ b2 := not_mem_of_deeper rr (by simp only [PyData.depth]; omega) m
  have hz' : (dictText (PyData.shownKv kvs)).length ≤ sizeLine := by simpa only [PyData.shown] using hz
  have hE := ReprEntriesK.of_two es.toList _ _ (k1.more_le (fun b hb => List.mem_append_left b2 hb) (PyData.depthAll_keys_le kvs)) (k2.more_le (fun b hb => List.mem_append_right b1 hb) (PyData.depthAll_vals_le kvs))
  refine ⟨⟨_, a :: (b1 ++ b2), rr, ReadAtMost.cons rr (by simp only [PyData.depth]; omega) m, ?_⟩, fun A E s Q hg hu hs hQ => ?_⟩
  · simp only [PyData.depth, PyData.shown, PyData.shownKv_eq]
    exact ReprK.dict h1 h2 h3 hsys na hE
  · subst hs
    simp only [PyData.depth] at hu
    simp only [PyData.shown, PyData.shownKv_eq] at hQ
    refine call_repr_slot (by omega) ⟨o, h1, h2⟩ F.slot_dict_repr ?_
    exact call_dict_reprK h1 h2 h3 hsys na hE hg (fun b _ => Clear.nil b) (by show A.units + 1 + _ < _; omega) (fun _ _ e => e) (fun h' u tk hk => ⟨_, _, rfl, hQ h' u tk hk⟩) (by rw [← PyData.shownKv_eq]; exact hz')

theorem rds_map (ws : List W) : rDs ws = ws.map rD := by
  induction ws with
  | nil => rfl
  | cons w ws ih => rw [rDs, ih]; rfl
theorem zip_fst : ∀ {as bs : List PyData}, as.length = bs.length → (zipD as bs).map (·.1) = as ∧ (zipD as bs).map (·.2) = bs
  | [], [], _ => ⟨rfl, rfl⟩
  | a :: as, b :: bs, e => by
    obtain ⟨h1, h2⟩ := zip_fst (as := as) (bs := bs) (by simpa using e)
    exact ⟨by rw [zipD, List.map_cons, h1], by rw [zipD, List.map_cons, h2]⟩
  | [], _ :: _, e => by simp at e
  | _ :: _, [], e => by simp at e
theorem rk_keys {kvs : List (Key × Value)} : ∀ {es : List DictEntry}, Pairs (mixKind P wd) es kvs → rOks 0 (kvs.map fun p => kW p.1) = true → (∀ t ∈ PyData.shownAll (rDs (kvs.map fun p => kW p.1)), t.length ≤ sizeLine) → RKs P wd h (es.map (·.key)) (rDs (kvs.map fun p => kW p.1)) := by
  induction kvs with
  | nil => intro es p _ _; cases p; exact .nil
  | cons kv kvs ih =>
    intro es p ok hz
    cases p with
    | cons h1 h2 p =>
      rw [List.map_cons, rOks, Bool.and_eq_true] at ok
      simp only [List.map_cons, rDs, PyData.shownAll, List.mem_cons] at hz
      refine RKs.cons ?_ (ih p ok.2 fun t ht => hz t (.inr ht))
      have ok1 : rOk 0 (kW kv.1) = true := ok.1
      have hz1 : (rD (kW kv.1)).shown.length ≤ sizeLine := hz _ (.inl rfl)
      dsimp only
      rcases keyIs_shape (show keyIs kv.1 _ = true from h1) with ⟨i, t, e1, e2⟩ | ⟨x, t, e1, e2⟩
      · rw [e1] at ok1 ⊢
        rw [e2]
        refine ⟨[], [], .int i t, (fun _ h => nomatch h), ?_⟩
        show ReprK P wd [] h (PyData.int i).depth (.int i t) (PyData.int i).shown
        simp only [PyData.shown]
        exact .of_is (ReprIs.int t (by simpa [kW, rOk] using ok1)) _ _ _
      · rw [e1] at hz1 ⊢
        rw [e2]
        refine ⟨[], [], .str x t, (fun _ h => nomatch h), ?_⟩
        show ReprK P wd [] h (PyData.str x).depth (.str x t) (PyData.str x).shown
        simp only [PyData.shown]
        exact .of_is (ReprIs.str x t (by simpa only [kW, rD, PyData.shown] using hz1)) _ _ _
theorem rOks_keys {n : Nat} : ∀ {kvs : List (Key × V)}, rOks n (kvs.map fun p => kW p.1) = true → rOks 0 (kvs.map fun p => kW p.1) = true
  | [], _ => rfl
  | (k, v) :: kvs, h => by
    simp only [List.map_cons, rOks, Bool.and_eq_true] at h ⊢
    refine ⟨?_, rOks_keys h.2⟩
    cases k with
    | inl i => have := h.1; cases n <;> simpa [kW, rOk] using this
    | inr x => cases n <;> rfl
theorem shown_mem_lst {ds : List PyData} (hz : (PyData.list ds).shown.length ≤ sizeLine) : ∀ t ∈ PyData.shownAll ds, t.length ≤ sizeLine := fun t ht => Nat.le_trans (listText_mem_le ht) (by simpa only [PyData.shown] using hz)
theorem shown_mem_tup {ds : List PyData} (hz : (PyData.tuple ds).shown.length ≤ sizeLine) : ∀ t ∈ PyData.shownAll ds, t.length ≤ sizeLine := fun t ht => Nat.le_trans (tupleText_mem_le ht) (by simpa only [PyData.shown] using hz)
/-- the texts of all values of a depth, by those of less depth -/
theorem rk_all {n : Nat} (ih : ∀ (w : W) (v : V) (u : Value), rOk n w = true → Rep K mg M H w v → RelV v u → (rD w).shown.length ≤ sizeLine → RK P wd h u (rD w)) : ∀ (ws : List W) (vs : List V) (us : List Value), rOks n ws = true → RepL K mg M H ws vs → Vals vs us → (∀ t ∈ PyData.shownAll (rDs ws), t.length ≤ sizeLine) → RKs P wd h us (rDs ws)
  | [], vs, us, _, r, q, _ => by
    have e : vs = [] := r
    subst e
    cases q
    exact .nil
  | w :: ws, _, _, ok, ⟨v, vs, e, r1, r2⟩, q, hz => by
    subst e
    cases q with
    | cons q1 q2 =>
      rw [rOks, Bool.and_eq_true] at ok
      simp only [rDs, PyData.shownAll, List.mem_cons] at hz
      exact RKs.cons (ih w v _ ok.1 r1 q1 (hz _ (.inl rfl))) (rk_all ih ws vs _ ok.2 r2 q2 fun t ht => hz t (.inr ht))
theorem kv_two : ∀ {kvs : List (Key × V)} {xs : List (Key × Value)}, KV kvs xs → ((kvs.map fun p => kW p.1) = xs.map fun p => kW p.1) ∧ Vals (kvs.map (·.2)) (xs.map (·.2))
  | _, _, .nil => ⟨rfl, .nil⟩
  | _, _, .cons e r => by
    obtain ⟨h1, h2⟩ := kv_two r
    exact ⟨by rw [List.map_cons, List.map_cons, e.1, h1], .cons e.2 h2⟩
/-- a dict at a -/
theorem rk_dK {n : Nat} (ih : ∀ (w : W) (v : V) (u : Value), rOk n w = true → Rep K mg M H w v → RelV v u → (rD w).shown.length ≤ sizeLine → RK P wd h u (rD w)) {a : Addr} {kvs : List (Key × V)} {ws : List W} (hok : ObjOk P wd H h a (.dK kvs))
    (o1 : rOks n (kvs.map fun p => kW p.1) = true) (o2 : rOks n ws = true) (rl : RepL K mg M H ws (kvs.map (·.2))) (hz : (rD (.dic (kvs.map fun p => kW p.1) ws)).shown.length ≤ sizeLine) :
    RK P wd h (.ref a) (rD (.dic (kvs.map fun p => kW p.1) ws)) ∧ RC P wd h a (rD (.dic (kvs.map fun p => kW p.1) ws)) := by
  obtain ⟨_, hsys, xs, kv, o, es, ep, g1, g2, g3, _, pr, _⟩ := hok
  have hl : kvs.length = ws.length := by have := rl.len; rwa [List.length_map] at this
  have el : (rDs (kvs.map fun p => kW p.1)).length = (rDs ws).length := by rw [rds_map, rds_map, List.length_map, List.length_map, List.length_map, hl]
  obtain ⟨z1, z2⟩ := zip_fst el
  obtain ⟨ek, vv⟩ := kv_two kv
  have ev : ∀ {es : List DictEntry} {xs : List (Key × Value)}, Pairs (mixKind P wd) es xs → es.map (·.val) = xs.map (·.2) := fun p => by
    induction p with
    | nil => rfl
    | cons _ e _ ih => rw [List.map_cons, List.map_cons, e, ih]
  have hz2 : (dictText (PyData.shownKv (zipD (rDs (kvs.map fun p => kW p.1)) (rDs ws)))).length ≤ sizeLine := by simpa only [rD, PyData.shown] using hz
  have kk : RKs P wd h (es.toList.map (·.key)) ((zipD (rDs (kvs.map fun p => kW p.1)) (rDs ws)).map (·.1)) := by
    rw [z1, ek]
    refine rk_keys pr (by rw [← ek]; exact rOks_keys o1) fun t ht => ?_
    rw [← ek, ← z1] at ht
    obtain ⟨p, hp, hl⟩ := PyData.shownKv_key_le _ t ht
    exact Nat.le_trans hl (Nat.le_trans (dictText_mem_le hp) hz2)
  have kv' : RKs P wd h (es.toList.map (·.val)) ((zipD (rDs (kvs.map fun p => kW p.1)) (rDs ws)).map (·.2)) := by
    rw [z2, ev pr]
    refine rk_all ih ws _ _ o2 rl vv fun t ht => ?_
    rw [← z2] at ht
    obtain ⟨p, hp, hl⟩ := PyData.shownKv_val_le _ t ht
    exact Nat.le_trans hl (Nat.le_trans (dictText_mem_le hp) hz2)
  rw [rD]
  exact rk_dic hsys g1 g2.1 g3 kk kv' (by simpa only [rD] using hz)
theorem rk_of (hok : HOk P wd H h) : ∀ (n : Nat) (w : W) (v : V) (u : Value), rOk n w = true → Rep K mg M H w v → RelV v u → (rD w).shown.length ≤ sizeLine → RK P wd h u (rD w) := by
  have flat : ∀ (n : Nat) (w : W) (v : V) (u : Value), flatW w = true → rOk n w = true → Rep K mg M H w v → RelV v u → (rD w).shown.length ≤ sizeLine → RK P wd h u (rD w) := by
    intro n w v u f ok r q hz
    cases w with
    | non =>
      obtain rfl : v = .non := r
      obtain rfl : u = Value.none := q
      exact ⟨[], [], .none, (fun _ h => nomatch h), by simp only [rD, PyData.shown]; exact .of_is ReprIs.none _ _ _⟩
    | bl b =>
      obtain rfl : v = .bl b := r
      obtain rfl : u = Value.bool b := q
      exact ⟨[], [], .bool b, (fun _ h => nomatch h), by simp only [rD, PyData.shown]; exact .of_is (ReprIs.bool b) _ _ _⟩
    | int i =>
      obtain rfl : v = .int i := r
      obtain ⟨t, rfl⟩ := q
      exact ⟨[], [], .int i t, (fun _ h => nomatch h), by simp only [rD, PyData.shown]; exact .of_is (ReprIs.int t (by cases n <;> simpa [rOk] using ok)) _ _ _⟩
    | str x =>
      obtain rfl : v = .str x := r
      obtain ⟨t, rfl⟩ := q
      exact ⟨[], [], .str x t, (fun _ h => nomatch h), by simp only [rD, PyData.shown]; exact .of_is (ReprIs.str x t (by simpa only [rD, PyData.shown] using hz)) _ _ _⟩
    | _ => simp [flatW] at f
  intro n
  induction n with
  | zero =>
    intro w v u ok
    cases w <;> first | exact flat 0 _ v u rfl ok | (simp [rOk] at ok)
  | succ n ih =>
    intro w v u ok r q hz
    cases w with
    | tup ws =>
      obtain ⟨a, vs, rfl, h1, h2⟩ := r
      obtain rfl : u = Value.ref a := q
      obtain ⟨_, its, vv, ht⟩ := (show ObjOk P wd H h a (.tup vs) from hok a _ h1)
      rw [rD] at hz ⊢
      exact (rk_tup ht (rk_all ih ws vs its (by simpa [rOk] using ok) h2 vv (shown_mem_tup hz)) hz).1
    | lst ws =>
      obtain ⟨a, vs, rfl, h1, h2⟩ := r
      obtain rfl : u = Value.ref a := q
      obtain ⟨_, its, _, vv, ht⟩ := (show ObjOk P wd H h a (.lst vs) from hok a _ h1.1)
      rw [rD] at hz ⊢
      exact (rk_lst ht rfl rfl (rk_all ih ws vs its (by simpa [rOk] using ok) h2 vv (shown_mem_lst hz)) hz).1
    | dic ks ws =>
      obtain ⟨a, kvs, rfl, ⟨o, h1⟩, rfl, h3⟩ := r
      obtain rfl : u = Value.ref a := q
      rw [rOk, Bool.and_eq_true, Bool.and_eq_true] at ok
      exact (rk_dK ih (show ObjOk P wd H h a (.frz o (.dK kvs)) from hok a _ h1).2 ok.1 ok.2.1 h3 hz).1
    | non => exact flat (n + 1) _ v u rfl ok r q hz
    | bl b => exact flat (n + 1) _ v u rfl ok r q hz
    | int i => exact flat (n + 1) _ v u rfl ok r q hz
    | str x => exact flat (n + 1) _ v u rfl ok r q hz
    | _ => simp [rOk] at ok
theorem depth_of : ∀ (n : Nat) (w : W), rOk n w = true → (rD w).depth ≤ n := by
  have all : ∀ (n : Nat), (∀ w, rOk n w = true → (rD w).depth ≤ n) → ∀ ws, rOks n ws = true → PyData.depthAll (rDs ws) ≤ n := by
    intro n ih ws
    induction ws with
    | nil => intro _; rw [rDs, PyData.depthAll]; exact Nat.zero_le _
    | cons w ws ih2 =>
      intro ok
      rw [rOks, Bool.and_eq_true] at ok
      rw [rDs, PyData.depthAll]
      exact Nat.max_le.mpr ⟨ih w ok.1, ih2 ok.2⟩
  have kv : ∀ (n : Nat) (as bs : List PyData), PyData.depthAll as ≤ n → PyData.depthAll bs ≤ n → PyData.depthKv (zipD as bs) ≤ n := by
    intro n as
    induction as with
    | nil => intro bs _ _; cases bs <;> (rw [zipD] <;> first | (rw [PyData.depthKv]; exact Nat.zero_le _) | (intros; simp_all))
    | cons a as ih =>
      intro bs h1 h2
      cases bs with
      | nil => rw [zipD] <;> first | (rw [PyData.depthKv]; exact Nat.zero_le _) | (intros; simp_all)
      | cons b bs =>
        rw [PyData.depthAll] at h1 h2
        rw [zipD, PyData.depthKv]
        have := Nat.max_le.mp h1
        have := Nat.max_le.mp h2
        exact Nat.max_le.mpr ⟨Nat.max_le.mpr ⟨by omega, by omega⟩, ih bs (by omega) (by omega)⟩
  intro n
  induction n with
  | zero => intro w ok; cases w <;> first | (simp [rOk] at ok; done) | (rw [rD, PyData.depth] <;> first | exact Nat.le_refl _ | (intros; simp_all))
  | succ n ih =>
    intro w ok
    cases w with
    | tup ws => rw [rOk] at ok; rw [rD, PyData.depth]; exact Nat.succ_le_succ (all n ih ws ok)
    | lst ws => rw [rOk] at ok; rw [rD, PyData.depth]; exact Nat.succ_le_succ (all n ih ws ok)
    | dic ks ws =>
      rw [rOk, Bool.and_eq_true, Bool.and_eq_true] at ok
      rw [rD, PyData.depth]
      exact Nat.succ_le_succ (kv n _ _ (all n ih ks ok.1) (all n ih ws ok.2.1))
    | _ => first | (simp [rOk] at ok; done) | (rw [rD, PyData.depth] <;> first | exact Nat.zero_le _ | (intros; simp_all))
end
section
variable {X : Cx}
theorem call_reprW (gd : X.A.guards = some []) (hu : X.A.units + 70 < cLine) : CallR X (.builtin "repr") (fun xs H Q => ∃ (M : AP') (v : V) (w : W), xs = [v] ∧ RepB X.K X.mg M H w v ∧ rOk 30 w = true ∧ (rD w).shown.length ≤ sizeLine ∧ Q (.str (rD w).shown) H) := by
  intro pins s σ H xs us Q I r h
  obtain ⟨M, v, w, rfl, rw', ok, hz, q⟩ := h
  obtain ⟨u, rfl, q1⟩ := vals1 r
  have dp := depth_of 30 w ok
  have fin : ∀ (a : Addr), RC X.prog X.w s.heap a (rD w) → wpAny (model X.prog X.w) X.A (call (.builtin "repr") [.ref a]) (EP X pins σ Q) X.xe s := fun a rc =>
    rc X.A X.xe s _ gd (by omega) rfl fun h' u tk hk => ⟨.str (rD w).shown, H, I.kept (t' := tk) hk, ⟨u, rfl⟩, q⟩
  have ih := rk_of (P := X.prog) (wd := X.w) (h := s.heap) (K := X.K) (mg := X.mg) (M := M) I.hok 29
  have hok := I.hok
  cases w with
  | non =>
    obtain rfl := repB_non rw'
    obtain rfl : u = Value.none := q1
    exact PySem.P.repr_of_none ⟨.str (rD .non).shown, H, I.tok _, ⟨_, by rw [rD, PyData.shown]⟩, q⟩
  | bl b =>
    obtain rfl := repB_bl rw'
    obtain rfl : u = Value.bool b := q1
    exact PySem.P.repr_of_bool ⟨.str (rD (.bl b)).shown, H, I.tok _, ⟨_, by rw [rD, PyData.shown]⟩, q⟩
  | int i =>
    obtain rfl := repB_int rw'
    obtain ⟨t, rfl⟩ := q1
    exact PySem.P.repr_of_int (by simpa [rOk] using ok) ⟨.str (rD (.int i)).shown, H, I.tok _, ⟨_, by rw [rD, PyData.shown]⟩, q⟩
  | str x =>
    obtain rfl := repB_str rw'
    obtain ⟨t, rfl⟩ := q1
    exact PySem.P.repr_of_str ⟨.str (rD (.str x)).shown, H, I.tok _, ⟨_, by rw [rD, PyData.shown]⟩, q⟩ (by simpa only [rD, PyData.shown] using hz)
  | tup ws =>
    obtain ⟨a, vs, rfl, h1, h2⟩ := repB_tupH rw'
    obtain rfl : u = Value.ref a := q1
    obtain ⟨_, its, vv, ht⟩ := (show ObjOk X.prog X.w H s.heap a (.tup vs) from hok a _ h1)
    exact fin a (rk_tup ht (rk_all ih ws vs its (by simpa [rOk] using ok) h2 vv (shown_mem_tup (by simpa only [rD] using hz))) (by simpa only [rD] using hz)).2
  | lst ws =>
    obtain ⟨a, vs, rfl, h1, h2⟩ := repB_lst rw'
    obtain rfl : u = Value.ref a := q1
    obtain ⟨_, its, _, vv, ht⟩ := (show ObjOk X.prog X.w H s.heap a (.lst vs) from hok a _ h1)
    exact fin a (rk_lst ht rfl rfl (rk_all ih ws vs its (by simpa [rOk] using ok) h2 vv (shown_mem_lst (by simpa only [rD] using hz))) (by simpa only [rD] using hz)).2
  | dic ks ws =>
    obtain ⟨a, kvs, rfl, h1, rfl, h3⟩ := repB_dic rw'
    obtain rfl : u = Value.ref a := q1
    rw [rOk, Bool.and_eq_true, Bool.and_eq_true] at ok
    have ob : ObjOk X.prog X.w H s.heap a (.dK kvs) := by
      rcases h1 with h1 | ⟨o, h1⟩
      · exact hok a _ h1
      · exact (show ObjOk X.prog X.w H s.heap a (.frz o (.dK kvs)) from hok a _ h1).2
    exact fin a (rk_dK ih ob ok.1 ok.2.1 h3 hz).2
  | _ => simp [rOk] at ok
theorem bi_repr (gd : X.A.guards = some []) (hu : X.A.units + 70 < cLine) {ws : List W} {w : W} (h : reprW ws = some w) : BiSem X "repr" ws w := by
  unfold reprW at h
  split at h
  · rename_i x
    split at h <;> cases h
    rename_i hz
    refine ⟨_, .inl ⟨_, call_reprW gd hu, by decide +kernel⟩, fun M H vs Q tr r k => ?_⟩
    obtain ⟨v, rfl, r1⟩ := repBs1 r
    exact ⟨M, v, x, rfl, r1, hz.1, hz.2, k H _ (Kp.refl _ _) rfl⟩
  · cases h
end
end PM

namespace PM
open PySem L2
theorem insInt_perm (x : Int) : ∀ l, (insInt x l).Perm (x :: l)
  | [] => .refl _
  | y :: ys => by
    unfold insInt
    split
    · exact .refl _
    · exact (List.Perm.cons y (insInt_perm x ys)).trans (List.Perm.swap x y ys)
theorem sortInt_perm : ∀ l, (sortInt l).Perm l
  | [] => .refl _
  | x :: xs => (insInt_perm x (sortInt xs)).trans (.cons x (sortInt_perm xs))
theorem insInt_srt (x : Int) : ∀ l, l.Pairwise (· ≤ ·) → (insInt x l).Pairwise (· ≤ ·)
  | [], _ => List.pairwise_singleton _ _
  | y :: ys, h => by
    obtain ⟨h1, h2⟩ := List.pairwise_cons.mp h
    unfold insInt
    split
    · rename_i hx
      refine List.pairwise_cons.mpr ⟨fun z hz => ?_, h⟩
      rcases List.mem_cons.mp hz with e | hz
      · rw [e]; exact hx
      · exact Int.le_trans hx (h1 z hz)
    · refine List.pairwise_cons.mpr ⟨fun z hz => ?_, insInt_srt x ys h2⟩
      rcases List.mem_cons.mp ((insInt_perm x ys).mem_iff.mp hz) with e | hz
      · rw [e]; omega
      · exact h1 z hz
theorem sortInt_srt : ∀ l, (sortInt l).Pairwise (· ≤ ·)
  | [] => .nil
  | x :: xs => insInt_srt x _ (sortInt_srt xs)
theorem sortInt_eq {l m : List Int} (h : m.Perm l) (s : m.Pairwise (· ≤ ·)) : m = sortInt l :=
  (h.trans (sortInt_perm l).symm).eq_of_pairwise (fun x y _ _ h1 h2 => Int.le_antisymm h1 h2) s (sortInt_srt l)
theorem insP_perm (x : Int × Int) : ∀ l, (insP x l).Perm (x :: l)
  | [] => .refl _
  | y :: ys => by
    unfold insP
    split
    · exact .refl _
    · exact (List.Perm.cons y (insP_perm x ys)).trans (List.Perm.swap x y ys)
theorem sortP_perm : ∀ l, (sortP l).Perm l
  | [] => .refl _
  | x :: xs => (insP_perm x (sortP xs)).trans (.cons x (sortP_perm xs))
theorem leP_iff {p q : Int × Int} : leP p q = true ↔ p.1 < q.1 ∨ (p.1 = q.1 ∧ p.2 ≤ q.2) := by
  unfold leP
  simp
theorem insP_srt (x : Int × Int) : ∀ l, l.Pairwise (fun p q => leP p q = true) → (insP x l).Pairwise (fun p q => leP p q = true)
  | [], _ => List.pairwise_singleton _ _
  | y :: ys, h => by
    obtain ⟨h1, h2⟩ := List.pairwise_cons.mp h
    unfold insP
    split
    · rename_i hx
      refine List.pairwise_cons.mpr ⟨fun z hz => ?_, h⟩
      rcases List.mem_cons.mp hz with e | hz
      · rw [e]; exact hx
      · have a := leP_iff.mp hx
        have b := leP_iff.mp (h1 z hz)
        exact leP_iff.mpr (by omega)
    · rename_i hx
      refine List.pairwise_cons.mpr ⟨fun z hz => ?_, insP_srt x ys h2⟩
      rcases List.mem_cons.mp ((insP_perm x ys).mem_iff.mp hz) with e | hz
      · rw [e]
        refine leP_iff.mpr ?_
        have : ¬ (x.1 < y.1 ∨ (x.1 = y.1 ∧ x.2 ≤ y.2)) := fun z => hx (leP_iff.mpr z)
        omega
      · exact h1 z hz
theorem sortP_srt : ∀ l, (sortP l).Pairwise (fun p q => leP p q = true)
  | [] => .nil
  | x :: xs => insP_srt x _ (sortP_srt xs)
theorem sortP_eq {l m : List (Int × Int)} (h : m.Perm l) (s : m.Pairwise (fun p q => leP p q = true)) : m = sortP l :=
  (h.trans (sortP_perm l).symm).eq_of_pairwise (fun x y _ _ h1 h2 => by
    have a := leP_iff.mp h1
    have b := leP_iff.mp h2
    exact Prod.ext (by omega) (by omega)) s (sortP_srt l)
section
variable {X : Cx}
theorem pairs_vals {K : PySem.W.Frag} {mg : Str → Option Value} {M : AP'} {H : Hp} : ∀ {ws : List W} {vs : List V} {l : List (Int × Int)}, pairs? ws = some l → RepL K mg M H ws vs → ws = l.map pairW ∧ vs.length = l.length ∧ ∀ (i : Nat) v q, vs[i]? = some v → l[i]? = some q → ∃ t, v = .ref t ∧ H t = some (.tup [.int q.1, .int q.2])
  | [], vs, l, h, r => by
    cases h
    have e : vs = [] := r
    subst e
    exact ⟨rfl, rfl, fun i v q h => by simp at h⟩
  | .tup [.int i, .int j] :: ws, _, l, h, ⟨v, r, e, h1, h2⟩ => by
    simp only [pairs?] at h
    cases q : pairs? ws with
    | none => rw [q] at h; cases h
    | some l' =>
      rw [q] at h; cases h
      obtain ⟨a, b, c⟩ := pairs_vals q h2
      subst e
      refine ⟨by rw [a]; rfl, by rw [List.length_cons, List.length_cons, b], fun k u p hk hp => ?_⟩
      cases k with
      | zero =>
        simp at hk hp
        subst hk hp
        obtain ⟨t, us, rfl, h3, x, xr, e2, e3, y, yr, e4, e5, e6⟩ := h1
        have e3' : x = .int i := e3
        have e5' : y = .int j := e5
        have e6' : yr = [] := e6
        subst e2 e4 e3' e5' e6'
        exact ⟨t, rfl, h3⟩
      | succ k => exact c k u p (by simpa using hk) (by simpa using hp)
def keyV (H : Hp) : V → Int × Int
  | .ref t => match H t with
    | some (.tup [.int i, .int j]) => (i, j)
    | _ => (0, 0)
  | _ => (0, 0)
theorem keyV_at {H : Hp} {t : Addr} {q : Int × Int} (h : H t = some (.tup [.int q.1, .int q.2])) : keyV H (.ref t) = q := by
  simp only [keyV, h]
theorem map_keyV {H : Hp} : ∀ {vs : List V} {l : List (Int × Int)}, vs.length = l.length → (∀ (i : Nat) v q, vs[i]? = some v → l[i]? = some q → ∃ t, v = .ref t ∧ H t = some (.tup [.int q.1, .int q.2])) → vs.map (keyV H) = l
  | [], [], _, _ => rfl
  | v :: vs, q :: l, hl, h => by
    obtain ⟨t, rfl, e⟩ := h 0 v q rfl rfl
    rw [List.map_cons, keyV_at e, map_keyV (by simpa using hl) fun i v q a b => h (i + 1) v q (by simpa using a) (by simpa using b)]
  | [], _ :: _, hl, _ => by simp at hl
  | _ :: _, [], hl, _ => by simp at hl
theorem repL_keyV {K : PySem.W.Frag} {mg : Str → Option Value} {M : AP'} {H : Hp} : ∀ {ys : List V}, (∀ y ∈ ys, ∃ t, y = .ref t ∧ H t = some (.tup [.int (keyV H y).1, .int (keyV H y).2])) → RepL K mg M H ((ys.map (keyV H)).map pairW) ys
  | [], _ => rfl
  | y :: ys, h => by
    obtain ⟨t, e, h1⟩ := h y List.mem_cons_self
    refine ⟨y, ys, rfl, ?_, repL_keyV fun z hz => h z (List.mem_cons_of_mem _ hz)⟩
    exact ⟨t, _, e, h1, _, _, rfl, rfl, _, _, rfl, rfl, rfl⟩
theorem repL_ints {K : PySem.W.Frag} {mg : Str → Option Value} {M : AP'} {H : Hp} : ∀ (l : List Int), RepL K mg M H (l.map W.int) (l.map V.int)
  | [] => rfl
  | i :: l => ⟨_, _, rfl, rfl, repL_ints l⟩
theorem repB_lstW {K : PySem.W.Frag} {mg : Str → Option Value} {M : AP'} {H : Hp} {w : W} {ws : List W} {v : V} (h : RepB K mg M H w v) (e : lstW w = some ws) : ∃ a vs, v = .ref a ∧ SqL K H a vs ∧ RepL K mg M H ws vs := by
  cases w with
  | lst us => cases e; obtain ⟨a, vs, rfl, h1, h2⟩ := repB_lst h; exact ⟨a, vs, rfl, .inl (.inl h1), h2⟩
  | rol us => cases e; obtain ⟨a, vs, rfl, h1, h2⟩ := repB_rol h; exact ⟨a, vs, rfl, h1.sq, h2⟩
  | _ => cases e
theorem upd_some {H : Hp} {p : Addr} {o : HO} : upd H p o p ≠ none := by rw [upd_same]; exact fun z => nomatch z
theorem fb_sorted {ws : List W} {w : W} (h : sortedW ws = some w) : FbSem X "sorted" ws w := by
  have hb : bootBuiltins "sorted" = some (.builtin "sorted") := by decide +kernel
  unfold sortedW at h
  split at h
  · rename_i u
    split at h
    · rename_i us hu
      split at h
      · rename_i l hl
        cases h
        refine ⟨_, .inl ⟨_, cr_sortedI, hb⟩, fun M H vs Q tr r k => ?_⟩
        obtain ⟨v, rfl, r1⟩ := repBs1 r
        obtain ⟨a, vs, rfl, h1, h2⟩ := repB_lstW r1 hu
        obtain ⟨e1, e2⟩ := ints_vals hl h2
        subst e1
        · refine ⟨a, l, rfl, h1, fun ns p hp hs hn => ?_⟩
          have e := sortInt_eq hp hs
          subst e
          exact k _ p hn (Kp.new _ hn) upd_some ⟨_, upd_same, repL_ints _⟩
      · split at h
        · rename_i l hl
          cases h
          refine ⟨_, .inl ⟨_, cr_sortedPO, hb⟩, fun M H vs Q tr r k => ?_⟩
          obtain ⟨v, rfl, r1⟩ := repBs1 r
          obtain ⟨a, vs, rfl, h1, h2⟩ := repB_lstW r1 hu
          obtain ⟨e1, e2, e3⟩ := pairs_vals hl h2
          · have hk : ∀ x ∈ vs, ∃ t, x = .ref t ∧ H t = some (.tup [.int (keyV H x).1, .int (keyV H x).2]) := fun x hx => by
              obtain ⟨i, hi⟩ := List.getElem?_of_mem hx
              have hlt : i < l.length := by rw [← e2]; exact (List.getElem?_eq_some_iff.mp hi).1
              obtain ⟨t, rfl, e⟩ := e3 i x l[i] hi (List.getElem?_eq_getElem hlt)
              exact ⟨t, rfl, by rw [keyV_at e]; exact e⟩
            refine ⟨a, vs, keyV H, rfl, h1, hk, fun ys p hs st hn => ?_⟩
            have em : vs.map (keyV H) = l := map_keyV e2 e3
            have e : ys.map (keyV H) = sortP l := sortP_eq (by rw [← em]; exact st.perm.map _) (by
              rw [List.pairwise_map]
              refine hs.imp fun {x y} hxy => ?_
              have : ¬ (SrtO.lexB (keyV H y) (keyV H x) = true) := by rw [show SrtO.lexB (keyV H y) (keyV H x) = false from hxy]; decide
              rw [SrtO.lexB_iff] at this
              exact leP_iff.mpr (by omega))
            refine k _ p hn (Kp.new _ hn) upd_some ⟨_, upd_same, ?_⟩
            rw [← e]
            have q := repL_keyV (K := X.K) (mg := X.mg) (M := M) (H := H) (ys := ys) fun y hy => hk y (st.perm.mem_iff.mp hy)
            exact q.kp (Kp.new (fun _ => False) hn) (fun _ z => z.elim) fun x z => z.imp id fun e => by rw [e]; exact hn
        · cases h
    · cases h
  · cases h
theorem fb_list {ws : List W} {w : W} (h : listW ws = some w) : FbSem X "list" ws w := by
  have hb : bootBuiltins "list" = some (.type "list") := by decide +kernel
  unfold listW at h
  split at h
  · rename_i u
    split at h <;> cases h
    rename_i us hu
    refine ⟨_, .inr ⟨_, call_list_of, hb⟩, fun M H vs Q tr r k => ?_⟩
    obtain ⟨v, rfl, r1⟩ := repBs1 r
    obtain ⟨a, vs, rfl, h1, h2, h3, h4⟩ := repB_seq r1 hu
    exact ⟨a, vs, rfl, h1, fun l hl => k _ l hl (Kp.new _ hl) upd_some (own_newL hl h2 fun x z => z)⟩
  · cases h
end
end PM

namespace PM
open PySem L2
section
variable {X : Cx} {F : Frm} {Wx : WX} {x name : Str} {p apos cpos : Pos} {e : Expr} {es : List Expr}
theorem all_few {env : PySem.Env} {pos : Pos} : ∀ {es : List Expr}, es.all nS = true → (backTo pos (starEach es env)).all (fun x => !x.1) = true
  | [], _ => rfl
  | e :: es, h => by
    rw [List.all_cons, Bool.and_eq_true] at h
    rw [star_cons h.1]
    show (true && (backTo pos (starEach es env)).all (fun x => !x.1)) = true
    rw [all_few h.2]; rfl
theorem few_of {env : PySem.Env} {pos : Pos} {es : List Expr} (h : es.all nS = true) (hl : es.length < 30) : ((backTo pos (starEach es env)).all (fun x => !x.1) && (backToKw pos (keywordEach [] env)).all (fun x => x.1.isSome)
      && decide (es.length + ([] : List Keyword).length + (if ([] : List Keyword).isEmpty then 0 else 1) < 30)) = true := by
  rw [all_few h]
  show (true && decide (es.length + 0 + 0 < 30)) = true
  rw [decide_eq_true (by omega)]; rfl
/-- what a method of an own object asks and gives -/
def OmSem (K : PySem.W.Frag) (mg : Str → Option Value) (r : V → List V → Hp → VK → Prop) (w : W) (ws : List W) (z w' : W) : Prop := ∀ (M : AP') (H : Hp) (a : Addr) (vs : List V) (Q : VK), M a → OwnAt K mg M H a w → RepL K mg M H ws vs →
  (∀ o u, OwnAt K mg M (upd H a o) a w' → Rep K mg M (upd H a o) z u → Q u (upd H a o)) → r (.ref a) vs H Q
theorem own_upd {K : PySem.W.Frag} {mg : Str → Option Value} {M : AP'} {H : Hp} {a : Addr} {xs ys : List V} {ws : List W} (hm : M a) (h : H a = some (.lst xs)) (r : RepL K mg M H ws ys) : OwnAt K mg M (upd H a (.lst ys)) a (.lst ws) :=
  ⟨ys, upd_same, r.kp (Kp.mut (M := fun x => x = a) h (fun z => z) rfl) (fun x z => .inl (by subst z; exact hm)) fun _ z => .inl z⟩
theorem rep_upd {K : PySem.W.Frag} {mg : Str → Option Value} {M : AP'} {H : Hp} {a : Addr} {xs : List V} {o : HO} {w : W} {v : V} (hm : M a) (h : H a = some (.lst xs)) (r : Rep K mg M H w v) : Rep K mg M (upd H a o) w v :=
  Rep.kp (Kp.mut (M := fun x => x = a) h (fun z => z) rfl) (fun x z => .inl (by subst z; exact hm)) (fun _ z => .inl z) _ _ r
theorem om_append {K : PySem.W.Frag} {mg : Str → Option Value} {w z w' : W} {ws : List W} (h : appendW w ws = some (z, w')) : OmSem K mg rAppend w ws z w' := by
  unfold appendW at h
  split at h
  · rename_i us x
    split at h <;> cases h
    rename_i hz
    intro M H a vs Q hm o r k
    obtain ⟨xs, h1, h2⟩ := o
    obtain ⟨v, t, rfl, r1, r2⟩ := r
    obtain rfl : t = [] := r2
    exact ⟨a, xs, v, rfl, rfl, h1, by rw [h2.len]; exact sz6 (Nat.le_of_lt hz), k _ _ (own_upd hm h1 (h2.app (RepL.one r1))) rfl⟩
  · cases h
theorem om_pop {K : PySem.W.Frag} {mg : Str → Option Value} {w z w' : W} {ws : List W} (h : popW w ws = some (z, w')) : OmSem K mg rPop w ws z w' := by
  unfold popW at h
  split at h
  · rename_i us
    split at h <;> cases h
    rename_i hz
    intro M H a vs Q hm o r k
    obtain ⟨xs, h1, h2⟩ := o
    obtain rfl : vs = [] := r
    rw [List.getLast?_eq_getElem?] at hz
    obtain ⟨y, e, ry⟩ := h2.get hz
    refine ⟨a, xs, y, rfl, rfl, h1, by rw [h2.len]; exact e, k _ _ (own_upd hm h1 ?_) (rep_upd hm h1 ry)⟩
    rw [List.dropLast_eq_take, List.dropLast_eq_take, h2.len]
    exact h2.take _
  · cases h
theorem om_popAt {K : PySem.W.Frag} {mg : Str → Option Value} {w z w' : W} {ws : List W} (h : popAtW w ws = some (z, w')) : OmSem K mg rPopAt w ws z w' := by
  unfold popAtW at h
  split at h
  · rename_i us i
    split at h
    · rename_i hb
      split at h <;> cases h
      rename_i hz
      intro M H a vs Q hm o r k
      obtain ⟨xs, h1, h2⟩ := o
      obtain ⟨v, t, rfl, r1, r2⟩ := r
      obtain rfl : t = [] := r2
      obtain rfl : v = .int i := r1
      obtain ⟨y, e, ry⟩ := h2.get hz
      have hl := h2.len
      have hx : ixN xs.length i = some i.toNat := by
        unfold ixN
        rw [if_pos hb.1, if_pos (by rw [hl]; exact hb.2.1)]
      obtain ⟨s1, s2, s3, s4⟩ := ixN_seq hx
      refine ⟨a, xs, i, i.toNat, y, rfl, rfl, h1, by omega, by omega, s1, e, k _ _ (own_upd hm h1 (h2.erase _)) (rep_upd hm h1 ry)⟩
    · cases h
  · cases h
theorem om_extend {K : PySem.W.Frag} {mg : Str → Option Value} {w z w' : W} {ws : List W} (h : extendW w ws = some (z, w')) : OmSem K mg rExtend w ws z w' := by
  unfold extendW at h
  split at h
  · rename_i us ys
    split at h <;> cases h
    rename_i hz
    intro M H a vs Q hm o r k
    obtain ⟨xs, h1, h2⟩ := o
    obtain ⟨v, t, rfl, ⟨b, zs, rfl, h3, h4⟩, r2⟩ := r
    obtain rfl : t = [] := r2
    exact ⟨a, b, xs, zs, rfl, rfl, h1, h3.1, by rw [h2.len, h4.len]; exact Nat.le_of_lt (sz6 (Nat.le_of_lt hz)), k _ _ (own_upd hm h1 (h2.app h4)) rfl⟩
  · cases h
theorem tyV_lst {K : PySem.W.Frag} {H : Hp} {a : Addr} {xs : List V} (h : H a = some (.lst xs)) : tyV K "list" (.ref a) H := .inl ⟨rfl, xs, .inl (.inl h)⟩
/-- x.m(..), x an own name -/
theorem om_out {i : Nat} {w z w' : W} {ws : List W} {r : V → List V → Hp → VK → Prop} {α : Asg} {T : List Addr} {env1 : PM.Env} {σ : St} {H H1 : Hp} {a : Addr} {vs : List V} {hs : List Hd} {Q : VK} (os : OmSem X.K X.mg r w ws z w')
    (c1 : Cfg X.K X.mg F α T env1 σ H1) (k1 : Kp (Ow α) H H1) (ha : gO α i = some a) (hw : env1[i]? = some (.own w)) (rv : RepHs X.K X.mg (MM F α T) H1 α hs vs) (hp : pvs hs = some ws)
    (o : okE X.K X.mg F α T σ H Q (.v z) (env1.set i (.own w'))) : r (.ref a) vs H1 Q := by
  obtain ⟨a', e1, e2, oo⟩ := c1.sl i _ hw
  rw [ha] at e1; cases e1
  obtain ⟨ob, hb, nf⟩ := oo.fix
  refine os (MM F α T) H1 a vs Q (own_mm (ow_iff.mpr ⟨i, ha⟩)) oo (rv.vals hp) fun o' u oo' ru => ?_
  exact o _ u (c1.mut hw ha hb nf oo') (k1.trans (Kp.mut (M := fun x => x = a) hb nf rfl) fun x z => .inl (by subst z; exact ow_iff.mpr ⟨i, ha⟩)) ru
def mOm (i : Nat) (sem : W → List W → Option (W × W)) (ms : PM.Env → R (List Hd)) : PM.Env → R Hd := fun env => match env[i]? with
    | some (.own (.lst _)) => (ms env).bind fun hs e1 => match pvs hs, e1[i]? with
      | some ws, some (.own w) => match sem w ws with
        | some (r, w') => .ok (.v r) (e1.set i (.own w'))
        | none => .no
      | _, _ => .no
    | _ => .no
theorem se_om {i : Nat} {id : String} {r : V → List V → Hp → VK → Prop} {sem : W → List W → Option (W × W)} {ms : PM.Env → R (List Hd)} (hN : X.N[i]? = some x) (hv : Vis X.env.scope x) (hd : (x == ("__debug__" : Str)) = false) (hcd : (x == ("__classdict__" : Str)) = false)
    (pa : PlainAttrs "list") (slot : PySem.Slot "list" name id) (hty : typeOf (.builtin id) = pure (.type "method_descriptor")) (hm : MtR X id r) (ha : SA X F Wx (e :: es) ms) (hs : (e :: es).all nS = true) (hl : (e :: es).length < 30)
    (hline : (apos.endLine == cpos.line) = true) (hlst : ∀ w ws q, sem w ws = some q → ∃ us, w = .lst us) (os : ∀ w ws z w', sem w ws = some (z, w') → OmSem X.K X.mg r w ws z w') :
    SE X F Wx (.Call (.Attribute (.Name x p) name apos) (e :: es) [] cpos) (mOm i sem ms) := by
  have hs2 := hs
  rw [List.all_cons, Bool.and_eq_true] at hs2
  refine pe_by fun σ H Q hq => ⟨_, pe_bm (e := e) (es := es) pa slot hty hm (pe_var hN hv hd hcd) ha (by rfl) (few_of hs hl) hline (star_cons hs2.1) (star_any hs2.2), ?_⟩
  obtain ⟨α, T, env, c, o⟩ := tE_iff.mp hq
  unfold mOm at o
  cases q0 : env[i]? with
  | none => simp only [q0] at o; exact o.elim
  | some s =>
    cases s with
    | own w0 =>
      obtain ⟨a, e1, e2, oo⟩ := c.sl i _ q0
      cases w0 with
      | lst us0 =>
      simp only [q0] at o
      obtain ⟨xs0, hx0, _⟩ := oo
      refine ⟨_, gO_some e2, tyV_lst hx0, ?_⟩
      · refine tA_bind c o fun hs' e1' H1 vs q1 c1 k1 r1 o1 => ?_
        cases q2 : pvs hs' with
        | none => simp only [q2] at o1; exact o1.elim
        | some ws =>
          cases q3 : e1'[i]? with
          | none => simp only [q2, q3] at o1; exact o1.elim
          | some s =>
            cases s with
            | own w =>
              simp only [q2, q3] at o1
              cases q4 : sem w ws with
              | none => rw [q4] at o1; exact o1.elim
              | some zw =>
                obtain ⟨z, w'⟩ := zw
                rw [q4] at o1
                exact om_out (os _ _ _ _ q4) c1 k1 e1 q3 r1 q2 o1
            | _ => simp only [q2, q3] at o1; exact o1.elim
      | _ => simp only [q0] at o; exact o.elim
    | _ => simp only [q0] at o; exact o.elim
end
end PM

namespace PM
open PySem L2
section
variable {X : Cx} {F : Frm} {Wx : WX}
/-- an iterator yields the items, whatever is made or changed meanwhile elsewhere -/
def ItOk (K : PySem.W.Frag) (mg : Str → Option Value) (M : AP') (H0 : Hp) (J : It) (items : List W) : Prop := ∀ (i : Nat) (H : Hp), Kp M H0 H →
  (i = items.length → J.stop i H) ∧ ∀ w, items[i]? = some w → J.go i H ∧ ∀ x H', J.yld i H x H' → Kp (fun _ => False) H H' ∧ ∀ M' : AP', (∀ y, M' y → M y ∨ H0 y = none) → Rep K mg M' H' w x
def okI (K : PySem.W.Frag) (mg : Str → Option Value) (F : Frm) (α : Asg) (T : List Addr) (σ : St) (H : Hp) (R' : It → Hp → Prop) : List W → PM.Env → Prop := fun ws e => ∀ H' J, Cfg K mg F α T e σ H' → Kp (Ow α) H H' → ItOk K mg (MM F α T) H' J ws → R' J H'
def tI (K : PySem.W.Frag) (mg : Str → Option Value) (F : Frm) (Wx : WX) (m : PM.Env → R (List W)) : TI := fun σ H R' => ∃ α T env, Cfg K mg F α T env σ H ∧ OutR (okI K mg F α T σ H R') (exE K mg F Wx α T σ H) (m env)
abbrev SI (X : Cx) (F : Frm) (Wx : WX) (tg iter : Expr) (m : PM.Env → R (List W)) : Prop := PI X tg iter (tI X.K X.mg F Wx m)
theorem okI.later {K : PySem.W.Frag} {mg : Str → Option Value} {α : Asg} {T : List Addr} {σ : St} {H H1 : Hp} {R' : It → Hp → Prop} {ws : List W} {e : PM.Env} (k : Kp (Ow α) H H1) (h : okI K mg F α T σ H R' ws e) : okI K mg F α T σ H1 R' ws e := fun H' J c k' r => h H' J c (kk k k') r
theorem tI_bind {β : Type} {α : Asg} {T : List Addr} {env : PM.Env} {σ : St} {H : Hp} {m : PM.Env → R (List W)} {f : List W → PM.Env → R β} {P : β → PM.Env → Prop} {Rr : It → Hp → Prop} (c : Cfg X.K X.mg F α T env σ H) (o : OutR P (exE X.K X.mg F Wx α T σ H) ((m env).bind f))
    (k : ∀ ws e1 H1 J, m env = .ok ws e1 → Cfg X.K X.mg F α T e1 σ H1 → Kp (Ow α) H H1 → ItOk X.K X.mg (MM F α T) H1 J ws → OutR P (exE X.K X.mg F Wx α T σ H) (f ws e1) → Rr J H1) : tI X.K X.mg F Wx m σ H Rr := by
  refine ⟨α, T, env, c, ?_⟩
  cases q : m env with
  | ok hd e1 => rw [q] at o; exact fun H' J c' k' r => k hd e1 H' J q c' k' r o
  | exc x e1 => rw [q] at o; exact o
  | no => rw [q] at o; exact o

theorem itl_ok {K : PySem.W.Frag} {mg : Str → Option Value} {M : AP'} {H0 : Hp} {a : Addr} {vs : List V} {ws : List W} (h : H0 a = some (.lst vs)) (hm : ¬ M a) (r : RepL K mg M H0 ws vs) : ItOk K mg M H0 (Itl K a) ws := by
  intro i H k
  have e : SqL K H a vs := .inl (.inl (k.k _ _ h hm))
  refine ⟨fun hi => ⟨vs, e, by rw [r.len, hi]; exact Nat.le_refl _⟩, fun w hw => ?_⟩
  obtain ⟨v, hv, rv⟩ := r.get hw
  refine ⟨⟨vs, v, e, hv⟩, fun x H' y => ?_⟩
  obtain ⟨rfl, y⟩ := y
  have := y vs e
  rw [hv] at this
  cases this
  exact ⟨Kp.refl _ _, fun M' n => Rep.kp k (fun _ z => .inl z) n _ _ rv⟩
theorem itl_okR {K : PySem.W.Frag} {mg : Str → Option Value} {M : AP'} {H0 : Hp} {a : Addr} {vs : List V} {ws : List W} (h : RolAt K H0 a vs) (r : RepL K mg M H0 ws vs) : ItOk K mg M H0 (Itl K a) ws := by
  intro i H k
  have e : SqL K H a vs := (h.kp k).sq
  refine ⟨fun hi => ⟨vs, e, by rw [r.len, hi]; exact Nat.le_refl _⟩, fun w hw => ?_⟩
  obtain ⟨v, hv, rv⟩ := r.get hw
  refine ⟨⟨vs, v, e, hv⟩, fun x H' y => ?_⟩
  obtain ⟨rfl, y⟩ := y
  have := y vs e
  rw [hv] at this
  cases this
  exact ⟨Kp.refl _ _, fun M' n => Rep.kp k (fun _ z => .inl z) n _ _ rv⟩
theorem itt_ok {K : PySem.W.Frag} {mg : Str → Option Value} {M : AP'} {H0 : Hp} {a : Addr} {vs : List V} {ws : List W} (h : H0 a = some (.tup vs)) (r : RepL K mg M H0 ws vs) : ItOk K mg M H0 (Itt K a) ws := by
  intro i H k
  have e : SqT K H a vs := .inl (.inl (k.t _ _ h trivial))
  refine ⟨fun hi => ⟨vs, e, by rw [r.len, hi]; exact Nat.le_refl _⟩, fun w hw => ?_⟩
  obtain ⟨v, hv, rv⟩ := r.get hw
  refine ⟨⟨vs, v, e, hv⟩, fun x H' y => ?_⟩
  obtain ⟨rfl, y⟩ := y
  have := y vs e
  rw [hv] at this
  cases this
  exact ⟨Kp.refl _ _, fun M' n => Rep.kp k (fun _ z => .inl z) n _ _ rv⟩
theorem itk_ok {K : PySem.W.Frag} {mg : Str → Option Value} {M : AP'} {H0 : Hp} {a : Addr} {o : Obj} {kvs : List (Key × V)} (h : H0 a = some (.frz o (.dK kvs))) : ItOk K mg M H0 (Itk a o kvs) (kvs.map fun p => kW p.1) := by
  intro i H k
  have e : H a = some (.frz o (.dK kvs)) := k.t _ _ h trivial
  refine ⟨fun hi => ⟨e, by rw [List.length_map] at hi; omega⟩, fun w hw => ?_⟩
  rw [List.getElem?_map] at hw
  obtain ⟨p, hp, rfl⟩ := map_some hw
  refine ⟨⟨e, (List.getElem?_eq_some_iff.mp hp).1⟩, fun x H' y => ?_⟩
  obtain ⟨rfl, k', v', hk, rfl⟩ := y
  rw [hp] at hk; cases hk
  refine ⟨Kp.refl _ _, fun M' n => ?_⟩
  cases k' <;> rfl
theorem its_ok {K : PySem.W.Frag} {mg : Str → Option Value} {M : AP'} {H0 : Hp} (x : Str) : ItOk K mg M H0 (Its x) (x.cps.toList.map fun c => .str ⟨#[c]⟩) := by
  intro i H k
  have hl : (x.cps.toList.map fun c => W.str ⟨#[c]⟩).length = x.cps.size := by simp
  refine ⟨fun hi => by rw [hl] at hi; exact Nat.le_of_eq hi.symm, fun w hw => ?_⟩
  have hi : i < x.cps.size := by
    have := (List.getElem?_eq_some_iff.mp hw).1
    rw [hl] at this; exact this
  rw [List.getElem?_map] at hw
  obtain ⟨c, hc, rfl⟩ := map_some hw
  refine ⟨hi, fun y H' z => ?_⟩
  obtain ⟨rfl, c', hc', rfl⟩ := z
  rw [Array.getElem?_toList] at hc
  rw [hc] at hc'
  cases hc'
  exact ⟨Kp.refl _ _, fun _ _ => rfl⟩
/-- a value that is a sequence, walked -/
theorem si_seq {tg e : Expr} {ma : PM.Env → R Hd} (h : SE X F Wx e ma) : SI X F Wx tg e (fun env => (ma env).bind fun h e1 => match h with | .v w => R.opt (itemsW w) e1 | .s _ => .no) := by
  refine pi_by fun σ H R' hq => ?_
  obtain ⟨α, T, env, c, o⟩ := hq
  have bad : (∀ w e1 us, ma env = .ok (.v w) e1 → itemsW w = some us → False) → ∃ t, PI X tg e t ∧ t σ H R' := fun hno => ⟨_, pi_list h, by
    refine tE_bind c o fun hd e1 H1 v q c1 k1 r1 o1 => ?_
    cases hd with
    | s i => exact o1.elim
    | v w =>
      obtain ⟨us, hu, _⟩ := OutR.opt o1
      exact (hno w e1 us q hu).elim⟩
  cases q1 : ma env with
  | no => exact bad fun _ _ _ h _ => by rw [q1] at h; cases h
  | exc => exact bad fun _ _ _ h _ => by rw [q1] at h; cases h
  | ok hd e1 =>
    cases hd with
    | s i => exact bad fun _ _ _ h _ => by rw [q1] at h; cases h
    | v w =>
      have fin : ∀ {us : List W} {H1 : Hp} {J : It}, itemsW w = some us → Cfg X.K X.mg F α T e1 σ H1 → Kp (Ow α) H H1 → ItOk X.K X.mg (MM F α T) H1 J us → R' J H1 := fun {us H1 J} hs c1 k1 it => by
        have o2 := o
        simp only [q1, R.bind_ok, hs] at o2
        exact (show okI X.K X.mg F α T σ H R' us e1 from o2) H1 J c1 k1 it
      cases w with
      | tup us =>
        refine ⟨_, pi_tup h, ?_⟩
        refine tE_bind c o fun hd e1' H1 v q1' c1 k1 r1 o1 => ?_
        rw [q1] at q1'; cases q1'
        obtain ⟨a, vs, rfl, h1, h2⟩ := r1
        exact ⟨a, rfl, ⟨vs, .inl (.inl h1)⟩, fin rfl c1 k1 (itt_ok h1 h2)⟩
      | lst us =>
        refine ⟨_, pi_list h, ?_⟩
        refine tE_bind c o fun hd e1' H1 v q1' c1 k1 r1 o1 => ?_
        rw [q1] at q1'; cases q1'
        obtain ⟨a, vs, rfl, h1, h2⟩ := r1
        exact ⟨a, rfl, ⟨vs, .inl (.inl h1.1)⟩, fin rfl c1 k1 (itl_ok h1.1 h1.2 h2)⟩
      | rol us =>
        refine ⟨_, pi_list h, ?_⟩
        refine tE_bind c o fun hd e1' H1 v q1' c1 k1 r1 o1 => ?_
        rw [q1] at q1'; cases q1'
        obtain ⟨a, vs, rfl, h1, h2⟩ := r1
        exact ⟨a, rfl, ⟨vs, h1.sq⟩, fin rfl c1 k1 (itl_okR h1 h2)⟩
      | dic ks us =>
        refine ⟨_, pi_keys h, ?_⟩
        refine tE_bind c o fun hd e1' H1 v q1' c1 k1 r1 o1 => ?_
        rw [q1] at q1'; cases q1'
        obtain ⟨a, kvs, rfl, ⟨od, h1⟩, h2, h3⟩ := r1
        exact ⟨a, od, rfl, .inl ⟨kvs, h1, fin (us := ks) rfl c1 k1 (h2 ▸ itk_ok h1)⟩⟩
      | str x =>
        refine ⟨_, pi_str h, ?_⟩
        refine tE_bind c o fun hd e1' H1 v q1' c1 k1 r1 o1 => ?_
        rw [q1] at q1'; cases q1'
        obtain rfl : v = .str x := r1
        exact ⟨x, rfl, fin rfl c1 k1 (its_ok x)⟩
      | _ => exact bad fun _ _ _ h hs => by rw [q1] at h; cases h; cases hs

theorem itr_ok {K : PySem.W.Frag} {mg : Str → Option Value} {M : AP'} {H0 : Hp} (lo : Int) (n : Nat) : ItOk K mg M H0 (Itr lo n) ((List.range n).map fun i => .int (lo + (i : Nat))) := by
  intro i H k
  have hl : ((List.range n).map fun i : Nat => W.int (lo + (i : Nat))).length = n := by simp
  refine ⟨fun hi => by rw [hl] at hi; exact Nat.le_of_eq hi.symm, fun w hw => ?_⟩
  have hi : i < n := by
    have := (List.getElem?_eq_some_iff.mp hw).1
    rw [hl] at this; exact this
  rw [List.getElem?_map, List.getElem?_range hi] at hw
  cases hw
  refine ⟨hi, fun x H' y => ?_⟩
  obtain ⟨rfl, rfl⟩ := y
  exact ⟨Kp.refl _ _, fun _ _ => rfl⟩
theorem rng_one {n : Int} {us : List W} (h : rngW [.int n] = some us) : -1000000 ≤ n ∧ n ≤ 1000000 ∧ us = (List.range n.toNat).map fun i : Nat => W.int (0 + (i : Nat)) := by
  simp only [rngW] at h
  split at h <;> cases h
  rename_i hn
  refine ⟨hn.1, hn.2, ?_⟩
  congr 1; funext i; rw [Int.zero_add]
theorem rng_two {a b : Int} {us : List W} (h : rngW [.int a, .int b] = some us) : (-1000000 ≤ a ∧ a ≤ 1000000 ∧ -1000000 ≤ b ∧ b ≤ 1000000) ∧ us = (List.range (b - a).toNat).map fun i : Nat => W.int (a + (i : Nat)) := by
  simp only [rngW] at h
  split at h <;> cases h
  rename_i hn
  exact ⟨hn, rfl⟩
theorem rng_shape {ws us : List W} (h : rngW ws = some us) : (∃ n, ws = [.int n]) ∨ ∃ a b, ws = [.int a, .int b] := by
  unfold rngW at h
  split at h
  · exact .inl ⟨_, rfl⟩
  · exact .inr ⟨_, _, rfl⟩
  · cases h
theorem sa_len {es : List Expr} {ms : PM.Env → R (List Hd)} {n : Nat} (h : SA X F Wx es ms) (hl : ∀ env hs e1, ms env = .ok hs e1 → hs.length = n) : True := trivial
theorem si_rng1 {tg a : Expr} {p pos : Pos} {ms : PM.Env → R (List Hd)} (hg : Gl X "range") (hm : X.mg "range" = none) (ha : SA X F Wx [a] ms) (hs : nS a = true) (hl : ∀ env hs e1, ms env = .ok hs e1 → hs.length = 1) : SI X F Wx tg (.Call (.Name "range" p) [a] [] pos)
    (fun env => (ms env).bind fun hs e1 => match pvs hs with | some ws => R.opt (rngW ws) e1 | none => .no) := by
  refine pi_by fun σ H R' hq => ⟨_, pi_range1 hg hm ha (by rw [star_cons hs]; rfl), ?_⟩
  obtain ⟨α, T, env, c, o⟩ := hq
  refine tA_bind c o fun hs' e1 H1 vs q c1 k1 r1 o1 => ?_
  cases q2 : pvs hs' with
  | none => simp only [q2] at o1; exact o1.elim
  | some ws =>
    simp only [q2] at o1
    obtain ⟨us, hu, o2⟩ := OutR.opt o1
    have rl := r1.vals q2
    have e1' := rl.len
    rw [repHs_len r1, hl _ _ _ q] at e1'
    rcases rng_shape hu with ⟨n, rfl⟩ | ⟨a, b, rfl⟩
    · obtain ⟨v, t, rfl, r2, r3⟩ := rl
      obtain rfl : v = .int n := r2
      obtain rfl : t = [] := r3
      obtain ⟨n1, n2, rfl⟩ := rng_one hu
      exact ⟨n, rfl, by omega, by omega, o2 H1 _ c1 k1 (itr_ok 0 n.toNat)⟩
    · simp at e1'
theorem si_rng2 {tg a b : Expr} {p pos : Pos} {ms : PM.Env → R (List Hd)} (hg : Gl X "range") (hm : X.mg "range" = none) (ha : SA X F Wx [a, b] ms) (hs : nS a = true) (hs2 : nS b = true) (hl : ∀ env hs e1, ms env = .ok hs e1 → hs.length = 2) : SI X F Wx tg (.Call (.Name "range" p) [a, b] [] pos)
    (fun env => (ms env).bind fun hs e1 => match pvs hs with | some ws => R.opt (rngW ws) e1 | none => .no) := by
  refine pi_by fun σ H R' hq => ⟨_, pi_range2 hg hm ha (by rw [star_cons hs, star_cons hs2]; rfl) (by rw [star_cons hs2]; rfl), ?_⟩
  obtain ⟨α, T, env, c, o⟩ := hq
  refine tA_bind c o fun hs' e1 H1 vs q c1 k1 r1 o1 => ?_
  cases q2 : pvs hs' with
  | none => simp only [q2] at o1; exact o1.elim
  | some ws =>
    simp only [q2] at o1
    obtain ⟨us, hu, o2⟩ := OutR.opt o1
    have rl := r1.vals q2
    have e1' := rl.len
    rw [repHs_len r1, hl _ _ _ q] at e1'
    rcases rng_shape hu with ⟨n, rfl⟩ | ⟨a, b, rfl⟩
    · simp at e1'
    · obtain ⟨v, t, rfl, r2, v2, t2, rfl, r3, r4⟩ := rl
      obtain rfl : v = .int a := r2
      obtain rfl : v2 = .int b := r3
      obtain rfl : t2 = [] := r4
      obtain ⟨n1, rfl⟩ := rng_two hu
      exact ⟨a, b, rfl, ⟨by omega, by omega, by omega, by omega⟩, o2 H1 _ c1 k1 (itr_ok a (b - a).toNat)⟩

/-! ### enumerate and zip -/
theorem enumW_get : ∀ (ws : List W) (k : Int) (i : Nat), (enumW k ws)[i]? = (ws[i]?).map fun w => .tup [.int (k + (i : Nat)), w]
  | [], _, _ => rfl
  | w :: ws, k, 0 => by simp [enumW]
  | w :: ws, k, i + 1 => by
    rw [enumW, List.getElem?_cons_succ, List.getElem?_cons_succ, enumW_get ws (k + 1) i]
    have e : k + 1 + (i : Int) = k + ((i + 1 : Nat) : Int) := by omega
    rw [e]
theorem enumW_len : ∀ (ws : List W) (k : Int), (enumW k ws).length = ws.length
  | [], _ => rfl
  | w :: ws, k => by rw [enumW, List.length_cons, List.length_cons, enumW_len ws]
/-- a list or a tuple at a -/
def SqB (K : PySem.W.Frag) (tup : Bool) (H : Hp) (a : Addr) (xs : List V) : Prop := if tup = true then SqT K H a xs else SqL K H a xs
theorem SqB.inj {pins : List (Addr × Obj)} {σ : St} {s : Shared} {tup : Bool} {H : Hp} {a : Addr} {xs ys : List V} (I : Inv X pins σ H s) (h : SqB X.K tup H a xs) (h' : SqB X.K tup H a ys) : xs = ys := by
  cases tup with
  | true => exact I.tuple_inj h h'
  | false => exact I.list_inj h h'
def CnT (tup : Bool) (h : Heap) (a : Addr) (items : Array Value) : Prop := if tup = true then h.IsTuple a items else h.IsList a items
def ItI (tup : Bool) (h : Heap) (it a : Addr) (i : Nat) : Prop := if tup = true then h.IsTupleIter it a i else h.IsListIter it a i
theorem inv_sqB {pins : List (Addr × Obj)} {σ : St} {H : Hp} {s : Shared} {a : Addr} {xs : List V} {tup : Bool} (I : Inv X pins σ H s) (h : SqB X.K tup H a xs) : ∃ its : List Value, Vals xs its ∧ CnT tup s.heap a its.toArray ∧ xs.length ≤ sizeLine := by
  cases tup with
  | true =>
    obtain ⟨its, r, p, z⟩ := I.tuple (xs := xs) (a := a) h
    exact ⟨its, r, p, z⟩
  | false =>
    obtain ⟨its, r, p, z⟩ := I.list (xs := xs) (a := a) h
    exact ⟨its, r, p.isList, z⟩
theorem draws_of {prog : Program} {w : World} {A : Around} (hh : A.handled = none) (tup : Bool) (it a : Addr) (hne : a ≠ it) (items : Array Value) :
    Draws prog w A it [it, a] items.size (fun i v => items[i]? = some v) (fun i h => ItI tup h it a i ∧ CnT tup h a items) := by
  cases tup with
  | true => exact Draws.tuple hh it a hne items
  | false => exact Draws.list hh it a hne items
theorem itI_obj {tup : Bool} {h : Heap} {it a : Addr} {i : Nat} (x : ItI tup h it a i) : ∃ o, h.get? it = some o ∧ ∀ v, o.data ≠ .cell v := by
  cases tup with
  | true => obtain ⟨o, ho, hc, hd⟩ := x; exact ⟨o, ho, fun v q => by rw [hd] at q; cases q⟩
  | false => obtain ⟨o, ho, hc, hd⟩ := x; exact ⟨o, ho, fun v q => by rw [hd] at q; cases q⟩
theorem itI_at {tup : Bool} {h h' : Heap} {it a : Addr} {i : Nat} (x : ItI tup h it a i) (k : ∀ o, h.get? it = some o → h'.get? it = some o) : ItI tup h' it a i := by
  cases tup with
  | true => exact Heap.IsTupleIter.at x k
  | false => exact Heap.IsListIter.at x k
theorem cn_dat {tup : Bool} {h : Heap} {a : Addr} {items : Array Value} (x : CnT tup h a items) : ∃ o its n, h.get? a = some o ∧ o.data = .seq its n := by
  cases tup with
  | true => obtain ⟨o, e, _, n, d⟩ := (show h.IsTuple a items from x); exact ⟨o, _, _, e, d⟩
  | false => obtain ⟨o, e, _, n, d⟩ := (show h.IsList a items from x); exact ⟨o, _, _, e, d⟩
theorem it_dat {tup : Bool} {h : Heap} {it a : Addr} {i : Nat} (x : ItI tup h it a i) : ∃ o f, h.get? it = some o ∧ o.data = .fields f := by
  cases tup with
  | true => obtain ⟨o, ho, hc, hd⟩ := x; exact ⟨o, _, ho, hd⟩
  | false => obtain ⟨o, ho, hc, hd⟩ := x; exact ⟨o, _, ho, hd⟩
theorem cn_ne {tup tup' : Bool} {h : Heap} {a it b : Addr} {i : Nat} {items : Array Value} (x : CnT tup h a items) (y : ItI tup' h it b i) : a ≠ it := fun z => by
  obtain ⟨o, _, _, e1, d1⟩ := cn_dat x
  obtain ⟨o', _, e2, d2⟩ := it_dat y
  subst z
  rw [e1] at e2; cases e2; rw [d1] at d2; cases d2
theorem cn_ne_e {tup : Bool} {h : Heap} {a e it : Addr} {k : Int} {old : Value} {items : Array Value} (x : CnT tup h a items) (y : IsEnum h e it k old) : a ≠ e := fun z => by
  obtain ⟨o, _, _, e1, d1⟩ := cn_dat x
  subst z
  have q := e1.symm.trans y; cases q; cases d1
def Ite' (K : PySem.W.Frag) (tup : Bool) (a : Addr) (k0 : Int) : L2.It :=
  ⟨fun i H => ∃ xs x, SqB K tup H a xs ∧ xs[i]? = some x, fun i H v H' => ∃ T x, v = .ref T ∧ H T = none ∧ H' = upd H T (.tup [.int (k0 + (i : Nat)), x]) ∧ ∀ ys, SqB K tup H a ys → ys[i]? = some x, fun i H => ∃ xs, SqB K tup H a xs ∧ xs.length = i⟩
theorem turn_enumS {P : Program} {w : World} {K : PySem.W.Frag} {elts : List Expr} {kk : Nat} {tpos : Pos} (tup : Bool) (a e it : Addr) (k0 : Int) (hei : e ≠ it) :
    Turn P w K (.Tuple elts kk tpos) (Ite' K tup a k0) [e, it] e (fun i h => (∃ old, IsEnum h e it (k0 + (i : Int)) old) ∧ ItI tup h it a i) where
  mem := by simp
  obj := fun i h st b hb => by
    obtain ⟨⟨old, he⟩, hi⟩ := st
    have e' : b = e ∨ b = it := by simpa using hb
    rcases e' with z | z
    · rw [z]; exact ⟨_, he, fun v q => nomatch q⟩
    · rw [z]; exact itI_obj hi
  keep := fun i h h' st k => let ⟨⟨old, he⟩, hi⟩ := st; ⟨⟨old, k e (by simp) _ he⟩, itI_at hi fun o q => k it (by simp) o q⟩
  item := by
    intro X hP hw hK hc i pins s σ H E I hf st hg
    subst hP hw hK
    obtain ⟨⟨old, he⟩, hit⟩ := st
    obtain ⟨xs, x, hq, hx⟩ := hg
    obtain ⟨its, rv, p, hz⟩ := inv_sqB I hq
    obtain ⟨u, hu, ru⟩ := rv.get hx
    have hel : e < s.heap.objs.size := Heap.lt_size he
    have hil : it < s.heap.objs.size := by obtain ⟨_, q, _⟩ := itI_obj hit; exact Heap.lt_size q
    have nai : a ≠ it := cn_ne p hit
    have nae : a ≠ e := cn_ne_e p he
    have hh : X.A.in1.handled = none := I.ok.hd hc
    have G := GoesN.enumFrom (prog := X.prog) (w := X.w) (A := X.A) (elts := elts) (x1 := kk) (pos := tpos) k0 (draws_of (A := X.A.in1) hh tup it a nai its.toArray) e hei (by simp [hei, Ne.symm nae]) (by simp)
    have hi : i < its.toArray.size := by
      rw [List.size_toArray]
      exact (List.getElem?_eq_some_iff.mp hu).1
    refine G.goes i s _ E hi ⟨⟨old, he⟩, hit, p⟩ fun v h' tk hY st' hk htk => ?_
    obtain ⟨T, t, y, rfl, hn, hy, hT⟩ := hY
    obtain ⟨⟨old', he'⟩, hit', _⟩ := st'
    have ey : y = u := by
      have e1 : its[i]? = some y := by simpa using hy
      rw [hu] at e1; exact (Option.some.inj e1).symm
    subst ey
    have new : ObjOk X.prog X.w (upd H T (.tup [.int (k0 + (i : Nat)), x])) h' T (.tup [.int (k0 + (i : Nat)), x]) :=
      ⟨by show 2 ≤ sizeLine; decide, [.int (k0 + (i : Int)) t, y], .cons ⟨_, rfl⟩ (.cons ru .nil), hT⟩
    have I1 : Inv X pins σ (upd H T (.tup [.int (k0 + (i : Nat)), x])) { s with heap := h', toks := tk } :=
      I.turnedNew (ch := [e, it]) (fun b ob hb q => hk b ob hb q) hf hn new
    refine ⟨.ref T, _, I1, rfl, ⟨T, x, rfl, I.hok.fresh hn, rfl, fun ys hys => by rw [SqB.inj I hys hq]; exact hx⟩, ⟨⟨old', ?_⟩, hit'⟩, fun b hb => ?_⟩
    · have e1 : k0 + ((i + 1 : Nat) : Int) = k0 + (((i : Nat) + 1 : Nat) : Int) := rfl
      exact he'
    · have hb' : b < s.heap.objs.size := by
        have e' : b = e ∨ b = it := by simpa using hb
        rcases e' with z | z
        · rw [z]; exact hel
        · rw [z]; exact hil
      rw [upd_ne (Nat.ne_of_lt (Nat.lt_of_lt_of_le hb' hn))]
      exact (hf b hb).1
  done := by
    intro X hP hw hK hc i pins s σ H E I hf st hg
    subst hP hw hK
    obtain ⟨⟨old, he⟩, hit⟩ := st
    obtain ⟨xs, hq, hx⟩ := hg
    obtain ⟨its, rv, p, hz⟩ := inv_sqB I hq
    have nai : a ≠ it := cn_ne p hit
    have nae : a ≠ e := cn_ne_e p he
    have hh : X.A.in1.handled = none := I.ok.hd hc
    have G := GoesN.enumFrom (prog := X.prog) (w := X.w) (A := X.A) (elts := elts) (x1 := kk) (pos := tpos) k0 (draws_of (A := X.A.in1) hh tup it a nai its.toArray) e hei (by simp [hei, Ne.symm nae]) (by simp)
    have hn : i = its.toArray.size := by rw [List.size_toArray, ← rv.length]; exact hx.symm
    obtain ⟨f0, f1, f2, f3, f4, f5⟩ := hf e (by simp)
    subst hn
    exact G.stops s _ E ⟨⟨old, he⟩, hit, p⟩ fun h' tk hk htk => I.turnedL (t' := tk) hk hf
  self := fun A i s Q E st h => let ⟨⟨_, he⟩, _⟩ := st; wpAny_pyIter_enum he h
theorem begins_of (tup : Bool) (a : Addr) (items : Array Value) : ∃ o : Obj, (∀ (h' : Heap) (it : Addr), h'.get? it = some o → ItI tup h' it a 0) ∧ Begins (.ref a) o fun h => CnT tup h a items := by
  cases tup with
  | true => exact ⟨_, fun h' it e => ⟨_, e, rfl, rfl⟩, begins_tuple a items⟩
  | false => exact ⟨_, fun h' it e => ⟨_, e, rfl, rfl⟩, begins_list a items⟩
theorem callWith_tyKw {M : Model} {A : Around} {E : Value → Shared → Prop} {s : Shared} {env : PySem.Env} {pos : Pos} {T : String} {e : Expr} {rest : List Expr} {kws : List Keyword} {Q : Value → Shared → Prop}
    (h : wpAny M A (spliced (backTo pos (starEach (e :: rest) env))) (fun vs s₁ => wpAny M A (evalAll ((backToKw pos (keywordEach kws env)).map (·.2)))
      (fun kvs s₂ => wpAny M A (call (.type T) vs (((backToKw pos (keywordEach kws env)).filterMap (·.1)).zip kvs)) Q E s₂) E s₁) E s)
    (he : starEach (e :: rest) env = (false, eval e env) :: starEach rest env)
    (hplain : (backTo pos (starEach (e :: rest) env)).any (·.1) = false)
    (hall : (backToKw pos (keywordEach kws env)).all (·.1.isSome) = true := by rfl)
    (hkw : (backToKw pos (keywordEach kws env)).any (·.1.isNone) = false := by rfl) :
    wpAny M A (callWith pos (.type T) [] (backTo pos (starEach (e :: rest) env)) (backToKw pos (keywordEach kws env))) Q E s := by
  unfold callWith
  refine wpAny_bind (wpAny_holding (wpAny_mono (PyProof.Rows.evalArgs_kw2 (Q := fun a s₁ => wpAny M A (call (.type T) ([] ++ a.pos) a.kw) Q E s₁) hall h he) (fun a s₁ h₁ => wpAny_bind (wpAny_standAt ?_)) fun _ _ x => x))
  simp only [hplain, hkw, Bool.or_false]
  refine wpAny_bind (wpAny_pure ?_)
  exact wpAny_bind (wpAny_mono h₁ (fun r s₂ hr => wpAny_bind (wpAny_holding (wpAny_point (wpAny_pure hr)))) fun _ _ x => x)
/-- enumerate(e, start=k) -/
def iEnumS (K : PySem.W.Frag) (tup : Bool) (ta tk : TA) : TI := fun σ H R' => ta σ H fun vs H1 => tk σ H1 fun ks H2 => ∃ a k xs, vs = [.ref a] ∧ ks = [.int k] ∧ 0 ≤ k ∧ k ≤ 1000000 ∧ SqB K tup H2 a xs ∧ R' (Ite' K tup a k) H2
theorem pi_enumS {e e2 : Expr} {ta tk : TA} {p pos tpos kp : Pos} {elts : List Expr} {kk : Nat} (tup : Bool) (hg : Gl X "enumerate") (hm : X.mg "enumerate" = none) (ha : PA X [e] ta) (hs : nS e = true) (hk : PK X [⟨some "start", e2, kp⟩] tk) :
    PI X (.Tuple elts kk tpos) (.Call (.Name "enumerate" p) [e] [⟨some "start", e2, kp⟩] pos) (iEnumS X.K tup ta tk) := by
  refine ⟨fun pins s σ H R' I h => ?_⟩
  refine wpAny_Call_Name_kw (ld_blt I hg hm PyProof.Rows.boot_enumerate ?_)
  refine callWith_tyKw (thn (ha.run pos pins s σ H _ I h) fun us s1 ⟨vs, H1, I1, r, q⟩ => ?_) (by rw [star_cons hs]) (by rw [star_cons hs]; rfl)
  refine thn (hk.run pos pins s1 σ H1 _ I1 q) fun ws s2 ⟨zs, H2, I2, rz, q2⟩ => ?_
  obtain ⟨a, k, xs, rfl, rfl, b1, b2, hq, hR⟩ := q2
  cases r with
  | cons r rr =>
    cases rr
    cases r
    cases rz with
    | cons r2 rr2 =>
      cases rr2
      obtain ⟨t, rfl⟩ := r2
      obtain ⟨its, rv, p', hz⟩ := inv_sqB I2 hq
      obtain ⟨o, ho, B⟩ := begins_of tup a its.toArray
      refine enum_begins_start B p' (by omega) (by omega) fun h' he hit hsz hkk => wpAny_pyIter_enum he ?_
      have I3 : Inv X pins σ H2 { s2 with heap := h' } := I2.kept (t' := s2.toks) hkk
      refine ⟨s2.heap.objs.size + 1, [s2.heap.objs.size + 1, s2.heap.objs.size], _, _, H2, rfl, I3, turn_enumS tup a (s2.heap.objs.size + 1) s2.heap.objs.size k (Nat.succ_ne_self _), ⟨⟨.none, by rw [show k + ((0 : Nat) : Int) = k by omega]; exact he⟩, ho _ _ hit⟩, fun b hb => ?_, hR⟩
      have e' : b = s2.heap.objs.size + 1 ∨ b = s2.heap.objs.size := by simpa using hb
      have hle : s2.heap.objs.size ≤ b := by
        rcases e' with z | z
        · rw [z]; exact Nat.le_succ _
        · rw [z]; exact Nat.le_refl _
      exact I2.fpOk hle (I2.hok.fresh hle)

theorem sqb_tup {K : PySem.W.Frag} {H : Hp} {a : Addr} {vs : List V} (h : H a = some (.tup vs)) : SqB K true H a vs := .inl (.inl h)
theorem sqb_lst {K : PySem.W.Frag} {H : Hp} {a : Addr} {vs : List V} (h : H a = some (.lst vs)) : SqB K false H a vs := .inl (.inl h)
def isTup : W → Bool
  | .tup _ => true
  | _ => false
/-- a sequence that stays -/
def Seq' (K : PySem.W.Frag) (M : AP') (tup : Bool) (H0 : Hp) (a : Addr) (vs : List V) : Prop := ∀ H, Kp M H0 H → SqB K tup H a vs
theorem seq_of {K : PySem.W.Frag} {mg : Str → Option Value} {M : AP'} {H : Hp} {w : W} {v : V} {us : List W} (r : Rep K mg M H w v) (h : seqW w = some us) :
    ∃ tup a vs, tup = isTup w ∧ v = .ref a ∧ Seq' K M tup H a vs ∧ RepL K mg M H us vs := by
  cases w with
  | tup ws => cases h; obtain ⟨a, vs, rfl, h1, h2⟩ := r; exact ⟨_, a, vs, rfl, rfl, fun H' k => sqb_tup (k.t _ _ h1 trivial), h2⟩
  | lst ws => cases h; obtain ⟨a, vs, rfl, h1, h2⟩ := r; exact ⟨_, a, vs, rfl, rfl, fun H' k => sqb_lst (k.k _ _ h1.1 h1.2), h2⟩
  | rol ws => cases h; obtain ⟨a, vs, rfl, h1, h2⟩ := r; exact ⟨_, a, vs, rfl, rfl, fun H' k => (h1.kp k).sq, h2⟩
  | _ => cases h
theorem ite_ok {K : PySem.W.Frag} {mg : Str → Option Value} {M : AP'} {H0 : Hp} {tup : Bool} {a : Addr} {vs : List V} {ws : List W} {k0 : Int} (h : Seq' K M tup H0 a vs) (r : RepL K mg M H0 ws vs) : ItOk K mg M H0 (Ite' K tup a k0) (enumW k0 ws) := by
  intro i H k
  have e : SqB K tup H a vs := h H k
  refine ⟨fun hi => ⟨vs, e, by rw [r.len, hi, enumW_len]⟩, fun w hw => ?_⟩
  rw [enumW_get] at hw
  obtain ⟨u, hu, rfl⟩ := map_some hw
  obtain ⟨v, hv, rv⟩ := r.get hu
  refine ⟨⟨vs, v, e, hv⟩, fun x H' y => ?_⟩
  obtain ⟨T, z, rfl, hT, rfl, hy⟩ := y
  have e2 := hy vs e
  rw [hv] at e2
  cases e2
  refine ⟨Kp.new _ hT, fun M' n => ⟨T, _, rfl, upd_same, _, _, rfl, rfl, _, _, rfl, ?_, rfl⟩⟩
  exact Rep.kp (k.trans (Kp.new (fun _ => False) hT) fun _ z => z.elim) (fun _ z => .inl z) n _ _ rv

/-- two values, then the items -/
def itwo (ma mb : PM.Env → R Hd) (f : W → W → Option (List W)) : PM.Env → R (List W) := fun env => (ma env).bind fun x e1 => (mb e1).bind fun y e2 => match x, y with
  | .v u, .v v => R.opt (f u v) e2
  | _, _ => .no
abbrev R2I := V → V → Hp → (It → Hp → Prop) → Prop
def tI2 (X : Cx) (F : Frm) (Wx : WX) (ma mb : PM.Env → R Hd) (r : R2I) : TI := fun σ H R' => tE X.K X.mg F Wx ma σ H fun x H1 => tE X.K X.mg F Wx mb σ H1 fun y H2 => r x y H2 R'
theorem si_two {tg e : Expr} {ma mb : PM.Env → R Hd} {f : W → W → Option (List W)} {P : R2I → Prop} {r0 : R2I} (mk : ∀ r, P r → PI X tg e (tI2 X F Wx ma mb r)) (h0 : P r0)
    (hs : ∀ u v ws, f u v = some ws → ∃ r, P r ∧ ∀ (M : AP') (H : Hp) (x y : V) (R' : It → Hp → Prop), Rep X.K X.mg M H u x → Rep X.K X.mg M H v y → (∀ J, ItOk X.K X.mg M H J ws → R' J H) → r x y H R') : SI X F Wx tg e (itwo ma mb f) := by
  refine pi_by fun σ H R' h => ?_
  obtain ⟨α, T, env, c, o⟩ := h
  have bad : (∀ x y e1 e2, ma env = .ok x e1 → mb e1 = .ok y e2 → False) → ∃ t, PI X tg e t ∧ t σ H R' := fun hno => ⟨_, mk r0 h0, by
    refine tE_bind c o fun x e1 H1 v q1 c1 k1 r1 o1 => ?_
    exact tE_bind c1 (o1.imp (fun _ _ z => z) fun _ _ z => z.later k1) fun y e2 H2 v2 q2 _ _ _ _ => (hno x y e1 e2 q1 q2).elim⟩
  cases q1 : ma env with
  | no => exact bad fun x y e1 e2 h1 _ => by rw [q1] at h1; cases h1
  | exc x e1 => exact bad fun x y e1 e2 h1 _ => by rw [q1] at h1; cases h1
  | ok x e1 =>
    cases q2 : mb e1 with
    | no => exact bad fun x y e1 e2 h1 h2 => by rw [q1] at h1; cases h1; rw [q2] at h2; cases h2
    | exc x e1 => exact bad fun x y e1 e2 h1 h2 => by rw [q1] at h1; cases h1; rw [q2] at h2; cases h2
    | ok y e2 =>
      have o' := o
      simp only [itwo, q1, q2, R.bind_ok] at o'
      cases x with
      | s => exact o'.elim
      | v u =>
        cases y with
        | s => exact o'.elim
        | v u2 =>
          obtain ⟨ws, q5, o'⟩ := OutR.opt o'
          obtain ⟨r, hr, hq⟩ := hs u u2 ws q5
          refine ⟨_, mk r hr, ?_⟩
          refine tE_bind c o fun x' e1' H1 vx q1' c1 k1 r1 o1 => ?_
          rw [q1] at q1'; cases q1'
          refine tE_bind c1 (o1.imp (fun _ _ z => z) fun _ _ z => z.later k1) fun y' e2' H2 vy q2' c2 k2 r2 o2 => ?_
          rw [q2] at q2'; cases q2'
          have k12 : Kp (Ow α) H H2 := k1.trans k2 fun _ z => .inl z
          have r1' : Rep X.K X.mg (MM F α T) H2 u vx := (r1.later k2)
          exact hq (MM F α T) H2 vx vy R' r1' r2 fun J it => (show okI X.K X.mg F α T σ H R' ws e2 from o') H2 J c2 k12 it
theorem enumP_of {w u : W} {us : List W} (h : enumP w u = some us) : ∃ ws k, seqW w = some ws ∧ u = .int k ∧ 0 ≤ k ∧ k ≤ 1000000 ∧ us = enumW k ws := by
  unfold enumP at h
  split at h
  · rename_i q
    split at h
    · rename_i z; cases h; exact ⟨_, _, q, rfl, z.1, z.2, rfl⟩
    · cases h
  · cases h
theorem si_enumS {e e2 : Expr} {ma mb : PM.Env → R Hd} {p pos tpos kp : Pos} {elts : List Expr} {kk : Nat} (hg : Gl X "enumerate") (hm : X.mg "enumerate" = none) (ha : SE X F Wx e ma) (hs : nS e = true) (hb : SE X F Wx e2 mb) :
    SI X F Wx (.Tuple elts kk tpos) (.Call (.Name "enumerate" p) [e] [⟨some "start", e2, kp⟩] pos) (itwo ma mb enumP) := by
  have mk : ∀ tup, PI X (.Tuple elts kk tpos) (.Call (.Name "enumerate" p) [e] [⟨some "start", e2, kp⟩] pos) (iEnumS X.K tup (tCons (tE X.K X.mg F Wx ma) tNil) (tCons (tE X.K X.mg F Wx mb) tNil)) := fun tup =>
    pi_enumS tup hg hm (pa_cons ha pa_nil (star_cons hs)) hs (pk_cons hb pk_nil)
  have mk' : ∀ tup, PI X (.Tuple elts kk tpos) (.Call (.Name "enumerate" p) [e] [⟨some "start", e2, kp⟩] pos) (tI2 X F Wx ma mb fun x y H2 R' => ∃ a k xs, [x] = [.ref a] ∧ [y] = [.int k] ∧ 0 ≤ k ∧ k ≤ 1000000 ∧ SqB X.K tup H2 a xs ∧ R' (Ite' X.K tup a k) H2) := fun tup => mk tup
  refine si_two (P := fun r => PI X (.Tuple elts kk tpos) (.Call (.Name "enumerate" p) [e] [⟨some "start", e2, kp⟩] pos) (tI2 X F Wx ma mb r)) (fun r hr => hr) (mk' true) fun u v ws h => ?_
  obtain ⟨us, k, q1, rfl, b1, b2, rfl⟩ := enumP_of h
  refine ⟨_, mk' (isTup u), fun M H x y R' rx ry kk => ?_⟩
  obtain ⟨tup, a, vs, rfl, rfl, sq, rl⟩ := seq_of rx q1
  obtain rfl : y = .int k := ry
  exact ⟨a, k, vs, rfl, rfl, b1, b2, sq H (Kp.refl _ _), kk _ (ite_ok sq rl)⟩

/-! enumerate(e, k) -/
theorem pi_enumP {e e2 : Expr} {ta : TA} {p pos tpos : Pos} {elts : List Expr} {kk : Nat} (tup : Bool) (hg : Gl X "enumerate") (hm : X.mg "enumerate" = none) (ha : PA X [e, e2] ta) (hs : nS e = true) (hs2 : nS e2 = true) :
    PI X (.Tuple elts kk tpos) (.Call (.Name "enumerate" p) [e, e2] [] pos) (fun σ H R' => ta σ H fun vs H2 => ∃ a k xs, vs = [.ref a, .int k] ∧ 0 ≤ k ∧ k ≤ 1000000 ∧ SqB X.K tup H2 a xs ∧ R' (Ite' X.K tup a k) H2) := by
  refine ⟨fun pins s σ H R' I h => ?_⟩
  refine PyProof.Rows.Call_ (ld_blt I hg hm PyProof.Rows.boot_enumerate (PyProof.Rows.callWith_type1 (thn (ha.run pos pins s σ H _ I h) fun us s2 ⟨vs, H2, I2, r, q⟩ => ?_) (by rw [star_cons hs]) (by rw [star_cons hs2]; rfl)))
  obtain ⟨a, k, xs, rfl, b1, b2, hq, hR⟩ := q
  cases r with
  | cons r rr =>
    cases rr with
    | cons r2 rr =>
      cases rr
      cases r
      obtain ⟨t, rfl⟩ := r2
      obtain ⟨its, rv, p', hz⟩ := inv_sqB I2 hq
      obtain ⟨o, ho, B⟩ := begins_of tup a its.toArray
      refine enum_begins B p' (by omega) (by omega) fun h' he hit hsz hkk => wpAny_pyIter_enum he ?_
      have I3 : Inv X pins σ H2 { s2 with heap := h' } := I2.kept (t' := s2.toks) hkk
      refine ⟨s2.heap.objs.size + 1, [s2.heap.objs.size + 1, s2.heap.objs.size], _, _, H2, rfl, I3, turn_enumS tup a (s2.heap.objs.size + 1) s2.heap.objs.size k (Nat.succ_ne_self _), ⟨⟨.none, by rw [show k + ((0 : Nat) : Int) = k by omega]; exact he⟩, ho _ _ hit⟩, fun b hb => ?_, hR⟩
      have e' : b = s2.heap.objs.size + 1 ∨ b = s2.heap.objs.size := by simpa using hb
      have hle : s2.heap.objs.size ≤ b := by
        rcases e' with z | z
        · rw [z]; exact Nat.le_succ _
        · rw [z]; exact Nat.le_refl _
      exact I2.fpOk hle (I2.hok.fresh hle)
theorem si_enumP {e e2 : Expr} {ma mb : PM.Env → R Hd} {p pos tpos : Pos} {elts : List Expr} {kk : Nat} (hg : Gl X "enumerate") (hm : X.mg "enumerate" = none) (ha : SE X F Wx e ma) (hs : nS e = true) (hb : SE X F Wx e2 mb) (hs2 : nS e2 = true) :
    SI X F Wx (.Tuple elts kk tpos) (.Call (.Name "enumerate" p) [e, e2] [] pos) (itwo ma mb enumP) := by
  have mk' : ∀ tup, PI X (.Tuple elts kk tpos) (.Call (.Name "enumerate" p) [e, e2] [] pos) (tI2 X F Wx ma mb fun x y H2 R' => ∃ a k xs, [x, y] = [.ref a, .int k] ∧ 0 ≤ k ∧ k ≤ 1000000 ∧ SqB X.K tup H2 a xs ∧ R' (Ite' X.K tup a k) H2) := fun tup =>
    pi_enumP tup hg hm (pa_cons ha (pa_cons hb pa_nil (star_cons hs2)) (star_cons hs)) hs hs2
  refine si_two (P := fun r => PI X (.Tuple elts kk tpos) (.Call (.Name "enumerate" p) [e, e2] [] pos) (tI2 X F Wx ma mb r)) (fun r hr => hr) (mk' true) fun u v ws h => ?_
  obtain ⟨us, k, q1, rfl, b1, b2, rfl⟩ := enumP_of h
  refine ⟨_, mk' (isTup u), fun M H x y R' rx ry kk => ?_⟩
  obtain ⟨tup, a, vs, rfl, rfl, sq, rl⟩ := seq_of rx q1
  obtain rfl : y = .int k := ry
  exact ⟨a, k, vs, rfl, b1, b2, sq H (Kp.refl _ _), kk _ (ite_ok sq rl)⟩

/-! enumerate(e) -/
set_option maxHeartbeats 4000000 in
theorem meets_enumerate_new1 {v : Value} {o : Obj} {H : Heap → Prop} (B : Begins v o H) :
    Meets (Builtin.«enumerate.__new__» ⟨[.type "enumerate", v], []⟩) (fun _ R s => H s.heap ∧
      R (.ok (.ret (.ref (s.heap.push o).objs.size))) { s with heap := (s.heap.push o).push { cls := .type "enumerate", data := .fields #[.none, .bool false, .ref s.heap.objs.size, rawInt 0, .none, .none] } }) :=
  .of_wp fun prog w A R s h => by
    obtain ⟨hp, g, d, tk, os⟩ := s; obtain ⟨h1, h⟩ := h
    have hsub := sub_enumerate
    have q1 : ∀ {A' : Around} {E : Value → Shared → Prop} {Q : Value → Shared → Prop}, Q (.ref hp.objs.size) ⟨hp.push o, g, d, tk, os⟩ → wpAny (model prog w) A' (pyIter v) Q E ⟨hp, g, d, tk, os⟩ :=
      fun q => B.iter prog w _ _ ⟨hp, g, d, tk, os⟩ _ h1 q
    wp_walk using q1
    refine wpAny_stack_any fun st => wpAny_pure ?_
    split
    · rename_i c _ _ _ _ _
      cases (c == Value.type "enumerate")
      · wp_walk using q1
        exact ⟨_, rfl, h⟩
      · wp_walk using q1
        exact ⟨_, rfl, h⟩
    · wp_walk using q1
      exact ⟨_, rfl, h⟩
theorem enum1_begins {prog : Program} {w : World} {A : Around} {E : Value → Shared → Prop} {s : Shared} {v : Value} {o : Obj} {H : Heap → Prop} {Q : Value → Shared → Prop} (B : Begins v o H) (h1 : H s.heap)
    (h : ∀ h', IsEnum h' (s.heap.objs.size + 1) s.heap.objs.size 0 .none → h'.get? s.heap.objs.size = some o → h'.objs.size = s.heap.objs.size + 2 →
      (∀ b o, s.heap.get? b = some o → h'.get? b = some o) → Q (.ref (s.heap.objs.size + 1)) { s with heap := h' }) :
    wpAny (model prog w) A (call (.type "enumerate") [v]) Q E s := by
  refine callType_new F.called_enumerate (by decide) (F.typeCall_enumerate_1 _) (F.newCall_enumerate_1 _) (fun obj => F.args_object_init_2 obj _) F.entry_enumerate_new
    (meets_enumerate_new1 B) ⟨h1, ?_⟩
  have hz : (s.heap.push o).objs.size = s.heap.objs.size + 1 := Heap.size_push ..
  show _ ∧ _
  rw [hz]
  have he : IsEnum ((s.heap.push o).push { cls := .type "enumerate", data := .fields #[.none, .bool false, .ref s.heap.objs.size, rawInt 0, .none, .none] }) (s.heap.objs.size + 1) s.heap.objs.size 0 .none := by
    have := Heap.get?_push_size (s.heap.push o) (o := { cls := .type "enumerate", data := .fields #[.none, .bool false, .ref s.heap.objs.size, rawInt 0, .none, .none] }) rfl
    rw [hz] at this; exact this
  refine ⟨⟨_, he, rfl⟩, h _ he (Heap.get?_push_of_some _ (Heap.get?_push_size _ B.free)) (by rw [Heap.size_push, hz]) fun b o x => Heap.get?_push_of_some _ (Heap.get?_push_of_some _ x)⟩
theorem pi_enum1 {e : Expr} {ta : TA} {p pos tpos : Pos} {elts : List Expr} {kk : Nat} (tup : Bool) (hg : Gl X "enumerate") (hm : X.mg "enumerate" = none) (ha : PA X [e] ta) (hs : nS e = true) :
    PI X (.Tuple elts kk tpos) (.Call (.Name "enumerate" p) [e] [] pos) (fun σ H R' => ta σ H fun vs H2 => ∃ a xs, vs = [.ref a] ∧ SqB X.K tup H2 a xs ∧ R' (Ite' X.K tup a 0) H2) := by
  refine ⟨fun pins s σ H R' I h => ?_⟩
  refine PyProof.Rows.Call_ (ld_blt I hg hm PyProof.Rows.boot_enumerate (PyProof.Rows.callWith_type1 (thn (ha.run pos pins s σ H _ I h) fun us s2 ⟨vs, H2, I2, r, q⟩ => ?_) (by rw [star_cons hs]) rfl))
  obtain ⟨a, xs, rfl, hq, hR⟩ := q
  cases r with
  | cons r rr =>
    cases rr
    cases r
    obtain ⟨its, rv, p', hz⟩ := inv_sqB I2 hq
    obtain ⟨o, ho, B⟩ := begins_of tup a its.toArray
    refine enum1_begins B p' fun h' he hit hsz hkk => wpAny_pyIter_enum he ?_
    have I3 : Inv X pins σ H2 { s2 with heap := h' } := I2.kept (t' := s2.toks) hkk
    refine ⟨s2.heap.objs.size + 1, [s2.heap.objs.size + 1, s2.heap.objs.size], _, _, H2, rfl, I3, turn_enumS tup a (s2.heap.objs.size + 1) s2.heap.objs.size 0 (Nat.succ_ne_self _), ⟨⟨.none, by rw [show (0 : Int) + ((0 : Nat) : Int) = 0 by omega]; exact he⟩, ho _ _ hit⟩, fun b hb => ?_, hR⟩
    have e' : b = s2.heap.objs.size + 1 ∨ b = s2.heap.objs.size := by simpa using hb
    have hle : s2.heap.objs.size ≤ b := by
      rcases e' with z | z
      · rw [z]; exact Nat.le_succ _
      · rw [z]; exact Nat.le_refl _
    exact I2.fpOk hle (I2.hok.fresh hle)
/-- one value, then the items -/
def ione (ma : PM.Env → R Hd) (f : W → Option (List W)) : PM.Env → R (List W) := fun env => (ma env).bind fun x e1 => match x with
  | .v u => R.opt (f u) e1
  | _ => .no
abbrev R1I := V → Hp → (It → Hp → Prop) → Prop
def tI1 (X : Cx) (F : Frm) (Wx : WX) (ma : PM.Env → R Hd) (r : R1I) : TI := fun σ H R' => tE X.K X.mg F Wx ma σ H fun x H1 => r x H1 R'
theorem si_one {tg e : Expr} {ma : PM.Env → R Hd} {f : W → Option (List W)} {P : R1I → Prop} {r0 : R1I} (mk : ∀ r, P r → PI X tg e (tI1 X F Wx ma r)) (h0 : P r0)
    (hs : ∀ u ws, f u = some ws → ∃ r, P r ∧ ∀ (M : AP') (H : Hp) (x : V) (R' : It → Hp → Prop), Rep X.K X.mg M H u x → (∀ J, ItOk X.K X.mg M H J ws → R' J H) → r x H R') : SI X F Wx tg e (ione ma f) := by
  refine pi_by fun σ H R' h => ?_
  obtain ⟨α, T, env, c, o⟩ := h
  have bad : (∀ x e1, ma env = .ok x e1 → False) → ∃ t, PI X tg e t ∧ t σ H R' := fun hno => ⟨_, mk r0 h0, by
    exact tE_bind c o fun x e1 H1 v q1 c1 k1 r1 o1 => (hno x e1 q1).elim⟩
  cases q1 : ma env with
  | no => exact bad fun x e1 h1 => by rw [q1] at h1; cases h1
  | exc x e1 => exact bad fun x e1 h1 => by rw [q1] at h1; cases h1
  | ok x e1 =>
      have o' := o
      simp only [ione, q1, R.bind_ok] at o'
      cases x with
      | s => exact o'.elim
      | v u =>
          obtain ⟨ws, q5, o'⟩ := OutR.opt o'
          obtain ⟨r, hr, hq⟩ := hs u ws q5
          refine ⟨_, mk r hr, ?_⟩
          refine tE_bind c o fun x' e1' H1 vx q1' c1 k1 r1 o1 => ?_
          rw [q1] at q1'; cases q1'
          exact hq (MM F α T) H1 vx R' r1 fun J it => (show okI X.K X.mg F α T σ H R' ws e1 from o') H1 J c1 k1 it
theorem si_enum0 {e : Expr} {ma : PM.Env → R Hd} {p pos tpos : Pos} {elts : List Expr} {kk : Nat} (hg : Gl X "enumerate") (hm : X.mg "enumerate" = none) (ha : SE X F Wx e ma) (hs : nS e = true) :
    SI X F Wx (.Tuple elts kk tpos) (.Call (.Name "enumerate" p) [e] [] pos) (ione ma fun u => enumP u (.int 0)) := by
  have mk' : ∀ tup, PI X (.Tuple elts kk tpos) (.Call (.Name "enumerate" p) [e] [] pos) (tI1 X F Wx ma fun x H2 R' => ∃ a xs, [x] = [.ref a] ∧ SqB X.K tup H2 a xs ∧ R' (Ite' X.K tup a 0) H2) := fun tup =>
    pi_enum1 tup hg hm (pa_cons ha pa_nil (star_cons hs)) hs
  refine si_one (P := fun r => PI X (.Tuple elts kk tpos) (.Call (.Name "enumerate" p) [e] [] pos) (tI1 X F Wx ma r)) (fun r hr => hr) (mk' true) fun u ws h => ?_
  obtain ⟨us, k, q1, q2, b1, b2, rfl⟩ := enumP_of h
  cases q2
  refine ⟨_, mk' (isTup u), fun M H x R' rx kk => ?_⟩
  obtain ⟨tup, a, vs, rfl, rfl, sq, rl⟩ := seq_of rx q1
  exact ⟨a, vs, rfl, sq H (Kp.refl _ _), kk _ (ite_ok sq rl)⟩

/-! zip -/
theorem zipW_get : ∀ (ws us : List W) (i : Nat) (w : W), (zipW ws us)[i]? = some w → ∃ a b, ws[i]? = some a ∧ us[i]? = some b ∧ w = .tup [a, b]
  | [], _, _, _, h => by simp [zipW] at h
  | _ :: _, [], _, _, h => by simp [zipW] at h
  | a :: as, b :: bs, 0, w, h => by simp only [zipW, List.getElem?_cons_zero] at h; cases h; exact ⟨a, b, rfl, rfl, rfl⟩
  | a :: as, b :: bs, i + 1, w, h => by
    rw [zipW, List.getElem?_cons_succ] at h
    exact zipW_get as bs i w h
theorem zipW_len : ∀ (ws us : List W), (zipW ws us).length = min ws.length us.length
  | [], _ => by simp [zipW]
  | _ :: _, [] => by simp [zipW]
  | a :: as, b :: bs => by rw [zipW, List.length_cons, List.length_cons, List.length_cons, zipW_len as bs]; omega
theorem itz_ok {K : PySem.W.Frag} {mg : Str → Option Value} {M : AP'} {H0 : Hp} {a b : Addr} {vs us : List V} {ws xs : List W} (h : Seq' K M false H0 a vs) (r : RepL K mg M H0 ws vs) (h2 : Seq' K M false H0 b us) (r2 : RepL K mg M H0 xs us) : ItOk K mg M H0 (Itz K a b) (zipW ws xs) := by
  intro i H k
  have e : SqL K H a vs := h H k
  have e2 : SqL K H b us := h2 H k
  have l1 := r.len
  have l2 := r2.len
  refine ⟨fun hi => ⟨vs, us, e, e2, by rw [zipW_len] at hi; omega⟩, fun w hw => ?_⟩
  obtain ⟨x, y, hx, hy, rfl⟩ := zipW_get _ _ _ _ hw
  obtain ⟨v, hv, rv⟩ := r.get hx
  obtain ⟨u, hu, ru⟩ := r2.get hy
  refine ⟨⟨vs, us, v, u, e, e2, hv, hu⟩, fun z H' q => ?_⟩
  obtain ⟨T, v', u', rfl, hT, rfl, q1, q2⟩ := q
  have q1 := q1 vs e
  have q2 := q2 us e2
  rw [hv] at q1; cases q1
  rw [hu] at q2; cases q2
  refine ⟨Kp.new _ hT, fun M' n => ⟨T, _, rfl, upd_same, _, _, rfl, ?_, _, _, rfl, ?_, rfl⟩⟩
  · exact Rep.kp (k.trans (Kp.new (fun _ => False) hT) fun _ z => z.elim) (fun _ z => .inl z) n _ _ rv
  · exact Rep.kp (k.trans (Kp.new (fun _ => False) hT) fun _ z => z.elim) (fun _ z => .inl z) n _ _ ru
theorem itzT_ok {K : PySem.W.Frag} {mg : Str → Option Value} {M : AP'} {H0 : Hp} {a b : Addr} {vs us : List V} {ws xs : List W} (h : Seq' K M true H0 a vs) (r : RepL K mg M H0 ws vs) (h2 : Seq' K M true H0 b us) (r2 : RepL K mg M H0 xs us) : ItOk K mg M H0 (RZ.ItzT K a b) (zipW ws xs) := by
  intro i H k
  have e : SqT K H a vs := h H k
  have e2 : SqT K H b us := h2 H k
  have l1 := r.len
  have l2 := r2.len
  refine ⟨fun hi => ⟨vs, us, e, e2, by rw [zipW_len] at hi; omega⟩, fun w hw => ?_⟩
  obtain ⟨x, y, hx, hy, rfl⟩ := zipW_get _ _ _ _ hw
  obtain ⟨v, hv, rv⟩ := r.get hx
  obtain ⟨u, hu, ru⟩ := r2.get hy
  refine ⟨⟨vs, us, v, u, e, e2, hv, hu⟩, fun z H' q => ?_⟩
  obtain ⟨T, v', u', rfl, hT, rfl, q1, q2⟩ := q
  have q1 := q1 vs e
  have q2 := q2 us e2
  rw [hv] at q1; cases q1
  rw [hu] at q2; cases q2
  refine ⟨Kp.new _ hT, fun M' n => ⟨T, _, rfl, upd_same, _, _, rfl, ?_, _, _, rfl, ?_, rfl⟩⟩
  · exact Rep.kp (k.trans (Kp.new (fun _ => False) hT) fun _ z => z.elim) (fun _ z => .inl z) n _ _ rv
  · exact Rep.kp (k.trans (Kp.new (fun _ => False) hT) fun _ z => z.elim) (fun _ z => .inl z) n _ _ ru
theorem zipP_of {w u : W} {ws : List W} (h : zipP w u = some ws) : ∃ xs ys, seqW w = some xs ∧ seqW u = some ys ∧ ws = zipW xs ys ∧ isTup w = isTup u := by
  cases w <;> cases u <;> first | (cases h; exact ⟨_, _, rfl, rfl, rfl, rfl⟩) | (cases h)
theorem si_zip {e e2 : Expr} {ma mb : PM.Env → R Hd} {p pos tpos : Pos} {elts : List Expr} {kk : Nat} (hg : Gl X "zip") (hm : X.mg "zip" = none) (ha : SE X F Wx e ma) (hs : nS e = true) (hb : SE X F Wx e2 mb) (hs2 : nS e2 = true) :
    SI X F Wx (.Tuple elts kk tpos) (.Call (.Name "zip" p) [e, e2] [] pos) (itwo ma mb zipP) := by
  have mk' : PI X (.Tuple elts kk tpos) (.Call (.Name "zip" p) [e, e2] [] pos) (tI2 X F Wx ma mb fun x y H1 R' => ∃ a b xs ys, [x, y] = [.ref a, .ref b] ∧ ((SqL X.K H1 a xs ∧ SqL X.K H1 b ys ∧ R' (Itz X.K a b) H1) ∨ (SqT X.K H1 a xs ∧ SqT X.K H1 b ys ∧ R' (RZ.ItzT X.K a b) H1))) :=
    RZ.pi_zipA hg hm (pa_cons ha (pa_cons hb pa_nil (star_cons hs2)) (star_cons hs)) (by rw [star_cons hs]) (by rw [star_cons hs2]; rfl)
  refine si_two (P := fun r => PI X (.Tuple elts kk tpos) (.Call (.Name "zip" p) [e, e2] [] pos) (tI2 X F Wx ma mb r)) (fun r hr => hr) mk' fun u v ws h => ?_
  obtain ⟨xs, ys, q1, q2, rfl, qt⟩ := zipP_of h
  refine ⟨_, mk', fun M H x y R' rx ry kk => ?_⟩
  obtain ⟨tup, a, vs, rfl, rfl, sq, rl⟩ := seq_of rx q1
  obtain ⟨tup, b, us, rfl, rfl, sq2, rl2⟩ := seq_of ry q2
  refine ⟨a, b, vs, us, rfl, ?_⟩
  rw [← qt] at sq2
  revert sq sq2
  generalize isTup u = tp
  intro sq sq2
  cases tp with
  | true => exact .inr ⟨sq H (Kp.refl _ _), sq2 H (Kp.refl _ _), kk _ (itzT_ok sq rl sq2 rl2)⟩
  | false => exact .inl ⟨sq H (Kp.refl _ _), sq2 H (Kp.refl _ _), kk _ (itz_ok sq rl sq2 rl2)⟩
end
end PM

namespace PM
open PySem L2
section
variable {X : Cx} {F : Frm} {Wx : WX}
def wipeA (α : Asg) : List Nat → Asg
  | [] => α
  | i :: is => (wipeA α is).set i none
theorem wipeA_len (α : Asg) : ∀ vs, (wipeA α vs).length = α.length
  | [] => rfl
  | i :: is => by rw [wipeA, List.length_set, wipeA_len α is]
theorem wipeE_len (env : PM.Env) : ∀ vs, (wipeE env vs).length = env.length
  | [] => rfl
  | i :: is => by rw [wipeE, List.length_set, wipeE_len env is]
theorem backE_len (e0 env : PM.Env) : ∀ vs, (backE e0 env vs).length = env.length
  | [] => rfl
  | i :: is => by rw [backE, List.length_set, backE_len e0 env is]
theorem gO_wipeA {α : Asg} {i : Nat} {a : Addr} : ∀ {vs : List Nat}, gO (wipeA α vs) i = some a → gO α i = some a ∧ i ∉ vs
  | [], h => ⟨h, by simp⟩
  | v :: vs, h => by
    rw [wipeA] at h
    by_cases e : v = i
    · subst e
      by_cases hl : v < (wipeA α vs).length
      · rw [gO_set hl] at h; cases h
      · rw [List.set_eq_of_length_le (Nat.le_of_not_lt hl)] at h
        exact absurd (gO_lt h) hl
    · rw [gO_set_ne e] at h
      obtain ⟨h1, h2⟩ := gO_wipeA h
      exact ⟨h1, by simp only [List.mem_cons, not_or]; exact ⟨fun z => e z.symm, h2⟩⟩
theorem wipeA_gO {α : Asg} {i : Nat} : ∀ {vs : List Nat}, i ∉ vs → gO (wipeA α vs) i = gO α i
  | [], _ => rfl
  | v :: vs, h => by
    simp only [List.mem_cons, not_or] at h
    rw [wipeA, gO_set_ne (fun z => h.1 z.symm), wipeA_gO h.2]
theorem wipeE_get {env : PM.Env} {i : Nat} : ∀ {vs : List Nat}, i ∉ vs → (wipeE env vs)[i]? = env[i]?
  | [], _ => rfl
  | v :: vs, h => by
    simp only [List.mem_cons, not_or] at h
    rw [wipeE, List.getElem?_set_ne (fun z => h.1 z.symm), wipeE_get h.2]
theorem wipe_gO {σ : St} {i : Nat} : ∀ {vs : List Nat}, i ∉ vs → (wipe σ vs)[i]? = σ[i]?
  | [], _ => rfl
  | v :: vs, h => by
    simp only [List.mem_cons, not_or] at h
    rw [wipe, List.getElem?_set_ne (fun z => h.1 z.symm), wipe_gO h.2]
theorem wipeE_in {env : PM.Env} {i : Nat} : ∀ {vs : List Nat}, i ∈ vs → ∀ s, (wipeE env vs)[i]? = some s → s = .no
  | v :: vs, h, s, e => by
    rw [wipeE] at e
    by_cases q : v = i
    · subst q
      by_cases hl : v < (wipeE env vs).length
      · rw [List.getElem?_set_self hl] at e; cases e; rfl
      · rw [List.getElem?_eq_none (by simpa using hl)] at e; cases e
    · rw [List.getElem?_set_ne q] at e
      exact wipeE_in ((List.mem_cons.mp h).resolve_left fun z => q z.symm) s e
theorem backE_get {e0 env : PM.Env} {i : Nat} : ∀ {vs : List Nat}, i ∉ vs → (backE e0 env vs)[i]? = env[i]?
  | [], _ => rfl
  | v :: vs, h => by
    simp only [List.mem_cons, not_or] at h
    rw [backE, List.getElem?_set_ne (fun z => h.1 z.symm), backE_get h.2]
theorem backE_in {e0 env : PM.Env} {i : Nat} : ∀ {vs : List Nat}, i ∈ vs → ∀ s, (backE e0 env vs)[i]? = some s → s = e0[i]?.getD .no
  | v :: vs, h, s, e => by
    rw [backE] at e
    by_cases q : v = i
    · subst q
      by_cases hl : v < (backE e0 env vs).length
      · rw [List.getElem?_set_self hl] at e; cases e; rfl
      · rw [List.getElem?_eq_none (by simpa using hl)] at e; cases e
    · rw [List.getElem?_set_ne q] at e
      exact backE_in ((List.mem_cons.mp h).resolve_left fun z => q z.symm) s e
theorem noOwn_of {env : PM.Env} {i : Nat} : ∀ {vs : List Nat}, noOwn env vs = true → i ∈ vs → ∀ w, env[i]? ≠ some (.own w)
  | v :: vs, h, hi, w => by
    simp only [noOwn, Bool.and_eq_true] at h
    rcases List.mem_cons.mp hi with rfl | hi
    · intro e; rw [e] at h; cases h.1
    · exact noOwn_of h.2 hi w

/-- the addresses of the slots of vs -/
def parked (α : Asg) (vs : List Nat) : List Addr := vs.filterMap (gO α)
theorem mem_parked {α : Asg} {vs : List Nat} {a : Addr} : a ∈ parked α vs ↔ ∃ i ∈ vs, gO α i = some a := by simp [parked]
theorem ow_park {α : Asg} {vs : List Nat} {a : Addr} : Ow α a ↔ Ow (wipeA α vs) a ∨ a ∈ parked α vs := by
  constructor
  · intro h
    obtain ⟨i, h⟩ := ow_iff.mp h
    by_cases e : i ∈ vs
    · exact .inr (mem_parked.mpr ⟨i, e, h⟩)
    · exact .inl (ow_iff.mpr ⟨i, by rw [wipeA_gO e]; exact h⟩)
  · rintro (h | h)
    · obtain ⟨i, h⟩ := ow_iff.mp h
      exact ow_iff.mpr ⟨i, (gO_wipeA h).1⟩
    · obtain ⟨i, _, h⟩ := mem_parked.mp h
      exact ow_iff.mpr ⟨i, h⟩
theorem mm_park {α : Asg} {T : List Addr} {vs : List Nat} {a : Addr} : MM F α T a ↔ MM F (wipeA α vs) (parked α vs ++ T) a := by
  unfold MM
  rw [ow_park (vs := vs), List.mem_append]
  constructor
  · rintro (h | (h | h) | h)
    · exact .inl h
    · exact .inr (.inl h)
    · exact .inr (.inr (.inl h))
    · exact .inr (.inr (.inr h))
  · rintro (h | h | h | h)
    · exact .inl h
    · exact .inr (.inl (.inl h))
    · exact .inr (.inl (.inr h))
    · exact .inr (.inr h)
theorem Cfg.park {K : PySem.W.Frag} {mg : Str → Option Value} {α : Asg} {T : List Addr} {env : PM.Env} {σ : St} {H : Hp} {vs : List Nat} (c : Cfg K mg F α T env σ H) (n : noOwn env vs = true) : Cfg K mg F (wipeA α vs) (parked α vs ++ T) env σ H := by
  refine ⟨c.le, by rw [wipeA_len]; exact c.la, fun i j a e1 e2 => c.nd i j a (gO_wipeA e1).1 (gO_wipeA e2).1, fun i a e z => ?_, fun a z => ?_, fun a z => c.tr a (mm_park.mpr z), c.lm, c.kp, fun i s e => ?_⟩
  · obtain ⟨e1, e2⟩ := gO_wipeA e
    rcases List.mem_append.mp z with z | z
    · obtain ⟨j, hj, e3⟩ := mem_parked.mp z
      have := c.nd i j a e1 e3
      subst this
      exact e2 hj
    · exact c.nt i a e1 z
  · refine c.nw a ?_
    rcases z with z | z
    · exact .inl (ow_park.mpr (.inl z))
    · rcases List.mem_append.mp z with z | z
      · exact .inl (ow_park.mpr (.inr z))
      · exact .inr z
  · have h := c.sl i s e
    cases s with
    | no => trivial
    | val w => obtain ⟨v, e1, r⟩ := h; exact ⟨v, e1, r.mono fun x z => mm_park.mpr z⟩
    | own w =>
      obtain ⟨a, e1, e2, r⟩ := h
      have hi : i ∉ vs := fun z => noOwn_of n z w e
      refine ⟨a, by rw [wipeA_gO hi]; exact e1, e2, ?_⟩
      exact OwnAt.kp (N := fun _ => False) (Kp.refl _ H) (fun _ z => z.elim) (fun x z => .inl (mm_park.mpr z)) (fun z => z) r
/-- back: c as it was, c' as it is -/
theorem Cfg.unpark {K : PySem.W.Frag} {mg : Str → Option Value} {α : Asg} {T : List Addr} {env env' : PM.Env} {σ σ' : St} {H H' : Hp} {vs : List Nat} (c : Cfg K mg F α T env σ H) (c' : Cfg K mg F (wipeA α vs) (parked α vs ++ T) env' σ' H') (hl : σ'.length = σ.length) : Cfg K mg F α T env' σ' H' := by
  refine ⟨c'.le, by rw [hl]; exact c.la, c.nd, c.nt, c.nw, fun a z => c'.tr a (mm_park.mp z), c.lm, c'.kp, fun i s e => ?_⟩
  have h := c'.sl i s e
  cases s with
  | no => trivial
  | val w => obtain ⟨v, e1, r⟩ := h; exact ⟨v, e1, r.mono fun x z => mm_park.mp z⟩
  | own w =>
    obtain ⟨a, e1, e2, r⟩ := h
    exact ⟨a, (gO_wipeA e1).1, e2, OwnAt.kp (N := fun _ => False) (Kp.refl _ H') (fun _ z => z.elim) (fun x z => .inl (mm_park.mp z)) (fun z => z) r⟩
/-- the slots of vs are forgotten -/
theorem Cfg.wipe {K : PySem.W.Frag} {mg : Str → Option Value} {α : Asg} {T : List Addr} {env : PM.Env} {σ : St} {H : Hp} (vs : List Nat) (c : Cfg K mg F α T env σ H) : Cfg K mg F α T (wipeE env vs) (L2.wipe σ vs) H := by
  refine ⟨by rw [wipeE_len, wipe_length]; exact c.le, by rw [wipe_length]; exact c.la, c.nd, c.nt, c.nw, c.tr, c.lm, c.kp, fun i s e => ?_⟩
  by_cases hi : i ∈ vs
  · rw [wipeE_in hi s e]; trivial
  · rw [wipeE_get hi] at e
    have h := c.sl i s e
    have q : gO (L2.wipe σ vs) i = gO σ i := by unfold gO; rw [wipe_gO hi]
    rw [q]; exact h
/-! ### targets -/
def gTg (K : PySem.W.Frag) : Tg → TG
  | .nm i => gName i
  | .tp2 a b => gTup K 2 (gCons (gTg K a) (gCons (gTg K b) gNil))
  | .tp3 a b c => gTup K 3 (gCons (gTg K a) (gCons (gTg K b) (gCons (gTg K c) gNil)))
def Tg.slots : Tg → List Nat
  | .nm i => [i]
  | .tp2 a b => a.slots ++ b.slots
  | .tp3 a b c => a.slots ++ b.slots ++ c.slots
/-- what is bound -/
structure Bnd (K : PySem.W.Frag) (mg : Str → Option Value) (F : Frm) (t : Tg) (α : Asg) (T : List Addr) (e1 : PM.Env) (σ σ1 : St) (H : Hp) (α' : Asg) : Prop where
  cfg : Cfg K mg F α' T e1 σ1 H
  ow : ∀ a, Ow α' a → Ow α a
  wp : ∀ vs, (∀ i ∈ t.slots, i ∈ vs) → L2.wipe σ1 vs = L2.wipe σ vs
  al : (∀ i ∈ t.slots, gO α i = none) → α' = α
  off : ∀ j, j ∉ t.slots → gO α' j = gO α j
theorem wipe_set {σ : St} {i : Nat} {x : Option V} : ∀ {vs : List Nat}, i ∈ vs → L2.wipe (σ.set i x) vs = L2.wipe σ vs := by
  intro vs hi
  apply List.ext_getElem?
  intro j
  by_cases hj : j ∈ vs
  · have len : ∀ τ : St, j < (L2.wipe τ vs).length → (L2.wipe τ vs)[j]? = some none := by
      intro τ hl
      cases e : (L2.wipe τ vs)[j]? with
      | none => rw [List.getElem?_eq_none_iff] at e; omega
      | some y =>
        cases y with
        | none => rfl
        | some z => exact absurd hj (wipe_some e).2
    by_cases hl : j < σ.length
    · rw [len _ (by rw [wipe_length, List.length_set]; exact hl), len _ (by rw [wipe_length]; exact hl)]
    · rw [List.getElem?_eq_none (by rw [wipe_length, List.length_set]; omega), List.getElem?_eq_none (by rw [wipe_length]; omega)]
  · rw [wipe_gO hj, wipe_gO hj, List.getElem?_set_ne (fun z => hj (by rw [← z]; exact hi))]
theorem set_none_same {α : Asg} {i : Nat} (h : gO α i = none) : α.set i none = α := by
  apply List.ext_getElem?
  intro j
  by_cases e : i = j
  · subst e
    by_cases hl : i < α.length
    · rw [List.getElem?_set_self hl]
      unfold gO at h
      rw [List.getElem?_eq_getElem hl] at h ⊢
      cases q : α[i] with
      | none => rfl
      | some a => rw [q] at h; cases h
    · rw [List.set_eq_of_length_le (Nat.le_of_not_lt hl)]
  · rw [List.getElem?_set_ne e]
theorem sqT_tup {H : Hp} {a : Addr} {vs : List V} (h : H a = some (.tup vs)) {K : PySem.W.Frag} : SqT K H a vs := .inl (.inl h)
theorem gTg_ok {K : PySem.W.Frag} {mg : Str → Option Value} : ∀ (t : Tg) {α : Asg} {T : List Addr} {env e1 : PM.Env} {σ : St} {H : Hp} {w : W} {v : V} {Q : St → Hp → Prop}, Cfg K mg F α T env σ H → Rep K mg (MM F α T) H w v → bindT t w env = some e1 →
    (∀ σ1 α', Bnd K mg F t α T e1 σ σ1 H α' → Q σ1 H) → gTg K t v σ H Q
  | .nm i, α, T, env, e1, σ, H, w, v, Q, c, r, h, k => by
    simp only [bindT] at h
    split at h
    · rename_i hi
      cases h
      have hs : i < σ.length := by rw [← c.le]; exact hi
      exact k _ _ ⟨c.setVal hs r, fun a z => (ow_set z).resolve_left (fun z => nomatch z), fun vs hv => wipe_set (hv i (by simp [Tg.slots])), fun hn => set_none_same (hn i (by simp [Tg.slots])), fun j hj => gO_set_ne (fun z => hj (by simp [Tg.slots, z]))⟩
    · cases h
  | .tp2 a b, α, T, env, e1, σ, H, w, v, Q, c, r, h, k => by
    unfold bindT at h
    split at h
    · rename_i t heq; cases heq
    · rename_i heq; cases heq
      rename_i x y env _ _
      split at h
      · rename_i e2 q1
        obtain ⟨p, vs, rfl, h1, h2⟩ := r
        obtain ⟨v1, _, rfl, r1, v2, _, rfl, r2, rfl⟩ := h2
        refine ⟨p, _, rfl, sqT_tup h1, rfl, _, _, rfl, gTg_ok a c r1 q1 fun σ1 α1 B1 => ⟨_, _, rfl, gTg_ok b B1.cfg (r2.mono fun z q => ?_) h fun σ2 α2 B2 => ⟨rfl, k σ2 α2 ⟨B2.cfg, fun a z => B1.ow a (B2.ow a z), fun vs hv => ?_, fun hn => ?_, fun j hj => by simp only [Tg.slots, List.mem_append, not_or] at hj; rw [B2.off j hj.2, B1.off j hj.1]⟩⟩⟩⟩
        · exact q.imp id (Or.imp (B1.ow z) id)
        · exact (B2.wp vs fun i z => hv i (by simp only [Tg.slots, List.mem_append]; exact .inr z)).trans (B1.wp vs fun i z => hv i (by simp only [Tg.slots, List.mem_append]; exact .inl z))
        · have e1 := B1.al fun i z => hn i (by simp only [Tg.slots, List.mem_append]; exact .inl z)
          subst e1
          exact B2.al fun i z => hn i (by simp only [Tg.slots, List.mem_append]; exact .inr z)
      · cases h
    · rename_i heq; cases heq
    · cases h
  | .tp3 a b d, α, T, env, e1, σ, H, w, v, Q, c, r, h, k => by
    unfold bindT at h
    split at h
    · rename_i t heq; cases heq
    · rename_i heq; cases heq
    · rename_i heq; cases heq
      rename_i x y z env _ _
      split at h
      · rename_i e2 q1
        split at h
        · rename_i e3 q2
          obtain ⟨p, vs, rfl, h1, h2⟩ := r
          obtain ⟨v1, _, rfl, r1, v2, _, rfl, r2, v3, _, rfl, r3, rfl⟩ := h2
          refine ⟨p, _, rfl, sqT_tup h1, rfl, _, _, rfl, gTg_ok a c r1 q1 fun σ1 α1 B1 => ⟨_, _, rfl, gTg_ok b B1.cfg (r2.mono fun z q => q.imp id (Or.imp (B1.ow z) id)) q2 fun σ2 α2 B2 => ⟨_, _, rfl, gTg_ok d B2.cfg (r3.mono fun z q => q.imp id (Or.imp (fun t => B1.ow z (B2.ow z t)) id)) h fun σ3 α3 B3 =>
            ⟨rfl, k σ3 α3 ⟨B3.cfg, fun a z => B1.ow a (B2.ow a (B3.ow a z)), fun vs hv => ?_, fun hn => ?_, fun j hj => by simp only [Tg.slots, List.mem_append, not_or] at hj; rw [B3.off j hj.2, B2.off j hj.1.2, B1.off j hj.1.1]⟩⟩⟩⟩⟩
          · exact (B3.wp vs fun i z => hv i (by simp only [Tg.slots, List.mem_append]; exact .inr z)).trans ((B2.wp vs fun i z => hv i (by simp only [Tg.slots, List.mem_append]; exact .inl (.inr z))).trans (B1.wp vs fun i z => hv i (by simp only [Tg.slots, List.mem_append]; exact .inl (.inl z))))
          · have e1 := B1.al fun i z => hn i (by simp only [Tg.slots, List.mem_append]; exact .inl (.inl z))
            subst e1
            have e2 := B2.al fun i z => hn i (by simp only [Tg.slots, List.mem_append]; exact .inl (.inr z))
            subst e2
            exact B3.al fun i z => hn i (by simp only [Tg.slots, List.mem_append]; exact .inr z)
        · cases h
      · cases h
    · cases h
end
end PM

namespace PM
open PySem L2
/-- nothing leaves -/
def WX0 : WX := fun _ _ _ _ => False
section
variable {X : Cx} {F : Frm} {Wx : WX}
theorem pg_nm {i : Nat} {x : Str} {pos : Pos} (hN : X.N.Nodup) (hi : X.N[i]? = some x) (hx : Loc X.env.scope x) (hf : X.fn x = true ∨ X.env.scope.names.lookup x = some .local) : PG X (.Name x pos) (gTg X.K (.nm i)) := pg_name hN hi hx hf
/-- a name, a tuple of two or three -/
def tgPlain : Expr → Bool
  | .Starred .. => false
  | _ => true
theorem assignEach_cons {e : Expr} {es : List Expr} {env : PySem.Env} (h : tgPlain e = true) : assignEach (e :: es) env = (false, assign e env) :: assignEach es env := by
  cases e <;> first | rfl | cases h
theorem pg_tp2 {a b : Expr} {ta tb : Tg} {k : Nat} {pos : Pos} (hc : X.calm = true) (pa : tgPlain a = true) (pb : tgPlain b = true) (ha : PG X a (gTg X.K ta)) (hb : PG X b (gTg X.K tb)) : PG X (.Tuple [a, b] k pos) (gTg X.K (.tp2 ta tb)) := by
  refine pg_tup hc (pgs_cons ha (pgs_cons hb pgs_nil ?_) ?_) ?_ ?_
  · rw [assignEach_cons pb]; rfl
  · rw [assignEach_cons pa]; rfl
  · rw [assignEach_cons pa, assignEach_cons pb]; rfl
  · rw [assignEach_cons pa, assignEach_cons pb]; rfl
theorem pg_tp3 {a b c : Expr} {ta tb tc : Tg} {k : Nat} {pos : Pos} (hc : X.calm = true) (pa : tgPlain a = true) (pb : tgPlain b = true) (pc : tgPlain c = true) (ha : PG X a (gTg X.K ta)) (hb : PG X b (gTg X.K tb)) (hd : PG X c (gTg X.K tc)) : PG X (.Tuple [a, b, c] k pos) (gTg X.K (.tp3 ta tb tc)) := by
  refine pg_tup hc (pgs_cons ha (pgs_cons hb (pgs_cons hd pgs_nil ?_) ?_) ?_) ?_ ?_
  · rw [assignEach_cons pc]; rfl
  · rw [assignEach_cons pb]; rfl
  · rw [assignEach_cons pa]; rfl
  · rw [assignEach_cons pa, assignEach_cons pb, assignEach_cons pc]; rfl
  · rw [assignEach_cons pa, assignEach_cons pb, assignEach_cons pc]; rfl

theorem wipe_idem {σ : St} {vs : List Nat} : L2.wipe (L2.wipe σ vs) vs = L2.wipe σ vs := by
  apply List.ext_getElem?
  intro j
  by_cases hj : j ∈ vs
  · have none_of : ∀ τ : St, ∀ y, (L2.wipe τ vs)[j]? = some y → y = none := by
      intro τ y e
      cases y with
      | none => rfl
      | some z => exact absurd hj (wipe_some e).2
    have len : (L2.wipe (L2.wipe σ vs) vs).length = (L2.wipe σ vs).length := wipe_length _ _
    by_cases hl : j < (L2.wipe σ vs).length
    · have h1 := List.getElem?_eq_getElem hl
      have h2 := List.getElem?_eq_getElem (show j < (L2.wipe (L2.wipe σ vs) vs).length by rw [len]; exact hl)
      rw [h1, h2, none_of _ _ h1, none_of _ _ h2]
    · rw [List.getElem?_eq_none (by omega), List.getElem?_eq_none (by omega)]
  · rw [wipe_gO hj]
/-- the loop of a comprehension -/
theorem comp_loop {K : PySem.W.Frag} {mg : Str → Option Value} {α : Asg} {T : List Addr} {D : Addr} {vs : List Nat} {ft : PM.Env → R Bool} {fe : PM.Env → R Hd} {us : List W} {e1 eE : PM.Env} {ws : List W} {σ : St} {H1 : Hp} {J : It} {Q : VK} {t : Tg}
    (hsl : ∀ i ∈ t.slots, i ∈ vs) (hα : ∀ i ∈ vs, gO α i = none) (hD : H1 D = none) (nl0 : F.H0 D = none) (it : ItOk K mg (MM F α T) H1 J us) (c : Cfg K mg F α (D :: T) e1 σ (upd H1 D (.lst [])))
    (hr : compL ft (fun e => (fe e).val) t vs us [] e1 = .ok ws eE)
    (hq : ∀ H, Cfg K mg F α (D :: T) (wipeE eE vs) (L2.wipe σ vs) H → Kp (Ow α) H1 H → OwnAt K mg (MM F α (D :: T)) H D (.lst ws) → Q (.ref D) H) :
    ∃ W : Nat → Nat → Hp → Prop, (∃ m, W 0 m (upd H1 D (.lst []))) ∧ ∀ i m H, W i m H →
      (J.stop i H ∧ Q (.ref D) H) ∨ (J.go i H ∧ ∃ Nx : Hp → Prop, (∀ H', Nx H' → ∃ m', m' < m ∧ W (i + 1) m' H') ∧ ∀ x H', J.yld i H x H' → gTg K t x (L2.wipe σ vs) H' fun σ2 H2 => L2.wipe σ2 vs = L2.wipe σ vs ∧ tT K mg F WX0 ft σ2 H2 fun b H3 =>
        if b = true then tE K mg F WX0 fe σ2 H3 fun y H4 => ∃ acc, H4 D = some (.lst acc) ∧ acc.length < sizeLine ∧ Nx (upd H4 D (.lst (acc ++ [y]))) else Nx H3) := by
  have nD : ¬ Ow α D := fun z => by
    obtain ⟨i, z⟩ := ow_iff.mp z
    exact c.nt i D z List.mem_cons_self
  let W : Nat → Nat → Hp → Prop := fun i m H => i ≤ us.length ∧ m = us.length - i ∧ ∃ env acc av, Cfg K mg F α (D :: T) (wipeE env vs) (L2.wipe σ vs) H ∧ Kp (Ow α) H1 H ∧ H D = some (.lst av) ∧ RepL K mg (MM F α (D :: T)) H acc av ∧ compL ft (fun e => (fe e).val) t vs (us.drop i) acc env = .ok ws eE
  refine ⟨W, ⟨us.length, Nat.zero_le _, rfl, e1, [], [], c.wipe vs, k0 (Kp.refl _ _) (Kp.new _ hD), upd_same, rfl, hr⟩, fun i m H hW => ?_⟩
  obtain ⟨hi, rfl, env, acc, av, cc, kp, hDl, rl, hc⟩ := hW
  have kpM : Kp (MM F α T) H1 H := kp.mono fun _ z => own_mm z
  by_cases he : i = us.length
  · subst he
    rw [List.drop_length] at hc
    unfold compL at hc
    cases hc
    exact .inl ⟨(it _ H kpM).1 rfl, hq H cc kp ⟨av, hDl, rl⟩⟩
  · have hi' : i < us.length := Nat.lt_of_le_of_ne hi he
    have hd : us.drop i = us[i] :: us.drop (i + 1) := List.drop_eq_getElem_cons hi'
    obtain ⟨go, yl⟩ := (it i H kpM).2 us[i] (List.getElem?_eq_getElem hi')
    refine .inr ⟨go, W (i + 1) (us.length - (i + 1)), fun H' h => ⟨_, by omega, h⟩, fun x H' y => ?_⟩
    obtain ⟨kx, rx⟩ := yl x H' y
    rw [hd] at hc
    unfold compL at hc
    have cx := cc.ext kx
    have rx := rx (MM F α (D :: T)) fun z q => by
      rcases q with q | q | q
      · exact .inl (.inl q)
      · exact .inl (.inr (.inl q))
      · rcases List.mem_cons.mp q with rfl | q
        · exact .inr hD
        · exact .inl (.inr (.inr q))
    split at hc
    · cases hc
    · rename_i ea q1
      refine gTg_ok t cx rx q1 fun σ2 α' B => ?_
      have hα' := (B.al fun i hi => hα i (hsl i hi)).symm
      subst hα'
      have hw : L2.wipe σ2 vs = L2.wipe σ vs := (B.wp vs hsl).trans wipe_idem
      refine ⟨hw, tT_iff.mpr ⟨_, D :: T, ea, B.cfg, ?_⟩⟩
      have hD1 := kx.k _ _ hDl fun z => z
      have kp1 : Kp (Ow α) H1 H' := k0 kp kx
      split at hc
      · rename_i e2 q2
        rw [q2]
        intro H3 c3 k3
        rw [if_pos rfl]
        refine tE_iff.mpr ⟨_, D :: T, e2, c3, ?_⟩
        split at hc
        · rename_i w e3 q3
          split at hc
          · rename_i hz
            cases q4 : fe e2 with
            | no => rw [q4] at q3; cases q3
            | exc => rw [q4] at q3; cases q3
            | ok hd e3' =>
              rw [q4] at q3
              cases hd with
              | s => cases q3
              | v w' =>
                cases q3
                intro H4 v4 c4 k4 r4
                have hD4 : H4 D = some (.lst av) := k4.k _ _ (k3.k _ _ hD1 nD) nD
                have hlen := rl.len
                refine ⟨av, hD4, by rw [hlen]; exact sz6 (Nat.le_of_lt hz), by omega, rfl, e3, acc ++ [w], av ++ [v4], ?_, ?_, upd_same, ?_, hc⟩
                · have := c4.wipe vs
                  rw [hw] at this
                  exact this.mutT List.mem_cons_self hD4 (fun z => z) nl0
                · exact ((kp1.trans k3 fun _ z => .inl z).trans k4 fun _ z => .inl z).trans (Kp.mut (M := fun x => x = D) hD4 (fun z => z) rfl) fun x z => .inr (by rw [z]; exact hD)
                · have k14 : Kp (Ow α) H H4 := (k0 (Kp.refl (Ow α) _) kx).trans (k3.trans k4 fun _ z => .inl z) fun _ z => .inl z
                  have r1 : RepL K mg (MM F α (D :: T)) H4 acc av := rl.kp k14 (fun _ z => .inl (own_mm z)) fun _ z => .inl z
                  have r2 := r1.app (RepL.one (show Rep K mg (MM F α (D :: T)) H4 w v4 from r4))
                  exact r2.kp (Kp.mut (M := fun x => x = D) hD4 (fun z => z) rfl) (fun x z => .inl (.inr (.inr (by rw [z]; exact List.mem_cons_self)))) fun _ z => .inl z
          · cases hc
        · cases hc
      · rename_i e2 q2
        rw [q2]
        intro H3 c3 k3
        rw [if_neg (fun z => nomatch z)]
        refine ⟨by omega, rfl, e2, acc, av, ?_, kp1.trans k3 fun _ z => .inl z, k3.k _ _ hD1 nD, ?_, hc⟩
        · have := c3.wipe vs
          rw [hw] at this
          exact this
        · have k14 : Kp (Ow α) H H3 := (k0 (Kp.refl (Ow α) _) kx).trans k3 fun _ z => .inl z
          exact rl.kp k14 (fun _ z => .inl (own_mm z)) fun _ z => .inl z
      · cases hc
/-- what a comprehension is -/
def compE (mi : PM.Env → R (List W)) (t : Tg) (vs : List Nat) (mt : PM.Env → R Bool) (me : PM.Env → R Hd) : PM.Env → R W := fun env => (mi env).bind fun us e1 =>
  if noOwn e1 vs then (compL mt (fun e => (me e).val) t vs us [] e1).nox.bind fun ws e2 => .ok (.lst ws) (backE e1 e2 vs) else .no
theorem Cfg.back {K : PySem.W.Frag} {mg : Str → Option Value} {α : Asg} {T : List Addr} {D : Addr} {e1 eE : PM.Env} {σ : St} {H1 H : Hp} {vs : List Nat} (n : noOwn e1 vs = true) (c : Cfg K mg F α T e1 σ H1) (hD : H1 D = none) (k : Kp (Ow α) H1 H) (c' : Cfg K mg F α (D :: T) (wipeE eE vs) (L2.wipe σ vs) H) : Cfg K mg F α (D :: T) (backE e1 eE vs) σ H := by
  have hl := c'.le
  rw [wipeE_len, wipe_length] at hl
  refine ⟨by rw [backE_len]; exact hl, c.la, c'.nd, c'.nt, c'.nw, c'.tr, c'.lm, c'.kp, fun i s e => ?_⟩
  by_cases hi : i ∈ vs
  · have es := backE_in hi s e
    cases q : e1[i]? with
    | none => rw [q] at es; rw [es]; trivial
    | some s' =>
      rw [q] at es
      obtain rfl : s = s' := es
      cases s with
      | no => trivial
      | own w => exact absurd q (noOwn_of n hi w)
      | val w =>
        obtain ⟨v, h1, h2⟩ := c.sl i _ q
        exact ⟨v, h1, Rep.kp k (fun _ z => .inl (own_mm z)) (fun x z => by
          rcases z with z | z | z
          · exact .inl (.inl z)
          · exact .inl (.inr (.inl z))
          · rcases List.mem_cons.mp z with rfl | z
            · exact .inr hD
            · exact .inl (.inr (.inr z))) _ _ h2⟩
  · rw [backE_get hi] at e
    have h := c'.sl i s (by rw [wipeE_get hi]; exact e)
    have q : gO (L2.wipe σ vs) i = gO σ i := by unfold gO; rw [wipe_gO hi]
    rw [q] at h; exact h
/-- the run of a comprehension -/
theorem comp_run {σ : St} {H : Hp} {Q : VK} {mi : PM.Env → R (List W)} {t : Tg} {vs : List Nat} {mt : PM.Env → R Bool} {me : PM.Env → R Hd} (hsl : ∀ i ∈ t.slots, i ∈ vs) (h : tF X.K X.mg F Wx (compE mi t vs mt me) σ H Q) :
    tLc (tI X.K X.mg F Wx mi) (gTg X.K t) (tT X.K X.mg F WX0 mt) (tE X.K X.mg F WX0 me) vs σ H Q := by
  obtain ⟨α, T, env, c, o⟩ := tF_iff.mp h
  refine tI_bind c o fun us e1 H1 J q c1 k1 it o1 D hD => ?_
  by_cases hn : noOwn e1 vs = true
  · rw [if_pos hn] at o1
    cases hr : compL mt (fun e => (me e).val) t vs us [] e1 with
    | no => rw [hr] at o1; exact o1.elim
    | exc => rw [hr] at o1; exact o1.elim
    | ok ws eE =>
      rw [hr] at o1
      have kD : Kp (fun _ => False) H1 (upd H1 D (.lst [])) := Kp.new _ hD
      have cD : Cfg X.K X.mg F α (D :: T) e1 σ (upd H1 D (.lst [])) := c1.apart kD hD (by rw [upd_same]; exact fun z => nomatch z)
      have cP := cD.park hn
      have hDn : D ∉ parked α vs := fun z => by
        obtain ⟨i, _, e⟩ := mem_parked.mp z
        exact cD.nt i D e List.mem_cons_self
      -- the parked ones behind D
      have cP' : Cfg X.K X.mg F (wipeA α vs) (D :: (parked α vs ++ T)) e1 σ (upd H1 D (.lst [])) := by
        have mm : ∀ a, MM F (wipeA α vs) (D :: (parked α vs ++ T)) a ↔ MM F (wipeA α vs) (parked α vs ++ D :: T) a := fun a => by
          unfold MM; simp only [List.mem_append, List.mem_cons]; grind
        refine ⟨cP.le, cP.la, cP.nd, fun i a e z => cP.nt i a e (by simp only [List.mem_append, List.mem_cons] at z ⊢; grind), fun a z => cP.nw a (z.imp id fun z => by simp only [List.mem_append, List.mem_cons] at z ⊢; grind), fun a z => cP.tr a ((mm a).mp z), cP.lm, cP.kp, fun i s e => (cP.sl i s e).mono fun x z => (mm x).mp z⟩
      refine comp_loop (J := J) (us := us) (ws := ws) (eE := eE) hsl (fun i hi => ?_) hD (c1.h0 hD) (fun i H2 k2 => it i H2 (k2.mono fun a z => mm_park.mpr z) |>.imp id fun f w hw => (f w hw).imp id fun g x H' y => (g x H' y).imp id fun g M' n => g M' fun y z => (n y z).imp (fun z => mm_park.mpr z) id) cP' hr fun H2 c2 k2 r2 => ?_
      · cases e : gO (wipeA α vs) i with
        | none => rfl
        | some a => exact absurd hi (gO_wipeA e).2
      · have k2' : Kp (Ow α) H1 H2 := k2.mono fun a z => ow_park.mpr (.inl z)
        have mm : ∀ a, MM F (wipeA α vs) (D :: (parked α vs ++ T)) a ↔ MM F (wipeA α vs) (parked α vs ++ D :: T) a := fun a => by
          unfold MM; simp only [List.mem_append, List.mem_cons]; grind
        have c2' : Cfg X.K X.mg F (wipeA α vs) (parked α vs ++ D :: T) (wipeE eE vs) (L2.wipe σ vs) H2 := by
          refine ⟨c2.le, c2.la, c2.nd, fun i a e z => c2.nt i a e (by simp only [List.mem_append, List.mem_cons] at z ⊢; grind), fun a z => c2.nw a (z.imp id fun z => by simp only [List.mem_append, List.mem_cons] at z ⊢; grind), fun a z => c2.tr a ((mm a).mpr z), c2.lm, c2.kp, fun i s e => (c2.sl i s e).mono fun x z => (mm x).mpr z⟩
        have c3 : Cfg X.K X.mg F α (D :: T) (wipeE eE vs) (L2.wipe σ vs) H2 := cD.unpark c2' (wipe_length _ _)
        have c4 := Cfg.back hn c1 hD k2' c3
        refine (show okF X.K X.mg F α T σ H Q (.lst ws) (backE e1 eE vs) from o1) H2 D (kp_none k1 hD) c4 (kk k1 k2') ?_
        · exact OwnAt.kp (N := fun _ => False) (Kp.refl _ H2) (fun _ z => z.elim) (fun x z => .inl ((mm x).mpr (mm_park.mp z))) (fun z => z) r2
  · rw [if_neg hn] at o1; exact o1.elim
end
end PM

namespace PM
open PySem L2
section
variable {X : Cx} {F : Frm} {Wx : WX}
/-- the loop of a comprehension's clause, from what is gathered -/
theorem comp_loopG {K : PySem.W.Frag} {mg : Str → Option Value} {α : Asg} {T : List Addr} {D : Addr} {vs : List Nat} {ft : PM.Env → R Bool} {fe : PM.Env → R Hd} {us : List W} {e1 eE : PM.Env} {ws : List W} {σ : St} {H1 : Hp} {J : It} {Fin : Hp → Prop} {t : Tg} {acc0 : List W} {av0 : List V}
    (hsl : ∀ i ∈ t.slots, i ∈ vs) (hα : ∀ i ∈ vs, gO α i = none) (hD : H1 D = some (.lst av0)) (nl0 : F.H0 D = none) (ra : RepL K mg (MM F α (D :: T)) H1 acc0 av0) (it : ItOk K mg (MM F α (D :: T)) H1 J us) (c : Cfg K mg F α (D :: T) e1 σ H1)
    (hr : compL ft (fun e => (fe e).val) t vs us acc0 e1 = .ok ws eE)
    (hq : ∀ H av, Cfg K mg F α (D :: T) (wipeE eE vs) (L2.wipe σ vs) H → Kp (fun x => Ow α x ∨ x = D) H1 H → H D = some (.lst av) → RepL K mg (MM F α (D :: T)) H ws av → Fin H) :
    ∃ W : Nat → Nat → Hp → Prop, (∃ m, W 0 m H1) ∧ ∀ i m H, W i m H →
      (J.stop i H ∧ Fin H) ∨ (J.go i H ∧ ∃ Nx : Hp → Prop, (∀ H', Nx H' → ∃ m', m' < m ∧ W (i + 1) m' H') ∧ ∀ x H', J.yld i H x H' → gTg K t x (L2.wipe σ vs) H' fun σ2 H2 => L2.wipe σ2 vs = L2.wipe σ vs ∧ tT K mg F WX0 ft σ2 H2 fun b H3 =>
        if b = true then tE K mg F WX0 fe σ2 H3 fun y H4 => ∃ acc, H4 D = some (.lst acc) ∧ acc.length < sizeLine ∧ Nx (upd H4 D (.lst (acc ++ [y]))) else Nx H3) := by
  have nD : ¬ Ow α D := fun z => by
    obtain ⟨i, z⟩ := ow_iff.mp z
    exact c.nt i D z List.mem_cons_self
  let W : Nat → Nat → Hp → Prop := fun i m H => i ≤ us.length ∧ m = us.length - i ∧ ∃ env acc av, Cfg K mg F α (D :: T) (wipeE env vs) (L2.wipe σ vs) H ∧ Kp (fun x => Ow α x ∨ x = D) H1 H ∧ H D = some (.lst av) ∧ RepL K mg (MM F α (D :: T)) H acc av ∧ compL ft (fun e => (fe e).val) t vs (us.drop i) acc env = .ok ws eE
  refine ⟨W, ⟨us.length, Nat.zero_le _, rfl, e1, acc0, av0, c.wipe vs, Kp.refl _ _, hD, ra, hr⟩, fun i m H hW => ?_⟩
  obtain ⟨hi, rfl, env, acc, av, cc, kp, hDl, rl, hc⟩ := hW
  have kpM : Kp (MM F α (D :: T)) H1 H := kp.mono fun x z => z.elim own_mm fun z => .inr (.inr (by rw [z]; exact List.mem_cons_self))
  by_cases he : i = us.length
  · subst he
    rw [List.drop_length] at hc
    unfold compL at hc
    cases hc
    exact .inl ⟨(it _ H kpM).1 rfl, hq H av cc kp hDl rl⟩
  · have hi' : i < us.length := Nat.lt_of_le_of_ne hi he
    have hd : us.drop i = us[i] :: us.drop (i + 1) := List.drop_eq_getElem_cons hi'
    obtain ⟨go, yl⟩ := (it i H kpM).2 us[i] (List.getElem?_eq_getElem hi')
    refine .inr ⟨go, W (i + 1) (us.length - (i + 1)), fun H' h => ⟨_, by omega, h⟩, fun x H' y => ?_⟩
    obtain ⟨kx, rx⟩ := yl x H' y
    rw [hd] at hc
    unfold compL at hc
    have cx := cc.ext kx
    have rx := rx (MM F α (D :: T)) fun z q => .inl q
    split at hc
    · cases hc
    · rename_i ea q1
      refine gTg_ok t cx rx q1 fun σ2 α' B => ?_
      have hα' := (B.al fun i hi => hα i (hsl i hi)).symm
      subst hα'
      have hw : L2.wipe σ2 vs = L2.wipe σ vs := (B.wp vs hsl).trans wipe_idem
      refine ⟨hw, tT_iff.mpr ⟨_, D :: T, ea, B.cfg, ?_⟩⟩
      have hD1 := kx.k _ _ hDl fun z => z
      have kp1 : Kp (fun x => Ow α x ∨ x = D) H1 H' := kp.trans kx fun _ z => z.elim
      split at hc
      · rename_i e2 q2
        rw [q2]
        intro H3 c3 k3
        rw [if_pos rfl]
        refine tE_iff.mpr ⟨_, D :: T, e2, c3, ?_⟩
        split at hc
        · rename_i w e3 q3
          split at hc
          · rename_i hz
            cases q4 : fe e2 with
            | no => rw [q4] at q3; cases q3
            | exc => rw [q4] at q3; cases q3
            | ok hd e3' =>
              rw [q4] at q3
              cases hd with
              | s => cases q3
              | v w' =>
                cases q3
                intro H4 v4 c4 k4 r4
                have hD4 : H4 D = some (.lst av) := k4.k _ _ (k3.k _ _ hD1 nD) nD
                have hlen := rl.len
                refine ⟨av, hD4, by rw [hlen]; exact sz6 (Nat.le_of_lt hz), by omega, rfl, e3, acc ++ [w], av ++ [v4], ?_, ?_, upd_same, ?_, hc⟩
                · have := c4.wipe vs
                  rw [hw] at this
                  exact this.mutT List.mem_cons_self hD4 (fun z => z) nl0
                · exact ((kp1.trans k3 fun _ z => .inl (.inl z)).trans k4 fun _ z => .inl (.inl z)).trans (Kp.mut (M := fun x => x = D) hD4 (fun z => z) rfl) fun x z => .inl (.inr z)
                · have k14 : Kp (Ow α) H H4 := (k0 (Kp.refl (Ow α) _) kx).trans (k3.trans k4 fun _ z => .inl z) fun _ z => .inl z
                  have r1 : RepL K mg (MM F α (D :: T)) H4 acc av := rl.kp k14 (fun _ z => .inl (own_mm z)) fun _ z => .inl z
                  have r2 := r1.app (RepL.one (show Rep K mg (MM F α (D :: T)) H4 w v4 from r4))
                  exact r2.kp (Kp.mut (M := fun x => x = D) hD4 (fun z => z) rfl) (fun x z => .inl (.inr (.inr (by rw [z]; exact List.mem_cons_self)))) fun _ z => .inl z
          · cases hc
        · cases hc
      · rename_i e2 q2
        rw [q2]
        intro H3 c3 k3
        rw [if_neg (fun z => nomatch z)]
        refine ⟨by omega, rfl, e2, acc, av, ?_, kp1.trans k3 fun _ z => .inl (.inl z), k3.k _ _ hD1 nD, ?_, hc⟩
        · have := c3.wipe vs
          rw [hw] at this
          exact this
        · have k14 : Kp (Ow α) H H3 := (k0 (Kp.refl (Ow α) _) kx).trans k3 fun _ z => .inl z
          exact rl.kp k14 (fun _ z => .inl (own_mm z)) fun _ z => .inl z
      · cases hc

theorem ItOk.laid {K : PySem.W.Frag} {mg : Str → Option Value} {M M' : AP'} {H0 H1 : Hp} {J : It} {us : List W} (k : Kp (fun _ => False) H0 H1) (n : ∀ x, M' x → M x ∨ H0 x = none) (it : ItOk K mg M H0 J us) : ItOk K mg M' H1 J us := by
  intro i H kH
  have kk' : Kp M H0 H := (k.mono (M' := M) fun _ z => z.elim).trans kH fun x z => (n x z)
  obtain ⟨s1, s2⟩ := it i H kk'
  refine ⟨s1, fun w hw => ?_⟩
  obtain ⟨g1, g2⟩ := s2 w hw
  refine ⟨g1, fun x H' y => ?_⟩
  obtain ⟨k1, r1⟩ := g2 x H' y
  refine ⟨k1, fun M'' n' => r1 M'' fun y z => ?_⟩
  rcases n' y z with z | z
  · exact n y z
  · exact .inr (kp_none k z)
def compE2 (mi : PM.Env → R (List W)) (t : Tg) (vs : List Nat) (mt : PM.Env → R Bool) (mi1 : PM.Env → R (List W)) (t1 : Tg) (vs1 : List Nat) (mt1 : PM.Env → R Bool) (me : PM.Env → R Hd) : PM.Env → R W := fun env => (mi env).bind fun us e1 =>
  if noOwn e1 vs then (compL2 mt mi1 mt1 (fun e => (me e).val) t t1 vs vs1 us [] e1).nox.bind fun ws e2 => .ok (.lst ws) (backE e1 e2 vs) else .no
theorem wipeE_twice {env : PM.Env} {vs vs1 : List Nat} (h : ∀ i ∈ vs1, i ∈ vs) : wipeE (wipeE env vs1) vs = wipeE env vs := by
  apply List.ext_getElem?
  intro j
  by_cases hj : j ∈ vs
  · have len : (wipeE (wipeE env vs1) vs).length = (wipeE env vs).length := by rw [wipeE_len, wipeE_len, wipeE_len]
    by_cases hl : j < (wipeE env vs).length
    · have h1 := List.getElem?_eq_getElem hl
      have h2 := List.getElem?_eq_getElem (show j < (wipeE (wipeE env vs1) vs).length by rw [len]; exact hl)
      rw [h1, h2, wipeE_in hj _ h1, wipeE_in hj _ h2]
    · rw [List.getElem?_eq_none (by omega), List.getElem?_eq_none (by omega)]
  · rw [wipeE_get hj, wipeE_get hj, wipeE_get fun z => hj (h j z)]
theorem wipe_twice {σ : St} {vs vs1 : List Nat} (h : ∀ i ∈ vs1, i ∈ vs) : L2.wipe (L2.wipe σ vs1) vs = L2.wipe σ vs := by
  apply List.ext_getElem?
  intro j
  by_cases hj : j ∈ vs
  · have none_of : ∀ τ : St, ∀ y, (L2.wipe τ vs)[j]? = some y → y = none := by
      intro τ y e
      cases y with
      | none => rfl
      | some z => exact absurd hj (wipe_some e).2
    have len : (L2.wipe (L2.wipe σ vs1) vs).length = (L2.wipe σ vs).length := by rw [wipe_length, wipe_length, wipe_length]
    by_cases hl : j < (L2.wipe σ vs).length
    · have h1 := List.getElem?_eq_getElem hl
      have h2 := List.getElem?_eq_getElem (show j < (L2.wipe (L2.wipe σ vs1) vs).length by rw [len]; exact hl)
      rw [h1, h2, none_of _ _ h1, none_of _ _ h2]
    · rw [List.getElem?_eq_none (by omega), List.getElem?_eq_none (by omega)]
  · rw [wipe_gO hj, wipe_gO hj, wipe_gO fun z => hj (h j z)]

/-- the loop of the outer clause -/
theorem comp_loop2 {K : PySem.W.Frag} {mg : Str → Option Value} {α : Asg} {T : List Addr} {D : Addr} {vs vs1 : List Nat} {ft ft1 : PM.Env → R Bool} {fi : PM.Env → R (List W)} {fe : PM.Env → R Hd} {us : List W} {e1 eE : PM.Env} {ws : List W} {σ : St} {H1 : Hp} {J : It} {Q : VK} {t t1 : Tg}
    (hsl : ∀ i ∈ t.slots, i ∈ vs) (hsl1 : ∀ i ∈ t1.slots, i ∈ vs1) (hv : ∀ i ∈ vs1, i ∈ vs) (hα : ∀ i ∈ vs, gO α i = none) (hD : H1 D = none) (nl0 : F.H0 D = none) (it : ItOk K mg (MM F α T) H1 J us) (c : Cfg K mg F α (D :: T) e1 σ (upd H1 D (.lst [])))
    (hr : compL2 ft fi ft1 (fun e => (fe e).val) t t1 vs vs1 us [] e1 = .ok ws eE)
    (hq : ∀ H, Cfg K mg F α (D :: T) (wipeE eE vs) (L2.wipe σ vs) H → Kp (Ow α) H1 H → OwnAt K mg (MM F α (D :: T)) H D (.lst ws) → Q (.ref D) H) :
    ∃ W : Nat → Nat → Hp → Prop, (∃ m, W 0 m (upd H1 D (.lst []))) ∧ ∀ i m H, W i m H →
      (J.stop i H ∧ Q (.ref D) H) ∨ (J.go i H ∧ ∃ Nx : Hp → Prop, (∀ H', Nx H' → ∃ m', m' < m ∧ W (i + 1) m' H') ∧ ∀ x H', J.yld i H x H' → gTg K t x (L2.wipe σ vs) H' fun σ2 H2 => L2.wipe σ2 vs = L2.wipe σ vs ∧ tT K mg F WX0 ft σ2 H2 fun b H3 =>
        if b = true then tI K mg F WX0 fi σ2 H3 fun J1 H4 => ∃ W1 : Nat → Nat → Hp → Prop, (∃ m, W1 0 m H4) ∧ ∀ j k H, W1 j k H →
          (J1.stop j H ∧ Nx H) ∨ (J1.go j H ∧ ∃ Nx1 : Hp → Prop, (∀ H', Nx1 H' → ∃ k', k' < k ∧ W1 (j + 1) k' H') ∧ ∀ x H', J1.yld j H x H' → gTg K t1 x (L2.wipe σ2 vs1) H' fun σ3 H5 => L2.wipe σ3 vs1 = L2.wipe σ2 vs1 ∧ tT K mg F WX0 ft1 σ3 H5 fun b H6 =>
            if b = true then tE K mg F WX0 fe σ3 H6 fun y H7 => ∃ acc, H7 D = some (.lst acc) ∧ acc.length < sizeLine ∧ Nx1 (upd H7 D (.lst (acc ++ [y]))) else Nx1 H6)
        else Nx H3) := by
  have nD : ¬ Ow α D := fun z => by
    obtain ⟨i, z⟩ := ow_iff.mp z
    exact c.nt i D z List.mem_cons_self
  let W : Nat → Nat → Hp → Prop := fun i m H => i ≤ us.length ∧ m = us.length - i ∧ ∃ env acc av, Cfg K mg F α (D :: T) (wipeE env vs) (L2.wipe σ vs) H ∧ Kp (Ow α) H1 H ∧ H D = some (.lst av) ∧ RepL K mg (MM F α (D :: T)) H acc av ∧ compL2 ft fi ft1 (fun e => (fe e).val) t t1 vs vs1 (us.drop i) acc env = .ok ws eE
  refine ⟨W, ⟨us.length, Nat.zero_le _, rfl, e1, [], [], c.wipe vs, k0 (Kp.refl _ _) (Kp.new _ hD), upd_same, rfl, hr⟩, fun i m H hW => ?_⟩
  obtain ⟨hi, rfl, env, acc, av, cc, kp, hDl, rl, hc⟩ := hW
  have kpM : Kp (MM F α T) H1 H := kp.mono fun _ z => own_mm z
  by_cases he : i = us.length
  · subst he
    rw [List.drop_length] at hc
    unfold compL2 at hc
    cases hc
    exact .inl ⟨(it _ H kpM).1 rfl, hq H cc kp ⟨av, hDl, rl⟩⟩
  · have hi' : i < us.length := Nat.lt_of_le_of_ne hi he
    have hd : us.drop i = us[i] :: us.drop (i + 1) := List.drop_eq_getElem_cons hi'
    obtain ⟨go, yl⟩ := (it i H kpM).2 us[i] (List.getElem?_eq_getElem hi')
    refine .inr ⟨go, W (i + 1) (us.length - (i + 1)), fun H' h => ⟨_, by omega, h⟩, fun x H' y => ?_⟩
    obtain ⟨kx, rx⟩ := yl x H' y
    rw [hd] at hc
    unfold compL2 at hc
    have cx := cc.ext kx
    have rx := rx (MM F α (D :: T)) fun z q => by
      rcases q with q | q | q
      · exact .inl (.inl q)
      · exact .inl (.inr (.inl q))
      · rcases List.mem_cons.mp q with rfl | q
        · exact .inr hD
        · exact .inl (.inr (.inr q))
    split at hc
    · cases hc
    · rename_i ea q1
      refine gTg_ok t cx rx q1 fun σ2 α' B => ?_
      have hα' := (B.al fun i hi => hα i (hsl i hi)).symm
      subst hα'
      have hw : L2.wipe σ2 vs = L2.wipe σ vs := (B.wp vs hsl).trans wipe_idem
      refine ⟨hw, tT_iff.mpr ⟨_, D :: T, ea, B.cfg, ?_⟩⟩
      have hD1 := kx.k _ _ hDl fun z => z
      have kp1 : Kp (Ow α) H1 H' := k0 kp kx
      split at hc
      · rename_i e2 q2
        rw [q2]
        intro H3 c3 k3
        rw [if_pos rfl]
        refine ⟨_, D :: T, e2, c3, ?_⟩
        split at hc
        · rename_i us1 e3 q3
          rw [q3]
          intro H4 J1 c4 k4 it4
          split at hc
          · rename_i acc' e4 q4
            have k14 : Kp (Ow α) H H4 := (k0 (Kp.refl (Ow α) _) kx).trans (k3.trans k4 fun _ z => .inl z) fun _ z => .inl z
            have hD4 : H4 D = some (.lst av) := k4.k _ _ (k3.k _ _ hD1 nD) nD
            refine comp_loopG (Fin := W (i + 1) (us.length - (i + 1))) hsl1 (fun i hi => hα i (hv i hi)) hD4 nl0 (rl.kp k14 (fun _ z => .inl (own_mm z)) fun _ z => .inl z) it4 c4 q4 fun H5 av5 c5 k5 hD5 r5 => ?_
            refine ⟨hi', rfl, e4, acc', av5, ?_, ?_, hD5, r5, hc⟩
            · have := c5.wipe vs
              rw [wipeE_twice hv, wipe_twice hv, hw] at this
              exact this
            · refine ((kp1.trans k3 fun _ z => .inl z).trans k4 fun _ z => .inl z).trans k5 fun x z => ?_
              rcases z with z | z
              · exact .inl z
              · exact .inr (by rw [z]; exact hD)
          · cases hc
        · cases hc
      · rename_i e2 q2
        rw [q2]
        intro H3 c3 k3
        rw [if_neg (fun z => nomatch z)]
        refine ⟨by omega, rfl, e2, acc, av, ?_, kp1.trans k3 fun _ z => .inl z, k3.k _ _ hD1 nD, ?_, hc⟩
        · have := c3.wipe vs
          rw [hw] at this
          exact this
        · have k14 : Kp (Ow α) H H3 := (k0 (Kp.refl (Ow α) _) kx).trans k3 fun _ z => .inl z
          exact rl.kp k14 (fun _ z => .inl (own_mm z)) fun _ z => .inl z
      · cases hc
theorem comp2_run {σ : St} {H : Hp} {Q : VK} {mi mi1 : PM.Env → R (List W)} {t t1 : Tg} {vs vs1 : List Nat} {mt mt1 : PM.Env → R Bool} {me : PM.Env → R Hd} (hsl : ∀ i ∈ t.slots, i ∈ vs) (hsl1 : ∀ i ∈ t1.slots, i ∈ vs1) (hv : ∀ i ∈ vs1, i ∈ vs)
    (h : tF X.K X.mg F Wx (compE2 mi t vs mt mi1 t1 vs1 mt1 me) σ H Q) :
    tLc2 (tI X.K X.mg F Wx mi) (gTg X.K t) (tT X.K X.mg F WX0 mt) (tI X.K X.mg F WX0 mi1) (gTg X.K t1) (tT X.K X.mg F WX0 mt1) (tE X.K X.mg F WX0 me) vs vs1 σ H Q := by
  obtain ⟨α, T, env, c, o⟩ := tF_iff.mp h
  refine tI_bind c o fun us e1 H1 J q c1 k1 it o1 D hD => ?_
  by_cases hn : noOwn e1 vs = true
  · rw [if_pos hn] at o1
    cases hr : compL2 mt mi1 mt1 (fun e => (me e).val) t t1 vs vs1 us [] e1 with
    | no => rw [hr] at o1; exact o1.elim
    | exc => rw [hr] at o1; exact o1.elim
    | ok ws eE =>
      rw [hr] at o1
      have kD : Kp (fun _ => False) H1 (upd H1 D (.lst [])) := Kp.new _ hD
      have cD : Cfg X.K X.mg F α (D :: T) e1 σ (upd H1 D (.lst [])) := c1.apart kD hD (by rw [upd_same]; exact fun z => nomatch z)
      have cP := cD.park hn
      have mm : ∀ a, MM F (wipeA α vs) (D :: (parked α vs ++ T)) a ↔ MM F (wipeA α vs) (parked α vs ++ D :: T) a := fun a => by
        unfold MM; simp only [List.mem_append, List.mem_cons]; grind
      have cP' : Cfg X.K X.mg F (wipeA α vs) (D :: (parked α vs ++ T)) e1 σ (upd H1 D (.lst [])) := by
        refine ⟨cP.le, cP.la, cP.nd, fun i a e z => cP.nt i a e (by simp only [List.mem_append, List.mem_cons] at z ⊢; grind), fun a z => cP.nw a (z.imp id fun z => by simp only [List.mem_append, List.mem_cons] at z ⊢; grind), fun a z => cP.tr a ((mm a).mp z), cP.lm, cP.kp, fun i s e => (cP.sl i s e).mono fun x z => (mm x).mp z⟩
      refine comp_loop2 (J := J) (us := us) (ws := ws) (eE := eE) hsl hsl1 hv (fun i hi => ?_) hD (c1.h0 hD) (fun i H2 k2 => it i H2 (k2.mono fun a z => mm_park.mpr z) |>.imp id fun f w hw => (f w hw).imp id fun g x H' y => (g x H' y).imp id fun g M' n => g M' fun y z => (n y z).imp (fun z => mm_park.mpr z) id) cP' hr fun H2 c2 k2 r2 => ?_
      · cases e : gO (wipeA α vs) i with
        | none => rfl
        | some a => exact absurd hi (gO_wipeA e).2
      · have k2' : Kp (Ow α) H1 H2 := k2.mono fun a z => ow_park.mpr (.inl z)
        have c2' : Cfg X.K X.mg F (wipeA α vs) (parked α vs ++ D :: T) (wipeE eE vs) (L2.wipe σ vs) H2 := by
          refine ⟨c2.le, c2.la, c2.nd, fun i a e z => c2.nt i a e (by simp only [List.mem_append, List.mem_cons] at z ⊢; grind), fun a z => c2.nw a (z.imp id fun z => by simp only [List.mem_append, List.mem_cons] at z ⊢; grind), fun a z => c2.tr a ((mm a).mpr z), c2.lm, c2.kp, fun i s e => (c2.sl i s e).mono fun x z => (mm x).mpr z⟩
        have c3 : Cfg X.K X.mg F α (D :: T) (wipeE eE vs) (L2.wipe σ vs) H2 := cD.unpark c2' (wipe_length _ _)
        have c4 := Cfg.back hn c1 hD k2' c3
        refine (show okF X.K X.mg F α T σ H Q (.lst ws) (backE e1 eE vs) from o1) H2 D (kp_none k1 hD) c4 (kk k1 k2') ?_
        exact OwnAt.kp (N := fun _ => False) (Kp.refl _ H2) (fun _ z => z.elim) (fun x z => .inl ((mm x).mpr (mm_park.mp z))) (fun z => z) r2
  · rw [if_neg hn] at o1; exact o1.elim
end
end PM

namespace PM
open PySem L2
section
variable (K : PySem.W.Frag) (mg : Str → Option Value) (F : Frm) (Wx : WX) (B : List Nat)
/-- what is returned -/
def RtOk (α : Asg) (T : List Addr) (e : PM.Env) (H : Hp) (fr : Bool) (w : W) (v : V) : Prop :=
  if fr = true then ∃ p, v = .ref p ∧ OwnAt K mg (MM F α T) H p w ∧ (p ∈ T ∨ ∃ i, gO α i = some p ∧ ∀ u, e[i]? ≠ some (.own u)) else Rep K mg (MM F α T) H w v
/-- what may have come of the own objects -/
structure Alt (α : Asg) (H : Hp) (α' : Asg) (H' : Hp) : Prop where
  kp : Kp (Ow α) H H'
  nw : ∀ a, Ow α' a → Ow α a ∨ H a = none
  off : ∀ j, j ∉ B → gO α' j = gO α j
def okS (α : Asg) (T : List Addr) (H : Hp) (D : Ends) : Fl → PM.Env → Prop
  | .nx, e => ∀ σ' H' α', Cfg K mg F α' T e σ' H' → Alt B α H α' H' → D.nx σ' H'
  | .bk, e => ∀ σ' H' α', Cfg K mg F α' T e σ' H' → Alt B α H α' H' → D.bk σ' H'
  | .ct, e => ∀ σ' H' α', Cfg K mg F α' T e σ' H' → Alt B α H α' H' → D.ct σ' H'
  | .rt fr w, e => ∀ v σ' H' α' T', Cfg K mg F α' T' e σ' H' → Kp (Ow α) H H' → (∀ j, j ∉ B → gO α' j = gO α j) → RtOk K mg F α' T' e H' fr w v → D.rt v H'
def exS (α : Asg) (T : List Addr) (H : Hp) : Exn → PM.Env → Prop := fun x e => ∀ σ' H' α' cls d, Cfg K mg F α' T e σ' H' → Alt B α H α' H' → RepX K mg (MM F α' T) x cls d H' → Wx cls d σ' H'
def tS (m : PM.Env → R Fl) : TS := fun D σ H => ∃ α T env, Cfg K mg F α T env σ H ∧ OutR (okS K mg F B α T H D) (exS K mg F Wx B α T H) (m env)
end
abbrev SS (X : Cx) (F : Frm) (Wx : WX) (B : List Nat) (s : Stmt) (m : PM.Env → R Fl) : Prop := PS X s (tS X.K X.mg F Wx B m)
abbrev SSs (X : Cx) (F : Frm) (Wx : WX) (B : List Nat) (s : List Stmt) (m : PM.Env → R Fl) : Prop := PSs X s (tS X.K X.mg F Wx B m)
section
variable {X : Cx} {F : Frm} {Wx : WX} {B : List Nat} {K : PySem.W.Frag} {mg : Str → Option Value} {α α1 α2 : Asg} {T : List Addr} {H H1 H2 : Hp} {D : Ends} {σ : St}
theorem Alt.refl : Alt B α H α H := ⟨Kp.refl _ _, fun _ z => .inl z, fun _ _ => rfl⟩
theorem Alt.trans (a : Alt B α H α1 H1) (b : Alt B α1 H1 α2 H2) : Alt B α H α2 H2 :=
  ⟨a.kp.trans b.kp a.nw, fun x z => (b.nw x z).elim (a.nw x) fun z => .inr (kp_none a.kp z), fun j hj => (b.off j hj).trans (a.off j hj)⟩
theorem Alt.of (k : Kp (Ow α) H H1) : Alt B α H α H1 := ⟨k, fun _ z => .inl z, fun _ _ => rfl⟩
theorem okS.later (a : Alt B α H α1 H1) {f : Fl} {e : PM.Env} (h : okS K mg F B α T H D f e) : okS K mg F B α1 T H1 D f e := by
  cases f with
  | nx => exact fun σ' H' α' c b => h σ' H' α' c (a.trans b)
  | bk => exact fun σ' H' α' c b => h σ' H' α' c (a.trans b)
  | ct => exact fun σ' H' α' c b => h σ' H' α' c (a.trans b)
  | rt fr w => exact fun v σ' H' α' T' c k n r => h v σ' H' α' T' c (a.kp.trans k a.nw) (fun j hj => (n j hj).trans (a.off j hj)) r
theorem exS.later (a : Alt B α H α1 H1) {x : Exn} {e : PM.Env} (h : exS K mg F Wx B α T H x e) : exS K mg F Wx B α1 T H1 x e := fun σ' H' α' cls d c b r => h σ' H' α' cls d c (a.trans b) r
theorem exS.ex {x : Exn} {e : PM.Env} (h : exS K mg F Wx B α T H x e) : exE K mg F Wx α T σ H x e := fun H' cls d c k r => h σ H' α cls d c (.of k) r
theorem OutR.laterS (a : Alt B α H α1 H1) {r : R Fl} (h : OutR (okS K mg F B α T H D) (exS K mg F Wx B α T H) r) : OutR (okS K mg F B α1 T H1 D) (exS K mg F Wx B α1 T H1) r :=
  h.imp (fun _ _ => okS.later a) fun _ _ => exS.later a
theorem pss_by {s : List Stmt} {t' : TS} (h : ∀ D σ H, t' D σ H → ∃ t, PSs X s t ∧ t D σ H) : PSs X s t' := ⟨fun pins s σ H D I hq => by
  obtain ⟨t, p, q⟩ := h D σ H hq
  exact p.run pins s σ H D I q⟩
/-- a statement's part is an expression: its exceptions leave -/
theorem exS_exE {β : Type} {P : β → PM.Env → Prop} {r : R β} (o : OutR P (exS K mg F Wx B α T H) r) : OutR P (exE K mg F Wx α T σ H) r := o.imp (fun _ _ z => z) fun _ _ z => z.ex

theorem sss_nil : SSs X F Wx B [] (fun env => .ok .nx env) := pss_by fun D σ H h => ⟨_, pss_nil, by
  obtain ⟨α, T, env, c, o⟩ := h
  try dsimp only at o
  exact o σ H α c .refl⟩
def seqM (m1 m2 : PM.Env → R Fl) : PM.Env → R Fl := fun env => (m1 env).bind fun f e1 => match f with
  | .nx => m2 e1
  | g => .ok g e1
theorem sss_cons {s : Stmt} {ss : List Stmt} {m1 m2 : PM.Env → R Fl} (h1 : SS X F Wx B s m1) (h2 : SSs X F Wx B ss m2) : SSs X F Wx B (s :: ss) (seqM m1 m2) := pss_by fun D σ H h => ⟨_, pss_cons h1 h2, by
  obtain ⟨α, T, env, c, o⟩ := h
  try dsimp only at o
  refine ⟨α, T, env, c, ?_⟩
  unfold seqM at o
  cases q : m1 env with
  | no => rw [q] at o; exact o
  | exc => rw [q] at o; exact o
  | ok f e1 =>
    rw [q] at o
    cases f with
    | nx => exact fun σ' H' α' c' a => ⟨α', T, e1, c', OutR.laterS a o⟩
    | bk => exact o
    | ct => exact o
    | rt fr w => exact o⟩
theorem ss_pass {pos : Pos} : SS X F Wx B (.Pass pos) (fun env => .ok .nx env) := ps_by fun D σ H h => ⟨_, ps_pass, by
  obtain ⟨α, T, env, c, o⟩ := h
  try dsimp only at o
  exact o σ H α c .refl⟩
theorem ss_doc {x : Str} {j : Nat} {pos pos' : Pos} : SS X F Wx B (.Expr (.Constant (.str x) j pos) pos') (fun env => .ok .nx env) := ps_by fun D σ H h => ⟨_, ps_doc, by
  obtain ⟨α, T, env, c, o⟩ := h
  try dsimp only at o
  exact o σ H α c .refl⟩
theorem ss_break {pos : Pos} : SS X F Wx B (.Break pos) (fun env => .ok .bk env) := ps_by fun D σ H h => ⟨_, ps_break, by
  obtain ⟨α, T, env, c, o⟩ := h
  try dsimp only at o
  exact o σ H α c .refl⟩
theorem ss_cont {pos : Pos} : SS X F Wx B (.Continue pos) (fun env => .ok .ct env) := ps_by fun D σ H h => ⟨_, ps_continue, by
  obtain ⟨α, T, env, c, o⟩ := h
  try dsimp only at o
  exact o σ H α c .refl⟩
theorem ss_expr {e : Expr} {me : PM.Env → R Hd} {pos : Pos} (he : SE X F Wx e me) (hs : swapsWith e none pos.line X.env = pure false) : SS X F Wx B (.Expr e pos) (fun env => (me env).bind fun _ e1 => .ok .nx e1) := ps_by fun D σ H h => ⟨_, ps_expr he hs, by
  obtain ⟨α, T, env, c, o⟩ := h
  try dsimp only at o
  exact tE_bind c (exS_exE o) fun hd e1 H1 v _ c1 k1 _ o1 => (show okS X.K X.mg F B α T H D .nx e1 from o1) σ H1 α c1 (.of k1)⟩
theorem ss_if {cnd : Expr} {a b : List Stmt} {mc : PM.Env → R Bool} {ma mb : PM.Env → R Fl} {pos : Pos} (hc : ST X F Wx cnd mc) (ha : SSs X F Wx B a ma) (hb : SSs X F Wx B b mb) :
    SS X F Wx B (.If cnd a b pos) (fun env => (mc env).bind fun k e1 => if k = true then ma e1 else mb e1) := ps_by fun D σ H h => ⟨_, ps_if hc ha hb, by
  obtain ⟨α, T, env, c, o⟩ := h
  try dsimp only at o
  refine tT_iff.mpr ⟨α, T, env, c, ?_⟩
  cases q : mc env with
  | no => rw [q] at o; exact o
  | exc x e1 => rw [q] at o; exact (show exS X.K X.mg F Wx B α T H x e1 from o).ex
  | ok k e1 =>
    rw [q] at o
    intro H1 c1 k1
    cases k with
    | true => exact ⟨α, T, e1, c1, OutR.laterS (.of k1) o⟩
    | false => exact ⟨α, T, e1, c1, OutR.laterS (.of k1) o⟩⟩

/-! ### the end of a def -/
theorem ss_ret {e : Expr} {me : PM.Env → R Hd} {pos : Pos} (he : SE X F Wx e me) : SS X F Wx B (.Return (some e) pos) (fun env => (me env).val.bind fun w e1 => .ok (.rt false w) e1) := ps_by fun D σ H h => ⟨_, ps_ret he, by
  obtain ⟨α, T, env, c, o⟩ := h
  try dsimp only at o
  unfold R.val at o
  refine tE_iff.mpr ⟨α, T, env, c, ?_⟩
  cases q : me env with
  | no => rw [q] at o; exact o
  | exc x e1 => rw [q] at o; exact (show exS X.K X.mg F Wx B α T H x e1 from o).ex
  | ok hd e1 =>
    rw [q] at o
    cases hd with
    | s => exact o.elim
    | v w => exact fun H' v c1 k1 r1 => (show okS X.K X.mg F B α T H D (.rt false w) e1 from o) v σ H' α T c1 k1 (fun _ _ => rfl) r1⟩
theorem ss_retN {pos : Pos} : SS X F Wx B (.Return none pos) (fun env => .ok (.rt false .non) env) := ps_by fun D σ H h => ⟨_, ps_retN, by
  obtain ⟨α, T, env, c, o⟩ := h
  try dsimp only at o
  exact (show okS X.K X.mg F B α T H D (.rt false .non) env from o) .non σ H α T c (Kp.refl _ _) (fun _ _ => rfl) rfl⟩
theorem ss_retF {e : Expr} {me : PM.Env → R W} {pos : Pos} (he : SF X F Wx e me) : SS X F Wx B (.Return (some e) pos) (fun env => (me env).bind fun w e1 => .ok (.rt true w) e1) := ps_by fun D σ H h => ⟨_, ps_ret he, by
  obtain ⟨α, T, env, c, o⟩ := h
  try dsimp only at o
  refine tF_iff.mpr ⟨α, T, env, c, ?_⟩
  cases q : me env with
  | no => rw [q] at o; exact o
  | exc x e1 => rw [q] at o; exact (show exS X.K X.mg F Wx B α T H x e1 from o).ex
  | ok w e1 =>
    rw [q] at o
    exact fun H' p hp c1 k1 r1 => (show okS X.K X.mg F B α T H D (.rt true w) e1 from o) (.ref p) σ H' α (p :: T) c1 k1 (fun _ _ => rfl) ⟨p, rfl, r1, .inl List.mem_cons_self⟩⟩
/-- an own name is given away -/
theorem ss_retO {e : Expr} {i : Nat} {pos : Pos} (he : SE X F Wx e fun env => match env[i]? with | some (.own _) => .ok (.s i) env | _ => .no) : SS X F Wx B (.Return (some e) pos) (fun env => match env[i]? with
    | some (.own w) => .ok (.rt true w) (env.set i .no)
    | _ => .no) := ps_by fun D σ H h => ⟨_, ps_ret he, by
  obtain ⟨α, T, env, c, o⟩ := h
  try dsimp only at o
  refine tE_iff.mpr ⟨α, T, env, c, ?_⟩
  cases q : env[i]? with
  | none => simp only [q] at o; exact o.elim
  | some s =>
    cases s with
    | own w =>
      simp only [q] at o ⊢
      intro H' v c1 k1 r1
      obtain ⟨a, ha, rfl⟩ := r1
      refine (show okS X.K X.mg F B α T H D (.rt true w) (env.set i .no) from o) (.ref a) σ H' α T ?_ k1 (fun _ _ => rfl) ⟨a, rfl, ?_, .inr ⟨i, ha, fun u z => ?_⟩⟩
      · refine ⟨by rw [List.length_set]; exact c1.le, c1.la, c1.nd, c1.nt, c1.nw, c1.tr, c1.lm, c1.kp, fun j s e => ?_⟩
        by_cases hj : i = j
        · subst hj
          rw [List.getElem?_set_self (List.getElem?_eq_some_iff.mp q).1] at e
          cases e; trivial
        · rw [List.getElem?_set_ne hj] at e
          exact c1.sl j s e
      · obtain ⟨b, e1, _, r⟩ := c1.sl i _ q
        rw [ha] at e1; cases e1
        exact r
      · rw [List.getElem?_set_self (List.getElem?_eq_some_iff.mp q).1] at z
        cases z
    | no => simp only [q] at o; exact o.elim
    | val w => simp only [q] at o; exact o.elim⟩

/-! ### assignments -/
/-- target = value -/
theorem ss_asg {st : Stmt} {me : PM.Env → R Hd} {t : Tg} (hB : ∀ i ∈ t.slots, i ∈ B) (hA : PS X st (tAsg (tE X.K X.mg F Wx me) (gTg X.K t))) :
    SS X F Wx B st (fun env => (me env).val.bind fun w e1 => match bindT t w e1 with | some e2 => .ok .nx e2 | none => .no) := ps_by fun D σ H h => ⟨_, hA, by
  obtain ⟨α, T, env, c, o⟩ := h
  try dsimp only at o
  unfold R.val at o
  refine tE_iff.mpr ⟨α, T, env, c, ?_⟩
  cases q : me env with
  | no => rw [q] at o; exact o
  | exc x e1 => rw [q] at o; exact (show exS X.K X.mg F Wx B α T H x e1 from o).ex
  | ok hd e1 =>
    rw [q] at o
    cases hd with
    | s => exact o.elim
    | v w =>
      intro H1 v c1 k1 r1
      cases q2 : bindT t w e1 with
      | none => simp only [pv1, R.opt, R.bind, q2] at o; exact o.elim
      | some e2 =>
        simp only [pv1, R.opt, R.bind, q2] at o
        refine gTg_ok t c1 r1 q2 fun σ1 α' b => ?_
        exact (show okS X.K X.mg F B α T H D .nx e2 from o) σ1 H1 α' b.cfg ⟨k1, fun a z => .inl (b.ow a z), fun j hj => b.off j fun z => hj (hB j z)⟩⟩
/-- name = a new thing -/
theorem ss_asgO {st : Stmt} {me : PM.Env → R W} {i : Nat} (hB : i ∈ B) (hA : PS X st (tAsg (tF X.K X.mg F Wx me) (gName i))) :
    SS X F Wx B st (fun env => (me env).bind fun w e1 => putO i w e1) := ps_by fun D σ H h => ⟨_, hA, by
  obtain ⟨α, T, env, c, o⟩ := h
  try dsimp only at o
  refine tF_iff.mpr ⟨α, T, env, c, ?_⟩
  cases q : me env with
  | no => rw [q] at o; exact o
  | exc x e1 => rw [q] at o; exact (show exS X.K X.mg F Wx B α T H x e1 from o).ex
  | ok w e1 =>
    rw [q] at o
    intro H1 p hp c1 k1 r1
    have hpT : p ∉ T := fun z => c.tr p (.inr (.inr z)) hp
    simp only [R.bind_ok, putO] at o
    split at o
    · rename_i hi
      have hs : i < σ.length := by rw [← c1.le]; exact hi
      refine (show okS X.K X.mg F B α T H D .nx (e1.set i (.own w)) from o) _ H1 _ (c1.setOwn hs r1 hpT) ⟨k1, fun a z => ?_, fun j hj => gO_set_ne fun z => hj (z ▸ hB)⟩
      rcases ow_set z with z | z
      · cases z; exact .inr hp
      · exact .inl z
    · exact o.elim⟩
end
end PM

namespace PM
open PySem L2
section
variable {X : Cx} {F : Frm} {Wx : WX} {B : List Nat} {K : PySem.W.Frag} {mg : Str → Option Value} {α α1 α2 : Asg} {T : List Addr} {H H1 H2 : Hp} {D : Ends} {σ : St}
theorem mm_alt {x : Addr} (a : Alt B α H α1 H1) (h : MM F α1 T x) : MM F α T x ∨ H x = none := by
  rcases h with h | h | h
  · exact .inl (.inl h)
  · exact (a.nw x h).imp (fun z => .inr (.inl z)) id
  · exact .inl (.inr (.inr h))
theorem Alt.bnd {t : Tg} {e1 : PM.Env} {σ1 : St} (hB : ∀ i ∈ t.slots, i ∈ B) (b : Bnd K mg F t α T e1 σ σ1 H α1) : Alt B α H α1 H :=
  ⟨Kp.refl _ _, fun a z => .inl (b.ow a z), fun j hj => b.off j fun z => hj (hB j z)⟩
/-- the turns of a for -/
theorem for_run {J : It} {us : List W} {t : Tg} {mb : PM.Env → R Fl} {e1 : PM.Env} (hB : ∀ i ∈ t.slots, i ∈ B) (it : ItOk K mg (MM F α T) H1 J us) (c : Cfg K mg F α T e1 σ H1)
    (o : OutR (okS K mg F B α T H1 D) (exS K mg F Wx B α T H1) (forL t mb us e1)) :
    ∃ W : Nat → Nat → St → Hp → Prop, (∃ m, W 0 m σ H1) ∧ ∀ i m σ H, W i m σ H →
      (J.stop i H ∧ D.nx σ H) ∨ (J.go i H ∧ ∃ N : St → Hp → Prop, (∀ σ' H', N σ' H' → ∃ m', m' < m ∧ W (i + 1) m' σ' H') ∧ ∀ x H', J.yld i H x H' → gTg K t x σ H' fun σ2 H2 => tS K mg F Wx B mb { D with nx := N, ct := N, bk := D.nx } σ2 H2) := by
  let W : Nat → Nat → St → Hp → Prop := fun i m σ H => i ≤ us.length ∧ m = us.length - i ∧ ∃ α' e, Cfg K mg F α' T e σ H ∧ Alt B α H1 α' H ∧ OutR (okS K mg F B α' T H D) (exS K mg F Wx B α' T H) (forL t mb (us.drop i) e)
  refine ⟨W, ⟨us.length, Nat.zero_le _, rfl, α, e1, c, .refl, o⟩, fun i m σ H hW => ?_⟩
  obtain ⟨hi, rfl, α', e, cc, al, oo⟩ := hW
  have kpM : Kp (MM F α T) H1 H := al.kp.mono fun _ z => own_mm z
  by_cases he : i = us.length
  · subst he
    rw [List.drop_length] at oo
    unfold forL at oo
    exact .inl ⟨(it _ H kpM).1 rfl, oo σ H α' cc .refl⟩
  · have hi' : i < us.length := Nat.lt_of_le_of_ne hi he
    have hd : us.drop i = us[i] :: us.drop (i + 1) := List.drop_eq_getElem_cons hi'
    obtain ⟨go, yl⟩ := (it i H kpM).2 us[i] (List.getElem?_eq_getElem hi')
    refine .inr ⟨go, W (i + 1) (us.length - (i + 1)), fun σ' H' h => ⟨_, by omega, h⟩, fun x H' y => ?_⟩
    obtain ⟨kx, rx⟩ := yl x H' y
    have cx := cc.ext kx
    have rx := rx (MM F α' T) fun z q => mm_alt al q
    rw [hd] at oo
    unfold forL at oo
    split at oo
    · exact oo.elim
    · rename_i e2 q1
      refine gTg_ok t cx rx q1 fun σ2 α2 b => ?_
      have kx' : Alt B α' H α' H' := .of (k0 (Kp.refl _ _) kx)
      have ab : Alt B α' H α2 H' := kx'.trans (.bnd hB b)
      refine ⟨α2, T, e2, b.cfg, ?_⟩
      cases q2 : mb e2 with
      | no => rw [q2] at oo; exact oo
      | exc x e3 => rw [q2] at oo; exact (show exS K mg F Wx B α' T H x e3 from oo).later ab
      | ok f e3 =>
        rw [q2] at oo
        have nxt : ∀ {σ' H' α3}, Cfg K mg F α3 T e3 σ' H' → Alt B α' H α3 H' → OutR (okS K mg F B α' T H D) (exS K mg F Wx B α' T H) (forL t mb (us.drop (i + 1)) e3) → W (i + 1) (us.length - (i + 1)) σ' H' := fun {σ' H' α3} c3 a3 o3 =>
          ⟨hi', rfl, α3, e3, c3, al.trans a3, OutR.laterS a3 o3⟩
        cases f with
        | nx => exact fun σ' H' α3 c3 a3 => nxt c3 (ab.trans a3) oo
        | ct => exact fun σ' H' α3 c3 a3 => nxt c3 (ab.trans a3) oo
        | bk => exact fun σ' H' α3 c3 a3 => (show okS K mg F B α' T H D .nx e3 from oo) σ' H' α3 c3 (ab.trans a3)
        | rt fr w => exact (show okS K mg F B α' T H D (.rt fr w) e3 from oo).later ab
theorem ss_for {st : Stmt} {tg iter : Expr} {body : List Stmt} {pos : Pos} {t : Tg} {mi : PM.Env → R (List W)} {mb : PM.Env → R Fl} (hp : PassesOwn (model X.prog X.w) X.A X.env X.xe) (hc : X.calm = true) (hB : ∀ i ∈ t.slots, i ∈ B) (hi : SI X F Wx tg iter mi) (hg : PG X tg (gTg X.K t))
    (hb : SSs X F Wx B body mb) (hs : ∀ x, foldedSetIterable iter X.env x = pure x) : SS X F Wx B (.For tg iter body [] pos) (fun env => (mi env).bind fun ws e1 => forL t mb ws e1) := ps_by fun D σ H h => ⟨_, ps_for hp hc hi hg hb hs, by
  obtain ⟨α, T, env, c, o⟩ := h
  try dsimp only at o
  exact tI_bind c (exS_exE o) fun ws e1 H1 J q c1 k1 it o1 => for_run hB it c1 (by
    have q' := o
    rw [q] at q'
    exact OutR.laterS (.of k1) q')⟩

/-- the turns of a while -/
theorem while_run {mc : PM.Env → R Bool} {mb : PM.Env → R Fl} {e1 : PM.Env} {n : Nat} (c : Cfg K mg F α T e1 σ H)
    (o : OutR (okS K mg F B α T H D) (exS K mg F Wx B α T H) (whileL mc mb n e1)) : tWhile (tT K mg F Wx mc) (tS K mg F Wx B mb) D σ H := by
  let W : Nat → St → Hp → Prop := fun m σ H' => ∃ α' e, Cfg K mg F α' T e σ H' ∧ Alt B α H α' H' ∧ OutR (okS K mg F B α' T H' D) (exS K mg F Wx B α' T H') (whileL mc mb m e)
  refine ⟨W, ⟨n, α, e1, c, .refl, o⟩, fun m σ H' hW => ?_⟩
  obtain ⟨α', e, cc, al, oo⟩ := hW
  cases m with
  | zero => exact oo.elim
  | succ m =>
    rw [whileL] at oo
    refine tT_iff.mpr ⟨α', T, e, cc, ?_⟩
    cases q : mc e with
    | no => rw [q] at oo; exact oo
    | exc x e1 => rw [q] at oo; exact (show exS K mg F Wx B α' T H' x e1 from oo).ex
    | ok k e1 =>
      rw [q] at oo
      intro H1 c1 k1
      have a1 : Alt B α' H' α' H1 := .of k1
      cases k with
      | false => exact (show okS K mg F B α' T H' D .nx e1 from oo) σ H1 α' c1 a1
      | true =>
        simp only [R.bind_ok, if_true] at oo ⊢
        refine ⟨W m, fun σ' H2 h => ⟨m, Nat.lt_succ_self m, h⟩, α', T, e1, c1, ?_⟩
        cases q2 : mb e1 with
        | no => rw [q2] at oo; exact oo
        | exc x e3 => rw [q2] at oo; exact (show exS K mg F Wx B α' T H' x e3 from oo).later a1
        | ok f e3 =>
          rw [q2] at oo
          cases f with
          | nx => exact fun σ' H2 α3 c3 a3 => ⟨α3, e3, c3, al.trans (a1.trans a3), OutR.laterS (a1.trans a3) oo⟩
          | ct => exact fun σ' H2 α3 c3 a3 => ⟨α3, e3, c3, al.trans (a1.trans a3), OutR.laterS (a1.trans a3) oo⟩
          | bk => exact fun σ' H2 α3 c3 a3 => (show okS K mg F B α' T H' D .nx e3 from oo) σ' H2 α3 c3 (a1.trans a3)
          | rt fr w => exact (show okS K mg F B α' T H' D (.rt fr w) e3 from oo).later a1
theorem ss_while {cnd : Expr} {body : List Stmt} {pos : Pos} {mc : PM.Env → R Bool} {mb : PM.Env → R Fl} (hp : PassesOwn (model X.prog X.w) X.A X.env X.xe) (hc : ST X F Wx cnd mc) (hb : SSs X F Wx B body mb) :
    SS X F Wx B (.While cnd body [] pos) (fun env => whileL mc mb whileFuel env) := ps_by fun D σ H h => ⟨_, ps_while hp hc hb, by
  obtain ⟨α, T, env, c, o⟩ := h
  exact while_run c o⟩

/-! ### changes -/
/-- `x op= e` of a value -/
def IpSem (X : Cx) (op : Operator) (u v w : W) : Prop := ∃ r, PIp X op r ∧ ∀ (M : AP') (H : Hp) (x y : V) (Q : VK), Rep X.K X.mg M H u x → Rep X.K X.mg M H v y → (∀ H' z, Kp (fun _ => False) H H' → Rep X.K X.mg M H' w z → Q z H') → r x y H Q
theorem ip_none {op : Operator} : PIp X op (fun _ _ _ _ => False) := fun _ _ _ _ _ _ _ _ _ _ _ _ h => h.elim
theorem ss_aug {st : Stmt} {i : Nat} {x : Str} {e : Expr} {me : PM.Env → R Hd} {op : Operator} {pos pos' : Pos} {f : W → W → Option W} (hB : i ∈ B) (hN : X.N.Nodup) (hi : X.N[i]? = some x) (hx : Loc X.env.scope x) (hf : X.fn x = true ∨ X.env.scope.names.lookup x = some .local) (he : SE X F Wx e me)
    (hs : ∀ u v w, f u v = some w → IpSem X op u v w) :
    SS X F Wx B (.AugAssign (.Name x pos') op e pos) (fun env => match env[i]? with
      | some (.val x) => (me env).val.bind fun u e1 => match f x u with | some z => putV i z e1 | none => .no
      | _ => .no) := ps_by fun D σ H h => by
  obtain ⟨α, T, env, c, o⟩ := h
  try dsimp only at o
  cases q0 : env[i]? with
  | none => simp only [q0] at o; exact o.elim
  | some s =>
    cases s with
    | no => simp only [q0] at o; exact o.elim
    | own w => simp only [q0] at o; exact o.elim
    | val w =>
      simp only [q0] at o
      obtain ⟨v0, e0, r0⟩ := c.sl i _ q0
      have e0' := gO_some e0
      have bad : (∀ u e1, me env = .ok (.v u) e1 → False) → ∃ t, PS X (.AugAssign (.Name x pos') op e pos) t ∧ t D σ H := fun hno => ⟨_, ps_aug hN hi hx he ip_none hf, v0, e0', by
        unfold R.val at o
        refine tE_iff.mpr ⟨α, T, env, c, ?_⟩
        cases q : me env with
        | no => rw [q] at o; exact o
        | exc x e1 => rw [q] at o; exact (show exS X.K X.mg F Wx B α T H x e1 from o).ex
        | ok hd e1 =>
          rw [q] at o
          cases hd with
          | s => exact o.elim
          | v u => exact (hno u e1 q).elim⟩
      unfold R.val at o
      cases q : me env with
      | no => exact bad fun u e1 z => by rw [q] at z; cases z
      | exc y e1 => exact bad fun u e1 z => by rw [q] at z; cases z
      | ok hd e1 =>
        cases hd with
        | s => exact bad fun u e1 z => by rw [q] at z; cases z
        | v u =>
          simp only [q, R.bind_ok, pv1, R.opt] at o
          cases q2 : f w u with
          | none => simp only [q2] at o; exact o.elim
          | some z =>
            simp only [q2] at o
            obtain ⟨r, hr, hq⟩ := hs w u z q2
            refine ⟨_, ps_aug hN hi hx he hr hf, v0, e0', tE_iff.mpr ⟨α, T, env, c, ?_⟩⟩
            rw [q]
            intro H1 v1 c1 k1 r1
            refine hq (MM F α T) H1 v0 v1 _ (Rep.kp k1 (fun _ z => .inl (own_mm z)) (fun _ z => .inl z) _ _ r0) r1 fun H2 z' k2 r2 => ?_
            unfold putV at o
            split at o
            · rename_i hl
              have c2 := c1.ext k2
              have hs' : i < σ.length := by rw [← c1.le]; exact hl
              exact (show okS X.K X.mg F B α T H D .nx (e1.set i (.val z)) from o) _ H2 _ (c2.setVal hs' r2) ⟨k0 k1 k2, fun a z => .inl ((ow_set z).resolve_left fun z => nomatch z), fun j hj => gO_set_ne fun z => hj (z ▸ hB)⟩
            · exact o.elim
end
end PM

namespace PM
open PySem L2
section
variable {K : PySem.W.Frag} {mg : Str → Option Value} {M : AP'} {H H' : Hp}
theorem ow_app {a b : List (Option Addr)} {x : Addr} : Ow (a ++ b) x ↔ Ow a x ∨ Ow b x := by
  simp only [Ow]
  constructor
  · rintro ⟨i, h⟩
    by_cases hi : i < a.length
    · rw [List.getElem?_append_left hi] at h; exact .inl ⟨i, h⟩
    · rw [List.getElem?_append_right (by omega)] at h; exact .inr ⟨_, h⟩
  · rintro (⟨i, h⟩ | ⟨i, h⟩)
    · exact ⟨i, by rw [List.getElem?_append_left (List.getElem?_eq_some_iff.mp h).1]; exact h⟩
    · exact ⟨a.length + i, by rw [List.getElem?_append_right (by omega), Nat.add_sub_cancel_left]; exact h⟩
theorem ow_rep {n : Nat} {x : Addr} : ¬ Ow (List.replicate n none) x := by
  rintro ⟨i, h⟩
  rw [List.getElem?_replicate] at h
  split at h <;> cases h
theorem startE_len : ∀ as : List Ar, (startE as).length = as.length
  | [] => rfl
  | .val _ :: r => by rw [startE, List.length_cons, List.length_cons, startE_len r]
  | .own _ :: r => by rw [startE, List.length_cons, List.length_cons, startE_len r]
theorem ArsOk.slot : ∀ {as : List Ar} {ad : List (Option Addr)} {vs : List V}, ArsOk K mg M H as ad vs → ∀ (i : Nat) s, (startE as)[i]? = some s → SlotOk K mg M H s (gO ad i) (vs[i]?)
  | [], [], [], _, i, s, e => by simp [startE] at e
  | .val w :: r, none :: ad, v :: vs, h, 0, s, e => by
    simp only [startE, List.getElem?_cons_zero] at e; cases e
    exact ⟨v, rfl, h.1⟩
  | .own w :: r, some a :: ad, v :: vs, h, 0, s, e => by
    simp only [startE, List.getElem?_cons_zero] at e; cases e
    exact ⟨a, rfl, by rw [h.1]; rfl, h.2.1⟩
  | .val w :: r, none :: ad, v :: vs, h, i + 1, s, e => by
    simp only [startE, List.getElem?_cons_succ] at e ⊢
    exact ArsOk.slot h.2 i s e
  | .own w :: r, some a :: ad, v :: vs, h, i + 1, s, e => by
    simp only [startE, List.getElem?_cons_succ] at e ⊢
    exact ArsOk.slot h.2.2 i s e
  | [], _ :: _, _, h, _, _, _ => h.elim
  | [], [], _ :: _, h, _, _, _ => h.elim
  | .val _ :: _, some _ :: _, _, h, _, _, _ => h.elim
  | .val _ :: _, [], _, h, _, _, _ => h.elim
  | .val _ :: _, none :: _, [], h, _, _, _ => h.elim
  | .own _ :: _, none :: _, _, h, _, _, _ => h.elim
  | .own _ :: _, [], _, h, _, _, _ => h.elim
  | .own _ :: _, some _ :: _, [], h, _, _, _ => h.elim
theorem ArsOk.own_at : ∀ {as : List Ar} {ad : List (Option Addr)} {vs : List V}, ArsOk K mg M H as ad vs → ∀ {a}, Ow ad a → H a ≠ none
  | [], [], [], _, a, h => absurd h (by rintro ⟨i, h⟩; simp at h)
  | .val w :: r, none :: ad, v :: vs, h, a, o => by
    rcases ow_cons.mp o with o | o
    · cases o
    · exact ArsOk.own_at h.2 o
  | .own w :: r, some b :: ad, v :: vs, h, a, o => by
    rcases ow_cons.mp o with o | o
    · cases o
      obtain ⟨o2, e, _⟩ := h.2.1.fix
      rw [e]; exact fun z => nomatch z
    · exact ArsOk.own_at h.2.2 o
  | [], _ :: _, _, h, _, _ => h.elim
  | [], [], _ :: _, h, _, _ => h.elim
  | .val _ :: _, some _ :: _, _, h, _, _ => h.elim
  | .val _ :: _, [], _, h, _, _ => h.elim
  | .val _ :: _, none :: _, [], h, _, _ => h.elim
  | .own _ :: _, none :: _, _, h, _, _ => h.elim
  | .own _ :: _, [], _, h, _, _ => h.elim
  | .own _ :: _, some _ :: _, [], h, _, _ => h.elim
/-- the frame of a call -/
def frmOf (H : Hp) (ad : List (Option Addr)) (M : AP') : Frm := ⟨H, Ow ad, M⟩
theorem cfg_start {as : List Ar} {ad : List (Option Addr)} {vs : List V} {N : List Str} (h : ArsOk K mg M H as ad vs) (hM : ∀ a, M a → H a ≠ none) (hO : ∀ a, Ow ad a → M a) (nd : ∀ (i j : Nat) a, gO ad i = some a → gO ad j = some a → i = j) (hl : vs.length ≤ N.length) :
    Cfg K mg (frmOf H ad M) (ad ++ List.replicate (N.length - vs.length) none) [] (startE as ++ List.replicate (N.length - vs.length) .no) (L2.start N vs) H := by
  obtain ⟨l1, l2⟩ := h.len
  have g1 : ∀ {i a}, gO (ad ++ List.replicate (N.length - vs.length) none) i = some a → gO ad i = some a := fun {i a} e => by
    have e := gO_some e
    by_cases hi : i < ad.length
    · rw [List.getElem?_append_left hi] at e; exact gO_of e
    · rw [List.getElem?_append_right (by omega), List.getElem?_replicate] at e
      split at e <;> cases e
  have mm : ∀ x, MM (frmOf H ad M) (ad ++ List.replicate (N.length - vs.length) none) [] x ↔ M x := fun x => by
    unfold MM
    rw [ow_app]
    constructor
    · rintro (z | (z | z) | z)
      · exact z
      · exact hO x z
      · exact (ow_rep z).elim
      · simp at z
    · exact fun z => .inl z
  have ls : (L2.start N vs).length = N.length := by
    unfold L2.start
    rw [List.length_append, List.length_map, List.length_replicate]; omega
  refine ⟨?_, ?_, fun i j a e1 e2 => nd i j a (g1 e1) (g1 e2), fun i a _ z => by simp at z, fun a z => ?_, fun a z => hM a ((mm a).mp z), fun a z => hO a z, Kp.refl _ _, fun i s e => ?_⟩
  · rw [ls, List.length_append, List.length_replicate, startE_len]; omega
  · rw [ls, List.length_append, List.length_replicate]; omega
  · rcases z with z | z
    · rcases ow_app.mp z with z | z
      · exact .inl z
      · exact (ow_rep z).elim
    · simp at z
  · by_cases hi : i < (startE as).length
    · rw [List.getElem?_append_left hi] at e
      have q := ArsOk.slot h i s e
      rw [startE_len] at hi
      have e1 : gO (ad ++ List.replicate (N.length - vs.length) none) i = gO ad i := by unfold gO; rw [List.getElem?_append_left (by omega)]
      have e2 : gO (L2.start N vs) i = vs[i]? := by
        unfold gO L2.start
        rw [List.getElem?_append_left (by rw [List.length_map]; omega), List.getElem?_map]
        cases vs[i]? <;> rfl
      rw [e1, e2]
      exact q.mono fun x z => (mm x).mp z
    · rw [List.getElem?_append_right (by omega), List.getElem?_replicate] at e
      split at e <;> cases e
      trivial
theorem lentOk_of {rb : List Nat} : ∀ {as : List Ar} {k i : Nat} {w : W}, lentOk rb k as = true → as[i]? = some (.own w) → k + i ∉ rb
  | [], _, _, _, _, e => by simp at e
  | .val _ :: r, k, 0, w, h, e => by simp at e
  | .own _ :: r, k, 0, w, h, e => by
    simp only [lentOk, Bool.and_eq_true, Bool.not_eq_true'] at h
    intro z
    have := List.contains_iff_mem.mpr (show k ∈ rb from z)
    rw [this] at h
    cases h.1
  | .val _ :: r, k, i + 1, w, h, e => by
    simp only [List.getElem?_cons_succ] at e
    have := lentOk_of (rb := rb) (as := r) (k := k + 1) (i := i) (show lentOk rb (k + 1) r = true from h) e
    rw [show k + (i + 1) = k + 1 + i by omega]; exact this
  | .own _ :: r, k, i + 1, w, h, e => by
    simp only [List.getElem?_cons_succ] at e
    simp only [lentOk, Bool.and_eq_true] at h
    have := lentOk_of (rb := rb) (as := r) (k := k + 1) (i := i) h.2 e
    rw [show k + (i + 1) = k + 1 + i by omega]; exact this
/-- what was lent, at the end -/
theorem backs_ok {F : Frm} {α : Asg} {T : List Addr} {M' : AP'} (hm : ∀ x, M' x → MM F α T x) : ∀ {as : List Ar} {ad : List (Option Addr)} {vs : List V} {e : PM.Env} {bs : List W} {σ : List (Option V)} {β : Asg}, ArsOk K mg M H as ad vs → backs as e = some bs →
    (∀ (i : Nat) s, e[i]? = some s → SlotOk K mg (MM F α T) H' s (gO β i) (gO σ i)) → (∀ (i : Nat) a, gO ad i = some a → gO β i = some a) → BacksOk K mg M' H' ad bs
  | [], [], [], e, bs, σ, β, _, h, _, _ => by cases h; trivial
  | .val w :: r, none :: ad, v :: vs, e, bs, σ, β, ha, h, sl, al => by
    refine backs_ok hm (as := r) (ad := ad) (vs := vs) (e := e.tail) (σ := σ.tail) (β := β.tail) ha.2 h (fun i s q => ?_) fun i a q => ?_
    · have e1 : gO β.tail i = gO β (i + 1) := by unfold gO; rw [List.getElem?_tail]
      have e2 : gO σ.tail i = gO σ (i + 1) := by unfold gO; rw [List.getElem?_tail]
      rw [e1, e2]
      exact sl (i + 1) s (by rw [← List.getElem?_tail]; exact q)
    · have e1 : gO β.tail i = gO β (i + 1) := by unfold gO; rw [List.getElem?_tail]
      rw [e1]
      exact al (i + 1) a (by unfold gO at q ⊢; rw [List.getElem?_cons_succ]; exact q)
  | .own w :: r, some a :: ad, v :: vs, e, bs, σ, β, ha, h, sl, al => by
    unfold backs at h
    split at h
    · rename_i w' e'
      split at h
      · rename_i ws hws
        cases h
        have s0 := sl 0 _ rfl
        obtain ⟨b, e1, _, o⟩ := s0
        have := al 0 a (by unfold gO; rfl)
        rw [this] at e1; cases e1
        refine ⟨OwnAt.kp (N := fun _ => False) (Kp.refl _ _) (fun _ z => z.elim) (fun x z => .inl (hm x z)) (fun z => z) o, ?_⟩
        refine backs_ok hm (as := r) (ad := ad) (vs := vs) (e := e') (σ := σ.tail) (β := β.tail) ha.2.2 hws (fun i s q => ?_) fun i a q => ?_
        · have e1 : gO β.tail i = gO β (i + 1) := by unfold gO; rw [List.getElem?_tail]
          have e2 : gO σ.tail i = gO σ (i + 1) := by unfold gO; rw [List.getElem?_tail]
          rw [e1, e2]
          exact sl (i + 1) s (by rw [List.getElem?_cons_succ]; exact q)
        · have e1 : gO β.tail i = gO β (i + 1) := by unfold gO; rw [List.getElem?_tail]
          rw [e1]
          exact al (i + 1) a (by unfold gO at q ⊢; rw [List.getElem?_cons_succ]; exact q)
      · cases h
    · cases h
  | [], _ :: _, _, _, _, _, _, h, _, _, _ => h.elim
  | [], [], _ :: _, _, _, _, _, h, _, _, _ => h.elim
  | .val _ :: _, some _ :: _, _, _, _, _, _, h, _, _, _ => h.elim
  | .val _ :: _, [], _, _, _, _, _, h, _, _, _ => h.elim
  | .val _ :: _, none :: _, [], _, _, _, _, h, _, _, _ => h.elim
  | .own _ :: _, none :: _, _, _, _, _, _, h, _, _, _ => h.elim
  | .own _ :: _, [], _, _, _, _, _, h, _, _, _ => h.elim
  | .own _ :: _, some _ :: _, [], _, _, _, _, h, _, _, _ => h.elim
theorem ars_own : ∀ {as : List Ar} {ad : List (Option Addr)} {vs : List V}, ArsOk K mg M H as ad vs → ∀ {i a}, gO ad i = some a → ∃ w, as[i]? = some (.own w)
  | [], [], [], _, i, a, e => by simp [gO] at e
  | .val w :: r, none :: ad, v :: vs, h, 0, a, e => by simp [gO] at e
  | .own w :: r, some b :: ad, v :: vs, h, 0, a, e => ⟨w, rfl⟩
  | .val w :: r, none :: ad, v :: vs, h, i + 1, a, e => ars_own h.2 (i := i) (a := a) (by unfold gO at e ⊢; rw [List.getElem?_cons_succ] at e; exact e)
  | .own w :: r, some b :: ad, v :: vs, h, i + 1, a, e => ars_own h.2.2 (i := i) (a := a) (by unfold gO at e ⊢; rw [List.getElem?_cons_succ] at e; exact e)
  | [], _ :: _, _, h, _, _, _ => h.elim
  | [], [], _ :: _, h, _, _, _ => h.elim
  | .val _ :: _, some _ :: _, _, h, _, _, _ => h.elim
  | .val _ :: _, [], _, h, _, _, _ => h.elim
  | .val _ :: _, none :: _, [], h, _, _, _ => h.elim
  | .own _ :: _, none :: _, _, h, _, _, _ => h.elim
  | .own _ :: _, [], _, h, _, _, _ => h.elim
  | .own _ :: _, some _ :: _, [], h, _, _, _ => h.elim
theorem backs_own : ∀ {as : List Ar} {e : PM.Env} {bs : List W}, backs as e = some bs → ∀ {i : Nat} {w : W}, as[i]? = some (.own w) → ∃ u, e[i]? = some (.own u)
  | [], _, _, _, _, _, h => by simp at h
  | .val _ :: r, e, bs, h, 0, w, q => by simp at q
  | .val _ :: r, e, bs, h, i + 1, w, q => by
    obtain ⟨u, hu⟩ := backs_own (as := r) (e := e.tail) h (i := i) (by simpa using q)
    exact ⟨u, by rw [← List.getElem?_tail]; exact hu⟩
  | .own _ :: r, e, bs, h, 0, w, q => by
    unfold backs at h
    split at h
    · exact ⟨_, rfl⟩
    · cases h
  | .own _ :: r, e, bs, h, i + 1, w, q => by
    unfold backs at h
    split at h
    · split at h
      · rename_i hws
        obtain ⟨u, hu⟩ := backs_own (as := r) hws (i := i) (by simpa using q)
        exact ⟨u, by rw [List.getElem?_cons_succ]; exact hu⟩
      · cases h
    · cases h
/-- THE RUN OF A BODY: what is asked of the call is asked of the body -/
theorem fun_run {C : CallT} {G : Glob} {d : FnD} {as : List Ar} {ad : List (Option Addr)} {vs : List V} {N : List Str} {Q : VK} {E : XK} (h : ArsOk K mg M H as ad vs) (hM : ∀ a, M a → H a ≠ none) (hO : ∀ a, Ow ad a → M a) (nd : ∀ (i j : Nat) a, gO ad i = some a → gO ad j = some a → i = j)
    (hn : d.n = N.length) (hl : vs.length ≤ N.length) (q : CallQ K mg M ad H Q E (runF C G d as)) :
    tS K mg (frmOf H ad M) (fun cls dd _ H' => E cls dd H') d.rb (execSs C G d.body) { nx := fun _ H' => Q .non H', rt := Q } (L2.start N vs) H := by
  have c := cfg_start (N := N) h hM hO nd hl
  obtain ⟨l1, l2⟩ := h.len
  refine ⟨_, [], _, c, ?_⟩
  unfold runF at q
  split at q
  case isFalse => exact q.elim
  rename_i hps
  have hd : d.n - d.ps = N.length - vs.length := by rw [hn, ← hps.1, l1]
  rw [hd] at q
  have hOw : ∀ x, Ow (ad ++ List.replicate (N.length - vs.length) none) x → Ow ad x := fun x z => (ow_app.mp z).elim id fun z => (ow_rep z).elim
  have keep : ∀ {α' : Asg}, (∀ j, j ∉ d.rb → gO α' j = gO (ad ++ List.replicate (N.length - vs.length) none) j) → ∀ (i : Nat) a, gO ad i = some a → gO α' i = some a := fun {α'} hh i a e => by
    obtain ⟨w, hw⟩ := ars_own h e
    have hi := lentOk_of hps.2 hw
    rw [Nat.zero_add] at hi
    rw [hh i hi]
    unfold gO at e ⊢
    have hlt : i < ad.length := by
      cases z : ad[i]? with
      | none => rw [z] at e; cases e
      | some x => exact (List.getElem?_eq_some_iff.mp z).1
    rw [List.getElem?_append_left hlt]; exact e
  cases qx : execSs C G d.body (startE as ++ List.replicate (N.length - vs.length) .no) with
  | no => rw [qx] at q; exact q.elim
  | exc x e =>
    rw [qx] at q
    simp only at q
    cases qb : backs as e with
    | none => rw [qb] at q; exact q.elim
    | some bs =>
      rw [qb] at q
      intro σ' H' α' cls dd c' a r
      exact q H' cls dd (a.kp.mono hOw) (backs_ok (fun x z => .inl z) h qb c'.sl (keep a.off)) (by
        obtain ⟨C0, e1, e2, e3⟩ := r
        refine ⟨C0, e1, e2, e3.imp id fun ⟨dx, fs, f1, f2, f3, f4, f5⟩ => ⟨dx, fs, f1, f2, fun z => f3 (.inl z), f4, f5.mono fun x z => .inl z⟩⟩)
  | ok f e =>
    rw [qx] at q
    cases f with
    | bk => exact q.elim
    | ct => exact q.elim
    | nx =>
      simp only at q
      cases qb : backs as e with
      | none => rw [qb] at q; exact q.elim
      | some bs =>
        rw [qb] at q
        intro σ' H' α' c' a
        exact q H' .non (a.kp.mono hOw) (backs_ok (M' := fun x => M x ∨ (false = true ∧ V.non = .ref x)) (fun x z => Or.elim z Or.inl fun z => nomatch z.1) h qb c'.sl (keep a.off)) rfl
    | rt fr w =>
      simp only at q
      cases qb : backs as e with
      | none => rw [qb] at q; exact q.elim
      | some bs =>
        rw [qb] at q
        intro v σ' H' α' T' c' k off r
        have kk := keep off
        cases fr with
        | false =>
          exact q H' v (k.mono hOw) (backs_ok (M' := fun x => M x ∨ (false = true ∧ v = .ref x)) (fun x z => Or.elim z Or.inl fun z => nomatch z.1) h qb c'.sl kk) (show Rep K mg M H' w v from (show Rep K mg (MM (frmOf H ad M) α' T') H' w v from r).mono fun x z => .inl z)
        | true =>
          obtain ⟨p, rfl, oo, hp⟩ := r
          have hpm : MM (frmOf H ad M) α' T' p := by
            rcases hp with hp | ⟨i, hi, _⟩
            · exact .inr (.inr hp)
            · exact own_mm (ow_iff.mpr ⟨i, hi⟩)
          have hnew : H p = none := by
            have hx : (Ow ad p) ∨ H p = none := c'.nw p (Or.elim hp Or.inr fun ⟨i, hi, _⟩ => Or.inl (ow_iff.mpr ⟨i, hi⟩))
            rcases hx with hx | hx
            · obtain ⟨j, hj⟩ := ow_iff.mp hx
              have h1 := kk j p hj
              rcases hp with hp | ⟨i, hi, hn⟩
              · exact absurd hp (c'.nt j p h1)
              · have := c'.nd i j p hi h1
                subst this
                obtain ⟨w', hw'⟩ := ars_own h hj
                obtain ⟨u, hu⟩ := backs_own qb hw'
                exact absurd hu (hn u)
            · exact hx
          refine q H' (.ref p) (k.mono hOw) (backs_ok (M' := fun x => M x ∨ (true = true ∧ V.ref p = .ref x)) (fun x z => Or.elim z Or.inl fun z => ?_) h qb c'.sl kk) ⟨p, rfl, hnew, ?_⟩
          · have e1 : p = x := by have := z.2; injection this
            rw [← e1]; exact hpm
          · exact OwnAt.kp (N := fun _ => False) (Kp.refl _ _) (fun _ z => z.elim) (fun x z => Or.inl (Or.elim z Or.inl fun z => by rw [z]; exact hpm)) (fun z => z) oo
end
end PM

namespace PM
open PySem L2
section
variable {K : PySem.W.Frag} {mg : Str → Option Value} {M M' : AP'} {H H' : Hp}
theorem ArsOk.kp {N : AP'} (k : Kp N H H') (i : ∀ x, N x → M x ∨ H x = none) (n : ∀ x, M' x → M x ∨ H x = none) : ∀ {as : List Ar} {ad : List (Option Addr)} {vs : List V}, (∀ a, Ow ad a → ¬ N a) → ArsOk K mg M H as ad vs → ArsOk K mg M' H' as ad vs
  | [], [], [], _, _ => trivial
  | .val w :: r, none :: as, v :: vs, hn, h => ⟨Rep.kp k i n _ _ h.1, ArsOk.kp k i n (fun a z => hn a (ow_cons.mpr (.inr z))) h.2⟩
  | .own w :: r, some a :: as, v :: vs, hn, h => ⟨h.1, OwnAt.kp k i n (hn a (ow_cons.mpr (.inl rfl))) h.2.1, ArsOk.kp k i n (fun a z => hn a (ow_cons.mpr (.inr z))) h.2.2⟩
  | [], _ :: _, _, _, h => h.elim
  | [], [], _ :: _, _, h => h.elim
  | .val _ :: _, some _ :: _, _, _, h => h.elim
  | .val _ :: _, [], _, _, h => h.elim
  | .val _ :: _, none :: _, [], _, h => h.elim
  | .own _ :: _, none :: _, _, _, h => h.elim
  | .own _ :: _, [], _, _, h => h.elim
  | .own _ :: _, some _ :: _, [], _, h => h.elim
theorem repX_mono {x : Exn} {cls : Value} {d : Option Addr} (n : ∀ y, M' y → M y) (r : RepX K mg M x cls d H) : RepX K mg M' x cls d H := by
  obtain ⟨C0, e1, e2, e3⟩ := r
  exact ⟨C0, e1, e2, e3.imp id fun ⟨dx, fs, f1, f2, f3, f4, f5⟩ => ⟨dx, fs, f1, f2, fun z => f3 (n _ z), f4, f5.mono n⟩⟩
/-- the promise of a class: its __init__ at the new instance -/
theorem spc_cls {c : Str} {A : Addr} {g gg : List Ar → CRs} {vs : List V} {Q : VK} {E : XK} (hm : mg c = some (.ref A)) (hg : ∀ as, g as = clsR (gg (.own (.obj c [] []) :: as))) (h : SpC K mg g vs H Q E) (x dx : Addr) (hx : H x = none) (hdx : H dx = none) (hne : dx ≠ x) :
    SpC K mg gg (.ref x :: vs) (upd (upd H dx (.own x)) x (.ins A dx [])) (fun v H2 => v = .non ∧ Q (.ref x) H2) E := by
  obtain ⟨M, as, ad, ha, hM, hO, nd, q⟩ := h
  rw [hg] at q
  have hx1 : (upd H dx (.own x)) x = none := by rw [upd_ne hne.symm]; exact hx
  have k1 : Kp (fun _ => False) H (upd (upd H dx (.own x)) x (.ins A dx [])) := (Kp.new (fun _ => False) hdx).trans (Kp.new (fun _ => False) hx1) fun _ z => z.elim
  have nO : ¬ Ow ad x := fun z => hM x (hO x z) hx
  have hx2 : (upd (upd H dx (.own x)) x (.ins A dx [])) x = some (.ins A dx []) := upd_same
  refine ⟨fun y => M y ∨ y = x, .own (.obj c [] []) :: as, some x :: ad, ⟨rfl, ⟨A, dx, [], hm, hx2, rfl, rfl⟩, ?_⟩, fun a z => ?_, fun a z => ?_, fun i j a e1 e2 => ?_, ?_⟩
  · exact ha.kp k1 (fun _ z => z.elim) (fun y z => z.imp id fun e => by rw [e]; exact hx) fun _ _ z => z
  · rcases z with z | z
    · exact k1.d a (hM a z)
    · rw [z, hx2]; exact fun z => nomatch z
  · rcases ow_cons.mp z with z | z
    · cases z; exact .inr rfl
    · exact .inl (hO a z)
  · cases i with
    | zero =>
      cases j with
      | zero => rfl
      | succ j =>
        have e1' : some x = some a := e1
        cases e1'
        exact absurd (ow_iff.mpr ⟨j, by unfold gO at e2 ⊢; rw [List.getElem?_cons_succ] at e2; exact e2⟩) nO
    | succ i =>
      cases j with
      | zero =>
        have e2' : some x = some a := e2
        cases e2'
        exact absurd (ow_iff.mpr ⟨i, by unfold gO at e1 ⊢; rw [List.getElem?_cons_succ] at e1; exact e1⟩) nO
      | succ j => rw [nd i j a (by unfold gO at e1 ⊢; rw [List.getElem?_cons_succ] at e1; exact e1) (by unfold gO at e2 ⊢; rw [List.getElem?_cons_succ] at e2; exact e2)]
  · have kO : ∀ {H'}, Kp (Ow (some x :: ad)) (upd (upd H dx (.own x)) x (.ins A dx [])) H' → Kp (Ow ad) H H' := fun {H'} k => (k1.mono (M' := Ow ad) fun _ z => z.elim).trans k fun y z => by
      rcases ow_cons.mp z with z | z
      · cases z; exact .inr hx
      · exact .inl z
    cases qq : gg (.own (.obj c [] []) :: as) with
    | no => rw [qq] at q; exact q.elim
    | exc e bs =>
      rw [qq] at q
      cases bs with
      | nil => exact q.elim
      | cons o bs => exact fun H' cls d k hb hr => q H' cls d (kO k) (BacksOk.mono (ad := ad) (fun _ z => .inl z) hb.2) (repX_mono (fun _ z => .inl z) hr)
    | ok fr w bs =>
      rw [qq] at q
      cases w with
      | non =>
        cases bs with
        | nil => exact q.elim
        | cons o bs =>
          intro H' v k hb hr
          have hfr : fr = false := by
            cases fr with
            | false => rfl
            | true => obtain ⟨p, _, _, z⟩ := hr; exact z.elim
          subst hfr
          have hv : v = .non := hr
          subst hv
          refine ⟨rfl, q H' (.ref x) (kO k) (BacksOk.mono (ad := ad) (fun y z => ?_) hb.2) ⟨x, rfl, hx, ?_⟩⟩
          · rcases z with z | z
            · exact .inl (.inl z)
            · have e1 : x = y := by have := z.2; injection this
              exact .inl (.inr e1.symm)
          · exact OwnAt.kp (N := fun _ => False) (Kp.refl _ _) (fun _ z => z.elim) (fun y z => .inl (.inl z)) (fun z => z) hb.1
      | _ => exact q.elim
end
section
variable {hot : Bool} {X : Cx} {F : Frm} {Wx : WX} {k : Nat} {C : CallT} {G : Glob}
structure FnM (X : Cx) (hot : Bool) (k : Nat) (C : CallT) (c m : Str) : Prop where
  ex : ∃ (A g : Addr) (fd : FuncData) (ps : List Str), X.mg c = some (.ref A) ∧ Cls X.K A ∧ Meth X.K A m g ∧ PMX.FnG X.prog X.w X.K X.mg X.base hot k g fd ps (SpC X.K X.mg (C c m)) ∧ Binds X.K fd ps []
structure FnP (X : Cx) (hot : Bool) (k : Nat) (C : CallT) (c m : Str) : Prop where
  ex : ∃ (A p g : Addr) (fd : FuncData) (ps : List Str) (j : Nat), k = j + 1 ∧ X.mg c = some (.ref A) ∧ Cls X.K A ∧ PropOf X.K A m p g ∧ PMX.FnG X.prog X.w X.K X.mg X.base hot j g fd ps (SpC X.K X.mg (C c m)) ∧ Binds X.K fd ps []
structure FnC (X : Cx) (hot : Bool) (k : Nat) (C : CallT) (c : Str) : Prop where
  ex : ∃ (A f : Addr) (fd : FuncData) (ps : List Str) (j : Nat) (gg : List Ar → CRs), k = j + 1 ∧ X.mg c = some (.ref A) ∧ Mk X.K A f ∧ PMX.FnG X.prog X.w X.K X.mg X.base hot j f fd ps (SpC X.K X.mg gg) ∧ Binds X.K fd ps [] ∧ ∀ as, C "" c as = clsR (gg (.own (.obj c [] []) :: as))
/-- its fields -/
structure ClsH (X : Cx) (c f : Str) : Prop where
  ex : ∃ A, X.mg c = some (.ref A) ∧ Cls X.K A ∧ NoAttr X.K A f
theorem repB_obj {K : PySem.W.Frag} {mg : Str → Option Value} {M : AP'} {H : Hp} {c : Str} {ns : List Str} {ws : List W} {v : V} (h : RepB K mg M H (.obj c ns ws) v) : ∃ a A dx fs, v = .ref a ∧ mg c = some (.ref A) ∧ H a = some (.ins A dx fs) ∧ fs.map (·.1) = ns ∧ RepL K mg M H ws (fs.map (·.2)) := by
  rcases h with h | ⟨a, rfl, h⟩
  · obtain ⟨a, A, dx, fs, h1, h2, h3, h4, h5⟩ := h
    exact ⟨a, A, dx, fs, h1, h2, h3.1, h4, h5⟩
  · obtain ⟨A, dx, fs, h2, h3, h4, h5⟩ := h
    exact ⟨a, A, dx, fs, rfl, h2, h3, h4, h5⟩
theorem fld_get {K : PySem.W.Frag} {mg : Str → Option Value} {M : AP'} {H : Hp} {f : Str} {u : W} : ∀ {fs : List (Str × V)} {ws : List W}, fldW (fs.map (·.1)) ws f = some u → RepL K mg M H ws (fs.map (·.2)) → ∃ v, fs.lookup f = some v ∧ Rep K mg M H u v
  | [], _, h, _ => by simp [fldW] at h
  | (n, v) :: fs, [], h, _ => by simp [fldW] at h
  | (n, v) :: fs, w :: ws, h, r => by
    obtain ⟨v', r', e, r1, r2⟩ := r
    simp only [List.map_cons] at e
    cases e
    simp only [List.map_cons, fldW] at h
    split at h
    · rename_i hn
      cases h
      have hn' : n = f := beq_iff_eq.mp hn
      exact ⟨v, by rw [List.lookup_cons, show (f == n) = true from beq_iff_eq.mpr hn'.symm], r1⟩
    · rename_i hn
      obtain ⟨v', l, rr⟩ := fld_get h r2
      exact ⟨v', by rw [List.lookup_cons, show (f == n) = false from by
        cases z : f == n with
        | false => rfl
        | true => exact absurd (beq_iff_eq.mpr (beq_iff_eq.mp z).symm) hn]; exact l, rr⟩
theorem lookup_not {f : Str} : ∀ {fs : List (Str × V)}, (fs.map (·.1)).contains f = false → fs.lookup f = none
  | [], _ => rfl
  | (n, v) :: fs, h => by
    rw [List.map_cons, List.contains_cons, Bool.or_eq_false_iff] at h
    rw [List.lookup_cons, h.1]
    exact lookup_not h.2

/-- e.f: a field or a property -/
def attE (C : CallT) (G : Glob) (ma : PM.Env → R Hd) (f : Str) : PM.Env → R Hd := fun env => (ma env).bind fun h e1 => match rd e1 h with
    | some (.obj c ns ws) => match fldW ns ws f with
      | some u => if fldK G c f = true then .ok (.v u) e1 else .no
      | none => if methK G c f = some .prop then (callH C c f [h] e1).nox.bind fun r e2 => .ok (.v r.2) e2 else .no
    | some (.exn c ns ws) => match fldW ns ws f with
      | some u => if G.xcl c = some (some f) then .ok (.v u) e1 else .no
      | none => .no
    | _ => .no
/-- an exception class whose field is read -/
structure XclH (X : Cx) (c f : Str) : Prop where
  ex : ∃ A, X.mg c = some (.ref A) ∧ ExK X.K A ∧ PySem.W.findIn X.K (.ref A) f = some none
/-- e.f, e an exception -/
def tExf (K : PySem.W.Frag) (f : Str) (te : TE) : TE := fun σ H Q => te σ H fun x H1 => ∃ (M : AP') (a C : Addr) (od : Option Addr) (fs : List (Str × V)) (v : V), x = .ref a ∧ ExcAt M H1 a C od fs ∧ ExK K C ∧ PySem.W.findIn K (.ref C) f = some none ∧ fs.lookup f = some v ∧ Q v H1
theorem pe_exf {e : Expr} {f : Str} {pos : Pos} {te : TE} (he : PE X e te) (hab : attributeBase e f X.env (eval e X.env) = eval e X.env) : PE X (.Attribute e f pos) (tExf X.K f te) := by
  refine ⟨fun pins s σ H Q I h => ?_⟩
  refine attr_of hab (thn (he.run pins s σ H _ I h) fun u s1 ⟨x, H1, I1, rx, M, a, C, od, fs, v, ex, ea, T, hno, l, q⟩ => ?_)
  subst ex
  obtain rfl : u = Value.ref a := rx
  obtain ⟨oe, od', J, hl⟩ := exc_inst I1.hok ea
  obtain ⟨o, u, rfl, l2, ru⟩ := hl f v l
  exact HandSPX.exc_get I1.kIn J T.ga T.gg T.ex (PySem.W.findObj_own T.hd hno rfl l2) (handed_of ru) ⟨v, H1, I1.tok _, ru, q⟩
theorem se_att {e : Expr} {f : Str} {pos : Pos} {ma : PM.Env → R Hd} (he : SE X F Wx e ma) (hab : attributeBase e f X.env (eval e X.env) = eval e X.env) (hr : PMX.RoomG hot k X.A) (hf : ∀ c, fldK G c f = true → ClsH X c f) (hp : ∀ c, methK G c f = some .prop → FnP X hot k C c f) (hx : ∀ c, G.xcl c = some (some f) → XclH X c f) :
    SE X F Wx (.Attribute e f pos) (attE C G ma f) := by
  refine pe_by fun σ H Q hq => ?_
  obtain ⟨α, T, env, c, o⟩ := tE_iff.mp hq
  have bad : (∀ h e1 c ns ws, ma env = .ok h e1 → rd e1 h = some (.obj c ns ws) ∨ rd e1 h = some (.exn c ns ws) → False) → ∃ t, PE X (.Attribute e f pos) t ∧ t σ H Q := fun hno => ⟨_, pe_fld he hab, by
    refine tE_bind c o fun hd e1 H1 v q c1 k1 r1 o1 => ?_
    cases q2 : rd e1 hd with
    | none => simp only [q2] at o1; exact o1.elim
    | some w =>
      cases w with
      | obj c ns ws => exact (hno hd e1 c ns ws q (.inl q2)).elim
      | exn c ns ws => exact (hno hd e1 c ns ws q (.inr q2)).elim
      | _ => simp only [q2] at o1; exact o1.elim⟩
  cases q1 : ma env with
  | no => exact bad fun _ _ _ _ _ z => by rw [q1] at z; cases z
  | exc => exact bad fun _ _ _ _ _ z => by rw [q1] at z; cases z
  | ok hd e1 =>
    cases q2 : rd e1 hd with
    | none => exact bad fun _ _ _ _ _ z z2 => by rw [q1] at z; cases z; rw [q2] at z2; rcases z2 with z2 | z2 <;> cases z2
    | some w =>
      cases w with
      | obj cn ns ws =>
        have o' := o
        simp only [attE, q1, R.bind_ok, q2] at o'
        cases q3 : fldW ns ws f with
        | some u =>
          simp only [q3] at o'
          split at o'
          · rename_i hfk
            obtain ⟨A, m1, cl, na⟩ := (hf cn hfk).ex
            refine ⟨_, pe_fld he hab, ?_⟩
            refine tE_bind c o fun hd' e1' H1 v q c1 k1 r1 o1 => ?_
            rw [q1] at q; cases q
            obtain ⟨a, A', dx, fs, rfl, m2, ha, hns, rl⟩ := repB_obj (c1.read r1 q2)
            rw [m1] at m2; cases m2
            subst hns
            obtain ⟨v, l, rv⟩ := fld_get q3 rl
            exact ⟨a, A, dx, fs, v, rfl, ha, cl, na, l, (show okE X.K X.mg F α T σ H Q (.v u) e1 from o') H1 v c1 k1 rv⟩
          · exact o'.elim
        | none =>
          simp only [q3] at o'
          split at o'
          · rename_i hfk
            obtain ⟨A, p, g, fd, ps, j, rfl, m1, cl, po, fn, hb⟩ := (hp cn hfk).ex
            refine ⟨_, pe_lk (PMX.pe_propG he cl po fn hr hb hab), ?_⟩
            · refine tE_bind c o fun hd' e1' H1 v q c1 k1 r1 o1 => ?_
              rw [q1] at q; cases q
              obtain ⟨a, A', dx, fs, rfl, m2, ha, hns, rl⟩ := repB_obj (c1.read r1 q2)
              rw [m1] at m2; cases m2
              refine ⟨a, dx, fs, rfl, ha, ?_⟩
              refine call_at (hs := [hd]) (Wx := WX0) (g := fun r e => .ok r e) (P := fun r e2 => OutR (okE X.K X.mg F α T σ H Q) (exE X.K X.mg F Wx α T σ H) (.ok (.v r.2) e2)) c1 k1 ⟨_, [], rfl, r1, rfl⟩ ?_ fun fr w env' H' v' q4 c2 k2 r2 hx o2 => ?_
              · cases q5 : callH C cn f [hd] e1 with
                | no => rw [q5] at o'; exact o'.elim
                | exc => rw [q5] at o'; exact o'.elim
                | ok r e2 => rw [q5] at o'; exact o'
              · exact ret_lk (fun p hp => c1.notin hp) (fun p hp => c1.h0 hp) k1 k2 c2 hx r2 fun H2 u c3 k3 r3 => (show okE X.K X.mg F α T σ H Q (.v w) env' from o2) H2 u c3 k3 r3
          · exact o'.elim
      | exn cn ns ws =>
        have o' := o
        simp only [attE, q1, R.bind_ok, q2] at o'
        cases q3 : fldW ns ws f with
        | none => simp only [q3] at o'; exact o'.elim
        | some u =>
          simp only [q3] at o'
          split at o'
          · rename_i hfk
            obtain ⟨A, m1, TT, na⟩ := (hx cn hfk).ex
            refine ⟨_, pe_exf he hab, ?_⟩
            refine tE_bind c o fun hd' e1' H1 v q c1 k1 r1 o1 => ?_
            rw [q1] at q; cases q
            rcases c1.read r1 q2 with r | ⟨_, _, r⟩
            case inr => exact r.elim
            obtain ⟨a, A', od, fs, rfl, m2, ea, hns, rl⟩ := r
            rw [m1] at m2; cases m2
            subst hns
            obtain ⟨v, l, rv⟩ := fld_get q3 rl
            exact ⟨_, a, A, od, fs, v, rfl, ea, TT, na, l, (show okE X.K X.mg F α T σ H Q (.v u) e1 from o') H1 v c1 k1 rv⟩
          · exact o'.elim
      | _ => exact bad fun _ _ _ _ _ z z2 => by rw [q1] at z; cases z; rw [q2] at z2; rcases z2 with z2 | z2 <;> cases z2
/-- a class is called -/
theorem run_makeX {A f : Addr} {fd : FuncData} {ps : List Str} {sp : Sp} {pins : List (Addr × Obj)} {σ : St} {H : Hp} {s : Shared} {Q : VK} {us : List Value} {vs : List V} (M : Mk X.K A f) (Fn : PMX.FnG X.prog X.w X.K X.mg X.base hot k f fd ps sp) (hr : PMX.RoomG hot (k + 1) X.A) (hb : Binds X.K fd ps []) (tk : Takes X Wx)
    (I : Inv X pins σ H s) (r : Vals vs us)
    (h : ∀ x dx, H x = none → H dx = none → dx ≠ x → sp (.ref x :: vs) (upd (upd H dx (.own x)) x (.ins A dx [])) (fun v H2 => v = .non ∧ Q (.ref x) H2) (fun cls d H' => Wx cls d σ H')) :
    wpAny (model X.prog X.w) X.A (call (.ref A) us) (EP X pins σ Q) X.xe s := by
  have hq := h (s.heap.objs.size + 1) s.heap.objs.size (I.hok.fresh (Nat.le_succ _)) (I.hok.fresh (Nat.le_refl _)) (Nat.ne_of_lt (Nat.lt_succ_self _))
  have I2 := Inv.made (C := A) I
  have r2 : Vals (V.ref (s.heap.objs.size + 1) :: vs) (Value.ref (s.heap.objs.size + 1) :: us) := .cons rfl r
  have hl : (Value.ref (s.heap.objs.size + 1) :: us ++ ([] : List Value)).length = ps.length := by
    have e := r2.length
    rw [Fn.len _ _ _ _ hq] at e
    rw [List.append_nil]
    exact e.symm
  have hb' := hb _ (Value.ref (s.heap.objs.size + 1) :: us) I2.kIn hl
  rw [List.append_nil] at hb'
  refine wpAny_call (make_map (f := f) I.kIn M.makes M.init (beq_iff_eq.mp M.fn) (codeAny_mono (Fn.run _ X.stack _ _ ⟨Value.ref (s.heap.objs.size + 1) :: us, []⟩ (Value.ref (s.heap.objs.size + 1) :: us) _ _ _ (hr.make A us [])
    (I2.env0.make A us []) hb' r2 hq) fun r s' hq' => ?_))
  cases r with
  | error e => exact tk e s' (XE.of_call I2 (fun _ _ _ z => z) hq')
  | ok fl =>
    cases fl with
    | ret u =>
      obtain ⟨v, H', I3, rv, ev, q3⟩ := I2.after hq'
      subst ev
      exact ⟨rv, ⟨V.ref (s.heap.objs.size + 1), H', I3, rfl, q3⟩⟩
    | next => exact False.elim hq'
    | brk => exact False.elim hq'
    | cont => exact False.elim hq'
theorem pe_FnC {x : Str} {es : List Expr} {p pos : Pos} {ms : PM.Env → R (List Hd)} (Fn : FnC X hot k C x) (hr : PMX.RoomG hot k X.A) (hg : Gl X x) (tk : Takes X Wx) (hdb : (x == ("__debug__" : Str)) = false) (ha : SA X F Wx es ms) (hs : es.all nS = true) (hne : es ≠ []) :
    PE X (.Call (.Name x p) es [] pos) (tCX Wx (SpC X.K X.mg (C "" x)) (tA X.K X.mg F Wx ms)) := by
  obtain ⟨A, f, fd, ps, j, gg, rfl, hm, M, h1, hb, hC⟩ := Fn.ex
  cases es with
  | nil => exact absurd rfl hne
  | cons e es =>
    rw [List.all_cons, Bool.and_eq_true] at hs
    refine ⟨fun pins s σ H Q I h => ?_⟩
    refine wpAny_Call_Name_kw (ld_glob I hg hm ?_ hdb)
    refine PySem.W.callWith_K (h₀ := X.base) I.ok.mod.kin M.kp (thn (ha.run pos pins s σ H _ I h) fun us s1 ⟨vs, H1, I1, r, q⟩ => ⟨I1.kIn, ?_⟩) (star_cons hs.1) (star_any hs.2)
    exact run_makeX M h1 hr hb tk I1 r fun x dx h1 h2 h3 => spc_cls hm hC q x dx h1 h2 h3
end
end PM

namespace PM
open PySem L2
section
variable {hot : Bool} {X : Cx} {F : Frm} {Wx : WX} {k : Nat} {C : CallT} {G : Glob}
/-- not `super()` -/
def baseOk : Expr → Bool
  | .Call _ [] [] _ => false
  | _ => true
theorem ab_of {o : Expr} {f : Str} {env : PySem.Env} {w : Sem Value} (h : baseOk o = true) : attributeBase o f env w = w := by
  unfold attributeBase
  split
  · cases h
  · rfl
theorem meth_eval {o : Expr} {m : Str} {apos pos : Pos} {es : List Expr} {env : PySem.Env} (hb : baseOk o = true) (hs : es.all nS = true) (hn : es.length < 30) (hl : (apos.endLine == pos.line) = true) :
    eval (.Call (.Attribute o m apos) es [] pos) env = (do
      let ov ← eval o env
      standAt apos.atName
      let (f, first) ← holding [ov] (getMethod ov m (do return (← importBound o env).getD true))
      callWith pos f first (backTo pos (starEach es env)) (backToKw pos (keywordEach [] env))) := by
  have e1 : eval (.Call (.Attribute o m apos) es [] pos) env = (do
      let ov ← attributeBase o m env (eval o env)
      standAt apos.atName
      methodCall o m apos pos env ov (es.length + ([] : List Keyword).length) (backTo pos (starEach es env)) (backToKw pos (keywordEach [] env))) := rfl
  have hf : methodCallForm (es.length + ([] : List Keyword).length) (backTo pos (starEach es env)) (backToKw pos (keywordEach [] env)) = true := by
    have h1 := star_any (pos := pos) (env := env) hs
    unfold methodCallForm
    have h2 : (backTo pos (starEach es env)).all (fun x => !x.1) = true := by
      rw [List.all_eq_true]
      intro x hx
      have := List.any_eq_false.mp h1 x hx
      simpa using this
    rw [h2]
    show (true && true && decide (es.length + 0 + 0 < 30)) = true
    simp; omega
  rw [e1, ab_of hb]
  unfold methodCall
  rw [hf]
  unfold methodCallPos calleeOf
  simp only [hl]
  rfl
def tMX (A : Addr) (m : Str) (Wx : WX) (sp : Sp) (ta : TE) (t : TA) : TE := fun σ H Q => ta σ H fun x H1 => ∃ a dx fs, x = .ref a ∧ H1 a = some (.ins A dx fs) ∧ fs.lookup m = none ∧
  t σ H1 fun vs H2 => sp (.ref a :: vs) H2 Q (fun cls d H' => Wx cls d σ H')
theorem pe_methX {A g : Addr} {fd : FuncData} {ps : List Str} {sp : Sp} {o e : Expr} {m : Str} {apos pos : Pos} {es : List Expr} {ta : TE} {t : TA} (hb : baseOk o = true) (hs : (e :: es).all nS = true) (hn : (e :: es).length < 30) (hl : (apos.endLine == pos.line) = true)
    (he : PE X o ta) (c : Cls X.K A) (hm : Meth X.K A m g) (Fn : PMX.FnG X.prog X.w X.K X.mg X.base hot k g fd ps sp) (hr : PMX.RoomG hot k X.A) (hbn : Binds X.K fd ps []) (tk : Takes X Wx) (ha : PA X (e :: es) t) :
    PE X (.Call (.Attribute o m apos) (e :: es) [] pos) (tMX A m Wx sp ta t) := by
  refine ⟨fun pins s σ H Q I h => ?_⟩
  refine PySem.W.methodCall_KW (pl := _) (thn (he.run pins s σ H _ I h) fun u s1 ⟨x, H1, I1, rx, a, dx, fs, ex, ea, l, q⟩ => ?_) (meth_eval hb hs hn hl)
  subst ex
  obtain rfl : u = Value.ref a := rx
  refine getmeth_ok I1 ea c hm l ?_
  rw [List.all_cons, Bool.and_eq_true] at hs
  refine PySem.W.callWith_K (first := [.ref a]) (h₀ := X.base) I.ok.mod.kin hm.kp (thn (ha.run pos pins s1 σ H1 _ I1 q) fun us s2 ⟨vs, H2, I2, r, q2⟩ => ⟨I2.kIn, ?_⟩) (star_cons hs.1) (star_any hs.2)
  exact run_fnX (us := .ref a :: us) (vs := .ref a :: vs) Fn hr hbn tk I2 (.cons rfl r) q2
theorem pe_methX0 {A g : Addr} {fd : FuncData} {ps : List Str} {sp : Sp} {o : Expr} {m : Str} {apos pos : Pos} {ta : TE} (hb : baseOk o = true) (hl : (apos.endLine == pos.line) = true)
    (he : PE X o ta) (c : Cls X.K A) (hm : Meth X.K A m g) (Fn : PMX.FnG X.prog X.w X.K X.mg X.base hot k g fd ps sp) (hr : PMX.RoomG hot k X.A) (hbn : Binds X.K fd ps []) (tk : Takes X Wx) :
    PE X (.Call (.Attribute o m apos) [] [] pos) (tMX A m Wx sp ta tNil) := by
  refine ⟨fun pins s σ H Q I h => ?_⟩
  refine PySem.W.methodCall_KW (pl := _) (thn (he.run pins s σ H _ I h) fun u s1 ⟨x, H1, I1, rx, a, dx, fs, ex, ea, l, q⟩ => ?_) (meth_eval hb rfl (by decide) hl)
  subst ex
  obtain rfl : u = Value.ref a := rx
  refine getmeth_ok I1 ea c hm l ?_
  exact PySem.W.callWith_K0 (first := [.ref a]) I1.kIn hm.kp (run_fnX (us := [.ref a]) (vs := [.ref a]) Fn hr hbn tk I1 (.cons rfl .nil) q)
theorem tE_mono {K : PySem.W.Frag} {mg : Str → Option Value} {m : PM.Env → R Hd} {σ : St} {H : Hp} {Q Q' : VK} (h : tE K mg F Wx m σ H Q) (q : ∀ v H, Q v H → Q' v H) : tE K mg F Wx m σ H Q' := by
  obtain ⟨α, T, env, c, o⟩ := tE_iff.mp h
  exact tE_iff.mpr ⟨α, T, env, c, o.imp (fun _ _ z H' v c k r => q _ _ (z H' v c k r)) fun _ _ z => z⟩
def methE (C : CallT) (G : Glob) (ma : PM.Env → R Hd) (m : Str) (ms : PM.Env → R (List Hd)) : PM.Env → R Hd := fun env => (ma env).bind fun h e1 => match objH e1 h with
    | some (c, ns) => if methK G c m = some .meth ∧ ns.contains m = false then (ms e1).bind fun hs e2 => (callH C c m (h :: hs) e2).bind fun r e3 => .ok (.v r.2) e3 else .no
    | none => .no
theorem se_meth {o : Expr} {m : Str} {apos pos : Pos} {es : List Expr} {ma : PM.Env → R Hd} {ms : PM.Env → R (List Hd)} (hb : baseOk o = true) (hs : es.all nS = true) (hn : es.length < 30) (hl : (apos.endLine == pos.line) = true) (he : SE X F Wx o ma) (hr : PMX.RoomG hot k X.A) (tk : Takes X Wx)
    (hp : ∀ c, methK G c m = some .meth → FnM X hot k C c m) (ha : SA X F Wx es ms) (hnil : es = [] → ms = fun env => .ok [] env) : SE X F Wx (.Call (.Attribute o m apos) es [] pos) (methE C G ma m ms) := by
  refine pe_by fun σ H Q hq => ?_
  obtain ⟨α, T, env, c, o'⟩ := tE_iff.mp hq
  have bad : (∀ h e1 c ns, ma env = .ok h e1 → objH e1 h = some (c, ns) → False) → ∃ t, PE X (.Call (.Attribute o m apos) es [] pos) t ∧ t σ H Q := fun hno => by
    refine ⟨fun σ H Q => tE X.K X.mg F Wx ma σ H fun _ _ => False, ⟨fun pins s σ H Q I h => ?_⟩, ?_⟩
    · exact PySem.W.methodCall_KW (pl := _) (thn (he.run pins s σ H _ I h) fun u s1 ⟨x, H1, I1, rx, z⟩ => z.elim) (meth_eval hb hs hn hl)
    · refine tE_bind c o' fun hd e1 H1 v q c1 k1 r1 o1 => ?_
      cases q2 : objH e1 hd with
      | none => simp only [q2] at o1; exact o1.elim
      | some w => exact (hno hd e1 w.1 w.2 q q2).elim
  cases q1 : ma env with
  | no => exact bad fun _ _ _ _ z => by rw [q1] at z; cases z
  | exc => exact bad fun _ _ _ _ z => by rw [q1] at z; cases z
  | ok hd e1 =>
    cases q2 : objH e1 hd with
    | none => exact bad fun _ _ _ _ z z2 => by rw [q1] at z; cases z; rw [q2] at z2; cases z2
    | some w =>
      obtain ⟨cn, ns⟩ := w
      have o2 := o'
      simp only [methE, q1, R.bind_ok, q2] at o2
      split at o2
      case isFalse => exact o2.elim
      rename_i hk
      obtain ⟨A, g, fd, ps, m1, cl, hm, fn, hbn⟩ := (hp cn hk.1).ex
      have hrd : ∃ ws, rd e1 hd = some (.obj cn ns ws) := by
        unfold objH at q2
        split at q2
        · rename_i c' ns' ws' hh
          cases q2
          exact ⟨ws', hh⟩
        · cases q2
      obtain ⟨ws, hrd⟩ := hrd
      have main : tMX A m Wx (SpC X.K X.mg (C cn m)) (tE X.K X.mg F Wx ma) (tA X.K X.mg F Wx ms) σ H (LkQ Q) := by
        refine tE_bind c o' fun hd' e1' H1 v q c1 k1 r1 o1 => ?_
        rw [q1] at q; cases q
        obtain ⟨a, A', dx, fs, rfl, m2, ha', hns, rl⟩ := repB_obj (c1.read r1 hrd)
        rw [m1] at m2; cases m2
        refine ⟨a, dx, fs, rfl, ha', lookup_not (by rw [hns]; exact hk.2), ?_⟩
        refine tA_bind c1 (o2.imp (fun _ _ z => z) fun _ _ z => z.later k1) fun hs' e2 H2 vs q3 c2 k2 r2 o3 => ?_
        refine call_at (hs := hd :: hs') c2 (k0 := k2) ⟨_, vs, rfl, r1.later k2, r2⟩ o3 fun fr w env' H' v' q4 c3 k3 r3 hx o4 => ?_
        exact ret_lk (fun p hp => c2.notin hp) (fun p hp => c2.h0 hp) (kk k1 k2) (kk k1 k3) c3 hx r3 fun H2 u c4 k4 r4 => (show okE X.K X.mg F α T σ H Q (.v w) env' from o4.imp (fun _ _ z => z) (fun _ _ z => z)) H2 u c4 k4 r4
      cases es with
      | nil =>
        refine ⟨_, pe_lk (pe_methX0 hb hl he cl hm fn hr hbn tk), ?_⟩
        have := hnil rfl
        subst this
        refine tE_mono main fun x H1 ⟨a, dx, fs, e1, e2, e3, z⟩ => ⟨a, dx, fs, e1, e2, e3, ?_⟩
        obtain ⟨α, T, env, c, o⟩ := tA_iff.mp z
        exact (show okA X.K X.mg F α T σ H1 _ [] env from o) H1 [] c (Kp.refl _ _) rfl
      | cons e es => exact ⟨_, pe_lk (pe_methX hb hs hn hl he cl hm fn hr hbn tk ha), main⟩
end
end PM

namespace PM
open PySem PySem.Spec PyProof.Rows L2
section
variable {M : Model} {prog : Program} {w : World} {A : Around} {E : Value → Shared → Prop} {s : Shared} {K : PySem.W.Frag} {x C f : Addr} {ox : Obj} {od : Option Obj}
theorem ifBound_objNe {args : List Value} {Q : Option Value → Shared → Prop} (X : K.In s.heap) (I : PySem.W.InstAt s.heap x ox C od) (hs : PySem.W.findIn K (.ref C) "__ne__" = some (some (.builtin "object.__ne__")))
    (h : wpAny M A (call (.builtin "object.__ne__") (.ref x :: args)) (fun v => Q (some v)) E s) : wpAny M A (callSpecialIfBound? (.ref x) "__ne__" args) Q E s := by
  simp only [callSpecialIfBound?, bindSpecialIfBound?]
  refine wpAny_holding (wpAny_bind (wpAny_bind (wpAny_bind (I.type.here ((PySem.W.looks_findIn X hs).here ?_)))))
  refine wpAny_bind (wpAny_askSetting (wpAny_ite ?_))
  have fin : wpAny M A (call (.builtin "object.__ne__") ([.ref x] ++ args) >>= fun v => pure (some v)) Q E s := wpAny_bind (wpAny_mono h (fun v s' h' => wpAny_pure h') fun _ _ h' => h')
  split
  · exact wpAny_bind (wpAny_of_eq (F.cmp_object.ne.bind _) (wpAny_pure (by exact fin)))
  · exact wpAny_tryCatch (wpAny_bind (wpAny_of_eq (F.cmp_object.ne.bind _) (wpAny_pure (by exact fin))))
theorem entry_ne {b : Value} {Q : Fin → Shared → Prop} (hu : A.units < cLine) (X : K.In s.heap) (I : PySem.W.InstAt s.heap x ox C od) (hs : PySem.W.findIn K (.ref C) "__eq__" = some (some (.ref f))) (hf : PySem.W.isFn K (.ref f) = true)
    (h : wpAny (model prog w) A (call (.ref f) [.ref x, b]) (fun v s' => ∃ k, v = .bool k ∧ Q (.done (.ret (.bool !k))) s') E s) : wpAny (model prog w) A (Builtin.«object.__ne__» ⟨[.ref x, b], []⟩) Q E s := by
  unfold Builtin.«object.__ne__»
  repeat (first | with_reducible refine wpAny_cRoomFor hu ?_ | (fail_if_success (with_reducible refine PySem.W.ifBound_K X I hs hf ?_)); wp_step)
  refine PySem.W.ifBound_K X I hs hf (wpAny_mono h (fun v s' z => ?_) fun _ _ e => e)
  obtain ⟨k, rfl, z⟩ := z
  repeat wp_step
  exact z
theorem call_objNe {b : Value} {Q : Value → Shared → Prop} (hu : A.units + 1 < cLine) (X : K.In s.heap) (I : PySem.W.InstAt s.heap x ox C od) (hm : PySem.W.mroIn K C (.type "object") = some true) (hs : PySem.W.findIn K (.ref C) "__eq__" = some (some (.ref f))) (hf : PySem.W.isFn K (.ref f) = true)
    (h : wpAny (model prog w) A.in1 (call (.ref f) [.ref x, b]) (fun v s' => ∃ k, v = .bool k ∧ Q (.bool !k) s') E s) :
    wpAny (model prog w) A (call (.builtin "object.__ne__") [.ref x, b]) Q E s :=
  wpAny_call (codeAny_call_builtin F.cmp_object.ne.plain F.cmpEntry_ne (PySem.W.check_slot F.cmpKind_ne F.cmpSplit_ne (I.type.andThen (PySem.W.looks_mroIn X hm)) (F.cmpArgs_ne _ _) (entry_ne (A := A.in1) hu X I hs hf h)))
theorem ne_K {b : Value} {Q : Value → Shared → Prop} (hu : A.units + 1 < cLine) (X : K.In s.heap) (I : PySem.W.InstAt s.heap x ox C od) (hb : PySem.W.Looks (model prog w) s.heap (typeOf b) (.ref C)) (hm : PySem.W.mroIn K C (.type "object") = some true)
    (hn : PySem.W.findIn K (.ref C) "__ne__" = some (some (.builtin "object.__ne__"))) (hs : PySem.W.findIn K (.ref C) "__eq__" = some (some (.ref f))) (hf : PySem.W.isFn K (.ref f) = true)
    (h : wpAny (model prog w) A.in1 (call (.ref f) [.ref x, b]) (fun v s' => ∃ k, v = .bool k ∧ Q (.bool !k) s') E s) : wpAny (model prog w) A (richCompare .NotEq (.ref x) b) Q E s := by
  have one : wpAny (model prog w) A (tryCompare (.ref x) "__ne__" b) (fun r s' => ∃ v, r = some v ∧ Q v s') E s := by
    unfold tryCompare
    refine wpAny_bind (ifBound_objNe X I hn (call_objNe hu X I hm hs hf (wpAny_mono h (fun v s' z => ?_) fun _ _ e => e)))
    obtain ⟨k, rfl, z⟩ := z
    exact ⟨k, rfl, wpAny_pure ⟨_, rfl, z⟩⟩
  simp only [richCompare, cmpInfo_NotEq, oneThing_ref]
  refine wpAny_holding (wpAny_bind (wpAny_cRoomFor (by omega) ?_))
  refine wpAny_bind (I.type.here (wpAny_bind (hb.here ?_)))
  simp only [bne_self_eq_false, Bool.false_eq_true, if_false]
  refine wpAny_bind (wpAny_pure ?_)
  simp only [Bool.false_eq_true, if_false]
  refine wpAny_bind (m := tryCompare (.ref x) _ b) (wpAny_mono one (fun r s1 z => ?_) fun _ _ e => e)
  obtain ⟨v, rfl, z⟩ := z
  exact wpAny_pure z
end

section
variable {hot : Bool} {X : Cx} {F : Frm} {Wx : WX} {k : Nat} {C : CallT} {G : Glob}
/-- an own == -/
structure FnQ (X : Cx) (hot : Bool) (k : Nat) (C : CallT) (c : Str) : Prop where
  ex : ∃ (A g : Addr) (fd : FuncData) (ps : List Str) (j : Nat), k = j + 1 ∧ X.mg c = some (.ref A) ∧ PySem.W.findIn X.K (.ref A) "__eq__" = some (some (.ref g)) ∧ PySem.W.isFn X.K (.ref g) = true ∧ PySem.W.mroIn X.K A (.type "object") = some true ∧ PySem.W.findIn X.K (.ref A) "__ne__" = some (some (.builtin "object.__ne__")) ∧
    PMX.FnG X.prog X.w X.K X.mg X.base hot j g fd ps (SpC X.K X.mg (C c "__eq__")) ∧ Binds X.K fd ps []
def rOwn (A : Addr) (neg : Bool) (sp : Sp) : R2 := fun x y H Q => ∃ a b dx dy fs gs, x = .ref a ∧ y = .ref b ∧ H a = some (.ins A dx fs) ∧ H b = some (.ins A dy gs) ∧
  sp [x, y] H (fun v H' => ∃ k, v = .bl k ∧ Q (.bl (if neg = true then !k else k)) H') (fun _ _ _ => False)
theorem op_ownE {A g : Addr} {fd : FuncData} {ps : List Str} {sp : Sp} (Fn : PMX.FnG X.prog X.w X.K X.mg X.base hot k g fd ps sp) (hr : PMX.RoomG hot (k + 1) X.A) (hs : PySem.W.findIn X.K (.ref A) "__eq__" = some (some (.ref g))) (hf : PySem.W.isFn X.K (.ref g) = true) (hb : Binds X.K fd ps []) :
    OpR X (compareOp .Eq) (rOwn A false sp) := by
  intro pins s σ H x y u v Q I rx ry hq
  obtain ⟨a, b, dx, dy, fs, gs, rfl, rfl, ha, hb', hsp⟩ := hq
  cases rx
  cases ry
  obtain ⟨mA, J, _⟩ := ins_get I.hok ha
  obtain ⟨mB, J', _⟩ := ins_get I.hok hb'
  obtain ⟨od, J, _⟩ := J.look
  obtain ⟨od', J', _⟩ := J'.look
  obtain ⟨m, hF⟩ := I.fr
  show wpAny (model X.prog X.w) X.A (richCompare .Eq (.ref a) (.ref b)) (EP X pins σ Q) X.xe s
  refine PySem.W.cmp_K (op := .Eq) (tb := .ref A) hr.units0 hF I.ok.mod.kin J J'.type (by simp [PySem.W.notFirst]) hs hf ?_
  have hl := Fn.len _ _ _ _ hsp
  have r2 : Vals [V.ref a, V.ref b] [Value.ref a, Value.ref b] := .cons rfl (.cons rfl .nil)
  refine wpAny_call (codeAny_mono (Fn.run X.A X.stack s H ⟨[.ref a, .ref b], []⟩ [.ref a, .ref b] [.ref a, .ref b] _ _ (hr.mono (Nat.le_succ _)) I.env0 (by
    have := hb s [.ref a, .ref b] I.kIn (by simpa using hl)
    simpa using this) r2 hsp) fun r s' hq => ?_)
  cases r with
  | error e => obtain ⟨_, _, _, _, _, _, _, _, _, _, _, _, z⟩ := hq; exact z.elim
  | ok fl =>
    cases fl with
    | ret w =>
      obtain ⟨z, H', I', rz, kk, ez, q⟩ := I.after hq
      subst ez
      cases rz
      exact ⟨.bl kk, H', I', rfl, q⟩
    | next => exact False.elim hq
    | brk => exact False.elim hq
    | cont => exact False.elim hq
theorem op_ownN {A g : Addr} {fd : FuncData} {ps : List Str} {sp : Sp} (Fn : PMX.FnG X.prog X.w X.K X.mg X.base hot k g fd ps sp) (hr : PMX.RoomG hot (k + 1) X.A) (hs : PySem.W.findIn X.K (.ref A) "__eq__" = some (some (.ref g))) (hf : PySem.W.isFn X.K (.ref g) = true)
    (hm : PySem.W.mroIn X.K A (.type "object") = some true) (hn : PySem.W.findIn X.K (.ref A) "__ne__" = some (some (.builtin "object.__ne__"))) (hb : Binds X.K fd ps []) :
    OpR X (compareOp .NotEq) (rOwn A true sp) := by
  intro pins s σ H x y u v Q I rx ry hq
  obtain ⟨a, b, dx, dy, fs, gs, rfl, rfl, ha, hb', hsp⟩ := hq
  cases rx
  cases ry
  obtain ⟨mA, J, _⟩ := ins_get I.hok ha
  obtain ⟨mB, J', _⟩ := ins_get I.hok hb'
  obtain ⟨od, J, _⟩ := J.look
  obtain ⟨od', J', _⟩ := J'.look
  show wpAny (model X.prog X.w) X.A (richCompare .NotEq (.ref a) (.ref b)) (EP X pins σ Q) X.xe s
  refine ne_K (by have := hr.un; omega) I.kIn J J'.type hm hn hs hf ?_
  have hl := Fn.len _ _ _ _ hsp
  have r2 : Vals [V.ref a, V.ref b] [Value.ref a, Value.ref b] := .cons rfl (.cons rfl .nil)
  refine wpAny_call (codeAny_mono (Fn.run X.A.in1 X.stack s H ⟨[.ref a, .ref b], []⟩ [.ref a, .ref b] [.ref a, .ref b] _ _ hr.in1 I.env0.in1 (by
    have := hb s [.ref a, .ref b] I.kIn (by simpa using hl)
    simpa using this) r2 hsp) fun r s' hq => ?_)
  cases r with
  | error e => obtain ⟨_, _, _, _, _, _, _, _, _, _, _, _, z⟩ := hq; exact z.elim
  | ok fl =>
    cases fl with
    | ret w =>
      obtain ⟨z, H', I', rz, kk, ez, q⟩ := I.after hq
      subst ez
      cases rz
      exact ⟨kk, rfl, .bl (!kk), H', I', rfl, q⟩
    | next => exact False.elim hq
    | brk => exact False.elim hq
    | cont => exact False.elim hq
def cmpE (C : CallT) (G : Glob) (op : CmpOp) (ma mb : PM.Env → R Hd) : PM.Env → R Hd := fun env => (ma env).bind fun x e1 => (mb e1).bind fun y e2 => cmpH C G op x y e2
theorem ownEq_of {op : CmpOp} {u v : W} {c : Str} {neg : Bool} (h : ownEq G op u v = some (c, neg)) : ∃ ns ws ns' ws', u = .obj c ns ws ∧ v = .obj c ns' ws' ∧ methK G c "__eq__" = some .spec ∧ ((op = .Eq ∧ neg = false) ∨ (op = .NotEq ∧ neg = true)) := by
  unfold ownEq at h
  split at h
  · split at h
    · rename_i hc
      obtain ⟨rfl, h2⟩ := hc
      split at h <;> cases h
      · exact ⟨_, _, _, _, rfl, rfl, h2, .inl ⟨rfl, rfl⟩⟩
      · exact ⟨_, _, _, _, rfl, rfl, h2, .inr ⟨rfl, rfl⟩⟩
    · cases h
  · cases h
theorem cmp_key {op : CmpOp} {ma mb : PM.Env → R Hd} {σ : L2.St} {H : Hp} {Q : VK} (hu : X.A.units + 70 < cLine) (hr : PMX.RoomG hot k X.A) (hp : ∀ c, methK G c "__eq__" = some .spec → FnQ X hot k C c) (hq : tE X.K X.mg F Wx (cmpE C G op ma mb) σ H Q) :
    ∃ r, OpR X (compareOp op) r ∧ tOp r (tE X.K X.mg F Wx ma) (tE X.K X.mg F Wx mb) σ H Q := by
  obtain ⟨α, T, env, c, o⟩ := tE_iff.mp hq
  have bad : ∀ r, OpR X (compareOp op) r → (∀ x y e1 e2, ma env = .ok x e1 → mb e1 = .ok y e2 → False) → ∃ r, OpR X (compareOp op) r ∧ tOp r (tE X.K X.mg F Wx ma) (tE X.K X.mg F Wx mb) σ H Q := fun r hr hno => ⟨r, hr, by
    refine tE_bind c o fun x e1 H1 v q1 c1 k1 r1 o1 => ?_
    exact tE_bind c1 (o1.imp (fun _ _ z => z) fun _ _ z => z.later k1) fun y e2 H2 v2 q2 _ _ _ _ => (hno x y e1 e2 q1 q2).elim⟩
  cases q1 : ma env with
  | no => exact bad _ opr_false fun x y e1 e2 h1 _ => by rw [q1] at h1; cases h1
  | exc x e1 => exact bad _ opr_false fun x y e1 e2 h1 _ => by rw [q1] at h1; cases h1
  | ok x e1 =>
    cases q2 : mb e1 with
    | no => exact bad _ opr_false fun x y e1 e2 h1 h2 => by rw [q1] at h1; cases h1; rw [q2] at h2; cases h2
    | exc x e1 => exact bad _ opr_false fun x y e1 e2 h1 h2 => by rw [q1] at h1; cases h1; rw [q2] at h2; cases h2
    | ok y e2 =>
      have o' := o
      simp only [cmpE, q1, q2, R.bind_ok] at o'
      unfold cmpH at o'
      cases q3 : rd e2 x with
      | none => simp only [q3] at o'; exact o'.elim
      | some u =>
        cases q4 : rd e2 y with
        | none => simp only [q3, q4] at o'; exact o'.elim
        | some v =>
          simp only [q3, q4] at o'
          cases q6 : ownEq G op u v with
          | none =>
            simp only [q6] at o'
            cases q5 : cmpW op u v with
            | none => rw [q5] at o'; exact o'.elim
            | some kk =>
              rw [q5] at o'
              obtain ⟨r, hr, hs⟩ := cmp_sem2 (w := .bl kk) hu (by rw [q5]; rfl)
              refine ⟨r, hr, ?_⟩
              refine tE_bind c o fun x' e1' H1 vx q1' c1 k1 r1 o1 => ?_
              rw [q1] at q1'; cases q1'
              refine tE_bind c1 (o1.imp (fun _ _ z => z) fun _ _ z => z.later k1) fun y' e2' H2 vy q2' c2 k2 r2 o2 => ?_
              rw [q2] at q2'; cases q2'
              exact hs (MM F α T) H2 vx vy _ c2.tr (c2.read (r1.later k2) q3) (c2.read r2 q4) fun H' z kz rz => (show okE X.K X.mg F α T σ H _ (.v (.bl kk)) e2 from o') H' z (c2.ext kz) ((k1.trans k2 fun _ z => .inl z).trans (kz.mono fun _ z => z.elim) fun _ z => .inl z) rz
          | some cn =>
            obtain ⟨cn, neg⟩ := cn
            simp only [q6] at o'
            obtain ⟨ns, ws, ns', ws', rfl, rfl, hk, hop⟩ := ownEq_of q6
            obtain ⟨A, g, fd, ps, j, rfl, m1, f1, f2, f3, f4, fn, hb⟩ := (hp cn hk).ex
            have main : tOp (rOwn A neg (SpC X.K X.mg (C cn "__eq__"))) (tE X.K X.mg F Wx ma) (tE X.K X.mg F Wx mb) σ H Q := by
              refine tE_bind c o fun x' e1' H1 vx q1' c1 k1 r1 o1 => ?_
              rw [q1] at q1'; cases q1'
              refine tE_bind c1 (o1.imp (fun _ _ z => z) fun _ _ z => z.later k1) fun y' e2' H2 vy q2' c2 k2 r2 o2 => ?_
              rw [q2] at q2'; cases q2'
              obtain ⟨a, A1, dx, fs, rfl, m2, ha, _, _⟩ := repB_obj (c2.read (r1.later k2) q3)
              rw [m1] at m2; cases m2
              obtain ⟨b, A2, dy, gs, rfl, m2, hb', _, _⟩ := repB_obj (c2.read r2 q4)
              rw [m1] at m2; cases m2
              refine ⟨a, b, dx, dy, fs, gs, rfl, rfl, ha, hb', ?_⟩
              refine call_at (hs := [x, y]) (Wx := WX0) (k0 := kk k1 k2) (g := fun r e => .ok r e) (P := fun r e2 => OutR (okE X.K X.mg F α T σ H Q) (exE X.K X.mg F Wx α T σ H) (match r.2 with | .bl k => .ok (.v (.bl (if neg = true then !k else k))) e2 | _ => .no)) c2 ⟨_, _, rfl, r1.later k2, _, [], rfl, r2, rfl⟩ ?_ fun fr w env' H' v' q7 c3 k3 r3 _ o3 => ?_
              · cases q5 : callH C cn "__eq__" [x, y] e2 with
                | no => rw [q5] at o'; exact o'.elim
                | exc => rw [q5] at o'; exact o'.elim
                | ok r e2 => rw [q5] at o'; exact o'
              · cases w with
                | bl kb =>
                  have rv : Rep X.K X.mg (MM F α T) H' (.bl kb) v' := ret_val (fun _ _ z => nomatch z) c2 r3
                  obtain rfl : v' = .bl kb := rv
                  exact ⟨kb, rfl, (show okE X.K X.mg F α T σ H Q (.v (.bl (if neg = true then !kb else kb))) env' from o3) H' _ c3 k3 rfl⟩
                | _ => exact o3.elim
            rcases hop with ⟨rfl, rfl⟩ | ⟨rfl, rfl⟩
            · exact ⟨_, op_ownE fn hr f1 f2 hb, main⟩
            · exact ⟨_, op_ownN fn hr f1 f2 f3 f4 hb, main⟩
theorem se_cmpH {op : CmpOp} {a b : Expr} {ma mb : PM.Env → R Hd} {pos : Pos} (hu : X.A.units + 70 < cLine) (hr : PMX.RoomG hot k X.A) (hp : ∀ c, methK G c "__eq__" = some .spec → FnQ X hot k C c) (hm : behindInMarks op b = false) (ha : SE X F Wx a ma) (hb : SE X F Wx b mb) : SE X F Wx (.Compare a [op] [b] pos) (cmpE C G op ma mb) := by
  refine pe_by fun σ H Q hq => ?_
  obtain ⟨r, h1, h2⟩ := cmp_key hu hr hp hq
  exact ⟨_, pe_cmpR h1 ha hb hm, h2⟩
theorem st_cmpH {op : CmpOp} {a b : Expr} {ma mb : PM.Env → R Hd} {pos : Pos} (hu : X.A.units + 70 < cLine) (hr : PMX.RoomG hot k X.A) (hp : ∀ c, methK G c "__eq__" = some .spec → FnQ X hot k C c) (hm : behindInMarks op b = false) (ha : SE X F Wx a ma) (hb : SE X F Wx b mb) : ST X F Wx (.Compare a [op] [b] pos) (fun env => (cmpE C G op ma mb env).bool) := by
  refine pt_by fun σ H Q hq => ?_
  obtain ⟨r, h1, h2⟩ := cmp_key hu hr hp (tB_of hq)
  exact ⟨_, pt_cmpR h1 ha hb hm, h2⟩
end
end PM

namespace PM
open PySem L2
section
variable {X : Cx} {F : Frm} {Wx : WX} {B : List Nat} {k : Nat} {C : CallT} {G : Glob}
def mBor (i : Nat) : PM.Env → R Hd := fun env => match env[i]? with | some (.own _) => .ok (.s i) env | _ => .no
theorem putF_rep {K : PySem.W.Frag} {mg : Str → Option Value} {M : AP'} {H : Hp} {f : Str} {u : W} {y : V} : ∀ {fs : List (Str × V)} {ws : List W}, RepL K mg M H ws (fs.map (·.2)) → Rep K mg M H u y →
    (putF f y fs).map (·.1) = (setfW (fs.map (·.1)) ws f u).1 ∧ RepL K mg M H (setfW (fs.map (·.1)) ws f u).2 ((putF f y fs).map (·.2))
  | [], [], _, r => ⟨rfl, y, [], rfl, r, rfl⟩
  | [], w :: ws, h, _ => by obtain ⟨_, _, e, _⟩ := h; simp at e
  | (n, v) :: fs, [], h, _ => by have : (v :: fs.map (·.2)) = [] := h; cases this
  | (n, v) :: fs, w :: ws, h, r => by
    obtain ⟨v', r', e, r1, r2⟩ := h
    simp only [List.map_cons] at e
    cases e
    simp only [List.map_cons, setfW, putF]
    by_cases hn : n = f
    · rw [if_pos hn, if_pos (beq_iff_eq.mpr hn)]
      exact ⟨rfl, y, _, rfl, r, r2⟩
    · rw [if_neg hn, if_neg (fun z => hn (beq_iff_eq.mp z))]
      obtain ⟨e1, e2⟩ := putF_rep (f := f) r2 r
      exact ⟨by simp only [List.map_cons, e1], v, _, rfl, r1, e2⟩
/-- self.f = e -/
theorem ss_setf {o e : Expr} {i : Nat} {f : Str} {me : PM.Env → R Hd} {pos pos' : Pos} (hsw : swapsWith e (some (.Attribute o f pos')) pos.line X.env = pure false) (ho : SE X F Wx o (mBor i)) (he : SE X F Wx e me) (hf : ∀ c, fldK G c f = true → ClsH X c f) :
    SS X F Wx B (.Assign [.Attribute o f pos'] e pos) (fun env => (me env).val.bind fun x e1 => match e1[i]? with
      | some (.own (.obj c ns ws)) => (match (G.cls c) with | some d => if d.flds.contains f = true ∧ ns.length < 1000 then (let r := setfW ns ws f x; .ok .nx (e1.set i (.own (.obj c r.1 r.2)))) else .no | none => .no)
      | _ => .no) := ps_by fun D σ H h => ⟨_, ps_fld ho he hsw, by
  obtain ⟨α, T, env, c, o'⟩ := h
  try dsimp only at o'
  unfold R.val at o'
  refine tE_iff.mpr ⟨α, T, env, c, ?_⟩
  cases q : me env with
  | no => rw [q] at o'; exact o'
  | exc x e1 => rw [q] at o'; exact (show exS X.K X.mg F Wx B α T H x e1 from o').ex
  | ok hd e1 =>
    rw [q] at o'
    cases hd with
    | s => exact o'.elim
    | v w =>
      intro H1 v c1 k1 r1
      simp only [pv1, R.opt, R.bind] at o'
      cases q2 : e1[i]? with
      | none => simp only [q2] at o'; exact o'.elim
      | some s =>
        cases s with
        | own w0 =>
          cases w0 with
          | obj cn ns ws =>
            simp only [q2] at o'
            cases q3 : G.cls cn with
            | none => simp only [q3] at o'; exact o'.elim
            | some d =>
              simp only [q3] at o'
              split at o'
              · rename_i hd'
                obtain ⟨a, ha, _, hown⟩ := c1.sl i _ q2
                obtain ⟨A, m1, cl, na⟩ := (hf cn (by unfold fldK; rw [q3]; exact hd'.1)).ex
                obtain ⟨A', dx, fs, m2, h2, h3, h4⟩ := hown
                rw [m1] at m2; cases m2
                refine tE_iff.mpr ⟨α, T, e1, c1, ?_⟩
                unfold mBor
                rw [q2]
                intro H2 v2 c2 k2 r2
                obtain ⟨b, hb, rfl⟩ := r2
                rw [ha] at hb; cases hb
                obtain ⟨a2, ha2, _, hown2⟩ := c2.sl i _ q2
                rw [ha] at ha2; cases ha2
                obtain ⟨A', dx, fs, m2, h2, h3, h4⟩ := hown2
                rw [m1] at m2; cases m2
                refine ⟨a, A, dx, fs, rfl, h2, cl, na, by rw [← List.length_map (f := (·.1)), h3]; exact hd'.2, ?_⟩
                have r1' : Rep X.K X.mg (MM F α T) H2 w v := Rep.kp k2 (fun _ z => .inl (own_mm z)) (fun _ z => .inl z) _ _ r1
                have pr := putF_rep (f := f) h4 r1'
                rw [h3] at pr
                have nf : ¬ Fix (.ins A dx fs) := fun z => z
                have km : Kp (fun x => x = a) H2 (upd H2 a (.ins A dx (putF f v fs))) := Kp.mut h2 nf rfl
                refine (show okS X.K X.mg F B α T H D .nx _ from o') σ _ α (c2.mut q2 ha h2 nf ⟨A, dx, putF f v fs, m1, upd_same, pr.1, pr.2.kp km (fun x z => .inl (by rw [z]; exact own_mm (ow_iff.mpr ⟨i, ha⟩))) fun _ z => .inl z⟩) (.of ?_)
                exact (kk k1 k2).trans km fun x z => .inl (by rw [z]; exact ow_iff.mpr ⟨i, ha⟩)
              · exact o'.elim
          | _ => simp only [q2] at o'; exact o'.elim
        | no => simp only [q2] at o'; exact o'.elim
        | val w => simp only [q2] at o'; exact o'.elim⟩

/-! ### a constant of the module -/
structure GlC (X : Cx) (x : Str) (w : W) : Prop where
  ex : ∃ (u : Value) (v : V), X.mg x = some u ∧ RelV v u ∧ ∀ M H, Rep X.K X.mg M H w v
theorem se_glo {x : Str} {w : W} {pos : Pos} (h : GlC X x w) (hg : Gl X x) (hdb : (x == ("__debug__" : Str)) = false) : SE X F Wx (.Name x pos) (fun env => .ok (.v w) env) := by
  obtain ⟨u, v, h1, h2, h3⟩ := h.ex
  exact se_const (v := v) ⟨fun pins s σ H Q I h => ld_glob I hg h1 ⟨v, H, I, h2, h⟩ hdb⟩ h3

/-! ### a, b = x, y -/
def okP (K : PySem.W.Frag) (mg : Str → Option Value) (F : Frm) (α : Asg) (T : List Addr) (σ : St) (H : Hp) (Q : VK) : Slot → PM.Env → Prop
  | .val w, e => ∀ H' v, Cfg K mg F α T e σ H' → Kp (Ow α) H H' → Rep K mg (MM F α T) H' w v → Q v H'
  | .own w, e => ∀ H' p, H p = none → Cfg K mg F α (p :: T) e σ H' → Kp (Ow α) H H' → OwnAt K mg (MM F α (p :: T)) H' p w → Q (.ref p) H'
  | .no, _ => False
def tP (K : PySem.W.Frag) (mg : Str → Option Value) (F : Frm) (Wx : WX) (m : PM.Env → R Slot) : TE := fun σ H Q => ∃ α T env, Cfg K mg F α T env σ H ∧ OutR (okP K mg F α T σ H Q) (exE K mg F Wx α T σ H) (m env)
theorem pe_ptV {e : Expr} {me : PM.Env → R Hd} (h : SE X F Wx e me) : PE X e (tP X.K X.mg F Wx fun env => (me env).bind fun h e1 => match h with | .v w => .ok (.val w) e1 | .s _ => .no) := pe_by fun σ H Q hq => ⟨_, h, by
  obtain ⟨α, T, env, c, o⟩ := hq
  try dsimp only at o
  refine tE_iff.mpr ⟨α, T, env, c, ?_⟩
  cases q : me env with
  | no => rw [q] at o; exact o
  | exc => rw [q] at o; exact o
  | ok hd e1 =>
    rw [q] at o
    cases hd with
    | s => exact o.elim
    | v w => exact o⟩
theorem pe_ptF {e : Expr} {me : PM.Env → R W} (h : SF X F Wx e me) : PE X e (tP X.K X.mg F Wx fun env => (me env).bind fun w e1 => .ok (.own w) e1) := pe_by fun σ H Q hq => ⟨_, h, by
  obtain ⟨α, T, env, c, o⟩ := hq
  try dsimp only at o
  refine tF_iff.mpr ⟨α, T, env, c, ?_⟩
  cases q : me env with
  | no => rw [q] at o; exact o
  | exc => rw [q] at o; exact o
  | ok w e1 => rw [q] at o; exact o⟩
theorem Cfg.own1' {K : PySem.W.Frag} {mg : Str → Option Value} {α : Asg} {T : List Addr} {env : PM.Env} {σ : St} {H H' : Hp} {p : Addr} (c : Cfg K mg F α (p :: T) env σ H) (h : p ∉ T) : True := trivial
theorem ss_par {st : Stmt} {i j : Nat} {ma mb : PM.Env → R Slot} (na : ∀ env e1, ma env = .ok .no e1 → False) (nb : ∀ env e1, mb env = .ok .no e1 → False) (hi : i ∈ B) (hj : j ∈ B) (hA : PS X st (tPar i j (tCons (tP X.K X.mg F Wx ma) (tCons (tP X.K X.mg F Wx mb) tNil)))) :
    SS X F Wx B st (fun env => (ma env).bind fun x e1 => (mb e1).bind fun y e2 => putS i x j y e2) := ps_by fun D σ H h => ⟨_, hA, by
  obtain ⟨α, T, env, c, o⟩ := h
  try dsimp only at o
  refine ⟨α, T, env, c, ?_⟩
  cases q : ma env with
  | no => rw [q] at o; exact o
  | exc x e1 => rw [q] at o; exact (show exS X.K X.mg F Wx B α T H x e1 from o).ex
  | ok x e1 =>
    rw [q, R.bind_ok] at o
    have off : ∀ (o1 o2 : Option Addr) m, m ∉ B → gO ((α.set i o1).set j o2) m = gO α m := fun o1 o2 m hm => by
      rw [gO_set_ne (fun z : j = m => hm (by rw [← z]; exact hj)), gO_set_ne (fun z : i = m => hm (by rw [← z]; exact hi))]
    cases x with
    | no => exact (na _ _ q).elim
    | val w =>
      intro H1 v c1 k1 r1
      refine ⟨α, T, e1, c1, ?_⟩
      cases q2 : mb e1 with
      | no => rw [q2] at o; exact o
      | exc x e2 => rw [q2] at o; exact ((show exS X.K X.mg F Wx B α T H x e2 from o).later (.of k1)).ex
      | ok y e2 =>
        rw [q2, R.bind_ok] at o
        unfold putS at o
        split at o
        case isFalse => exact o.elim
        rename_i hl
        cases y with
        | no => exact (nb _ _ q2).elim
        | val u =>
          intro H2 v2 c2 k2 r2
          refine ⟨v, v2, rfl, ?_⟩
          have r1' : Rep X.K X.mg (MM F α T) H2 w v := Rep.kp k2 (fun _ z => .inl (own_mm z)) (fun _ z => .inl z) _ _ r1
          have c3 := c2.setVal (by rw [← c2.le]; exact hl.1) r1'
          have c4 := c3.setVal (i := j) (by rw [← c3.le, List.length_set]; exact hl.2.1) (r2.mono fun x z => mm_set_none z)
          refine (show okS X.K X.mg F B α T H D .nx _ from o) _ H2 _ c4 ⟨kk k1 k2, fun x z => ?_, off _ _⟩
          have z := (ow_set z).resolve_left fun z => nomatch z
          exact .inl ((ow_set z).resolve_left fun z => nomatch z)
        | own u =>
          intro H2 p hp c2 k2 r2
          refine ⟨v, .ref p, rfl, ?_⟩
          have r1' : Rep X.K X.mg (MM F α (p :: T)) H2 w v := Rep.kp k2 (fun _ z => .inl (own_mm z)) (fun x z => (mm_cons z).imp id fun e => by rw [e]; exact hp) _ _ r1
          have hpT : p ∉ T := fun z => c1.tr p (.inr (.inr z)) hp
          have c3 := c2.setVal (by rw [← c2.le]; exact hl.1) r1'
          have c4 := c3.setOwn (i := j) (by rw [← c3.le, List.length_set]; exact hl.2.1) (OwnAt.kp (N := fun _ => False) (Kp.refl _ _) (fun _ z => z.elim) (fun x z => .inl (mm_set_none z)) (fun z => z) r2) hpT
          refine (show okS X.K X.mg F B α T H D .nx _ from o) _ H2 _ c4 ⟨kk k1 k2, fun x z => ?_, off _ _⟩
          rcases ow_set z with z | z
          · cases z; exact .inr (kp_none k1 hp)
          · exact .inl ((ow_set z).resolve_left fun z => nomatch z)
    | own w =>
      intro H1 p hp c1 k1 r1
      have hpT : p ∉ T := fun z => c.tr p (.inr (.inr z)) hp
      refine ⟨α, p :: T, e1, c1, ?_⟩
      cases q2 : mb e1 with
      | no => rw [q2] at o; exact o
      | exc x e2 =>
        rw [q2] at o
        intro H' cls d c' k' rx
        exact (show exS X.K X.mg F Wx B α T H x e2 from o) _ H' α cls d c'.drop (.of (kk k1 k')) (repX_mono (fun y z => by rcases z with z | z | z; exact .inl z; exact .inr (.inl z); exact .inr (.inr (List.mem_cons_of_mem _ z))) rx)
      | ok y e2 =>
        rw [q2, R.bind_ok] at o
        unfold putS at o
        split at o
        case isFalse => exact o.elim
        rename_i hl
        cases y with
        | no => exact (nb _ _ q2).elim
        | val u =>
          intro H2 v2 c2 k2 r2
          refine ⟨.ref p, v2, rfl, ?_⟩
          have np : ¬ Ow α p := fun z => by
            obtain ⟨m, z⟩ := ow_iff.mp z
            exact c1.nt m p z List.mem_cons_self
          have r1' : OwnAt X.K X.mg (MM F α (p :: T)) H2 p w := OwnAt.kp k2 (fun _ z => .inl (own_mm z)) (fun _ z => .inl z) np r1
          have c3 := c2.setOwn (i := i) (by rw [← c2.le]; exact hl.1) r1' hpT
          have c4 := c3.setVal (i := j) (by rw [← c3.le, List.length_set]; exact hl.2.1) (r2.mono fun x z => by
            rcases z with z | z | z
            · exact .inl z
            · rcases ow_set z with z | z
              · cases z; exact .inr (.inr List.mem_cons_self)
              · exact .inr (.inl z)
            · exact .inr (.inr (List.mem_cons_of_mem _ z)))
          refine (show okS X.K X.mg F B α T H D .nx _ from o) _ H2 _ c4 ⟨kk k1 k2, fun x z => ?_, off _ _⟩
          have z := (ow_set z).resolve_left fun z => nomatch z
          rcases ow_set z with z | z
          · cases z; exact .inr hp
          · exact .inl z
        | own u =>
          intro H2 p2 hp2 c2 k2 r2
          refine ⟨.ref p, .ref p2, rfl, ?_⟩
          have np : ¬ Ow α p := fun z => by
            obtain ⟨m, z⟩ := ow_iff.mp z
            exact c1.nt m p z List.mem_cons_self
          have hpp : p ≠ p2 := fun z => by
            have := r1.fix
            obtain ⟨o', h1, _⟩ := this
            rw [z] at h1; rw [hp2] at h1; cases h1
          have hp2T : p2 ∉ T := fun z => c1.tr p2 (.inr (.inr (List.mem_cons_of_mem _ z))) hp2
          -- first the later one, then the earlier one
          have r1' : OwnAt X.K X.mg (MM F α (p :: p2 :: T)) H2 p w := OwnAt.kp k2 (fun _ z => .inl (own_mm z)) (fun x z => by
            rcases z with z | z | z
            · exact .inl (.inl z)
            · exact .inl (.inr (.inl z))
            · rcases List.mem_cons.mp z with e | z
              · exact .inl (.inr (.inr (by rw [e]; exact List.mem_cons_self)))
              · rcases List.mem_cons.mp z with e | z
                · exact .inr (by rw [e]; exact hp2)
                · exact .inl (.inr (.inr (List.mem_cons_of_mem _ z)))) np r1
          have sw : ∀ a, a ∈ p :: p2 :: T ↔ a ∈ p2 :: p :: T := fun a => by simp only [List.mem_cons]; grind
          have mm : ∀ a, MM F α (p :: p2 :: T) a ↔ MM F α (p2 :: p :: T) a := fun a => by unfold MM; rw [sw]
          have c2' : Cfg X.K X.mg F α (p :: p2 :: T) e2 σ H2 := ⟨c2.le, c2.la, c2.nd, fun m a e z => c2.nt m a e ((sw a).mp z), fun a z => c2.nw a (z.imp id (sw a).mp), fun a z => c2.tr a ((mm a).mp z), c2.lm, c2.kp, fun m s e => (c2.sl m s e).mono fun x z => (mm x).mp z⟩
          have c3 := c2'.setOwn (i := i) (by rw [← c2.le]; exact hl.1) r1' (by simp only [List.mem_cons, not_or]; exact ⟨hpp, hpT⟩)
          have c4 := c3.setOwn (i := j) (by rw [← c3.le, List.length_set]; exact hl.2.1) (OwnAt.kp (N := fun _ => False) (Kp.refl _ _) (fun _ z => z.elim) (fun x z => .inl (by
            rcases z with z | z | z
            · exact .inl z
            · rcases ow_set z with z | z
              · cases z; exact .inr (.inr (List.mem_cons_of_mem _ List.mem_cons_self))
              · exact .inr (.inl z)
            · rcases List.mem_cons.mp z with e | z
              · exact .inr (.inr (by rw [e]; exact List.mem_cons_self))
              · exact .inr (.inr (List.mem_cons_of_mem _ (List.mem_cons_of_mem _ z))))) (fun z => z) r2) hp2T
          refine (show okS X.K X.mg F B α T H D .nx _ from o) _ H2 _ c4 ⟨kk k1 k2, fun x z => ?_, off _ _⟩
          rcases ow_set z with z | z
          · cases z; exact .inr (kp_none k1 hp2)
          · rcases ow_set z with z | z
            · cases z; exact .inr hp
            · exact .inl z⟩
/-! ### o[k] = e -/
theorem any_kW {kvs : List (Key × V)} {k : Key} : ((kvs.map fun p => kW p.1).any fun j => kEq j (kW k)) = kvs.any fun kv => decide (kv.1 = k) := by
  induction kvs with
  | nil => rfl
  | cons a t ih => rw [List.map_cons, List.any_cons, List.any_cons, ih, kEq_kW]
theorem dRep_rep {K : PySem.W.Frag} {mg : Str → Option Value} {M : AP'} {H : Hp} {k : Key} {u : W} {y : V} (ry : Rep K mg M H u y) : ∀ {kvs : List (Key × V)} {ws : List W}, RepL K mg M H ws (kvs.map (·.2)) →
    RepL K mg M H (dRep (kvs.map fun p => kW p.1) ws (kW k) u) ((kvs.map fun kv => if kv.1 = k then (kv.1, y) else kv).map (·.2))
  | [], ws, h => by
    cases ws with
    | nil => rfl
    | cons => obtain ⟨_, _, e, _⟩ := h; simp at e
  | p :: t, [], h => by have : (p.2 :: t.map (·.2)) = [] := h; cases this
  | p :: t, w :: ws, h => by
    obtain ⟨v', r', e, r1, r2⟩ := h
    simp only [List.map_cons] at e
    cases e
    simp only [List.map_cons, dRep, kEq_kW]
    by_cases hk : p.1 = k
    · simp only [hk, decide_true, if_true]
      exact ⟨y, _, rfl, ry, dRep_rep ry r2⟩
    · simp only [hk, decide_false, if_false, Bool.false_eq_true]
      exact ⟨p.2, _, rfl, r1, dRep_rep ry r2⟩
theorem dPut_rep {K : PySem.W.Frag} {mg : Str → Option Value} {M : AP'} {H : Hp} {kvs : List (Key × V)} {ws : List W} {k : Key} {u : W} {y : V} (r : RepL K mg M H ws (kvs.map (·.2))) (ry : Rep K mg M H u y) :
    (putK kvs k y).map (fun p => kW p.1) = (dPut (kvs.map fun p => kW p.1) ws (kW k) u).1 ∧ RepL K mg M H (dPut (kvs.map fun p => kW p.1) ws (kW k) u).2 ((putK kvs k y).map (·.2)) := by
  unfold putK dPut
  rw [any_kW]
  by_cases h : (kvs.any fun kv => decide (kv.1 = k)) = true
  · rw [if_pos h, if_pos h]
    refine ⟨?_, dRep_rep ry r⟩
    rw [List.map_map]
    apply List.map_congr_left
    intro p _
    show kW (if p.1 = k then (p.1, y) else p).1 = kW p.1
    split <;> rfl
  · rw [if_neg h, if_neg h]
    refine ⟨by simp, ?_⟩
    rw [List.map_append]
    exact r.app (RepL.one ry)
def setiE (i : Nat) (mk me : PM.Env → R Hd) : PM.Env → R Fl := fun env => (me env).val.bind fun x e1 => match e1[i]? with
    | some (.own _) => (mk e1).val.bind fun u e2 => match e2[i]? with
      | some (.own w) => match setW w u x with | some w' => .ok .nx (e2.set i (.own w')) | none => .no
      | _ => .no
    | _ => .no
theorem pset_none : PSet X (fun _ _ _ _ _ => False) := fun _ _ _ _ _ _ _ _ _ _ _ _ _ _ _ h => h.elim
theorem ss_seti {st : Stmt} {me mk : PM.Env → R Hd} {i : Nat} (hu : X.A.units + 70 < cLine) (hA : ∀ t, PSet X t → PS X st (tAsg (tE X.K X.mg F Wx me) (gSub (tE X.K X.mg F Wx (mBor i)) (tE X.K X.mg F Wx mk) t))) : SS X F Wx B st (setiE i mk me) := ps_by fun D σ H h => by
  obtain ⟨α, T, env, c, o⟩ := h
  have o0 := o
  unfold setiE R.val at o
  have bad : (∀ x e1 u e2 w, me env = .ok (.v x) e1 → mk e1 = .ok (.v u) e2 → e2[i]? = some (.own w) → False) → ∃ t, PS X st t ∧ t D σ H := fun hno => ⟨_, hA _ pset_none, by
    refine tE_iff.mpr ⟨α, T, env, c, ?_⟩
    cases q : me env with
    | no => rw [q] at o; exact o
    | exc x e1 => rw [q] at o; exact (show exS X.K X.mg F Wx B α T H x e1 from o).ex
    | ok hd e1 =>
      rw [q] at o
      cases hd with
      | s => exact o.elim
      | v x =>
        intro H1 v c1 k1 r1
        simp only [pv1, R.opt, R.bind] at o
        cases q2 : e1[i]? with
        | none => simp only [q2] at o; exact o.elim
        | some s =>
          cases s with
          | no => simp only [q2] at o; exact o.elim
          | val => simp only [q2] at o; exact o.elim
          | own w =>
            simp only [q2] at o
            refine tE_iff.mpr ⟨α, T, e1, c1, ?_⟩
            unfold mBor
            rw [q2]
            intro H2 v2 c2 k2 r2
            refine tE_iff.mpr ⟨α, T, e1, c2, ?_⟩
            cases q3 : mk e1 with
            | no => simp only [q3] at o; exact o
            | exc x e2 => simp only [q3] at o; exact ((show exS X.K X.mg F Wx B α T H x e2 from o).later (.of (kk k1 k2))).ex
            | ok hd2 e2 =>
              cases hd2 with
              | s => simp only [q3] at o; exact o.elim
              | v u =>
                simp only [q3] at o
                cases q4 : e2[i]? with
                | none => simp only [q4] at o; exact o.elim
                | some s =>
                  cases s with
                  | no => simp only [q4] at o; exact o.elim
                  | val => simp only [q4] at o; exact o.elim
                  | own w' => exact (hno x e1 u e2 w' q q3 q4).elim⟩
  cases q : me env with
  | no => exact bad fun _ _ _ _ _ z => by rw [q] at z; cases z
  | exc => exact bad fun _ _ _ _ _ z => by rw [q] at z; cases z
  | ok hd e1 =>
    cases hd with
    | s => exact bad fun _ _ _ _ _ z => by rw [q] at z; cases z
    | v x =>
      cases q3 : mk e1 with
      | no => exact bad fun _ _ _ _ _ z z2 => by rw [q] at z; cases z; rw [q3] at z2; cases z2
      | exc => exact bad fun _ _ _ _ _ z z2 => by rw [q] at z; cases z; rw [q3] at z2; cases z2
      | ok hd2 e2 =>
        cases hd2 with
        | s => exact bad fun _ _ _ _ _ z z2 => by rw [q] at z; cases z; rw [q3] at z2; cases z2
        | v u =>
          cases q2 : e1[i]? with
          | none => simp only [q, pv1, R.opt, R.bind, q2] at o; exact o.elim
          | some s =>
            cases s with
            | no => simp only [q, pv1, R.opt, R.bind, q2] at o; exact o.elim
            | val => simp only [q, pv1, R.opt, R.bind, q2] at o; exact o.elim
            | own w0 =>
              simp only [q, pv1, R.opt, R.bind, q2, q3] at o
              cases q4 : e2[i]? with
              | none => simp only [q4] at o; exact o.elim
              | some s =>
                cases s with
                | no => simp only [q4] at o; exact o.elim
                | val => simp only [q4] at o; exact o.elim
                | own w =>
                  simp only [q4] at o
                  cases q5 : setW w u x with
                  | none => simp only [q5] at o; exact o.elim
                  | some w' =>
                    simp only [q5] at o
                    -- the rule by what is held
                    have go : ∀ t, PSet X t → (∀ (H3 : Hp) (a : Addr) (v vu : V), gO α i = some a → Cfg X.K X.mg F α T e2 σ H3 → Rep X.K X.mg (MM F α T) H3 x v → Rep X.K X.mg (MM F α T) H3 u vu → Kp (Ow α) H H3 → t (.ref a) vu v H3 fun H4 => D.nx σ H4) → ∃ t, PS X st t ∧ t D σ H := fun t ht hgo => ⟨_, hA t ht, by
                      refine tE_iff.mpr ⟨α, T, env, c, ?_⟩
                      rw [q]
                      intro H1 v c1 k1 r1
                      refine tE_iff.mpr ⟨α, T, e1, c1, ?_⟩
                      unfold mBor
                      rw [q2]
                      intro H2 v2 c2 k2 r2
                      obtain ⟨a, ha, rfl⟩ := r2
                      refine tE_iff.mpr ⟨α, T, e1, c2, ?_⟩
                      rw [q3]
                      intro H3 vu c3 k3 r3
                      exact hgo H3 a v vu ha c3 (Rep.kp (kk k2 k3) (fun _ z => .inl (own_mm z)) (fun _ z => .inl z) _ _ r1) r3 (kk k1 (kk k2 k3))⟩
                    cases w with
                    | lst ws =>
                      cases u with
                      | int n =>
                        simp only [setW] at q5
                        cases q6 : ixW ws.length n with
                        | none => rw [q6] at q5; cases q5
                        | some m =>
                          rw [q6] at q5; cases q5
                          refine go _ set_list fun H3 a v vu ha c3 rv ru k3 => ?_
                          obtain ⟨a', ha', _, vs, hl, rl⟩ := c3.sl i _ q4
                          rw [ha] at ha'; cases ha'
                          obtain rfl : vu = .int n := ru
                          have nf : ¬ Fix (.lst vs) := fun z => z
                          have km : Kp (fun x => x = a) H3 (upd H3 a (.lst (vs.set m v))) := Kp.mut hl nf rfl
                          refine ⟨a, vs, n, m, rfl, rfl, hl, (show ixW vs.length n = some m by rw [rl.len]; exact q6), ?_⟩
                          refine (show okS X.K X.mg F B α T H D .nx _ from o) σ _ α (c3.mut q4 ha hl nf ⟨_, upd_same, ?_⟩) (.of ?_)
                          · exact (rl.set m rv).kp km (fun x z => .inl (by rw [z]; exact own_mm (ow_iff.mpr ⟨i, ha⟩))) fun _ z => .inl z
                          · exact k3.trans km fun x z => .inl (by rw [z]; exact ow_iff.mpr ⟨i, ha⟩)
                      | _ => cases q5
                    | dic ks ws =>
                      simp only [setW] at q5
                      split at q5
                      case isFalse => cases q5
                      rename_i hk
                      cases q5
                      obtain ⟨kx, rfl⟩ := key_of hk.1
                      refine go _ (set_dict (by omega)) fun H3 a v vu ha c3 rv ru k3 => ?_
                      obtain ⟨a', ha', _, kvs, hl, hks, rl⟩ := c3.sl i _ q4
                      rw [ha] at ha'; cases ha'
                      subst hks
                      obtain rfl := rep_kW ru
                      have nf : ¬ Fix (.dK kvs) := fun z => z
                      have km : Kp (fun x => x = a) H3 (upd H3 a (.dK (putK kvs kx v))) := Kp.mut hl nf rfl
                      refine ⟨a, _, rfl, DPut.k hl (sz6 (Nat.le_of_lt (by have := hk.2; rw [List.length_map] at this; exact this))), ?_⟩
                      have pr := dPut_rep (k := kx) rl rv
                      refine (show okS X.K X.mg F B α T H D .nx _ from o) σ _ α (c3.mut q4 ha hl nf ⟨_, upd_same, pr.1, ?_⟩) (.of ?_)
                      · exact pr.2.kp km (fun x z => .inl (by rw [z]; exact own_mm (ow_iff.mpr ⟨i, ha⟩))) fun _ z => .inl z
                      · exact k3.trans km fun x z => .inl (by rw [z]; exact ow_iff.mpr ⟨i, ha⟩)
                    | _ => cases q5

/-! ### list(range(..)), len(set(..)) -/
theorem rgV_one {n : Int} {us : List W} (h : rngW [.int n] = some us) : RgOk 0 n ∧ rgV 0 n = (us.length |> fun _ => (List.range n.toNat).map fun i : Nat => V.int (0 + (i : Nat))) ∧ ∀ {K : PySem.W.Frag} {mg : Str → Option Value} {M : AP'} {H : Hp}, RepL K mg M H us (rgV 0 n) := by
  obtain ⟨n1, n2, rfl⟩ := rng_one h
  refine ⟨⟨by omega, by omega, by omega, by omega, by omega⟩, ?_, fun {K mg M H} => ?_⟩
  · unfold rgV; rw [Int.sub_zero]
  · unfold rgV
    rw [Int.sub_zero]
    have : ∀ l : List Nat, RepL K mg M H (l.map fun i : Nat => W.int (0 + (i : Nat))) (l.map fun i : Nat => V.int (0 + (i : Nat))) := fun l => by
      induction l with
      | nil => rfl
      | cons a t ih => exact ⟨_, _, rfl, rfl, ih⟩
    exact this _
theorem rgV_two {m n : Int} {us : List W} (h : rngW [.int m, .int n] = some us) : RgOk m n ∧ ∀ {K : PySem.W.Frag} {mg : Str → Option Value} {M : AP'} {H : Hp}, RepL K mg M H us (rgV m n) := by
  obtain ⟨n1, rfl⟩ := rng_two h
  refine ⟨⟨by omega, by omega, by omega, by omega, by omega⟩, fun {K mg M H} => ?_⟩
  unfold rgV
  have : ∀ l : List Nat, RepL K mg M H (l.map fun i : Nat => W.int (m + (i : Nat))) (l.map fun i : Nat => V.int (m + (i : Nat))) := fun l => by
    induction l with
    | nil => rfl
    | cons a t ih => exact ⟨_, _, rfl, rfl, ih⟩
  exact this _
theorem own_lay {K : PySem.W.Frag} {mg : Str → Option Value} {M : AP'} {H : Hp} {p : Addr} {us : List W} {vs : List V} (h : ∀ {M : AP'} {H : Hp}, RepL K mg M H us vs) : OwnAt K mg M (upd H p (.lst vs)) p (.lst us) := ⟨vs, upd_same, h⟩
theorem sf_lrng1 {a : Expr} {ma : PM.Env → R Hd} {p q pos pos2 : Pos} (hc : X.calm = true) (g1 : Gl X "list") (m1 : X.mg "list" = none) (g2 : Gl X "range") (m2 : X.mg "range" = none) (hs : nS a = true) (ha : SE X F Wx a ma) :
    SF X F Wx (.Call (.Name "list" p) [.Call (.Name "range" q) [a] [] pos2] [] pos) (fun env => (ma env).bind fun x e1 => match x with
      | .v (.int n) => (R.opt (rngW [.int n]) e1).bind fun us e2 => .ok (.lst us) e2
      | _ => .no) := by
  refine pe_by fun σ H Q hq => ⟨_, pe_listRg hc g1 m1 (prg_1 g2 m2 ha (star_cons hs)) rfl, ?_⟩
  obtain ⟨α, T, env, c, o⟩ := tF_iff.mp hq
  refine tE_bind c o fun hd e1 H1 v q c1 k1 r1 o1 => ?_
  cases hd with
  | s => exact o1.elim
  | v w =>
    cases w with
    | int n =>
      simp only at o1
      cases q2 : rngW [.int n] with
      | none => rw [q2] at o1; exact o1.elim
      | some us =>
        rw [q2] at o1
        obtain ⟨h1, _, h3⟩ := rgV_one q2
        obtain rfl : v = .int n := r1
        refine ⟨n, rfl, h1, fun p hp => ?_⟩
        exact (show okF X.K X.mg F α T σ H Q (.lst us) e1 from o1) _ p (kp_none k1 hp) (c1.apart (Kp.new _ hp) hp (by rw [upd_same]; exact fun z => nomatch z)) (k0 k1 (Kp.new _ hp)) (own_lay h3)
    | _ => exact o1.elim
theorem sf_lrng2 {a b : Expr} {ma mb : PM.Env → R Hd} {p q pos pos2 : Pos} (hc : X.calm = true) (g1 : Gl X "list") (m1 : X.mg "list" = none) (g2 : Gl X "range") (m2 : X.mg "range" = none) (hs : nS a = true) (hs2 : nS b = true) (ha : SE X F Wx a ma) (hb : SE X F Wx b mb) :
    SF X F Wx (.Call (.Name "list" p) [.Call (.Name "range" q) [a, b] [] pos2] [] pos) (fun env => (ma env).bind fun x e1 => (mb e1).bind fun y e2 => match x, y with
      | .v (.int m), .v (.int n) => (R.opt (rngW [.int m, .int n]) e2).bind fun us e3 => .ok (.lst us) e3
      | _, _ => .no) := by
  refine pe_by fun σ H Q hq => ⟨_, pe_listRg hc g1 m1 (prg_2 g2 m2 ha hb (star_cons hs) (star_cons hs2) (by rw [star_cons hs2]; rfl)) rfl, ?_⟩
  obtain ⟨α, T, env, c, o⟩ := tF_iff.mp hq
  refine tE_bind c o fun x e1 H1 v q c1 k1 r1 o1 => ?_
  refine tE_bind c1 (o1.imp (fun _ _ z => z) fun _ _ z => z.later k1) fun y e2 H2 v2 q2 c2 k2 r2 o2 => ?_
  cases x with
  | s => exact o2.elim
  | v w =>
    cases y with
    | s => cases w <;> exact o2.elim
    | v u =>
      cases w with
      | int m =>
        cases u with
        | int n =>
          simp only at o2
          cases q2 : rngW [.int m, .int n] with
          | none => rw [q2] at o2; exact o2.elim
          | some us =>
            rw [q2] at o2
            obtain ⟨h1, h3⟩ := rgV_two q2
            obtain rfl : v = .int m := r1
            obtain rfl : v2 = .int n := r2
            have k12 := kk k1 k2
            refine ⟨m, n, rfl, rfl, h1, fun p hp => ?_⟩
            exact (show okF X.K X.mg F α T σ H Q (.lst us) e2 from o2) _ p (kp_none k12 hp) (c2.apart (Kp.new _ hp) hp (by rw [upd_same]; exact fun z => nomatch z)) (k0 k12 (Kp.new _ hp)) (own_lay h3)
        | _ => exact o2.elim
      | _ => cases u <;> exact o2.elim
theorem distinct_of : ∀ {l : List Int}, distinct l = true → l.Nodup
  | [], _ => List.nodup_nil
  | x :: xs, h => by
    simp only [distinct, Bool.and_eq_true, Bool.not_eq_true'] at h
    rw [List.nodup_cons]
    exact ⟨fun z => (by rw [List.contains_iff_mem.mpr z] at h; cases h.1), distinct_of h.2⟩
theorem se_lenset {a : Expr} {ma : PM.Env → R Hd} {p q pos pos2 : Pos} (hc : X.calm = true) (g1 : Gl X "len") (m1 : X.mg "len" = none) (g2 : Gl X "set") (m2 : X.mg "set" = none) (hs : nS a = true) (ha : SE X F Wx a ma) :
    SE X F Wx (.Call (.Name "len" p) [.Call (.Name "set" q) [a] [] pos2] [] pos) (fun env => (ma env).bind fun x e1 => match rd e1 x with
      | some w => (R.opt (lensetW w) e1).hd
      | none => .no) := by
  refine pe_by fun σ H Q hq => ⟨_, RZ.pe_lenSetI g1 m1 g2 m2 ha hc (star_cons hs), ?_⟩
  obtain ⟨α, T, env, c, o⟩ := tE_iff.mp hq
  refine tE_bind c o fun hd e1 H1 v q c1 k1 r1 o1 => ?_
  cases q2 : rd e1 hd with
  | none => simp only [q2] at o1; exact o1.elim
  | some w =>
    simp only [q2] at o1
    obtain ⟨u, q3, o2⟩ := OutR.opt (OutR.hd o1)
    unfold lensetW at q3
    split at q3
    · rename_i ws
      split at q3
      · rename_i l hl
        split at q3
        · rename_i hn
          cases q3
          obtain ⟨a, vs, rfl, h1, h2⟩ := repB_lst (c1.read r1 q2)
          have e := (ints_vals hl h2).1
          subst e
          exact ⟨a, l, rfl, .inl (.inl h1), distinct_of hn.2, hn.1, (show okE X.K X.mg F α T σ H Q (.v (.int l.length)) e1 from o2) H1 _ c1 k1 rfl⟩
        · cases q3
      · cases q3
    · cases q3
end
end PM

set_option maxHeartbeats 4000000
namespace PM
open PySem L2
section
variable {X : Cx} {F : Frm} {Wx : WX}
/-- the loop of a dict comprehension -/
theorem dcomp_loop {K : PySem.W.Frag} {mg : Str → Option Value} {α : Asg} {T : List Addr} {D : Addr} {vs : List Nat} {ft : PM.Env → R Bool} {fk fv : PM.Env → R Hd} {us : List W} {e1 eE : PM.Env} {rs : List W × List W} {σ : St} {H1 : Hp} {J : It} {Q : VK} {t : Tg}
    (hsl : ∀ i ∈ t.slots, i ∈ vs) (hα : ∀ i ∈ vs, gO α i = none) (hD : H1 D = none) (nl0 : F.H0 D = none) (it : ItOk K mg (MM F α T) H1 J us) (c : Cfg K mg F α (D :: T) e1 σ (upd H1 D (.dK [])))
    (hr : dcompL ft (fun e => (fk e).val) (fun e => (fv e).val) t vs us [] [] e1 = .ok rs eE)
    (hq : ∀ H, Cfg K mg F α (D :: T) (wipeE eE vs) (L2.wipe σ vs) H → Kp (Ow α) H1 H → OwnAt K mg (MM F α (D :: T)) H D (.dic rs.1 rs.2) → Q (.ref D) H) :
    ∃ W : Nat → Nat → Hp → Prop, (∃ m, W 0 m (upd H1 D (.dK []))) ∧ ∀ i m H, W i m H →
      (J.stop i H ∧ Q (.ref D) H) ∨ (J.go i H ∧ ∃ Nx : Hp → Prop, (∀ H', Nx H' → ∃ m', m' < m ∧ W (i + 1) m' H') ∧ ∀ x H', J.yld i H x H' → gTg K t x (L2.wipe σ vs) H' fun σ2 H2 => L2.wipe σ2 vs = L2.wipe σ vs ∧ tT K mg F WX0 ft σ2 H2 fun b H3 =>
        if b = true then tE K mg F WX0 fk σ2 H3 fun y H4 => tE K mg F WX0 fv σ2 H4 fun z H5 => ∃ kvs k, y = kV k ∧ H5 D = some (.dK kvs) ∧ kvs.length < sizeLine ∧ Nx (upd H5 D (.dK (putK kvs k z))) else Nx H3) := by
  have nD : ¬ Ow α D := fun z => by
    obtain ⟨i, z⟩ := ow_iff.mp z
    exact c.nt i D z List.mem_cons_self
  let W : Nat → Nat → Hp → Prop := fun i m H => i ≤ us.length ∧ m = us.length - i ∧ ∃ env ks acc av, Cfg K mg F α (D :: T) (wipeE env vs) (L2.wipe σ vs) H ∧ Kp (Ow α) H1 H ∧ H D = some (.dK av) ∧ av.map (fun p => kW p.1) = ks ∧ RepL K mg (MM F α (D :: T)) H acc (av.map (·.2)) ∧ dcompL ft (fun e => (fk e).val) (fun e => (fv e).val) t vs (us.drop i) ks acc env = .ok rs eE
  refine ⟨W, ⟨us.length, Nat.zero_le _, rfl, e1, [], [], [], c.wipe vs, k0 (Kp.refl _ _) (Kp.new _ hD), upd_same, rfl, rfl, hr⟩, fun i m H hW => ?_⟩
  obtain ⟨hi, rfl, env, ks, acc, av, cc, kp, hDl, hks, rl, hc⟩ := hW
  have kpM : Kp (MM F α T) H1 H := kp.mono fun _ z => own_mm z
  by_cases he : i = us.length
  · subst he
    rw [List.drop_length] at hc
    unfold dcompL at hc
    cases hc
    exact .inl ⟨(it _ H kpM).1 rfl, hq H cc kp ⟨av, hDl, hks, rl⟩⟩
  · have hi' : i < us.length := Nat.lt_of_le_of_ne hi he
    have hd : us.drop i = us[i] :: us.drop (i + 1) := List.drop_eq_getElem_cons hi'
    obtain ⟨go, yl⟩ := (it i H kpM).2 us[i] (List.getElem?_eq_getElem hi')
    refine .inr ⟨go, W (i + 1) (us.length - (i + 1)), fun H' h => ⟨_, by omega, h⟩, fun x H' y => ?_⟩
    obtain ⟨kx0, rx⟩ := yl x H' y
    rw [hd] at hc
    unfold dcompL at hc
    have cx := cc.ext kx0
    have rx := rx (MM F α (D :: T)) fun z q => by
      rcases q with q | q | q
      · exact .inl (.inl q)
      · exact .inl (.inr (.inl q))
      · rcases List.mem_cons.mp q with rfl | q
        · exact .inr hD
        · exact .inl (.inr (.inr q))
    split at hc
    · cases hc
    · rename_i ea q1
      refine gTg_ok t cx rx q1 fun σ2 α' B => ?_
      have hα' := (B.al fun i hi => hα i (hsl i hi)).symm
      subst hα'
      have hw : L2.wipe σ2 vs = L2.wipe σ vs := (B.wp vs hsl).trans wipe_idem
      refine ⟨hw, tT_iff.mpr ⟨_, D :: T, ea, B.cfg, ?_⟩⟩
      have hD1 := kx0.k _ _ hDl fun z => z
      have kp1 : Kp (Ow α) H1 H' := k0 kp kx0
      split at hc
      · rename_i e2 q2
        rw [q2]
        intro H3 c3 k3
        rw [if_pos rfl]
        refine tE_iff.mpr ⟨_, D :: T, e2, c3, ?_⟩
        split at hc
        · rename_i x1 e3 q3
          split at hc
          · rename_i y1 e4 q5
            split at hc
            · rename_i hz
              cases q4 : fk e2 with
              | no => rw [q4] at q3; cases q3
              | exc => rw [q4] at q3; cases q3
              | ok hd e3' =>
                rw [q4] at q3
                cases hd with
                | s => cases q3
                | v w' =>
                  cases q3
                  intro H4 v4 c4 k4 r4
                  refine tE_iff.mpr ⟨_, D :: T, e3, c4, ?_⟩
                  cases q6 : fv e3 with
                  | no => rw [q6] at q5; cases q5
                  | exc => rw [q6] at q5; cases q5
                  | ok hd2 e4' =>
                    rw [q6] at q5
                    cases hd2 with
                    | s => cases q5
                    | v w2 =>
                      cases q5
                      intro H5 v5 c5 k5 r5
                      have hD5 : H5 D = some (.dK av) := k5.k _ _ (k4.k _ _ (k3.k _ _ hD1 nD) nD) nD
                      obtain ⟨kx, rfl⟩ := key_of hz.1
                      have e4v : v4 = kV kx := rep_kW r4
                      have k15 : Kp (Ow α) H H5 := (k0 (Kp.refl (Ow α) _) kx0).trans (k3.trans (k4.trans k5 fun _ z => .inl z) fun _ z => .inl z) fun _ z => .inl z
                      have rl5 : RepL K mg (MM F α (D :: T)) H5 acc (av.map (·.2)) := rl.kp k15 (fun _ z => .inl (own_mm z)) fun _ z => .inl z
                      have r5' : Rep K mg (MM F α (D :: T)) H5 y1 v5 := r5
                      have pr := dPut_rep (k := kx) rl5 r5'
                      rw [hks] at pr
                      have hlen : av.length < 1000000 := by have := hz.2; rw [← hks, List.length_map] at this; exact this
                      have km : Kp (fun x => x = D) H5 (upd H5 D (.dK (putK av kx v5))) := Kp.mut hD5 (fun z => z) rfl
                      refine ⟨av, kx, e4v, hD5, sz6 (Nat.le_of_lt hlen), by omega, rfl, e4, _, _, putK av kx v5, ?_, ?_, upd_same, pr.1, ?_, hc⟩
                      · have := c5.wipe vs
                        rw [hw] at this
                        exact this.mutT List.mem_cons_self hD5 (fun z => z) nl0
                      · exact (((kp1.trans k3 fun _ z => .inl z).trans k4 fun _ z => .inl z).trans k5 fun _ z => .inl z).trans km fun x z => .inr (by rw [z]; exact hD)
                      · exact pr.2.kp km (fun x z => .inl (.inr (.inr (by rw [z]; exact List.mem_cons_self)))) fun _ z => .inl z
            · cases hc
          · cases hc
        · cases hc
      · rename_i e2 q2
        rw [q2]
        intro H3 c3 k3
        rw [if_neg (fun z => nomatch z)]
        refine ⟨by omega, rfl, e2, ks, acc, av, ?_, kp1.trans k3 fun _ z => .inl z, k3.k _ _ hD1 nD, hks, ?_, hc⟩
        · have := c3.wipe vs
          rw [hw] at this
          exact this
        · have k14 : Kp (Ow α) H H3 := (k0 (Kp.refl (Ow α) _) kx0).trans k3 fun _ z => .inl z
          exact rl.kp k14 (fun _ z => .inl (own_mm z)) fun _ z => .inl z
      · cases hc

def dcompE (mi : PM.Env → R (List W)) (t : Tg) (vs : List Nat) (mt : PM.Env → R Bool) (mk mv : PM.Env → R Hd) : PM.Env → R W := fun env => (mi env).bind fun us e1 =>
  if noOwn e1 vs then (dcompL mt (fun e => (mk e).val) (fun e => (mv e).val) t vs us [] [] e1).nox.bind fun r e2 => .ok (.dic r.1 r.2) (backE e1 e2 vs) else .no
theorem dcomp_run {σ : St} {H : Hp} {Q : VK} {mi : PM.Env → R (List W)} {t : Tg} {vs : List Nat} {mt : PM.Env → R Bool} {mk mv : PM.Env → R Hd} (hsl : ∀ i ∈ t.slots, i ∈ vs) (h : tF X.K X.mg F Wx (dcompE mi t vs mt mk mv) σ H Q) :
    tDc (tI X.K X.mg F Wx mi) (gTg X.K t) (tT X.K X.mg F WX0 mt) (tE X.K X.mg F WX0 mk) (tE X.K X.mg F WX0 mv) vs σ H Q := by
  obtain ⟨α, T, env, c, o⟩ := tF_iff.mp h
  refine tI_bind c o fun us e1 H1 J q c1 k1 it o1 D hD => ?_
  by_cases hn : noOwn e1 vs = true
  · rw [if_pos hn] at o1
    cases hr : dcompL mt (fun e => (mk e).val) (fun e => (mv e).val) t vs us [] [] e1 with
    | no => rw [hr] at o1; exact o1.elim
    | exc => rw [hr] at o1; exact o1.elim
    | ok rs eE =>
      rw [hr] at o1
      have kD : Kp (fun _ => False) H1 (upd H1 D (.dK [])) := Kp.new _ hD
      have cD : Cfg X.K X.mg F α (D :: T) e1 σ (upd H1 D (.dK [])) := c1.apart kD hD (by rw [upd_same]; exact fun z => nomatch z)
      have cP := cD.park hn
      have hDn : D ∉ parked α vs := fun z => by
        obtain ⟨i, _, e⟩ := mem_parked.mp z
        exact cD.nt i D e List.mem_cons_self
      -- the parked ones behind D
      have cP' : Cfg X.K X.mg F (wipeA α vs) (D :: (parked α vs ++ T)) e1 σ (upd H1 D (.dK [])) := by
        have mm : ∀ a, MM F (wipeA α vs) (D :: (parked α vs ++ T)) a ↔ MM F (wipeA α vs) (parked α vs ++ D :: T) a := fun a => by
          unfold MM; simp only [List.mem_append, List.mem_cons]; grind
        refine ⟨cP.le, cP.la, cP.nd, fun i a e z => cP.nt i a e (by simp only [List.mem_append, List.mem_cons] at z ⊢; grind), fun a z => cP.nw a (z.imp id fun z => by simp only [List.mem_append, List.mem_cons] at z ⊢; grind), fun a z => cP.tr a ((mm a).mp z), cP.lm, cP.kp, fun i s e => (cP.sl i s e).mono fun x z => (mm x).mp z⟩
      refine dcomp_loop (J := J) (us := us) (rs := rs) (eE := eE) hsl (fun i hi => ?_) hD (c1.h0 hD) (fun i H2 k2 => it i H2 (k2.mono fun a z => mm_park.mpr z) |>.imp id fun f w hw => (f w hw).imp id fun g x H' y => (g x H' y).imp id fun g M' n => g M' fun y z => (n y z).imp (fun z => mm_park.mpr z) id) cP' hr fun H2 c2 k2 r2 => ?_
      · cases e : gO (wipeA α vs) i with
        | none => rfl
        | some a => exact absurd hi (gO_wipeA e).2
      · have k2' : Kp (Ow α) H1 H2 := k2.mono fun a z => ow_park.mpr (.inl z)
        have mm : ∀ a, MM F (wipeA α vs) (D :: (parked α vs ++ T)) a ↔ MM F (wipeA α vs) (parked α vs ++ D :: T) a := fun a => by
          unfold MM; simp only [List.mem_append, List.mem_cons]; grind
        have c2' : Cfg X.K X.mg F (wipeA α vs) (parked α vs ++ D :: T) (wipeE eE vs) (L2.wipe σ vs) H2 := by
          refine ⟨c2.le, c2.la, c2.nd, fun i a e z => c2.nt i a e (by simp only [List.mem_append, List.mem_cons] at z ⊢; grind), fun a z => c2.nw a (z.imp id fun z => by simp only [List.mem_append, List.mem_cons] at z ⊢; grind), fun a z => c2.tr a ((mm a).mpr z), c2.lm, c2.kp, fun i s e => (c2.sl i s e).mono fun x z => (mm x).mpr z⟩
        have c3 : Cfg X.K X.mg F α (D :: T) (wipeE eE vs) (L2.wipe σ vs) H2 := cD.unpark c2' (wipe_length _ _)
        have c4 := Cfg.back hn c1 hD k2' c3
        refine (show okF X.K X.mg F α T σ H Q (.dic rs.1 rs.2) (backE e1 eE vs) from o1) H2 D (kp_none k1 hD) c4 (kk k1 k2') ?_
        · exact OwnAt.kp (N := fun _ => False) (Kp.refl _ H2) (fun _ z => z.elim) (fun x z => .inl ((mm x).mpr (mm_park.mp z))) (fun z => z) r2
  · rw [if_neg hn] at o1; exact o1.elim
/-- name = {..} on one line, the name a local -/
theorem ps_setDc {i : Nat} {y : Str} {py : Pos} {kx vx tg iter : Expr} {ifs : List Expr} {scope : Scope} {own : List (Str × Nat)} {pos spos : Pos} {wi : TI} {g : TG} {tt : TT} {tk tv : TE} (hc : X.calm = true) (hN : X.N.Nodup) (hy : X.N[i]? = some y) (hyl : X.env.scope.names.lookup y = some .local)
    (hsw : swapsWith (.DictComp kx vx [⟨tg, iter, ifs, 0⟩] scope pos) (some (.Name y py)) spos.line X.env = pure true) (hi : PI X tg iter wi) (ok : BlkOk X.N X.env.scope scope own)
    (hg : ∀ (s : Shared) (H : Hp) (C : Addr) (cl : List (Str × Addr)) (fp : List Addr), PG (X.blk s H scope (compEnvC scope cl C X.env) fp) tg g) (ht : ∀ (s : Shared) (H : Hp) (C : Addr) (cl : List (Str × Addr)) (fp : List Addr), PTs (X.blk s H scope (compEnvC scope cl C X.env) fp) ifs tt)
    (hk : ∀ (s : Shared) (H : Hp) (C : Addr) (cl : List (Str × Addr)) (fp : List Addr), PE (X.blk s H scope (compEnvC scope cl C X.env) fp) kx tk)
    (he : ∀ (s : Shared) (H : Hp) (C : Addr) (cl : List (Str × Addr)) (fp : List Addr), PE (X.blk s H scope (compEnvC scope cl C X.env) fp) vx tv) (hs : ∀ x, foldedSetIterable iter X.env x = pure x) :
    PS X (.Assign [.Name y py] (.DictComp kx vx [⟨tg, iter, ifs, 0⟩] scope pos) spos) (tAsg (tDc wi g tt tk tv (own.map (·.2))) (gName i)) := by
  refine ⟨fun pins s σ H D I hh => ?_⟩
  rw [exec_Assign_Name_used _ _ _ _ hsw]
  refine wpAny_bind (wpAny_standAt (wpAny_bind ?_))
  show wpAny _ X.A (do let _ ← comprehension (.DictComp kx vx [⟨tg, iter, ifs, 0⟩] scope pos) scope X.env (firstIterPos [⟨tg, iter, ifs, 0⟩] pos) newDict false (eval iter X.env) (some (assign (.Name y py) X.env))) _ _ s
  have h2 : tDc wi g tt tk tv (own.map (·.2)) σ H (fun x H1 => gName i x σ H1 D.nx) := hh
  refine wpAny_bind (thn (dc_core (Qf := fun _ s' => SP X pins D .next s') hc hN I hi ok hg ht hk he hs h2 fun L A s' m H' I' q hn f => ?_) fun _ s' hq => wpAny_pure (wpAny_pure hq))
  show wpAny _ _ (assign (.Name y py) X.env (.ref L)) _ _ _
  refine wpAny_assign_Name (store_ok2 (v := V.ref L) I' hN hy (.inl hyl) rfl (fun s2 I2 ⟨a, sb, ha⟩ => ?_) (.inr hyl))
  obtain ⟨f0, f1, f2, f3, f4, f5⟩ := f
  have hAa : A ≠ a := by
    rcases ha with z | z
    · rw [z]; exact f1
    · exact fun e => f4 y a z e.symm
  refine ⟨m, hn.sameBut sb hAa, fun h3 sb3 => ?_⟩
  exact ⟨_, H', I2.turned (t' := s2.toks) (fun b o hb e => (sb3.2 b hb).trans e) f0 f1 f3 f4 f5, q⟩
end
end PM

namespace PMX
open PySem PySem.HandSPX

/-! ### the built-in bases -/
/-- a built-in exception class whose __init__ is asked through super() -/
structure XB (B i : String) : Prop where
  kx : PySem.W.KxsFacts B i
  kind : builtinKind i = some .slot
  row : Manifest.signature? i = some ⟨.positional, "*", B, .self, [⟨"args", .varPos, false⟩]⟩
  star : (B != "*") = true
  plain : plainId i = true
  entry : entryFor table i = some Builtin.«BaseException.__init__»
theorem xb_of {B n i : String} (k : PySem.W.KxsFacts B i) (F : ExcCallFacts B n i) : XB B i := ⟨k, F.initKind, F.initRow, F.noStar, F.init.plain, F.initEntry⟩
theorem kxs_KeyErr : PySem.W.KxsFacts "KeyError" "KeyError.__init__" :=
  ⟨by (show builtinType _ = _; rw [builtinType_eq_fast]; kernel_rfl), by (first | kernel_rfl | rfl)⟩
theorem xb_key : XB "KeyError" "KeyError.__init__" := ⟨kxs_KeyErr, PyProof.Rows.excClass_KeyError.initKind, PyProof.Rows.excClass_KeyError.initSig, PyProof.Rows.excClass_KeyError.notStar, PyProof.Rows.excClass_KeyError.init.plain, PyProof.Rows.excClass_KeyError.initEntry⟩

/-- a base B (the mro bmB), made by newId of newB -/
structure XBase (B newB newId i : String) (bmB : List Value) : Prop where
  nw : ∃ (iN : String) (bmN : List Value), ExcBaseFacts newB newId iN bmN
  hB : bmB.contains (.type newB) = true
  hS : bmB.contains (.type B) = true
  hA : bmB.contains (.type "AttributeError") = false
  hN : bmB.contains (.type "NameError") = false
  hO : bmB.contains (.type "object") = true
  hE : bmB.contains (.type "BaseException") = true
  pass : ∀ self : Value, refuseLoop self "__setattr__" bmB = pure ()
  ini : XB B i
abbrev tl3 : List Value := [.type "Exception", .type "BaseException", .type "object"]
theorem xbase_ValueError : XBase "ValueError" "ValueError" "ValueError.__new__" "ValueError.__init__" (.type "ValueError" :: tl3) :=
  ⟨⟨_, _, F.excBase_ValueError⟩, by decide +kernel, by decide +kernel, by decide +kernel, by decide +kernel, by decide +kernel, by decide +kernel, fun s => F.store_ValueError.passes s, xb_of PySem.W.kxs_ValueError F.excCall_ValueError⟩
theorem xbase_IndexError : XBase "IndexError" "IndexError" "IndexError.__new__" "IndexError.__init__" (.type "IndexError" :: .type "LookupError" :: tl3) :=
  ⟨⟨_, _, F.excBase_IndexError⟩, by decide +kernel, by decide +kernel, by decide +kernel, by decide +kernel, by decide +kernel, by decide +kernel, fun s => F.store_IndexError.passes s, xb_of PySem.W.kxs_IndexError F.excCall_IndexError⟩
theorem xbase_RuntimeError : XBase "RuntimeError" "RuntimeError" "RuntimeError.__new__" "RuntimeError.__init__" (.type "RuntimeError" :: tl3) :=
  ⟨⟨_, _, F.excBase_RuntimeError⟩, by decide +kernel, by decide +kernel, by decide +kernel, by decide +kernel, by decide +kernel, by decide +kernel, fun s => F.store_RuntimeError.passes s, xb_of PySem.W.kxs_RuntimeError F.excCall_RuntimeError⟩
theorem xbase_OverflowError : XBase "OverflowError" "OverflowError" "OverflowError.__new__" "OverflowError.__init__" (.type "OverflowError" :: .type "ArithmeticError" :: tl3) :=
  ⟨⟨_, _, F.excBase_OverflowError⟩, by decide +kernel, by decide +kernel, by decide +kernel, by decide +kernel, by decide +kernel, by decide +kernel, fun s => F.store_OverflowError.passes s, xb_of PySem.W.kxs_OverflowError F.excCall_OverflowError⟩
theorem xbase_ArithmeticError : XBase "ArithmeticError" "ArithmeticError" "ArithmeticError.__new__" "ArithmeticError.__init__" (.type "ArithmeticError" :: tl3) :=
  ⟨⟨_, _, F.excBase_ArithmeticError⟩, by decide +kernel, by decide +kernel, by decide +kernel, by decide +kernel, by decide +kernel, by decide +kernel, fun s => F.store_ArithmeticError.passes s, xb_of PySem.W.kxs_ArithmeticError F.excCall_ArithmeticError⟩
theorem xbase_KeyError : XBase "KeyError" "LookupError" "LookupError.__new__" "KeyError.__init__" (.type "KeyError" :: .type "LookupError" :: tl3) :=
  ⟨⟨_, _, F.excBase_LookupError⟩, by decide +kernel, by decide +kernel, by decide +kernel, by decide +kernel, by decide +kernel, by decide +kernel, fun s => by kernel_rfl, xb_key⟩

/-! ### type.__call__: the base's __new__, then the own __init__ -/
section
variable {P : Program} {w : World} {Ar : Around} {E : Value → Shared → Prop} {R : Result → Shared → Prop} {hp : Heap} {gs : Array GenState} {dr : Drawn} {tk : Nat} {os : OsState}
variable {nm qn : Str} {C N : Addr} {bs bm bmN : List Value} {hdct : Bool} {sn : List Str} {sub : List Value} {ab : Bool} {col : Option Bool} {dd : Option Addr} {k0 k1 k2 k3 k5 : Option Value} {newB newId iN : String}
theorem xnew_check {M : Model} (F : ExcBaseFacts newB newId iN bmN) (h1 : (Value.ref C :: bm).contains (.type newB) = true) {us : List Value} {Q : Unit → Shared → Prop}
    (oC : hp.get? C = some (excClassObj nm qn C N bs bm hdct sn sub ab col dd k0 k1 k2 k3 k5 newId)) (q : Q () ⟨hp, gs, dr, tk, os⟩) : wpAny M Ar (checkBuiltinCall newId ⟨.ref C :: us, []⟩) Q E ⟨hp, gs, dr, tk, os⟩ := by
  have st := F.noStar
  simp only [checkBuiltinCall, F.newKind, F.newSplit, F.newRow]
  repeat (first | refine wpAny_loadPart_at oC ?_ | (refine wpAny_isSubtype_exc oC ?_; rw [h1]) | refine wpAny_staticBase_exc oC ?_ | refine wpAny_madeBy_exc oC ?_ | simp only [bne_self_eq_false, Bool.false_eq_true, if_false] | wp_step)
  exact q
theorem xnew_own (F : ExcBaseFacts newB newId iN bmN) (h1 : (Value.ref C :: bm).contains (.type newB) = true) (h2 : (Value.ref C :: bm).contains (.type "AttributeError") = false) (h3 : (Value.ref C :: bm).contains (.type "NameError") = false) {us : List Value}
    (oC : hp.get? C = some (excClassObj nm qn C N bs bm hdct sn sub ab col dd k0 k1 k2 k3 k5 newId))
    (q : R (.ok (.ret (.ref (hp.objs.size + 1)))) ⟨(hp.push (PySem.W.kdv_tup us)).push (excO C hp.objs.size), gs, dr, tk, os⟩) (hl : us.length ≤ sizeLine) :
    codeAny (model P w) Ar (.builtin newId ⟨.ref C :: us, []⟩) R ⟨hp, gs, dr, tk, os⟩ := by
  have en := F.ends
  refine codeAny_builtinAt F.entry ?_
  unfold Builtin.«BaseException.__new__»
  refine wpAt_bind ?_
  show wpAt _ _ _ (stack >>= _) _ _ _
  refine wpAt_bind (wpAt_stack fun p below => wpAt_of_wpAny ?_)
  wp_walk
  refine wpAt_of_wpAny ?_
  rw [F.owner]
  repeat (first | with_reducible refine wpAny_madeHere_exc F.canon oC ?_ | with_reducible refine wpAny_loadPart_at oC ?_ | (with_reducible refine wpAny_isSubtype_exc oC ?_; first | rw [h1] | rw [h2] | rw [h3]) | wp_step)
  show R _ _
  rw [Heap.size_push]
  exact q
theorem xtype_call (F : ExcBaseFacts newB newId iN bmN) (h1 : (Value.ref C :: bm).contains (.type newB) = true) (h2 : (Value.ref C :: bm).contains (.type "AttributeError") = false) (h3 : (Value.ref C :: bm).contains (.type "NameError") = false) {us : List Value} {fI : Addr} {Q : Fin → Shared → Prop}
    (oC : hp.get? C = some (excClassObj nm qn C N bs bm hdct sn sub ab col dd k0 k1 k2 k3 k5 newId))
    (hi : PySem.W.Looks (model P w) hp (typeLookup (.ref C) "__init__") (some (.ref fI))) (hb : ∀ self, PySem.W.Looks (model P w) hp (bindSpecial (.ref fI) self) (.ref fI, [self])) (hl : us.length ≤ sizeLine)
    (q : codeAny (model P w) Ar (.call (.ref fI) ⟨.ref (hp.objs.size + 1) :: us, []⟩)
      (fun r s' => match r with | .ok (.ret v) => v = .none ∧ Q (.done (.ret (.ref (hp.objs.size + 1)))) s' | .ok _ => False | .error e => E e s')
      ⟨(hp.push (PySem.W.kdv_tup us)).push (excO C hp.objs.size), gs, dr, tk, os⟩) :
    wpAny (model P w) Ar (Builtin.«type.__call__» ⟨.ref C :: us, []⟩) Q E ⟨hp, gs, dr, tk, os⟩ := by
  repeat (first | with_reducible refine wpAny_loadPart_at oC ?_ | with_reducible refine wpAny_madeBy_exc oC ?_ | wp_step)
  refine codeAny_call_builtin_code (Code.quiet_builtin _ F.quiet) (xnew_check F h1 oC ?_)
  refine xnew_own F h1 h2 h3 oC ?_ hl
  show wpAny _ _ _ _ _ _
  have kp : ∀ b o, hp.get? b = some o → ((hp.push (PySem.W.kdv_tup us)).push (excO C hp.objs.size)).get? b = some o := fun b o e => Heap.get?_push_of_some _ (Heap.get?_push_of_some _ e)
  have oC1 := kp _ _ oC
  have og : ((hp.push (PySem.W.kdv_tup us)).push (excO C hp.objs.size)).get? (hp.objs.size + 1) = some (excO C hp.objs.size) := by heap_get
  have hcC : (Value.ref C :: bm).contains (.ref C) = true := by simp
  have i1 := hi.keeps kp
  have b1 := (hb (.ref (hp.objs.size + 1))).keeps kp
  unfold isInstance
  repeat (first | with_reducible refine wpAny_loadPart_at og ?_ | (with_reducible refine wpAny_isSubtype_exc oC1 ?_; rw [hcC]) | wp_step)
  show wpAny _ _ (typeLookup (.ref C) _) _ _ _
  refine i1.at ?_
  refine wpAny_holding (wpAny_bind (b1.at ?_))
  refine wpAny_bind (wpAny_call (codeAny_mono q fun r s' z => ?_))
  rcases r with e | (v | _ | _ | _) <;> first | exact z | exact z.elim | skip
  obtain ⟨rfl, z⟩ := z
  first
    | exact wpAny_pure (wpAny_pure z)
    | (wp_walk; exact z)
theorem xcall_own (F : ExcBaseFacts newB newId iN bmN) (h1 : (Value.ref C :: bm).contains (.type newB) = true) (h2 : (Value.ref C :: bm).contains (.type "AttributeError") = false) (h3 : (Value.ref C :: bm).contains (.type "NameError") = false) {us : List Value} {fI : Addr}
    (oC : hp.get? C = some (excClassObj nm qn C N bs bm hdct sn sub ab col dd k0 k1 k2 k3 k5 newId))
    (hi : PySem.W.Looks (model P w) hp (typeLookup (.ref C) "__init__") (some (.ref fI))) (hb : ∀ self, PySem.W.Looks (model P w) hp (bindSpecial (.ref fI) self) (.ref fI, [self])) (hl : us.length ≤ sizeLine)
    (q : codeAny (model P w) (Ar.under (.builtin "type.__call__" ⟨.ref C :: us, []⟩)) (.call (.ref fI) ⟨.ref (hp.objs.size + 1) :: us, []⟩) (PySem.W.InitBack (hp.objs.size + 1) R)
      ⟨(hp.push (PySem.W.kdv_tup us)).push (excO C hp.objs.size), gs, dr, tk, os⟩) :
    codeAny (model P w) Ar (.call (.ref C) ⟨us, []⟩) R ⟨hp, gs, dr, tk, os⟩ := by
  have f1 := tc_lookup
  have f2 := tc_bind (.ref C)
  have hTy : (⟨hp, gs, dr, tk, os⟩ : Shared).TypeIs (.ref C) "type" := ⟨_, oC, rfl⟩
  refine codeAny_of_tree ?_
  show wpAny _ _ (callAny (.ref C) _) _ _ _
  repeat (any_goals (first | assumption | with_reducible refine wpAny_loadPart_at oC ?_ | wp_step))
  refine ⟨rfl, ?_⟩
  refine codeAny_call_builtin_at (Code.quiet_builtin _ (by decide +kernel)) entry_typeCall (wpAny_check_type_call_sub oC (xtype_call F h1 h2 h3 oC hi hb hl ?_))
  refine codeAny_mono q fun r s' z => ?_
  rcases r with e | (v | _ | _ | _) <;> first | exact z | exact z.elim | skip
end

/-! ### self.f = v where the exception has no dict yet -/
section
open Builtin Builtin.ObjectAttr
variable {P : Program} {w : World} {Ar : Around} {R : Result → Shared → Prop} {hp : Heap} {gs : Array GenState} {dr : Drawn} {tk : Nat} {os : OsState}
theorem xset {K : PySem.W.Frag} {f : Str} {t1 : Tok} {v : Value} {x C : Addr} {fv : Array Value} {cd : ClassData} {bm bmB : List Value} (pass : ∀ self : Value, refuseLoop self "__setattr__" bmB = pure ()) (hO : bmB.contains (.type "object") = true)
    (X : K.In hp) (hx : hp.get? x = some { cls := .ref C, data := .fields fv }) (hcd : PySem.W.clsIn K C = some cd) (em : cd.mro = .ref C :: bm) (hm : PySem.W.excTail bmB bm = true) (hh : cd.hasDict = true) (ha : PySem.W.findIn K (.ref C) f = some none)
    (q : ∀ h' tk' dx, (∀ b o, b ≠ x → hp.get? b = some o → h'.get? b = some o) → hp.objs.size ≤ dx → dx ≠ x → h'.get? x = some { cls := .ref C, dict := some dx, data := .fields fv } →
      h'.Ns1 dx (fun y => if y = f then some v else none) → R (.ok (.ret .none)) ⟨h', gs, dr, tk', os⟩) :
    codeAny (model P w) Ar (.call (.builtin "object.__setattr__") ⟨[.ref x, .str f t1, v], []⟩) R ⟨hp, gs, dr, tk, os⟩ := by
  have I : PySem.W.InstAt hp x { cls := .ref C, data := .fields fv } C none := ⟨hx, rfl, rfl, trivial⟩
  have SF := F.store_object
  have ne : cd.mro.isEmpty = false := by rw [em]; rfl
  have hob : cd.mro.contains (.type "object") = true := by rw [em, List.contains_cons, PySem.W.excTail_contains "object" _ hm, hO, Bool.or_true]
  have hxs : x ≠ hp.objs.size := Nat.ne_of_lt (Heap.lt_size hx)
  have sub : PySem.W.Looks (model P w) hp (isInstance (.ref x) (.type "object")) true := I.type.andThen (PySem.W.looks_mroIn X (by unfold PySem.W.mroIn; rw [hcd, Option.bind_some, if_neg (by rw [ne]; decide), hob]))
  refine codeAny_call_builtin SF.slot.plain SF.entry (@PySem.W.check_slot (model P w) _ _ ⟨hp, gs, dr, tk, os⟩ "object.__setattr__" "object" "__setattr__" (.ref x) [.str f t1, v] [] _ SF.kind SF.split sub (SF.args (.ref x) (.str f t1) v) ?_)
  have hmr : PySem.W.Looks (model P w) hp (mroOf (.ref C)) cd.mro := (PySem.W.looks_clsIn X hcd).andThen .now
  have L3 : PySem.W.Looks (model P w) hp (storeTaker? none) none := .now
  have hcls : PySem.W.Looks (model P w) hp (classData C) cd := PySem.W.looks_clsIn X hcd
  have ps : refuseLoop (.ref x) "__setattr__" cd.mro = pure () := by
    rw [em, refuseLoop_ref]
    exact PySem.W.excTail_pass _ (pass _) _ hm
  rw [PySem.W.osa_eq, refuse_eq]
  refine wpAny_bind (wpAny_bind (I.type.at (wpAny_bind (hmr.at ?_))))
  rw [ps]
  refine wpAny_pure (wpAny_bind (I.type.at (wpAny_bind ((PySem.W.looks_findIn X ha).at (wpAny_bind (L3.at ?_))))))
  show wpAny _ _ (storeInOwnDict (.ref x) (.ref C) (.str f t1) f v false) _ _ _
  obtain ⟨nm, bs, mro, ns, qn, hd, sn, sb, ab, col, del⟩ := cd
  dsimp only at hh
  subst hh
  unfold storeInOwnDict ownDictForStores
  repeat (first | with_reducible refine store_in_new ?_ ?_ | with_reducible refine wpAny_loadPart_at hx ?_ | with_reducible refine hcls.at ?_ | wp_step)
  · exact ⟨_, #[], _, (Heap.get?_update_ne _ _ _ _ hxs.symm).trans (Heap.get?_push_at rfl rfl), rfl, fun e he => absurd he (by simp), fun _ => rfl⟩
  · intro h' tk' hn' hs
    have hx1 : (hp.push { cls := .type "dict", data := .dict #[] }).get? x = some { cls := .ref C, data := .fields fv } := Heap.get?_push_of_some _ hx
    refine q h' tk' hp.objs.size (fun b o hb ho => ?_) (Nat.le_refl _) hxs.symm ?_ hn'
    · exact (hs.2 b (Nat.ne_of_lt (Heap.lt_size ho))).trans ((Heap.get?_update_ne _ _ _ _ hb).trans (Heap.get?_push_of_some _ ho))
    · exact (hs.2 x hxs).trans (Heap.get?_update_self _ hx1 rfl)
end

/-! ### the text of __init__ -/
def iA (f : Str) (p1 p2 : Pos) : Arguments := { posonlyargs := [], args := [{ arg := "self", annotation := none, pos := p1 }, { arg := f, annotation := none, pos := p2 }], vararg := none, kwonlyargs := [], kw_defaults := [], kwarg := none, defaults := [] }
def iB (f tx : Str) (j : Nat) (q1 q2 q3 q4 q5 q6 q7 q8 q9 q10 : Pos) : List Stmt :=
  [.Expr (.Call (.Attribute (.Call (.Name "super" q1) [] [] q2) "__init__" q3) [.Constant (.str tx) j q4] [] q5) q6, .Assign [.Attribute (.Name "self" q7) f q8] (.Name f q9) q10]
def iS (f : Str) : Scope := { kind := .function, names := [(PySem.Str.ofString "self", .local), (f, .local), (PySem.Str.ofString "__class__", .free), (PySem.Str.ofString "super", .globalImplicit)], isGenerator := false, isCoroutine := false, more := [] }
/-- what the written part says of the class at C -/
structure XC (K : PySem.W.Frag) (mg : Str → Option Value) (P : Program) (C fI : Addr) (f : Str) (B newB newId i : String) (bmB : List Value) : Prop where
  base : XBase B newB newId i bmB
  q : PySem.W.excInitIn K C bmB newId = true
  hd : PySem.W.hasDictIn K C = true
  sa : PySem.W.findIn K (.ref C) "__setattr__" = some (some (.builtin "object.__setattr__"))
  no : PySem.W.findIn K (.ref C) f = some none
  sup : PySem.W.ks_superIn K C C "__init__" = some (some (.builtin i))
  tp : PySem.W.nsIn K cStatics "thirdparty.any" = some none
  exB : PySem.W.subIn K (.ref C) (.type B) = some true
  self : PySem.W.mroIn K C (.ref C) = some true
  mgS : mg "super" = none
  top : (P.main.scope.names.lookup ("super" : Str)).isSome = false
  iC : PySem.W.findIn K (.ref C) "__init__" = some (some (.ref fI))
  tI : PySem.W.typeIn K (.ref fI) = some (.type "function")
  exC : PySem.W.subIn K (.ref C) (.type "BaseException") = some true
  tyC : PySem.W.typeIn K (.ref C) = some (.type "type")
  kC : PySem.W.keepIn K (.ref C) = true
  fn : ∃ (oc ccl cl dV kV doc pm ct : Value) (od an cdd cld : Option Addr) (osl ccs csl : Array (Option Value)) (qual tx file : Str) (j : Nat) (cda cc : Addr) (vs : Array Value) (tf : Tok) (p1 p2 q1 q2 q3 q4 q5 q6 q7 q8 q9 q10 : Pos),
    K.lookup fI = some ⟨oc, od, .func (PySem.W.ksFn "__init__" qual (iA f p1 p2) (iB f tx j q1 q2 q3 q4 q5 q6 q7 q8 q9 q10) (iS f) .none .none doc pm an (.ref cda) ct cc), osl⟩ ∧ PySem.W.codeIn K (.ref cda) qual = true ∧
      K.lookup cda = some ⟨ccl, cdd, .fields vs, ccs⟩ ∧ vs[2]? = some (.str file tf) ∧ ((P.main.file : Str) == file) = true ∧ K.lookup cc = some ⟨cl, cld, .cell (some (.ref C)), csl⟩ ∧
      (∀ a b : Value, bindArgs (PySem.W.ksFn "__init__" qual (iA f p1 p2) (iB f tx j q1 q2 q3 q4 q5 q6 q7 q8 q9 q10) (iS f) .none .none doc pm an (.ref cda) ct cc) ⟨[a, b], []⟩ = pure [(("self" : Str), a), (f, b)]) ∧
      ∀ env : Env, ∃ pl : Sem Bool, eval (.Call (.Attribute (.Call (.Name "super" q1) [] [] q2) "__init__" q3) [.Constant (.str tx) j q4] [] q5) env = (do
        let ov ← attributeBase (.Call (.Name "super" q1) [] [] q2) "__init__" env (eval (.Call (.Name "super" q1) [] [] q2) env)
        standAt q3.atName
        let (fx, first) ← holding [ov] (getMethod ov "__init__" pl)
        callWith q5 fx first (backTo q5 (starEach [.Constant (.str tx) j q4] env)) [])
/-- such a name -/
structure XName (f : Str) : Prop where
  n1 : f ≠ "self"
  n2 : f ≠ "super"
  n3 : f ≠ "__class__"
  n4 : (f == ("__debug__" : Str)) = false

/-- what __init__ leaves of a fresh exception at x -/
structure XEnd (h h' : Heap) (x C dx t1 : Addr) (f : Str) (v : Value) : Prop where
  keep : ∀ b o, b ≠ x → h.get? b = some o → h'.get? b = some o
  obj : h'.get? x = some { cls := .ref C, dict := some dx, data := .fields #[.ref t1, .none, .none, .none, .bool false, .none] }
  dbig : h.objs.size ≤ dx
  dne : dx ≠ x
  ns : h'.Ns1 dx (fun y => if y = f then some v else none)
section
variable {P : Program} {w : World} {Ar : Around} {R : Result → Shared → Prop} {E : Value → Shared → Prop} {s : Shared} {K : PySem.W.Frag} {mg : Str → Option Value} {C fI : Addr} {f : Str} {B newB newId i : String} {bmB : List Value}
theorem xb_check {M : Model} {h : Heap} {gs : Array GenState} {dr : Drawn} {tk : Nat} {os : OsState} (F : XB B i) {nm qn : Str} {C N e : Addr} {oe : Obj} {bs bm : List Value} {hdct : Bool} {sn : List Str} {sub : List Value} {ab : Bool} {col : Option Bool} {dd : Option Addr} {k0 k1 k2 k3 k5 : Option Value} {us : List Value} {Q : Unit → Shared → Prop}
    (oC : h.get? C = some (excClassObj nm qn C N bs bm hdct sn sub ab col dd k0 k1 k2 k3 k5 newId)) (he : h.get? e = some oe) (hcls : oe.cls = .ref C) (q : Q () ⟨h, gs, dr, tk, os⟩) : wpAny M Ar (checkBoundCall i ⟨.ref e :: us, []⟩) Q E ⟨h, gs, dr, tk, os⟩ := by
  have hs := F.star
  simp only [checkBoundCall, F.kind, F.row]
  repeat (first | (with_reducible refine wpAny_loadPart_at he ?_; rw [hcls]) | with_reducible refine wpAny_loadPart_at oC ?_ | wp_step)
  refine wpAny_onRaise ?_
  rw [show ∀ (a b : String) (n : Nat), Bind.check ⟨.positional, "*", B, .self, [⟨"args", .varPos, false⟩]⟩ a b n (List.map (fun x => x.fst) ({ pos := Value.ref e :: us } : Args).kw) = pure () from
    fun a b n => check_star_args _ _ _ _ _ _]
  exact wpAny_pure q
/-- the bound __init__ of the base, called -/
theorem xb_call {h : Heap} {gs : Array GenState} {dr : Drawn} {tk : Nat} {os : OsState} (F : XB B i) {nm qn : Str} {C N x u t0 : Addr} {bs bm : List Value} {hdct : Bool} {sn : List Str} {sub : List Value} {ab : Bool} {col : Option Bool} {dd : Option Addr} {k0 k1 k2 k3 k5 : Option Value} {us : List Value} {Q : Value → Shared → Prop}
    (oC : h.get? C = some (excClassObj nm qn C N bs bm hdct sn sub ab col dd k0 k1 k2 k3 k5 newId)) (hx : h.get? x = some (excO C t0)) (hu : h.get? u = some (PySem.W.kxs_mw i x)) (hl : us.length ≤ sizeLine)
    (q : ∀ h', (∀ b o, b ≠ x → h.get? b = some o → h'.get? b = some o) → h'.get? x = some (excO C h.objs.size) → Q .none ⟨h', gs, dr, tk, os⟩) : wpAny (model P w) Ar (call (.ref u) us) Q E ⟨h, gs, dr, tk, os⟩ := by
  refine wpAny_call (codeAny_of_tree ?_)
  show wpAny _ Ar.in1 (callAny (.ref u) ⟨us, []⟩) _ _ _
  simp only [callAny]
  refine wpAny_bind (wpAny_load hu ?_)
  simp only [PySem.W.kxs_mw, show (Value.type "method-wrapper" == Value.type "method" || Value.type "method-wrapper" == Value.type "builtin_function_or_method" || Value.type "method-wrapper" == Value.type "method-wrapper") = true by decide, if_true]
  refine PySem.W.KFB.if_so (by decide) ?_
  refine wpAny_bind (xb_check F oC hx rfl ?_)
  refine wpAny_bind (wpAny_pure (wpAny_pure ?_))
  refine ⟨plainId_quiet F.plain _, codeAny_builtin F.entry ?_⟩
  exact PySem.W.exc_init_tree (cls := .ref C) (t0 := t0) (dv := none) (c2 := .none) (c3 := .none) (b4 := .bool false) hx hl fun h' k e _ => q h' k e
theorem iS_self : (iS f).names.lookup ("self" : Str) = some .local := rfl
theorem iS_f (nf : XName f) : (iS f).names.lookup f = some .local := by
  have e1 : (f == PySem.Str.ofString "self") = false := by simpa using nf.n1
  unfold iS
  rw [List.lookup_cons, e1]
  simp [List.lookup]
theorem iS_cls (nf : XName f) : (iS f).names.lookup ("__class__" : Str) = some .free := by
  have e1 : (("__class__" : Str) == f) = false := by simpa using nf.n3.symm
  have e0 : (("__class__" : Str) == PySem.Str.ofString "self") = false := by decide
  unfold iS
  rw [List.lookup_cons, e0]
  show List.lookup ("__class__" : Str) ((f, NameKind.local) :: _) = _
  rw [List.lookup_cons, e1] <;> rfl
theorem iS_super (nf : XName f) : (iS f).names.lookup ("super" : Str) = some .globalImplicit := by
  have e1 : (("super" : Str) == f) = false := by simpa using nf.n2.symm
  have e0 : (("super" : Str) == PySem.Str.ofString "self") = false := by decide
  unfold iS
  rw [List.lookup_cons, e0]
  show List.lookup ("super" : Str) ((f, NameKind.local) :: _) = _
  rw [List.lookup_cons, e1] <;> rfl
theorem xinit (T : XC K mg P C fI f B newB newId i bmB) (nf : XName f) {x t0 : Addr} {v : Value} (X : K.In s.heap) (hlim : s.heap.NoLimit) (hg : s.heap.Ns mainGlobals mg) (hb : ∃ mb, s.heap.Ns builtinsNs mb ∧ ∀ y : Str, y ≠ "__name__" → mb y = bootBuiltins y)
    (hx : s.heap.get? x = some (excO C t0)) (hnx : K.lookup x = none) (hroom : Ar.depth < recursionLimit) (hq : ∀ h' tk dx t1, XEnd s.heap h' x C dx t1 f v → R (.ok (.ret .none)) { s with heap := h', toks := tk }) :
    codeAny (model P w) Ar (.call (.ref fI) ⟨[.ref x, v], []⟩) R s := by
  obtain ⟨oc, ccl, cl, dV, kV, doc, pm, ct, od, an, cdd, cld, osl, ccs, csl, qual, tx, file, j, cda, cc, vs, tf, p1, p2, q1, q2, q3, q4, q5, q6, q7, q8, q9, q10, ho, hcd, hca, hvs, hfile, hcc, hbd, hev⟩ := T.fn
  obtain ⟨mb, hb1, hb2⟩ := hb
  have n1 : (("self" : Str) == f) = false := by simpa using nf.n1.symm
  have hboot : bootBuiltins "super" = some (.type "super") := by first | boot_by_name | rfl | kernel_rfl
  refine ks_codeAny_call_defAt (fd := PySem.W.ksFn "__init__" qual (iA f p1 p2) (iB f tx j q1 q2 q3 q4 q5 q6 q7 q8 q9 q10) (iS f) .none .none doc pm an (.ref cda) ct cc) (body := iB f tx j q1 q2 q3 q4 q5 q6 q7 q8 q9 q10) (binds := [("self", .ref x), (f, v)])
    hroom (X _ _ ho) rfl hlim (PySem.W.codeRec_of X hcd) rfl (BindsTo.of_eq (hbd _ _)) ?cell ?loc (fun h1 hns hk => ?_) rfl rfl rfl
  case cell =>
    intro y hy
    have hy' : y ∈ [(PySem.Str.ofString "self", NameKind.local), (f, NameKind.local), (PySem.Str.ofString "__class__", NameKind.free), (PySem.Str.ofString "super", NameKind.globalImplicit)] := hy
    simp only [List.mem_cons, List.not_mem_nil, or_false] at hy'
    rcases hy' with rfl | rfl | rfl | rfl <;> (intro z; cases z)
  case loc =>
    intro y hy
    simp only [List.mem_cons, List.not_mem_nil, or_false] at hy
    rcases hy with rfl | rfl
    · exact iS_self
    · exact iS_f nf
  have X1 := X.keeps hk
  have hx1 := hk _ _ hx
  have vself : [(f, v), (("self" : Str), Value.ref x)].lookup ("self" : Str) = some (Value.ref x) := by simp [List.lookup, n1]
  have vf : [(f, v), (("self" : Str), Value.ref x)].lookup f = some v := by simp [List.lookup]
  -- the class
  obtain ⟨cd, hcl⟩ : ∃ cd, PySem.W.clsIn K C = some cd := by
    cases z : PySem.W.clsIn K C with
    | none =>
      have q := T.sup
      unfold PySem.W.ks_superIn at q
      rw [z] at q
      cases q
    | some cd => exact ⟨cd, rfl⟩
  obtain ⟨oD, hD1, hD2⟩ : ∃ oD, h1.get? C = some oD ∧ oD.data = .cls cd := by
    unfold PySem.W.clsIn at hcl
    split at hcl
    · rename_i _ _ _ _ lo
      cases hcl
      exact ⟨_, X1 _ _ lo, rfl⟩
    · cases hcl
  obtain ⟨nm, N', qn, bs, bm, hdct, sn, sub, ab, col, dd, k0, k1, k2, k3, k5, hC, hT⟩ := PySem.W.excInit_of X1 T.q
  have I1 : PySem.W.InstAt h1 x (excO C t0) C none := ⟨hx1, rfl, rfl, trivial⟩
  have xC : x ≠ C := PySem.W.ks_ne X1 I1 hcl
  have hal := T.sup
  unfold PySem.W.ks_superIn at hal
  rw [hcl] at hal
  -- super().__init__("..")
  obtain ⟨pl, hev⟩ := hev (callEnv (PySem.W.ksFn "__init__" qual (iA f p1 p2) (iB f tx j q1 q2 q3 q4 q5 q6 q7 q8 q9 q10) (iS f) .none .none doc pm an (.ref cda) ct cc) s.heap.objs.size fI)
  refine ks_wpAt_execs_cons (ks_wpAt_Expr_any (ks_wpAt_MethodCall (ks_wpAt_super_base (cc := cda) (iS_super nf) (iS_cls nf) rfl rfl (X1 _ _ ho) rfl rfl rfl (X1 _ _ hca) rfl hvs hfile T.top ?_) hev))
  refine PySem.W.ks_loadName_global rfl (iS_super nf) (Calls.loadGlobal_builtin (hg.keeps hk) T.mgS (hb1.keeps hk) ((hb2 _ (by decide)).trans hboot) ⟨rfl, ?_⟩)
  refine wpAny_loadName_free rfl (iS_cls nf) rfl ⟨_, X1 _ _ hcc, rfl⟩ ?_
  refine wpAny_loadName_local rfl iS_self hns vself ?_
  refine ks_wpAny_isType_cls hD1 hD2 ⟨rfl, ?_⟩
  refine ks_wpAny_call_super hD1 hD2 hx1 rfl (fun c e => by cases e) (PySem.W.looks_mroIn X1 T.self) (fun h2 e2 k2 => ?_)
  have X2 := X1.keeps k2
  have I2 : PySem.W.InstAt h2 x (excO C t0) C none := ⟨k2 _ _ hx1, rfl, rfl, trivial⟩
  refine PySem.W.kxs_getMethod T.base.ini.kx e2 (PySem.W.looks_opaque X2 T.tp) (l₀ := cd.mro) (fun A' Q' E' s' k' q' => wpAny_bind ((PySem.W.looks_clsIn X2 hcl) A' _ E' s' k' (wpAny_pure q'))) rfl X2 hal (I2.type.andThen (PySem.W.looks_subIn X2 T.exB)) xC rfl ?_
  have hu : (h2.push (PySem.W.kxs_mw i x)).get? h2.objs.size = some (PySem.W.kxs_mw i x) := Heap.get?_push_at rfl rfl
  have k3 : ∀ b o, h2.get? b = some o → (h2.push (PySem.W.kxs_mw i x)).get? b = some o := fun b o e => Heap.get?_push_of_some _ e
  refine PySem.W.kxs_callWith (i := i) (x := x) rfl (Calls.evalArgs_plain (Calls.spliced_cons ?_))
  refine Calls.Constant_str (k := j) (pos := q4) (Calls.spliced_nil ⟨hu, ?_⟩)
  refine xb_call T.base.ini (k3 _ _ (k2 _ _ hC)) (k3 _ _ (k2 _ _ hx1)) hu (by show 1 ≤ sizeLine; rw [sizeLine_eq]; omega) (fun h4 k4 e4 => ?_)
  -- self.f = f
  have nL : s.heap.objs.size ≠ x := Nat.ne_of_gt (Heap.lt_size hx)
  have hn4 := hns.at fun o e => k4 _ _ nL (k3 _ _ (k2 _ _ e))
  have kk : ∀ b o, b ≠ x → s.heap.get? b = some o → h4.get? b = some o := fun b o hb e => k4 b o hb (k3 _ _ (k2 _ _ (hk _ _ e)))
  have X4 : K.In h4 := fun a o e => kk a o (fun z => by rw [z, hnx] at e; cases e) (X a o e)
  show _root_.PySem.wpAt _ _ _ (execs _ _) _ _ _
  refine wpAt_of_wpAny (wpAny_execs_cons (plainObj_wpAny_Assign_Attribute ?_ ?hs))
  case hs => rfl
  refine wpAny_Name (wpAny_loadName_local rfl (iS_f nf) hn4 vf ?_) nf.n4
  refine wpAny_Name (wpAny_loadName_local rfl iS_self hn4 vself ?_) (by decide)
  have hq4 : ∃ bm', cd.mro = .ref C :: bm' ∧ PySem.W.excTail bmB bm' = true := by
    have q := T.q
    unfold PySem.W.excInitIn at q
    unfold PySem.W.clsIn at hcl
    split at q
    · rename_i dd' cd' sl' lo
      rw [lo] at hcl
      cases hcl
      split at q
      · rename_i C' bm' _ _ _ _ _ _ hm _
        simp only [Bool.and_eq_true, beq_iff_eq, Bool.not_eq_true'] at q
        obtain ⟨⟨⟨rfl, _⟩, _⟩, ht⟩ := q
        exact ⟨bm', hm, ht⟩
      · cases q
    · cases q
  obtain ⟨bm', em, ht⟩ := hq4
  have hh : cd.hasDict = true := by
    have q := T.hd
    unfold PySem.W.hasDictIn at q
    rw [hcl] at q
    exact q
  refine PySem.W.set_plain X4 (ox := excO C _) (od := none) ⟨e4, rfl, rfl, trivial⟩ T.sa ?_
  refine xset T.base.pass T.base.hO X4 e4 hcl em ht hh T.no (fun h5 tk5 dx k5 dn dne e5 ns5 => ?_)
  show wpAny _ _ (execs _ _) _ _ _
  refine wpAny_execs_nil (hq h5 tk5 dx _ ⟨fun b o hb e => k5 b o hb (kk b o hb e), e5, ?_, dne, ns5⟩)
  exact Nat.le_trans (Nat.le_of_lt hn4.lt) dn
/-- a made exception -/
structure XMade (h h' : Heap) (e C d : Addr) (f : Str) (v : Value) : Prop where
  keep : ∀ b o, h.get? b = some o → h'.get? b = some o
  new : h.objs.size ≤ e
  obj : ∃ t1 : Addr, h'.get? e = some { cls := .ref C, dict := some d, data := .fields #[.ref t1, .none, .none, .none, .bool false, .none] }
  dbig : h.objs.size ≤ d
  dne : d ≠ e
  ns : h'.Ns1 d (fun y => if y = f then some v else none)
theorem xmade (T : XC K mg P C fI f B newB newId i bmB) (nf : XName f) {v : Value} (X : K.In s.heap) (hlim : s.heap.NoLimit) (hg : s.heap.Ns mainGlobals mg) (hb : ∃ mb, s.heap.Ns builtinsNs mb ∧ ∀ y : Str, y ≠ "__name__" → mb y = bootBuiltins y)
    (hroom : Ar.depth + 1 < recursionLimit) (hq : ∀ h' tk e d, XMade s.heap h' e C d f v → R (.ok (.ret (.ref e))) { s with heap := h', toks := tk }) :
    codeAny (model P w) Ar (.call (.ref C) ⟨[v], []⟩) R s := by
  obtain ⟨nm, N', qn, bs, bm, hdct, sn, sub, ab, col, dd, k0, k1, k2, k3, k5, hC, hT⟩ := PySem.W.excInit_of X T.q
  obtain ⟨iN, bmN, FN⟩ := T.base.nw
  obtain ⟨hp, gs, dr, tk, os⟩ := s
  have kp : ∀ b o, hp.get? b = some o → ((hp.push (PySem.W.kdv_tup [v])).push (excO C hp.objs.size)).get? b = some o := fun b o e => Heap.get?_push_of_some _ (Heap.get?_push_of_some _ e)
  have og : ((hp.push (PySem.W.kdv_tup [v])).push (excO C hp.objs.size)).get? (hp.objs.size + 1) = some (excO C hp.objs.size) := by heap_get
  have hnx : K.lookup (hp.objs.size + 1) = none := by
    cases e : K.lookup (hp.objs.size + 1) with
    | none => rfl
    | some o =>
      have z : hp.get? (hp.objs.size + 1) = some o := X _ _ e
      exact absurd (Nat.lt_of_succ_lt (Heap.lt_size z)) (Nat.lt_irrefl _)
  obtain ⟨mb, hb1, hb2⟩ := hb
  have l1 : [v].length ≤ sizeLine := by
    show 1 ≤ sizeLine
    rw [sizeLine_eq]; omega
  refine xcall_own FN (by rw [List.contains_cons, hT, T.base.hB, Bool.or_true]) (by rw [List.contains_cons, hT, T.base.hA]; rfl) (by rw [List.contains_cons, hT, T.base.hN]; rfl) hC (PySem.W.looks_findIn X T.iC) (fun self => PySem.W.bind_fn X self T.tI) l1 ?_
  refine xinit (s := ⟨(hp.push (PySem.W.kdv_tup [v])).push (excO C hp.objs.size), gs, dr, tk, os⟩) T nf (X.keeps kp) (hlim.keeps kp) (hg.keeps kp) ⟨mb, hb1.keeps kp, hb2⟩ og hnx ?_ fun h' tk' dx t1 z => ?_
  · show Ar.depth + 1 < recursionLimit
    exact hroom
  · have old : ∀ b o, hp.get? b = some o → h'.get? b = some o := fun b o e => z.keep b o (Nat.ne_of_lt (Nat.lt_succ_of_lt (Heap.lt_size e))) (kp b o e)
    have big : hp.objs.size ≤ dx := by
      have q := z.dbig
      have q2 : hp.objs.size + 1 + 1 ≤ dx := by
        first
          | (simpa only [Heap.size_push] using q)
          | exact q
      omega
    exact ⟨rfl, hq h' tk' (hp.objs.size + 1) dx ⟨old, Nat.le_succ _, ⟨t1, z.obj⟩, big, z.dne, z.ns⟩⟩
end
end PMX

namespace PM
open PySem PySem.Spec PyProof.Rows L2
theorem relO_one {f : Str} {v : V} {v' : Value} (r : RelV v v') (y : Str) : RelO (List.lookup y [(f, v)]) (if y = f then some v' else none) := by
  by_cases h : y = f
  · subst h
    rw [if_pos rfl, show List.lookup y [(y, v)] = some v by simp [List.lookup]]
    exact r
  · rw [if_neg h, show List.lookup y [(f, v)] = none by rw [List.lookup_cons, beq_eq_false_iff_ne.mpr h]; rfl]
    trivial
section
variable {X : Cx} {C fI : Addr} {f : Str} {B newB newId i : String} {bmB : List Value} {hot : Bool} {k : Nat} {a : Expr} {p pos : Pos} {x : Str}
/-- the call C(e), what it leaves -/
theorem run_xmade {pins : List (Addr × Obj)} {σ : L2.St} {H1 : Hp} {s1 : Shared} {u : Value} {Q : Value → Shared → Prop} {E : Value → Shared → Prop} (T : PMX.XC X.K X.mg X.prog C fI f B newB newId i bmB) (nf : PMX.XName f) (hr : PMX.RoomG hot k X.A) (I1 : Inv X pins σ H1 s1)
    (q : ∀ h' tk e d, PMX.XMade s1.heap h' e C d f u → Q (.ref e) { s1 with heap := h', toks := tk }) : wpAny (model X.prog X.w) X.A (call (.ref C) [u]) Q E s1 := by
  refine wpAny_call (PMX.xmade T nf I1.kIn I1.nolimit (I1.mod.glob.keeps I1.bk) ?_ ?_ fun h' tk e d M => q h' tk e d M)
  · obtain ⟨mb, h1, h2⟩ := I1.mod.blt
    exact ⟨mb, h1.keeps I1.bk, h2⟩
  · have := hr.dp
    show X.A.in1.depth + 1 < recursionLimit
    show X.A.depth + 1 < recursionLimit
    omega
/-- C(e), a value -/
theorem pe_exv {ta : TE} (T : PMX.XC X.K X.mg X.prog C fI f B newB newId i bmB) (nf : PMX.XName f) (hr : PMX.RoomG hot k X.A) (gC : X.mg x = some (.ref C)) (ha : PE X a ta) (hg : Gl X x) (hdb : (x == ("__debug__" : Str)) = false) (hs : nS a = true) :
    PE X (.Call (.Name x p) [a] [] pos) (fun σ H Q => ta σ H fun y H1 => ∀ e d, H1 e = none → H1 d = none → d ≠ e → Q (.ref e) (upd (upd H1 d (.xd [(f, y)])) e (ExV C (some d) e))) := by
  refine ⟨fun pins s σ H Q I h => ?_⟩
  refine wpAny_Call_Name_kw (ld_glob I hg gC ?_ hdb)
  refine PySem.W.callWith_K (h₀ := X.base) I.ok.mod.kin T.kC ?_ (star_cons hs) (by rfl)
  rw [star_cons hs]
  show wpAny _ _ (spliced ((false, eval a X.env) :: backTo pos (starEach [] X.env))) _ _ s
  refine Calls.spliced_cons (thn (ha.run pins s σ H _ I h) fun u s1 ⟨v, H1, I1, r1, q1⟩ => ?_)
  refine Calls.spliced_nil ⟨I1.kIn, ?_⟩
  refine run_xmade T nf hr I1 fun h' tk e d M => ?_
  obtain ⟨t1, ho⟩ := M.obj
  have ne : H1 e = none := I1.hok.fresh M.new
  have nd : H1 d = none := I1.hok.fresh M.dbig
  obtain ⟨hp, gs, dr, tk0, os⟩ := s1
  -- the dict, then the object
  have J1 : Inv X pins σ (upd H1 d (.xd [(f, v)])) ⟨h', gs, dr, tk, os⟩ := I1.laid (t' := tk) M.keep M.dbig ⟨_, M.ns, fun y => relO_one r1 y⟩
  refine ⟨.ref e, upd (upd H1 d (.xd [(f, v)])) e (ExV C (some d) e), ?_, rfl, q1 e d ne nd M.dne⟩
  have ng : hp.get? e = none := Heap.get?_none_of_le M.new
  have J0 : Inv X pins σ (upd H1 e (ExV C (some d) e)) ⟨h', gs, dr, tk, os⟩ := I1.laid (t' := tk) M.keep M.new ⟨⟨_, _, ho, ⟨rfl, rfl⟩, rfl⟩, ⟨_, ho⟩, fun _ _ ⟨o, vs, z, y⟩ kk => ⟨o, vs, kk o z, y⟩⟩
  have Un2 : Un X.fs [] H1 (upd (upd H1 d (.xd [(f, v)])) e (ExV C (some d) e)) hp h' := {
    keep := fun b o q _ _ _ => M.keep b o q
    slot := fun b o q _ _ _ => ⟨o.slots, M.keep b o q⟩
    free := fun b o q n _ => by
      rw [upd_ne (fun z => by rw [z, ng] at q; cases q), upd_ne (fun z => by rw [z, Heap.get?_none_of_le M.dbig] at q; cases q)]; exact n
    there := fun b o q _ => ⟨o, M.keep b o q⟩
    tups := fun b xs q => by rw [upd_ne (ne_of_none q ne), upd_ne (ne_of_none q nd)]; exact q
    frzs := fun b o y q => by rw [upd_ne (ne_of_none q ne), upd_ne (ne_of_none q nd)]; exact q
    tbls := fun b ps q => ⟨#[], by rw [upd_ne (ne_of_none q ne), upd_ne (ne_of_none q nd), q]; simp⟩ }
  refine I1.un (t' := tk) Un2 fun b o q => ?_
  by_cases hb : b = e
  · subst hb
    rw [upd_same] at q
    cases q
    exact ⟨⟨_, _, ho, ⟨rfl, rfl⟩, rfl⟩, ⟨_, ho⟩, fun _ _ ⟨o, vs, z, y⟩ kk => ⟨o, vs, kk o z, y⟩⟩
  · rw [upd_ne hb] at q
    refine (J1.hok b o q).stay (fun c y _ z => z) (fun c z => ?_) fun c xs z => ?_
    · have : c ≠ e := fun w => by rw [w, upd_ne (Ne.symm M.dne), ne] at z; cases z
      rw [upd_ne this]; exact z
    · have : c ≠ e := fun w => by rw [w, upd_ne (Ne.symm M.dne), ne] at z; cases z
      rw [upd_ne this]; exact z
/-- C(e), to be raised -/
theorem pmk_exv {ta : TE} (T : PMX.XC X.K X.mg X.prog C fI f B newB newId i bmB) (nf : PMX.XName f) (hr : PMX.RoomG hot k X.A) (gC : X.mg x = some (.ref C)) (ha : PE X a ta) (hg : Gl X x) (hdb : (x == ("__debug__" : Str)) = false) (hs : nS a = true) :
    PMk X (.Call (.Name x p) [a] [] pos) (fun σ H Q => ta σ H fun y H1 => ∀ d, H1 d = none → Q (.ref C) (some d) (upd H1 d (.xd [(f, y)]))) := by
  intro pins s σ H Q I h
  refine wpAny_Call_Name_kw (ld_glob I hg gC ?_ hdb)
  refine PySem.W.callWith_K (h₀ := X.base) I.ok.mod.kin T.kC ?_ (star_cons hs) (by rfl)
  rw [star_cons hs]
  show wpAny _ _ (spliced ((false, eval a X.env) :: backTo pos (starEach [] X.env))) _ _ s
  refine Calls.spliced_cons (thn (ha.run pins s σ H _ I h) fun u s1 ⟨v, H1, I1, r1, q1⟩ => ?_)
  refine Calls.spliced_nil ⟨I1.kIn, ?_⟩
  refine run_xmade T nf hr I1 fun h' tk e d M => ?_
  obtain ⟨t1, ho⟩ := M.obj
  have hns := M.ns
  obtain ⟨hp, gs, dr, tk0, os⟩ := s1
  obtain ⟨G', g1, g2⟩ := restrict h' fun b => decide (b ≠ e)
  have gk : ∀ b, b ≠ e → G'.get? b = h'.get? b := fun b hb => g1 b (decide_eq_true hb)
  have ge : G'.get? e = none := g2 e (by simp)
  have old : ∀ b o, hp.get? b = some o → G'.get? b = some o := fun b o q => (gk b (Nat.ne_of_lt (Nat.lt_of_lt_of_le (Heap.lt_size q) M.new))).trans (M.keep b o q)
  have J : Inv X pins σ (upd H1 d (.xd [(f, v)])) ⟨G', gs, dr, tk, os⟩ := I1.laid (t' := tk) old M.dbig ⟨_, hns.at (fun o q => (gk d M.dne).trans q), fun y => relO_one r1 y⟩
  refine ⟨e, _, _, ⟨G', gs, dr, tk, os⟩, _, .ref C, some d, rfl, J, fun b o q => ?_, ge, ho, ⟨rfl, rfl⟩, rfl, rfl, ?_, rfl, I1.bare, raises_own T.exC T.tyC, q1 d (I1.hok.fresh M.dbig)⟩
  · by_cases hb : b = e
    · have q' : G'.get? b = some o := q
      rw [hb, ge] at q'; cases q'
    · exact (gk b hb).symm.trans q
  · rw [upd_ne (Ne.symm M.dne)]
    exact I1.hok.fresh M.new
end
end PM

namespace PM
open PySem PySem.Spec PyProof.Rows L2
/-- what comes behind a suite: the name goes -/
def unD (i : Option Nat) (D : Ends) : Ends := match i with
  | none => D
  | some j => { nx := fun σ' H' => D.nx (σ'.set j none) H', rt := D.rt, bk := fun σ' H' => D.bk (σ'.set j none) H', ct := fun σ' H' => D.ct (σ'.set j none) H' }
def asS (i : Option Nat) (a : Addr) (σ : L2.St) : L2.St := match i with
  | none => σ
  | some j => σ.set j (some (.ref a))
/-- what the clauses wish -/
def wT (K : PySem.W.Frag) (Wout : WX) (D : Ends) : List (Value × Option Nat × TS) → WX
  | [] => Wout
  | (c, i, ts) :: r => fun cls d σ H => ∃ (C : Addr) (b : Bool), cls = .ref C ∧ PySem.W.exmOne K cls c = some b ∧ (b = true → ∀ a, H a = none → ts (unD i D) (asS i a σ) (upd H a (ExV C d a))) ∧ (b = false → wT K Wout D r cls d σ H)
inductive HdsT (X : Cx) : List ExceptHandler → List (Value × Option Nat × TS) → Prop
  | nil : HdsT X [] []
  | one {x : Str} {c : Value} {ts : TS} {b0 : Stmt} {suite : List Stmt} {np pos' : Pos} {hds : List ExceptHandler} {l : List (Value × Option Nat × TS)} (hc : Names X x c)
      (hsu : ∀ (a : Addr) (pn : List (Addr × Obj)), PSs (X.suite a pn) (b0 :: suite) ts) (r : HdsT X hds l) : HdsT X (.ExceptHandler (some (.Name x np)) none (b0 :: suite) pos' :: hds) ((c, none, ts) :: l)
  | as {x n : Str} {i : Nat} {c : Value} {ts : TS} {b0 : Stmt} {suite : List Stmt} {np pos' : Pos} {hds : List ExceptHandler} {l : List (Value × Option Nat × TS)} (hc : Names X x c) (hN : X.N.Nodup) (hi : X.N[i]? = some n) (hln : X.env.kindOf n = some .local)
      (hsu : ∀ (a : Addr) (pn : List (Addr × Obj)), PSs (X.suite a pn) (b0 :: suite) ts) (r : HdsT X hds l) : HdsT X (.ExceptHandler (some (.Name x np)) (some n) (b0 :: suite) pos' :: hds) ((c, some i, ts) :: l)
section
variable {X : Cx} {pins : List (Addr × Obj)} {σ : L2.St} {H : Hp} {s : Shared}
theorem inv_track {a C : Addr} {d : Option Addr} {oe : Obj} {vs : Array Value} (I : Inv X pins σ H s) (ha : s.heap.get? a = some oe) (hz : Zc (.ref C) d oe) (hd : oe.data = .fields vs) (na : H a = none) (n0 : X.s_0.heap.get? a = none) (nL : a ≠ X.env.locals)
    (np : ∀ p ∈ X.pn ++ pins, p.1 ≠ a) : Inv (X.suite a (X.pn ++ pins)) [] σ (upd H a (ExV C d a)) s := by
  have n1 : ∀ {b : Addr} {o : Obj}, X.s_0.heap.get? b = some o → b ≠ a := fun {b o} e z => by rw [z, n0] at e; cases e
  have cna : ∀ y c, X.env.cells.lookup y = some c → c ≠ a := fun y c e z => by
    obtain ⟨v, o, e1, e2⟩ := I.cell y c e
    rw [z, ha] at e1
    cases e1
    rw [hd] at e2
    cases e2
  refine ⟨I.ok.suite _ _, I.os, I.bare, ⟨I.base.keep, I.base.slot, fun b o e n hx => ?_, I.base.there, fun b xs e => ?_, fun b o u e => ?_, fun b ps e => ?_⟩, I.loc, I.cell, ?_, fun y c e => ?_, fun p hp => ?_, fun b o e => ?_, I.len⟩
  · rw [upd_ne (n1 e)]
    exact I.base.free b o e n hx
  · have q := I.base.tups b xs e
    rw [upd_ne (ne_of_none q na)]
    exact q
  · have q := I.base.frzs b o u e
    rw [upd_ne (ne_of_none q na)]
    exact q
  · obtain ⟨m, q⟩ := I.base.tbls b ps e
    exact ⟨m, by rw [upd_ne (ne_of_none q na)]; exact q⟩
  · show upd H a (ExV C d a) X.env.locals = none
    rw [upd_ne (Ne.symm nL)]
    exact I.free
  · show upd H a (ExV C d a) c = none
    rw [upd_ne (cna y c e)]
    exact I.freeC y c e
  · have hp' : p ∈ X.pn ++ pins := by
      have z : p ∈ (X.pn ++ pins) ++ ([] : List (Addr × Obj)) := hp
      rwa [List.append_nil] at z
    obtain ⟨e1, e2, e3, e4, e5⟩ := I.pin p hp'
    exact ⟨e1, by rw [upd_ne (np p hp')]; exact e2, e3, e4, e5⟩
  · by_cases hb : b = a
    · subst hb
      rw [upd_same] at e
      cases e
      exact ⟨⟨oe, vs, ha, hz, hd⟩, ⟨oe, ha⟩, fun _ _ ⟨o, vs, z, y⟩ kk => ⟨o, vs, kk o z, y⟩⟩
    · rw [upd_ne hb] at e
      exact (I.hok b o e).stay (fun c y _ z => z) (fun c z => by rw [upd_ne (ne_of_none z na)]; exact z) fun c xs z => by rw [upd_ne (ne_of_none z na)]; exact z
theorem inv_untrack {a : Addr} (I : Inv (X.suite a (X.pn ++ pins)) [] σ H s) (ok : X.Ok) : Inv X pins σ H s :=
  ⟨ok, I.os, I.bare, I.base, I.loc, I.cell, I.free, I.freeC, fun p hp => I.pin p (List.mem_append_left _ hp), I.hok, I.len⟩
end
section
variable {X : Cx} {body : List Stmt} {h0 : ExceptHandler} {hds : List ExceptHandler} {l : List (Value × Option Nat × TS)} {pos : Pos} {tb : WX → TS} {Wout : WX}
theorem ps_tryT (hex : X.ex = []) (hs : X.stack = X.env :: X.outer) (hf : X.env.frame = some X.env.locals) (tk : Takes X Wout)
    (hb : ∀ (W : WX) (pn : List (Addr × Obj)) (xe : Value → Shared → Prop), Takes (X.tr pn xe) W → PassesOwn (model X.prog X.w) X.A X.env xe → PSs (X.tr pn xe) body (tb W))
    (hh : HdsT X (h0 :: hds) l) : PS X (.Try body (h0 :: hds) [] [] pos) (fun D σ H => tb (wT X.K Wout D l) D σ H) := by
  refine ⟨fun pins s σ H D I h => ?_⟩
  have ok := I.ok
  have hfr : X.A.frames = some (X.env :: X.outer) := by rw [ok.frames, hs]
  refine wpAny_Try_except ?_
  refine wpAny_mono ((hb (wT X.K Wout D l) (X.pn ++ pins) (fun e s1 => wpAny (model X.prog X.w) X.A (noteFrame e X.env) (fun _ s2 => wpAny (model X.prog X.w) X.A (setFlight e none) (fun _ s3 =>
    wpAny (model X.prog X.w) X.A (handleBy e X.env (h0 :: hds)) (SP X pins D) X.xe s3) X.xe s2) X.xe s1) (fun u s' xx => ?_) PassesOwn.looking).run [] s σ H D (I.toTry _) h) (fun f s1 hsp => ?_) (fun e s1 he => he)
  · obtain ⟨a, B, sI, pins', σ', H', cls, d, rfl, J', nb, up, sky, na, os, ag, w⟩ := xx
    have J : Inv X pins σ' H' sI := J'.ofTry ok
    have sky' : Sky B (X.env :: X.outer) a (Zc cls d) X.env.locals s'.heap := by rw [← hs]; exact sky
    show wpAny (model X.prog X.w) X.A (noteFrame (.ref a) X.env) _ _ _
    refine Sky.land Zc.steady hfr hf sky' fun h3 fl3 up3 => ?_
    have J3 : Inv X pins σ' H' { s' with heap := h3 } := J.landed nb fl3.1 (up.trans up3) os ag
    obtain ⟨oe3, vs3, he3, hz3, hd3⟩ := fl3.there
    have notFr : ∀ {h : Heap} {o : Obj} {vs : Array Value}, h.FunFrames B (X.env :: X.outer) → h.get? a = some o → o.data = .fields vs → a ∉ frs (X.env :: X.outer) := fun {h o vs} ff e dd hm => by
      obtain ⟨_, o', e', hnf⟩ := ff.mem hm
      rw [e] at e'; cases e'
      exact hnf _ dd
    have nfr := notFr fl3.2.2.1 he3 hd3
    have nL : a ≠ X.env.locals := fun z => nfr (List.mem_filterMap.mpr ⟨X.env, List.mem_cons_self, by rw [hf, z]⟩)
    have Ba : B.get? a = none := fl3.2.1
    have nfs : ∀ b, b ≠ X.env.locals → b ∉ X.fs → b ∉ frs X.stack := fun b h1 h2 hm => by
      rcases List.mem_cons.mp (I.stkSub b hm) with z | z
      · exact h1 z
      · exact h2 z
    have n0 : X.s_0.heap.get? a = none := by
      cases e : X.s_0.heap.get? a with
      | none => rfl
      | some o =>
        obtain ⟨o', e'⟩ := J.base.there a o e (by rw [hex]; exact fun z => nomatch z)
        have nst : a ∉ frs X.stack := by rw [hs]; exact nfr
        have z := nb a o' e' nst
        rw [Ba] at z
        cases z
    have np : ∀ p ∈ X.pn ++ pins, p.1 ≠ a := fun p hp z => by
      obtain ⟨e1, _, e3, e4, _⟩ := J.pin p hp
      have q := nb _ _ e1 (nfs _ e3 e4)
      rw [z, Ba] at q
      cases q
    -- the test of a clause
    have test : ∀ {x : Str} {c : Value} {npos : Pos} {Q : Value → Shared → Prop} {E : Value → Shared → Prop}, Names X x c → Q c { s' with heap := h3 } → wpAny (model X.prog X.w) (X.A.mark (some (.ref a))) (eval (.Name x npos) X.env) Q E { s' with heap := h3 } := fun {x c npos Q E} hc q => by
      have S3 : Inv (X.suite a (X.pn ++ pins)) [] σ' H' { s' with heap := h3 } := ⟨ok.suite _ _, J3.os, J3.bare, J3.base, J3.loc, J3.cell, J3.free, J3.freeC, fun p hp => J3.pin p (by rw [List.append_nil] at hp; exact hp), J3.hok, J3.len⟩
      obtain ⟨hg, hdbg, hm | ⟨hm, hv, hnn⟩⟩ := hc
      · exact ld_glob (X := X.suite a (X.pn ++ pins)) S3 hg hm q hdbg
      · exact ld_blt (X := X.suite a (X.pn ++ pins)) S3 hg hm hv q hnn hdbg
    have LT : PySem.W.Looks (model X.prog X.w) h3 (typeOf (.ref a)) cls := fun A Q E s k q => wpAny_typeOf_ref (k _ _ he3) (by rw [hz3.1]; exact q)
    have fin : ∀ {i : Option Nat} {σ6 : L2.St} {H6 : Hp} {s6 : Shared}, Inv (X.suite a (X.pn ++ pins)) [] σ6 H6 s6 → Inv X pins σ6 H6 s6 := fun S => inv_untrack S ok
    have go : ∀ {hds' : List ExceptHandler} {l' : List (Value × Option Nat × TS)}, HdsT X hds' l' → wT X.K Wout D l' cls d σ' H' →
        wpAny (model X.prog X.w) X.A (handleBy (.ref a) X.env hds') (SP X pins D) X.xe { s' with heap := h3 } := by
      intro hds' l' hk
      induction hk with
      | nil =>
        intro w
        refine wpAny_handleBy_nil ?_
        obtain ⟨k1, k2, k3, oe, vs, T, oT, ts', he, hz, hd, h1, hr⟩ := id fl3
        unfold PySem.passOn
        refine wpAny_bind (wpAny_field he hd h1 ?_)
        rw [if_neg (show ¬ ((Value.ref T == Value.none) = true) from by simp)]
        have last : wpAny (model X.prog X.w) X.A (setFlight (.ref a) X.env.frame) (fun _ s4 => wpAny (model X.prog X.w) X.A (throw (.ref a) : Sem Flow) (SP X pins D) X.xe s4) X.xe { s' with heap := h3 } := by
          rw [hf]
          refine HandSPX.setFlight_upZ fl3 fun h4 hh4 up4 => wpAny_throw (tk _ _ ?_)
          exact ⟨a, B, sI, pins', σ', H', cls, d, rfl, ⟨ok, J'.os, J'.bare, J'.base, J'.loc, J'.cell, J'.free, J'.freeC, fun p hp => J'.pin p (by
            rcases List.mem_append.mp hp with z | z
            · exact List.mem_append_left _ (List.mem_append_left _ z)
            · exact List.mem_append_right _ z), J'.hok, J'.len⟩, nb, (up.trans up3).trans up4, .inr (.inr (by rw [hs]; exact hh4)), na, os, ag, w⟩
        first
          | exact wpAny_bind (wpAny_pure (wpAny_bind last))
          | exact wpAny_bind last
      | @one x c ts b0 suite npos pos' hds2 l2 hc hsu r ih =>
        intro w
        obtain ⟨C, b, rfl, hb1, yes, no⟩ := w
        refine wpAny_handleBy_cons (codeAny_handlers_test ?_) (by intro q; cases q)
        have LM := PySem.W.exm_one (M := model X.prog X.w) (J3.kIn) LT hb1
        refine test hc (LM.here ?_)
        cases b with
        | true =>
          refine codeAny_handlers_suite ?_
          refine HandSPX.lands_againZ fl3 fun h4 fl4 up4 => ?_
          have J4 : Inv X pins σ' H' { s' with heap := h4 } := J.landed nb fl4.1 ((up.trans up3).trans up4) os ag
          obtain ⟨oe4, vs4, he4, hz4, hd4⟩ := fl4.there
          have S4 := inv_track J4 he4 hz4 hd4 na n0 nL np
          refine wpAny_mono ((hsu a (X.pn ++ pins)).run [] _ _ _ _ S4 (yes rfl a na)) (fun f s6 hsp => ?_) (fun _ _ z => False.elim z)
          cases f with
          | next =>
            obtain ⟨σ6, H6, S6, q6⟩ := hsp
            exact ⟨_, _, fin (i := none) S6, q6⟩
          | brk =>
            obtain ⟨σ6, H6, S6, q6⟩ := hsp
            exact ⟨_, _, fin (i := none) S6, q6⟩
          | cont =>
            obtain ⟨σ6, H6, S6, q6⟩ := hsp
            exact ⟨_, _, fin (i := none) S6, q6⟩
          | ret u =>
            obtain ⟨v6, σ6, H6, S6, r6, q6⟩ := hsp
            exact ⟨_, _, _, fin (i := none) S6, r6, q6⟩
        | false =>
          show wpAny _ X.A (handleBy (.ref a) X.env hds2) _ _ _
          exact ih (no rfl)
      | @as x n i c ts b0 suite npos pos' hds2 l2 hc hN hi hln hsu r ih =>
        intro w
        obtain ⟨C, b, rfl, hb1, yes, no⟩ := w
        refine wpAny_handleBy_cons (codeAny_handlers_test ?_) (by intro q; cases q)
        have LM := PySem.W.exm_one (M := model X.prog X.w) (J3.kIn) LT hb1
        refine test hc (LM.here ?_)
        cases b with
        | true =>
          refine codeAny_handlers_suite_as ?_
          refine HandSPX.lands_againZ fl3 fun h4 fl4 up4 => ?_
          have J4 : Inv X pins σ' H' { s' with heap := h4 } := J.landed nb fl4.1 ((up.trans up3).trans up4) os ag
          obtain ⟨oe4, vs4, he4, hz4, hd4⟩ := fl4.there
          have S4 := inv_track J4 he4 hz4 hd4 na n0 nL np
          refine store_ok (X := X.suite a (X.pn ++ pins)) (v := .ref a) S4 hN hi (.inl hln) rfl (fun s5 S5 => ?_) (.inr hln)
          refine wpAny_mono ((hsu a (X.pn ++ pins)).run [] s5 _ _ _ S5 (yes rfl a na)) (fun f s6 hsp => ?_) (fun _ _ z => False.elim z)
          have end_ : ∀ {σ6 : L2.St} {H6 : Hp} {Q : Shared → Prop}, Inv (X.suite a (X.pn ++ pins)) [] σ6 H6 s6 → (∀ s7, Inv X pins (σ6.set i none) H6 s7 → Q s7) →
              wpAny (model X.prog X.w) X.A (do bindName X.env n .none; unbindBehindTheSuite X.env n pos') (fun _ s7 => Q s7) X.xe s6 := fun {σ6 H6 Q} S6 hq => gone_ok (fin (i := none) S6) hN hi hln hq
          cases f with
          | next =>
            obtain ⟨σ6, H6, S6, q6⟩ := hsp
            exact end_ S6 fun s7 J7 => ⟨_, _, J7, q6⟩
          | brk =>
            obtain ⟨σ6, H6, S6, q6⟩ := hsp
            exact end_ S6 fun s7 J7 => ⟨_, _, J7, q6⟩
          | cont =>
            obtain ⟨σ6, H6, S6, q6⟩ := hsp
            exact end_ S6 fun s7 J7 => ⟨_, _, J7, q6⟩
          | ret u =>
            obtain ⟨v6, σ6, H6, S6, r6, q6⟩ := hsp
            exact end_ S6 fun s7 J7 => ⟨_, _, _, J7, r6, q6⟩
        | false =>
          show wpAny _ X.A (handleBy (.ref a) X.env hds2) _ _ _
          exact ih (no rfl)
    exact go hh w
  · cases f with
    | next =>
      obtain ⟨σ', H', J', q⟩ := hsp
      exact wpAny_execs_nil ⟨σ', H', J'.ofTry ok, q⟩
    | brk =>
      obtain ⟨σ', H', J', q⟩ := hsp
      exact ⟨σ', H', J'.ofTry ok, q⟩
    | cont =>
      obtain ⟨σ', H', J', q⟩ := hsp
      exact ⟨σ', H', J'.ofTry ok, q⟩
    | ret u =>
      obtain ⟨v, σ', H', J', r, q⟩ := hsp
      exact ⟨v, σ', H', J'.ofTry ok, r, q⟩
end
end PM

set_option maxHeartbeats 4000000
namespace PM
open PySem L2
/-- what is known of an exception class that may be made -/
structure XcH (X : Cx) (c : Str) (o : Option (Option Str)) : Prop where
  ex : ∃ C, X.mg c = some (.ref C) ∧ ExK X.K C ∧ PySem.W.keepIn X.K (.ref C) = true ∧ Raises X (.ref C) ∧ match o with
    | none => False
    | some none => ∃ (B newId initId : String) (bmB : List Value), ExcBaseFacts B newId initId bmB ∧ PySem.W.excIn X.K C bmB newId = true
    | some (some f) => PySem.W.findIn X.K (.ref C) f = some none ∧ PMX.XName f ∧ ∃ (fI : Addr) (B newB newId i : String) (bmB : List Value), PMX.XC X.K X.mg X.prog C fI f B newB newId i bmB
section
variable {X : Cx} {F : Frm} {Wx : WX} {B : List Nat} {c : Str} {p pos pos2 : Pos} {a : Expr} {hot : Bool} {k : Nat} {G : Glob} {f : Str}
/-- C(e), no own __init__, a value -/
theorem pe_exn0 {C : Addr} {bmB : List Value} {B newId initId : String} {ta : TE} (FB : ExcBaseFacts B newId initId bmB) (q : PySem.W.excIn X.K C bmB newId = true) (gC : X.mg c = some (.ref C)) (kC : PySem.W.keepIn X.K (.ref C) = true) (hg : Gl X c) (he : PE X a ta) (hs : nS a = true) (hdb : (c == ("__debug__" : Str)) = false) :
    PE X (.Call (.Name c p) [a] [] pos) (fun σ H Q => ta σ H fun _ H1 => ∀ e, H1 e = none → Q (.ref e) (upd H1 e (ExV C none e))) := by
  refine ⟨fun pins s σ H Q I h => ?_⟩
  refine wpAny_Call_Name_kw (ld_glob I hg gC ?_ hdb)
  refine PySem.W.callWith_K (h₀ := X.base) I.ok.mod.kin kC ?_ (star_cons hs) (by rfl)
  rw [star_cons hs]
  show wpAny _ _ (spliced ((false, eval a X.env) :: backTo pos (starEach [] X.env))) _ _ s
  refine Calls.spliced_cons (thn (he.run pins s σ H _ I h) fun u s1 ⟨v, H1, I1, r1, q1⟩ => ?_)
  refine Calls.spliced_nil ⟨I1.kIn, ?_⟩
  show wpAny _ _ (call (.ref C) [u]) _ _ _
  obtain ⟨bm, N, nm, qn, bs, hdct, sn, sub, ab, col, dd, k0, k1, k2, k3, k5, mN, hC, hN, hni, T⟩ := exc_obj I1.kIn q
  refine wpAny_call_exc_subT FB T hC hN hni (fun h' e hm => ?_) (by show 1 ≤ sizeLine; rw [sizeLine_eq]; omega)
  have hn : H1 e = none := I1.hok.gone hm.new
  obtain ⟨t, ht, _, _⟩ := hm.there
  exact ⟨.ref e, upd H1 e (ExV C none e), I1.laidN hm.keeps hm.new hn ⟨⟨_, _, ht, ⟨rfl, rfl⟩, rfl⟩, ⟨_, ht⟩, fun _ _ ⟨o, vs, z, y⟩ kk => ⟨o, vs, kk o z, y⟩⟩, rfl, q1 e hn⟩
def mkxE (G : Glob) (c : Str) (ma : PM.Env → R Hd) : PM.Env → R Hd := fun env => (ma env).val.bind fun w e1 => match G.xcl c with
    | some none => .ok (.v (.exn c [] [])) e1
    | some (some f) => .ok (.v (.exn c [f] [w])) e1
    | none => .no
theorem se_mkx {ma : PM.Env → R Hd} (hx : XcH X c (G.xcl c)) (hr : PMX.RoomG hot k X.A) (ha : SE X F Wx a ma) (hg : Gl X c) (hdb : (c == ("__debug__" : Str)) = false) (hs : nS a = true) : SE X F Wx (.Call (.Name c p) [a] [] pos) (mkxE G c ma) := by
  refine pe_by fun σ H Q hq => ?_
  obtain ⟨C, gC, TT, kC, rC, hx⟩ := hx.ex
  obtain ⟨α, T, env, cc, o⟩ := tE_iff.mp hq
  cases q0 : G.xcl c with
  | none => rw [q0] at hx; exact hx.elim
  | some fo =>
    rw [q0] at hx
    cases fo with
    | none =>
      obtain ⟨B, newId, initId, bmB, FB, hq0⟩ := hx
      refine ⟨_, pe_exn0 FB hq0 gC kC hg ha hs hdb, ?_⟩
      unfold mkxE R.val at o
      have o' : OutR (okE X.K X.mg F α T σ H Q) (exE X.K X.mg F Wx α T σ H) ((ma env).bind fun h e1 => (R.opt (pv1 h) e1).bind fun w e2 => (.ok (.v (.exn c [] [])) e2 : R Hd)) := by
        cases q : ma env <;> (simp only [q, q0, R.bind] at o ⊢; exact o)
      refine tE_bind cc o' fun hd e1 H1 v q c1 k1 r1 o1 => ?_
      cases hd with
      | s => exact o1.elim
      | v w =>
        intro e he
        have kn := Kp.new (M := fun _ => False) (o := ExV C none e) he
        have nm := c1.notin he
        exact (show okE X.K X.mg F α T σ H Q (.v (.exn c [] [])) e1 from o1) _ _ (c1.ext kn) (k0 k1 kn) ⟨e, C, none, [], rfl, gC, ⟨upd_same, nm, .inl ⟨rfl, rfl⟩⟩, rfl, rfl⟩
    | some f =>
      obtain ⟨hf, nf, fI, B, newB, newId, i, bmB, XT⟩ := hx
      refine ⟨_, pe_exv XT nf hr gC ha hg hdb hs, ?_⟩
      unfold mkxE R.val at o
      have o' : OutR (okE X.K X.mg F α T σ H Q) (exE X.K X.mg F Wx α T σ H) ((ma env).bind fun h e1 => (R.opt (pv1 h) e1).bind fun w e2 => (.ok (.v (.exn c [f] [w])) e2 : R Hd)) := by
        cases q : ma env <;> (simp only [q, q0, R.bind] at o ⊢; exact o)
      refine tE_bind cc o' fun hd e1 H1 v q c1 k1 r1 o1 => ?_
      cases hd with
      | s => exact o1.elim
      | v w =>
        intro e d he hd hne
        have kd := Kp.new (M := fun _ => False) (o := .xd [(f, v)]) hd
        have he' : upd H1 d (.xd [(f, v)]) e = none := by rw [upd_ne (Ne.symm hne)]; exact he
        have kn := Kp.new (M := fun _ => False) (o := ExV C (some d) e) he'
        have kk := kd.trans kn (fun _ z => z.elim)
        refine (show okE X.K X.mg F α T σ H Q (.v (.exn c [f] [w])) e1 from o1) _ _ (c1.ext kk) (k0 k1 kk) ⟨e, C, some d, [(f, v)], rfl, gC, ⟨upd_same, c1.notin he, .inr ⟨d, rfl, ?_, c1.notin hd⟩⟩, rfl, ?_⟩
        · rw [upd_ne hne, upd_same]
        · exact ⟨v, [], rfl, RepH.kp (hd := .v w) kk (fun _ z => z.elim) r1, rfl⟩
/-- raise C("..") -/
theorem ss_raise0 {m : Str} {j : Nat} {p2 : Pos} (hc : X.calm = true) (tk : Takes X Wx) (hx : XcH X c (some none)) (hg : Gl X c) (hdb : (c == ("__debug__" : Str)) = false) :
    SS X F Wx B (.Raise (some (.Call (.Name c p) [.Constant (.str m) j p2] [] pos)) none pos2) (fun env => .exc ⟨c, []⟩ env) := by
  obtain ⟨C, gC, TT, kC, rC, B', newId, initId, bmB, FB, hq0⟩ := hx.ex
  refine ps_by fun D σ H h => ⟨_, ps_raise hc tk (pmk_own FB hq0 gC kC rC hg hdb), ?_⟩
  obtain ⟨α, T, env, cc, o⟩ := h
  exact (show exS X.K X.mg F Wx B α T H ⟨c, []⟩ env from o) σ H α (.ref C) none cc .refl ⟨C, gC, rfl, .inl ⟨rfl, rfl⟩⟩
/-- raise C(e) -/
theorem ss_raise1 {ma : PM.Env → R Hd} (hc : X.calm = true) (tk : Takes X Wx) (hx : XcH X c (some (some f))) (hr : PMX.RoomG hot k X.A) (ha : SE X F Wx a ma) (hg : Gl X c) (hdb : (c == ("__debug__" : Str)) = false) (hs : nS a = true) :
    SS X F Wx B (.Raise (some (.Call (.Name c p) [a] [] pos)) none pos2) (fun env => (ma env).val.bind fun w e1 => .exc ⟨c, [(f, w)]⟩ e1) := by
  obtain ⟨C, gC, TT, kC, rC, hf, nf, fI, B', newB, newId, i, bmB, XT⟩ := hx.ex
  refine ps_by fun D σ H h => ⟨_, ps_raise hc tk (pmk_exv XT nf hr gC ha hg hdb hs), ?_⟩
  obtain ⟨α, T, env, cc, o⟩ := h
  try dsimp only at o
  unfold R.val at o
  refine tE_iff.mpr ⟨α, T, env, cc, ?_⟩
  cases q : ma env with
  | no => rw [q] at o; exact o
  | exc x e1 => rw [q] at o; exact (show exS X.K X.mg F Wx B α T H x e1 from o).ex
  | ok hd e1 =>
    rw [q] at o
    cases hd with
    | s => exact o.elim
    | v w =>
      intro H1 v c1 k1 r1 d hd
      have kd := Kp.new (M := fun _ => False) (o := .xd [(f, v)]) hd
      refine (show exS X.K X.mg F Wx B α T H ⟨c, [(f, w)]⟩ e1 from o) σ _ α (.ref C) (some d) (c1.ext kd) (.of (k0 k1 kd)) ⟨C, gC, rfl, .inr ⟨d, [(f, v)], rfl, upd_same, c1.notin hd, rfl, ?_⟩⟩
      exact ⟨v, [], rfl, RepH.kp (hd := .v w) kd (fun _ z => z.elim) r1, rfl⟩
/-- {} -/
theorem sf_dic0 : SF X F Wx (.Dict [] [] pos) (fun env => .ok (.dic [] []) env) := by
  refine pe_by fun σ H Q hq => ⟨_, pe_dnewK, ?_⟩
  obtain ⟨α, T, env, c1, o⟩ := tF_iff.mp hq
  intro p hp
  exact (show okF X.K X.mg F α T σ H Q (.dic [] []) env from o) _ p hp (c1.apart (Kp.new _ hp) hp (by rw [upd_same]; exact fun z => nomatch z)) (Kp.new _ hp) ⟨[], upd_same, rfl, rfl⟩
end
end PM

set_option maxHeartbeats 4000000
namespace PM
open PySem L2
/-- the clauses' turns -/
def hdsM (G : Glob) (x : Exn) (env : PM.Env) : List (W × Option Nat × (PM.Env → R Fl)) → R Fl
  | [] => .exc x env
  | (c, i, m) :: r => match G.exm x.c c with
    | some true => match asE i x env with
      | some e1 => match m e1 with
        | .ok f e2 => .ok f (unE i f e2)
        | _ => .no
      | none => .no
    | some false => hdsM G x env r
    | none => .no
def tryM (G : Glob) (mb : PM.Env → R Fl) (l : List (W × Option Nat × (PM.Env → R Fl))) : PM.Env → R Fl := fun env => match mb env with
  | .exc x e1 => hdsM G x e1 l
  | .ok f e1 => .ok f e1
  | .no => .no
section
variable {K : PySem.W.Frag} {mg : Str → Option Value} {F : Frm} {α : Asg} {T : List Addr} {env : PM.Env} {σ : St} {H : Hp} {D : Ends} {B : List Nat}
theorem Cfg.unset0 {i : Nat} (c : Cfg K mg F α T env σ H) (hi : i < σ.length) : Cfg K mg F (α.set i none) T (env.set i .no) (σ.set i none) H := by
  have mm : ∀ x, MM F (α.set i none) T x → MM F α T x := fun x => mm_set_none
  have ga : ∀ {j b}, gO (α.set i none) j = some b → i ≠ j ∧ gO α j = some b := fun {j b} e => by
    by_cases hj : i = j
    · subst hj; rw [gO_set (by rw [c.la]; exact hi)] at e; cases e
    · rw [gO_set_ne hj] at e; exact ⟨hj, e⟩
  refine ⟨by simp [c.le], by simp [c.la], fun j k b e1 e2 => c.nd j k b (ga e1).2 (ga e2).2, fun j b e => c.nt j b (ga e).2, fun b z => c.nw b (z.imp (fun z => ?_) id), fun b z => c.tr b (mm b z), c.lm, c.kp, fun j s e => ?_⟩
  · obtain ⟨j, z⟩ := ow_iff.mp z
    exact ow_iff.mpr ⟨j, (ga z).2⟩
  · by_cases hj : i = j
    · subst hj
      rw [List.getElem?_set_self (by rw [c.le]; exact hi)] at e
      cases e
      trivial
    · rw [List.getElem?_set_ne hj] at e
      rw [gO_set_ne hj, gO_set_ne hj]
      exact (c.sl j s e).mono mm
theorem Cfg.unset {i : Nat} (c : Cfg K mg F α T env σ H) : Cfg K mg F (α.set i none) T (env.set i .no) (σ.set i none) H := by
  by_cases hi : i < σ.length
  · exact c.unset0 hi
  · have hl := Nat.le_of_not_lt hi
    rw [List.set_eq_of_length_le hl, List.set_eq_of_length_le (by rw [c.la]; exact hl), List.set_eq_of_length_le (by rw [c.le]; exact hl)]
    exact c
theorem Alt.unset {j : Nat} (hj : j ∈ B) : Alt B α H (α.set j none) H :=
  ⟨Kp.refl _ _, fun a z => .inl ((ow_set z).elim (fun y => nomatch y) id), fun m hm => gO_set_ne fun z => hm (z ▸ hj)⟩
end
inductive HdsM (X : Cx) (G : Glob) (F : Frm) (B : List Nat) : List ExceptHandler → List (W × Option Nat × (PM.Env → R Fl)) → Prop
  | nil : HdsM X G F B [] []
  | one {x : Str} {c : Value} {key : W} {m : PM.Env → R Fl} {b0 : Stmt} {suite : List Stmt} {np pos' : Pos} {hds : List ExceptHandler} {l : List (W × Option Nat × (PM.Env → R Fl))} (hc : Names X x c)
      (he : ∀ y b C, G.exm y key = some b → X.mg y = some (.ref C) → PySem.W.exmOne X.K (.ref C) c = some b) (hsu : ∀ (a : Addr) (pn : List (Addr × Obj)), SSs (X.suite a pn) F WX0 B (b0 :: suite) m) (r : HdsM X G F B hds l) :
      HdsM X G F B (.ExceptHandler (some (.Name x np)) none (b0 :: suite) pos' :: hds) ((key, none, m) :: l)
  | as {x n : Str} {i : Nat} {c : Value} {key : W} {m : PM.Env → R Fl} {b0 : Stmt} {suite : List Stmt} {np pos' : Pos} {hds : List ExceptHandler} {l : List (W × Option Nat × (PM.Env → R Fl))} (hc : Names X x c)
      (he : ∀ y b C, G.exm y key = some b → X.mg y = some (.ref C) → PySem.W.exmOne X.K (.ref C) c = some b) (hN : X.N.Nodup) (hi : X.N[i]? = some n) (hln : X.env.kindOf n = some .local) (hB : i ∈ B)
      (hsu : ∀ (a : Addr) (pn : List (Addr × Obj)), SSs (X.suite a pn) F WX0 B (b0 :: suite) m) (r : HdsM X G F B hds l) :
      HdsM X G F B (.ExceptHandler (some (.Name x np)) (some n) (b0 :: suite) pos' :: hds) ((key, some i, m) :: l)
section
variable {X : Cx} {G : Glob} {F : Frm} {Wx : WX} {B : List Nat} {body : List Stmt} {h0 : ExceptHandler} {hds : List ExceptHandler} {l : List (W × Option Nat × (PM.Env → R Fl))} {pos : Pos} {mb : PM.Env → R Fl}
theorem hds_run {hds : List ExceptHandler} {l : List (W × Option Nat × (PM.Env → R Fl))} (hm : HdsM X G F B hds l) : ∃ l2 : List (Value × Option Nat × TS), HdsT X hds l2 ∧ ∀ {α : Asg} {T : List Addr} {H : Hp} {D : Ends} {x : Exn} {e1 : PM.Env},
    OutR (okS X.K X.mg F B α T H D) (exS X.K X.mg F Wx B α T H) (hdsM G x e1 l) → ∀ σ' H' α' cls d, Cfg X.K X.mg F α' T e1 σ' H' → Alt B α H α' H' → RepX X.K X.mg (MM F α' T) x cls d H' → wT X.K Wx D l2 cls d σ' H' := by
  induction hm with
  | nil => exact ⟨[], .nil, fun o σ' H' α' cls d c a r => o σ' H' α' cls d c a r⟩
  | @one xn c key m b0 suite np pos' hds l hc he hsu r ih =>
    obtain ⟨l2, h1, h2⟩ := ih
    refine ⟨(c, none, tS X.K X.mg F WX0 B m) :: l2, .one hc (fun a pn => hsu a pn) h1, ?_⟩
    intro α T H D x e1 o σ' H' α' cls d cc al rx
    obtain ⟨C, gC, rfl, rf⟩ := id rx
    unfold hdsM at o
    cases qb : G.exm x.c key with
    | none => rw [qb] at o; exact o.elim
    | some b =>
      rw [qb] at o
      refine ⟨C, b, rfl, he _ _ _ qb gC, fun hb a ha => ?_, fun hb => ?_⟩
      · subst hb
        simp only [asE] at o
        have kn := Kp.new (M := fun _ => False) (o := ExV C d a) ha
        have a2 : Alt B α H α' (upd H' a (ExV C d a)) := al.trans (.of (k0 (Kp.refl _ _) kn))
        refine ⟨α', T, e1, cc.ext kn, ?_⟩
        cases qm : m e1 with
        | no => rw [qm] at o; exact o.elim
        | exc => rw [qm] at o; exact o.elim
        | ok f e2 =>
          rw [qm] at o
          exact (show okS X.K X.mg F B α T H D f e2 from o).later a2
      · subst hb
        exact h2 o σ' H' α' (.ref C) d cc al rx
  | @as xn n i c key m b0 suite np pos' hds l hc he hN hi hln hB hsu r ih =>
    obtain ⟨l2, h1, h2⟩ := ih
    refine ⟨(c, some i, tS X.K X.mg F WX0 B m) :: l2, .as hc hN hi hln (fun a pn => hsu a pn) h1, ?_⟩
    intro α T H D x e1 o σ' H' α' cls d cc al rx
    obtain ⟨C, gC, rfl, rf⟩ := id rx
    unfold hdsM at o
    cases qb : G.exm x.c key with
    | none => rw [qb] at o; exact o.elim
    | some b =>
      rw [qb] at o
      refine ⟨C, b, rfl, he _ _ _ qb gC, fun hb a ha => ?_, fun hb => ?_⟩
      · subst hb
        have kn := Kp.new (M := fun _ => False) (o := ExV C d a) ha
        cases qa : asE (some i) x e1 with
        | none => simp only [qa] at o; exact o.elim
        | some e2 =>
          simp only [qa] at o
          unfold asE at qa
          simp only at qa
          split at qa
          case isFalse => cases qa
          rename_i hl
          cases qa
          have hls : i < σ'.length := by rw [← cc.le]; exact hl
          have rep : Rep X.K X.mg (MM F α' T) (upd H' a (ExV C d a)) (.exn x.c (x.f.map (·.1)) (x.f.map (·.2))) (.ref a) := by
            rcases rf with ⟨f0, d0⟩ | ⟨dx, fs, rfl, f1, f2, f3, f4⟩
            · rw [f0]
              exact ⟨a, C, d, [], rfl, gC, ⟨upd_same, cc.notin ha, .inl ⟨d0, rfl⟩⟩, rfl, rfl⟩
            · refine ⟨a, C, some dx, fs, rfl, gC, ⟨upd_same, cc.notin ha, .inr ⟨dx, rfl, ?_, f2⟩⟩, f3, f4.kp kn (fun _ z => z.elim) fun _ z => .inl z⟩
              rw [upd_ne (ne_of_none f1 ha)]; exact f1
          have c2 := (cc.ext kn).setVal hls rep
          have a2 : Alt B α H (α'.set i none) (upd H' a (ExV C d a)) := (al.trans (.of (k0 (Kp.refl _ _) kn))).trans (.unset hB)
          refine ⟨α'.set i none, T, _, c2, ?_⟩
          cases qm : m (e1.set i (.val (.exn x.c (x.f.map (·.1)) (x.f.map (·.2))))) with
          | no => rw [qm] at o; exact o.elim
          | exc => rw [qm] at o; exact o.elim
          | ok f e2 =>
            rw [qm] at o
            have o2 := (show okS X.K X.mg F B α T H D f (unE (some i) f e2) from o).later a2
            cases f with
            | nx => exact fun σ3 H3 α3 c3 a3 => (show okS X.K X.mg F B _ T _ D .nx (e2.set i .no) from o2) _ H3 _ c3.unset (a3.trans (.unset hB))
            | bk => exact fun σ3 H3 α3 c3 a3 => (show okS X.K X.mg F B _ T _ D .bk (e2.set i .no) from o2) _ H3 _ c3.unset (a3.trans (.unset hB))
            | ct => exact fun σ3 H3 α3 c3 a3 => (show okS X.K X.mg F B _ T _ D .ct (e2.set i .no) from o2) _ H3 _ c3.unset (a3.trans (.unset hB))
            | rt fr w => exact o2
      · subst hb
        exact h2 o σ' H' α' (.ref C) d cc al rx
theorem ss_try (hex : X.ex = []) (hs : X.stack = X.env :: X.outer) (hf : X.env.frame = some X.env.locals) (tk : Takes X Wx)
    (hb : ∀ (W : WX) (pn : List (Addr × Obj)) (xe : Value → Shared → Prop), Takes (X.tr pn xe) W → PassesOwn (model X.prog X.w) X.A X.env xe → SSs (X.tr pn xe) F W B body mb) (hm : HdsM X G F B (h0 :: hds) l) :
    SS X F Wx B (.Try body (h0 :: hds) [] [] pos) (tryM G mb l) := by
  obtain ⟨l2, h1, h2⟩ := hds_run (Wx := Wx) hm
  refine ps_by fun D σ H h => ⟨_, ps_tryT hex hs hf tk (tb := fun W => tS X.K X.mg F W B mb) hb h1, ?_⟩
  obtain ⟨α, T, env, c, o⟩ := h
  refine ⟨α, T, env, c, ?_⟩
  unfold tryM at o
  cases q : mb env with
  | no => rw [q] at o; exact o
  | ok f e1 => rw [q] at o; exact o
  | exc x e1 =>
    rw [q] at o
    exact fun σ' H' α' cls d cc al rx => h2 o σ' H' α' cls d cc al rx
end
end PM

set_option maxHeartbeats 4000000
namespace PM
open PySem PySem.Spec PyProof.Rows L2
theorem vals3 {v1 v2 v3 : V} {us : List Value} (r : Vals [v1, v2, v3] us) : ∃ u1 u2 u3, us = [u1, u2, u3] ∧ RelV v1 u1 ∧ RelV v2 u2 ∧ RelV v3 u3 := by
  cases r with
  | cons p r =>
    cases r with
    | cons p' r =>
      cases r with
      | cons p'' r =>
        cases r
        exact ⟨_, _, _, rfl, p, p', p''⟩
def tPar3 (i j k : Nat) (ta : TA) : TS := fun D σ H => ta σ H fun vs H1 => ∃ u v w, vs = [u, v, w] ∧ D.nx (((σ.set i (some u)).set j (some v)).set k (some w)) H1
section
variable {X : Cx} {F : Frm} {Wx : WX} {B : List Nat}
theorem ps_par3 {i j k : Nat} {x y z : Str} {es : List Expr} {ta : TA} {px py pz pt : Pos} {kt k2 : Nat} {pt2 pos : Pos} (hc : X.calm = true) (hN : X.N.Nodup) (hi : X.N[i]? = some x) (hj : X.N[j]? = some y) (hk : X.N[k]? = some z) (hij : i ≠ j) (hik : i ≠ k) (hjk : j ≠ k)
    (hx : X.env.scope.names.lookup x = some .local) (hy : X.env.scope.names.lookup y = some .local) (hz : X.env.scope.names.lookup z = some .local) (ha : PA X es ta)
    (hw : swappedStores [.Tuple [.Name x px, .Name y py, .Name z pz] kt pt] (.Tuple es k2 pt2) X.env = pure (some [x, y, z]))
    (hs : swapsWithSole [.Tuple [.Name x px, .Name y py, .Name z pz] kt pt] (.Tuple es k2 pt2) pos.line X.env = pure false := by rfl) :
    PS X (.Assign [.Tuple [.Name x px, .Name y py, .Name z pz] kt pt] (.Tuple es k2 pt2) pos) (tPar3 i j k ta) := by
  refine ⟨fun pins s σ H D I h => ?_⟩
  rw [exec_Assign_arm]
  refine wpAny_bind (wpAny_standAt ?_)
  rw [hs]
  refine wpAny_bind (wpAny_pure ?_)
  rw [if_neg (by decide)]
  refine wpAny_bind (Tuple_ (thn (ha.run _ pins s σ H _ I h) fun us s1 ⟨vs, H1, I1, r1, q1⟩ => ?_))
  obtain ⟨v1, v2, v3, e1, q1⟩ := q1
  subst e1
  obtain ⟨u1, u2, u3, rfl, ra, rb, rc⟩ := vals3 r1
  refine wpAny_newObj_type ?_ (by show 3 ≤ sizeLine; rw [sizeLine_eq]; omega)
  have I2 : Inv X pins σ H1 { s1 with heap := s1.heap.push { cls := .type "tuple", data := .seq [u1, u2, u3].toArray } } := I1.kept (t' := s1.toks) fun b o e => Heap.get?_push_of_some _ e
  rw [hw]
  refine wpAny_bind (wpAny_pure ?_)
  show wpAny (model X.prog X.w) X.A (do rule "assign.swapped-stores"; let items ← unpackItems (.ref s1.heap.objs.size) 3 none; assignInOrder [fun v => bindName X.env z v, fun v => bindName X.env y v, fun v => bindName X.env x v] items.reverse; pure Flow.next) _ _ _
  refine wpAny_bind (wpAny_rule (wpAny_bind (unpackItems_tuple (items := #[u1, u2, u3]) (I.ok.hd hc) (IsTup.new s1.heap _) fun h' hx' => ?_)))
  have I3 := I2.kept (h' := h') (t' := s1.toks) fun b o e => hx' b o (Nat.ne_of_lt (Heap.lt_size e)) e
  show wpAny _ _ (assignInOrder [fun v => bindName X.env z v, fun v => bindName X.env y v, fun v => bindName X.env x v] [u3, u2, u1] >>= fun _ => pure Flow.next) _ _ _
  refine wpAny_bind (assignInOrder_cons (wpAny_bindName (store_ok I3 hN hk (.inl hz) rc (fun s2 I4 => ?_) (.inr hz))))
  refine assignInOrder_cons (wpAny_bindName (store_ok I4 hN hj (.inl hy) rb (fun s3 I5 => ?_) (.inr hy)))
  refine assignInOrder_cons (wpAny_bindName (store_ok I5 hN hi (.inl hx) ra (fun s4 I6 => assignInOrder_nil (wpAny_pure ?_)) (.inr hx)))
  have e : ((σ.set k (some v3)).set j (some v2)).set i (some v1) = ((σ.set i (some v1)).set j (some v2)).set k (some v3) := by
    rw [List.set_comm _ _ (Ne.symm hij), List.set_comm (some v3) (some v1) (Ne.symm hik), List.set_comm (some v3) (some v2) (Ne.symm hjk)]
  rw [e] at I6
  exact ⟨_, H1, I6, q1⟩
theorem ss_par3 {st : Stmt} {i j k : Nat} {es : List Expr} {ms : PM.Env → R (List Hd)} (hi : i ∈ B) (hj : j ∈ B) (hk : k ∈ B) (hA : PS X st (tPar3 i j k (tA X.K X.mg F Wx ms))) :
    SS X F Wx B st (fun env => (ms env).bind fun hs e1 => match pvs hs with
    | some [x, y, z] => if i < e1.length ∧ j < e1.length ∧ k < e1.length ∧ i ≠ j ∧ i ≠ k ∧ j ≠ k then .ok .nx (((e1.set i (.val x)).set j (.val y)).set k (.val z)) else .no
    | _ => .no) := ps_by fun D σ H h => ⟨_, hA, by
  obtain ⟨α, T, env, c, o⟩ := h
  try dsimp only at o
  refine tA_iff.mpr ⟨α, T, env, c, ?_⟩
  cases q : ms env with
  | no => rw [q] at o; exact o
  | exc x e1 => rw [q] at o; exact (show exS X.K X.mg F Wx B α T H x e1 from o).ex
  | ok hs e1 =>
    rw [q] at o
    intro H1 vs c1 k1 r1
    simp only [R.bind] at o
    split at o
    · rename_i x y z q2
      split at o
      · rename_i hl
        obtain ⟨l1, l2, l3, n1, n2, n3⟩ := hl
        obtain ⟨v1, r1', rfl, p1, v2, r2', rfl, p2, v3, r3', rfl, p3, e⟩ := r1.vals q2
        obtain rfl : r3' = [] := e
        refine ⟨v1, v2, v3, rfl, ?_⟩
        rw [c1.le] at l1 l2 l3
        have c2 := c1.setVal l1 p1
        have c3 := c2.setVal (i := j) (by rw [List.length_set]; exact l2) (p2.mono fun _ => mm_set_none)
        have c4 := c3.setVal (i := k) (by rw [List.length_set, List.length_set]; exact l3) (p3.mono fun _ z => mm_set_none (mm_set_none z))
        refine (show okS X.K X.mg F B α T H D .nx _ from o) _ H1 _ c4 ⟨k1, fun a z => .inl ?_, fun m hm => ?_⟩
        · have s1 : ∀ {β : Asg} {m : Nat} {a : Addr}, Ow (β.set m none) a → Ow β a := fun z => (ow_set z).elim (fun y => nomatch y) id
          exact s1 (s1 (s1 z))
        · rw [gO_set_ne (fun z : k = m => hm (by rw [← z]; exact hk)), gO_set_ne (fun z : j = m => hm (by rw [← z]; exact hj)), gO_set_ne (fun z : i = m => hm (by rw [← z]; exact hi))]
      · exact o.elim
    · exact o.elim⟩
/-- {k: v} -/
theorem sf_dic1 {ke ve : Expr} {pos : Pos} {mk mv : PM.Env → R Hd} (hk : SE X F Wx ke mk) (hv : SE X F Wx ve mv) : SF X F Wx (.Dict [some ke] [ve] pos) (fun env => (mk env).val.bind fun x e1 => (mv e1).val.bind fun y e2 => if isKey x = true then .ok (.dic [x] [y]) e2 else .no) := by
  refine pe_by fun σ H Q hq => ⟨_, pe_disp (pps_cons hk hv pps_nil) rfl rfl (fun z => nomatch z) (by show 1 ≤ 15; omega), ?_⟩
  obtain ⟨α, T, env, c, o⟩ := tF_iff.mp hq
  intro p hp
  have kp := Kp.new (M := fun _ => False) (o := .dK []) hp
  have c1 : Cfg X.K X.mg F α (p :: T) env σ (upd H p (.dK [])) := c.apart kp hp (by rw [upd_same]; exact fun z => nomatch z)
  have nO : ∀ {β : Asg}, β = α → ¬ Ow β p := fun e z => c.notin hp (.inr (.inl (e ▸ z)))
  have mm : ∀ y, MM F α T y → MM F α (p :: T) y := fun y z => z.imp id (Or.imp id (List.mem_cons_of_mem _))
  have ex : ∀ {x : Exn} {e : PM.Env} {H1 : Hp}, Kp (Ow α) (upd H p (.dK [])) H1 → exE X.K X.mg F Wx α T σ H x e → exE X.K X.mg F Wx α (p :: T) σ H1 x e := fun {x e H1} k1 z H' cls d c' k' r => z H' cls d c'.drop ((k0 (Kp.refl _ _) kp).trans (k1.trans k' fun _ y => .inl y) fun _ y => .inl y) (repX_mono mm r)
  show tE X.K X.mg F Wx mk σ (upd H p (.dK [])) _
  refine tE_iff.mpr ⟨α, p :: T, env, c1, ?_⟩
  unfold R.val at o
  cases q : mk env with
  | no => rw [q] at o; exact o.elim
  | exc x e1 => rw [q] at o; exact ex (Kp.refl _ _) o
  | ok hd e1 =>
    rw [q] at o
    cases hd with
    | s => exact o.elim
    | v x =>
      intro H1 vx c2 k1 r1
      simp only [pv1, R.opt, R.bind] at o
      show tE X.K X.mg F Wx mv σ H1 _
      refine tE_iff.mpr ⟨α, p :: T, e1, c2, ?_⟩
      cases q2 : mv e1 with
      | no => rw [q2] at o; exact o.elim
      | exc x e2 => rw [q2] at o; exact ex k1 o
      | ok hd2 e2 =>
        rw [q2] at o
        cases hd2 with
        | s => exact o.elim
        | v y =>
          intro H2 vy c3 k2 r2
          simp only at o
          split at o
          case isFalse => exact o.elim
          rename_i hkey
          have hp2 : H2 p = some (.dK []) := k2.k _ _ (k1.k _ _ upd_same (nO rfl)) (nO rfl)
          have rx : Rep X.K X.mg (MM F α (p :: T)) H2 x vx := Rep.kp k2 (fun _ z => .inl (own_mm z)) (fun _ z => .inl z) _ _ r1
          obtain ⟨kx, ekx, evx⟩ : ∃ kx : Key, x = kW kx ∧ vx = kV kx := by
            cases x <;> first | (cases hkey; done) | skip
            · rename_i i; exact ⟨.inl i, rfl, rx⟩
            · rename_i z; exact ⟨.inr z, rfl, rx⟩
          subst ekx
          subst evx
          show H2 p = some (.dK []) ∧ ∃ kvs : List (Key × V), [(kV kx, vy)] = kvs.map (fun kv => (kV kv.1, kv.2)) ∧ kvs.length ≤ 15 ∧ Q (.ref p) (upd H2 p (.dK (mergeK [] kvs)))
          refine ⟨hp2, [(kx, vy)], rfl, (by show 1 ≤ 15; omega), ?_⟩
          have km : Kp (fun a => a = p) H2 (upd H2 p (.dK (mergeK [] [(kx, vy)]))) := Kp.mut hp2 (fun z => z) rfl
          refine (show okF X.K X.mg F α T σ H Q (.dic [kW kx] [y]) e2 from o) _ p hp (c3.mutT List.mem_cons_self hp2 (fun z => z) (c.h0 hp)) ?_ ⟨[(kx, vy)], upd_same, rfl, ⟨vy, [], rfl, ?_, rfl⟩⟩
          · exact (((k0 (Kp.refl _ _) kp).trans k1 fun _ y => .inl y).trans k2 fun _ y => .inl y).trans km fun a z => .inr (by rw [z]; exact hp)
          · exact Rep.kp km (fun a z => .inl (by rw [z]; exact .inr (.inr List.mem_cons_self))) (fun _ z => .inl z) _ _ r2
end
end PM

set_option maxHeartbeats 4000000
namespace PM
open PySem L2
section
variable {X : Cx}
theorem isKey_kW {w : W} (h : isKey w = true) : ∃ k, w = kW k := key_of h
theorem dOf_rep {K : PySem.W.Frag} {mg : Str → Option Value} {M : AP'} {H : Hp} : ∀ {ws : List W} {xs : List V} {kv0 : List (Key × V)} {ws0 ks vs : List W}, RepL K mg M H ws xs → RepL K mg M H ws0 (kv0.map (·.2)) → dOf ws (kv0.map (fun p => kW p.1), ws0) = some (ks, vs) →
    ∃ (ps : List Addr) (kvs : List (Key × V)), xs = ps.map V.ref ∧ Paired (fun p kv => SqT K H p [kV kv.1, kv.2]) ps kvs ∧ (mergeK kv0 kvs).map (fun p => kW p.1) = ks ∧ RepL K mg M H vs ((mergeK kv0 kvs).map (·.2))
  | [], xs, kv0, ws0, ks, vs, r, r0, h => by
    have e : xs = [] := r
    subst e
    unfold dOf at h
    cases h
    exact ⟨[], [], rfl, .nil, rfl, r0⟩
  | w :: ws, xs, kv0, ws0, ks, vs, r, r0, h => by
    obtain ⟨v, r', rfl, r1, r2⟩ := r
    unfold dOf at h
    split at h
    · rename_i z; cases z
    · rename_i k u r3 z
      injection z with z1 z2
      subst z1 z2
      split at h
      case isFalse => cases h
      rename_i hk
      obtain ⟨kx, rfl⟩ := key_of hk
      obtain ⟨t, us, rfl, ht, v1, q1, e1, g1, v2, q2, e2, g2, g3⟩ := r1
      have g3 : q2 = [] := g3
      subst g3 e2 e1
      have g1 := rep_kW g1
      subst g1
      obtain ⟨p1, p2⟩ := dPut_rep (k := kx) r0 g2
      have h' : dOf ws ((putK kv0 kx v2).map (fun p => kW p.1), (dPut (kv0.map fun p => kW p.1) ws0 (kW kx) u).2) = some (ks, vs) := by rw [p1]; exact h
      obtain ⟨ps, kvs, e, pa, m1, m2⟩ := dOf_rep r2 p2 h'
      subst e
      exact ⟨t :: ps, (kx, v2) :: kvs, rfl, .cons (.inl (.inl ht)) pa, m1, m2⟩
    · cases h
theorem fb_dict (hc : X.calm = true) {ws : List W} {w : W} (h : dictW ws = some w) : FbSem X "dict" ws w := by
  have hb : bootBuiltins "dict" = some (.type "dict") := by decide +kernel
  unfold dictW at h
  split at h
  · rename_i us
    split at h
    case h_2 => cases h
    rename_i ks vs hd
    cases h
    refine ⟨_, .inr ⟨_, call_dictP hc, hb⟩, fun M H xs Q tr r k => ?_⟩
    obtain ⟨v, rfl, r1⟩ := repBs1 r
    obtain ⟨a, vs1, rfl, h1, h2⟩ := repB_lst r1
    obtain ⟨ps, kvs, e, pa, m1, m2⟩ := dOf_rep (kv0 := []) (ws0 := []) h2 rfl hd
    subst e
    refine ⟨a, ps, kvs, rfl, .inl (.inl h1), pa, fun p hp => k _ p hp (Kp.new _ hp) upd_some ⟨_, upd_same, m1, ?_⟩⟩
    exact m2.kp (Kp.new (fun _ => False) hp) (fun _ z => z.elim) fun x z => z.imp id fun e => by rw [e]; exact hp
  · rename_i ks vs
    cases h
    refine ⟨_, .inr ⟨_, call_dictD, hb⟩, fun M H xs Q tr r k => ?_⟩
    obtain ⟨v, rfl, r1⟩ := repBs1 r
    obtain ⟨a, kvs, rfl, h1, h2, h3⟩ := repB_dic r1
    refine ⟨a, kvs, rfl, h1, fun p hp => k _ p hp (Kp.new _ hp) upd_some ⟨_, upd_same, h2, ?_⟩⟩
    exact h3.kp (Kp.new (fun _ => False) hp) (fun _ z => z.elim) fun x z => z.imp id fun e => by rw [e]; exact hp
  · cases h
end
end PM

set_option maxHeartbeats 4000000
namespace PM
open PySem L2
section
variable {X : Cx} {F : Frm} {Wx : WX} {k : Nat} {C : CallT}
/-! ### o[k] -/
theorem se_sub {a i : Expr} {ma mi : PM.Env → R Hd} {pos : Pos} (hu : X.A.units + 70 < cLine) (ha : SE X F Wx a ma) (hi : SE X F Wx i mi) (hs : slOk i = true) : SE X F Wx (.Subscript a i pos) (two ma mi subW) := by
  have ns : NoSl i := fun ov iv => by cases i <;> first | rfl | (simp [slOk] at hs)
  have z : PE X (.Subscript a i pos) (tOp (fun x y H Q => ∃ a v, x = .ref a ∧ DGet H a y (some v) ∧ Q v H) (tE X.K X.mg F Wx ma) (tE X.K X.mg F Wx mi)) := pe_dget (by omega) ha hi ns
  refine se_two (P := fun r => PE X (.Subscript a i pos) (tOp r (tE X.K X.mg F Wx ma) (tE X.K X.mg F Wx mi))) (tt := fun r => tOp r (tE X.K X.mg F Wx ma) (tE X.K X.mg F Wx mi)) (fun r hr => hr) ?_ fun u v w h => ?_
  · exact pe_by fun σ H Q hq => ⟨_, z, by
      obtain ⟨α, T, env, c, o⟩ := tE_iff.mp hq
      refine tE_iff.mpr ⟨α, T, env, c, o.imp (fun hd e1 o1 H' v c k r => ?_) fun _ _ z => z⟩
      obtain ⟨α, T, env, c, o⟩ := tE_iff.mp (o1 H' v c k r)
      exact tE_iff.mpr ⟨α, T, env, c, o.imp (fun hd e1 o1 H' v c k r => (o1 H' v c k r).elim) fun _ _ z => z⟩⟩
  · by_cases hd : ∃ ks ws, u = .dic ks ws
    · obtain ⟨ks, ws, rfl⟩ := hd
      simp only [subW] at h
      split at h
      · rename_i hk
        obtain ⟨kx, rfl⟩ := key_of hk
        refine ⟨_, z, fun M H x y Q tr rx ry kq => ?_⟩
        obtain ⟨a, kvs, rfl, h1, h2, h3⟩ := repB_dic rx
        subst h2
        obtain ⟨v, hv, rv⟩ := dget_val h h3
        have hy : y = kV kx := by
          rcases ry with ry | ⟨b, rfl, ry⟩
          · exact rep_kW ry
          · cases kx <;> exact ry.elim
        rw [hy]
        exact ⟨a, v, rfl, .inl ⟨kvs, kx, h1, rfl, hv.symm⟩, kq H v (Kp.refl _ _) rv⟩
      · cases h
    · obtain ⟨r, hr, hq⟩ := sub_sem h fun ks ws e => hd ⟨ks, ws, e⟩
      exact ⟨r, pe_ix hr ha hi (sl_of hs), hq⟩

/-! ### what is known -/
structure Gk where
  defs : List Str
  blts : List Str
  G : Glob
  hot : Bool := false
  hdefs : List Str := []   -- defs that are called where an exception is handled
structure Sc where
  N : List Str
  own : List Nat
  scope : Scope
  fn : Str → Bool
/-- what is known of calls where an exception is handled -/
structure XH (X : Cx) (g : Gk) (k : Nat) : Prop where
  defs : ∀ x, x ∈ g.hdefs → FnH X true k g.G.hc x
  prop : ∀ c m, methK g.G c m = some .prop → FnP X true k g.G.hc c m
  meth : ∀ c m, methK g.G c m = some .meth → FnM X true k g.G.hc c m
  eq : ∀ c, methK g.G c "__eq__" = some .spec → FnQ X true k g.G.hc c
  mkc : ∀ c, (g.G.cls c).isSome = true → FnC X true k g.G.hc c
structure XR (g : Gk) (X : Cx) (F : Frm) (Wx : WX) (k : Nat) (C : CallT) (sc : Sc) : Prop where
  hN : X.N = sc.N
  nd : X.N.Nodup
  hs : X.env.scope = sc.scope
  fn : X.fn = sc.fn
  calm : g.hot = false → X.calm = true
  hu : X.A.units + 70 < cLine
  room : PMX.RoomG g.hot k X.A
  tk : Takes X Wx
  defs : ∀ x, x ∈ g.defs → FnH X g.hot k C x
  blt : ∀ x, x ∈ g.blts → X.mg x = none
  cst : ∀ x w, g.G.cst x = some w → GlC X x w
  cls : ∀ c f, fldK g.G c f = true → ClsH X c f
  prop : ∀ c m, methK g.G c m = some .prop → FnP X g.hot k C c m
  meth : ∀ c m, methK g.G c m = some .meth → FnM X g.hot k C c m
  eq : ∀ c, methK g.G c "__eq__" = some .spec → FnQ X g.hot k C c
  mkc : ∀ c, (g.G.cls c).isSome = true → FnC X g.hot k C c
  isi : IsiOk X g.G.isi
  xcl : ∀ c o, g.G.xcl c = some o → XcH X c (some o)
  exm : ∀ x c b C v, g.G.exm x c = some b → X.mg x = some (.ref C) → clsV X.mg c v → PySem.W.exmOne X.K (.ref C) v = some b
  hx : g.hot = false → XH X g k
def slotN : List Str → Str → Option Nat
  | [], _ => none
  | y :: ys, x => if y = x then some 0 else (slotN ys x).map (· + 1)
theorem slotN_of : ∀ {N : List Str} {x : Str} {i : Nat}, slotN N x = some i → N[i]? = some x
  | [], _, _, h => by cases h
  | y :: ys, x, i, h => by
    unfold slotN at h
    split at h
    · rename_i e; cases h; rw [e]; rfl
    · cases q : slotN ys x with
      | none => rw [q] at h; cases h
      | some j => rw [q] at h; cases h; rw [List.getElem?_cons_succ]; exact slotN_of q
def visB (s : Scope) (x : Str) : Bool := match s.names.lookup x with | some .local => true | some .cell => true | some .free => true | _ => false
def locB (s : Scope) (x : Str) : Bool := match s.names.lookup x with | some .local => true | some .cell => true | _ => false
def lclB (s : Scope) (x : Str) : Bool := match s.names.lookup x with | some .local => true | _ => false
def glB (s : Scope) (x : Str) : Bool := match s.names.lookup x with | some .globalImplicit => true | _ => false
theorem visB_of {s : Scope} {x : Str} (h : visB s x = true) : Vis s x := by
  unfold visB at h
  split at h <;> first | exact .inl (by assumption) | exact .inr (.inl (by assumption)) | exact .inr (.inr (by assumption)) | cases h
theorem locB_of {s : Scope} {x : Str} (h : locB s x = true) : Loc s x := by
  unfold locB at h
  split at h <;> first | exact .inl (by assumption) | exact .inr (by assumption) | cases h
theorem lclB_of {s : Scope} {x : Str} (h : lclB s x = true) : s.names.lookup x = some .local := by
  unfold lclB at h
  split at h <;> first | assumption | cases h
theorem glB_of {s : Scope} {x : Str} (h : glB s x = true) : s.names.lookup x = some .globalImplicit := by
  unfold glB at h
  split at h <;> first | assumption | cases h
def dbgB (x : Str) : Bool := decide (x = ("__debug__" : Str)) || decide (x = ("__classdict__" : Str)) || decide (x = ("__name__" : Str))
theorem dbg_of {x : Str} (h : dbgB x = false) : (x == ("__debug__" : Str)) = false ∧ (x == ("__classdict__" : Str)) = false ∧ x ≠ "__name__" := by
  unfold dbgB at h
  simp only [Bool.or_eq_false_iff, decide_eq_false_iff_not] at h
  exact ⟨beq_eq_false_iff_ne.mpr h.1.1, beq_eq_false_iff_ne.mpr h.1.2, h.2⟩
variable {g : Gk} {sc : Sc}
theorem XR.gl (r : XR g X F Wx k C sc) {x : Str} (h : glB sc.scope x = true) : Gl X x := by
  show X.env.scope.names.lookup x = _
  rw [r.hs]; exact glB_of h
theorem XR.vis (r : XR g X F Wx k C sc) {x : Str} (h : visB sc.scope x = true) : Vis X.env.scope x := by rw [r.hs]; exact visB_of h
theorem XR.slot (r : XR g X F Wx k C sc) {x : Str} {i : Nat} (h : slotN sc.N x = some i) : X.N[i]? = some x := by rw [r.hN]; exact slotN_of h

/-! ### expressions -/
def o2 {α β γ : Type} (a : Option α) (b : Option β) (f : α → β → γ) : Option γ := match a, b with
  | some x, some y => some (f x y)
  | _, _ => none
theorem o2_of {α β γ : Type} {a : Option α} {b : Option β} {f : α → β → γ} {z : γ} (h : o2 a b f = some z) : ∃ x y, a = some x ∧ b = some y ∧ z = f x y := by
  unfold o2 at h
  split at h <;> cases h
  exact ⟨_, _, rfl, rfl, rfl⟩
theorem omap_of {α β : Type} {a : Option α} {f : α → β} {z : β} (h : a.map f = some z) : ∃ x, a = some x ∧ z = f x := by
  cases a with
  | none => cases h
  | some x => cases h; exact ⟨x, rfl, rfl⟩
def tyNs : List (Str × String) := [("int", "int"), ("bool", "bool"), ("str", "str"), ("tuple", "tuple"), ("list", "list"), ("dict", "dict"), ("ValueError", "ValueError"), ("KeyError", "KeyError"), ("IndexError", "IndexError"), ("LookupError", "LookupError"), ("RuntimeError", "RuntimeError"), ("OverflowError", "OverflowError"), ("ArithmeticError", "ArithmeticError")]
def tyN (x : Str) : Option String := tyNs.lookup x
def trName (g : Gk) (sc : Sc) (x : Str) : Option Ex :=
  if dbgB x = true then none else
  if visB sc.scope x = true then (slotN sc.N x).map fun i => if sc.own.contains i = true then .bor i else .var i
  else if glB sc.scope x = true then
    if (g.G.cst x).isSome = true then some (.glo x)
    else if g.blts.contains x = true then (tyN x).map fun n => .lit (.ty n)
    else if (g.G.cls x).isSome = true then some (.lit (.glo x))
    else if (g.G.xcl x).isSome = true then some (.lit (.glo x))
    else none
  else none
def trConst : Const → Option Ex
  | .int i => some (.lit (.int i))
  | .bool b => some (.lit (.bl b))
  | .str x => some (.lit (.str x))
  | .none => some (.lit .non)
  | _ => none
structure Tr where
  E : Sc → Expr → Option Ex
  F : Sc → Expr → Option Fr
  I : Sc → Expr → Expr → Option Iz
def trL (f : Expr → Option Ex) : List Expr → Option Exs
  | [] => some .nil
  | e :: es => if nS e = true then o2 (f e) (trL f es) .cons else none
def trAnd (f : Expr → Option Ex) : List Expr → Option Ex
  | [] => none
  | [a] => f a
  | a :: b :: r => o2 (f a) (trAnd f (b :: r)) .and
def trOr (f : Expr → Option Ex) : List Expr → Option Ex
  | [] => none
  | [a] => f a
  | a :: b :: r => o2 (f a) (trOr f (b :: r)) .or
def biOf (x : Str) : Option Bi :=
  if x = ("len" : Str) then some .len else if x = ("abs" : Str) then some .abs else if x = ("int" : Str) then some .int else if x = ("str" : Str) then some .str else if x = ("tuple" : Str) then some .tuple
  else if x = ("max" : Str) then some .max else if x = ("min" : Str) then some .min else if x = ("sum" : Str) then some .sum else if x = ("all" : Str) then some .all else if x = ("any" : Str) then some .any else if x = ("isinstance" : Str) then some .isin else if x = ("repr" : Str) then some .repr else none
/-- built-ins that are asked only where no exception is handled -/
def calmBi : Bi → Bool
  | .max => true | .min => true | .sum => true | .all => true | .any => true
  | _ => false
def fbOf (x : Str) : Option Fb := if x = ("list" : Str) then some .list else if x = ("sorted" : Str) then some .sorted else if x = ("dict" : Str) then some .dict else none
def omOf (x : Str) (n : Nat) : Option Om := if x = ("append" : Str) then some .append else if x = ("extend" : Str) then some .extend else if x = ("pop" : Str) then (if n = 1 then some .popAt else none) else none
/-- a call by a name -/
def trCallE (g : Gk) (T : Tr) (sc : Sc) (f : Str) (es : List Expr) (e : Expr) : Option Ex :=
  if dbgB f = true then none else
  if glB sc.scope f = true then
    if g.defs.contains f = true then (trL (T.E sc) es).map (.call f)
    else if (g.G.cls f).isSome = true ∧ es ≠ [] then (trL (T.E sc) es).map (.call f)
    else if (g.G.xcl f).isSome = true then (match es with
      | [a] => if nS a = true then (T.E sc a).map (.mkx f) else none
      | _ => none)
    else if g.blts.contains f = true ∧ es ≠ [] then
      match biOf f with
      | some b => if g.hot = true ∧ calmBi b = true then none else (trL (T.E sc) es).map (.bi b)
      | none => (T.F sc e).map .frz
    else none
  else none
def trMeth (T : Tr) (sc : Sc) (o : Expr) (m : Str) (apos : Pos) (es : List Expr) (pos : Pos) : Option Ex :=
  if (apos.endLine == pos.line) = true ∧ es.length < 30 then
    match o with
    | .Name x _ => if dbgB x = true then none else
        (match slotN sc.N x, omOf m es.length with
        | some i, some om => if sc.own.contains i = true ∧ visB sc.scope x = true ∧ es ≠ [] then (trL (T.E sc) es).map (.om i om) else none
        | _, _ => o2 (T.E sc o) (trL (T.E sc) es) fun a as => .meth a m as)
    | _ => if baseOk o = true then o2 (T.E sc o) (trL (T.E sc) es) fun a as => .meth a m as else none
  else none
/-- the argument in f(s(a)) -/
def innerOf (f s : Str) (f' : Str) (es : List Expr) : Option (List Expr) := match es with
  | [.Call (.Name s' _) as [] _] => if f' = f ∧ s' = s then some as else none
  | _ => none
def trLenSet (g : Gk) (T : Tr) (sc : Sc) (as : List Expr) : Option Ex := match as with
  | [a] => if g.hot = false ∧ glB sc.scope ("len" : Str) = true ∧ glB sc.scope ("set" : Str) = true ∧ g.blts.contains ("len" : Str) = true ∧ g.blts.contains ("set" : Str) = true ∧ nS a = true then (T.E sc a).map .lenset else none
  | _ => none
def trLRng (g : Gk) (T : Tr) (sc : Sc) (as : List Expr) : Option Fr :=
  if glB sc.scope ("list" : Str) = true ∧ glB sc.scope ("range" : Str) = true ∧ g.blts.contains ("list" : Str) = true ∧ g.blts.contains ("range" : Str) = true then
    match as with
    | [a] => if nS a = true then (T.E sc a).map .lrng1 else none
    | [a, b] => if nS a = true ∧ nS b = true then o2 (T.E sc a) (T.E sc b) .lrng2 else none
    | _ => none
  else none
def stepE (g : Gk) (T : Tr) (sc : Sc) (e : Expr) : Option Ex := match e with
  | .Name x _ => trName g sc x
  | .Constant c _ _ => trConst c
  | .BinOp a op b _ => o2 (T.E sc a) (T.E sc b) (.bin op)
  | .UnaryOp .USub a _ => (T.E sc a).map .neg
  | .UnaryOp .Not a _ => (T.E sc a).map .not
  | .BoolOp .And es _ => trAnd (T.E sc) es
  | .BoolOp .Or es _ => trOr (T.E sc) es
  | .Compare a [op] [b] _ => if bmOk b = true then o2 (T.E sc a) (T.E sc b) (.cmp op) else none
  | .Compare a [p, q] [b, c] _ => if bmOk c = true then o2 (T.E sc a) (o2 (T.E sc b) (T.E sc c) Prod.mk) fun a bc => .cmp2 p q a bc.1 bc.2 else none
  | .IfExp c a b _ => o2 (T.E sc c) (o2 (T.E sc a) (T.E sc b) Prod.mk) fun c ab => .ite c ab.1 ab.2
  | .Tuple es _ _ => if es.length ≤ 1000 then (trL (T.E sc) es).map .tup else none
  | .List _ _ => (T.F sc e).map .frz
  | .ListComp _ _ _ _ => (T.F sc e).map .frz
  | .DictComp _ _ _ _ _ => (T.F sc e).map .frz
  | .Dict _ _ _ => (T.F sc e).map .frz
  | .Subscript a i _ => if slOk i = true then o2 (T.E sc a) (T.E sc i) .sub else none
  | .Attribute a f _ => if baseOk a = true then (T.E sc a).map fun t => .att t f else none
  | .Call (.Name f _) es [] _ => match innerOf "len" "set" f es with
    | some as => trLenSet g T sc as
    | none => trCallE g T sc f es e
  | .Call (.Attribute o m apos) es [] pos => trMeth T sc o m apos es pos
  | _ => none
/-- new things -/
def trCallF (g : Gk) (T : Tr) (sc : Sc) (f : Str) (es : List Expr) : Option Fr :=
  if dbgB f = true then none else
  if glB sc.scope f = true then
    if g.defs.contains f = true then (trL (T.E sc) es).map (.call f)
    else if (g.G.cls f).isSome = true ∧ es ≠ [] then (trL (T.E sc) es).map (.call f)
    else if g.blts.contains f = true ∧ es ≠ [] ∧ (f = ("dict" : Str) → g.hot = false) then
      match fbOf f with
      | some b => (trL (T.E sc) es).map (.fb b)
      | none => none
    else none
  else none
def trTg (sc : Sc) : Nat → Expr → Option Tg
  | 0, _ => none
  | n + 1, e => match e with
    | .Name x _ => if locB sc.scope x = true ∧ (sc.fn x = true ∨ lclB sc.scope x = true) then (slotN sc.N x).map .nm else none
    | .Tuple [a, b] _ _ => if tgPlain a = true ∧ tgPlain b = true then o2 (trTg sc n a) (trTg sc n b) .tp2 else none
    | .Tuple [a, b, c] _ _ => if tgPlain a = true ∧ tgPlain b = true ∧ tgPlain c = true then o2 (trTg sc n a) (o2 (trTg sc n b) (trTg sc n c) Prod.mk) fun a bc => .tp3 a bc.1 bc.2 else none
    | _ => none
def blkOwn (N : List Str) (scope : Scope) : List (Str × Nat) := scope.names.filterMap fun y => match y.2 with
  | .local => (slotN N y.1).map fun i => (y.1, i)
  | .cell => (slotN N y.1).map fun i => (y.1, i)
  | _ => none
def blkSc (sc : Sc) (scope : Scope) : Sc := { sc with scope := relS scope sc.scope, fn := fun x => scope.names.lookup x == some .cell }
def notSet : Expr → Bool
  | .Set _ _ _ => false
  | _ => true
def trIfs (f : Expr → Option Ex) : List Expr → Option Ex
  | [] => some (.lit (.bl true))
  | [c] => f c
  | _ => none
def slotsIn (t : Tg) (vs : List Nat) : Bool := t.slots.all fun i => vs.contains i
def stepF (g : Gk) (T : Tr) (sc : Sc) (e : Expr) : Option Fr := match e with
  | .List es _ => if es.length ≤ 1000 then (trL (T.E sc) es).map .lst else none
  | .Call (.Name f _) es [] _ => match innerOf "list" "range" f es with
    | some as => trLRng g T sc as
    | none => trCallF g T sc f es
  | .ListComp elt [⟨tg, iter, ifs, 0⟩] scope _ =>
    let vs := (blkOwn sc.N scope).map (·.2)
    if blkC sc.N sc.scope scope (blkOwn sc.N scope) = true ∧ notSet iter = true ∧ (vs.all fun i => !sc.own.contains i) = true then
      match T.I sc tg iter, trTg (blkSc sc scope) 5 tg, trIfs (T.E (blkSc sc scope)) ifs, T.E (blkSc sc scope) elt with
      | some it, some t, some c, some x => if slotsIn t vs = true then some (.comp x t it c vs) else none
      | _, _, _, _ => none
    else none
  | .ListComp elt [⟨tg, iter, ifs, 0⟩, ⟨tg1, iter1, ifs1, 0⟩] scope _ =>
    let vs := (blkOwn sc.N scope).map (·.2)
    if blkC sc.N sc.scope scope (blkOwn sc.N scope) = true ∧ notSet iter = true ∧ notSet iter1 = true ∧ (vs.all fun i => !sc.own.contains i) = true then
      match T.I sc tg iter, trTg (blkSc sc scope) 5 tg, trIfs (T.E (blkSc sc scope)) ifs, T.I (blkSc sc scope) tg1 iter1, trTg (blkSc sc scope) 5 tg1, trIfs (T.E (blkSc sc scope)) ifs1, T.E (blkSc sc scope) elt with
      | some it, some t, some c, some it1, some t1, some c1, some x => if slotsIn t vs = true ∧ slotsIn t1 vs = true then some (.comp2 x t it c t1 it1 c1 vs t1.slots) else none
      | _, _, _, _, _, _, _ => none
    else none
  | .DictComp kx vx [⟨tg, iter, ifs, 0⟩] scope _ =>
    let vs := (blkOwn sc.N scope).map (·.2)
    if blkC sc.N sc.scope scope (blkOwn sc.N scope) = true ∧ notSet iter = true ∧ (vs.all fun i => !sc.own.contains i) = true then
      match T.I sc tg iter, trTg (blkSc sc scope) 5 tg, trIfs (T.E (blkSc sc scope)) ifs, T.E (blkSc sc scope) kx, T.E (blkSc sc scope) vx with
      | some it, some t, some c, some x, some y => if slotsIn t vs = true then some (.dcomp x y t it c vs) else none
      | _, _, _, _, _ => none
    else none
  | .Dict [] [] _ => some .dic0
  | .Dict [some k] [v] _ => o2 (T.E sc k) (T.E sc v) .dic1
  | _ => none
def isTupE : Expr → Bool
  | .Tuple _ _ _ => true
  | _ => false
def stepI (g : Gk) (T : Tr) (sc : Sc) (tg e : Expr) : Option Iz := match e with
  | .Call (.Name f _) [a] [] _ => if glB sc.scope f = true ∧ g.blts.contains f = true ∧ nS a = true then
      (if f = ("range" : Str) then (T.E sc a).map fun t => .rng (.cons t .nil)
      else if f = ("enumerate" : Str) ∧ isTupE tg = true then (T.E sc a).map fun t => .enum t (.lit (.int 0))
      else (T.E sc e).map .seq)
    else (T.E sc e).map .seq
  | .Call (.Name f _) [a, b] [] _ => if glB sc.scope f = true ∧ g.blts.contains f = true ∧ nS a = true ∧ nS b = true then
      (if f = ("range" : Str) then o2 (T.E sc a) (T.E sc b) fun t u => .rng (.cons t (.cons u .nil))
      else if f = ("enumerate" : Str) ∧ isTupE tg = true then o2 (T.E sc a) (T.E sc b) .enum
      else if f = ("zip" : Str) ∧ isTupE tg = true then o2 (T.E sc a) (T.E sc b) .zip
      else (T.E sc e).map .seq)
    else (T.E sc e).map .seq
  | .Call (.Name f _) [a] [⟨some kw, b, _⟩] _ => if glB sc.scope f = true ∧ g.blts.contains f = true ∧ nS a = true ∧ f = ("enumerate" : Str) ∧ kw = ("start" : Str) ∧ isTupE tg = true then o2 (T.E sc a) (T.E sc b) .enum else none
  | _ => (T.E sc e).map .seq
def tr (g : Gk) : Nat → Tr
  | 0 => ⟨fun _ _ => none, fun _ _ => none, fun _ _ _ => none⟩
  | n + 1 => ⟨stepE g (tr g n), fun sc e => if g.hot = true then none else stepF g (tr g n) sc e, fun sc tg e => if g.hot = true then none else stepI g (tr g n) sc tg e⟩
end
end PM

set_option maxHeartbeats 4000000
namespace PM
open PySem L2
section
variable {X : Cx} {F : Frm} {Wx : WX} {k : Nat} {C : CallT} {g : Gk} {sc : Sc} {T : Tr}
def plainT : Expr → Bool
  | .UnaryOp .Not _ _ => false
  | .BoolOp _ _ _ => false
  | .IfExp _ _ _ _ => false
  | .Compare _ _ _ _ => false
  | _ => true
theorem isTrue_rest {e : Expr} {env : PySem.Env} (h : plainT e = true) :
    ∀ whole, isTrue e env whole = (do let v ← whole; standAt e.pos; holding [v] (truthy v)) := by
  intro whole
  cases e with
  | UnaryOp op a pos => cases op <;> first | rfl | cases h
  | _ => first | rfl | cases h
structure TOk (g : Gk) (T : Tr) : Prop where
  E : ∀ {X F Wx k C sc e t}, XR g X F Wx k C sc → T.E sc e = some t → SE X F Wx e (evalE C g.G t) ∧ ST X F Wx e (fun env => (evalE C g.G t env).bool)
  F : ∀ {X F Wx k C sc e t}, XR g X F Wx k C sc → T.F sc e = some t → SF X F Wx e (evalF C g.G t)
  I : ∀ {X F Wx k C sc tg e t}, XR g X F Wx k C sc → T.I sc tg e = some t → SI X F Wx tg e (evalI C g.G t)
def Exs.len : Exs → Nat
  | .nil => 0
  | .cons _ es => es.len + 1
theorem evalEs_len {G : Glob} : ∀ {es : Exs} {env : PM.Env} {hs : List Hd} {e1 : PM.Env}, evalEs C G es env = .ok hs e1 → hs.length = es.len
  | .nil, env, hs, e1, h => by rw [evalEs] at h; cases h; rfl
  | .cons e es, env, hs, e1, h => by
    rw [evalEs] at h
    cases q : evalE C G e env with
    | no => rw [q] at h; cases h
    | exc => rw [q] at h; cases h
    | ok x e2 =>
      rw [q, R.bind_ok] at h
      cases q2 : evalEs C G es e2 with
      | no => rw [q2] at h; cases h
      | exc => rw [q2] at h; cases h
      | ok xs e3 =>
        rw [q2, R.bind_ok] at h
        cases h
        show xs.length + 1 = _
        rw [evalEs_len q2]; rfl
theorem trL_ok (r : XR g X F Wx k C sc) (H : ∀ e t, T.E sc e = some t → SE X F Wx e (evalE C g.G t)) : ∀ {es : List Expr} {t : Exs}, trL (T.E sc) es = some t → SA X F Wx es (evalEs C g.G t) ∧ es.all nS = true ∧ t.len = es.length
  | [], t, h => by cases h; exact ⟨sa_nil, rfl, rfl⟩
  | e :: es, t, h => by
    unfold trL at h
    split at h
    · rename_i hn
      obtain ⟨a, b, h1, h2, rfl⟩ := o2_of h
      obtain ⟨s1, s2, s3⟩ := trL_ok r H h2
      exact ⟨sa_cons hn (H e a h1) s1, by rw [List.all_cons, hn, s2]; rfl, by show b.len + 1 = _; rw [s3]; rfl⟩
    · cases h
theorem lk_mem {β : Type} : ∀ {l : List (Str × β)} {x : Str} {y : β}, l.lookup x = some y → (x, y) ∈ l
  | [], _, _, h => by cases h
  | (a, b) :: l, x, y, h => by
    rw [List.lookup_cons] at h
    cases q : x == a with
    | true =>
      rw [q] at h
      cases h
      rw [beq_iff_eq.mp q]
      exact List.mem_cons_self
    | false =>
      rw [q] at h
      exact List.mem_cons_of_mem _ (lk_mem h)
theorem tyNs_ok : ∀ p ∈ tyNs, bootBuiltins p.1 = some (.type p.2) := by decide +kernel
theorem tyN_of {x : Str} {n : String} (h : tyN x = some n) : bootBuiltins x = some (.type n) := tyNs_ok (x, n) (lk_mem h)
theorem trName_ok (r : XR g X F Wx k C sc) {x : Str} {t : Ex} {pos : Pos} (h : trName g sc x = some t) : SE X F Wx (.Name x pos) (evalE C g.G t) := by
  unfold trName at h
  split at h
  · cases h
  rename_i hd
  obtain ⟨d1, d2, d3⟩ := dbg_of (by simpa using hd)
  split at h
  · rename_i hv
    obtain ⟨i, h1, rfl⟩ := omap_of h
    split
    · exact se_bor (r.slot h1) (r.vis hv) d1 d2
    · exact se_var (r.slot h1) (r.vis hv) d1 d2
  · split at h
    · rename_i hg
      split at h
      · rename_i hc
        cases h
        obtain ⟨w, hw⟩ := Option.isSome_iff_exists.mp hc
        have e : evalE C g.G (.glo x) = fun env => .ok (.v w) env := by funext env; rw [evalE]; rw [hw]
        rw [e]
        exact se_glo (r.cst x w hw) (r.gl hg) d1
      · split at h
        · rename_i hb
          obtain ⟨n, h1, rfl⟩ := omap_of h
          have hm := r.blt x (List.contains_iff_mem.mp hb)
          have tyv : ∀ {n : String}, bootBuiltins x = some (.type n) → SE X F Wx (.Name x pos) (evalE C g.G (.lit (.ty n))) := fun {n} hbt => by
            refine se_const (v := .ty n) ⟨fun pins s σ H Q I h => ?_⟩ fun M H => rfl
            exact ld_blt I (r.gl hg) hm hbt ⟨.ty n, H, I, rfl, h⟩ d3 d1
          exact tyv (tyN_of h1)
        · split at h
          · rename_i hc
            cases h
            obtain ⟨A, f, fd, ps, j, gg, rfl, hm, _⟩ := (r.mkc x hc).ex
            refine se_const (v := .ref A) ⟨fun pins s σ H Q I h => ?_⟩ fun M H => ⟨A, hm, rfl⟩
            exact ld_glob I (r.gl hg) hm ⟨.ref A, H, I, rfl, h⟩ d1
          · split at h
            · rename_i hc
              cases h
              obtain ⟨o, ho⟩ := Option.isSome_iff_exists.mp hc
              obtain ⟨A, hm, _⟩ := (r.xcl x o ho).ex
              refine se_const (v := .ref A) ⟨fun pins s σ H Q I h => ?_⟩ fun M H => ⟨A, hm, rfl⟩
              exact ld_glob I (r.gl hg) hm ⟨.ref A, H, I, rfl, h⟩ d1
            · cases h
    · cases h
theorem trConst_ok {c : Const} {j : Nat} {pos : Pos} {t : Ex} {G : Glob} (h : trConst c = some t) : SE X F Wx (.Constant c j pos) (evalE C G t) := by
  unfold trConst at h
  split at h <;> cases h
  · exact se_int
  · exact se_bl
  · exact se_str
  · exact se_non
theorem cr0_of {x : Str} (h : (∃ id, bootBuiltins x = some (.builtin id)) ∨ ∃ T, bootBuiltins x = some (.type T)) : BiCall X x fun _ _ _ => False := by
  rcases h with ⟨id, h⟩ | ⟨T, h⟩
  · exact .inl ⟨id, cr_false, h⟩
  · exact .inr ⟨T, cr_false, h⟩
theorem not_hot {b : Bool} (h : ¬ (b = true ∧ true = true)) : b = false := by cases b with | false => rfl | true => exact absurd ⟨rfl, rfl⟩ h
theorem bi_table (r : XR g X F Wx k C sc) {x : Str} {b : Bi} (hcb : ¬ (g.hot = true ∧ calmBi b = true)) (h : biOf x = some b) : (BiCall X x fun _ _ _ => False) ∧ ∀ ws w, biW g.G.isi b ws = some w → BiSem X x ws w := by
  unfold biOf at h
  split at h
  · rename_i e; cases h; subst e; exact ⟨cr0_of (.inl ⟨"len", by decide +kernel⟩), fun ws w h => bi_len h⟩
  split at h
  · rename_i e; cases h; subst e; exact ⟨cr0_of (.inl ⟨"abs", by decide +kernel⟩), fun ws w h => bi_abs h⟩
  split at h
  · rename_i e; cases h; subst e; exact ⟨cr0_of (.inr ⟨"int", by decide +kernel⟩), fun ws w h => bi_int h⟩
  split at h
  · rename_i e; cases h; subst e; exact ⟨cr0_of (.inr ⟨"str", by decide +kernel⟩), fun ws w h => bi_str h⟩
  split at h
  · rename_i e; cases h; subst e; exact ⟨cr0_of (.inr ⟨"tuple", by decide +kernel⟩), fun ws w h => bi_tuple h⟩
  split at h
  · rename_i e; cases h; subst e; exact ⟨cr0_of (.inl ⟨"max", by decide +kernel⟩), fun ws w h => bi_max (r.calm (not_hot hcb)) h⟩
  split at h
  · rename_i e; cases h; subst e; exact ⟨cr0_of (.inl ⟨"min", by decide +kernel⟩), fun ws w h => bi_min (r.calm (not_hot hcb)) h⟩
  split at h
  · rename_i e; cases h; subst e; exact ⟨cr0_of (.inl ⟨"sum", by decide +kernel⟩), fun ws w h => bi_sum (r.calm (not_hot hcb)) h⟩
  split at h
  · rename_i e; cases h; subst e; exact ⟨cr0_of (.inl ⟨"all", by decide +kernel⟩), fun ws w h => bi_all (r.calm (not_hot hcb)) h⟩
  split at h
  · rename_i e; cases h; subst e; exact ⟨cr0_of (.inl ⟨"any", by decide +kernel⟩), fun ws w h => bi_any (r.calm (not_hot hcb)) h⟩
  split at h
  · rename_i e; cases h; subst e; exact ⟨cr0_of (.inl ⟨"isinstance", by decide +kernel⟩), fun ws w h => bi_isin r.isi h⟩
  split at h
  · rename_i e; cases h; subst e; exact ⟨cr0_of (.inl ⟨"repr", by decide +kernel⟩), fun ws w h => bi_repr r.room.gd r.hu h⟩
  cases h
theorem fb_table {x : Str} {b : Fb} (hx : x = ("dict" : Str) → X.calm = true) (h : fbOf x = some b) : (BiCall X x fun _ _ _ => False) ∧ ∀ ws w, fbW b ws = some w → FbSem X x ws w := by
  unfold fbOf at h
  split at h
  · rename_i e; cases h; subst e; exact ⟨cr0_of (.inr ⟨"list", by decide +kernel⟩), fun ws w h => fb_list h⟩
  split at h
  · rename_i e; cases h; subst e; exact ⟨cr0_of (.inl ⟨"sorted", by decide +kernel⟩), fun ws w h => fb_sorted h⟩
  split at h
  · rename_i e; cases h; exact ⟨e ▸ cr0_of (.inr ⟨"dict", by decide +kernel⟩), fun ws w h => e ▸ fb_dict (hx e) h⟩
  cases h

theorem om_table {x : Str} {n : Nat} {om : Om} (h : omOf x n = some om) : ∃ (id : String) (r : V → List V → Hp → VK → Prop), (PySem.Slot "list" x id) ∧ typeOf (.builtin id) = pure (.type "method_descriptor") ∧ MtR X id r ∧ (∀ w ws q, omW om w ws = some q → ∃ us, w = .lst us) ∧ ∀ w ws z w', omW om w ws = some (z, w') → OmSem X.K X.mg r w ws z w' := by
  unfold omOf at h
  split at h
  · rename_i e; cases h; subst e
    exact ⟨"list.append", rAppend, PySem.F.slot_list_append, PySem.F.type_list_append, mt_append, fun w ws q h => (by cases w <;> first | exact ⟨_, rfl⟩ | cases h), fun w ws z w' h => om_append h⟩
  split at h
  · rename_i e; cases h; subst e
    exact ⟨"list.extend", rExtend, PySem.F.slot_list_extend, PySem.F.type_list_extend, mt_extend, fun w ws q h => (by cases w <;> first | exact ⟨_, rfl⟩ | cases h), fun w ws z w' h => om_extend h⟩
  split at h
  · rename_i e
    split at h
    · cases h; subst e
      exact ⟨"list.pop", rPopAt, PySem.F.slot_list_pop, PySem.F.type_list_pop, mt_popAt, fun w ws q h => (by cases w <;> first | exact ⟨_, rfl⟩ | cases h), fun w ws z w' h => om_popAt h⟩
    · cases h
  · cases h
theorem evalE_om {G : Glob} {i : Nat} {m : Om} {as : Exs} : evalE C G (.om i m as) = mOm i (omW m) (evalEs C G as) := by
  funext env
  rw [evalE]
  rfl
theorem trMeth_ok (r : XR g X F Wx k C sc) (H : ∀ e t, T.E sc e = some t → SE X F Wx e (evalE C g.G t)) {o : Expr} {m : Str} {apos pos : Pos} {es : List Expr} {t : Ex} (h : trMeth T sc o m apos es pos = some t) : SE X F Wx (.Call (.Attribute o m apos) es [] pos) (evalE C g.G t) := by
  unfold trMeth at h
  split at h
  case isFalse => cases h
  rename_i hc
  have gen : ∀ {a as}, baseOk o = true → T.E sc o = some a → trL (T.E sc) es = some as → SE X F Wx (.Call (.Attribute o m apos) es [] pos) (evalE C g.G (.meth a m as)) := fun {a as} hb h1 h2 => by
    obtain ⟨s1, s2, s3⟩ := trL_ok r H h2
    have e : evalE C g.G (.meth a m as) = methE C g.G (evalE C g.G a) m (evalEs C g.G as) := by
      funext env
      rw [evalE]
      rfl
    rw [e]
    refine se_meth hb s2 hc.2 hc.1 (H o a h1) r.room r.tk (fun c => r.meth c m) s1 fun hnil => ?_
    subst hnil
    cases h2
    rfl
  split at h
  · rename_i x px
    split at h
    · cases h
    rename_i hd
    obtain ⟨d1, d2, d3⟩ := dbg_of (by simpa using hd)
    split at h
    · rename_i i om hi hom
      split at h
      case isFalse => cases h
      rename_i hcc
      obtain ⟨as, h2, rfl⟩ := omap_of h
      obtain ⟨s1, s2, s3⟩ := trL_ok r H h2
      rw [evalE_om]
      obtain ⟨id, rr, t1, t2, t3, t4, t5⟩ := om_table (X := X) hom
      cases es with
      | nil => exact absurd rfl hcc.2.2
      | cons e es => exact se_om (r.slot hi) (r.vis hcc.2.1) d1 d2 PySem.F.plainAttrs_list t1 t2 t3 s1 s2 hc.2 hc.1 t4 t5
    · obtain ⟨a, as, h1, h2, rfl⟩ := o2_of h
      exact gen rfl h1 h2
  · split at h
    · rename_i hb
      obtain ⟨a, as, h1, h2, rfl⟩ := o2_of h
      exact gen hb h1 h2
    · cases h
theorem call_arm (r : XR g X F Wx k C sc) (H : ∀ e t, T.E sc e = some t → SE X F Wx e (evalE C g.G t)) {f : Str} {es : List Expr} {as : Exs} {p pos : Pos} (hd : dbgB f = false) (hg : glB sc.scope f = true) (h : g.defs.contains f = true ∨ ((g.G.cls f).isSome = true ∧ es ≠ [])) (h2 : trL (T.E sc) es = some as) :
    PE X (.Call (.Name f p) es [] pos) (tCX Wx (SpC X.K X.mg (C "" f)) (tA X.K X.mg F Wx (evalEs C g.G as))) := by
  obtain ⟨d1, d2, d3⟩ := dbg_of hd
  obtain ⟨s1, s2, s3⟩ := trL_ok r H h2
  rcases h with h | ⟨h, hne⟩
  · rcases pe_FnH (r.defs f (List.contains_iff_mem.mp h)) r.room (r.gl hg) r.tk d1 s1 s2 with z | z
    · exact z
    · subst z
      cases h2
      exact pe_FnH0 (r.defs f (List.contains_iff_mem.mp h)) r.room (r.gl hg) r.tk d1
  · exact pe_FnC (r.mkc f h) r.room (r.gl hg) r.tk d1 s1 s2 hne
theorem trCallE_ok (r : XR g X F Wx k C sc) (H : ∀ e t, T.E sc e = some t → SE X F Wx e (evalE C g.G t)) (HF : ∀ e t, T.F sc e = some t → SF X F Wx e (evalF C g.G t)) {f : Str} {es : List Expr} {t : Ex} {p pos : Pos} (h : trCallE g T sc f es (.Call (.Name f p) es [] pos) = some t) : SE X F Wx (.Call (.Name f p) es [] pos) (evalE C g.G t) := by
  unfold trCallE at h
  split at h
  · cases h
  rename_i hd
  have hd : dbgB f = false := by simpa using hd
  obtain ⟨d1, d2, d3⟩ := dbg_of hd
  split at h
  case isFalse => cases h
  rename_i hg
  have callE : ∀ as, evalE C g.G (.call f as) = fun env => (evalEs C g.G as env).bind fun hs e1 => (callH C "" f hs e1).bind fun r e2 => .ok (.v r.2) e2 := fun as => by funext env; rw [evalE]
  split at h
  · rename_i hdf
    obtain ⟨as, h2, rfl⟩ := omap_of h
    rw [callE]
    exact se_call_of (call_arm r H hd hg (.inl hdf) h2)
  split at h
  · rename_i hcl
    obtain ⟨as, h2, rfl⟩ := omap_of h
    rw [callE]
    exact se_call_of (call_arm r H hd hg (.inr hcl) h2)
  split at h
  · rename_i hxc
    split at h
    · split at h
      case isFalse => cases h
      rename_i hs
      obtain ⟨x, h1, rfl⟩ := omap_of h
      have e : evalE C g.G (.mkx f x) = mkxE g.G f (evalE C g.G x) := by funext env; rw [evalE] <;> rfl
      rw [e]
      obtain ⟨o, ho⟩ := Option.isSome_iff_exists.mp hxc
      exact se_mkx (by rw [ho]; exact r.xcl f o ho) r.room (H _ x h1) (r.gl hg) d1 hs
    · cases h
  split at h
  case isFalse => cases h
  rename_i hb
  split at h
  · rename_i b hbi
    split at h
    · cases h
    rename_i hcb
    obtain ⟨as, h2, rfl⟩ := omap_of h
    obtain ⟨s1, s2, s3⟩ := trL_ok r H h2
    obtain ⟨t1, t2⟩ := bi_table r hcb hbi
    have e : evalE C g.G (.bi b as) = fun env => (evalEs C g.G as env).bind fun hs e1 => match rds e1 hs with | some ws => (R.opt (biW g.G.isi b ws) e1).hd | none => .no := by funext env; rw [evalE] <;> rfl
    rw [e]
    cases es with
    | nil => exact absurd rfl hb.2
    | cons e es =>
      rw [List.all_cons, Bool.and_eq_true] at s2
      exact se_bi s1 (r.gl hg) (r.blt f (List.contains_iff_mem.mp hb.1)) d3 d1 s2.1 s2.2 t1 t2
  · obtain ⟨a, h1, rfl⟩ := omap_of h
    have e : evalE C g.G (.frz a) = fun env => (evalF C g.G a env).hd := by funext env; rw [evalE]
    rw [e]
    exact se_frz (HF _ a h1)
theorem trCallF_ok (r : XR g X F Wx k C sc) (H : ∀ e t, T.E sc e = some t → SE X F Wx e (evalE C g.G t)) {f : Str} {es : List Expr} {t : Fr} {p pos : Pos} (h : trCallF g T sc f es = some t) : SF X F Wx (.Call (.Name f p) es [] pos) (evalF C g.G t) := by
  unfold trCallF at h
  split at h
  · cases h
  rename_i hd
  have hd : dbgB f = false := by simpa using hd
  obtain ⟨d1, d2, d3⟩ := dbg_of hd
  split at h
  case isFalse => cases h
  rename_i hg
  have callE : ∀ as, evalF C g.G (.call f as) = fun env => (evalEs C g.G as env).bind fun hs e1 => (callH C "" f hs e1).bind fun r e2 => if r.1 = true then .ok r.2 e2 else .no := fun as => by funext env; rw [evalF]
  split at h
  · rename_i hdf
    obtain ⟨as, h2, rfl⟩ := omap_of h
    rw [callE]
    exact sf_call_of (call_arm r H hd hg (.inl hdf) h2)
  split at h
  · rename_i hcl
    obtain ⟨as, h2, rfl⟩ := omap_of h
    rw [callE]
    exact sf_call_of (call_arm r H hd hg (.inr hcl) h2)
  split at h
  case isFalse => cases h
  rename_i hb
  split at h
  · rename_i b hbi
    obtain ⟨as, h2, rfl⟩ := omap_of h
    obtain ⟨s1, s2, s3⟩ := trL_ok r H h2
    obtain ⟨t1, t2⟩ := fb_table (X := X) (fun z => r.calm (hb.2.2 z)) hbi
    have e : evalF C g.G (.fb b as) = fun env => (evalEs C g.G as env).bind fun hs e1 => match rds e1 hs with | some ws => R.opt (fbW b ws) e1 | none => .no := by funext env; rw [evalF] <;> rfl
    rw [e]
    cases es with
    | nil => exact absurd rfl hb.2.1
    | cons e es =>
      rw [List.all_cons, Bool.and_eq_true] at s2
      exact sf_bi s1 (r.gl hg) (r.blt f (List.contains_iff_mem.mp hb.1)) d3 d1 s2.1 s2.2 t1 t2
  · cases h

theorem innerOf_of {f s f' : Str} {es as : List Expr} (h : innerOf f s f' es = some as) : f' = f ∧ ∃ q pos2, es = [.Call (.Name s q) as [] pos2] := by
  unfold innerOf at h
  split at h
  · split at h
    · rename_i z
      cases h
      obtain ⟨rfl, rfl⟩ := z
      exact ⟨rfl, _, _, rfl⟩
    · cases h
  · cases h
theorem trLenSet_ok (r : XR g X F Wx k C sc) (H : ∀ e t, T.E sc e = some t → SE X F Wx e (evalE C g.G t)) {as : List Expr} {t : Ex} {p q pos pos2 : Pos} (h : trLenSet g T sc as = some t) : SE X F Wx (.Call (.Name "len" p) [.Call (.Name "set" q) as [] pos2] [] pos) (evalE C g.G t) := by
  unfold trLenSet at h
  split at h
  · split at h
    · rename_i hc
      obtain ⟨x, h1, rfl⟩ := omap_of h
      obtain ⟨c0, c1, c2, c3, c4, c5⟩ := hc
      have e : evalE C g.G (.lenset x) = fun env => (evalE C g.G x env).bind fun x e1 => match rd e1 x with
        | some w => (R.opt (lensetW w) e1).hd
        | none => .no := by funext env; rw [evalE] <;> rfl
      rw [e]
      exact se_lenset (r.calm c0) (r.gl c1) (r.blt _ (List.contains_iff_mem.mp c3)) (r.gl c2) (r.blt _ (List.contains_iff_mem.mp c4)) c5 (H _ x h1)
    · cases h
  · cases h
theorem trLRng_ok (hh : g.hot = false) (r : XR g X F Wx k C sc) (H : ∀ e t, T.E sc e = some t → SE X F Wx e (evalE C g.G t)) {as : List Expr} {t : Fr} {p q pos pos2 : Pos} (h : trLRng g T sc as = some t) : SF X F Wx (.Call (.Name "list" p) [.Call (.Name "range" q) as [] pos2] [] pos) (evalF C g.G t) := by
  unfold trLRng at h
  split at h
  case isFalse => cases h
  rename_i hc
  obtain ⟨c1, c2, c3, c4⟩ := hc
  split at h
  · split at h
    case isFalse => cases h
    rename_i hs
    obtain ⟨x, h1, rfl⟩ := omap_of h
    have e : evalF C g.G (.lrng1 x) = fun env => (evalE C g.G x env).bind fun x e1 => match x with
      | .v (.int n) => (R.opt (rngW [.int n]) e1).bind fun us e2 => .ok (.lst us) e2
      | _ => .no := by funext env; rw [evalF] <;> rfl
    rw [e]
    exact sf_lrng1 (r.calm hh) (r.gl c1) (r.blt _ (List.contains_iff_mem.mp c3)) (r.gl c2) (r.blt _ (List.contains_iff_mem.mp c4)) hs (H _ x h1)
  · split at h
    case isFalse => cases h
    rename_i hs
    obtain ⟨x, y, h1, h2, rfl⟩ := o2_of h
    have e : evalF C g.G (.lrng2 x y) = fun env => (evalE C g.G x env).bind fun x e1 => (evalE C g.G y e1).bind fun y e2 => match x, y with
      | .v (.int m), .v (.int n) => (R.opt (rngW [.int m, .int n]) e2).bind fun us e3 => .ok (.lst us) e3
      | _, _ => .no := by funext env; rw [evalF] <;> rfl
    rw [e]
    exact sf_lrng2 (r.calm hh) (r.gl c1) (r.blt _ (List.contains_iff_mem.mp c3)) (r.gl c2) (r.blt _ (List.contains_iff_mem.mp c4)) hs.1 hs.2 (H _ x h1) (H _ y h2)
  · cases h
end
end PM

set_option maxHeartbeats 4000000
namespace PM
open PySem L2
section
variable {X : Cx} {F : Frm} {Wx : WX} {k : Nat} {C : CallT} {g : Gk} {sc : Sc} {T : Tr}
theorem both {e : Expr} {t : Ex} {G : Glob} (h : SE X F Wx e (evalE C G t)) (hr : plainT e = true) :
    SE X F Wx e (evalE C G t) ∧ ST X F Wx e (fun env => (evalE C G t env).bool) := ⟨h, st_val h (isTrue_rest hr)⟩
theorem bool_bool {r : R Hd} : ((r.bool.bind fun k e => (.ok (.v (.bl k)) e : R Hd)).bool) = r.bool := by
  unfold R.bool
  cases r with
  | no => rfl
  | exc => rfl
  | ok h e =>
    cases h with
    | s => rfl
    | v w => cases w <;> rfl
theorem and_eq {G : Glob} {a b : Ex} : evalE C G (.and a b) = fun env => (evalE C G a env).bool.bind fun k e1 => if k = true then (evalE C G b e1).bool.bind fun k2 e2 => .ok (.v (.bl k2)) e2 else .ok (.v (.bl false)) e1 := by funext env; rw [evalE]
theorem or_eq {G : Glob} {a b : Ex} : evalE C G (.or a b) = fun env => (evalE C G a env).bool.bind fun k e1 => if k = true then .ok (.v (.bl true)) e1 else (evalE C G b e1).bool.bind fun k2 e2 => .ok (.v (.bl k2)) e2 := by funext env; rw [evalE]
theorem bind_bool {r : R Bool} {f : Bool → PM.Env → R Hd} : (r.bind f).bool = r.bind fun k e => (f k e).bool := by cases r <;> rfl
theorem pt_pw {t : TT} {op : BoolOp} {es : List Expr} {pos : Pos} (h : PW X (.BoolOp op es pos) t) : PT X (.BoolOp op es pos) t := ⟨fun pins s σ H Q I hq => h.run _ pins s σ H Q I hq⟩
theorem trAnd_ok (H : ∀ e t, T.E sc e = some t → SE X F Wx e (evalE C g.G t) ∧ ST X F Wx e (fun env => (evalE C g.G t env).bool)) : ∀ {es : List Expr} {t : Ex} {pos : Pos}, trAnd (T.E sc) es = some t → SE X F Wx (.BoolOp .And es pos) (evalE C g.G t) ∧ SW X F Wx (.BoolOp .And es pos) (fun env => (evalE C g.G t env).bool)
  | [], _, _, h => by cases h
  | [a], t, pos, h => ⟨se_one (H a t h).1, sw_one1 (H a t h).2⟩
  | a :: b :: r, t, pos, h => by
    obtain ⟨x, y, h1, h2, rfl⟩ := o2_of h
    obtain ⟨s1, s2⟩ := trAnd_ok H (pos := pos) h2
    obtain ⟨a1, a2⟩ := H a x h1
    rw [and_eq]
    refine ⟨se_and a1 s1, ?_⟩
    have e : (fun env => (((evalE C g.G x env).bool.bind fun k e1 => if k = true then (evalE C g.G y e1).bool.bind fun k2 e2 => (.ok (.v (.bl k2)) e2 : R Hd) else .ok (.v (.bl false)) e1) : R Hd).bool) = fun env => (evalE C g.G x env).bool.bind fun k e1 => if k = true then (evalE C g.G y e1).bool else .ok false e1 := by
      funext env
      rw [bind_bool]
      congr 1
      funext k e1
      cases k with
      | true => simp only [if_true]; exact bool_bool
      | false => rfl
    show SW X F Wx _ (fun env => R.bool _)
    rw [e]
    exact sw_and a2 s2
theorem trOr_ok (H : ∀ e t, T.E sc e = some t → SE X F Wx e (evalE C g.G t) ∧ ST X F Wx e (fun env => (evalE C g.G t env).bool)) : ∀ {es : List Expr} {t : Ex} {pos : Pos}, trOr (T.E sc) es = some t → SE X F Wx (.BoolOp .Or es pos) (evalE C g.G t) ∧ SW X F Wx (.BoolOp .Or es pos) (fun env => (evalE C g.G t env).bool)
  | [], _, _, h => by cases h
  | [a], t, pos, h => ⟨se_one (H a t h).1, sw_one2 (H a t h).2⟩
  | a :: b :: r, t, pos, h => by
    obtain ⟨x, y, h1, h2, rfl⟩ := o2_of h
    obtain ⟨s1, s2⟩ := trOr_ok H (pos := pos) h2
    obtain ⟨a1, a2⟩ := H a x h1
    rw [or_eq]
    refine ⟨se_or a1 s1, ?_⟩
    have e : (fun env => (((evalE C g.G x env).bool.bind fun k e1 => if k = true then (.ok (.v (.bl true)) e1 : R Hd) else (evalE C g.G y e1).bool.bind fun k2 e2 => (.ok (.v (.bl k2)) e2 : R Hd)) : R Hd).bool) = fun env => (evalE C g.G x env).bool.bind fun k e1 => if k = true then .ok true e1 else (evalE C g.G y e1).bool := by
      funext env
      rw [bind_bool]
      congr 1
      funext k e1
      cases k with
      | true => rfl
      | false => simp only [Bool.false_eq_true, if_false]; exact bool_bool
    show SW X F Wx _ (fun env => R.bool _)
    rw [e]
    exact sw_or a2 s2
theorem frz_eq {G : Glob} {a : Fr} : evalE C G (.frz a) = fun env => (evalF C G a env).hd := by funext env; rw [evalE]
theorem pt_ite {c a b : Expr} {pos : Pos} {tc ta tb : TT} (hc : PT X c tc) (ha : PT X a ta) (hb : PT X b tb) : PT X (.IfExp c a b pos) (fun σ H Q => tc σ H fun k H1 => if k = true then ta σ H1 Q else tb σ H1 Q) := by
  refine ⟨fun pins s σ H Q I h => ?_⟩
  show wpAny _ _ (do if ← isTrue c X.env (eval c X.env) then isTrue a X.env (eval a X.env) else isTrue b X.env (eval b X.env)) _ _ s
  refine wpAny_bind (thn (hc.run pins s σ H _ I h) fun k s1 ⟨H1, I1, q⟩ => ?_)
  cases k with
  | true => exact ha.run pins s1 σ H1 Q I1 q
  | false => exact hb.run pins s1 σ H1 Q I1 q
theorem st_ite {c a b : Expr} {pos : Pos} {mc ma mb : PM.Env → R Bool} (hc : ST X F Wx c mc) (ha : ST X F Wx a ma) (hb : ST X F Wx b mb) : ST X F Wx (.IfExp c a b pos) (fun env => (mc env).bind fun k e1 => if k = true then ma e1 else mb e1) := by
  refine pt_by fun σ H Q hq => ⟨_, pt_ite hc ha hb, ?_⟩
  obtain ⟨α, T, env, c, o⟩ := tT_iff.mp hq
  refine tT_bind c o fun k e1 H1 _ c1 k1 o1 => ?_
  have o2 := o1.imp (fun _ _ z => okT.later k1 z) fun _ _ z => exE.later k1 z
  cases k with
  | true => exact tT_iff.mpr ⟨α, T, e1, c1, o2⟩
  | false => exact tT_iff.mpr ⟨α, T, e1, c1, o2⟩
theorem bin_eq {G : Glob} {op : Operator} {x y : Ex} : evalE C G (.bin op x y) = two (evalE C G x) (evalE C G y) (binW op) := by funext env; rw [evalE] <;> rfl
theorem cmpx_eq {G : Glob} {op : CmpOp} {x y : Ex} : evalE C G (.cmp op x y) = cmpE C G op (evalE C G x) (evalE C G y) := by funext env; rw [evalE] <;> rfl
theorem cmp2_eq {G : Glob} {o1 o2 : CmpOp} {x y z : Ex} : evalE C G (.cmp2 o1 o2 x y z) = chainE (evalE C G x) (evalE C G y) (evalE C G z) o1 o2 := by funext env; rw [evalE] <;> rfl
theorem att_eq {G : Glob} {x : Ex} {f : Str} : evalE C G (.att x f) = attE C G (evalE C G x) f := by funext env; rw [evalE] <;> rfl
theorem stepE_ok (ok : TOk g T) (r : XR g X F Wx k C sc) {e : Expr} {t : Ex} (h : stepE g T sc e = some t) : SE X F Wx e (evalE C g.G t) ∧ ST X F Wx e (fun env => (evalE C g.G t env).bool) := by
  have HB : ∀ e t, T.E sc e = some t → SE X F Wx e (evalE C g.G t) ∧ ST X F Wx e (fun env => (evalE C g.G t env).bool) := fun e t h => ok.E r h
  have H : ∀ e t, T.E sc e = some t → SE X F Wx e (evalE C g.G t) := fun e t h => (ok.E r h).1
  have HF : ∀ e t, T.F sc e = some t → SF X F Wx e (evalF C g.G t) := fun e t h => ok.F r h
  unfold stepE at h
  split at h
  · exact both (trName_ok r h) rfl
  · exact both (trConst_ok h) rfl
  · obtain ⟨x, y, h1, h2, rfl⟩ := o2_of h
    refine both ?_ rfl
    rw [bin_eq]
    exact se_bin (H _ x h1) (H _ y h2)
  · obtain ⟨x, h1, rfl⟩ := omap_of h
    refine both ?_ rfl
    have e : evalE C g.G (.neg x) = fun env => (evalE C g.G x env).bind fun x e1 => match x with | .v (.int i) => .ok (.v (.int (-i))) e1 | _ => .no := by funext env; rw [evalE] <;> rfl
    rw [e]
    exact se_neg (H _ x h1)
  · obtain ⟨x, h1, rfl⟩ := omap_of h
    have e : evalE C g.G (.not x) = fun env => (evalE C g.G x env).bool.bind fun k e1 => .ok (.v (.bl (!k))) e1 := by funext env; rw [evalE]
    rw [e]
    obtain ⟨a1, a2⟩ := HB _ x h1
    refine ⟨se_not a1, ?_⟩
    have e2 : (fun env => (((evalE C g.G x env).bool.bind fun k e1 => (.ok (.v (.bl (!k))) e1 : R Hd)) : R Hd).bool) = fun env => (evalE C g.G x env).bool.bind fun k e1 => .ok (!k) e1 := by
      funext env
      rw [bind_bool]
      rfl
    rw [e2]
    exact st_not a2
  · obtain ⟨s1, s2⟩ := trAnd_ok HB h
    exact ⟨s1, pt_pw s2⟩
  · obtain ⟨s1, s2⟩ := trOr_ok HB h
    exact ⟨s1, pt_pw s2⟩
  · split at h
    case isFalse => cases h
    rename_i hb
    obtain ⟨x, y, h1, h2, rfl⟩ := o2_of h
    rw [cmpx_eq]
    exact ⟨se_cmpH r.hu r.room (fun c => r.eq c) (bm_of hb) (H _ x h1) (H _ y h2), st_cmpH r.hu r.room (fun c => r.eq c) (bm_of hb) (H _ x h1) (H _ y h2)⟩
  · split at h
    case isFalse => cases h
    rename_i hb
    obtain ⟨x, yz, h1, h2, rfl⟩ := o2_of h
    obtain ⟨y, z, h3, h4, rfl⟩ := o2_of h2
    rw [cmp2_eq]
    exact ⟨se_chain r.hu hb (H _ x h1) (H _ y h3) (H _ z h4), st_chain r.hu hb (H _ x h1) (H _ y h3) (H _ z h4)⟩
  · obtain ⟨x, yz, h1, h2, rfl⟩ := o2_of h
    obtain ⟨y, z, h3, h4, rfl⟩ := o2_of h2
    have e : evalE C g.G (.ite x y z) = fun env => (evalE C g.G x env).bool.bind fun k e1 => if k = true then evalE C g.G y e1 else evalE C g.G z e1 := by funext env; rw [evalE]
    rw [e]
    refine ⟨se_ite (HB _ x h1).2 (H _ y h3) (H _ z h4), ?_⟩
    have e2 : (fun env => (((evalE C g.G x env).bool.bind fun k e1 => if k = true then evalE C g.G y e1 else evalE C g.G z e1) : R Hd).bool) = fun env => (evalE C g.G x env).bool.bind fun k e1 => if k = true then (evalE C g.G y e1).bool else (evalE C g.G z e1).bool := by
      funext env
      rw [bind_bool]
      congr 1
      funext k e1
      cases k <;> rfl
    rw [e2]
    exact st_ite (HB _ x h1).2 (HB _ y h3).2 (HB _ z h4).2
  · split at h
    case isFalse => cases h
    rename_i hl
    obtain ⟨as, h1, rfl⟩ := omap_of h
    obtain ⟨s1, s2, s3⟩ := trL_ok r H h1
    refine both ?_ rfl
    have e : evalE C g.G (.tup as) = fun env => (evalEs C g.G as env).bind fun hs e1 => match pvs hs with | some ws => .ok (.v (.tup ws)) e1 | none => .no := by funext env; rw [evalE] <;> rfl
    rw [e]
    exact se_tup s1 fun env hs e1 q => by rw [evalEs_len q, s3]; omega
  · obtain ⟨x, h1, rfl⟩ := omap_of h
    rw [frz_eq]
    have z := se_frz (HF _ x h1)
    exact ⟨z, st_val z (isTrue_rest rfl)⟩
  · obtain ⟨x, h1, rfl⟩ := omap_of h
    rw [frz_eq]
    have z := se_frz (HF _ x h1)
    exact ⟨z, st_val z (isTrue_rest rfl)⟩
  · obtain ⟨x, h1, rfl⟩ := omap_of h
    rw [frz_eq]
    have z := se_frz (HF _ x h1)
    exact ⟨z, st_val z (isTrue_rest rfl)⟩
  · obtain ⟨x, h1, rfl⟩ := omap_of h
    rw [frz_eq]
    have z := se_frz (HF _ x h1)
    exact ⟨z, st_val z (isTrue_rest rfl)⟩
  · split at h
    case isFalse => cases h
    rename_i hs
    obtain ⟨x, y, h1, h2, rfl⟩ := o2_of h
    refine both ?_ rfl
    have e : evalE C g.G (.sub x y) = two (evalE C g.G x) (evalE C g.G y) subW := by funext env; rw [evalE] <;> rfl
    rw [e]
    exact se_sub r.hu (H _ x h1) (H _ y h2) hs
  · split at h
    case isFalse => cases h
    rename_i hb
    obtain ⟨x, h1, rfl⟩ := omap_of h
    refine both ?_ rfl
    rw [att_eq]
    exact se_att (H _ x h1) (ab_of hb) r.room (fun c => r.cls c _) (fun c => r.prop c _) fun c hc => by
      obtain ⟨A, hm, TT, _, _, hf, _⟩ := (r.xcl c _ hc).ex
      exact ⟨A, hm, TT, hf⟩
  · split at h
    · rename_i hi
      obtain ⟨rfl, q, p2, rfl⟩ := innerOf_of hi
      exact both (trLenSet_ok r H h) rfl
    · exact both (trCallE_ok r H HF h) rfl
  · exact both (trMeth_ok r H h) rfl
  · cases h
end
end PM

set_option maxHeartbeats 4000000
namespace PM
open PySem L2
section
variable {X : Cx} {F : Frm} {Wx : WX} {k : Nat} {C : CallT} {g : Gk} {sc : Sc} {T : Tr}
theorem XR.blk (r : XR g X F Wx k C sc) (s : Shared) (H : Hp) (scope : Scope) (A : Addr) (cl : List (Str × Addr)) (fp : List Addr) : XR g (X.blk s H scope (compEnvC scope cl A X.env) fp) F WX0 k C (blkSc sc scope) := by
  refine ⟨r.hN, r.nd, ?_, rfl, r.calm, r.hu, r.room, fun u s' ⟨_, _, _, _, _, _, _, _, _, _, _, _, _, _, _, _, w⟩ => w.elim, fun x h => ⟨(r.defs x h).ex⟩, r.blt, fun x w h => ⟨(r.cst x w h).ex⟩, fun c f h => ⟨(r.cls c f h).ex⟩, fun c m h => ⟨(r.prop c m h).ex⟩, fun c m h => ⟨(r.meth c m h).ex⟩, fun c h => ⟨(r.eq c h).ex⟩, fun c h => ⟨(r.mkc c h).ex⟩, ⟨r.isi.cv, r.isi.kit, r.isi.cls, r.isi.exc⟩, fun c o h => ?_, r.exm, fun hh => ?_⟩
  · show relabel scope X.env = _
    have : relabel scope X.env = relS scope X.env.scope := rfl
    rw [this, r.hs]; rfl
  · obtain ⟨C, h1, h2, h3, h4, h5⟩ := (r.xcl c o h).ex
    exact ⟨C, h1, h2, h3, h4, h5⟩
  · have z := r.hx hh
    exact ⟨fun x h => ⟨(z.defs x h).ex⟩, fun c m h => ⟨(z.prop c m h).ex⟩, fun c m h => ⟨(z.meth c m h).ex⟩, fun c h => ⟨(z.eq c h).ex⟩, fun c h => ⟨(z.mkc c h).ex⟩⟩
theorem trTg_ok (hh : g.hot = false) (r : XR g X F Wx k C sc) : ∀ (n : Nat) {e : Expr} {t : Tg}, trTg sc n e = some t → PG X e (gTg X.K t)
  | 0, _, _, h => by cases h
  | n + 1, e, t, h => by
    unfold trTg at h
    split at h
    · split at h
      case isFalse => cases h
      rename_i hl
      obtain ⟨i, h1, rfl⟩ := omap_of h
      refine pg_nm r.nd (r.slot h1) (by rw [r.hs]; exact locB_of hl.1) ?_
      rcases hl.2 with z | z
      · exact .inl (by rw [r.fn]; exact z)
      · exact .inr (by rw [r.hs]; exact lclB_of z)
    · split at h
      case isFalse => cases h
      rename_i hp
      obtain ⟨x, y, h1, h2, rfl⟩ := o2_of h
      exact pg_tp2 (r.calm hh) hp.1 hp.2 (trTg_ok hh r n h1) (trTg_ok hh r n h2)
    · split at h
      case isFalse => cases h
      rename_i hp
      obtain ⟨x, yz, h1, h2, rfl⟩ := o2_of h
      obtain ⟨y, z, h3, h4, rfl⟩ := o2_of h2
      exact pg_tp3 (r.calm hh) hp.1 hp.2.1 hp.2.2 (trTg_ok hh r n h1) (trTg_ok hh r n h3) (trTg_ok hh r n h4)
    · cases h
theorem pts_by {ifs : List Expr} {t t' : TT} (h : PTs X ifs t') (q : ∀ σ H Q, t σ H Q → t' σ H Q) : PTs X ifs t := ⟨fun pins s σ H Q I z => h.run pins s σ H Q I (q σ H Q z)⟩
theorem trIfs_ok (HB : ∀ e t, T.E sc e = some t → SE X F Wx e (evalE C g.G t) ∧ ST X F Wx e (fun env => (evalE C g.G t env).bool)) {ifs : List Expr} {c : Ex} (h : trIfs (T.E sc) ifs = some c) : PTs X ifs (tT X.K X.mg F Wx fun env => (evalE C g.G c env).bool) := by
  unfold trIfs at h
  split at h
  · cases h
    refine pts_by pts_nil fun σ H Q q => ?_
    obtain ⟨α, T, env, cc, o⟩ := tT_iff.mp q
    have e : (evalE C g.G (.lit (.bl true)) env).bool = .ok true env := by rw [evalE] <;> rfl
    rw [e] at o
    exact (show okT X.K X.mg F α T σ H Q true env from o) H cc (Kp.refl _ _)
  · exact pts_one (HB _ c h).2
  · cases h
theorem fold_of {iter : Expr} {env : PySem.Env} (h : notSet iter = true) : ∀ x, foldedSetIterable iter env x = pure x := by
  intro x
  cases iter <;> first | rfl | cases h
theorem slotsIn_of {t : Tg} {vs : List Nat} (h : slotsIn t vs = true) : ∀ i ∈ t.slots, i ∈ vs := fun i hi => List.contains_iff_mem.mp (List.all_eq_true.mp h i hi)
theorem comp_eq {G : Glob} {x c : Ex} {t : Tg} {it : Iz} {vs : List Nat} : evalF C G (.comp x t it c vs) = compE (evalI C G it) t vs (fun e => (evalE C G c e).bool) (evalE C G x) := by funext env; rw [evalF] <;> rfl
/-- a comprehension's parts -/
structure LcOk (X : Cx) (F : Frm) (Wx : WX) (tg iter elt : Expr) (ifs : List Expr) (scope : Scope) (own : List (Str × Nat)) (mi : PM.Env → R (List W)) (t : Tg) (mt : PM.Env → R Bool) (me : PM.Env → R Hd) : Prop where
  hi : SI X F Wx tg iter mi
  ok : BlkOk X.N X.env.scope scope own
  hg : ∀ (s : Shared) (H : Hp) (A : Addr) (cl : List (Str × Addr)) (fp : List Addr), PG (X.blk s H scope (compEnvC scope cl A X.env) fp) tg (gTg X.K t)
  ht : ∀ (s : Shared) (H : Hp) (A : Addr) (cl : List (Str × Addr)) (fp : List Addr), PTs (X.blk s H scope (compEnvC scope cl A X.env) fp) ifs (tT X.K X.mg F WX0 mt)
  he : ∀ (s : Shared) (H : Hp) (A : Addr) (cl : List (Str × Addr)) (fp : List Addr), PE (X.blk s H scope (compEnvC scope cl A X.env) fp) elt (tE X.K X.mg F WX0 me)
  hs : ∀ x, foldedSetIterable iter X.env x = pure x
  sl : ∀ i ∈ t.slots, i ∈ own.map (·.2)
theorem lc_ok (hh : g.hot = false) (ok : TOk g T) (r : XR g X F Wx k C sc) {elt tg iter : Expr} {ifs : List Expr} {scope : Scope} {p : Pos} {a : Nat} {t : Fr} (h : stepF g T sc (.ListComp elt [⟨tg, iter, ifs, 0⟩] scope p) = some t) :
    ∃ it tt c x, t = .comp x tt it c ((blkOwn sc.N scope).map (·.2)) ∧ LcOk X F Wx tg iter elt ifs scope (blkOwn sc.N scope) (evalI C g.G it) tt (fun e => (evalE C g.G c e).bool) (evalE C g.G x) := by
  simp only [stepF] at h
  split at h
  case isFalse => cases h
  rename_i hb
  split at h
  · rename_i it tt c x h1 h2 h3 h4
    split at h
    case isFalse => cases h
    rename_i hsl
    cases h
    refine ⟨it, tt, c, x, rfl, ok.I r h1, ?_, fun s H A cl fp => ?_, fun s H A cl fp => ?_, fun s H A cl fp => ?_, fold_of hb.2.1, slotsIn_of hsl⟩
    · rw [r.hN, r.hs]; exact blkOk_by hb.1
    · exact trTg_ok hh (r.blk s H scope A cl fp) 5 h2
    · exact trIfs_ok (X := X.blk s H scope (compEnvC scope cl A X.env) fp) (sc := blkSc sc scope) (fun e t h => ok.E (r.blk s H scope A cl fp) h) h3
    · exact (ok.E (r.blk s H scope A cl fp) h4).1
  · cases h
theorem sf_comp (hh : g.hot = false) (r : XR g X F Wx k C sc) {tg iter elt : Expr} {ifs : List Expr} {scope : Scope} {own : List (Str × Nat)} {mi : PM.Env → R (List W)} {t : Tg} {mt : PM.Env → R Bool} {me : PM.Env → R Hd} {p : Pos} (l : LcOk X F Wx tg iter elt ifs scope own mi t mt me) :
    SF X F Wx (.ListComp elt [⟨tg, iter, ifs, 0⟩] scope p) (compE mi t (own.map (·.2)) mt me) :=
  pe_by fun σ H Q h => ⟨_, pe_lc (r.calm hh) r.nd l.hi l.ok l.hg l.ht l.he l.hs, comp_run l.sl h⟩
theorem comp2_eq {G : Glob} {x c c1 : Ex} {t t1 : Tg} {it it1 : Iz} {vs vs1 : List Nat} : evalF C G (.comp2 x t it c t1 it1 c1 vs vs1) = compE2 (evalI C G it) t vs (fun e => (evalE C G c e).bool) (evalI C G it1) t1 vs1 (fun e => (evalE C G c1 e).bool) (evalE C G x) := by funext env; rw [evalF] <;> rfl
/-- .. of two clauses -/
structure LcOk2 (X : Cx) (F : Frm) (Wx : WX) (tg iter tg1 iter1 elt : Expr) (ifs ifs1 : List Expr) (scope : Scope) (own : List (Str × Nat)) (mi : PM.Env → R (List W)) (t : Tg) (mt : PM.Env → R Bool) (mi1 : PM.Env → R (List W)) (t1 : Tg) (mt1 : PM.Env → R Bool) (me : PM.Env → R Hd) : Prop where
  l : LcOk X F Wx tg iter elt ifs scope own mi t mt me
  hi1 : ∀ (s : Shared) (H : Hp) (A : Addr) (cl : List (Str × Addr)) (fp : List Addr), PI (X.blk s H scope (compEnvC scope cl A X.env) fp) tg1 iter1 (tI X.K X.mg F WX0 mi1)
  hg1 : ∀ (s : Shared) (H : Hp) (A : Addr) (cl : List (Str × Addr)) (fp : List Addr), PG (X.blk s H scope (compEnvC scope cl A X.env) fp) tg1 (gTg X.K t1)
  ht1 : ∀ (s : Shared) (H : Hp) (A : Addr) (cl : List (Str × Addr)) (fp : List Addr), PTs (X.blk s H scope (compEnvC scope cl A X.env) fp) ifs1 (tT X.K X.mg F WX0 mt1)
  hs1 : ∀ env x, foldedSetIterable iter1 env x = pure x
  sl1 : ∀ i ∈ t1.slots, i ∈ own.map (·.2)
theorem lc2_ok (hh : g.hot = false) (ok : TOk g T) (r : XR g X F Wx k C sc) {elt tg iter tg1 iter1 : Expr} {ifs ifs1 : List Expr} {scope : Scope} {p : Pos} {t : Fr} (h : stepF g T sc (.ListComp elt [⟨tg, iter, ifs, 0⟩, ⟨tg1, iter1, ifs1, 0⟩] scope p) = some t) :
    ∃ it tt c it1 t1 c1 x, t = .comp2 x tt it c t1 it1 c1 ((blkOwn sc.N scope).map (·.2)) t1.slots ∧ LcOk2 X F Wx tg iter tg1 iter1 elt ifs ifs1 scope (blkOwn sc.N scope) (evalI C g.G it) tt (fun e => (evalE C g.G c e).bool) (evalI C g.G it1) t1 (fun e => (evalE C g.G c1 e).bool) (evalE C g.G x) := by
  simp only [stepF] at h
  split at h
  case isFalse => cases h
  rename_i hb
  split at h
  · rename_i it tt c it1 t1 c1 x h1 h2 h3 h5 h6 h7 h4
    split at h
    case isFalse => cases h
    rename_i hsl
    cases h
    refine ⟨it, tt, c, it1, t1, c1, x, rfl, ⟨ok.I r h1, ?_, fun s H A cl fp => ?_, fun s H A cl fp => ?_, fun s H A cl fp => ?_, fold_of hb.2.1, slotsIn_of hsl.1⟩, fun s H A cl fp => ?_, fun s H A cl fp => ?_, fun s H A cl fp => ?_, fun env => fold_of hb.2.2.1, slotsIn_of hsl.2⟩
    · rw [r.hN, r.hs]; exact blkOk_by hb.1
    · exact trTg_ok hh (r.blk s H scope A cl fp) 5 h2
    · exact trIfs_ok (X := X.blk s H scope (compEnvC scope cl A X.env) fp) (sc := blkSc sc scope) (fun e t h => ok.E (r.blk s H scope A cl fp) h) h3
    · exact (ok.E (r.blk s H scope A cl fp) h4).1
    · exact ok.I (r.blk s H scope A cl fp) h5
    · exact trTg_ok hh (r.blk s H scope A cl fp) 5 h6
    · exact trIfs_ok (X := X.blk s H scope (compEnvC scope cl A X.env) fp) (sc := blkSc sc scope) (fun e t h => ok.E (r.blk s H scope A cl fp) h) h7
  · cases h
theorem sf_comp2 (hh : g.hot = false) (r : XR g X F Wx k C sc) {tg iter tg1 iter1 elt : Expr} {ifs ifs1 : List Expr} {scope : Scope} {own : List (Str × Nat)} {mi mi1 : PM.Env → R (List W)} {t t1 : Tg} {mt mt1 : PM.Env → R Bool} {me : PM.Env → R Hd} {p : Pos} (l : LcOk2 X F Wx tg iter tg1 iter1 elt ifs ifs1 scope own mi t mt mi1 t1 mt1 me) :
    SF X F Wx (.ListComp elt [⟨tg, iter, ifs, 0⟩, ⟨tg1, iter1, ifs1, 0⟩] scope p) (compE2 mi t (own.map (·.2)) mt mi1 t1 t1.slots mt1 me) :=
  pe_by fun σ H Q h => ⟨_, pe_lc2 (r.calm hh) r.nd l.l.hi l.l.ok l.sl1 l.l.hg l.l.ht l.hi1 l.hg1 l.ht1 l.l.he l.l.hs l.hs1, comp2_run l.l.sl (fun _ z => z) l.sl1 h⟩
theorem dcomp_eq {G : Glob} {x y c : Ex} {t : Tg} {it : Iz} {vs : List Nat} : evalF C G (.dcomp x y t it c vs) = dcompE (evalI C G it) t vs (fun e => (evalE C G c e).bool) (evalE C G x) (evalE C G y) := by funext env; rw [evalF] <;> rfl
theorem dc_ok (hh : g.hot = false) (ok : TOk g T) (r : XR g X F Wx k C sc) {kx vx tg iter : Expr} {ifs : List Expr} {scope : Scope} {p : Pos} {t : Fr} (h : stepF g T sc (.DictComp kx vx [⟨tg, iter, ifs, 0⟩] scope p) = some t) :
    ∃ it tt c x y, t = .dcomp x y tt it c ((blkOwn sc.N scope).map (·.2)) ∧ LcOk X F Wx tg iter kx ifs scope (blkOwn sc.N scope) (evalI C g.G it) tt (fun e => (evalE C g.G c e).bool) (evalE C g.G x) ∧
      ∀ (s : Shared) (H : Hp) (A : Addr) (cl : List (Str × Addr)) (fp : List Addr), PE (X.blk s H scope (compEnvC scope cl A X.env) fp) vx (tE X.K X.mg F WX0 (evalE C g.G y)) := by
  simp only [stepF] at h
  split at h
  case isFalse => cases h
  rename_i hb
  split at h
  · rename_i it tt c x y h1 h2 h3 h4 h5
    split at h
    case isFalse => cases h
    rename_i hsl
    cases h
    refine ⟨it, tt, c, x, y, rfl, ⟨ok.I r h1, ?_, fun s H A cl fp => ?_, fun s H A cl fp => ?_, fun s H A cl fp => ?_, fold_of hb.2.1, slotsIn_of hsl⟩, fun s H A cl fp => ?_⟩
    · rw [r.hN, r.hs]; exact blkOk_by hb.1
    · exact trTg_ok hh (r.blk s H scope A cl fp) 5 h2
    · exact trIfs_ok (X := X.blk s H scope (compEnvC scope cl A X.env) fp) (sc := blkSc sc scope) (fun e t h => ok.E (r.blk s H scope A cl fp) h) h3
    · exact (ok.E (r.blk s H scope A cl fp) h4).1
    · exact (ok.E (r.blk s H scope A cl fp) h5).1
  · cases h
theorem sf_dcomp (hh : g.hot = false) (r : XR g X F Wx k C sc) {tg iter kx vx : Expr} {ifs : List Expr} {scope : Scope} {own : List (Str × Nat)} {mi : PM.Env → R (List W)} {t : Tg} {mt : PM.Env → R Bool} {mk mv : PM.Env → R Hd} {p : Pos} (l : LcOk X F Wx tg iter kx ifs scope own mi t mt mk)
    (hv : ∀ (s : Shared) (H : Hp) (A : Addr) (cl : List (Str × Addr)) (fp : List Addr), PE (X.blk s H scope (compEnvC scope cl A X.env) fp) vx (tE X.K X.mg F WX0 mv)) :
    SF X F Wx (.DictComp kx vx [⟨tg, iter, ifs, 0⟩] scope p) (dcompE mi t (own.map (·.2)) mt mk mv) :=
  pe_by fun σ H Q h => ⟨_, pe_dc (r.calm hh) r.nd l.hi l.ok l.hg l.ht l.he hv l.hs, dcomp_run l.sl h⟩
theorem stepF_ok (hh : g.hot = false) (ok : TOk g T) (r : XR g X F Wx k C sc) {e : Expr} {t : Fr} (h : stepF g T sc e = some t) : SF X F Wx e (evalF C g.G t) := by
  have H : ∀ e t, T.E sc e = some t → SE X F Wx e (evalE C g.G t) := fun e t h => (ok.E r h).1
  unfold stepF at h
  split at h
  · split at h
    case isFalse => cases h
    rename_i hl
    obtain ⟨as, h1, rfl⟩ := omap_of h
    obtain ⟨s1, s2, s3⟩ := trL_ok r H h1
    have e : evalF C g.G (.lst as) = fun env => (evalEs C g.G as env).bind fun hs e1 => match pvs hs with | some ws => .ok (.lst ws) e1 | none => .no := by funext env; rw [evalF] <;> rfl
    rw [e]
    exact sf_lst s1 fun env hs e1 q => by rw [evalEs_len q, s3]; omega
  · split at h
    · rename_i hi
      obtain ⟨rfl, q, p2, rfl⟩ := innerOf_of hi
      exact trLRng_ok hh r H h
    · exact trCallF_ok r H h
  · obtain ⟨it, tt, c, x, rfl, l⟩ := lc_ok (a := 0) hh ok r (p := ⟨0, 0, 0, 0⟩) (show stepF g T sc _ = some t by simp only [stepF]; exact h)
    rw [comp_eq]
    exact sf_comp hh r l
  · obtain ⟨it, tt, c, it1, t1, c1, x, rfl, l⟩ := lc2_ok hh ok r (p := ⟨0, 0, 0, 0⟩) (show stepF g T sc _ = some t by simp only [stepF]; exact h)
    rw [comp2_eq]
    exact sf_comp2 hh r l
  · obtain ⟨it, tt, c, x, y, rfl, l, hv⟩ := dc_ok hh ok r (p := ⟨0, 0, 0, 0⟩) (show stepF g T sc _ = some t by simp only [stepF]; exact h)
    rw [dcomp_eq]
    exact sf_dcomp hh r l hv
  · cases h
    have e : evalF C g.G .dic0 = fun env => .ok (.dic [] []) env := by funext env; rw [evalF]
    rw [e]
    exact sf_dic0
  · obtain ⟨x, y, h1, h2, rfl⟩ := o2_of h
    have e : evalF C g.G (.dic1 x y) = fun env => (evalE C g.G x env).val.bind fun u e1 => (evalE C g.G y e1).val.bind fun w e2 => if isKey u = true then .ok (.dic [u] [w]) e2 else .no := by funext env; rw [evalF]
    rw [e]
    exact sf_dic1 (H _ x h1) (H _ y h2)
  · cases h
theorem isTup_of {tg : Expr} (h : isTupE tg = true) : ∃ es kk p, tg = .Tuple es kk p := by
  cases tg <;> first | exact ⟨_, _, _, rfl⟩ | cases h
theorem seq_eq {G : Glob} {t : Ex} : evalI C G (.seq t) = fun env => (evalE C G t env).bind fun h e1 => match h with | .v w => R.opt (itemsW w) e1 | .s _ => .no := by funext env; rw [evalI] <;> rfl
theorem enum_eq {G : Glob} {t u : Ex} : evalI C G (.enum t u) = itwo (evalE C G t) (evalE C G u) enumP := by funext env; rw [evalI] <;> rfl
theorem zip_eq {G : Glob} {t u : Ex} : evalI C G (.zip t u) = itwo (evalE C G t) (evalE C G u) zipP := by funext env; rw [evalI] <;> rfl
theorem rng_eq {G : Glob} {as : Exs} : evalI C G (.rng as) = fun env => (evalEs C G as env).bind fun hs e1 => match pvs hs with | some ws => R.opt (rngW ws) e1 | none => .no := by funext env; rw [evalI] <;> rfl
theorem stepI_ok (ok : TOk g T) (r : XR g X F Wx k C sc) {tg e : Expr} {t : Iz} (h : stepI g T sc tg e = some t) : SI X F Wx tg e (evalI C g.G t) := by
  have H : ∀ e t, T.E sc e = some t → SE X F Wx e (evalE C g.G t) := fun e t h => (ok.E r h).1
  have sq : ∀ {e t}, (T.E sc e).map Iz.seq = some t → SI X F Wx tg e (evalI C g.G t) := fun {e t} h => by
    obtain ⟨x, h1, rfl⟩ := omap_of h
    rw [seq_eq]
    exact si_seq (H _ x h1)
  unfold stepI at h
  split at h
  · split at h
    case isFalse => exact sq h
    rename_i hc
    have hm := r.blt _ (List.contains_iff_mem.mp hc.2.1)
    split at h
    · rename_i e; subst e
      obtain ⟨x, h1, rfl⟩ := omap_of h
      rw [rng_eq]
      exact si_rng1 (r.gl hc.1) hm (sa_cons hc.2.2 (H _ x h1) sa_nil) hc.2.2 fun env hs e1 q => evalEs_len q
    split at h
    · rename_i e
      obtain ⟨e, ht⟩ := e
      subst e
      obtain ⟨es, kk, p, rfl⟩ := isTup_of ht
      obtain ⟨x, h1, rfl⟩ := omap_of h
      have e : evalI C g.G (.enum x (.lit (.int 0))) = ione (evalE C g.G x) fun u => enumP u (.int 0) := by
        rw [enum_eq]
        funext env
        unfold itwo ione
        cases q : evalE C g.G x env with
        | no => rfl
        | exc => rfl
        | ok hd e1 =>
          simp only [R.bind_ok]
          rw [show evalE C g.G (.lit (.int 0)) e1 = .ok (.v (.int 0)) e1 by rw [evalE]]
          cases hd <;> rfl
      rw [e]
      exact si_enum0 (r.gl hc.1) hm (H _ x h1) hc.2.2
    · exact sq h
  · split at h
    case isFalse => exact sq h
    rename_i hc
    have hm := r.blt _ (List.contains_iff_mem.mp hc.2.1)
    split at h
    · rename_i e; subst e
      obtain ⟨x, y, h1, h2, rfl⟩ := o2_of h
      rw [rng_eq]
      exact si_rng2 (r.gl hc.1) hm (sa_cons hc.2.2.1 (H _ x h1) (sa_cons hc.2.2.2 (H _ y h2) sa_nil)) hc.2.2.1 hc.2.2.2 fun env hs e1 q => evalEs_len q
    split at h
    · rename_i e
      obtain ⟨e, ht⟩ := e
      subst e
      obtain ⟨es, kk, p, rfl⟩ := isTup_of ht
      obtain ⟨x, y, h1, h2, rfl⟩ := o2_of h
      rw [enum_eq]
      exact si_enumP (r.gl hc.1) hm (H _ x h1) hc.2.2.1 (H _ y h2) hc.2.2.2
    split at h
    · rename_i e
      obtain ⟨e, ht⟩ := e
      subst e
      obtain ⟨es, kk, p, rfl⟩ := isTup_of ht
      obtain ⟨x, y, h1, h2, rfl⟩ := o2_of h
      rw [zip_eq]
      exact si_zip (r.gl hc.1) hm (H _ x h1) hc.2.2.1 (H _ y h2) hc.2.2.2
    · exact sq h
  · split at h
    case isFalse => cases h
    rename_i hc
    obtain ⟨h1, h2, h3, rfl, rfl, h6⟩ := hc
    have hm := r.blt _ (List.contains_iff_mem.mp h2)
    obtain ⟨es, kk, p, rfl⟩ := isTup_of h6
    obtain ⟨x, y, q1, q2, rfl⟩ := o2_of h
    rw [enum_eq]
    exact si_enumS (r.gl h1) hm (H _ x q1) h3 (H _ y q2)
  · exact sq h
theorem tr_ok (g : Gk) : ∀ n, TOk g (tr g n)
  | 0 => ⟨fun _ h => (nomatch h), fun _ h => (nomatch h), fun _ h => (nomatch h)⟩
  | n + 1 => by
    have f0 : ∀ {b : Bool} {α : Type} {o : Option α} {t : α}, (if b = true then none else o) = some t → b = false ∧ o = some t := fun {b α o t} h => by
      cases b with
      | false => exact ⟨rfl, h⟩
      | true => cases h
    exact ⟨fun r h => stepE_ok (tr_ok g n) r h, fun r h => stepF_ok (f0 h).1 (tr_ok g n) r (f0 h).2, fun r h => stepI_ok (tr_ok g n) r (f0 h).2⟩
end
end PM

set_option maxHeartbeats 4000000
namespace PM
open PySem L2
def Sm.never : Sm := .nev
def stB : Expr → Bool
  | .Starred .. => true
  | _ => false
def isCompE : Expr → Bool
  | .ListComp _ _ _ _ => true
  | .SetComp _ _ _ _ => true
  | .DictComp _ _ _ _ _ => true
  | _ => false
def swB (sc scope : Scope) (y : Str) (py pos : Pos) : Bool := lclB sc y && (py.line == pos.line) && !(scope.names.any fun (n, k) => n == y && (k == .local || k == .cell))
/-- the pair of names: stored from the right -/
def swapB (sc : Scope) (x y : Str) (px py : Pos) (a b : Expr) : Bool :=
  lclB sc x && lclB sc y && (px.line == py.line) && !decide (x = y) && nS a && nS b && !([a, b].all (foldedForSure 8)) && !([a, b].all (constantsAlone 8))
/-- three names -/
def swapB3 (sc : Scope) (x y z : Str) (px py pz : Pos) (es : List Expr) : Bool :=
  lclB sc x && lclB sc y && lclB sc z && (px.line == py.line) && (px.line == pz.line) && !decide (x = y) && !decide (x = z) && !decide (y = z) && es.all nS && decide (es.length = 3) && !(es.all (foldedForSure 8)) && !(es.all (constantsAlone 8))
section
variable {X : Cx} {F : Frm} {Wx : WX} {B : List Nat} {k : Nat} {C : CallT} {g : Gk} {sc : Sc} {T : Tr}
theorem sw_none {e : Expr} {t : Option Expr} {l : Nat} {env : PySem.Env} (h : isCompE e = false) : swapsWith e t l env = pure false := by
  cases e <;> first | rfl | cases h
theorem sw_other {e tg : Expr} {l : Nat} {env : PySem.Env} (h : ∀ x p, tg ≠ .Name x p) : swapsWith e (some tg) l env = pure false := by
  cases e <;> first | rfl | (cases tg <;> first | rfl | exact absurd rfl (h _ _))
theorem blk_kind {env : PySem.Env} (h : env.scope.kind = .function) : env.blockKind = .function := by unfold Env.blockKind; rw [h]; rfl
theorem sw_name {elt : Expr} {gs : List Comprehension} {scope : Scope} {pos py : Pos} {y : Str} {l : Nat} {env : PySem.Env} (hk : env.scope.kind = .function) : swapsWith (.ListComp elt gs scope pos) (some (.Name y py)) l env = pure (swB env.scope scope y py pos) := by
  unfold swapsWith
  simp only [blk_kind hk, Expr.pos]
  unfold swB lclB
  have e : (env.kindOf y == some NameKind.local) = (match env.scope.names.lookup y with | some .local => true | _ => false) := by
    show (env.scope.names.lookup y == some NameKind.local) = _
    cases q : env.scope.names.lookup y with
    | none => rfl
    | some kd => cases kd <;> rfl
  rw [e]
  rfl
theorem sw_nameD {kx vx : Expr} {gs : List Comprehension} {scope : Scope} {pos py : Pos} {y : Str} {l : Nat} {env : PySem.Env} (hk : env.scope.kind = .function) : swapsWith (.DictComp kx vx gs scope pos) (some (.Name y py)) l env = pure (swB env.scope scope y py pos) := by
  unfold swapsWith
  simp only [blk_kind hk, Expr.pos]
  unfold swB lclB
  have e : (env.kindOf y == some NameKind.local) = (match env.scope.names.lookup y with | some .local => true | _ => false) := by
    show (env.scope.names.lookup y == some NameKind.local) = _
    cases q : env.scope.names.lookup y with
    | none => rfl
    | some kd => cases kd <;> rfl
  rw [e]
  rfl
theorem swapped_of {x y : Str} {px py pt pt2 : Pos} {kt k2 : Nat} {a b : Expr} {env : PySem.Env} (hk : env.scope.kind = .function) (h : swapB env.scope x y px py a b = true) :
    swappedStores [.Tuple [.Name x px, .Name y py] kt pt] (.Tuple [a, b] k2 pt2) env = pure (some [x, y]) ∧ env.scope.names.lookup x = some .local ∧ env.scope.names.lookup y = some .local ∧ x ≠ y ∧ nS a = true ∧ nS b = true := by
  unfold swapB at h
  simp only [Bool.and_eq_true, Bool.not_eq_true', decide_eq_false_iff_not] at h
  obtain ⟨⟨⟨⟨⟨⟨⟨h1, h2⟩, h3⟩, h4⟩, h5⟩, h6⟩, h7⟩, h8⟩ := h
  have hx := lclB_of h1
  have hy := lclB_of h2
  refine ⟨?_, hx, hy, h4, h5, h6⟩
  have kx : env.kindOf x = some .local := hx
  have ky : env.kindOf y = some .local := hy
  have sa : stB a = false := by cases a <;> first | rfl | cases h5
  have sb : stB b = false := by cases b <;> first | rfl | cases h6
  have hl : (py.line == px.line) = true := by rw [beq_iff_eq] at h3 ⊢; exact h3.symm
  have hd : [x, y].eraseDups = [x, y] := by
    have : (y == x) = false := beq_eq_false_iff_ne.mpr (Ne.symm h4)
    simp [List.eraseDups_cons, this]
  unfold swappedStores
  simp only [blk_kind hk, List.any_cons, List.any_nil, List.filterMap_cons, List.filterMap_nil, kx, ky, List.head?_cons, Option.map_some, Option.getD_some, Expr.pos, beq_self_eq_true, hl]
  have len : ∀ {c : Bool} {α : Type} {p q : α}, c = false → (if c = true then p else q) = q := fun h => by rw [h]; rfl
  have or_ff : ∀ {p q : Bool}, p = false → q = false → (p || (q || false)) = false := fun h1 h2 => by rw [h1, h2]; rfl
  refine Eq.trans (len rfl) ?_
  refine Eq.trans (len (or_ff sa sb)) ?_
  simp only [Bool.and_self, if_true, hd]
  refine Eq.trans (len rfl) ?_
  refine Eq.trans (len h7) ?_
  refine Eq.trans (len h8) ?_
  rfl
theorem swapped3_of {x y z : Str} {px py pz pt pt2 : Pos} {kt k2 : Nat} {es : List Expr} {env : PySem.Env} (hk : env.scope.kind = .function) (h : swapB3 env.scope x y z px py pz es = true) :
    swappedStores [.Tuple [.Name x px, .Name y py, .Name z pz] kt pt] (.Tuple es k2 pt2) env = pure (some [x, y, z]) ∧ (env.scope.names.lookup x = some .local ∧ env.scope.names.lookup y = some .local ∧ env.scope.names.lookup z = some .local) ∧ (x ≠ y ∧ x ≠ z ∧ y ≠ z) ∧ es.all nS = true ∧ es.length = 3 := by
  unfold swapB3 at h
  simp only [Bool.and_eq_true, Bool.not_eq_true', decide_eq_false_iff_not, decide_eq_true_eq] at h
  obtain ⟨⟨⟨⟨⟨⟨⟨⟨⟨⟨⟨h1, h2⟩, h3⟩, h4⟩, h5⟩, h6⟩, h7⟩, h8⟩, h9⟩, h10⟩, h11⟩, h12⟩ := h
  have hx := lclB_of h1
  have hy := lclB_of h2
  have hz := lclB_of h3
  refine ⟨?_, ⟨hx, hy, hz⟩, ⟨h6, h7, h8⟩, h9, h10⟩
  have kx : env.kindOf x = some .local := hx
  have ky : env.kindOf y = some .local := hy
  have kz : env.kindOf z = some .local := hz
  have l1 : (py.line == px.line) = true := by rw [beq_iff_eq] at h4 ⊢; exact h4.symm
  have l2 : (pz.line == px.line) = true := by rw [beq_iff_eq] at h5 ⊢; exact h5.symm
  have hd : [x, y, z].eraseDups = [x, y, z] := by
    have a : (y == x) = false := beq_eq_false_iff_ne.mpr (Ne.symm h6)
    have b : (z == x) = false := beq_eq_false_iff_ne.mpr (Ne.symm h7)
    have c : (z == y) = false := beq_eq_false_iff_ne.mpr (Ne.symm h8)
    simp [List.eraseDups_cons, a, b, c]
  have noSt : (es.any fun | .Starred .. => true | _ => false) = false := by
    rw [List.any_eq_false]
    intro e he
    have := List.all_eq_true.mp h9 e he
    cases e <;> first | exact Bool.false_ne_true | (cases this)
  have len : ∀ {c : Bool} {α : Type} {p q : α}, c = false → (if c = true then p else q) = q := fun h => by rw [h]; rfl
  unfold swappedStores
  simp only [blk_kind hk, List.filterMap_cons, List.filterMap_nil, kx, ky, kz, List.head?_cons, Option.map_some, Option.getD_some, Expr.pos, beq_self_eq_true, l1, l2]
  refine Eq.trans (len ?_) ?_
  · rw [h10]; rfl
  refine Eq.trans (len noSt) ?_
  simp only [Bool.and_self, if_true, hd]
  refine Eq.trans (len rfl) ?_
  refine Eq.trans (len h11) ?_
  refine Eq.trans (len h12) ?_
  rfl
end
end PM

set_option maxHeartbeats 4000000
namespace PM
open PySem L2
def stName (B : List Nat) (sc : Sc) (x : Str) : Option Nat := if locB sc.scope x = true ∧ (sc.fn x = true ∨ lclB sc.scope x = true) then (match slotN sc.N x with | some i => if B.contains i = true then some i else none | none => none) else none
def trPt (T : Tr) (sc : Sc) (ow : Bool) (e : Expr) : Option Pt := if ow = true then (T.F sc e).map .f else (T.E sc e).map .v
def ownName (sc : Sc) (x : Str) : Option Nat := if dbgB x = true then none else if visB sc.scope x = true then (match slotN sc.N x with | some i => if sc.own.contains i = true then some i else none | none => none) else none
def retCall (g : Gk) (sc : Sc) : Expr → Bool
  | .Call (.Name f _) _ [] _ => glB sc.scope f && (g.defs.contains f || (g.G.cls f).isSome) && !dbgB f
  | _ => false
def trRet (g : Gk) (T : Tr) (sc : Sc) (e : Expr) : Option Sm := match e with
  | .Name x _ => match ownName sc x with
    | some i => some (.retO i)
    | none => (T.E sc e).map .ret
  | .Call (.Name f _) es [] _ => if retCall g sc e = true ∧ es ≠ [] then (trL (T.E sc) es).map (.retC f) else match T.F sc e with
    | some f => some (.retF f)
    | none => (T.E sc e).map .ret
  | _ => match T.F sc e with
    | some f => some (.retF f)
    | none => (T.E sc e).map .ret
def isDictE : Expr → Bool
  | .DictComp _ _ _ _ _ => true
  | _ => false
def trAsg (T : Tr) (B : List Nat) (sc : Sc) (x : Str) (e : Expr) : Option Sm := match stName B sc x with
  | none => none
  | some i => if sc.own.contains i = true then (T.F sc e).map (.asgO i) else if isCompE e = true then (if isDictE e = true then none else (T.F sc e).map fun f => .asg (.nm i) (.frz f)) else (T.E sc e).map (.asg (.nm i))
def isTupD : Expr → Bool
  | .Tuple _ _ _ => true
  | _ => false
def trSs (f : Stmt → Sm) : List Stmt → Sms
  | [] => .nil
  | s :: ss => .cons (f s) (trSs f ss)
def slotsB (t : Tg) (B own : List Nat) : Bool := t.slots.all fun i => B.contains i && !own.contains i
/-- g, where an exception is handled -/
def hotG (g : Gk) : Gk := { g with defs := g.hdefs, hot := true, hdefs := [] }
def trAs (B : List Nat) (sc : Sc) : Option Str → Option (Option Nat)
  | none => some none
  | some n => if lclB sc.scope n = true then (match slotN sc.N n with | some i => if B.contains i = true then some (some i) else none | none => none) else none
def trHd (g : Gk) (B : List Nat) (rech : Stmt → Sm) (sc : Sc) : List ExceptHandler → Option Hds
  | [] => some .nil
  | .ExceptHandler (some (.Name x _)) nm (b0 :: suite) _ :: r => if dbgB x = false ∧ glB sc.scope x = true ∧ (g.G.xcl x).isSome = true then
      (match trAs B sc nm, trHd g B rech sc r with
      | some i, some l => some (.cons (.glo x) i (trSs rech (b0 :: suite)) l)
      | _, _ => none)
    else none
  | _ => none
def strC : Expr → Bool
  | .Constant (.str _) _ _ => true
  | _ => false
def trRaise (g : Gk) (T : Tr) (sc : Sc) (c : Str) (a : Expr) : Option Sm :=
  if g.hot = false ∧ dbgB c = false ∧ glB sc.scope c = true then (match g.G.xcl c with
    | some none => if strC a = true then some (.raise0 c) else none
    | some (some _) => if nS a = true then (T.E sc a).map (.raise1 c) else none
    | none => none) else none
def trTupA (T : Tr) (B : List Nat) (sc : Sc) (tg e : Expr) : Option Sm := match trTg sc 5 tg with
  | some t => if slotsB t B sc.own = true then (T.E sc e).map (.asg t) else none
  | none => none
def trS1 (g : Gk) (T : Tr) (B : List Nat) (rec rech : Stmt → Sm) (sc : Sc) (st : Stmt) : Option Sm := match st with
  | .Expr (.Constant (.str _) _ _) _ => some .pass
  | .Expr e _ => if isCompE e = false then (T.E sc e).map .expr else none
  | .Pass _ => some .pass
  | .Break _ => some .brk
  | .Continue _ => some .cont
  | .Return none _ => some .retN
  | .Return (some e) _ => trRet g T sc e
  | .Assign [.Name x _] e _ => trAsg T B sc x e
  | .Assign [.Tuple [.Name x px, .Name y py] kt pt] (.Tuple [a, b] k2 pt2) _ => if g.hot = false ∧ swapB sc.scope x y px py a b = true then (match stName B sc x, stName B sc y with
      | some i, some j => o2 (trPt T sc (sc.own.contains i) a) (trPt T sc (sc.own.contains j) b) (.par i j)
      | _, _ => none) else if g.hot = false ∧ (lclB sc.scope x && lclB sc.scope y) = false then trTupA T B sc (.Tuple [.Name x px, .Name y py] kt pt) (.Tuple [a, b] k2 pt2) else none
  | .Assign [.Tuple [.Name x px, .Name y py, .Name z pz] _ _] (.Tuple es _ _) _ => if g.hot = false ∧ swapB3 sc.scope x y z px py pz es = true then (match stName B sc x, stName B sc y, stName B sc z with
      | some i, some j, some l => if sc.own.contains i = false ∧ sc.own.contains j = false ∧ sc.own.contains l = false then (trL (T.E sc) es).map (.par3 i j l) else none
      | _, _, _ => none) else none
  | .Raise (some (.Call (.Name c _) [a] [] _)) none _ => trRaise g T sc c a
  | .Try body (h0 :: hs) [] [] _ => if g.hot = false then (trHd g B rech sc (h0 :: hs)).map fun l => .tryx (trSs rec body) l else none
  | .Assign [.Tuple ts kt pt] e _ => if g.hot = false ∧ isTupD e = false then (match trTg sc 5 (.Tuple ts kt pt) with
      | some t => if slotsB t B sc.own = true then (T.E sc e).map (.asg t) else none
      | none => none) else none
  | .Assign [.Subscript (.Name x _) i _] e _ => if slOk i = true then (match ownName sc x with
      | some j => o2 (T.E sc i) (T.E sc e) (.seti j)
      | none => none) else none
  | .Assign [.Attribute (.Name x _) f _] e _ => match ownName sc x with
      | some j => (T.E sc e).map (.setf j f)
      | none => none
  | .AugAssign (.Name x _) op e _ => match stName B sc x with
      | some i => if sc.own.contains i = true then none else (T.E sc e).map (.aug i op)
      | none => none
  | .If c a b _ => (T.E sc c).map fun c' => .ifs c' (trSs rec a) (trSs rec b)
  | .For tg it body [] _ => match trTg sc 5 tg, T.I sc tg it with
      | some t, some i => if g.hot = false ∧ slotsB t B sc.own = true ∧ notSet it = true then some (.fors t i (trSs rec body)) else none
      | _, _ => none
  | .While c body [] _ => if g.hot = false then (T.E sc c).map fun c' => .whil c' (trSs rec body) else none
  | _ => none
def trS (m : Nat) (B : List Nat) : Nat → Gk → Sc → Stmt → Sm
  | 0, _, _, _ => .never
  | n + 1, g, sc, st => (trS1 g (tr g (m + 1)) B (trS m B n g sc) (trS m B n (hotG g) sc) sc st).getD .never
section
variable {X : Cx} {F : Frm} {Wx : WX} {B : List Nat} {k : Nat} {C : CallT} {g : Gk} {sc : Sc} {T : Tr}
theorem ss_never {st : Stmt} {G : Glob} : SS X F Wx B st (execS C G .never) := ps_by fun D σ H h => by
  obtain ⟨α, T, env, c, o⟩ := h
  have e : execS C G .never env = .no := by unfold Sm.never; rw [execS]
  rw [e] at o
  exact o.elim
theorem stName_of {x : Str} {i : Nat} (r : XR g X F Wx k C sc) (h : stName B sc x = some i) : X.N[i]? = some x ∧ Loc X.env.scope x ∧ (X.fn x = true ∨ X.env.scope.names.lookup x = some .local) ∧ i ∈ B := by
  unfold stName at h
  split at h
  case isFalse => cases h
  rename_i hl
  split at h
  · rename_i j hj
    split at h
    · rename_i hb
      cases h
      refine ⟨r.slot hj, by rw [r.hs]; exact locB_of hl.1, ?_, List.contains_iff_mem.mp hb⟩
      rcases hl.2 with z | z
      · exact .inl (by rw [r.fn]; exact z)
      · exact .inr (by rw [r.hs]; exact lclB_of z)
    · cases h
  · cases h
theorem ownName_of {x : Str} {i : Nat} (r : XR g X F Wx k C sc) (h : ownName sc x = some i) (pos : Pos) : SE X F Wx (.Name x pos) (mBor i) := by
  unfold ownName at h
  split at h
  · cases h
  rename_i hd
  obtain ⟨d1, d2, d3⟩ := dbg_of (by simpa using hd)
  split at h
  case isFalse => cases h
  rename_i hv
  split at h
  · rename_i j hj
    split at h
    · cases h
      exact se_bor (r.slot hj) (r.vis hv) d1 d2
    · cases h
  · cases h
/-- f(..) given back as it comes -/
theorem ss_retC {x : Str} {ms : PM.Env → R (List Hd)} {e : Expr} {pos : Pos} (h : PE X e (tCX Wx (SpC X.K X.mg (C "" x)) (tA X.K X.mg F Wx ms))) : SS X F Wx B (.Return (some e) pos) (fun env => (ms env).bind fun hs e1 => (callH C "" x hs e1).bind fun r e2 => .ok (.rt r.1 r.2) e2) := ps_by fun D σ H hq => ⟨_, ps_ret h, by
  obtain ⟨α, T, env, c, o⟩ := hq
  try dsimp only at o
  have o' : OutR (okS X.K X.mg F B α T H D) (exE X.K X.mg F Wx α T σ H) ((mCall C "" x ms env).bind fun r e2 => .ok (.rt r.1 r.2) e2) := by
    unfold mCall
    have o := exS_exE (σ := σ) o
    cases q : ms env <;> (simp only [q] at o; exact o)
  refine call_run c o' fun fr w env' H1 H' v q1 c1 k1 k2 nm r hx o1 => ?_
  unfold RetOk at r
  cases fr with
  | false =>
    rw [if_neg (by decide)] at r
    exact (show okS X.K X.mg F B α T H D (.rt false w) env' from o1) v σ H' α T c1 k1 (fun _ _ => rfl) r
  | true =>
    rw [if_pos rfl] at r
    obtain ⟨p, rfl, hp, oo⟩ := r
    refine (show okS X.K X.mg F B α T H D (.rt true w) env' from o1) (.ref p) σ H' α (p :: T) (hx p rfl rfl hp) k1 (fun _ _ => rfl) ⟨p, rfl, ?_, .inl List.mem_cons_self⟩
    exact OwnAt.kp (N := fun _ => False) (Kp.refl _ _) (fun _ z => z.elim) (fun x z => .inl (mm_cons z)) (fun z => z) oo⟩
theorem tF_of_hd {m : PM.Env → R W} {σ : St} {H : Hp} {Q : VK} (nd : ∀ env w e, m env = .ok w e → ∀ ks ws, w ≠ .dic ks ws) (h : tE X.K X.mg F Wx (fun env => (m env).hd) σ H Q) : tF X.K X.mg F Wx m σ H Q := by
  obtain ⟨α, T, env, c, o⟩ := tE_iff.mp h
  refine tF_iff.mpr ⟨α, T, env, c, ?_⟩
  have o2 := OutR.hd o
  cases q : m env with
  | no => rw [q] at o2; exact o2
  | exc => rw [q] at o2; exact o2
  | ok w e1 =>
    rw [q] at o2
    intro H' p hp c1 k1 r1
    exact (show okE X.K X.mg F α T σ H Q (.v w) e1 from o2) H' _ c1.drop k1 (r1.rep (nd _ _ _ q) (fun x z => z.imp id (Or.imp id (List.mem_cons_of_mem _))) (c.notin hp))
theorem compE_nd {mi : PM.Env → R (List W)} {t : Tg} {vs : List Nat} {mt : PM.Env → R Bool} {me : PM.Env → R Hd} {env e1 : PM.Env} {w : W} (q : compE mi t vs mt me env = .ok w e1) : ∀ ks ws, w ≠ .dic ks ws := by
  intro ks ws z
  subst z
  unfold compE at q
  cases h : mi env with
  | no => rw [h] at q; cases q
  | exc => rw [h] at q; cases q
  | ok us e2 =>
    rw [h, R.bind_ok] at q
    split at q
    · cases h2 : compL mt (fun e => (me e).val) t vs us [] e2 <;> (rw [h2] at q; cases q)
    · cases q
theorem compE2_nd {mi mi1 : PM.Env → R (List W)} {t t1 : Tg} {vs vs1 : List Nat} {mt mt1 : PM.Env → R Bool} {me : PM.Env → R Hd} {env e1 : PM.Env} {w : W} (q : compE2 mi t vs mt mi1 t1 vs1 mt1 me env = .ok w e1) : ∀ ks ws, w ≠ .dic ks ws := by
  intro ks ws z
  subst z
  unfold compE2 at q
  cases h : mi env with
  | no => rw [h] at q; cases q
  | exc => rw [h] at q; cases q
  | ok us e2 =>
    rw [h, R.bind_ok] at q
    split at q
    · cases h2 : compL2 mt mi1 mt1 (fun e => (me e).val) t t1 vs vs1 us [] e2 <;> (rw [h2] at q; cases q)
    · cases q
theorem trF_of {m : Nat} {e : Expr} {f : Fr} (h : (tr g (m + 1)).F sc e = some f) : g.hot = false ∧ stepF g (tr g m) sc e = some f := by
  have h' : (if g.hot = true then none else stepF g (tr g m) sc e) = some f := h
  cases hh : g.hot with
  | false => rw [hh] at h'; exact ⟨rfl, h'⟩
  | true => rw [hh] at h'; cases h'
theorem comp_nd {m : Nat} {e : Expr} {f : Fr} (h : (tr g (m + 1)).F sc e = some f) (hc : isCompE e = true) (hd : isDictE e = false) {env : PM.Env} {w : W} {e1 : PM.Env} (q : evalF C g.G f env = .ok w e1) : ∀ ks ws, w ≠ .dic ks ws := by
  have h' := (trF_of h).2
  unfold stepF at h'
  split at h'
  · cases hc
  · cases hc
  · simp only at h'
    split at h'
    case isFalse => cases h'
    split at h'
    · split at h'
      · cases h'
        rw [comp_eq] at q
        exact compE_nd q
      · cases h'
    · cases h'
  · simp only at h'
    split at h'
    case isFalse => cases h'
    split at h'
    · split at h'
      · cases h'
        rw [comp2_eq] at q
        exact compE2_nd q
      · cases h'
    · cases h'
  · cases hd
  · cases hc
  · cases hc
  · cases h'
theorem stepF_shape {e : Expr} {t : Fr} (h : stepF g T sc e = some t) (hc : isCompE e = true) : (∃ elt tg iter ifs scope p, e = .ListComp elt [⟨tg, iter, ifs, 0⟩] scope p) ∨ ∃ elt tg iter ifs tg1 iter1 ifs1 scope p, (e = .ListComp elt [⟨tg, iter, ifs, 0⟩, ⟨tg1, iter1, ifs1, 0⟩] scope p ∨ e = .DictComp elt tg1 [⟨tg, iter, ifs, 0⟩] scope p) := by
  unfold stepF at h
  split at h
  · cases hc
  · cases hc
  · exact .inl ⟨_, _, _, _, _, _, rfl⟩
  · exact .inr ⟨_, _, _, _, _, _, _, _, _, .inl rfl⟩
  · exact .inr ⟨_, _, _, _, _, .Constant .none 0 ⟨0, 0, 0, 0⟩, [], _, _, .inr rfl⟩
  · cases hc
  · cases hc
  · cases h
theorem asg_comp {m : Nat} (r : XR g X F Wx k C sc) {e : Expr} {f : Fr} {x : Str} {i : Nat} {px pos : Pos} (hk : X.env.scope.kind = .function) (hi : stName B sc x = some i) (hc : isCompE e = true) (h : (tr g (m + 1)).F sc e = some f) :
    PS X (.Assign [.Name x px] e pos) (tAsg (tF X.K X.mg F Wx (evalF C g.G f)) (gName i)) := by
  obtain ⟨n1, n2, n3, n4⟩ := stName_of r hi
  obtain ⟨hh, h'⟩ := trF_of h
  have lcl : ∀ {scope : Scope} {p : Pos}, swB X.env.scope scope x px p = true → X.env.scope.names.lookup x = some .local := fun {scope p} hb => by
    unfold swB at hb
    simp only [Bool.and_eq_true] at hb
    exact lclB_of hb.1.1
  rcases stepF_shape h' hc with ⟨elt, tg, iter, ifs, scope, p, rfl⟩ | ⟨elt, tg, iter, ifs, tg1, iter1, ifs1, scope, p, rfl | rfl⟩
  · obtain ⟨it, tt, c, x', rfl, l⟩ := lc_ok (a := 0) hh (tr_ok g m) r h'
    rw [comp_eq]
    cases hb : swB X.env.scope scope x px p with
    | true => exact ps_by fun D σ H hq => ⟨_, ps_setLc (r.calm hh) r.nd n1 (lcl hb) (by rw [sw_name hk, hb]) l.hi l.ok l.hg l.ht l.he l.hs, comp_run l.sl hq⟩
    | false => exact ps_set r.nd n1 n2 (sf_comp hh r l) (by rw [sw_name hk, hb]) n3
  · obtain ⟨it, tt, c, it1, t1, c1, x', rfl, l⟩ := lc2_ok hh (tr_ok g m) r h'
    rw [comp2_eq]
    cases hb : swB X.env.scope scope x px p with
    | true => exact ps_by fun D σ H hq => ⟨_, ps_setLc2 (r.calm hh) r.nd n1 (lcl hb) (by rw [sw_name hk, hb]) l.l.hi l.l.ok l.sl1 l.l.hg l.l.ht l.hi1 l.hg1 l.ht1 l.l.he l.l.hs l.hs1, comp2_run l.l.sl (fun _ z => z) l.sl1 hq⟩
    | false => exact ps_set r.nd n1 n2 (sf_comp2 hh r l) (by rw [sw_name hk, hb]) n3
  · obtain ⟨it, tt, c, x', y', rfl, l, hv⟩ := dc_ok hh (tr_ok g m) r h'
    rw [dcomp_eq]
    cases hb : swB X.env.scope scope x px p with
    | true => exact ps_by fun D σ H hq => ⟨_, ps_setDc (r.calm hh) r.nd n1 (lcl hb) (by rw [sw_nameD hk, hb]) l.hi l.ok l.hg l.ht l.he hv l.hs, dcomp_run l.sl hq⟩
    | false => exact ps_set r.nd n1 n2 (sf_dcomp hh r l hv) (by rw [sw_nameD hk, hb]) n3
theorem trAsg_ok {m : Nat} (r : XR g X F Wx k C sc) (hk : X.env.scope.kind = .function) {e : Expr} {x : Str} {px pos : Pos} {s : Sm} (h : trAsg (tr g (m + 1)) B sc x e = some s) : SS X F Wx B (.Assign [.Name x px] e pos) (execS C g.G s) := by
  have ok := tr_ok g (m + 1)
  unfold trAsg at h
  split at h
  · cases h
  rename_i i hi
  obtain ⟨n1, n2, n3, n4⟩ := stName_of r hi
  split at h
  · obtain ⟨f, h1, rfl⟩ := omap_of h
    have ee : execS C g.G (.asgO i f) = fun env => (evalF C g.G f env).bind fun w e1 => putO i w e1 := by funext env; rw [execS]
    rw [ee]
    refine ss_asgO n4 ?_
    cases hc : isCompE e with
    | true => exact asg_comp r hk hi hc h1
    | false => exact ps_set r.nd n1 n2 (ok.F r h1) (sw_none hc) n3
  have ea : ∀ t, execS C g.G (.asg (.nm i) t) = fun env => (evalE C g.G t env).val.bind fun w e1 => match bindT (.nm i) w e1 with | some e2 => .ok .nx e2 | none => .no := fun t => by funext env; rw [execS] <;> rfl
  split at h
  · rename_i hc
    split at h
    · cases h
    rename_i hdd
    obtain ⟨f, h1, rfl⟩ := omap_of h
    rw [ea]
    refine ss_asg (t := .nm i) (fun j hj => by simp [Tg.slots] at hj; rw [hj]; exact n4) ?_
    rw [frz_eq]
    have z := asg_comp (px := px) (pos := pos) r hk hi hc h1
    exact ps_by fun D σ H hq => ⟨_, z, tF_of_hd (fun env w e1 q => comp_nd h1 hc (by simpa using hdd) q) hq⟩
  · rename_i hc
    have hc : isCompE e = false := by simpa using hc
    obtain ⟨t, h1, rfl⟩ := omap_of h
    rw [ea]
    exact ss_asg (t := .nm i) (fun j hj => by simp [Tg.slots] at hj; rw [hj]; exact n4) (ps_set r.nd n1 n2 (ok.E r h1).1 (sw_none hc) n3)
theorem trPt_ok {m : Nat} (r : XR g X F Wx k C sc) {ow : Bool} {e : Expr} {t : Pt} (h : trPt (tr g (m + 1)) sc ow e = some t) : PE X e (tP X.K X.mg F Wx (evalP C g.G t)) ∧ ∀ env e1, evalP C g.G t env = .ok .no e1 → False := by
  have ok := tr_ok g (m + 1)
  unfold trPt at h
  split at h
  · obtain ⟨f, h1, rfl⟩ := omap_of h
    refine ⟨pe_ptF (ok.F r h1), fun env e1 z => ?_⟩
    simp only [evalP] at z
    cases q : evalF C g.G f env <;> (rw [q] at z; cases z)
  · obtain ⟨f, h1, rfl⟩ := omap_of h
    refine ⟨pe_ptV (ok.E r h1).1, fun env e1 z => ?_⟩
    simp only [evalP] at z
    cases q : evalE C g.G f env with
    | no => rw [q] at z; cases z
    | exc => rw [q] at z; cases z
    | ok hd e2 => rw [q] at z; cases hd <;> cases z
theorem slotsB_of {t : Tg} {own : List Nat} (h : slotsB t B own = true) : ∀ i ∈ t.slots, i ∈ B := fun i hi => by
  have := List.all_eq_true.mp h i hi
  rw [Bool.and_eq_true] at this
  exact List.contains_iff_mem.mp this.1
theorem trSs_ok {G : Glob} {rec : Stmt → Sm} (H : ∀ s, SS X F Wx B s (execS C G (rec s))) : ∀ ss : List Stmt, SSs X F Wx B ss (execSs C G (trSs rec ss))
  | [] => by
    have e : execSs C G .nil = fun env => .ok .nx env := by funext env; rw [execSs]
    show SSs X F Wx B [] (execSs C G .nil)
    rw [e]; exact sss_nil
  | s :: ss => by
    have e : execSs C G (.cons (rec s) (trSs rec ss)) = seqM (execS C G (rec s)) (execSs C G (trSs rec ss)) := by funext env; rw [execSs] <;> rfl
    show SSs X F Wx B (s :: ss) (execSs C G (.cons (rec s) (trSs rec ss)))
    rw [e]; exact sss_cons (H s) (trSs_ok H ss)

theorem trRet_ok {m : Nat} (r : XR g X F Wx k C sc) {e : Expr} {pos : Pos} {s : Sm} (h : trRet g (tr g (m + 1)) sc e = some s) : SS X F Wx B (.Return (some e) pos) (execS C g.G s) := by
  have ok := tr_ok g (m + 1)
  have hE : ∀ {e t}, (tr g (m + 1)).E sc e = some t → SS X F Wx B (.Return (some e) pos) (execS C g.G (.ret t)) := fun {e t} h => by
    have ee : execS C g.G (.ret t) = fun env => (evalE C g.G t env).val.bind fun w e1 => .ok (.rt false w) e1 := by funext env; rw [execS]
    rw [ee]
    exact ss_ret (ok.E r h).1
  have hF : ∀ {e t}, (tr g (m + 1)).F sc e = some t → SS X F Wx B (.Return (some e) pos) (execS C g.G (.retF t)) := fun {e t} h => by
    have ee : execS C g.G (.retF t) = fun env => (evalF C g.G t env).bind fun w e1 => .ok (.rt true w) e1 := by funext env; rw [execS]
    rw [ee]
    exact ss_retF (ok.F r h)
  unfold trRet at h
  split at h
  · split at h
    · rename_i i hi
      cases h
      have ee : execS C g.G (.retO i) = fun env => match env[i]? with
        | some (.own w) => .ok (.rt true w) (env.set i .no)
        | _ => .no := by funext env; rw [execS] <;> rfl
      rw [ee]
      exact ss_retO (ownName_of r hi _)
    · obtain ⟨t, h1, rfl⟩ := omap_of h
      exact hE h1
  · split at h
    · rename_i hc
      obtain ⟨as, h1, rfl⟩ := omap_of h
      have hc1 := hc.1
      unfold retCall at hc1
      simp only [Bool.and_eq_true, Bool.not_eq_true', Bool.or_eq_true] at hc1
      obtain ⟨⟨c1, c2⟩, c3⟩ := hc1
      have ee : ∀ f as, execS C g.G (.retC f as) = fun env => (evalEs C g.G as env).bind fun hs e1 => (callH C "" f hs e1).bind fun r e2 => .ok (.rt r.1 r.2) e2 := fun f as => by funext env; rw [execS]
      rw [ee]
      exact ss_retC (call_arm r (fun e t h => (ok.E r h).1) c3 c1 (c2.imp id fun z => ⟨z, hc.2⟩) h1)
    · split at h
      · rename_i h1
        cases h
        exact hF h1
      · obtain ⟨t, h1, rfl⟩ := omap_of h
        exact hE h1
  · split at h
    · rename_i h1
      cases h
      exact hF h1
    · obtain ⟨t, h1, rfl⟩ := omap_of h
      exact hE h1
theorem sub_assign {o i : Expr} {pos : Pos} {env : PySem.Env} (h : slOk i = true) : ∀ v, assign (.Subscript o i pos) env v = (do
      let ov ← holding [v] (eval o env)
      let iv ← holding [v, ov] (eval i env)
      standAt pos
      holding [v, ov, iv] (setItem ov iv v)
      release [v, ov, iv] []) := by
  intro v
  cases i <;> first | rfl | cases h
theorem ipSem_of {op : Operator} {u v w : W} (h : ipW op u v = some w) : IpSem X op u v w := by
  unfold ipW at h
  split at h
  · cases h
    refine ⟨_, ip_add, fun M H x y Q rx ry k => ?_⟩
    exact ⟨_, _, rx, ry, k H _ (Kp.refl _ _) rfl⟩
  · cases h
    refine ⟨_, ip_sub, fun M H x y Q rx ry k => ?_⟩
    exact ⟨_, _, rx, ry, k H _ (Kp.refl _ _) rfl⟩
  · cases h
theorem sole_tup {ts : List Expr} {kt l : Nat} {pt : Pos} {e : Expr} {env : PySem.Env} : swapsWithSole [.Tuple ts kt pt] e l env = pure false := sw_other (tg := .Tuple ts kt pt) (l := l) (env := env) fun _ _ z => nomatch z
theorem sole_sub {o i : Expr} {l : Nat} {pt : Pos} {e : Expr} {env : PySem.Env} : swapsWithSole [.Subscript o i pt] e l env = pure false := sw_other (tg := .Subscript o i pt) (l := l) (env := env) fun _ _ z => nomatch z
theorem stores_sub {o i : Expr} {pt : Pos} {e : Expr} {env : PySem.Env} : swappedStores [.Subscript o i pt] e env = pure none := by cases e <;> rfl
/-- what is known of the frame of a def -/
structure DefX (X : Cx) : Prop where
  pas : PassesOwn (model X.prog X.w) X.A X.env X.xe
  ex : X.ex = []
  stk : X.stack = X.env :: X.outer
  frm : X.env.frame = some X.env.locals
theorem XR.tr (r : XR g X F Wx k C sc) {W : WX} {pn : List (Addr × Obj)} {xe : Value → Shared → Prop} (tk : Takes (X.tr pn xe) W) : XR g (X.tr pn xe) F W k C sc := by
  refine ⟨r.hN, r.nd, r.hs, r.fn, r.calm, r.hu, r.room, tk, fun x h => ⟨(r.defs x h).ex⟩, r.blt, fun x w h => ⟨(r.cst x w h).ex⟩, fun c f h => ⟨(r.cls c f h).ex⟩, fun c m h => ⟨(r.prop c m h).ex⟩, fun c m h => ⟨(r.meth c m h).ex⟩, fun c h => ⟨(r.eq c h).ex⟩, fun c h => ⟨(r.mkc c h).ex⟩, ⟨r.isi.cv, r.isi.kit, r.isi.cls, r.isi.exc⟩, fun c o h => ?_, r.exm, fun hh => ?_⟩
  · obtain ⟨C, h1, h2, h3, h4, h5⟩ := (r.xcl c o h).ex
    exact ⟨C, h1, h2, h3, h4, h5⟩
  · have z := r.hx hh
    exact ⟨fun x h => ⟨(z.defs x h).ex⟩, fun c m h => ⟨(z.prop c m h).ex⟩, fun c m h => ⟨(z.meth c m h).ex⟩, fun c h => ⟨(z.eq c h).ex⟩, fun c h => ⟨(z.mkc c h).ex⟩⟩
theorem XR.suite (hh : g.hot = false) (r : XR g X F Wx k C sc) (a : Addr) (pn : List (Addr × Obj)) : XR (hotG g) (X.suite a pn) F WX0 k g.G.hc sc := by
  have z := r.hx hh
  have rm := r.room
  rw [hh] at rm
  refine ⟨r.hN, r.nd, r.hs, r.fn, (fun z => nomatch z), r.hu, rm.heat a, fun u s' ⟨_, _, _, _, _, _, _, _, _, _, _, _, _, _, _, _, w⟩ => w.elim, fun x h => ⟨(z.defs x h).ex⟩, r.blt, fun x w h => ⟨(r.cst x w h).ex⟩, fun c f h => ⟨(r.cls c f h).ex⟩, fun c m h => ⟨(z.prop c m h).ex⟩, fun c m h => ⟨(z.meth c m h).ex⟩, fun c h => ⟨(z.eq c h).ex⟩, fun c h => ⟨(z.mkc c h).ex⟩, ⟨r.isi.cv, r.isi.kit, r.isi.cls, r.isi.exc⟩, fun c o h => ?_, r.exm, (fun hh => nomatch hh)⟩
  obtain ⟨C, h1, h2, h3, h4, h5⟩ := (r.xcl c o h).ex
  exact ⟨C, h1, h2, h3, h4, h5⟩
def hdsL (G : Glob) : Hds → List (W × Option Nat × (PM.Env → R Fl))
  | .nil => []
  | .cons c i b r => (c, i, execSs G.hc G b) :: hdsL G r
theorem hds_eq (G : Glob) (x : Exn) (env : PM.Env) : ∀ hs : Hds, hdsS G x env hs = hdsM G x env (hdsL G hs)
  | .nil => by rw [hdsS]; rfl
  | .cons c i b r => by
    rw [hdsS, hdsL, hdsM]
    cases G.exm x.c c with
    | none => rfl
    | some b =>
      cases b with
      | true => rfl
      | false => exact hds_eq G x env r
theorem try_eq {G : Glob} {b : Sms} {hs : Hds} : execS C G (.tryx b hs) = tryM G (execSs C G b) (hdsL G hs) := by
  funext env
  rw [execS]
  unfold tryM
  cases execSs C G b env with
  | ok => rfl
  | no => rfl
  | exc x e1 => exact hds_eq G x e1 hs
theorem trHd_ok (r : XR g X F Wx k C sc) {rech : Stmt → Sm} (HH : ∀ (a : Addr) (pn : List (Addr × Obj)) s, SS (X.suite a pn) F WX0 B s (execS g.G.hc g.G (rech s))) : ∀ {hs : List ExceptHandler} {l : Hds}, trHd g B rech sc hs = some l → HdsM X g.G F B hs (hdsL g.G l) := by
  intro hs
  induction hs with
  | nil => intro l h; cases h; exact .nil
  | cons h0 hs ih =>
    intro l h
    unfold trHd at h
    split at h
    · rename_i heq; cases heq
    · rename_i x np nm b0 suite pos rr heq
      cases heq
      split at h
      case isFalse => cases h
      rename_i hc
      split at h
      case h_2 => cases h
      rename_i i l' ha hl
      cases h
      obtain ⟨d1, d2, d3⟩ := dbg_of hc.1
      obtain ⟨o, ho⟩ := Option.isSome_iff_exists.mp hc.2.2
      obtain ⟨D, hm, _⟩ := (r.xcl x o ho).ex
      have nmx : Names X x (.ref D) := ⟨r.gl hc.2.1, d1, .inl hm⟩
      have ex : ∀ y b C, g.G.exm y (.glo x) = some b → X.mg y = some (.ref C) → PySem.W.exmOne X.K (.ref C) (.ref D) = some b := fun y b C h1 h2 => r.exm y (.glo x) b C (.ref D) h1 h2 ⟨D, hm, rfl⟩
      rw [hdsL]
      cases nm with
      | none =>
        cases ha
        exact .one nmx ex (fun a pn => trSs_ok (HH a pn) (b0 :: suite)) (ih hl)
      | some n =>
        unfold trAs at ha
        simp only at ha
        split at ha
        case isFalse => cases ha
        rename_i hn
        split at ha
        · rename_i j hj
          split at ha
          · rename_i hb
            cases ha
            exact .as nmx ex r.nd (r.slot hj) (by show X.env.scope.names.lookup n = _; rw [r.hs]; exact lclB_of hn) (List.contains_iff_mem.mp hb) (fun a pn => trSs_ok (HH a pn) (b0 :: suite)) (ih hl)
          · cases ha
        · cases ha
    · cases h
theorem trRaise_ok (r : XR g X F Wx k C sc) {m : Nat} {c : Str} {a : Expr} {p pos pos2 : Pos} {s : Sm} (h : trRaise g (PM.tr g (m + 1)) sc c a = some s) : SS X F Wx B (.Raise (some (.Call (.Name c p) [a] [] pos)) none pos2) (execS C g.G s) := by
  unfold trRaise at h
  split at h
  case isFalse => cases h
  rename_i hc
  obtain ⟨hh, hd, hg⟩ := hc
  obtain ⟨d1, d2, d3⟩ := dbg_of hd
  cases q0 : g.G.xcl c with
  | none => rw [q0] at h; cases h
  | some fo =>
    rw [q0] at h
    cases fo with
    | none =>
      simp only at h
      split at h
      case isFalse => cases h
      rename_i hs
      cases h
      have ee : execS C g.G (.raise0 c) = fun env => .exc ⟨c, []⟩ env := by funext env; rw [execS, q0]
      rw [ee]
      cases a <;> first | (cases hs; done) | skip
      rename_i cc j p2
      cases cc <;> first | (cases hs; done) | skip
      exact ss_raise0 (r.calm hh) r.tk (r.xcl c none q0) (r.gl hg) d1
    | some f =>
      simp only at h
      split at h
      case isFalse => cases h
      rename_i hs
      obtain ⟨x, h1, rfl⟩ := omap_of h
      have ee : execS C g.G (.raise1 c x) = fun env => (evalE C g.G x env).val.bind fun w e1 => .exc ⟨c, [(f, w)]⟩ e1 := by funext env; rw [execS, q0]
      rw [ee]
      exact ss_raise1 (r.calm hh) r.tk (r.xcl c (some f) q0) r.room ((tr_ok g (m + 1)).E r h1).1 (r.gl hg) d1 hs
theorem swapped_no {x y : Str} {px py pt pt2 : Pos} {kt k2 : Nat} {a b : Expr} {env : PySem.Env} (h : (lclB env.scope x && lclB env.scope y) = false) :
    swappedStores [.Tuple [.Name x px, .Name y py] kt pt] (.Tuple [a, b] k2 pt2) env = pure none := by
  have kl : ∀ {z : Str}, lclB env.scope z = false → (env.kindOf z == some NameKind.local) = false := fun {z} h => by
    show (env.scope.names.lookup z == some NameKind.local) = false
    unfold lclB at h
    cases q : env.scope.names.lookup z with
    | none => rfl
    | some kd => cases kd <;> first | rfl | (rw [q] at h; cases h)
  have hz : ∀ {α : Type} {c : Bool} {p q : α}, p = q → (if c = true then p else q) = q := fun {α c p q} e => by rw [e]; split <;> rfl
  have hn : ∀ {α : Type} {l : List Str} {p q : α}, l.length < 2 → ((if (l.length != 2 || l.eraseDups.length != l.length) = true then p else q) = p) := fun {α l p q} hl => by
    have : (l.length != 2) = true := by simp; omega
    rw [this]; rfl
  unfold swappedStores
  simp only [List.filterMap_cons, List.filterMap_nil, List.head?_cons, Option.map_some, Option.getD_some]
  split
  · rfl
  split
  · rfl
  rw [Bool.and_eq_false_iff] at h
  rcases h with h | h
  · simp only [kl h, Bool.false_and]
    by_cases q : (env.kindOf y == some NameKind.local && py.line == px.line) = true
    · simp [q, Expr.pos]
    · simp [q, Expr.pos]
  · simp only [kl h, Bool.false_and]
    by_cases q : env.kindOf x = some NameKind.local
    · simp [q, Expr.pos]
    · simp [q, Expr.pos]
theorem trS1_ok {m : Nat} (r : XR g X F Wx k C sc) (hk : X.env.scope.kind = .function) (hp : g.hot = false → DefX X) {rec rech : Stmt → Sm} (H : ∀ s, SS X F Wx B s (execS C g.G (rec s)))
    (HT : g.hot = false → ∀ (W : WX) (pn : List (Addr × Obj)) (xe : Value → Shared → Prop), Takes (X.tr pn xe) W → PassesOwn (model X.prog X.w) X.A X.env xe → ∀ s, SS (X.tr pn xe) F W B s (execS C g.G (rec s)))
    (HH : g.hot = false → ∀ (a : Addr) (pn : List (Addr × Obj)) s, SS (X.suite a pn) F WX0 B s (execS g.G.hc g.G (rech s))) {st : Stmt} {s : Sm} (h : trS1 g (PM.tr g (m + 1)) B rec rech sc st = some s) : SS X F Wx B st (execS C g.G s) := by
  have ok := tr_ok g (m + 1)
  have HE : ∀ {e t}, (PM.tr g (m + 1)).E sc e = some t → SE X F Wx e (evalE C g.G t) ∧ ST X F Wx e (fun env => (evalE C g.G t env).bool) := fun {e t} h => ok.E r h
  have pass_eq : execS C g.G .pass = fun env => .ok .nx env := by funext env; rw [execS]
  unfold trS1 at h
  split at h
  · cases h; rw [pass_eq]; exact ss_doc
  · split at h
    case isFalse => cases h
    rename_i hc
    obtain ⟨t, h1, rfl⟩ := omap_of h
    have ee : execS C g.G (.expr t) = fun env => (evalE C g.G t env).bind fun _ e1 => .ok .nx e1 := by funext env; rw [execS]
    rw [ee]
    exact ss_expr (HE h1).1 (sw_none hc)
  · cases h; rw [pass_eq]; exact ss_pass
  · cases h
    have ee : execS C g.G .brk = fun env => .ok .bk env := by funext env; rw [execS]
    rw [ee]; exact ss_break
  · cases h
    have ee : execS C g.G .cont = fun env => .ok .ct env := by funext env; rw [execS]
    rw [ee]; exact ss_cont
  · cases h
    have ee : execS C g.G .retN = fun env => .ok (.rt false .non) env := by funext env; rw [execS]
    rw [ee]; exact ss_retN
  · exact trRet_ok r h
  · exact trAsg_ok r hk h
  · split at h
    case isFalse =>
      split at h
      case isFalse => cases h
      rename_i hn
      obtain ⟨hh, hn⟩ := hn
      unfold trTupA at h
      split at h
      case h_2 => cases h
      rename_i t ht
      split at h
      case isFalse => cases h
      rename_i hb
      obtain ⟨x, h1, rfl⟩ := omap_of h
      have ee : execS C g.G (.asg t x) = fun env => (evalE C g.G x env).val.bind fun w e1 => match bindT t w e1 with | some e2 => .ok .nx e2 | none => .no := by funext env; rw [execS] <;> rfl
      rw [ee]
      rw [← r.hs] at hn
      exact ss_asg (slotsB_of hb) (ps_asg (HE h1).1 (trTg_ok hh r 5 ht) sole_tup (swapped_no hn) rfl)
    rename_i hs
    split at h
    · rename_i i j hi hj
      obtain ⟨a, b, h1, h2, rfl⟩ := o2_of h
      obtain ⟨n1, n2, n3, n4⟩ := stName_of r hi
      obtain ⟨m1, m2, m3, m4⟩ := stName_of r hj
      obtain ⟨p1, p2⟩ := trPt_ok r h1
      obtain ⟨q1, q2⟩ := trPt_ok r h2
      obtain ⟨hh, hs⟩ := hs
      rw [← r.hs] at hs
      obtain ⟨s1, s2, s3, s4, s5, s6⟩ := swapped_of (pt := ⟨0, 0, 0, 0⟩) (pt2 := ⟨0, 0, 0, 0⟩) (kt := 0) (k2 := 0) hk hs
      have hij : i ≠ j := fun z => by subst z; rw [n1] at m1; cases m1; exact s4 rfl
      have ee : execS C g.G (.par i j a b) = fun env => (evalP C g.G a env).bind fun x e1 => (evalP C g.G b e1).bind fun y e2 => putS i x j y e2 := by funext env; rw [execS]
      rw [ee]
      exact ss_par p2 q2 n4 m4 (ps_par (r.calm hh) r.nd n1 m1 hij s2 s3 (pa_cons p1 (pa_cons q1 pa_nil (star_cons s6)) (star_cons s5)) (swapped_of hk hs).1 rfl)
    · cases h
  · split at h
    case isFalse => cases h
    rename_i hs
    obtain ⟨hh, hs⟩ := hs
    split at h
    case h_2 => cases h
    rename_i i j l hi hj hl
    split at h
    case isFalse => cases h
    obtain ⟨as, h2, rfl⟩ := omap_of h
    obtain ⟨n1, n2, n3, n4⟩ := stName_of r hi
    obtain ⟨m1, m2, m3, m4⟩ := stName_of r hj
    obtain ⟨l1, l2, l3, l4⟩ := stName_of r hl
    rw [← r.hs] at hs
    obtain ⟨_, ⟨b1, b2, b3⟩, ⟨d1, d2, d3⟩, s5, s6⟩ := swapped3_of (pt := ⟨0, 0, 0, 0⟩) (pt2 := ⟨0, 0, 0, 0⟩) (kt := 0) (k2 := 0) hk hs
    have ne : ∀ {i j : Nat} {x y : Str}, X.N[i]? = some x → X.N[j]? = some y → x ≠ y → i ≠ j := fun h1 h2 hn z => by subst z; rw [h1] at h2; cases h2; exact hn rfl
    obtain ⟨t1, t2, t3⟩ := trL_ok r (fun e t h => (ok.E r h).1) h2
    have ee : execS C g.G (.par3 i j l as) = fun env => (evalEs C g.G as env).bind fun hs e1 => match pvs hs with
      | some [x, y, z] => if i < e1.length ∧ j < e1.length ∧ l < e1.length ∧ i ≠ j ∧ i ≠ l ∧ j ≠ l then .ok .nx (((e1.set i (.val x)).set j (.val y)).set l (.val z)) else .no
      | _ => .no := by funext env; rw [execS] <;> rfl
    rw [ee]
    exact ss_par3 (es := []) n4 m4 l4 (ps_par3 (r.calm hh) r.nd n1 m1 l1 (ne n1 m1 d1) (ne n1 l1 d2) (ne m1 l1 d3) b1 b2 b3 t1 (swapped3_of hk hs).1 rfl)
  · exact trRaise_ok r h
  · split at h
    case isFalse => cases h
    rename_i hh
    obtain ⟨l, h1, rfl⟩ := omap_of h
    rw [try_eq]
    have dx := hp hh
    exact ss_try dx.ex dx.stk dx.frm r.tk (fun W pn xe tk pa => trSs_ok (HT hh W pn xe tk pa) _) (trHd_ok r (HH hh) h1)
  · rename_i ts kt pt e p hnot1 hnot2
    split at h
    case isFalse => cases h
    rename_i hd
    obtain ⟨hh, hd⟩ := hd
    split at h
    · rename_i t ht
      split at h
      case isFalse => cases h
      rename_i hb
      obtain ⟨x, h1, rfl⟩ := omap_of h
      have ee : execS C g.G (.asg t x) = fun env => (evalE C g.G x env).val.bind fun w e1 => match bindT t w e1 with | some e2 => .ok .nx e2 | none => .no := by funext env; rw [execS] <;> rfl
      rw [ee]
      refine ss_asg (slotsB_of hb) (ps_asg (HE h1).1 (trTg_ok hh r 5 ht) sole_tup ?_ rfl)
      cases e <;> first | rfl | cases hd
    · cases h
  · split at h
    case isFalse => cases h
    rename_i hs
    split at h
    · rename_i j hj
      obtain ⟨a, b, h1, h2, rfl⟩ := o2_of h
      have ee : execS C g.G (.seti j a b) = setiE j (evalE C g.G a) (evalE C g.G b) := by funext env; rw [execS] <;> rfl
      rw [ee]
      refine ss_seti r.hu fun t ht => ps_asg (HE h2).1 (pg_sub (ownName_of r hj _) (HE h1).1 ht (sub_assign hs)) sole_sub stores_sub rfl
    · cases h
  · split at h
    · rename_i j hj
      obtain ⟨a, h1, rfl⟩ := omap_of h
      have ee : ∀ f, execS C g.G (.setf j f a) = fun env => (evalE C g.G a env).val.bind fun x e1 => match e1[j]? with
        | some (.own (.obj c ns ws)) => (match (g.G.cls c) with | some d => if d.flds.contains f = true ∧ ns.length < 1000 then (let r := setfW ns ws f x; .ok .nx (e1.set j (.own (.obj c r.1 r.2)))) else .no | none => .no)
        | _ => .no := fun f => by funext env; rw [execS] <;> rfl
      rw [ee]
      exact ss_setf (sw_other fun _ _ z => nomatch z) (ownName_of r hj _) (HE h1).1 fun c => r.cls c _
    · cases h
  · split at h
    · rename_i i hi
      split at h
      · cases h
      obtain ⟨a, h1, rfl⟩ := omap_of h
      obtain ⟨n1, n2, n3, n4⟩ := stName_of r hi
      have ee : ∀ op, execS C g.G (.aug i op a) = fun env => match env[i]? with
        | some (.val x) => (evalE C g.G a env).val.bind fun u e1 => match ipW op x u with | some z => putV i z e1 | none => .no
        | _ => .no := fun op => by funext env; rw [execS] <;> rfl
      rw [ee]
      exact ss_aug (st := .Pass ⟨0, 0, 0, 0⟩) n4 r.nd n1 n2 n3 (HE h1).1 fun u v w => ipSem_of
    · cases h
  · obtain ⟨a, h1, rfl⟩ := omap_of h
    have ee : ∀ x y, execS C g.G (.ifs a x y) = fun env => (evalE C g.G a env).bool.bind fun k e1 => if k = true then execSs C g.G x e1 else execSs C g.G y e1 := fun x y => by funext env; rw [execS]
    rw [ee]
    exact ss_if (HE h1).2 (trSs_ok H _) (trSs_ok H _)
  · split at h
    · rename_i t i ht hi
      split at h
      case isFalse => cases h
      rename_i hb
      obtain ⟨hh, hb⟩ := hb
      cases h
      have ee : ∀ x, execS C g.G (.fors t i x) = fun env => (evalI C g.G i env).bind fun ws e1 => forL t (fun e => execSs C g.G x e) ws e1 := fun x => by funext env; rw [execS]
      rw [ee]
      exact ss_for (st := .Pass ⟨0, 0, 0, 0⟩) (hp hh).pas (r.calm hh) (slotsB_of hb.1) (ok.I r hi) (trTg_ok hh r 5 ht) (trSs_ok H _) (fold_of hb.2)
    · cases h
  · split at h
    case isFalse => cases h
    rename_i hh
    obtain ⟨a, h1, rfl⟩ := omap_of h
    have ee : ∀ x, execS C g.G (.whil a x) = fun env => whileL (fun e => (evalE C g.G a e).bool) (fun e => execSs C g.G x e) whileFuel env := fun x => by funext env; rw [execS]
    rw [ee]
    exact ss_while (hp hh).pas (HE h1).2 (trSs_ok H _)
  · cases h
theorem trS_ok {m : Nat} : ∀ (n : Nat) {g : Gk} {X : Cx} {F : Frm} {Wx : WX} {k : Nat} {C : CallT} {sc : Sc}, XR g X F Wx k C sc → X.env.scope.kind = .function → (g.hot = false → DefX X) → ∀ (st : Stmt), SS X F Wx B st (execS C g.G (trS m B n g sc st))
  | 0, _, _, _, _, _, _, _, _, _, _, st => ss_never
  | n + 1, g, X, F, Wx, k, C, sc, r, hk, hp, st => by
    unfold trS
    cases h : trS1 g (PM.tr g (m + 1)) B (trS m B n g sc) (trS m B n (hotG g) sc) sc st with
    | none => exact ss_never
    | some s =>
      refine trS1_ok r hk hp (fun s => trS_ok n r hk hp s) (fun hh W pn xe tk pa s => ?_) (fun hh a pn s => ?_) h
      · have dx := hp hh
        exact trS_ok n (r.tr tk) hk (fun _ => ⟨pa, dx.ex, dx.stk, dx.frm⟩) s
      · exact trS_ok n (r.suite hh a pn) hk (fun z => nomatch z) s
end
end PM

set_option maxHeartbeats 4000000
namespace PM
open PySem L2
/-- a def of the program -/
structure Df where
  c : Str
  f : Str
  qual : Str
  st : Stmt
  N : List Str
  ps : List Str
  own : List Nat
  rb : List Nat
def Df.sc (d : Df) : Sc := { N := d.N, own := d.own, scope := defScope d.st, fn := fun _ => true }
def Df.fnd (g : Gk) (m n : Nat) (d : Df) : FnD := { n := d.N.length, ps := d.ps.length, rb := d.rb, body := trSs (trS m d.rb n g d.sc) (defBody d.st) }
section
variable {P : Program} {w : World} {K : PySem.W.Frag} {mg : Str → Option Value} {base : Heap} {g : Gk} {T : Tab}
theorem spc_false {gg : List Ar → CRs} (h : ∀ as, gg as = .no) {vs : List V} {H : Hp} {Q : VK} {E : XK} : ¬ SpC K mg gg vs H Q E := fun ⟨M, as, ad, _, _, _, _, q⟩ => by
  rw [h] at q; exact q
theorem fn_false {hot : Bool} {k : Nat} {f : Addr} {fd : FuncData} {ps : List Str} {gg : List Ar → CRs} (h : ∀ as, gg as = .no) : PMX.FnG P w K mg base hot k f fd ps (SpC K mg gg) :=
  ⟨fun vs H Q E z => (spc_false h z).elim, fun A outer s H args us vs Q E hr e0 hb hv z => (spc_false h z).elim⟩
theorem fn_congr {hot : Bool} {k : Nat} {f : Addr} {fd : FuncData} {ps : List Str} {g1 g2 : List Ar → CRs} (h : ∀ as, g1 as = g2 as) (F : PMX.FnG P w K mg base hot k f fd ps (SpC K mg g1)) : PMX.FnG P w K mg base hot k f fd ps (SpC K mg g2) := by
  have : g1 = g2 := funext h
  rw [← this]; exact F
/-- what is written of a def -/
structure FunF (K : PySem.W.Frag) (d : Df) (a : Addr) (fd : FuncData) : Prop where
  fn : Fun K d.f d.qual d.st a fd
  bn : Binds K fd d.ps []
/-- what is known of an exception class -/
def XcF (P : Program) (K : PySem.W.Frag) (mg : Str → Option Value) (c : Str) (o : Option Str) : Prop :=
  ∃ C, mg c = some (.ref C) ∧ ExK K C ∧ PySem.W.keepIn K (.ref C) = true ∧ PySem.W.typeIn K (.ref C) = some (.type "type") ∧ match o with
    | none => ∃ (B newId initId : String) (bmB : List Value), ExcBaseFacts B newId initId bmB ∧ PySem.W.excIn K C bmB newId = true
    | some f => PySem.W.findIn K (.ref C) f = some none ∧ PMX.XName f ∧ ∃ (fI : Addr) (B newB newId i : String) (bmB : List Value), PMX.XC K mg P C fI f B newB newId i bmB
/-- the defs that are called where an exception is handled: no call within -/
def g0of (g : Gk) : Gk := { defs := [], blts := g.blts, G := { g.G with hc := fun _ _ _ => .no, cls := fun _ => none }, hot := true, hdefs := [] }
def hcOf (g : Gk) (m n : Nat) (L : List Df) : CallT := fun c f as => if c = "" ∧ f ∈ g.hdefs then (match L.find? (fun d => decide (d.c = c ∧ d.f = f)) with
  | some d => runF (fun _ _ _ => .no) (g0of g).G (d.fnd (g0of g) m n) as
  | none => .no) else .no
/-- what is known of the law's program -/
structure LawF (P : Program) (w : World) (K : PySem.W.Frag) (mg : Str → Option Value) (base : Heap) (g : Gk) (T : Tab) (m n : Nat) (L : List Df) : Prop where
  tab : ∀ d, d ∈ L → T d.c d.f = some (d.fnd g m n)
  scs : ∀ d, d ∈ L → FnScope d.N d.ps (defScope d.st)
  ad : ∀ d, d ∈ L → ∃ a fd, FunF K d a fd
  defs : ∀ x, x ∈ g.defs → g.G.cls x = none ∧ ∃ d, d ∈ L ∧ d.c = "" ∧ d.f = x ∧ ∃ a fd, FunF K d a fd ∧ mg x = some (.ref a)
  blt : ∀ x, x ∈ g.blts → mg x = none
  cst : ∀ x w, g.G.cst x = some w → ∃ (u : Value) (v : V), mg x = some u ∧ RelV v u ∧ ∀ M H, Rep K mg M H w v
  cls : ∀ c f, fldK g.G c f = true → ∃ A, mg c = some (.ref A) ∧ Cls K A ∧ NoAttr K A f
  prop : ∀ c x, methK g.G c x = some .prop → c ≠ "" ∧ ∃ (A p : Addr) (d : Df) (a : Addr) (fd : FuncData), mg c = some (.ref A) ∧ Cls K A ∧ PropOf K A x p a ∧ d ∈ L ∧ d.c = c ∧ d.f = x ∧ FunF K d a fd
  meth : ∀ c x, methK g.G c x = some .meth → c ≠ "" ∧ ∃ (A : Addr) (d : Df) (a : Addr) (fd : FuncData), mg c = some (.ref A) ∧ Cls K A ∧ Meth K A x a ∧ d ∈ L ∧ d.c = c ∧ d.f = x ∧ FunF K d a fd
  eq : ∀ c, methK g.G c "__eq__" = some .spec → c ≠ "" ∧ ∃ (A : Addr) (d : Df) (a : Addr) (fd : FuncData), mg c = some (.ref A) ∧ PySem.W.findIn K (.ref A) "__eq__" = some (some (.ref a)) ∧ PySem.W.isFn K (.ref a) = true ∧ PySem.W.mroIn K A (.type "object") = some true ∧ PySem.W.findIn K (.ref A) "__ne__" = some (some (.builtin "object.__ne__")) ∧ d ∈ L ∧ d.c = c ∧ d.f = "__eq__" ∧ FunF K d a fd
  mkc : ∀ c, (g.G.cls c).isSome = true → ∃ (A : Addr) (d : Df) (a : Addr) (fd : FuncData), mg c = some (.ref A) ∧ Mk K A a ∧ d ∈ L ∧ d.c = c ∧ d.f = "__init__" ∧ FunF K d a fd
  isi : ∀ X : Cx, X.K = K → X.mg = mg → IsiOk X g.G.isi
  xcl : ∀ c o, g.G.xcl c = some o → XcF P K mg c o
  exm : ∀ x c b C v, g.G.exm x c = some b → mg x = some (.ref C) → clsV mg c v → PySem.W.exmOne K (.ref C) v = some b
  hdf : ∀ x, x ∈ g.hdefs → ∃ d, d ∈ L ∧ d.c = "" ∧ d.f = x ∧ ∃ a fd, FunF K d a fd ∧ mg x = some (.ref a) ∧ ∀ as, g.G.hc "" x as = runF (fun _ _ _ => .no) (g0of g).G (d.fnd (g0of g) m n) as
  hpl : ∀ x, x ∈ g.hdefs → g.G.cls x = none ∧ True
  hno : ∀ (c x : Str) (as : List Ar), c ≠ "" ∨ x ∉ g.hdefs → g.G.hc c x as = .no
/-- the def d as it is run with calls n deep -/
abbrev LevOk (P : Program) (w : World) (K : PySem.W.Frag) (mg : Str → Option Value) (base : Heap) (g : Gk) (T : Tab) (m n : Nat) (L : List Df) (j : Nat) : Prop :=
  ∀ d, d ∈ L → ∀ a fd, FunF K d a fd → PMX.FnG P w K mg base g.hot (j + 1) a fd d.ps (SpC K mg (runF (callN T g.G j) g.G (d.fnd g m n)))
theorem kind_plain {G : Glob} {x : Str} (h : G.cls x = none) : kindC G "" x = .plain := by unfold kindC; rw [if_pos rfl, h]
theorem kind_cls {G : Glob} {x : Str} (h : (G.cls x).isSome = true) : kindC G "" x = .cls := by
  obtain ⟨d, hd⟩ := Option.isSome_iff_exists.mp h
  unfold kindC; rw [if_pos rfl, hd]
theorem kind_meth {G : Glob} {c x : Str} (hc : c ≠ "") (h : methK G c x = some .meth) : kindC G c x = .plain := by unfold kindC; rw [if_neg hc, h]
theorem kind_prop {G : Glob} {c x : Str} (hc : c ≠ "") (h : methK G c x = some .prop) : kindC G c x = .prop := by unfold kindC; rw [if_neg hc, h]
theorem kind_spec {G : Glob} {c x : Str} (hc : c ≠ "") (h : methK G c x = some .spec) : kindC G c x = .prop := by unfold kindC; rw [if_neg hc, h]
theorem call_plain {G : Glob} {c x : Str} (h : kindC G c x = .plain) (n : Nat) (as : List Ar) : callN T G (n + 2) c x as = runT T G (callN T G (n + 1)) c x as := by
  cases n with
  | zero => show (match kindC G c x with | .plain => _ | _ => _) = _; rw [h]; rfl
  | succ n => show (match kindC G c x with | .plain => _ | .prop => _ | .cls => _) = _; rw [h]
theorem call_prop {G : Glob} {c x : Str} (h : kindC G c x = .prop) (n : Nat) (as : List Ar) : callN T G (n + 3) c x as = runT T G (callN T G (n + 1)) c x as := by
  show (match kindC G c x with | .plain => _ | .prop => _ | .cls => _) = _; rw [h]
theorem call_cls {G : Glob} {x : Str} (h : kindC G "" x = .cls) (n : Nat) (as : List Ar) : callN T G (n + 3) "" x as = clsR (runT T G (callN T G (n + 1)) x "__init__" (.own (.obj x [] []) :: as)) := by
  show (match kindC G "" x with | .plain => _ | .prop => _ | .cls => _) = _; rw [h]
theorem call_no {G : Glob} {c x : Str} (h : kindC G c x ≠ .plain) (as : List Ar) : callN T G 2 c x as = .no := by
  show (match kindC G c x with | .plain => _ | _ => _) = _
  split
  · rename_i e; exact absurd e h
  · rfl
theorem runT_of {G : Glob} {C : CallT} {c x : Str} {d : FnD} (h : T c x = some d) (as : List Ar) : runT T G C c x as = runF C G d as := by unfold runT; rw [h]
variable {m n : Nat} {L : List Df}
/-- what holds of the exception classes in every context -/
theorem xc_ok {X : Cx} {c : Str} {o : Option Str} (h : XcF X.prog X.K X.mg c o) : XcH X c (some o) := by
  obtain ⟨C, h1, h2, h3, h4, h5⟩ := h
  refine ⟨C, h1, h2, h3, raises_own h2.ex h4, ?_⟩
  cases o with
  | none => exact h5
  | some f => exact h5
theorem noF {g : Gk} {c f : Str} (h : fldK (g0of g).G c f = true) : False := by unfold fldK g0of at h; cases h
theorem noM {g : Gk} {c f : Str} {k : MKind} (h : methK (g0of g).G c f = some k) : False := by unfold methK g0of at h; cases h
/-- a def that is called where an exception is handled -/
theorem lev_hot (W : LawF P w K mg base g T m n L) (k : Nat) (d : Df) (hd : d ∈ L) (a : Addr) (fd : FuncData) (ff : FunF K d a fd) : PMX.FnG P w K mg base true (k + 1) a fd d.ps (SpC K mg (runF (fun _ _ _ => .no) (g0of g).G (d.fnd (g0of g) m n))) := by
  have S := W.scs d hd
  obtain ⟨oc, od, kV, doc, pm, an, cdv, ct, osl, rfl, lk, hcd⟩ := ff.fn.ex
  refine PMX.fn_ofG lk hcd S (fun vs H Q E h => ?_) fun A outer s H vs Q E hr h => ?_
  · obtain ⟨M, as, ad, ha, hM, hO, nd, q⟩ := h
    unfold runF at q
    split at q
    · rename_i z
      rw [ha.len.1, z.1]; rfl
    · exact q.elim
  · obtain ⟨M, as, ad, ha, hM, hO, nd, q⟩ := h
    have hl : vs.length ≤ d.N.length := by
      have z : as.length = d.ps.length := by
        unfold runF at q
        split at q
        · rename_i z; exact z.1
        · exact q.elim
      rw [ha.len.1, z, ← S.pre, List.length_take]
      exact Nat.min_le_right _ _
    have run := fun_run (N := d.N) ha hM hO nd rfl hl q
    refine ⟨_, ?_, run⟩
    let X := PMX.cxG true P w K mg base d.N d.qual (defScope d.st) a cdv A outer s H E
    have un := hr.un
    have r : XR (g0of g) X (frmOf H ad M) (fun cls dd _ H' => E cls dd H') k (fun _ _ _ => .no) d.sc := by
      refine ⟨rfl, S.nd, rfl, rfl, (fun z => nomatch z), ?_, hr, takes_of rfl rfl rfl rfl, (fun x hx => nomatch hx), W.blt, fun x w h => ⟨W.cst x w h⟩, fun c f h => (noF h).elim, fun c x h => (noM h).elim, fun c x h => (noM h).elim, fun c h => (noM h).elim, (fun c h => nomatch h), W.isi X rfl rfl, fun c o h => xc_ok (X := X) (W.xcl c o h), W.exm, (fun z => nomatch z)⟩
      · show A.units + _ + 70 < _
        have un2 := hr.un
        revert un2
        show A.units + _ + _ + 200 < _ → _
        omega
    exact trSs_ok (fun st => trS_ok n r S.kind (fun z => nomatch z) st) (defBody d.st)
/-- a level above -/
theorem lev_xr (W : LawF P w K mg base g T m n L) (j : Nat) (H1 : j ≠ 0 → LevOk P w K mg base g T m n L j) (H0 : ∀ i, j = i + 1 → i ≠ 0 → LevOk P w K mg base g T m n L i) {X : Cx} {F : Frm} {Wx : WX} {sc : Sc} (e1 : X.prog = P) (e2 : X.w = w) (e3 : X.K = K) (e4 : X.mg = mg) (e5 : X.base = base)
    (hN : X.N = sc.N) (nd : X.N.Nodup) (hs : X.env.scope = sc.scope) (fn : X.fn = sc.fn) (calm : g.hot = false → X.calm = true) (room : PMX.RoomG g.hot (j + 1) X.A) (tk : Takes X Wx) : XR g X F Wx (j + 1) (callN T g.G (j + 1)) sc := by
  subst e1 e2 e3 e4 e5
  have un := room.un
  refine ⟨hN, nd, hs, fn, calm, by omega, room, tk, fun x hx => ?_, W.blt, fun x w h => ⟨W.cst x w h⟩, fun c f h => ⟨W.cls c f h⟩, fun c x h => ?_, fun c x h => ?_, fun c h => ?_, fun c h => ?_, W.isi X rfl rfl, fun c o h => xc_ok (W.xcl c o h), W.exm, fun hh => ⟨fun x hx => ?_, fun c x h => ?_, fun c x h => ?_, fun c h => ?_, fun c h => ?_⟩⟩
  · obtain ⟨hc, d, hd, ec, ef, a, fd, ff, hm⟩ := W.defs x hx
    subst ef
    have tb : T "" d.f = some (d.fnd g m n) := by rw [← ec]; exact W.tab d hd
    refine ⟨a, fd, d.ps, ?_, hm, ff.fn.kp, ff.bn⟩
    cases j with
    | zero => exact fn_false fun _ => rfl
    | succ j => exact fn_congr (fun as => by rw [call_plain (kind_plain hc), runT_of tb]) (H1 (by omega) d hd a fd ff)
  · obtain ⟨hc, A, p, d, a, fd, hm, cl, po, hd, rfl, rfl, ff⟩ := W.prop c x h
    refine ⟨A, p, a, fd, d.ps, j, rfl, hm, cl, po, ?_, ff.bn⟩
    cases j with
    | zero => exact fn_false fun _ => rfl
    | succ j =>
      cases j with
      | zero => exact fn_false fun as => call_no (by rw [kind_prop hc h]; exact fun z => nomatch z) as
      | succ j => exact fn_congr (fun as => by rw [call_prop (kind_prop hc h), runT_of (W.tab d hd)]) (H0 (j + 1) rfl (by omega) d hd a fd ff)
  · obtain ⟨hc, A, d, a, fd, hm, cl, me, hd, rfl, rfl, ff⟩ := W.meth c x h
    refine ⟨A, a, fd, d.ps, hm, cl, me, ?_, ff.bn⟩
    cases j with
    | zero => exact fn_false fun _ => rfl
    | succ j => exact fn_congr (fun as => by rw [call_plain (kind_meth hc h), runT_of (W.tab d hd)]) (H1 (by omega) d hd a fd ff)
  · obtain ⟨hc, A, d, a, fd, hm, f1, f2, f3, f4, hd, rfl, e, ff⟩ := W.eq c h
    refine ⟨A, a, fd, d.ps, j, rfl, hm, f1, f2, f3, f4, ?_, ff.bn⟩
    cases j with
    | zero => exact fn_false fun _ => rfl
    | succ j =>
      cases j with
      | zero => exact fn_false fun as => call_no (by rw [kind_spec hc h]; exact fun z => nomatch z) as
      | succ j => exact fn_congr (fun as => by rw [call_prop (kind_spec hc h), ← e, runT_of (W.tab d hd)]) (H0 (j + 1) rfl (by omega) d hd a fd ff)
  · obtain ⟨A, d, a, fd, hm, mk, hd, rfl, e, ff⟩ := W.mkc c h
    cases j with
    | zero => exact ⟨A, a, fd, d.ps, 0, fun _ => .no, rfl, hm, mk, fn_false fun _ => rfl, ff.bn, fun _ => rfl⟩
    | succ j =>
      cases j with
      | zero => exact ⟨A, a, fd, d.ps, 1, fun _ => .no, rfl, hm, mk, fn_false fun _ => rfl, ff.bn, fun as => call_no (by rw [kind_cls h]; exact fun z => nomatch z) as⟩
      | succ j => exact ⟨A, a, fd, d.ps, j + 2, _, rfl, hm, mk, H0 (j + 1) rfl (by omega) d hd a fd ff, ff.bn, fun as => by rw [call_cls (kind_cls h), ← e, runT_of (W.tab d hd)]⟩
  · obtain ⟨d, hd, ec, rfl, a, fd, ff, hm, hc⟩ := W.hdf x hx
    exact ⟨a, fd, d.ps, fn_congr (fun as => (hc as).symm) (lev_hot W j d hd a fd ff), hm, ff.fn.kp, ff.bn⟩
  · obtain ⟨hc, A, p, d, a, fd, hm, cl, po, hd, rfl, rfl, ff⟩ := W.prop c x h
    exact ⟨A, p, a, fd, d.ps, j, rfl, hm, cl, po, fn_false fun as => W.hno _ _ _ (.inl hc), ff.bn⟩
  · obtain ⟨hc, A, d, a, fd, hm, cl, me, hd, rfl, rfl, ff⟩ := W.meth c x h
    exact ⟨A, a, fd, d.ps, hm, cl, me, fn_false fun as => W.hno _ _ _ (.inl hc), ff.bn⟩
  · obtain ⟨hc, A, d, a, fd, hm, f1, f2, f3, f4, hd, rfl, e, ff⟩ := W.eq c h
    exact ⟨A, a, fd, d.ps, j, rfl, hm, f1, f2, f3, f4, fn_false fun as => W.hno _ _ _ (.inl hc), ff.bn⟩
  · obtain ⟨A, d, a, fd, hm, mk, hd, rfl, e, ff⟩ := W.mkc c h
    exact ⟨A, a, fd, d.ps, j, fun _ => .no, rfl, hm, mk, fn_false fun _ => rfl, ff.bn, fun as => W.hno "" d.c as (.inr fun z => by have hc := (W.hpl d.c z).1; rw [hc] at h; cases h)⟩
theorem lev_ok (hh : g.hot = false) (W : LawF P w K mg base g T m n L) (j : Nat) : LevOk P w K mg base g T m n L (j + 1) := by
  induction j using Nat.strongRecOn with
  | ind j ih =>
    intro d hd a fd ff
    have S := W.scs d hd
    obtain ⟨oc, od, kV, doc, pm, an, cdv, ct, osl, rfl, lk, hcd⟩ := ff.fn.ex
    refine PMX.fn_ofG lk hcd S (fun vs H Q E h => ?_) fun A outer s H vs Q E hr h => ?_
    · obtain ⟨M, as, ad, ha, hM, hO, nd, q⟩ := h
      unfold runF at q
      split at q
      · rename_i z
        rw [ha.len.1, z.1]; rfl
      · exact q.elim
    · obtain ⟨M, as, ad, ha, hM, hO, nd, q⟩ := h
      have hl : vs.length ≤ d.N.length := by
        have z : as.length = d.ps.length := by
          unfold runF at q
          split at q
          · rename_i z; exact z.1
          · exact q.elim
        rw [ha.len.1, z, ← S.pre, List.length_take]
        exact Nat.min_le_right _ _
      have run := fun_run (N := d.N) ha hM hO nd rfl hl q
      refine ⟨_, ?_, run⟩
      let X := PMX.cxG g.hot P w K mg base d.N d.qual (defScope d.st) a cdv A outer s H E
      have r : XR g X (frmOf H ad M) (fun cls dd _ H' => E cls dd H') (j + 1) (callN T g.G (j + 1)) d.sc := by
        refine lev_xr W j ?_ ?_ rfl rfl rfl rfl rfl rfl S.nd rfl rfl (fun _ => show (!g.hot) = true by rw [hh]; rfl) hr (takes_of rfl rfl rfl rfl)
        · intro hj
          obtain ⟨i, rfl⟩ := Nat.exists_eq_succ_of_ne_zero hj
          exact ih i (by omega)
        · intro i hi h0
          obtain ⟨i', rfl⟩ := Nat.exists_eq_succ_of_ne_zero h0
          exact ih i' (by omega)
      exact trSs_ok (fun st => trS_ok n r S.kind (fun _ => ⟨passes_of rfl, rfl, rfl, rfl⟩) st) (defBody d.st)
end
end PM

set_option maxHeartbeats 4000000
namespace PM
open PySem L2
def spLaw (K : PySem.W.Frag) : Sp := fun vs H Q _ => ∃ (a : Addr) (ns : List Int), vs = [.ref a] ∧ ns.length ≤ 63 ∧ Only H ∧ SqL K H a (ns.map V.int) ∧ ∀ H', Q (.bl true) H'
theorem rol_of {K : PySem.W.Frag} {mg : Str → Option Value} {H : Hp} {a : Addr} {ns : List Int} (hO : Only H) (h : SqL K H a (ns.map V.int)) : Rep K mg (fun _ => False) H (.rol (ns.map W.int)) (.ref a) := by
  refine ⟨a, ns.map V.int, rfl, ?_, repL_ints ns⟩
  rcases h with (h | ⟨o, h⟩) | h
  · rcases hO a with e | ⟨o, xs, e⟩ <;> (rw [e] at h; cases h)
  · exact .inl ⟨o, h⟩
  · exact .inr h
theorem walk {l : PySem.W.OpenLaw} {q : Program} {loose : List Str} {XP : (Str → Option Value) → Heap → Prop} {YP : World → Heap → Prop} {d : DefRec} {K : Params → PySem.W.Frag} {g : Gk} {T : Tab} {m n : Nat} {L : List Df} {dl : Df}
    (hh : g.hot = false) (hn : l.most = some 63) (hdf : d.params.defaults = []) (hdl : dl ∈ L) (hps : dl.ps = [("script" : Str)])
    (hrun : ∀ ns : List Int, ns.length ≤ 63 → ∃ fr bs, runF (callN T g.G 40) g.G (dl.fnd g m n) [.val (.rol (ns.map .int))] = .ok fr (.bl true) bs)
    (hY : ∀ (w : World) (h : Heap), YP w h → (K w.params).In h)
    (F : ∀ (w : World) (mg : Str → Option Value) (fa : Addr) (h : Heap), (K w.params).In h → h.Ns mainGlobals mg → mg d.name = some (.ref fa) →
      ∃ fd : FuncData, FunF (K w.params) dl fa fd ∧ (∀ u : Value, bindArgs fd ⟨[u], []⟩ = pure [(("script" : Str), u)]) ∧ ∀ base : Heap, LawF l.prog w (K w.params) mg base g T m n L) :
    PySem.W.WalkO q loose XP YP l.row.toRowW d [] (fun f vs => PySem.call f vs) := by
  refine PMX.walk_ofG (n := 63) (k := 41) (x := "script") (sp := fun w => spLaw (K w.params)) hn (by decide) hdf ⟨fun _ => rfl, rfl, by decide, by decide⟩ hY (fun w mg fa h KX G hmg => ?_) (fun w H a ns hl hO hS => ⟨a, ns, rfl, hl, hO, hS, fun _ => rfl⟩)
  · obtain ⟨fd, ff, hb, W⟩ := F w mg fa h KX G hmg
    refine ⟨fd, fun s u => .of_eq (hb u), fun base KB GB => ?_⟩
    have lev := lev_ok hh (W base) 39 dl hdl fa fd ff
    rw [hps, hh] at lev
    refine lev.imp fun vs H Q E z => ?_
    obtain ⟨a, ns, rfl, hl, hO, hS, hQ⟩ := z
    refine ⟨fun _ => False, [.val (.rol (ns.map .int))], [none], ⟨rol_of hO hS, trivial⟩, fun _ z => z.elim, fun a z => ?_, fun i j a e _ => ?_, ?_⟩
    · obtain ⟨i, z⟩ := z
      cases i <;> simp at z
    · cases i <;> simp [gO] at e
    · obtain ⟨fr, bs, hr⟩ := hrun ns hl
      rw [hr]
      intro H' v k hb hr
      cases fr with
      | true => obtain ⟨p, _, _, z⟩ := hr; exact z.elim
      | false =>
        obtain rfl : v = .bl true := hr
        exact hQ H'
end PM

set_option maxHeartbeats 4000000
namespace PM
open PySem L2
def tabOf (g : Gk) (m n : Nat) (L : List Df) : Tab := fun c f => (L.find? fun d => decide (d.c = c ∧ d.f = f)).map fun d => d.fnd g m n
theorem find_of : ∀ {L : List Df}, (L.map fun d => (d.c, d.f)).Nodup → ∀ d ∈ L, L.find? (fun e => decide (e.c = d.c ∧ e.f = d.f)) = some d
  | [], _, d, h => by cases h
  | e :: L, hn, d, h => by
    rw [List.map_cons, List.nodup_cons] at hn
    rw [List.find?_cons]
    rcases List.mem_cons.mp h with rfl | h
    · simp
    · have hne : ¬ (e.c = d.c ∧ e.f = d.f) := fun z => hn.1 (by rw [z.1, z.2]; exact List.mem_map.mpr ⟨d, h, rfl⟩)
      simp only [decide_eq_false hne]
      exact find_of hn.2 d h
theorem tab_of {g : Gk} {m n : Nat} {L : List Df} (h : (L.map fun d => (d.c, d.f)).Nodup) : ∀ d, d ∈ L → tabOf g m n L d.c d.f = some (d.fnd g m n) := fun d hd => by
  unfold tabOf
  rw [find_of h d hd]; rfl
def scB (d : Df) : Bool := (match (defScope d.st).kind with | .function => true | _ => false) && !(defScope d.st).isCoroutine && !(defScope d.st).isGenerator && decide d.N.Nodup && decide (d.N.take d.ps.length = d.ps) &&
  (d.ps.all fun x => match (defScope d.st).names.lookup x with | some .local => true | some .cell => true | _ => false) && (defScope d.st).names.all fun y => match y.2 with | .free => false | _ => true
theorem scB_of {d : Df} (h : scB d = true) : FnScope d.N d.ps (defScope d.st) := by
  unfold scB at h
  simp only [Bool.and_eq_true, decide_eq_true_eq, Bool.not_eq_true', List.all_eq_true] at h
  obtain ⟨⟨⟨⟨⟨⟨h1, h2⟩, h3⟩, h4⟩, h5⟩, h6⟩, h7⟩ := h
  refine ⟨?_, h2, h3, h4, h5, fun x hx => ?_, fun y hy e => ?_⟩
  · split at h1
    · assumption
    · cases h1
  · have q := h6 x hx
    split at q <;> first | exact .inl (by assumption) | exact .inr (by assumption) | cases q
  · have q := h7 y hy
    rw [e] at q; cases q
def mkG (cl : List (Str × ClsD)) (cs : List (Str × W)) (isi : W → W → Option Bool) (xc : List (Str × Option Str)) (exm : Str → W → Option Bool) : Glob := ⟨fun c => cl.lookup c, fun x => cs.lookup x, isi, fun x => xc.lookup x, exm, fun _ _ _ => .no⟩
def gOf (defs blts hdefs : List Str) (G : Glob) (m n : Nat) (L : List Df) : Gk := ⟨defs, blts, { G with hc := hcOf ⟨defs, blts, G, false, hdefs⟩ m n L }, false, hdefs⟩
theorem lookup_mem {β : Type} : ∀ {l : List (Str × β)} {x : Str} {y : β}, l.lookup x = some y → (x, y) ∈ l
  | [], _, _, h => by cases h
  | (a, b) :: l, x, y, h => by
    rw [List.lookup_cons] at h
    cases q : x == a with
    | true =>
      rw [q] at h
      cases h
      rw [beq_iff_eq.mp q]
      exact List.mem_cons_self
    | false =>
      rw [q] at h
      exact List.mem_cons_of_mem _ (lookup_mem h)
section
variable (K : PySem.W.Frag) (mg : Str → Option Value) (L : List Df)
/-- a name of the class -/
def MFact (c : Str) (A : Addr) (q : Str × MKind) : Prop := match q.2 with
  | .prop => ∃ (p : Addr) (d : Df) (a : Addr) (fd : FuncData), PropOf K A q.1 p a ∧ d ∈ L ∧ d.c = c ∧ d.f = q.1 ∧ FunF K d a fd
  | .meth => ∃ (d : Df) (a : Addr) (fd : FuncData), Meth K A q.1 a ∧ d ∈ L ∧ d.c = c ∧ d.f = q.1 ∧ FunF K d a fd
  | .spec => ∃ (d : Df) (a : Addr) (fd : FuncData), PySem.W.findIn K (.ref A) q.1 = some (some (.ref a)) ∧ PySem.W.isFn K (.ref a) = true ∧ PySem.W.mroIn K A (.type "object") = some true ∧ PySem.W.findIn K (.ref A) "__ne__" = some (some (.builtin "object.__ne__")) ∧ d ∈ L ∧ d.c = c ∧ d.f = q.1 ∧ FunF K d a fd
  | .clsm => True
/-- a class -/
def CFact (p : Str × ClsD) : Prop := p.1 ≠ "" ∧ ∃ A, mg p.1 = some (.ref A) ∧ Cls K A ∧ (∀ f, f ∈ p.2.flds → NoAttr K A f) ∧ (∀ q, q ∈ p.2.meths → MFact K L p.1 A q) ∧ ∃ (d : Df) (a : Addr) (fd : FuncData), Mk K A a ∧ d ∈ L ∧ d.c = p.1 ∧ d.f = "__init__" ∧ FunF K d a fd
/-- a constant -/
def KFact (p : Str × W) : Prop := ∃ (u : Value) (v : V), mg p.1 = some u ∧ RelV v u ∧ ∀ M H, Rep K mg M H p.2 v
/-- a def -/
def DFact (cl : List (Str × ClsD)) (x : Str) : Prop := cl.lookup x = none ∧ ∃ d, d ∈ L ∧ d.c = "" ∧ d.f = x ∧ ∃ a fd, FunF K d a fd ∧ mg x = some (.ref a)
end
theorem methK_of {cl : List (Str × ClsD)} {cs : List (Str × W)} {isi : W → W → Option Bool} {xc : List (Str × Option Str)} {exm : Str → W → Option Bool} {hc : CallT} {c x : Str} {k : MKind} (h : methK { mkG cl cs isi xc exm with hc := hc } c x = some k) : ∃ d, (c, d) ∈ cl ∧ (x, k) ∈ d.meths := by
  unfold methK at h
  split at h
  · rename_i d hd
    exact ⟨d, lookup_mem hd, lookup_mem h⟩
  · cases h
theorem lawF_of {P : Program} {w : World} {K : PySem.W.Frag} {mg : Str → Option Value} {base : Heap} {m n : Nat} {L : List Df} {cl : List (Str × ClsD)} {cs : List (Str × W)} {isi : W → W → Option Bool} {xc : List (Str × Option Str)} {exm : Str → W → Option Bool} {defs blts hdefs : List Str}
    (tab : (L.map fun d => (d.c, d.f)).Nodup) (scs : L.all scB = true) (ad : ∀ d, d ∈ L → ∃ a fd, FunF K d a fd) (df : ∀ x, x ∈ defs → DFact K mg L cl x) (blt : ∀ x, x ∈ blts → mg x = none) (cst : ∀ p, p ∈ cs → KFact K mg p) (cls : ∀ p, p ∈ cl → CFact K mg L p)
    (hisi : ∀ X : Cx, X.K = K → X.mg = mg → IsiOk X isi) (hxc : ∀ p, p ∈ xc → XcF P K mg p.1 p.2) (hexm : ∀ x c b C v, exm x c = some b → mg x = some (.ref C) → clsV mg c v → PySem.W.exmOne K (.ref C) v = some b) (hd : ∀ x, x ∈ hdefs → x ∈ defs) :
    LawF P w K mg base (gOf defs blts hdefs (mkG cl cs isi xc exm) m n L) (tabOf (gOf defs blts hdefs (mkG cl cs isi xc exm) m n L) m n L) m n L := by
  refine ⟨tab_of tab, fun d hd => scB_of (List.all_eq_true.mp scs d hd), ad, fun x hx => ?_, blt, fun x w h => ?_, fun c f h => ?_, fun c x h => ?_, fun c x h => ?_, fun c h => ?_, fun c h => ?_, hisi, fun c o h => hxc (c, o) (lookup_mem h), hexm, fun x hx => ?_, fun x hx => ⟨(df x (hd x hx)).1, trivial⟩, fun c x as h => ?_⟩
  · exact df x hx
  · exact cst (x, w) (lookup_mem h)
  · unfold fldK at h
    split at h
    · rename_i d hd
      obtain ⟨_, A, h1, h2, h3, _⟩ := cls (c, d) (lookup_mem hd)
      exact ⟨A, h1, h2, h3 f (List.contains_iff_mem.mp h)⟩
    · cases h
  · obtain ⟨d, h1, h2⟩ := methK_of h
    obtain ⟨h0, A, h3, h4, _, h5, _⟩ := cls (c, d) h1
    obtain ⟨p, df, a, fd, q⟩ := h5 _ h2
    exact ⟨h0, A, p, df, a, fd, h3, h4, q⟩
  · obtain ⟨d, h1, h2⟩ := methK_of h
    obtain ⟨h0, A, h3, h4, _, h5, _⟩ := cls (c, d) h1
    obtain ⟨df, a, fd, q⟩ := h5 _ h2
    exact ⟨h0, A, df, a, fd, h3, h4, q⟩
  · obtain ⟨d, h1, h2⟩ := methK_of h
    obtain ⟨h0, A, h3, h4, _, h5, _⟩ := cls (c, d) h1
    obtain ⟨df, a, fd, q⟩ := h5 _ h2
    exact ⟨h0, A, df, a, fd, h3, q⟩
  · obtain ⟨d, hd⟩ := Option.isSome_iff_exists.mp h
    obtain ⟨_, A, h3, _, _, _, df, a, fd, q⟩ := cls (c, d) (lookup_mem hd)
    exact ⟨A, df, a, fd, h3, q⟩
  · obtain ⟨_, d, h1, h2, h3, a, fd, h4, h5⟩ := df x (hd x hx)
    refine ⟨d, h1, h2, h3, a, fd, h4, h5, fun as => ?_⟩
    show hcOf _ m n L "" x as = _
    unfold hcOf
    rw [if_pos ⟨rfl, hx⟩]
    have q := find_of tab d h1
    rw [h2, h3] at q
    rw [q]
    rfl
  · show hcOf _ m n L c x as = _
    unfold hcOf
    rw [if_neg]
    rintro ⟨h1, h2⟩
    rcases h with h | h
    · exact h h1
    · exact h h2

/-! ### isinstance by a table -/
theorem kit_refl {K : PySem.W.Frag} {t : Value} : PySem.W.kitOne K t t = some true := by unfold PySem.W.kitOne; rw [if_pos (by simp)]
abbrev CKey := String ⊕ Str
def keyC : W → Option CKey
  | .ty n => some (.inl n)
  | .glo x => some (.inr x)
  | _ => none
def isiOf (tab : List ((CKey × CKey) × Bool)) (t c : W) : Option Bool := match keyC t, keyC c with
  | some a, some b => (tab.find? fun e => decide (e.1 = (a, b))).map (·.2)
  | _, _ => none
def keyV' (mg : Str → Option Value) : CKey → Value → Prop
  | .inl n, u => u = .type n
  | .inr x, u => ∃ C, mg x = some (.ref C) ∧ u = .ref C
theorem isi_of {X : Cx} {tab : List ((CKey × CKey) × Bool)} (h1 : ∀ e, e ∈ tab → ∀ u v, keyV' X.mg e.1.1 u → keyV' X.mg e.1.2 v → PySem.W.kitOne X.K u v = some e.2)
    (h2 : ∀ e, e ∈ tab → ∀ x C, e.1.1 = .inr x → X.mg x = some (.ref C) → Cls X.K C ∧ PySem.W.findIn X.K (.ref C) "__class__" = some (some (.builtin "object.__class__")) ∧
    PySem.W.specialIn X.K (.builtin "object.__class__") "__get__" = some (some (.builtin "getset_descriptor.__get__")) ∧ PySem.W.takesIn X.K (.builtin "object.__class__") = some true ∧ PySem.W.mroIn X.K C (.type "object") = some true) : IsiOk X (isiOf tab) := by
  have key : ∀ {t c b}, isiOf tab t c = some b → ∃ a d, keyC t = some a ∧ keyC c = some d ∧ ((a, d), b) ∈ tab := fun {t c b} h => by
    unfold isiOf at h
    split at h
    · rename_i a d ha hd
      cases q : tab.find? fun e => decide (e.1 = (a, d)) with
      | none => rw [q] at h; cases h
      | some e =>
        rw [q] at h
        cases h
        have h3 := List.find?_some q
        have h4 := List.mem_of_find?_eq_some q
        have h5 : e.1 = (a, d) := by simpa using h3
        exact ⟨a, d, ha, hd, by rw [← h5]; exact h4⟩
    · cases h
  have kv : ∀ {t : W} {a : CKey} {u : Value}, keyC t = some a → clsV X.mg t u → keyV' X.mg a u := fun {t a u} h q => by
    cases t <;> first | (cases h; exact q) | cases h
  refine ⟨fun t c b h => ?_, fun t c b u v h q1 q2 => ?_, fun x c b C h q => ?_, fun x c b C h q => ?_⟩
  · obtain ⟨a, d, ha, hd, _⟩ := key h
    cases c <;> first | trivial | cases hd
  · obtain ⟨a, d, ha, hd, hm⟩ := key h
    exact h1 _ hm u v (kv ha q1) (kv hd q2)
  · obtain ⟨a, d, ha, hd, hm⟩ := key h
    cases ha
    exact h2 _ hm x C rfl q
  · obtain ⟨a, d, ha, hd, hm⟩ := key h
    cases ha

/-! ### exception classes by their mro -/
def memK (k : CKey) : List CKey → Bool
  | [] => false
  | a :: r => decide (k = a) || memK k r
theorem memK_of {k : CKey} : ∀ {l : List CKey}, k ∈ l → memK k l = true
  | a :: r, h => by
    unfold memK
    rcases List.mem_cons.mp h with e | h
    · rw [decide_eq_true e]; rfl
    · rw [memK_of h, Bool.or_true]
structure XTab where
  xm : List (Str × List CKey)
  ty : List String
def XTab.key (T : XTab) : W → Option CKey
  | .ty n => if n ∈ T.ty then some (.inl n) else none
  | .glo x => if (T.xm.lookup x).isSome = true then some (.inr x) else none
  | _ => none
def XTab.isx (T : XTab) (x : Str) (c : W) : Option Bool := match T.xm.lookup x, T.key c with
  | some m, some k => some (memK k m)
  | _, _ => none
def XTab.isi (T : XTab) (f : W → W → Option Bool) (t c : W) : Option Bool := match t with
  | .exn x [] [] => T.isx x c
  | .exn _ _ _ => none
  | t => f t c
inductive MroR (mg : Str → Option Value) : List CKey → List Value → Prop
  | nil : MroR mg [] []
  | cons {k : CKey} {v : Value} {ks : List CKey} {vs : List Value} : keyV' mg k v → MroR mg ks vs → MroR mg (k :: ks) (v :: vs)
structure XMF (K : PySem.W.Frag) (mg : Str → Option Value) (T : XTab) : Prop where
  row : ∀ p, p ∈ T.xm → ∃ C cd, mg p.1 = some (.ref C) ∧ PySem.W.clsIn K C = some cd ∧ ExK K C ∧ PySem.W.typeIn K (.ref C) = some (.type "type") ∧ MroR mg p.2 cd.mro ∧ cd.mro ≠ [] ∧ .inr p.1 ∈ p.2
  inj : ∀ x y C, x ∈ T.xm.map (·.1) → y ∈ T.xm.map (·.1) → mg x = some (.ref C) → mg y = some (.ref C) → x = y
  cl : ∀ p, p ∈ T.xm → ∀ y, .inr y ∈ p.2 → y ∈ T.xm.map (·.1)
  tys : ∀ t, t ∈ T.ty → PySem.W.kitMeta t = true ∧ (PySem.fastBuiltinMro t).map (·.contains (.type "BaseException")) = some true
theorem mro_has {mg : Str → Option Value} {ns : List Str} (inj : ∀ x y C, x ∈ ns → y ∈ ns → mg x = some (.ref C) → mg y = some (.ref C) → x = y) {k : CKey} {v : Value} (hk : keyV' mg k v) (hn : ∀ y, k = .inr y → y ∈ ns) :
    ∀ {ks : List CKey} {vs : List Value}, MroR mg ks vs → (∀ y, .inr y ∈ ks → y ∈ ns) → vs.contains v = memK k ks
  | [], [], _, _ => rfl
  | a :: ks, b :: vs, .cons h r, hc => by
    have ih := mro_has inj hk hn r fun y hy => hc y (List.mem_cons_of_mem _ hy)
    have e : (v == b) = decide (k = a) := by
      cases k with
      | inl n =>
        obtain rfl : v = .type n := hk
        cases a with
        | inl n' =>
          obtain rfl : b = .type n' := h
          by_cases q : n = n'
          · subst q; simp
          · rw [decide_eq_false (fun z => q (by injection z))]
            exact beq_eq_false_iff_ne.mpr fun z => q (by injection z)
        | inr y =>
          obtain ⟨D, _, rfl⟩ := h
          rw [decide_eq_false (fun z => nomatch z)]
          exact beq_eq_false_iff_ne.mpr fun z => nomatch z
      | inr x =>
        obtain ⟨C, hx, rfl⟩ := hk
        cases a with
        | inl n' =>
          obtain rfl : b = .type n' := h
          rw [decide_eq_false (fun z => nomatch z)]
          exact beq_eq_false_iff_ne.mpr fun z => nomatch z
        | inr y =>
          obtain ⟨D, hy, rfl⟩ := h
          by_cases q : x = y
          · subst q
            rw [hx] at hy
            cases hy
            simp
          · rw [decide_eq_false (fun z => q (by injection z))]
            exact beq_eq_false_iff_ne.mpr fun z => q (inj x y C (hn x rfl) (hc y List.mem_cons_self) hx (by injection z with z; rw [hy, z]))
    rw [List.contains_cons, e, ih]
    rfl
section
variable {K : PySem.W.Frag} {mg : Str → Option Value} {T : XTab}
theorem xt_key {c : W} {k : CKey} {v : Value} (hk : T.key c = some k) (hv : clsV mg c v) : keyV' mg k v ∧ (∀ y, k = .inr y → y ∈ T.xm.map (·.1)) ∧ (∀ n, k = .inl n → n ∈ T.ty) := by
  unfold XTab.key at hk
  split at hk
  · split at hk
    · rename_i h
      cases hk
      exact ⟨hv, (fun y z => nomatch z), fun n z => by injection z with z; rw [← z]; exact h⟩
    · cases hk
  · split at hk
    · rename_i h
      cases hk
      obtain ⟨m, hm⟩ := Option.isSome_iff_exists.mp h
      exact ⟨hv, fun y z => by injection z with z; rw [← z]; exact List.mem_map.mpr ⟨_, lookup_mem hm, rfl⟩, fun n z => nomatch z⟩
    · cases hk
  · cases hk
theorem xt_cls (F : XMF K mg T) {x : Str} {c : W} {b : Bool} {C : Addr} {v : Value} (h : T.isx x c = some b) (hx : mg x = some (.ref C)) (hv : clsV mg c v) : PySem.W.kitCls K (.ref C) v = some b ∧ ((PySem.W.subIn K v (.type "BaseException") == some true) = true) ∧ ExK K C ∧ ((Value.ref C == v) = true → b = true) := by
  unfold XTab.isx at h
  split at h
  · rename_i m k hm hk
    cases h
    obtain ⟨C', cd, h1, h2, h3, h4, h5, h6, h7⟩ := F.row _ (lookup_mem hm)
    rw [hx] at h1; cases h1
    obtain ⟨kv, kn, kt⟩ := xt_key hk hv
    have hc := mro_has F.inj kv kn h5 (F.cl _ (lookup_mem hm))
    have sub : PySem.W.subIn K (.ref C) v = some (memK k m) := by
      show PySem.W.mroIn K C v = _
      unfold PySem.W.mroIn
      rw [h2, Option.bind_some, if_neg (by intro z; exact h6 (List.isEmpty_iff.mp z)), hc]
    refine ⟨?_, ?_, h3, fun z => ?_⟩
    · cases k with
      | inl n =>
        obtain rfl : v = .type n := kv
        unfold PySem.W.kitCls
        simp only [(F.tys n (kt n rfl)).1, if_true]
        exact sub
      | inr y =>
        obtain ⟨D, hy, rfl⟩ := kv
        obtain ⟨p, hp, rfl⟩ := List.mem_map.mp (kn y rfl)
        obtain ⟨D', cd', g1, g2, g3, g4, _⟩ := F.row p hp
        rw [hy] at g1; cases g1
        unfold PySem.W.kitCls
        simp only [g2, g4, Option.isSome_some, Bool.true_and, beq_self_eq_true, if_true]
        exact sub
    · cases k with
      | inl n =>
        obtain rfl : v = .type n := kv
        show ((PySem.fastBuiltinMro n).map (·.contains (.type "BaseException")) == some true) = true
        rw [(F.tys n (kt n rfl)).2]; rfl
      | inr y =>
        obtain ⟨D, hy, rfl⟩ := kv
        obtain ⟨p, hp, rfl⟩ := List.mem_map.mp (kn y rfl)
        obtain ⟨D', cd', g1, g2, g3, g4, _⟩ := F.row p hp
        rw [hy] at g1; cases g1
        rw [g3.ex]; rfl
    · obtain rfl := (beq_iff_eq.mp z).symm
      cases k with
      | inl n => cases (show Value.ref C = .type n from kv)
      | inr y =>
        obtain ⟨D, hy, e⟩ := kv
        injection e with e
        subst e
        have e2 := F.inj x y C (List.mem_map.mpr ⟨_, lookup_mem hm, rfl⟩) (kn y rfl) hx hy
        subst e2
        exact memK_of h7
  · cases h
theorem isx_of {X : Cx} {f : W → W → Option Bool} (F : XMF X.K X.mg T) (h : IsiOk X f) : IsiOk X (T.isi f) := by
  refine ⟨fun t c b q => ?_, fun t c b u v q q1 q2 => ?_, fun x c b C q q1 => ?_, fun x c b C q q1 => ?_⟩
  · unfold XTab.isi at q
    split at q
    · unfold XTab.isx at q
      split at q
      · rename_i hk
        cases c <;> first | trivial | (unfold XTab.key at hk; cases hk)
      · cases q
    · cases q
    · exact h.cv _ c b q
  · unfold XTab.isi at q
    split at q
    · obtain ⟨C, hx, rfl⟩ := q1
      obtain ⟨z1, z2, z3, z4⟩ := xt_cls F q hx q2
      unfold PySem.W.kitOne
      by_cases e : (Value.ref C == v) = true
      · rw [if_pos e, z4 e]
      · rw [if_neg e]; exact z1
    · cases q
    · exact h.kit _ c b u v q q1 q2
  · exact h.cls x c b C q q1
  · have q : T.isx x c = some b := q
    unfold XTab.isx at q
    split at q
    · rename_i m k hm hk
      obtain ⟨C', cd, h1, h2, h3, _⟩ := F.row _ (lookup_mem hm)
      rw [q1] at h1; cases h1
      exact h3
    · cases q
theorem exm_of (F : XMF K mg T) : ∀ x c b C v, T.isx x c = some b → mg x = some (.ref C) → clsV mg c v → PySem.W.exmOne K (.ref C) v = some b := fun x c b C v h hx hv => by
  obtain ⟨z1, z2, _, _⟩ := xt_cls F h hx hv
  unfold PySem.W.exmOne
  rw [if_pos z2]; exact z1
end
end PM

set_option maxHeartbeats 4000000
namespace PM
open PySem L2
theorem inj_of {mg : Str → Option Value} {l : List (Str × Addr)} (h1 : ∀ p, p ∈ l → mg p.1 = some (.ref p.2)) (h2 : (l.map (·.2)).Nodup) : ∀ x y C, x ∈ l.map (·.1) → y ∈ l.map (·.1) → mg x = some (.ref C) → mg y = some (.ref C) → x = y := fun x y C hx hy ex ey => by
  obtain ⟨p, hp, rfl⟩ := List.mem_map.mp hx
  obtain ⟨q, hq, rfl⟩ := List.mem_map.mp hy
  have e1 : p.2 = C := by have := h1 p hp; rw [ex] at this; injection this with this; injection this with this; exact this.symm
  have e2 : q.2 = C := by have := h1 q hq; rw [ey] at this; injection this with this; injection this with this; exact this.symm
  clear h1 hx hy ex ey
  induction l with
  | nil => cases hp
  | cons a r ih =>
    rw [List.map_cons, List.nodup_cons] at h2
    rcases List.mem_cons.mp hp with e3 | hp' <;> rcases List.mem_cons.mp hq with e4 | hq'
    · rw [e3, e4]
    · exact (h2.1 (List.mem_map.mpr ⟨q, hq', by rw [e2, ← e1, e3]⟩)).elim
    · exact (h2.1 (List.mem_map.mpr ⟨p, hp', by rw [e1, ← e2, e4]⟩)).elim
    · exact ih h2.2 hp' hq'
def rowsB (xm : List (Str × List CKey)) : Bool := xm.all fun p => memK (.inr p.1) p.2 && p.2.all fun k => match k with | .inr y => (xm.map (·.1)).any fun z => decide (z = y) | .inl _ => true
theorem mem_of_memK {k : CKey} : ∀ {l : List CKey}, memK k l = true → k ∈ l
  | [], h => by cases h
  | a :: r, h => by
    unfold memK at h
    rcases Bool.or_eq_true _ _ ▸ h with h | h
    · rw [of_decide_eq_true h]; exact List.mem_cons_self
    · exact List.mem_cons_of_mem _ (mem_of_memK h)
theorem rows_of {xm : List (Str × List CKey)} (h : rowsB xm = true) : (∀ p, p ∈ xm → .inr p.1 ∈ p.2) ∧ ∀ p, p ∈ xm → ∀ y, .inr y ∈ p.2 → y ∈ xm.map (·.1) := by
  unfold rowsB at h
  rw [List.all_eq_true] at h
  refine ⟨fun p hp => mem_of_memK ((Bool.and_eq_true _ _ ▸ h p hp).1), fun p hp y hy => ?_⟩
  have z := List.all_eq_true.mp (Bool.and_eq_true _ _ ▸ h p hp).2 _ hy
  obtain ⟨w, h1, h2⟩ := List.any_eq_true.mp z
  rw [← of_decide_eq_true h2]; exact h1
theorem xmf_of {K : PySem.W.Frag} {mg : Str → Option Value} {xm : List (Str × List CKey)} {ty : List String} {l : List (Str × Addr)} (h1 : ∀ p, p ∈ l → mg p.1 = some (.ref p.2)) (h2 : (l.map (·.2)).Nodup) (h3 : xm.map (·.1) = l.map (·.1)) (hr : rowsB xm = true)
    (h4 : ∀ p, p ∈ xm → ∃ C cd, mg p.1 = some (.ref C) ∧ PySem.W.clsIn K C = some cd ∧ ExK K C ∧ PySem.W.typeIn K (.ref C) = some (.type "type") ∧ MroR mg p.2 cd.mro ∧ cd.mro ≠ [])
    (h5 : ∀ t, t ∈ ty → PySem.W.kitMeta t = true ∧ (PySem.fastBuiltinMro t).map (·.contains (.type "BaseException")) = some true) : XMF K mg ⟨xm, ty⟩ := by
  refine ⟨fun p hp => ?_, fun x y C hx hy => inj_of h1 h2 x y C (h3 ▸ hx) (h3 ▸ hy), (rows_of hr).2, h5⟩
  obtain ⟨C, cd, g1, g2, g3, g4, g5, g6⟩ := h4 p hp
  exact ⟨C, cd, g1, g2, g3, g4, g5, g6, (rows_of hr).1 p hp⟩
theorem exK_of {K : PySem.W.Frag} {C : Addr} {cd : ClassData} (hc : PySem.W.clsIn K C = some cd) (ga : PySem.W.findIn K (.ref C) "__getattribute__" = some (some (.builtin "BaseException.__getattribute__"))) (gg : PySem.W.findIn K (.ref C) "__getattr__" = some none)
    (ex : PySem.W.subIn K (.ref C) (.type "BaseException") = some true) (ca : PySem.W.findIn K (.ref C) "__class__" = some (some (.builtin "object.__class__"))) (cg : PySem.W.specialIn K (.builtin "object.__class__") "__get__" = some (some (.builtin "getset_descriptor.__get__")))
    (tk : PySem.W.takesIn K (.builtin "object.__class__") = some true) (mo : PySem.W.mroIn K C (.type "object") = some true) (hd : PySem.W.hasDictIn K C = true) : ExK K C := ⟨by rw [hc]; rfl, ga, gg, ex, ca, cg, tk, mo, hd⟩
theorem xc_ev {q1 q2 q3 q4 q5 : Pos} {tx : Str} {j : Nat} (h : (q3.endLine == q5.line) = true) (env : PySem.Env) : ∃ pl : Sem Bool, eval (.Call (.Attribute (.Call (.Name "super" q1) [] [] q2) "__init__" q3) [.Constant (.str tx) j q4] [] q5) env = (do
        let ov ← attributeBase (.Call (.Name "super" q1) [] [] q2) "__init__" env (eval (.Call (.Name "super" q1) [] [] q2) env)
        standAt q3.atName
        let (fx, first) ← holding [ov] (getMethod ov "__init__" pl)
        callWith q5 fx first (backTo q5 (starEach [.Constant (.str tx) j q4] env)) []) := by
  refine ⟨do return (← importBound (.Call (.Name "super" q1) [] [] q2) env).getD true, ?_⟩
  have hpos : methodCallPos true (.Call (.Name "super" q1) [] [] q2) env q3 q5 = pure q5 := by unfold methodCallPos; simp [h]
  rw [arm_eval_Call]
  have hform : methodCallForm ([Expr.Constant (.str tx) j q4].length + ([] : List Keyword).length) (backTo q5 (starEach [.Constant (.str tx) j q4] env)) (backToKw q5 (keywordEach [] env)) = true := rfl
  unfold methodCall
  rw [hform, hpos]
  rfl
theorem xc_mk {K : PySem.W.Frag} {mg : Str → Option Value} {P : Program} {C fI : Addr} {f : Str} {B newB newId i : String} {bmB : List Value} {oc ccl cl doc pm ct : Value} {od an cdd cld : Option Addr} {osl ccs csl : Array (Option Value)} {qual tx file : Str} {j : Nat} {cda cc : Addr} {vs : Array Value} {tf : Tok} {p1 p2 q1 q2 q3 q4 q5 q6 q7 q8 q9 q10 : Pos}
    (base : PMX.XBase B newB newId i bmB) (q : PySem.W.excInitIn K C bmB newId = true) (hd : PySem.W.hasDictIn K C = true) (sa : PySem.W.findIn K (.ref C) "__setattr__" = some (some (.builtin "object.__setattr__"))) (no : PySem.W.findIn K (.ref C) f = some none)
    (sup : PySem.W.ks_superIn K C C "__init__" = some (some (.builtin i))) (tp : PySem.W.nsIn K cStatics "thirdparty.any" = some none) (exB : PySem.W.subIn K (.ref C) (.type B) = some true) (self : PySem.W.mroIn K C (.ref C) = some true) (mgS : mg "super" = none)
    (top : (P.main.scope.names.lookup ("super" : Str)).isSome = false) (iC : PySem.W.findIn K (.ref C) "__init__" = some (some (.ref fI))) (tI : PySem.W.typeIn K (.ref fI) = some (.type "function")) (exC : PySem.W.subIn K (.ref C) (.type "BaseException") = some true)
    (tyC : PySem.W.typeIn K (.ref C) = some (.type "type")) (kC : PySem.W.keepIn K (.ref C) = true)
    (hln : (q3.endLine == q5.line) = true) (lk : K.lookup fI = some ⟨oc, od, .func (PySem.W.ksFn "__init__" qual (PMX.iA f p1 p2) (PMX.iB f tx j q1 q2 q3 q4 q5 q6 q7 q8 q9 q10) (PMX.iS f) .none .none doc pm an (.ref cda) ct cc), osl⟩) (hc : PySem.W.codeIn K (.ref cda) qual = true)
    (lk2 : K.lookup cda = some ⟨ccl, cdd, .fields vs, ccs⟩) (hv : vs[2]? = some (.str file tf)) (hf : ((P.main.file : Str) == file) = true) (lk3 : K.lookup cc = some ⟨cl, cld, .cell (some (.ref C)), csl⟩)
    (hb : ∀ a b : Value, bindArgs (PySem.W.ksFn "__init__" qual (PMX.iA f p1 p2) (PMX.iB f tx j q1 q2 q3 q4 q5 q6 q7 q8 q9 q10) (PMX.iS f) .none .none doc pm an (.ref cda) ct cc) ⟨[a, b], []⟩ = pure [(("self" : Str), a), (f, b)]) : PMX.XC K mg P C fI f B newB newId i bmB :=
  ⟨base, q, hd, sa, no, sup, tp, exB, self, mgS, top, iC, tI, exC, tyC, kC, ⟨oc, ccl, cl, .none, .none, doc, pm, ct, od, an, cdd, cld, osl, ccs, csl, qual, tx, file, j, cda, cc, vs, tf, p1, p2, q1, q2, q3, q4, q5, q6, q7, q8, q9, q10, lk, hc, lk2, hv, hf, lk3, hb, fun env => xc_ev hln env⟩⟩
end PM

set_option maxHeartbeats 4000000
namespace PM
open PySem L2
theorem mulI_ok {i j : Int} (h1 : i.natAbs < big) (h2 : j.natAbs < big) : mulI i j = some (.int (i * j)) := by
  unfold mulI
  rw [decide_eq_true h1, decide_eq_true h2]; rfl
theorem big_of {i : Int} {n : Nat} (h : i.natAbs ≤ n) (hn : n < big) : i.natAbs < big := Nat.lt_of_le_of_lt h hn
theorem big_lt : (2 : Nat) ^ 200 < big := by unfold big; exact Nat.pow_lt_pow_right (by decide) (by decide)
theorem big_nat {p : Nat} (h : p < 2 ^ 200) : (Int.ofNat p).natAbs < big := Nat.lt_trans h big_lt
theorem big_mod {x p : Int} (h : 0 < p) (hp : p < 2 ^ 200) : (x % p).natAbs < big := by
  have h1 := Int.emod_nonneg x (show p ≠ 0 by omega)
  have h2 := Int.emod_lt_of_pos x h
  have : (x % p).natAbs < 2 ^ 200 := by omega
  exact Nat.lt_trans this big_lt
theorem big_nn {x : Int} (h : 0 ≤ x) (hp : x < 2 ^ 200) : x.natAbs < big := by
  have : x.natAbs < 2 ^ 200 := by omega
  exact Nat.lt_trans this big_lt
abbrev li (k : Nat) : Ex := .lit (.int (Int.ofNat k))
abbrev e1 (e : Ex) : Exs := .cons e .nil
abbrev dk (k : Nat) : Ex := .sub (.bor 0) (li k)
def rollB (p1 p2 p3 p4 p5 p6 : Nat) : Sms :=
  .cons (.ifs (.cmp .Gt (dk 0) (li 0))
    (.cons (.asg (.nm 4) (.bin .Mod (.bi .int (e1 (dk 0))) (.var 1))) (.cons (.seti 0 (li 0) (.bin .FloorDiv (dk 0) (.var 1))) (.cons (.ret (.var 4)) .nil))) .nil)
  (.cons (.seti 0 (li 2) (.bin .Add (dk 2) (li 1)))
  (.cons (.asg (.nm 2) (.bin .Mod (.bi .int (e1 (.bin .Add (dk 1) (.bin .Mult (li p1) (dk 2))))) (li p2)))
  (.cons (.asg (.nm 3) (.bin .Add (.bin .Mult (.bin .Mod (.bi .int (e1 (.bin .Add (.bin .Mult (.var 2) (.var 2)) (.bin .Mult (li p3) (dk 2))))) (li p4)) (li p5)) (.var 2)))
  (.cons (.ret (.bin .Mod (.bi .int (e1 (.bin .FloorDiv (.var 3) (li p6)))) (.var 1))) .nil))))
def diceW (a b c : Int) : W := .lst [.int a, .int b, .int c]
theorem roll_ok {C : CallT} {G : Glob} {p1 p2 p3 p4 p5 p6 : Nat} {a b c t : Int} (h1 : p1 < 2 ^ 200) (h2 : 0 < p2) (h2' : p2 < 2 ^ 200) (h3 : p3 < 2 ^ 200) (h4 : 0 < p4) (h4' : p4 < 2 ^ 200) (h5 : p5 < 2 ^ 200) (h6 : 0 < p6) (h6' : p6 < 2 ^ 200) (ht : 0 < t) (ht' : t < 2 ^ 200) (hc : 0 ≤ c) (hc' : c + 1 < 2 ^ 200) :
    ∃ r a' c', runF C G ⟨5, 2, [4, 2, 3], rollB p1 p2 p3 p4 p5 p6⟩ [.own (diceW a b c), .val (.int t)] = .ok false (.int r) [diceW a' b c'] ∧ 0 ≤ r ∧ r < t ∧ 0 ≤ c' ∧ c' ≤ c + 1 := by
  have bt : t.natAbs < big := big_nn (by omega) ht'
  have b6 : (Int.ofNat p6).natAbs < big := big_nat (by omega)
  have b1 : (Int.ofNat p1).natAbs < big := big_nat (by omega)
  have b3 : (Int.ofNat p3).natAbs < big := big_nat (by omega)
  have b5 : (Int.ofNat p5).natAbs < big := big_nat (by omega)
  have bc : (c + 1).natAbs < big := big_nn (by omega) hc'
  by_cases ha : 0 < a
  · refine ⟨a % t, a / t, c, ?_, Int.emod_nonneg _ (by omega), Int.emod_lt_of_pos _ ht, hc, by omega⟩
    simp [runF, rollB, diceW, lentOk, startE, execSs, execS, evalE, evalEs, cmpH, rd, rds, pv1, subW, ixW, R.bind, R.opt, R.hd, R.val, R.bool, cmpW, ltB, ownEq, binW, biW, intW, bindT, setW, backs, ha, ht, bt]
  · have q2 : (0 : Int) < p2 := by omega
    have q4 : (0 : Int) < p4 := by omega
    have q6 : (0 : Int) < p6 := by omega
    have m1 : mulI (p1 : Int) (c + 1) = some (.int (p1 * (c + 1))) := mulI_ok b1 bc
    have m3 : mulI (p3 : Int) (c + 1) = some (.int (p3 * (c + 1))) := mulI_ok b3 bc
    have bo : ((b + p1 * (c + 1)) % (p2 : Int)).natAbs < big := big_mod q2 (by omega)
    have m2 := mulI_ok bo bo
    have m4 : ∀ x : Int, mulI (x % (p4 : Int)) p5 = some (.int (x % p4 * p5)) := fun x => mulI_ok (big_mod q4 (by omega)) b5
    have b6' : p6 < big := b6
    refine ⟨((((b + p1 * (c + 1)) % (p2 : Int) * ((b + p1 * (c + 1)) % (p2 : Int)) + p3 * (c + 1)) % p4 * p5 + (b + p1 * (c + 1)) % (p2 : Int)) / p6) % t, a, c + 1, ?_, Int.emod_nonneg _ (by omega), Int.emod_lt_of_pos _ ht, by omega, by omega⟩
    simp [runF, rollB, diceW, lentOk, startE, execSs, execS, evalE, evalEs, cmpH, rd, rds, pv1, subW, ixW, R.bind, R.opt, R.hd, R.val, R.bool, cmpW, ltB, ownEq, binW, biW, intW, bindT, setW, backs, ha, ht, bt, q2, q4, q6, m1, m2, m3, m4, h2, h4, h6, b6']
/-- what a def's end hands back -/
def endR (as : List Ar) : R Fl → CRs
  | .ok (.rt fr w) e => match backs as e with | some bs => .ok fr w bs | none => .no
  | .ok .nx e => match backs as e with | some bs => .ok false .non bs | none => .no
  | .exc x e => match backs as e with | some bs => .exc x bs | none => .no
  | _ => .no
theorem runF_eq {C : CallT} {G : Glob} {n ps : Nat} {rb : List Nat} {b : Sms} {as : List Ar} (h1 : as.length = ps) (h2 : lentOk rb 0 as = true) {env : Env} (h3 : startE as ++ List.replicate (n - ps) .no = env) : runF C G ⟨n, ps, rb, b⟩ as = endR as (execSs C G b env) := by
  unfold runF
  rw [if_pos ⟨h1, h2⟩]
  subst h3
  rfl
abbrev e2 (a b : Ex) : Exs := .cons a (.cons b .nil)
def diceB (a1 a2 b1 b2 b3 b4 m k1 k2 k3 k4 : Nat) : Sms :=
  .cons (.asg (.nm 2) (.ite (.cmp .Lt (.var 1) (.bi .len (e1 (.var 0)))) (.bi .int (e1 (.sub (.var 0) (.var 1)))) (.bin .Add (.bin .Mult (li a1) (.var 1)) (li a2))))
  (.cons (.asg (.nm 3) (.bin .Mod (.bi .max (e2 (li 0) (.bin .Sub (.bi .abs (e1 (.var 2))) (.bin .Pow (li b1) (li b2))))) (.bin .Mult (.bin .Pow (li b3) (li b4)) (.bin .Pow (li b3) (li b4)))))
  (.cons (.retF (.lst (.cons (.var 3) (.cons (.bin .Add (.bin .Add (.bin .Add (.bin .Mult (.bin .Mod (.bi .abs (e1 (.var 2))) (li m)) (li k1)) (.bin .Mult (li k2) (.var 1))) (.bin .Mult (li k3) (.bi .int (e1 (.cmp .Lt (.var 2) (li 0)))))) (li k4)) (.cons (li 0) .nil))))) .nil))
def cellOf (ns : List Int) (i : Int) (a1 a2 : Nat) : Int := if i < ns.length then (ns[i.toNat]?).getD 0 else a1 * i + a2
theorem dice_ok {C : CallT} {G : Glob} {a1 a2 b1 b2 b3 b4 m k1 k2 k3 k4 : Nat} {ns : List Int} {i : Int} (h1 : a1 < 2 ^ 200) (hb1 : b1 < 2 ^ 60) (hb2 : b2 ≤ 1000) (hb3 : b3 < 2 ^ 60) (hb4 : b4 ≤ 1000) (hp : 0 < b3) (hbb : b3 ^ b4 < big) (hm : 0 < m) (hm' : m < 2 ^ 200) (hk1 : k1 < 2 ^ 200) (hk2 : k2 < 2 ^ 200) (hk3 : k3 < 2 ^ 200)
    (hi : 0 ≤ i) (hi' : i < 2 ^ 200) : ∃ a b, runF C G ⟨4, 2, [2, 3], diceB a1 a2 b1 b2 b3 b4 m k1 k2 k3 k4⟩ [.val (.rol (ns.map .int)), .val (.int i)] = .ok true (diceW a b 0) [] := by
  have bi : i.natAbs < big := big_nn hi hi'
  have q1 : mulI (a1 : Int) i = some (.int (a1 * i)) := mulI_ok (big_nat h1) bi
  have qm : (0 : Int) < m := by omega
  have q2 : ∀ x : Int, mulI (x % (m : Int)) k1 = some (.int (x % m * k1)) := fun x => mulI_ok (big_mod qm (by omega)) (big_nat hk1)
  have q3 : mulI (k2 : Int) i = some (.int (k2 * i)) := mulI_ok (big_nat hk2) bi
  have q4 : ∀ x : Int, mulI (k3 : Int) (if x < 0 then 1 else 0) = some (.int (k3 * (if x < 0 then 1 else 0))) := fun x => mulI_ok (big_nat hk3) (by split <;> exact big_nn (by decide) (by decide))
  have q5 : mulI ((b3 : Int) ^ b4) ((b3 : Int) ^ b4) = some (.int ((b3 : Int) ^ b4 * (b3 : Int) ^ b4)) := by
    have e : ((b3 : Int) ^ b4).natAbs < big := by rw [Int.natAbs_pow]; exact hbb
    exact mulI_ok e e
  have q6 : (0 : Int) < (b3 : Int) ^ b4 * (b3 : Int) ^ b4 := by
    have : (0 : Int) < (b3 : Int) ^ b4 := Int.pow_pos (by omega)
    exact Int.mul_pos this this
  have hb2' : (b2 : Int) ≤ 1000 := by omega
  have hb4' : (b4 : Int) ≤ 1000 := by omega
  have key : ∀ x : Int, (execS C G (.asg (.nm 2) (.ite (.cmp .Lt (.var 1) (.bi .len (e1 (.var 0)))) (.bi .int (e1 (.sub (.var 0) (.var 1)))) (.bin .Add (.bin .Mult (li a1) (.var 1)) (li a2)))) [.val (.rol (ns.map .int)), .val (.int i), .no, .no] = .ok .nx [.val (.rol (ns.map .int)), .val (.int i), .val (.int x), .no]) →
      ∃ a b, runF C G ⟨4, 2, [2, 3], diceB a1 a2 b1 b2 b3 b4 m k1 k2 k3 k4⟩ [.val (.rol (ns.map .int)), .val (.int i)] = .ok true (diceW a b 0) [] := fun x hx => by
    refine ⟨(if (if x < 0 then -x else x) - (b1 : Int) ^ b2 > 0 then (if x < 0 then -x else x) - (b1 : Int) ^ b2 else 0) % ((b3 : Int) ^ b4 * (b3 : Int) ^ b4), (if x < 0 then -x else x) % m * k1 + k2 * i + k3 * (if x < 0 then 1 else 0) + k4, ?_⟩
    refine (runF_eq (env := [.val (.rol (ns.map .int)), .val (.int i), .no, .no]) rfl rfl rfl).trans ?_
    unfold diceB
    rw [execSs, hx]
    simp [endR, diceW, execSs, execS, evalE, evalF, evalEs, cmpH, rd, rds, pv1, pvs, subW, ixW, R.bind, R.opt, R.hd, R.val, R.bool, cmpW, ltB, ownEq, binW, biW, intW, maxW, absW, bindT, setW, backs, qm, q1, q2, q3, q4, q5, q6, hb1, hb2', hb3, hb4', hm]
  by_cases hn : i < ns.length
  · have hl : i.toNat < ns.length := by omega
    refine key (ns[i.toNat]) ?_
    have hg : (ns.map W.int)[i.toNat]? = some (.int ns[i.toNat]) := by rw [List.getElem?_map, List.getElem?_eq_getElem hl]; rfl
    simp [execS, evalE, evalEs, cmpH, rd, rds, pv1, subW, ixW, R.bind, R.opt, R.hd, R.val, R.bool, cmpW, ltB, ownEq, biW, intW, lenW, seqW, bindT, hi, hn]
  · refine key (a1 * i + a2) ?_
    simp [execS, evalE, evalEs, cmpH, rd, rds, pv1, R.bind, R.opt, R.hd, R.val, R.bool, cmpW, ltB, ownEq, binW, biW, intW, lenW, seqW, bindT, hi, hn, q1]
/-! ### picks, the law's loop -/
def pickB (f : Str) : Sms := .cons (.ret (.sub (.var 1) (.call f (e2 (.bor 0) (.bi .len (e1 (.var 1))))))) .nil
theorem ss_nx {C : CallT} {G : Glob} {s : Sm} {ss : Sms} {env e1 : Env} (h : execS C G s env = .ok .nx e1) : execSs C G (.cons s ss) env = execSs C G ss e1 := by rw [execSs, h]; rfl
theorem ss_rt {C : CallT} {G : Glob} {s : Sm} {ss : Sms} {env e1 : Env} {fr : Bool} {w : W} (h : execS C G s env = .ok (.rt fr w) e1) : execSs C G (.cons s ss) env = .ok (.rt fr w) e1 := by rw [execSs, h]; rfl
/-- rolls of dice -/
def Rolls (C : CallT) (f : Str) : Prop := ∀ a b c t : Int, 0 < t → t < 2 ^ 200 → 0 ≤ c → c + 1 < 2 ^ 200 → ∃ r a' c', C "" f [.own (diceW a b c), .val (.int t)] = .ok false (.int r) [diceW a' b c'] ∧ 0 ≤ r ∧ r < t ∧ 0 ≤ c' ∧ c' ≤ c + 1
theorem pick_ok {C : CallT} {G : Glob} {f : Str} (hr : Rolls C f) {a b c : Int} {ws : List W} (h0 : 0 < ws.length) (h1 : ws.length < 2 ^ 100) (hc : 0 ≤ c) (hc' : c + 1 < 2 ^ 200) :
    ∃ w a' c', runF C G ⟨2, 2, [], pickB f⟩ [.own (diceW a b c), .val (.lst ws)] = .ok false w [diceW a' b c'] ∧ w ∈ ws ∧ 0 ≤ c' ∧ c' ≤ c + 1 := by
  obtain ⟨r, a', c', e, r0, r1, c0, c1⟩ := hr a b c ws.length (by omega) (by omega) hc hc'
  have hl : r.toNat < ws.length := by omega
  have hg : ws[r.toNat]? = some ws[r.toNat] := List.getElem?_eq_getElem hl
  refine ⟨ws[r.toNat], a', c', ?_, List.getElem_mem hl, c0, c1⟩
  refine (runF_eq (env := [.own (diceW a b c), .val (.lst ws)]) rfl rfl rfl).trans ?_
  have hr1 : r < (ws.length : Int) := r1
  simp [pickB, endR, execSs, execS, evalE, evalEs, callH, lents, nodupN, ars, putBacks, rd, rds, pv1, subW, ixW, R.bind, R.opt, R.hd, R.val, biW, lenW, seqW, backs, e, r0, hr1, hg]
/-- picks from a list -/
def Picks (C : CallT) (f : Str) : Prop := ∀ (a b c : Int) (ws : List W), 0 < ws.length → ws.length < 2 ^ 100 → 0 ≤ c → c + 1 < 2 ^ 200 → ∃ w a' c', C "" f [.own (diceW a b c), .val (.lst ws)] = .ok false w [diceW a' b c'] ∧ w ∈ ws ∧ 0 ≤ c' ∧ c' ≤ c + 1
theorem for_ok {t : Tg} {b : Env → R Fl} {I : Env → Prop} : ∀ {ws : List W}, (∀ w, w ∈ ws → ∀ env, I env → ∃ e1, bindT t w env = some e1 ∧ ∃ e2, b e1 = .ok .nx e2 ∧ I e2) → ∀ env, I env → ∃ e', forL t b ws env = .ok .nx e' ∧ I e'
  | [], _, env, hi => ⟨env, rfl, hi⟩
  | w :: ws, h, env, hi => by
    obtain ⟨e1, h1, e2, h2, h3⟩ := h w List.mem_cons_self env hi
    obtain ⟨e', h4, h5⟩ := for_ok (fun w' hw => h w' (List.mem_cons_of_mem _ hw)) e2 h3
    refine ⟨e', ?_, h5⟩
    unfold forL
    rw [h1]
    simp only [h2, R.bind]
    exact h4
/-- the law: constants, then so many spots -/
def lawB (cr : Str) (k : Nat) (lb : Sms) : Sms :=
  .cons (.ifs (.not (.call cr .nil)) (.cons (.ret (.lit (.bl false))) .nil) .nil)
  (.cons (.fors (.nm 1) (.rng (e1 (.bi .max (e2 (li 1) (.bi .min (e2 (li k) (.bi .len (e1 (.var 0))))))))) lb)
  (.cons (.ret (.lit (.bl true))) .nil))
def maxMin (k n : Int) : Int := if (if n < k then n else k) > 1 then (if n < k then n else k) else 1
theorem law_ok {C : CallT} {G : Glob} {cr : Str} {k n : Nat} {rb : List Nat} {lb : Sms} {ns : List Int} (hk : k < 1000) (hn : 1 < n) (hrb : rb.contains 0 = false ∨ True) (hcr : ∃ fr, C "" cr [] = .ok fr (.bl true) [])
    (h : ∀ (i : Nat), i < k + 1 → ∀ r : Env, r.length = n - 2 → ∃ s1 r', execSs C G lb (.val (.rol (ns.map .int)) :: .val (.int i) :: r) = .ok .nx (.val (.rol (ns.map .int)) :: s1 :: r') ∧ r'.length = n - 2) :
    ∃ fr bs, runF C G ⟨n, 1, rb, lawB cr k lb⟩ [.val (.rol (ns.map .int))] = .ok fr (.bl true) bs := by
  obtain ⟨fr, hcr⟩ := hcr
  have e0 : (startE [.val (.rol (ns.map W.int))] ++ List.replicate (n - 1) Slot.no) = .val (.rol (ns.map W.int)) :: .no :: List.replicate (n - 2) .no := by
    obtain ⟨m, rfl⟩ : ∃ m, n = m + 2 := ⟨n - 2, by omega⟩
    rfl
  have hm0 : 1 ≤ maxMin k ns.length := by unfold maxMin; split <;> omega
  have hm1 : maxMin k ns.length ≤ k + 1 := by unfold maxMin; split <;> (try split) <;> omega
  obtain ⟨e', h1, h2⟩ := for_ok (t := .nm 1) (b := fun e => execSs C G lb e) (I := fun e => ∃ s1 r, e = .val (.rol (ns.map W.int)) :: s1 :: r ∧ r.length = n - 2) (ws := (List.range (maxMin k ns.length).toNat).map fun i => .int (i : Nat))
    (fun w hw env hi => by
      obtain ⟨i, hi', rfl⟩ := List.mem_map.mp hw
      obtain ⟨s1, r, rfl, hr⟩ := hi
      have hi2 := List.mem_range.mp hi'
      obtain ⟨s2, r', g1, g2⟩ := h i (by omega) r hr
      refine ⟨.val (.rol (ns.map W.int)) :: .val (.int i) :: r, ?_, _, g1, s2, r', rfl, g2⟩
      simp [bindT])
    (.val (.rol (ns.map W.int)) :: .no :: List.replicate (n - 2) .no) ⟨.no, _, rfl, by simp⟩
  obtain ⟨s1, r, rfl, hr⟩ := h2
  refine ⟨false, [], (runF_eq (env := .val (.rol (ns.map W.int)) :: .no :: List.replicate (n - 2) .no) rfl rfl e0).trans ?_⟩
  have hI : ∀ r : Env, evalI C G (.rng (e1 (.bi .max (e2 (li 1) (.bi .min (e2 (li k) (.bi .len (e1 (.var 0))))))))) (.val (.rol (ns.map W.int)) :: .no :: r) = .ok ((List.range (maxMin k ns.length).toNat).map fun i => .int (i : Nat)) (.val (.rol (ns.map W.int)) :: .no :: r) := fun r => by
    have q : evalI C G (.rng (e1 (.bi .max (e2 (li 1) (.bi .min (e2 (li k) (.bi .len (e1 (.var 0))))))))) (.val (.rol (ns.map W.int)) :: .no :: r) = R.opt (rngW [.int (maxMin k (ns.map W.int).length)]) (.val (.rol (ns.map W.int)) :: .no :: r) := rfl
    rw [q, List.length_map]
    have z : rngW [.int (maxMin k ns.length)] = some ((List.range (maxMin k ns.length).toNat).map fun i => .int (i : Nat)) := if_pos (by constructor <;> omega)
    rw [z]; rfl
  have hC : execS C G (.ifs (.not (.call cr .nil)) (.cons (.ret (.lit (.bl false))) .nil) .nil) (.val (.rol (ns.map W.int)) :: .no :: List.replicate (n - 2) .no) = .ok .nx (.val (.rol (ns.map W.int)) :: .no :: List.replicate (n - 2) .no) := by
    simp [execS, execSs, evalE, evalEs, callH, lents, nodupN, ars, hcr, putBacks, R.bind, R.bool]
  unfold lawB
  rw [execSs, hC, R.bind_ok]
  show endR _ (execSs C G (.cons _ (.cons _ .nil)) _) = _
  rw [execSs, execS, hI, R.bind_ok, h1, R.bind_ok]
  rfl
end PM

set_option maxHeartbeats 4000000
namespace PO
theorem perm_of_nodup {α : Type} [DecidableEq α] : ∀ {l m : List α}, l.Nodup → (∀ x, x ∈ l → x ∈ m) → m.length ≤ l.length → l.Perm m
  | [], m, _, _, hl => by
    have : m = [] := List.length_eq_zero_iff.mp (by simpa using hl)
    subst this; exact .nil
  | a :: l, m, hn, hs, hl => by
    rw [List.nodup_cons] at hn
    have ha : a ∈ m := hs a List.mem_cons_self
    have h1 : (m.erase a).length ≤ l.length := by
      rw [List.length_erase_of_mem ha]
      simp at hl; omega
    have h2 := perm_of_nodup (m := m.erase a) hn.2 (fun x hx => (List.mem_erase_of_ne (fun e => hn.1 (by rw [← e]; exact hx))).mpr (hs x (List.mem_cons_of_mem _ hx))) h1
    exact (h2.cons a).trans (List.perm_cons_erase ha).symm
theorem perm_sum {l m : List Int} (h : l.Perm m) : l.sum = m.sum := by
  induction h with
  | nil => rfl
  | cons x _ ih => simp only [List.sum_cons, ih]
  | swap x y l => simp only [List.sum_cons]; omega
  | trans _ _ h1 h2 => exact h1.trans h2
/-! ### sums -/
def sm (n : Nat) (h : Nat → Int) : Int := ((List.range n).map h).sum
theorem sm_zero (h : Nat → Int) : sm 0 h = 0 := rfl
theorem sm_succ (n : Nat) (h : Nat → Int) : sm (n + 1) h = sm n h + h n := by
  unfold sm
  rw [List.range_succ, List.map_append, List.sum_append]
  simp
theorem sm_congr {n : Nat} {h k : Nat → Int} (e : ∀ i, i < n → h i = k i) : sm n h = sm n k := by
  induction n with
  | zero => rfl
  | succ n ih => rw [sm_succ, sm_succ, ih fun i hi => e i (by omega), e n (by omega)]
theorem sm_add (n : Nat) (h k : Nat → Int) : sm n (fun i => h i + k i) = sm n h + sm n k := by
  induction n with
  | zero => rfl
  | succ n ih => rw [sm_succ, sm_succ, sm_succ, ih]; omega
theorem sm_neg (n : Nat) (h : Nat → Int) : sm n (fun i => - h i) = - sm n h := by
  induction n with
  | zero => rfl
  | succ n ih => rw [sm_succ, sm_succ, ih]; omega
theorem sm_mul (n : Nat) (c : Int) (h : Nat → Int) : sm n (fun i => c * h i) = c * sm n h := by
  induction n with
  | zero => simp [sm_zero]
  | succ n ih => rw [sm_succ, sm_succ, ih, Int.mul_add]
theorem sm_const (n : Nat) (c : Int) : sm n (fun _ => c) = n * c := by
  induction n with
  | zero => simp [sm_zero]
  | succ n ih => rw [sm_succ, ih]; push_cast; rw [Int.add_mul]; omega
theorem sm_swap (n m : Nat) (a : Nat → Nat → Int) : sm n (fun i => sm m fun j => a i j) = sm m fun j => sm n fun i => a i j := by
  induction n with
  | zero => rw [sm_zero]; rw [show (fun j => sm 0 fun i => a i j) = fun _ => (0 : Int) from rfl, sm_const]; simp
  | succ n ih =>
    rw [sm_succ, ih, ← sm_add]
    exact sm_congr fun j _ => by rw [sm_succ]
def ind (b : Bool) : Int := if b = true then 1 else 0
theorem len_filter (p : Nat → Bool) : ∀ l : List Nat, (((l.filter p).length : Nat) : Int) = (l.map fun k => ind (p k)).sum
  | [] => rfl
  | a :: l => by
    rw [List.map_cons, List.sum_cons, ← len_filter p l, List.filter_cons]
    cases p a with
    | true => simp [ind]; omega
    | false => simp [ind]
theorem len_filter_sm (n : Nat) (p : Nat → Bool) : ((((List.range n).filter p).length : Nat) : Int) = sm n fun k => ind (p k) := len_filter p _
/-! ### residues -/
def rs (n x : Int) : Int := (x - 1) % n + 1
theorem rs_lo {n : Int} (hn : 0 < n) (x : Int) : 1 ≤ rs n x := by have := Int.emod_nonneg (x - 1) (show n ≠ 0 by omega); unfold rs; omega
theorem rs_hi {n : Int} (hn : 0 < n) (x : Int) : rs n x ≤ n := by have := Int.emod_lt_of_pos (x - 1) hn; unfold rs; omega
theorem rs_eq (n x : Int) : x = rs n x + n * ((x - 1) / n) := by have := Int.emod_add_mul_ediv (x - 1) n; unfold rs; omega
theorem rs_of {n x y k : Int} (hn : 0 < n) (h1 : 1 ≤ y) (h2 : y ≤ n) (e : x = y + n * k) : rs n x = y := by
  unfold rs
  have : x - 1 = (y - 1) + n * k := by omega
  rw [this, Int.add_mul_emod_self_left, Int.emod_eq_of_lt (by omega) (by omega)]; omega
theorem rs_small {n x : Int} (hn : 0 < n) (h1 : 1 ≤ x) (h2 : x ≤ n) : rs n x = x := rs_of (k := 0) hn h1 h2 (by simp)
/-- h goes round -/
def Rnd (n : Int) (h : Int → Int) : Prop := ∀ i, h (i + n) = h i
theorem rnd_nat {n : Int} {h : Int → Int} (p : Rnd n h) (i : Int) : ∀ k : Nat, h (i + n * k) = h i
  | 0 => by simp
  | k + 1 => by
    have e : i + n * ((k + 1 : Nat) : Int) = (i + n * k) + n := by push_cast; rw [Int.mul_add]; omega
    rw [e, p, rnd_nat p i k]
theorem rnd_int {n : Int} {h : Int → Int} (p : Rnd n h) (i k : Int) : h (i + n * k) = h i := by
  rcases Int.le_total 0 k with hk | hk
  · obtain ⟨m, rfl⟩ := Int.eq_ofNat_of_zero_le hk
    exact rnd_nat p i m
  · obtain ⟨m, hm⟩ := Int.eq_ofNat_of_zero_le (show 0 ≤ -k by omega)
    have e : i = (i + n * k) + n * m := by rw [← hm, Int.mul_neg]; omega
    rw [e, rnd_nat p]
    congr 1
    omega
theorem rnd_rs {n : Int} {h : Int → Int} (p : Rnd n h) (x : Int) : h (rs n x) = h x := by
  have := rnd_int p (rs n x) ((x - 1) / n)
  rw [← rs_eq] at this
  exact this.symm
/-- residues of n integers, all unlike, are all residues -/
theorem perm_rs {n : Nat} (hn : 0 < n) {x : Nat → Int} (hx : ∀ i j, i < n → j < n → rs n (x i) = rs n (x j) → i = j) : ((List.range n).map fun k => rs n (x k)).Perm ((List.range n).map fun k : Nat => (k : Int) + 1) := by
  refine perm_of_nodup ?_ (fun y hy => ?_) (by simp)
  · rw [List.nodup_iff_pairwise_ne, List.pairwise_map]
    refine List.Pairwise.imp_of_mem (R := fun a b => a ≠ b) (fun {a b} ha hb hab e => hab (hx a b (List.mem_range.mp ha) (List.mem_range.mp hb) e)) (List.nodup_iff_pairwise_ne.mp List.nodup_range)
  · obtain ⟨k, _, rfl⟩ := List.mem_map.mp hy
    have h1 := rs_lo (n := n) (by omega) (x k)
    have h2 := rs_hi (n := n) (by omega) (x k)
    exact List.mem_map.mpr ⟨(rs n (x k) - 1).toNat, List.mem_range.mpr (by omega), by omega⟩
/-- a sum round the rim, in any order -/
theorem sm_rs {n : Nat} (hn : 0 < n) {x : Nat → Int} (hx : ∀ i j, i < n → j < n → rs n (x i) = rs n (x j) → i = j) {h : Int → Int} (p : Rnd n h) : sm n (fun k => h (x k)) = sm n fun k => h (k + 1) := by
  have e1 : sm n (fun k => h (x k)) = sm n fun k => h (rs n (x k)) := sm_congr fun i _ => (rnd_rs p _).symm
  rw [e1]
  have q := perm_sum ((perm_rs hn hx).map h)
  rw [List.map_map, List.map_map] at q
  exact q
theorem rs_cong {n a b : Int} (hn : 0 < n) (h : rs n a = rs n b) : ∃ k, a = b + n * k := by
  have h1 := rs_eq n a
  have h2 := rs_eq n b
  refine ⟨(a - 1) / n - (b - 1) / n, ?_⟩
  rw [Int.mul_sub]; omega
theorem rs_add {n : Int} (x k : Int) (hn : 0 < n) : rs n (x + n * k) = rs n x := by
  unfold rs
  have : x + n * k - 1 = (x - 1) + n * k := by omega
  rw [this, Int.add_mul_emod_self_left]
/-- steps along the rim -/
theorem inj_step {n : Nat} (hn : 0 < n) (c s : Int) (hs : s = 1 ∨ s = -1) : ∀ i j : Nat, i < n → j < n → rs n (c + s * i) = rs n (c + s * j) → i = j := fun i j hi hj h => by
  obtain ⟨k, hk⟩ := rs_cong (by omega) h
  have hb : -(n : Int) < n * k ∧ (n : Int) * k < n := by rcases hs with rfl | rfl <;> (constructor <;> omega)
  have : k = 0 := by
    rcases Int.lt_trichotomy k 0 with h0 | h0 | h0
    · have : (n : Int) * k ≤ n * (-1) := Int.mul_le_mul_of_nonneg_left (by omega) (by omega)
      omega
    · exact h0
    · have : (n : Int) * 1 ≤ n * k := Int.mul_le_mul_of_nonneg_left (by omega) (by omega)
      omega
  subst this
  rcases hs with rfl | rfl <;> omega
end PO

set_option maxHeartbeats 4000000
namespace PO
/-- f goes along with the rim -/
def Shf (n : Int) (f : Int → Int) : Prop := ∀ i, f (i + n) = f i + n
theorem Shf.rnd {n : Int} {f : Int → Int} (p : Shf n f) : Rnd n fun i => f i - i := fun i => by show f (i + n) - (i + n) = f i - i; rw [p]; omega
theorem Shf.int {n : Int} {f : Int → Int} (p : Shf n f) (i k : Int) : f (i + n * k) = f i + n * k := by
  have h : f (i + n * k) - (i + n * k) = f i - i := rnd_int p.rnd i k
  omega
theorem Shf.gt {n : Int} {f : Int → Int} (p : Shf n f) (c : Int) : Rnd n fun i => ind (decide (f i > f (i + c))) := fun i => by
  show ind (decide (f (i + n) > f (i + n + c))) = _
  rw [p, show i + n + c = i + c + n by omega, p]
  congr 1
  exact decide_eq_decide.mpr (by omega)
structure Ord (n : Nat) (f g : Int → Int) : Prop where
  n0 : 0 < n
  fp : Shf n f
  fg : ∀ i, f (g i) = i
  gf : ∀ i, g (f i) = i
  lo : ∀ i, i ≤ f i
  hi : ∀ i, f i ≤ i + n
section
variable {n : Nat} {f g : Int → Int}
theorem Ord.gp (o : Ord n f g) : Shf n g := fun i => by
  have h := o.fp (g i)
  rw [o.fg] at h
  have := o.gf (g i + n)
  rw [h] at this
  exact this
theorem Ord.glo (o : Ord n f g) (i : Int) : g i ≤ i := by have := o.lo (g i); rw [o.fg] at this; exact this
theorem Ord.ghi (o : Ord n f g) (i : Int) : i ≤ g i + n := by have := o.hi (g i); rw [o.fg] at this; exact this
theorem Ord.inj (o : Ord n f g) {i j : Int} (h : f i = f j) : i = j := by rw [← o.gf i, h, o.gf]
theorem Ord.ginj (o : Ord n f g) {i j : Int} (h : g i = g j) : i = j := by rw [← o.fg i, h, o.fg]
theorem Ord.res (o : Ord n f g) : ∀ i j : Nat, i < n → j < n → rs n (f (i + 1)) = rs n (f (j + 1)) → i = j := fun i j hi hj h => by
  obtain ⟨k, hk⟩ := rs_cong (by have := o.n0; omega) h
  rw [← o.fp.int] at hk
  have e := o.inj hk
  have h0 := inj_step o.n0 1 1 (.inl rfl) i j hi hj (by
    rw [show (1 : Int) + 1 * (i : Int) = (j : Int) + 1 + n * k by omega, rs_add _ _ (by have := o.n0; omega)]
    congr 1; omega)
  exact h0
/-- the value of an order, turned back -/
def dualF (n : Nat) (g : Int → Int) : Int → Int := fun x => g x + n
def mirF (n : Nat) (g : Int → Int) : Int → Int := fun x => n + 1 - g (n + 1 - x)
def turF (b : Int) (f : Int → Int) : Int → Int := fun x => f (x - b) + b
theorem Ord.dual (o : Ord n f g) : Ord n (dualF n g) fun x => f (x - n) :=
  ⟨o.n0, fun i => by unfold dualF; rw [o.gp], fun i => by unfold dualF; rw [o.gf]; omega, fun i => by unfold dualF; rw [Int.add_sub_cancel, o.fg], fun i => by have := o.ghi i; unfold dualF; omega, fun i => by have := o.glo i; unfold dualF; omega⟩
theorem Ord.mir (o : Ord n f g) : Ord n (mirF n g) (mirF n f) :=
  ⟨o.n0, fun i => by
    have h := o.gp (n + 1 - (i + n))
    rw [show (n : Int) + 1 - (i + n) + n = n + 1 - i by omega] at h
    unfold mirF; omega, fun i => by unfold mirF; rw [show (n : Int) + 1 - (n + 1 - f (n + 1 - i)) = f (n + 1 - i) by omega, o.gf]; omega,
    fun i => by unfold mirF; rw [show (n : Int) + 1 - (n + 1 - g (n + 1 - i)) = g (n + 1 - i) by omega, o.fg]; omega,
    fun i => by have := o.glo (n + 1 - i); unfold mirF; omega, fun i => by have := o.ghi (n + 1 - i); unfold mirF; omega⟩
theorem Ord.tur (o : Ord n f g) (b : Int) : Ord n (turF b f) (turF b g) :=
  ⟨o.n0, fun i => by unfold turF; rw [show i + (n : Int) - b = i - b + n by omega, o.fp]; omega, fun i => by unfold turF; rw [Int.add_sub_cancel, o.fg]; omega, fun i => by unfold turF; rw [Int.add_sub_cancel, o.gf]; omega,
    fun i => by have := o.lo (i - b); unfold turF; omega, fun i => by have := o.hi (i - b); unfold turF; omega⟩
/-! ### the level -/
def lev (n : Nat) (f : Int → Int) : Nat := ((List.range n).filter fun k : Nat => decide (f ((k : Int) + 1) > n)).length
theorem lev_sum (o : Ord n f g) : sm n (fun k => f ((k : Int) + 1) - ((k : Int) + 1)) = n * (lev n f : Int) := by
  have n0 : (0 : Int) < n := by have := o.n0; omega
  have e1 : sm n (fun k => rs n (f ((k : Int) + 1))) = sm n fun k => (k : Int) + 1 := by
    have q := perm_sum (perm_rs o.n0 o.res)
    exact q
  have e2 : sm n (fun k => f ((k : Int) + 1) - ((k : Int) + 1)) = sm n fun k => n * ind (decide (f ((k : Int) + 1) > n)) := by
    have e3 : sm n (fun k => f ((k : Int) + 1) - ((k : Int) + 1)) = sm n (fun k => f ((k : Int) + 1)) + - sm n (fun k => (k : Int) + 1) := by
      rw [← sm_neg, ← sm_add]
      exact sm_congr fun i _ => by omega
    have e4 : sm n (fun k => f ((k : Int) + 1)) = sm n (fun k => rs n (f ((k : Int) + 1))) + sm n fun k => n * ind (decide (f ((k : Int) + 1) > n)) := by
      rw [← sm_add]
      refine sm_congr fun i hi => ?_
      have h1 := o.lo (i + 1)
      have h2 := o.hi (i + 1)
      by_cases h : f ((i : Int) + 1) > n
      · rw [decide_eq_true h, rs_of (k := 1) n0 (y := f ((i : Int) + 1) - n) (by omega) (by omega) (by omega)]
        simp [ind]
      · rw [decide_eq_false h, rs_small n0 (by omega) (by omega)]
        simp [ind]
    omega
  rw [e2, sm_mul]
  unfold lev
  rw [len_filter_sm]
theorem mul_inj {n : Nat} {a b : Int} (hn : 0 < n) (h : (n : Int) * a = n * b) : a = b := Int.eq_of_mul_eq_mul_left (by omega) h
theorem lev_dual (o : Ord n f g) : (lev n (dualF n g) : Int) = n - lev n f := by
  have h1 := lev_sum o.dual
  have h2 := lev_sum o
  have e : sm n (fun k => dualF n g ((k : Int) + 1) - ((k : Int) + 1)) = sm n (fun k => (g ((k : Int) + 1) - ((k : Int) + 1))) + n * n := by
    rw [← sm_const, ← sm_add]
    exact sm_congr fun i _ => by unfold dualF; omega
  have q : sm n (fun k => g (f ((k : Int) + 1)) - f ((k : Int) + 1)) = sm n (fun k => g ((k : Int) + 1) - ((k : Int) + 1)) := sm_rs o.n0 o.res o.gp.rnd
  have e2 : sm n (fun k => (g (f ((k : Int) + 1)) - f ((k : Int) + 1))) = - sm n fun k => f ((k : Int) + 1) - ((k : Int) + 1) := by
    rw [← sm_neg]
    exact sm_congr fun i _ => by rw [o.gf]; omega
  refine mul_inj o.n0 ?_
  rw [Int.mul_sub]
  omega
theorem lev_tur (o : Ord n f g) (b : Int) : lev n (turF b f) = lev n f := by
  have h1 := lev_sum (o.tur b)
  have h2 := lev_sum o
  have q : sm n (fun k => f (1 - b + 1 * (k : Int)) - (1 - b + 1 * (k : Int))) = sm n (fun k => f ((k : Int) + 1) - ((k : Int) + 1)) := sm_rs o.n0 (x := fun k => 1 - b + 1 * (k : Int)) (inj_step o.n0 (1 - b) 1 (.inl rfl)) o.fp.rnd
  have e : sm n (fun k => turF b f ((k : Int) + 1) - ((k : Int) + 1)) = sm n (fun k => (f (1 - b + 1 * (k : Int)) - (1 - b + 1 * (k : Int)))) := sm_congr fun i _ => by
    unfold turF
    rw [show (1 : Int) - b + 1 * (i : Int) = (i : Int) + 1 - b by omega]; omega
  have : (lev n (turF b f) : Int) = lev n f := mul_inj o.n0 (by omega)
  omega
theorem lev_mir (o : Ord n f g) : lev n (mirF n g) = lev n f := by
  have h1 := lev_sum o.mir
  have h2 := lev_sum o
  have h3 := lev_sum o.dual
  have h4 := lev_dual o
  have q : sm n (fun k => g ((n : Int) + -1 * (k : Int)) - ((n : Int) + -1 * (k : Int))) = sm n (fun k => g ((k : Int) + 1) - ((k : Int) + 1)) := sm_rs o.n0 (x := fun k => (n : Int) + -1 * (k : Int)) (inj_step o.n0 n (-1) (.inr rfl)) o.gp.rnd
  have e : sm n (fun k => mirF n g ((k : Int) + 1) - ((k : Int) + 1)) = - sm n (fun k => (g ((n : Int) + -1 * (k : Int)) - ((n : Int) + -1 * (k : Int)))) := by
    rw [← sm_neg]
    exact sm_congr fun i _ => by
      unfold mirF
      rw [show (n : Int) + -1 * (i : Int) = (n : Int) + 1 - ((i : Int) + 1) by omega]; omega
  have e2 : sm n (fun k => dualF n g ((k : Int) + 1) - ((k : Int) + 1)) = sm n (fun k => (g ((k : Int) + 1) - ((k : Int) + 1))) + n * n := by
    rw [← sm_const, ← sm_add]
    exact sm_congr fun i _ => by unfold dualF; omega
  have : (lev n (mirF n g) : Int) = lev n f := mul_inj o.n0 (by rw [h4, Int.mul_sub] at h3; omega)
  omega
/-! ### knots -/
def kn (n : Nat) (f : Int → Int) : Int := sm n fun k => sm (n - 1) fun d => ind (decide (f ((k : Int) + 1) > f ((k : Int) + 1 + (1 + d))))
theorem kn_swap (n : Nat) (f : Int → Int) : kn n f = sm (n - 1) fun d => sm n fun k => ind (decide (f ((k : Int) + 1) > f ((k : Int) + 1 + (1 + d)))) := sm_swap _ _ _
theorem kn_tur (o : Ord n f g) (b : Int) : kn n (turF b f) = kn n f := by
  rw [kn_swap, kn_swap]
  refine sm_congr fun d _ => ?_
  have q := sm_rs o.n0 (x := fun k => 1 - b + 1 * (k : Int)) (inj_step o.n0 (1 - b) 1 (.inl rfl)) (o.fp.gt (1 + d))
  refine Eq.trans (sm_congr fun i _ => ?_) q
  unfold turF
  congr 1
  rw [show (1 : Int) - b + 1 * (i : Int) = (i : Int) + 1 - b by omega, show (i : Int) + 1 + (1 + d) - b = (i : Int) + 1 - b + (1 + d) by omega]
  exact decide_eq_decide.mpr (by omega)
/-- looked at from the other end -/
theorem kn_back {n : Nat} {p : Int → Int} (hn : 0 < n) (sp : Shf n p) : (sm n fun k => sm (n - 1) fun d => ind (decide (p ((k : Int) + 1 - (1 + d)) > p ((k : Int) + 1)))) = kn n p := by
  rw [kn_swap, sm_swap]
  refine sm_congr fun d _ => ?_
  have q := sm_rs hn (x := fun k => -(d : Int) + 1 * (k : Int)) (inj_step hn (-d) 1 (.inl rfl)) (sp.gt (1 + d))
  refine Eq.trans (sm_congr fun i _ => ?_) q
  congr 1
  rw [show (i : Int) + 1 - (1 + d) = -(d : Int) + 1 * (i : Int) by omega, show -(d : Int) + 1 * (i : Int) + (1 + d) = (i : Int) + 1 by omega]
theorem kn_mir (o : Ord n f g) : kn n (mirF n g) = kn n g := by
  rw [← kn_back o.n0 o.gp]
  have hp : Rnd n fun y => sm (n - 1) fun d => ind (decide (g (y - (1 + d)) > g y)) := fun y => by
    refine sm_congr fun d _ => ?_
    rw [show y + (n : Int) - (1 + d) = y - (1 + d) + n by omega, o.gp, o.gp]
    congr 1
    exact decide_eq_decide.mpr (by omega)
  have q := sm_rs o.n0 (x := fun k => (n : Int) + -1 * (k : Int)) (inj_step o.n0 n (-1) (.inr rfl)) hp
  refine Eq.trans ?_ q
  refine sm_congr fun i _ => sm_congr fun d _ => ?_
  unfold mirF
  congr 1
  rw [show (n : Int) + -1 * (i : Int) = (n : Int) + 1 - ((i : Int) + 1) by omega, show (n : Int) + 1 - ((i : Int) + 1 + (1 + d)) = (n : Int) + 1 - ((i : Int) + 1) - (1 + d) by omega]
  exact decide_eq_decide.mpr (by omega)
theorem kn_inv (o : Ord n f g) : kn n g = kn n f := by
  rw [← kn_back o.n0 o.fp]
  have hp : Rnd n fun y => sm (n - 1) fun d => ind (decide (g y > g (y + (1 + d)))) := fun y => sm_congr fun d _ => (o.gp.gt (1 + d)) y
  have q := sm_rs o.n0 o.res hp
  refine Eq.trans q.symm ?_
  refine sm_congr fun i _ => ?_
  generalize hj : (i : Int) + 1 = j
  rw [o.gf]
  show ((List.range (n - 1)).map fun d : Nat => ind (decide (j > g (f j + (1 + d))))).sum = ((List.range (n - 1)).map fun d : Nat => ind (decide (f (j - (1 + d)) > f j))).sum
  rw [← len_filter fun d : Nat => decide (j > g (f j + (1 + d))), ← len_filter fun d : Nat => decide (f (j - (1 + d)) > f j)]
  have nd : ∀ (φ : Nat → Int) (p : Nat → Bool), (∀ a b, φ a = φ b → a = b) → (((List.range (n - 1)).filter p).map φ).Nodup := fun φ p hφ => by
    rw [List.nodup_iff_pairwise_ne, List.pairwise_map]
    exact List.Pairwise.imp (fun {a b} hab e => hab (hφ a b e)) (List.nodup_iff_pairwise_ne.mp (List.nodup_range.filter p))
  have le : ∀ {l m : List Int}, l.Nodup → (∀ x, x ∈ l → x ∈ m) → l.length ≤ m.length := fun {l m} h1 h2 => by
    rcases Nat.le_total m.length l.length with h | h
    · exact Nat.le_of_eq (perm_of_nodup h1 h2 h).length_eq
    · exact h
  have A := nd (fun d => g (f j + (1 + d))) (fun d => decide (j > g (f j + (1 + d)))) fun a b h => by have := o.ginj h; omega
  have B := nd (fun d => j - (1 + d)) (fun d => decide (f (j - (1 + d)) > f j)) fun a b h => by omega
  have AB := le A (m := ((List.range (n - 1)).filter fun d : Nat => decide (f (j - (1 + d)) > f j)).map fun d : Nat => j - (1 + (d : Int))) fun x hx => by
    obtain ⟨d, hd, rfl⟩ := List.mem_map.mp hx
    obtain ⟨h1, h2⟩ := List.mem_filter.mp hd
    have h1 := List.mem_range.mp h1
    have h2 := of_decide_eq_true h2
    have h3 := o.hi (g (f j + (1 + d)))
    have h4 := o.lo j
    rw [o.fg] at h3
    refine List.mem_map.mpr ⟨(j - 1 - g (f j + (1 + d))).toNat, List.mem_filter.mpr ⟨List.mem_range.mpr (by omega), decide_eq_true ?_⟩, by omega⟩
    rw [show j - (1 + (((j - 1 - g (f j + (1 + d))).toNat : Nat) : Int)) = g (f j + (1 + d)) by omega, o.fg]
    omega
  have BA := le B (m := ((List.range (n - 1)).filter fun d : Nat => decide (j > g (f j + (1 + d)))).map fun d : Nat => g (f j + (1 + (d : Int)))) fun x hx => by
    obtain ⟨d, hd, rfl⟩ := List.mem_map.mp hx
    obtain ⟨h1, h2⟩ := List.mem_filter.mp hd
    have h1 := List.mem_range.mp h1
    have h2 := of_decide_eq_true h2
    have h3 := o.hi (j - (1 + d))
    have h4 := o.lo j
    have e : f j + (1 + (((f (j - (1 + d)) - f j - 1).toNat : Nat) : Int)) = f (j - (1 + d)) := by omega
    refine List.mem_map.mpr ⟨(f (j - (1 + d)) - f j - 1).toNat, List.mem_filter.mpr ⟨List.mem_range.mpr (by omega), decide_eq_true ?_⟩, ?_⟩
    · rw [e, o.gf]; omega
    · rw [e, o.gf]
  simp only [List.length_map] at AB BA
  omega
end
end PO

set_option maxHeartbeats 4000000
namespace PM
open PySem L2
abbrev xc (e : Ex) (es : Exs) : Exs := .cons e es
abbrev xn : Exs := .nil
abbrev sc (s : Sm) (ss : Sms) : Sms := .cons s ss
abbrev sn : Sms := .nil
theorem wipe_get : ∀ (vs : List Nat) (env : Env) (j : Nat), (wipeE env vs)[j]? = if j ∈ vs then (env[j]?).map fun _ => Slot.no else env[j]?
  | [], env, j => by simp [wipeE]
  | i :: vs, env, j => by
    unfold wipeE
    rw [List.getElem?_set, wipe_len, wipe_get vs env j]
    by_cases h : i = j
    · subst h
      by_cases hl : i < env.length
      · simp [hl]
      · simp [hl]
    · simp only [h, if_false, List.mem_cons]
      have : ¬ j = i := fun e => h e.symm
      simp [this]
where
  wipe_len : ∀ {vs : List Nat} {env : Env}, (wipeE env vs).length = env.length
    | [], _ => rfl
    | _ :: vs, env => by unfold wipeE; rw [List.length_set, wipe_len]
theorem back_get : ∀ (vs : List Nat) (e0 env : Env) (j : Nat), (backE e0 env vs)[j]? = if j ∈ vs then (env[j]?).map fun _ => (e0[j]?).getD .no else env[j]?
  | [], _, env, j => by simp [backE]
  | i :: vs, e0, env, j => by
    unfold backE
    rw [List.getElem?_set, back_len, back_get vs e0 env j]
    by_cases h : i = j
    · subst h
      by_cases hl : i < env.length
      · simp [hl]
      · simp [hl]
    · simp only [h, if_false, List.mem_cons]
      have : ¬ j = i := fun e => h e.symm
      simp [this]
where
  back_len : ∀ {vs : List Nat} {e0 env : Env}, (backE e0 env vs).length = env.length
    | [], _, _ => rfl
    | _ :: vs, e0, env => by unfold backE; rw [List.length_set, back_len]
theorem back_wipe {env e : Env} {vs : List Nat} (h : wipeE e vs = wipeE env vs) : backE env e vs = env := by
  have hl : e.length = env.length := by
    have := congrArg List.length h
    rw [wipe_get.wipe_len, wipe_get.wipe_len] at this
    exact this
  apply List.ext_getElem?
  intro j
  rw [back_get]
  have q : (wipeE e vs)[j]? = (wipeE env vs)[j]? := by rw [h]
  rw [wipe_get, wipe_get] at q
  by_cases hj : j ∈ vs
  · rw [if_pos hj]
    by_cases hlt : j < env.length
    · rw [List.getElem?_eq_getElem hlt, List.getElem?_eq_getElem (show j < e.length by omega)]; rfl
    · rw [List.getElem?_eq_none (by omega), List.getElem?_eq_none (by omega)]; rfl
  · rw [if_neg hj, if_neg hj] at q
    rw [if_neg hj]; exact q
section
variable {C : CallT} {G : Glob} {α : Type}
theorem compL_ok {ft : Env → R Bool} {fe : Env → R W} {tg : Tg} {vs : List Nat} {env0 : Env} {tw : α → W} {p : α → Bool} {f : α → W} : ∀ {ls : List α} {acc : List W} {env : Env}, wipeE env vs = wipeE env0 vs → acc.length + ls.length < 1000000 →
    (∀ a, a ∈ ls → ∃ e1, bindT tg (tw a) (wipeE env0 vs) = some e1 ∧ wipeE e1 vs = wipeE env0 vs ∧ ft e1 = .ok (p a) e1 ∧ (p a = true → fe e1 = .ok (f a) e1)) →
    ∃ e', compL ft fe tg vs (ls.map tw) acc env = .ok (acc ++ (ls.filter p).map f) e' ∧ wipeE e' vs = wipeE env0 vs
  | [], acc, env, hw, _, _ => ⟨env, by simp [compL], hw⟩
  | a :: ls, acc, env, hw, hl, h => by
    obtain ⟨e1, h1, h2, h3, h4⟩ := h a List.mem_cons_self
    simp only [List.length_cons] at hl
    rw [List.map_cons]
    unfold compL
    rw [hw, h1]
    simp only [h3]
    cases hp : p a with
    | false =>
      obtain ⟨e', g1, g2⟩ := compL_ok (ls := ls) (acc := acc) (env := e1) h2 (by omega) fun b hb => h b (List.mem_cons_of_mem _ hb)
      exact ⟨e', by rw [List.filter_cons_of_neg (by simp [hp])]; exact g1, g2⟩
    | true =>
      simp only [h4 hp]
      rw [if_pos (by omega)]
      obtain ⟨e', g1, g2⟩ := compL_ok (ls := ls) (acc := acc ++ [f a]) (env := e1) h2 (by simp; omega) fun b hb => h b (List.mem_cons_of_mem _ hb)
      exact ⟨e', by rw [List.filter_cons_of_pos hp, List.map_cons, g1]; simp, g2⟩
theorem comp_ok {elt c : Ex} {tg : Tg} {it : Iz} {vs : List Nat} {env : Env} {ls : List α} {tw : α → W} {p : α → Bool} {f : α → W} (hI : evalI C G it env = .ok (ls.map tw) env) (hN : noOwn env vs = true) (hl : ls.length < 1000000)
    (h : ∀ a, a ∈ ls → ∃ e1, bindT tg (tw a) (wipeE env vs) = some e1 ∧ wipeE e1 vs = wipeE env vs ∧ (evalE C G c e1).bool = .ok (p a) e1 ∧ (p a = true → (evalE C G elt e1).val = .ok (f a) e1)) :
    evalF C G (.comp elt tg it c vs) env = .ok (.lst ((ls.filter p).map f)) env := by
  obtain ⟨e', h1, h2⟩ := compL_ok (ft := fun e => (evalE C G c e).bool) (fe := fun e => (evalE C G elt e).val) (ls := ls) (acc := []) (env := env) rfl (by simpa using hl) h
  rw [evalF, hI, R.bind_ok, if_pos hN, h1]
  show (R.ok _ (backE env e' vs) : R W) = _
  rw [back_wipe h2]
  rfl
theorem comp_map {elt : Ex} {tg : Tg} {it : Iz} {vs : List Nat} {env : Env} {ls : List α} {tw : α → W} {f : α → W} (hI : evalI C G it env = .ok (ls.map tw) env) (hN : noOwn env vs = true) (hl : ls.length < 1000000)
    (h : ∀ a, a ∈ ls → ∃ e1, bindT tg (tw a) (wipeE env vs) = some e1 ∧ wipeE e1 vs = wipeE env vs ∧ (evalE C G elt e1).val = .ok (f a) e1) :
    evalF C G (.comp elt tg it (.lit (.bl true)) vs) env = .ok (.lst (ls.map f)) env := by
  have q := comp_ok (C := C) (G := G) (elt := elt) (c := .lit (.bl true)) (p := fun _ => true) (f := f) hI hN hl fun a ha => by
    obtain ⟨e1, h1, h2, h3⟩ := h a ha
    exact ⟨e1, h1, h2, by rw [evalE]; rfl, fun _ => h3⟩
  rw [q]
  have : ls.filter (fun _ => true) = ls := List.filter_eq_self.mpr fun _ _ => rfl
  rw [this]
/-- two clauses: the places of a table -/
theorem compL2_ok {β : Type} {ft ft1 : Env → R Bool} {fi : Env → R (List W)} {fe : Env → R W} {tg tg1 : Tg} {vs vs1 : List Nat} {env0 : Env} {tw : α → W} {ms : α → List β} {uw : α → β → W} {f : α → β → W} : ∀ {ls : List α} {acc : List W} {env : Env}, wipeE env vs = wipeE env0 vs →
    acc.length + (ls.flatMap ms).length < 1000000 →
    (∀ a, a ∈ ls → ∃ e1, bindT tg (tw a) (wipeE env0 vs) = some e1 ∧ ft e1 = .ok true e1 ∧ fi e1 = .ok ((ms a).map (uw a)) e1 ∧ (∀ e, wipeE e vs1 = wipeE e1 vs1 → wipeE e vs = wipeE env0 vs) ∧
      ∀ b, b ∈ ms a → ∃ e2, bindT tg1 (uw a b) (wipeE e1 vs1) = some e2 ∧ wipeE e2 vs1 = wipeE e1 vs1 ∧ ft1 e2 = .ok true e2 ∧ fe e2 = .ok (f a b) e2) →
    ∃ e', compL2 ft fi ft1 fe tg tg1 vs vs1 (ls.map tw) acc env = .ok (acc ++ ls.flatMap fun a => (ms a).map (f a)) e' ∧ wipeE e' vs = wipeE env0 vs
  | [], acc, env, hw, _, _ => ⟨env, by simp [compL2], hw⟩
  | a :: ls, acc, env, hw, hl, h => by
    obtain ⟨e1, h1, h2, h3, h4, h5⟩ := h a List.mem_cons_self
    simp only [List.flatMap_cons, List.length_append] at hl
    rw [List.map_cons]
    unfold compL2
    rw [hw, h1]
    simp only [h2, h3]
    obtain ⟨e2, g1, g2⟩ := compL_ok (ft := ft1) (fe := fe) (tg := tg1) (vs := vs1) (env0 := e1) (tw := uw a) (p := fun _ => true) (f := f a) (ls := ms a) (acc := acc) (env := e1) rfl (by omega) fun b hb => by
      obtain ⟨e3, k1, k2, k3, k4⟩ := h5 b hb
      exact ⟨e3, k1, k2, k3, fun _ => k4⟩
    have ef : (ms a).filter (fun _ => true) = ms a := List.filter_eq_self.mpr fun _ _ => rfl
    rw [ef] at g1
    rw [g1]
    obtain ⟨e', k1, k2⟩ := compL2_ok (ls := ls) (acc := acc ++ (ms a).map (f a)) (env := e2) (h4 e2 g2) (by simp only [List.length_append, List.length_map]; omega) fun b hb => h b (List.mem_cons_of_mem _ hb)
    exact ⟨e', by simp only [k1, List.flatMap_cons, List.append_assoc], k2⟩
theorem comp2_ok {β : Type} {elt : Ex} {tg tg1 : Tg} {it it1 : Iz} {vs vs1 : List Nat} {env : Env} {ls : List α} {tw : α → W} {ms : α → List β} {uw : α → β → W} {f : α → β → W} (hI : evalI C G it env = .ok (ls.map tw) env) (hN : noOwn env vs = true) (hl : (ls.flatMap ms).length < 1000000)
    (h : ∀ a, a ∈ ls → ∃ e1, bindT tg (tw a) (wipeE env vs) = some e1 ∧ evalI C G it1 e1 = .ok ((ms a).map (uw a)) e1 ∧ (∀ e, wipeE e vs1 = wipeE e1 vs1 → wipeE e vs = wipeE env vs) ∧
      ∀ b, b ∈ ms a → ∃ e2, bindT tg1 (uw a b) (wipeE e1 vs1) = some e2 ∧ wipeE e2 vs1 = wipeE e1 vs1 ∧ (evalE C G elt e2).val = .ok (f a b) e2) :
    evalF C G (.comp2 elt tg it (.lit (.bl true)) tg1 it1 (.lit (.bl true)) vs vs1) env = .ok (.lst (ls.flatMap fun a => (ms a).map (f a))) env := by
  have tt : ∀ e, (evalE C G (.lit (.bl true)) e).bool = .ok true e := fun e => by rw [evalE]; rfl
  obtain ⟨e', h1, h2⟩ := compL2_ok (ft := fun e => (evalE C G (.lit (.bl true)) e).bool) (fi := fun e => evalI C G it1 e) (ft1 := fun e => (evalE C G (.lit (.bl true)) e).bool) (fe := fun e => (evalE C G elt e).val) (ls := ls) (acc := []) (env := env) rfl (by simpa using hl) fun a ha => by
    obtain ⟨e1, k1, k2, k3, k4⟩ := h a ha
    refine ⟨e1, k1, tt _, k2, k3, fun b hb => ?_⟩
    obtain ⟨e2, m1, m2, m3⟩ := k4 b hb
    exact ⟨e2, m1, m2, tt _, m3⟩
  rw [evalF, hI, R.bind_ok, if_pos hN, h1]
  show (R.ok _ (backE env e' vs) : R W) = _
  rw [back_wipe h2]
  rfl
end
end PM

set_option maxHeartbeats 4000000
namespace PM
open PySem L2
def Ev (C : CallT) (G : Glob) (env : Env) (e : Ex) (w : W) : Prop := evalE C G e env = .ok (.v w) env
def EvL (C : CallT) (G : Glob) (env : Env) (es : Exs) (ws : List W) : Prop := evalEs C G es env = .ok (ws.map .v) env
def EvF (C : CallT) (G : Glob) (env : Env) (f : Fr) (w : W) : Prop := evalF C G f env = .ok w env
def EvI (C : CallT) (G : Glob) (env : Env) (i : Iz) (ws : List W) : Prop := evalI C G i env = .ok ws env
/-- a call of values alone -/
def Ret (C : CallT) (c f : Str) (as : List W) (w : W) : Prop := ∃ fr, C c f (as.map .val) = .ok fr w []
theorem lents_v : ∀ ws : List W, lents (ws.map .v) = []
  | [] => rfl
  | _ :: ws => lents_v ws
theorem ars_v (env : Env) : ∀ ws : List W, ars env (ws.map .v) = some (ws.map .val)
  | [] => rfl
  | w :: ws => by rw [List.map_cons, ars, ars_v env ws]; rfl
theorem rds_v (env : Env) : ∀ ws : List W, rds env (ws.map .v) = some ws
  | [] => rfl
  | w :: ws => by rw [List.map_cons, rds, rds_v env ws]; rfl
theorem pvs_v : ∀ ws : List W, pvs (ws.map .v) = some ws
  | [] => rfl
  | w :: ws => by rw [List.map_cons, pvs, pvs_v ws]; rfl
section
variable {C : CallT} {G : Glob} {env : Env}
theorem callH_v {c f : Str} {as : List W} {fr : Bool} {w : W} (h : C c f (as.map .val) = .ok fr w []) : callH C c f (as.map .v) env = .ok (fr, w) env := by
  unfold callH
  rw [lents_v, ars_v]
  simp only [h]
  rfl
theorem ev_var {i : Nat} {w : W} (h : env[i]? = some (.val w)) : Ev C G env (.var i) w := by unfold Ev; rw [evalE, h]
theorem ev_lit {w : W} : Ev C G env (.lit w) w := by unfold Ev; rw [evalE]
theorem ev_glo {x : Str} {w : W} (h : G.cst x = some w) : Ev C G env (.glo x) w := by unfold Ev; rw [evalE, h]
theorem ev_bin {op : Operator} {a b : Ex} {u v w : W} (ha : Ev C G env a u) (hb : Ev C G env b v) (h : binW op u v = some w) : Ev C G env (.bin op a b) w := by
  unfold Ev at *
  rw [evalE, ha, R.bind_ok, hb, R.bind_ok]
  simp only [rd, h]; rfl
theorem ev_neg {a : Ex} {i : Int} (ha : Ev C G env a (.int i)) : Ev C G env (.neg a) (.int (-i)) := by
  unfold Ev at *
  rw [evalE, ha]; rfl
theorem ev_not {a : Ex} {b : Bool} (ha : Ev C G env a (.bl b)) : Ev C G env (.not a) (.bl (!b)) := by
  unfold Ev at *
  rw [evalE, ha]; rfl
theorem ev_cmp {op : CmpOp} {a b : Ex} {u v : W} {k : Bool} (ha : Ev C G env a u) (hb : Ev C G env b v) (ho : ownEq G op u v = none) (h : cmpW op u v = some k) : Ev C G env (.cmp op a b) (.bl k) := by
  unfold Ev at *
  rw [evalE, ha, R.bind_ok, hb, R.bind_ok]
  simp only [cmpH, rd, ho, h]; rfl
theorem ev_cmpO {op : CmpOp} {a b : Ex} {u v : W} {c : Str} {neg k : Bool} (ha : Ev C G env a u) (hb : Ev C G env b v) (ho : ownEq G op u v = some (c, neg)) (h : Ret C c "__eq__" [u, v] (.bl k)) : Ev C G env (.cmp op a b) (.bl (if neg = true then !k else k)) := by
  unfold Ev at *
  obtain ⟨fr, h⟩ := h
  rw [evalE, ha, R.bind_ok, hb, R.bind_ok]
  simp only [cmpH, rd, ho]
  have q := callH_v (env := env) (as := [u, v]) h
  simp only [List.map_cons, List.map_nil] at q
  rw [q]; rfl
theorem ev_cmp2t {o1 o2 : CmpOp} {a b c : Ex} {u v w : W} {k : Bool} (ha : Ev C G env a u) (hb : Ev C G env b v) (h1 : cmpW o1 u v = some true) (hc : Ev C G env c w) (h2 : cmpW o2 v w = some k) : Ev C G env (.cmp2 o1 o2 a b c) (.bl k) := by
  unfold Ev at *
  rw [evalE, ha, R.bind_ok, hb, R.bind_ok]
  simp only [rd, pv1, h1, hc, R.bind_ok, h2]; rfl
theorem ev_cmp2f {o1 o2 : CmpOp} {a b c : Ex} {u v : W} (ha : Ev C G env a u) (hb : Ev C G env b v) (h1 : cmpW o1 u v = some false) : Ev C G env (.cmp2 o1 o2 a b c) (.bl false) := by
  unfold Ev at *
  rw [evalE, ha, R.bind_ok, hb, R.bind_ok]
  simp only [rd, pv1, h1]
/-- both comparisons -/
theorem ev_cmp2 {o1 o2 : CmpOp} {a b c : Ex} {u v w : W} {k1 k2 : Bool} (ha : Ev C G env a u) (hb : Ev C G env b v) (h1 : cmpW o1 u v = some k1) (hc : Ev C G env c w) (h2 : cmpW o2 v w = some k2) : Ev C G env (.cmp2 o1 o2 a b c) (.bl (k1 && k2)) := by
  cases k1 with
  | true => exact ev_cmp2t ha hb h1 hc h2
  | false => exact ev_cmp2f ha hb h1
theorem ev_andf {a b : Ex} (ha : Ev C G env a (.bl false)) : Ev C G env (.and a b) (.bl false) := by
  unfold Ev at *
  rw [evalE, ha]; rfl
theorem ev_andt {a b : Ex} {k : Bool} (ha : Ev C G env a (.bl true)) (hb : Ev C G env b (.bl k)) : Ev C G env (.and a b) (.bl k) := by
  unfold Ev at *
  rw [evalE, ha]
  show ((evalE C G b env).bool.bind fun k2 e2 => R.ok (Hd.v (W.bl k2)) e2) = _
  rw [hb]; rfl
theorem ev_and {a b : Ex} {j k : Bool} (ha : Ev C G env a (.bl j)) (hb : j = true → Ev C G env b (.bl k)) : Ev C G env (.and a b) (.bl (j && k)) := by
  cases j with
  | true => exact ev_andt ha (hb rfl)
  | false => exact ev_andf ha
theorem ev_ort {a b : Ex} (ha : Ev C G env a (.bl true)) : Ev C G env (.or a b) (.bl true) := by
  unfold Ev at *
  rw [evalE, ha]; rfl
theorem ev_orf {a b : Ex} {k : Bool} (ha : Ev C G env a (.bl false)) (hb : Ev C G env b (.bl k)) : Ev C G env (.or a b) (.bl k) := by
  unfold Ev at *
  rw [evalE, ha]
  show ((evalE C G b env).bool.bind fun k2 e2 => R.ok (Hd.v (W.bl k2)) e2) = _
  rw [hb]; rfl
theorem ev_or {a b : Ex} {j k : Bool} (ha : Ev C G env a (.bl j)) (hb : j = false → Ev C G env b (.bl k)) : Ev C G env (.or a b) (.bl (j || k)) := by
  cases j with
  | true => exact ev_ort ha
  | false => exact ev_orf ha (hb rfl)
theorem ev_itet {c a b : Ex} {w : W} (hc : Ev C G env c (.bl true)) (ha : Ev C G env a w) : Ev C G env (.ite c a b) w := by
  unfold Ev at *
  rw [evalE, hc]
  show evalE C G a env = _
  rw [ha]
theorem ev_itef {c a b : Ex} {w : W} (hc : Ev C G env c (.bl false)) (hb : Ev C G env b w) : Ev C G env (.ite c a b) w := by
  unfold Ev at *
  rw [evalE, hc]
  show evalE C G b env = _
  rw [hb]
theorem ev_ite {c a b : Ex} {k : Bool} {u v : W} (hc : Ev C G env c (.bl k)) (ha : k = true → Ev C G env a u) (hb : k = false → Ev C G env b v) : Ev C G env (.ite c a b) (if k = true then u else v) := by
  cases k with
  | true => exact ev_itet hc (ha rfl)
  | false => exact ev_itef hc (hb rfl)
theorem evl_nil : EvL C G env .nil [] := by unfold EvL; rw [evalEs]; rfl
theorem evl_cons {e : Ex} {es : Exs} {w : W} {ws : List W} (h : Ev C G env e w) (hs : EvL C G env es ws) : EvL C G env (.cons e es) (w :: ws) := by
  unfold EvL Ev at *
  rw [evalEs, h, R.bind_ok, hs]; rfl
theorem ev_tup {es : Exs} {ws : List W} (h : EvL C G env es ws) : Ev C G env (.tup es) (.tup ws) := by
  unfold EvL Ev at *
  rw [evalE, h, R.bind_ok, pvs_v]
theorem ev_frz {f : Fr} {w : W} (h : EvF C G env f w) : Ev C G env (.frz f) w := by
  unfold EvF Ev at *
  rw [evalE, h]; rfl
theorem ev_sub {a i : Ex} {u v w : W} (ha : Ev C G env a u) (hi : Ev C G env i v) (h : subW u v = some w) : Ev C G env (.sub a i) w := by
  unfold Ev at *
  rw [evalE, ha, R.bind_ok, hi, R.bind_ok]
  simp only [rd, h]; rfl
theorem ev_fld {a : Ex} {f c : Str} {ns : List Str} {ws : List W} {u : W} (ha : Ev C G env a (.obj c ns ws)) (hf : fldW ns ws f = some u) (hk : fldK G c f = true) : Ev C G env (.att a f) u := by
  unfold Ev at *
  rw [evalE, ha, R.bind_ok]
  simp only [rd, hf]
  rw [if_pos hk]
theorem ev_prop {a : Ex} {f c : Str} {ns : List Str} {ws : List W} {u : W} (ha : Ev C G env a (.obj c ns ws)) (hf : fldW ns ws f = none) (hk : methK G c f = some .prop) (h : Ret C c f [.obj c ns ws] u) : Ev C G env (.att a f) u := by
  obtain ⟨fr, h⟩ := h
  have q := callH_v (env := env) (as := [.obj c ns ws]) h
  simp only [List.map_cons, List.map_nil] at q
  unfold Ev at *
  rw [evalE, ha, R.bind_ok]
  simp only [rd, hf]
  rw [if_pos hk, q]; rfl
theorem ev_call {f : Str} {es : Exs} {as : List W} {w : W} (he : EvL C G env es as) (h : Ret C "" f as w) : Ev C G env (.call f es) w := by
  obtain ⟨fr, h⟩ := h
  unfold Ev EvL at *
  rw [evalE, he, R.bind_ok, callH_v h]; rfl
theorem ev_meth {a : Ex} {m c : Str} {es : Exs} {ns : List Str} {ws as : List W} {w : W} (ha : Ev C G env a (.obj c ns ws)) (hk : methK G c m = some .meth) (hn : ns.contains m = false) (he : EvL C G env es as) (h : Ret C c m (.obj c ns ws :: as) w) : Ev C G env (.meth a m es) w := by
  obtain ⟨fr, h⟩ := h
  have q := callH_v (env := env) (as := .obj c ns ws :: as) h
  simp only [List.map_cons] at q
  unfold Ev EvL at *
  rw [evalE, ha, R.bind_ok]
  simp only [objH, rd]
  rw [if_pos ⟨hk, hn⟩, he, R.bind_ok, q]; rfl
theorem ev_bi {b : Bi} {es : Exs} {as : List W} {w : W} (he : EvL C G env es as) (h : biW G.isi b as = some w) : Ev C G env (.bi b es) w := by
  unfold Ev EvL at *
  rw [evalE, he, R.bind_ok, rds_v]
  simp only [h]; rfl
theorem ev_lenset {a : Ex} {u w : W} (ha : Ev C G env a u) (h : lensetW u = some w) : Ev C G env (.lenset a) w := by
  unfold Ev at *
  rw [evalE, ha, R.bind_ok]
  simp only [rd, h]; rfl
theorem evf_lst {es : Exs} {ws : List W} (h : EvL C G env es ws) : EvF C G env (.lst es) (.lst ws) := by
  unfold EvL EvF at *
  rw [evalF, h, R.bind_ok, pvs_v]
theorem evf_fb {b : Fb} {es : Exs} {ws : List W} {w : W} (h : EvL C G env es ws) (hb : fbW b ws = some w) : EvF C G env (.fb b es) w := by
  unfold EvL EvF at *
  rw [evalF, h, R.bind_ok, rds_v]
  simp only [hb]; rfl
theorem evf_lrng1 {a : Ex} {n : Int} {us : List W} (ha : Ev C G env a (.int n)) (h : rngW [.int n] = some us) : EvF C G env (.lrng1 a) (.lst us) := by
  unfold Ev EvF at *
  rw [evalF, ha, R.bind_ok]
  simp only [h]; rfl
theorem evf_lrng2 {a b : Ex} {m n : Int} {us : List W} (ha : Ev C G env a (.int m)) (hb : Ev C G env b (.int n)) (h : rngW [.int m, .int n] = some us) : EvF C G env (.lrng2 a b) (.lst us) := by
  unfold Ev EvF at *
  rw [evalF, ha, R.bind_ok, hb, R.bind_ok]
  simp only [h]; rfl
theorem evi_seq {e : Ex} {w : W} {ws : List W} (h : Ev C G env e w) (hi : itemsW w = some ws) : EvI C G env (.seq e) ws := by
  unfold Ev EvI at *
  rw [evalI, h, R.bind_ok]
  simp only [hi]; rfl
theorem evi_rng {es : Exs} {as ws : List W} (h : EvL C G env es as) (hi : rngW as = some ws) : EvI C G env (.rng es) ws := by
  unfold EvL EvI at *
  rw [evalI, h, R.bind_ok, pvs_v]
  simp only [hi]; rfl
theorem evi_enum {e s : Ex} {u v : W} {ws : List W} (h : Ev C G env e u) (hs : Ev C G env s v) (hi : enumP u v = some ws) : EvI C G env (.enum e s) ws := by
  unfold Ev EvI at *
  rw [evalI, h, R.bind_ok, hs, R.bind_ok]
  simp only [hi]; rfl
theorem evi_zip {a b : Ex} {u v : W} {ws : List W} (h : Ev C G env a u) (hs : Ev C G env b v) (hi : zipP u v = some ws) : EvI C G env (.zip a b) ws := by
  unfold Ev EvI at *
  rw [evalI, h, R.bind_ok, hs, R.bind_ok]
  simp only [hi]; rfl
theorem Ev.val {e : Ex} {w : W} (h : Ev C G env e w) : (evalE C G e env).val = .ok w env := by unfold Ev at h; rw [h]; rfl
theorem Ev.bool {e : Ex} {b : Bool} (h : Ev C G env e (.bl b)) : (evalE C G e env).bool = .ok b env := by unfold Ev at h; rw [h]; rfl
/-! comprehensions -/
theorem evf_comp {α : Type} {elt c : Ex} {tg : Tg} {it : Iz} {vs : List Nat} {ls : List α} {tw : α → W} {p : α → Bool} {f : α → W} {ws : List W} (hI : EvI C G env it ws) (hw : ws = ls.map tw) (hN : noOwn env vs = true) (hl : ls.length < 1000000)
    (h : ∀ a, a ∈ ls → ∃ e1, bindT tg (tw a) (wipeE env vs) = some e1 ∧ wipeE e1 vs = wipeE env vs ∧ Ev C G e1 c (.bl (p a)) ∧ (p a = true → Ev C G e1 elt (f a))) :
    EvF C G env (.comp elt tg it c vs) (.lst ((ls.filter p).map f)) := by
  subst hw
  exact comp_ok hI hN hl fun a ha => by
    obtain ⟨e1, h1, h2, h3, h4⟩ := h a ha
    exact ⟨e1, h1, h2, h3.bool, fun z => (h4 z).val⟩
theorem evf_map {α : Type} {elt : Ex} {tg : Tg} {it : Iz} {vs : List Nat} {ls : List α} {tw : α → W} {f : α → W} {ws : List W} (hI : EvI C G env it ws) (hw : ws = ls.map tw) (hN : noOwn env vs = true) (hl : ls.length < 1000000)
    (h : ∀ a, a ∈ ls → ∃ e1, bindT tg (tw a) (wipeE env vs) = some e1 ∧ wipeE e1 vs = wipeE env vs ∧ Ev C G e1 elt (f a)) :
    EvF C G env (.comp elt tg it (.lit (.bl true)) vs) (.lst (ls.map f)) := by
  subst hw
  exact comp_map hI hN hl fun a ha => by
    obtain ⟨e1, h1, h2, h3⟩ := h a ha
    exact ⟨e1, h1, h2, h3.val⟩
theorem evf_comp2 {α β : Type} {elt : Ex} {tg tg1 : Tg} {it it1 : Iz} {vs vs1 : List Nat} {ls : List α} {tw : α → W} {ms : α → List β} {uw : α → β → W} {f : α → β → W} {ws : List W} (hI : EvI C G env it ws) (hw : ws = ls.map tw) (hN : noOwn env vs = true) (hl : (ls.flatMap ms).length < 1000000)
    (h : ∀ a, a ∈ ls → ∃ e1, bindT tg (tw a) (wipeE env vs) = some e1 ∧ EvI C G e1 it1 ((ms a).map (uw a)) ∧ (∀ e, wipeE e vs1 = wipeE e1 vs1 → wipeE e vs = wipeE env vs) ∧
      ∀ b, b ∈ ms a → ∃ e2, bindT tg1 (uw a b) (wipeE e1 vs1) = some e2 ∧ wipeE e2 vs1 = wipeE e1 vs1 ∧ Ev C G e2 elt (f a b)) :
    EvF C G env (.comp2 elt tg it (.lit (.bl true)) tg1 it1 (.lit (.bl true)) vs vs1) (.lst (ls.flatMap fun a => (ms a).map (f a))) := by
  subst hw
  exact comp2_ok hI hN hl fun a ha => by
    obtain ⟨e1, h1, h2, h3, h4⟩ := h a ha
    exact ⟨e1, h1, h2, h3, fun b hb => let ⟨e2, g1, g2, g3⟩ := h4 b hb; ⟨e2, g1, g2, g3.val⟩⟩
/-! statements that end in a result -/
def Runs (C : CallT) (G : Glob) (env : Env) (ss : Sms) (w : W) : Prop := ∃ fr e, execSs C G ss env = .ok (.rt fr w) e
theorem rs_nx {s : Sm} {ss : Sms} {e1 : Env} {w : W} (h : execS C G s env = .ok .nx e1) (r : Runs C G e1 ss w) : Runs C G env (.cons s ss) w := by
  obtain ⟨fr, e, r⟩ := r
  exact ⟨fr, e, by rw [ss_nx h, r]⟩
theorem do_asg {i : Nat} {e : Ex} {w : W} (h : Ev C G env e w) (hi : i < env.length) : execS C G (.asg (.nm i) e) env = .ok .nx (env.set i (.val w)) := by
  rw [execS, h.val, R.bind_ok]
  simp only [bindT, if_pos hi]
theorem do_asgT {t : Tg} {e : Ex} {w : W} {e1 : Env} (h : Ev C G env e w) (hb : bindT t w env = some e1) : execS C G (.asg t e) env = .ok .nx e1 := by
  rw [execS, h.val, R.bind_ok]
  simp only [hb]
theorem do_asgO {i : Nat} {f : Fr} {w : W} (h : EvF C G env f w) (hi : i < env.length) : execS C G (.asgO i f) env = .ok .nx (env.set i (.own w)) := by
  rw [execS, h, R.bind_ok]
  unfold putO
  rw [if_pos hi]
theorem do_skip {c : Ex} {a : Sms} (h : Ev C G env c (.bl false)) : execS C G (.ifs c a .nil) env = .ok .nx env := by
  rw [execS, h.bool, R.bind_ok, if_neg (by decide), execSs]
theorem rs_asg {i : Nat} {e : Ex} {ss : Sms} {u w : W} (h : Ev C G env e u) (hi : i < env.length) (r : Runs C G (env.set i (.val u)) ss w) : Runs C G env (.cons (.asg (.nm i) e) ss) w := rs_nx (do_asg h hi) r
theorem rs_skip {c : Ex} {a ss : Sms} {w : W} (h : Ev C G env c (.bl false)) (r : Runs C G env ss w) : Runs C G env (.cons (.ifs c a .nil) ss) w := rs_nx (do_skip h) r
theorem rs_then {c : Ex} {a b ss : Sms} {w : W} (h : Ev C G env c (.bl true)) (r : Runs C G env a w) : Runs C G env (.cons (.ifs c a b) ss) w := by
  obtain ⟨fr, e, r⟩ := r
  exact ⟨fr, e, ss_rt (by rw [execS, h.bool, R.bind_ok, if_pos rfl, r])⟩
theorem rs_ret {e : Ex} {ss : Sms} {w : W} (h : Ev C G env e w) : Runs C G env (.cons (.ret e) ss) w := ⟨false, env, ss_rt (by rw [execS, h.val, R.bind_ok])⟩
theorem rs_retF {f : Fr} {ss : Sms} {w : W} (h : EvF C G env f w) : Runs C G env (.cons (.retF f) ss) w := ⟨true, env, ss_rt (by rw [execS, h, R.bind_ok])⟩
theorem rs_retC {f : Str} {es : Exs} {ss : Sms} {as : List W} {w : W} (he : EvL C G env es as) (h : Ret C "" f as w) : Runs C G env (.cons (.retC f es) ss) w := by
  obtain ⟨fr, h⟩ := h
  exact ⟨fr, env, ss_rt (by unfold EvL at he; rw [execS, he, R.bind_ok, callH_v h]; rfl)⟩
theorem lent_v (rb : List Nat) : ∀ (i : Nat) (ws : List W), lentOk rb i (ws.map .val) = true
  | _, [] => rfl
  | i, _ :: ws => lent_v rb (i + 1) ws
theorem start_v : ∀ ws : List W, startE (ws.map .val) = ws.map Slot.val
  | [] => rfl
  | w :: ws => by rw [List.map_cons, startE, start_v ws]; rfl
theorem backs_v : ∀ (ws : List W) (e : Env), backs (ws.map .val) e = some []
  | [], _ => rfl
  | _ :: ws, e => backs_v ws e.tail
theorem run_of {n ps : Nat} {rb : List Nat} {b : Sms} {as : List W} {w : W} (hp : as.length = ps) (r : Runs C G (as.map Slot.val ++ List.replicate (n - ps) .no) b w) : ∃ fr, runF C G ⟨n, ps, rb, b⟩ (as.map .val) = .ok fr w [] := by
  obtain ⟨fr, e, r⟩ := r
  refine ⟨fr, (runF_eq (env := as.map Slot.val ++ List.replicate (n - ps) .no) (by rw [List.length_map]; exact hp) (lent_v _ _ _) (by rw [start_v])).trans ?_⟩
  rw [r]
  simp only [endR, backs_v]
/-- an instance is made -/
theorem new_of {n ps : Nat} {rb : List Nat} {b : Sms} {c : Str} {as : List W} {o : W} {e : Env} (hp : as.length + 1 = ps) (hl : rb.contains 0 = false)
    (r : execSs C G b (.own (.obj c [] []) :: (as.map Slot.val ++ List.replicate (n - ps) .no)) = .ok .nx (.own o :: e)) : clsR (runF C G ⟨n, ps, rb, b⟩ (.own (.obj c [] []) :: as.map .val)) = .ok true o [] := by
  have q : runF C G ⟨n, ps, rb, b⟩ (.own (.obj c [] []) :: as.map .val) = .ok false .non [o] := by
    refine (runF_eq (env := .own (.obj c [] []) :: (as.map Slot.val ++ List.replicate (n - ps) .no)) (by simp [hp]) (by rw [lentOk, hl, lent_v]; rfl) (by rw [startE, start_v]; rfl)).trans ?_
    rw [r]
    simp only [endR, backs, backs_v]
  rw [q]; rfl
end
end PM

set_option maxHeartbeats 4000000
namespace PM
open PySem L2
theorem insP_prm (x : Int × Int) : ∀ l, (insP x l).Perm (x :: l)
  | [] => .refl _
  | y :: ys => by
    unfold insP
    split
    · exact .refl _
    · exact ((insP_prm x ys).cons y).trans (.swap x y ys)
theorem sortP_prm : ∀ l, (sortP l).Perm l
  | [] => .refl _
  | x :: xs => by
    unfold sortP
    exact (insP_prm x _).trans ((sortP_prm xs).cons x)
theorem leP_iff2 {p q : Int × Int} : leP p q = true ↔ p.1 < q.1 ∨ (p.1 = q.1 ∧ p.2 ≤ q.2) := by
  unfold leP; simp
theorem insP_sorted (x : Int × Int) : ∀ l, l.Pairwise (fun a b => leP a b = true) → (insP x l).Pairwise fun a b => leP a b = true
  | [], _ => by unfold insP; simp
  | y :: ys, h => by
    unfold insP
    rw [List.pairwise_cons] at h
    split
    · rename_i hxy
      refine List.pairwise_cons.mpr ⟨fun z hz => ?_, List.pairwise_cons.mpr h⟩
      rcases List.mem_cons.mp hz with rfl | hz
      · exact hxy
      · have h1 := leP_iff2.mp hxy
        have h2 := leP_iff2.mp (h.1 z hz)
        exact leP_iff2.mpr (by omega)
    · rename_i hxy
      refine List.pairwise_cons.mpr ⟨fun z hz => ?_, insP_sorted x ys h.2⟩
      rcases List.mem_cons.mp ((insP_prm x ys).mem_iff.mp hz) with rfl | hz
      · have h1 : ¬ (z.1 < y.1 ∨ (z.1 = y.1 ∧ z.2 ≤ y.2)) := fun w => hxy (leP_iff2.mpr w)
        exact leP_iff2.mpr (by omega)
      · exact h.1 z hz
theorem sortP_sorted : ∀ l, (sortP l).Pairwise fun a b => leP a b = true
  | [] => .nil
  | x :: xs => by unfold sortP; exact insP_sorted x _ (sortP_sorted xs)
theorem sortP_uniq {l m : List (Int × Int)} (h : l.Perm m) (hm : m.Pairwise fun a b => leP a b = true) : sortP l = m := by
  refine List.Perm.eq_of_pairwise (le := fun a b => leP a b = true) (fun a b _ _ h1 h2 => ?_) (sortP_sorted l) hm ((sortP_prm l).trans h)
  have h1 := leP_iff2.mp h1
  have h2 := leP_iff2.mp h2
  exact Prod.ext (by omega) (by omega)
theorem insInt_prm (x : Int) : ∀ l, (insInt x l).Perm (x :: l)
  | [] => .refl _
  | y :: ys => by
    unfold insInt
    split
    · exact .refl _
    · exact ((insInt_prm x ys).cons y).trans (.swap x y ys)
theorem sortInt_prm : ∀ l, (sortInt l).Perm l
  | [] => .refl _
  | x :: xs => by
    unfold sortInt
    exact (insInt_prm x _).trans ((sortInt_prm xs).cons x)
theorem insInt_sorted (x : Int) : ∀ l, l.Pairwise (fun a b : Int => a ≤ b) → (insInt x l).Pairwise fun a b : Int => a ≤ b
  | [], _ => by unfold insInt; simp
  | y :: ys, h => by
    unfold insInt
    rw [List.pairwise_cons] at h
    split
    · rename_i hxy
      refine List.pairwise_cons.mpr ⟨fun z hz => ?_, List.pairwise_cons.mpr h⟩
      rcases List.mem_cons.mp hz with rfl | hz
      · exact hxy
      · have := h.1 z hz; omega
    · rename_i hxy
      refine List.pairwise_cons.mpr ⟨fun z hz => ?_, insInt_sorted x ys h.2⟩
      rcases List.mem_cons.mp ((insInt_prm x ys).mem_iff.mp hz) with rfl | hz
      · omega
      · exact h.1 z hz
theorem sortInt_sorted : ∀ l, (sortInt l).Pairwise fun a b : Int => a ≤ b
  | [] => .nil
  | x :: xs => by unfold sortInt; exact insInt_sorted x _ (sortInt_sorted xs)
theorem sortInt_uniq {l m : List Int} (h : l.Perm m) (hm : m.Pairwise fun a b : Int => a ≤ b) : sortInt l = m :=
  List.Perm.eq_of_pairwise (le := fun a b : Int => a ≤ b) (fun a b _ _ h1 h2 => by omega) (sortInt_sorted l) hm ((sortInt_prm l).trans h)
/-! ### tables -/
theorem enumW_map (F : Nat → W) : ∀ (n : Nat) (s : Int) (m : Nat), enumW s ((List.range' m n).map F) = (List.range' m n).map fun k => .tup [.int (s + (k - m : Int)), F k]
  | 0, _, _ => rfl
  | n + 1, s, m => by
    rw [List.range'_succ, List.map_cons, List.map_cons, enumW, enumW_map F n (s + 1) (m + 1)]
    congr 1
    · congr 2; congr 1; omega
    · exact List.map_congr_left fun k hk => by congr 2; congr 1; push_cast; omega
theorem enumW_range (n : Nat) (F : Nat → W) : enumW 1 ((List.range n).map F) = (List.range n).map fun k => .tup [.int ((k : Int) + 1), F k] := by
  have h := enumW_map F n 1 0
  rw [← List.range_eq_range'] at h
  rw [h]
  exact List.map_congr_left fun k hk => by congr 2; congr 1; push_cast; omega
theorem enum_tup (n : Nat) (F : Nat → W) : enumP (.tup ((List.range n).map F)) (.int 1) = some ((List.range n).map fun k => .tup [.int ((k : Int) + 1), F k]) := by
  have h : enumP (.tup ((List.range n).map F)) (.int 1) = some (enumW 1 ((List.range n).map F)) := rfl
  rw [h, enumW_range]
theorem get_range {α : Type} {n i : Nat} (F : Nat → α) (h : i < n) : ((List.range n).map F)[i]? = some (F i) := by
  rw [List.getElem?_map, List.getElem?_range h]; rfl
theorem ixW_ok {n : Nat} {i : Int} (h0 : 0 ≤ i) (h1 : i < n) : ixW n i = some i.toNat := by
  unfold ixW
  rw [if_pos h0, if_pos h1]
theorem sub_tup {n : Nat} {i : Int} (F : Nat → W) (h0 : 0 ≤ i) (h1 : i < n) : subW (.tup ((List.range n).map F)) (.int i) = some (F i.toNat) := by
  show (match ixW ((List.range n).map F).length i with | some j => ((List.range n).map F)[j]? | none => none) = _
  rw [List.length_map, List.length_range, ixW_ok h0 h1]
  exact get_range F (by omega)
theorem sub_lst {n : Nat} {i : Int} (F : Nat → W) (h0 : 0 ≤ i) (h1 : i < n) : subW (.lst ((List.range n).map F)) (.int i) = some (F i.toNat) := by
  show (match ixW ((List.range n).map F).length i with | some j => ((List.range n).map F)[j]? | none => none) = _
  rw [List.length_map, List.length_range, ixW_ok h0 h1]
  exact get_range F (by omega)
theorem len_tup (isi : W → W → Option Bool) (n : Nat) (F : Nat → W) : biW isi .len [.tup ((List.range n).map F)] = some (.int n) := by
  have e : biW isi .len [.tup ((List.range n).map F)] = some (.int ((List.range n).map F).length) := rfl
  rw [e, List.length_map, List.length_range]
theorem len_lst (isi : W → W → Option Bool) (ws : List W) : biW isi .len [.lst ws] = some (.int ws.length) := rfl
theorem rng1_ok {n : Int} (h0 : 0 ≤ n) (h : n ≤ 1000000) : rngW [.int n] = some ((List.range n.toNat).map fun i => .int (i : Nat)) := if_pos ⟨by omega, h⟩
theorem rng1_nat {n : Nat} (h : n ≤ 1000000) : rngW [.int n] = some ((List.range n).map fun i => .int (i : Nat)) := by rw [rng1_ok (by omega) (by omega)]; rfl
theorem rng2_ok {a b : Int} {n : Nat} (e : b - a = n) (ha : -1000000 ≤ a) (ha' : a ≤ 1000000) (hb : -1000000 ≤ b) (hb' : b ≤ 1000000) : rngW [.int a, .int b] = some ((List.range n).map fun i => .int (a + (i : Nat))) := by
  have : (b - a).toNat = n := by omega
  show (if -1000000 ≤ a ∧ a ≤ 1000000 ∧ -1000000 ≤ b ∧ b ≤ 1000000 then some ((List.range (b - a).toNat).map fun i => W.int (a + (i : Nat))) else none) = _
  rw [if_pos ⟨ha, ha', hb, hb'⟩, this]
/-- places from 1 on -/
theorem rng_places {n : Nat} (h : n < 1000000) : rngW [.int 1, .int ((n : Int) + 1)] = some ((List.range n).map fun i : Nat => .int ((i : Int) + 1)) := by
  rw [rng2_ok (n := n) (by omega) (by omega) (by omega) (by omega) (by omega)]
  congr 1
  exact List.map_congr_left fun k _ => by congr 1; omega
theorem bools_map {α : Type} (p : α → Bool) : ∀ ls : List α, bools? (ls.map fun a => .bl (p a)) = some (ls.map p)
  | [] => rfl
  | a :: ls => by rw [List.map_cons, bools?, bools_map p ls]; rfl
theorem all_map {α : Type} (isi : W → W → Option Bool) (p : α → Bool) (ls : List α) : biW isi .all [.lst (ls.map fun a => .bl (p a))] = some (.bl (ls.all p)) := by
  show (match bools? (ls.map fun a => W.bl (p a)) with | some l => some (W.bl (l.all id)) | none => none) = _
  rw [bools_map]
  simp
theorem any_map {α : Type} (isi : W → W → Option Bool) (p : α → Bool) (ls : List α) : biW isi .any [.lst (ls.map fun a => .bl (p a))] = some (.bl (ls.any p)) := by
  show (match bools? (ls.map fun a => W.bl (p a)) with | some l => some (W.bl (l.any id)) | none => none) = _
  rw [bools_map]
  simp
theorem ints_map {α : Type} (f : α → Int) : ∀ ls : List α, ints? (ls.map fun a => .int (f a)) = some (ls.map f)
  | [] => rfl
  | a :: ls => by rw [List.map_cons, ints?, ints_map f ls]; rfl
theorem distinct_mk : ∀ {l : List Int}, l.Nodup → distinct l = true
  | [], _ => rfl
  | x :: xs, h => by
    rw [List.nodup_cons] at h
    unfold distinct
    rw [distinct_mk h.2, List.contains_eq_mem, decide_eq_false h.1]; rfl
theorem lenset_ok {α : Type} {f : α → Int} {ls : List α} (hn : (ls.map f).Nodup) (hl : ls.length ≤ 4000) : lensetW (.lst (ls.map fun a => .int (f a))) = some (.int ls.length) := by
  show (match ints? (ls.map fun a => W.int (f a)) with | some l => if l.length ≤ 4000 ∧ distinct l = true then some (W.int l.length) else none | none => none) = _
  rw [ints_map]
  simp only [List.length_map]
  rw [if_pos ⟨hl, distinct_mk hn⟩]
theorem pairs_map {α : Type} (f : α → Int × Int) : ∀ ls : List α, pairs? (ls.map fun a => pairW (f a)) = some (ls.map f)
  | [] => rfl
  | a :: ls => by
    rw [List.map_cons]
    unfold pairW
    rw [pairs?]
    have := pairs_map f ls
    unfold pairW at this
    rw [this]; rfl
theorem sortedP_ok {α : Type} {f : α → Int × Int} {ls : List α} {m : List (Int × Int)} (hp : (ls.map f).Perm m) (hm : m.Pairwise fun a b => leP a b = true) : sortedW [.lst (ls.map fun a => pairW (f a))] = some (.lst (m.map pairW)) := by
  cases ls with
  | nil =>
    have : m = [] := List.length_eq_zero_iff.mp (by simpa using hp.length_eq.symm)
    subst this; rfl
  | cons a ls =>
    have h1 : ints? ((a :: ls).map fun a => pairW (f a)) = none := rfl
    have h2 := pairs_map f (a :: ls)
    unfold sortedW
    simp only [lstW, h1, h2]
    rw [sortP_uniq hp hm]
theorem sortedI_ok {α : Type} {f : α → Int} {ls : List α} {m : List Int} (hp : (ls.map f).Perm m) (hm : m.Pairwise fun a b : Int => a ≤ b) : sortedW [.lst (ls.map fun a => .int (f a))] = some (.lst (m.map .int)) := by
  unfold sortedW
  simp only [lstW, ints_map]
  rw [sortInt_uniq hp hm]
theorem dOks_of {n : Nat} : ∀ {ws : List W}, (∀ w, w ∈ ws → dOk n w = true) → dOks n ws = true
  | [], _ => rfl
  | w :: ws, h => by
    unfold dOks
    rw [h w List.mem_cons_self, dOks_of fun u hu => h u (List.mem_cons_of_mem _ hu)]; rfl
theorem dOk_int (n : Nat) (i : Int) : dOk n (.int i) = true := by cases n <;> rfl
theorem dOk_tup {n : Nat} {ws : List W} (h : ∀ w, w ∈ ws → dOk n w = true) : dOk (n + 1) (.tup ws) = true := by
  show dOks n ws = true
  exact dOks_of h
theorem dOk_lst {n : Nat} {ws : List W} (h : ∀ w, w ∈ ws → dOk n w = true) : dOk (n + 1) (.lst ws) = true := by
  show dOks n ws = true
  exact dOks_of h
mutual
theorem eqB_self : ∀ {n : Nat} {w : W}, dOk n w = true → eqB w w = true
  | _, .non, _ => by simp [eqB]
  | _, .bl b, _ => by simp [eqB]
  | _, .int i, _ => by simp [eqB]
  | _, .str x, _ => by simp [eqB]
  | n + 1, .tup ws, h => by unfold eqB; exact eqBs_self (n := n) h
  | n + 1, .lst ws, h => by unfold eqB; exact eqBs_self (n := n) h
  | n + 1, .rol ws, h => by unfold eqB; exact eqBs_self (n := n) h
  | 0, .tup ws, h => by cases h
  | 0, .lst ws, h => by cases h
  | 0, .rol ws, h => by cases h
  | 0, .dic _ _, h => by cases h
  | 0, .set _, h => by cases h
  | 0, .obj _ _ _, h => by cases h
  | 0, .exn _ _ _, h => by cases h
  | 0, .ty _, h => by cases h
  | 0, .glo _, h => by cases h
  | _ + 1, .dic _ _, h => by cases h
  | _ + 1, .set _, h => by cases h
  | _ + 1, .obj _ _ _, h => by cases h
  | _ + 1, .exn _ _ _, h => by cases h
  | _ + 1, .ty _, h => by cases h
  | _ + 1, .glo _, h => by cases h
theorem eqBs_self : ∀ {n : Nat} {ws : List W}, dOks n ws = true → eqBs ws ws = true
  | _, [], _ => by simp [eqBs]
  | n, w :: ws, h => by
    unfold dOks at h
    rw [Bool.and_eq_true] at h
    unfold eqBs
    rw [eqB_self h.1, eqBs_self h.2]; rfl
end
/-- a thing and itself -/
theorem eq_same {w : W} (h : dOk 60 w = true) : eqW w w = some true := by
  unfold eqW
  rw [h, if_pos (by rfl), eqB_self h]
theorem cmp_eq_same {w : W} (h : dOk 60 w = true) : cmpW .Eq w w = some true := by
  have : cmpW .Eq w w = eqW w w := by cases w <;> first | rfl | (cases h)
  rw [this, eq_same h]
theorem cmp_ne_same {w : W} (h : dOk 60 w = true) : cmpW .NotEq w w = some false := by
  have : cmpW .NotEq w w = (eqW w w).map not := by cases w <;> first | rfl | (cases h)
  rw [this, eq_same h]; rfl
theorem dOk_tab (n m : Nat) (F : Nat → Int) : dOk (m + 1) (.tup ((List.range n).map fun k => .int (F k))) = true := dOk_tup fun w h => by
  obtain ⟨k, _, rfl⟩ := List.mem_map.mp h
  exact dOk_int _ _
theorem dOk_tabL (n m : Nat) (F : Nat → Int) : dOk (m + 1) (.lst ((List.range n).map fun k => .int (F k))) = true := dOk_lst fun w h => by
  obtain ⟨k, _, rfl⟩ := List.mem_map.mp h
  exact dOk_int _ _
end PM

set_option maxHeartbeats 4000000
namespace PO
open PM
/-! ### an order from its numbers -/
theorem ord_of {n : Nat} {v : Nat → Int} (n0 : 0 < n) (lo : ∀ k, k < n → (k : Int) + 1 ≤ v k) (hi : ∀ k, k < n → v k ≤ (k : Int) + 1 + n) (un : ∀ i j, i < n → j < n → rs n (v i) = rs n (v j) → i = j) :
    ∃ f g, Ord n f g ∧ ∀ k, k < n → f ((k : Int) + 1) = v k := by
  have n0' : (0 : Int) < n := by omega
  have kl : ∀ x : Int, (rs n x - 1).toNat < n := fun x => by have := rs_lo n0' x; have := rs_hi n0' x; omega
  have kc : ∀ x : Int, (((rs n x - 1).toNat : Nat) : Int) = rs n x - 1 := fun x => by have := rs_lo n0' x; omega
  have sh : ∀ x k : Int, rs n (x + n * k) = rs n x := fun x k => rs_add x k n0'
  let f : Int → Int := fun x => v (rs n x - 1).toNat + (x - rs n x)
  have fd : ∀ x, f x = v (rs n x - 1).toNat + (x - rs n x) := fun _ => rfl
  have fp : Shf n f := fun x => by
    have e := sh x 1
    rw [Int.mul_one] at e
    rw [fd, fd, e]; omega
  have fv : ∀ k, k < n → f ((k : Int) + 1) = v k := fun k hk => by
    have e : rs n ((k : Int) + 1) = (k : Int) + 1 := rs_small n0' (by omega) (by omega)
    rw [fd, e, show ((k : Int) + 1 - 1).toNat = k by omega]; omega
  have fe : ∀ x, ∃ q : Int, f x = v (rs n x - 1).toNat + n * q := fun x => ⟨(x - 1) / n, by have := rs_eq n x; rw [fd]; omega⟩
  have res : ∀ x, rs n (f x) = rs n (v (rs n x - 1).toNat) := fun x => by
    obtain ⟨q, e⟩ := fe x
    rw [e, sh]
  have inj : ∀ x y, f x = f y → x = y := fun x y e => by
    have h := congrArg (rs n) e
    rw [res, res] at h
    have h2 := un _ _ (kl x) (kl y) h
    have h3 : rs n x = rs n y := by have := kc x; have := kc y; omega
    have e1 := fd x
    have e2 := fd y
    rw [h2] at e1
    omega
  have sur : ∀ y, ∃ x, f x = y := fun y => by
    have hp := perm_rs n0 un
    have hm : rs n y ∈ (List.range n).map fun k : Nat => (k : Int) + 1 := List.mem_map.mpr ⟨(rs n y - 1).toNat, List.mem_range.mpr (kl y), by have := kc y; omega⟩
    obtain ⟨k, hk, hk2⟩ := List.mem_map.mp (hp.mem_iff.mpr hm)
    have hk := List.mem_range.mp hk
    obtain ⟨q, hq⟩ := rs_cong n0' hk2.symm
    exact ⟨(k : Int) + 1 + n * q, by rw [fp.int, fv k hk, hq]⟩
  refine ⟨f, fun y => Classical.choose (sur y), ⟨n0, fp, fun y => Classical.choose_spec (sur y), fun x => inj _ _ (Classical.choose_spec (sur (f x))), fun x => ?_, fun x => ?_⟩, fv⟩
  · have h1 := lo _ (kl x); have := kc x; rw [fd]; omega
  · have h1 := hi _ (kl x); have := kc x; rw [fd]; omega
/-! ### values -/
def nums (n : Nat) (f : Int → Int) : W := .tup ((List.range n).map fun k : Nat => .int (f ((k : Int) + 1)))
def ordW (n : Nat) (f : Int → Int) : W := .obj "Order" ["own_numbers"] [nums n f]
theorem nums_congr {n : Nat} {f h : Int → Int} (e : ∀ k : Nat, k < n → f ((k : Int) + 1) = h ((k : Int) + 1)) : nums n f = nums n h := by
  unfold nums
  congr 1
  exact List.map_congr_left fun k hk => by rw [e k (List.mem_range.mp hk)]
abbrev xa (e : Ex) : Exs := .cons e .nil
abbrev xb (a b : Ex) : Exs := .cons a (.cons b .nil)
abbrev eadd (a b : Ex) : Ex := .bin .Add a b
abbrev esub (a b : Ex) : Ex := .bin .Sub a b
abbrev tt : Ex := .lit (.bl true)
abbrev retFalse : Sms := .cons (.ret (.lit (.bl false))) .nil
/-! ### bodies -/
def B_rest_of : Sms := .cons (.ret (eadd (.bin .Mod (esub (.var 1) (li 1)) (.var 0)) (li 1))) .nil
def B_is_whole : Sms := .cons (.ret (.and (.bi .isin (xb (.var 0) (.lit (.ty "int")))) (.not (.bi .isin (xb (.var 0) (.lit (.ty "bool"))))))) .nil
def B_is_integer : Sms := .cons (.ret (.and (.call "is_whole" (xa (.var 0))) (.cmp2 .Lt .Lt (.neg (.glo "GREAT")) (.var 0) (.glo "GREAT")))) .nil
def B_are_numbers : Sms :=
  .cons (.ifs (.or (.not (.bi .isin (xb (.var 0) (.lit (.ty "tuple"))))) (.not (.cmp2 .LtE .LtE (li 1) (.bi .len (xa (.var 0))) (.glo "MOST")))) retFalse .nil)
  (.cons (.ifs (.not (.bi .all (xa (.frz (.comp (.call "is_integer" (xa (.var 2))) (.nm 2) (.seq (.var 0)) tt [2]))))) retFalse .nil)
  (.cons (.asg (.nm 1) (.bi .len (xa (.var 0))))
  (.cons (.ifs (.not (.bi .all (xa (.frz (.comp (.cmp2 .LtE .LtE (.var 3) (.var 2) (eadd (.var 3) (.var 1))) (.tp2 (.nm 3) (.nm 2)) (.enum (.var 0) (li 1)) tt [3, 2]))))) retFalse .nil)
  (.cons (.ret (.cmp .Eq (.lenset (.frz (.comp (.call "rest_of" (xb (.var 1) (.var 2))) (.nm 2) (.seq (.var 0)) tt [2]))) (.var 1))) .nil))))
def B_value_at : Sms := .cons (.asg (.nm 2) (.call "rest_of" (xb (.bi .len (xa (.var 0))) (.var 1)))) (.cons (.ret (esub (eadd (.sub (.var 0) (esub (.var 2) (li 1))) (.var 1)) (.var 2))) .nil)
def B_brought : Sms := .cons (.asg (.nm 2) (.frz (.fb .sorted (xa (.frz (.comp (.tup (xb (.call "rest_of" (xb (.var 0) (.var 3))) (eadd (esub (.var 4) (.var 3)) (.call "rest_of" (xb (.var 0) (.var 3)))))) (.tp2 (.nm 3) (.nm 4)) (.seq (.var 1)) tt [3, 4])))))) (.cons (.ret (.bi .tuple (xa (.frz (.comp (.var 4) (.tp2 (.nm 5) (.nm 4)) (.seq (.var 2)) tt [5, 4]))))) .nil)
def B_falling_in : Sms := .cons (.retF (.comp (.var 1) (.tp2 (.nm 1) (.nm 2)) (.enum (.var 0) (li 1)) (.cmp .Gt (.var 2) (.bi .len (xa (.var 0)))) [1, 2])) .nil
def B_knots_in : Sms := .cons (.asg (.nm 1) (.bi .len (xa (.var 0)))) (.cons (.asg (.nm 2) (.frz (.comp2 (.tup (xb (.var 3) (.var 4))) (.nm 3) (.rng (xb (li 1) (eadd (.var 1) (li 1)))) tt (.nm 4) (.rng (xb (eadd (.var 3) (li 1)) (eadd (.var 3) (.var 1)))) tt [3, 4] [4]))) (.cons (.retF (.comp (.tup (xb (.var 3) (.var 4))) (.tp2 (.nm 3) (.nm 4)) (.seq (.var 2)) (.cmp .Gt (.sub (.var 0) (esub (.var 3) (li 1))) (.call "value_at" (xb (.var 0) (.var 4)))) [3, 4])) .nil))
abbrev own : Ex := .att (.var 0) "own_numbers"
def B_init (ra : Sms) : Sms := .cons (.ifs (.not (.call "are_numbers" (xa (.var 1)))) ra .nil) (.cons (.setf 0 "own_numbers" (.var 1)) .nil)
def B_numbers : Sms := .cons (.ret own) .nil
def B_many : Sms := .cons (.ret (.bi .len (xa own))) .nil
def B_level : Sms := .cons (.ret (.bi .len (xa (.call "falling_in" (xa own))))) .nil
def B_knots : Sms := .cons (.ret (.bi .len (xa (.call "knots_in" (xa own))))) .nil
def B_size : Sms := .cons (.asg (.nm 1) (.bi .len (xa (.call "falling_in" (xa own))))) (.cons (.ret (esub (.bin .Mult (.var 1) (esub (.bi .len (xa own)) (.var 1))) (.bi .len (xa (.call "knots_in" (xa own)))))) .nil)
def B_ends : Sms := .cons (.ret (.bi .tuple (xa (.frz (.comp (.call "rest_of" (xb (.bi .len (xa own)) (.var 1))) (.nm 1) (.seq own) tt [1]))))) .nil
def B_marks : Sms := .cons (.asg (.nm 1) (.bi .len (xa own))) (.cons (.asg (.nm 2) (.frz (.comp (.tup (xb (.var 3) (.var 4))) (.tp2 (.nm 3) (.nm 4)) (.enum own (li 1)) (.cmp .In (.var 4) (.tup (xb (.var 3) (eadd (.var 3) (.var 1))))) [3, 4]))) (.cons (.retF (.dcomp (.var 3) (.ite (.cmp .Eq (.var 4) (.var 3)) (.lit (.str "black")) (.lit (.str "white"))) (.tp2 (.nm 3) (.nm 4)) (.seq (.var 2)) tt [3, 4])) .nil))
def B_dual : Sms := .cons (.asg (.nm 1) (.bi .len (xa own))) (.cons (.asg (.nm 2) (.frz (.comp (.tup (xb (.var 4) (eadd (.var 3) (.var 1)))) (.tp2 (.nm 3) (.nm 4)) (.enum own (li 1)) tt [3, 4]))) (.cons (.retC "Order" (xa (.call "brought" (xb (.var 1) (.var 2))))) .nil))
def B_mirrored : Sms := .cons (.asg (.nm 1) (.bi .len (xa own))) (.cons (.asg (.nm 2) (.frz (.comp (.tup (xb (esub (eadd (.var 1) (li 1)) (.var 4)) (esub (eadd (.var 1) (li 1)) (.var 3)))) (.tp2 (.nm 3) (.nm 4)) (.enum own (li 1)) tt [3, 4]))) (.cons (.retC "Order" (xa (.call "brought" (xb (.var 1) (.var 2))))) .nil))
def B_turned (ra : Sms) : Sms := .cons (.ifs (.not (.call "is_integer" (xa (.var 1)))) ra .nil) (.cons (.asg (.nm 2) (.frz (.comp (.tup (xb (eadd (.var 3) (.var 1)) (eadd (.var 4) (.var 1)))) (.tp2 (.nm 3) (.nm 4)) (.enum own (li 1)) tt [3, 4]))) (.cons (.retC "Order" (xa (.call "brought" (xb (.bi .len (xa own)) (.var 2))))) .nil))
def B_eq : Sms := .cons (.ret (.and (.bi .isin (xb (.var 1) (.lit (.glo "Order")))) (.cmp .Eq own (.att (.var 1) "own_numbers")))) .nil
section
variable {C : CallT} {G : Glob} {n : Nat} {f g : Int → Int}
def nos (k : Nat) : Env := List.replicate k .no
/-! ### words -/
theorem is_whole_ok (h1 : G.isi (.ty "int") (.ty "int") = some true) (h2 : G.isi (.ty "int") (.ty "bool") = some false) (i : Int) : Runs C G [.val (.int i)] B_is_whole (.bl true) :=
  rs_ret (ev_andt (ev_bi (evl_cons (ev_var rfl) (evl_cons ev_lit evl_nil)) (by simp [biW, isinW, tyW, h1])) (ev_not (b := false) (ev_bi (evl_cons (ev_var rfl) (evl_cons ev_lit evl_nil)) (by simp [biW, isinW, tyW, h2]))))
theorem is_integer_ok (hw : ∀ i, Ret C "" "is_whole" [.int i] (.bl true)) (hg : G.cst "GREAT" = some (.int (10 ^ 60))) (i : Int) : Runs C G [.val (.int i)] B_is_integer (.bl (decide (-10 ^ 60 < i) && decide (i < 10 ^ 60))) :=
  rs_ret (ev_andt (ev_call (evl_cons (ev_var rfl) evl_nil) (hw i)) (ev_cmp2 (ev_neg (ev_glo hg)) (ev_var rfl) (by simp [cmpW, ltB]) (ev_glo hg) (by simp [cmpW, ltB])))
theorem rest_of_ok (n x : Int) (hn : 0 < n) : Runs C G [.val (.int n), .val (.int x)] B_rest_of (.int (rs n x)) :=
  rs_ret (ev_bin (ev_bin (ev_bin (ev_var rfl) ev_lit rfl) (ev_var rfl) (by simp [binW, hn]; rfl)) ev_lit (by simp [binW, rs]))
def IsInt (C : CallT) : Prop := ∀ i, Ret C "" "is_integer" [.int i] (.bl (decide (-10 ^ 60 < i) && decide (i < 10 ^ 60)))
def RestOf (C : CallT) : Prop := ∀ n x : Int, 0 < n → Ret C "" "rest_of" [.int n, .int x] (.int (rs n x))
theorem are_ok (hi : IsInt C) (hr : RestOf C) (ht : G.isi (.ty "tuple") (.ty "tuple") = some true) (hm : G.cst "MOST" = some (.int 8)) (o : Ord n f g) (hn : n ≤ 8) : Runs C G (.val (nums n f) :: nos 3) B_are_numbers (.bl true) := by
  have n0 := o.n0
  have hv : ∀ k : Nat, k < n → f ((k : Int) + 1) ≤ (k : Int) + 1 + n ∧ (k : Int) + 1 ≤ f ((k : Int) + 1) := fun k hk => ⟨o.hi _, o.lo _⟩
  refine rs_skip (ev_orf (ev_not (b := true) (ev_bi (evl_cons (ev_var rfl) (evl_cons ev_lit evl_nil)) (by simp [biW, isinW, nums, tyW, ht]))) (ev_not (b := true) (ev_cmp2t ev_lit (ev_bi (evl_cons (ev_var rfl) evl_nil) (len_tup _ _ _)) (by simp [cmpW, ltB]; omega) (ev_glo hm) (by simp [cmpW, ltB]; omega)))) ?_
  refine rs_skip (ev_not (b := true) (ev_bi (evl_cons (ev_frz (evf_map (ls := List.range n) (tw := fun k => .int (f ((k : Int) + 1))) (f := fun _ => .bl true) (evi_seq (ev_var rfl) rfl) rfl rfl (by simp; omega) fun k hk => ⟨_, rfl, rfl, ?_⟩)) evl_nil) ?_)) ?_
  · have h1 := hv k (List.mem_range.mp hk)
    have h2 := List.mem_range.mp hk
    have q := hi (f ((k : Int) + 1))
    rw [decide_eq_true (show -10 ^ 60 < f ((k : Int) + 1) by omega), decide_eq_true (show f ((k : Int) + 1) < 10 ^ 60 by omega)] at q
    exact ev_call (evl_cons (ev_var rfl) evl_nil) q
  · rw [all_map]; simp
  refine rs_asg (ev_bi (evl_cons (ev_var rfl) evl_nil) (len_tup _ _ _)) (by simp [nos]) ?_
  refine rs_skip (ev_not (b := true) (ev_bi (evl_cons (ev_frz (evf_map (ls := List.range n) (tw := fun k => .tup [.int ((k : Int) + 1), .int (f ((k : Int) + 1))]) (f := fun _ => .bl true) (evi_enum (ev_var rfl) ev_lit (enum_tup _ _)) rfl rfl (by simp; omega) fun k hk => ⟨_, rfl, rfl, ?_⟩)) evl_nil) ?_)) ?_
  · have h1 := hv k (List.mem_range.mp hk)
    exact ev_cmp2t (ev_var rfl) (ev_var rfl) (by simp [cmpW, ltB]; omega) (ev_bin (ev_var rfl) (ev_var rfl) rfl) (by simp [cmpW, ltB]; omega)
  · rw [all_map]; simp
  refine rs_ret (ev_cmp (u := .int n) (v := .int n) (ev_lenset (ev_frz (evf_map (ls := List.range n) (tw := fun k => .int (f ((k : Int) + 1))) (f := fun k => .int (rs n (f ((k : Int) + 1)))) (evi_seq (ev_var rfl) rfl) rfl rfl (by simp; omega) fun k hk => ⟨_, rfl, rfl, ?_⟩)) ?_) (ev_var rfl) rfl (by simp [cmpW, eqW, dOk, eqB]))
  · exact ev_call (evl_cons (ev_var rfl) (evl_cons (ev_var rfl) evl_nil)) (hr _ _ (by omega))
  · rw [lenset_ok, List.length_range]
    · rw [List.nodup_iff_pairwise_ne, List.pairwise_map]
      exact List.Pairwise.imp_of_mem (R := fun a b => a ≠ b) (fun {a b} ha hb hab e => hab (o.res a b (List.mem_range.mp ha) (List.mem_range.mp hb) e)) (List.nodup_iff_pairwise_ne.mp List.nodup_range)
    · simp; omega
theorem value_at_ok (hr : RestOf C) (o : Ord n f g) (x : Int) : Runs C G [.val (nums n f), .val (.int x), .no] B_value_at (.int (f x)) := by
  have n0 : (0 : Int) < n := by have := o.n0; omega
  have h1 := rs_lo n0 x
  have h2 := rs_hi n0 x
  have e : f x = f (rs n x) + x - rs n x := by
    have q := o.fp.int (rs n x) ((x - 1) / n)
    have q2 := rs_eq n x
    rw [← q2] at q
    omega
  refine rs_asg (ev_call (evl_cons (ev_bi (evl_cons (ev_var rfl) evl_nil) (len_tup _ _ _)) (evl_cons (ev_var rfl) evl_nil)) (hr _ _ n0)) (by simp) ?_
  refine rs_ret (ev_bin (ev_bin (ev_sub (ev_var rfl) (ev_bin (ev_var rfl) ev_lit rfl) (sub_tup _ (i := rs n x - 1) (by omega) (by omega))) (ev_var rfl) rfl) (ev_var rfl) ?_)
  show some (W.int (f (((rs n x - 1).toNat : Nat) + 1) + x - rs n x)) = _
  rw [show (((rs n x - 1).toNat : Nat) : Int) + 1 = rs n x by omega, ← e]
theorem brought_ok (hr : RestOf C) {h : Int → Int} (n0 : 0 < n) (hn : n ≤ 1000) (hs : Shf n h) {p q : Nat → Int} (hq : ∀ k, k < n → h (p k) = q k) (un : ∀ i j, i < n → j < n → rs n (p i) = rs n (p j) → i = j) :
    Runs C G (.val (.int n) :: .val (.lst ((List.range n).map fun k => .tup [.int (p k), .int (q k)])) :: nos 4) B_brought (nums n h) := by
  have n0' : (0 : Int) < n := by omega
  refine rs_asg (u := .lst (((List.range n).map fun k : Nat => ((k : Int) + 1, h ((k : Int) + 1))).map pairW)) (ev_frz (evf_fb (evl_cons (ev_frz (evf_map (ls := List.range n) (tw := fun k => .tup [.int (p k), .int (q k)]) (f := fun k => pairW (rs n (p k), q k - p k + rs n (p k))) (evi_seq (ev_var rfl) rfl) rfl rfl (by simp; omega) fun k hk => ⟨_, rfl, rfl, ?_⟩)) evl_nil) ?_)) (by simp [nos]) ?_
  · exact ev_tup (evl_cons (ev_call (evl_cons (ev_var rfl) (evl_cons (ev_var rfl) evl_nil)) (hr _ _ n0')) (evl_cons (ev_bin (ev_bin (ev_var rfl) (ev_var rfl) rfl) (ev_call (evl_cons (ev_var rfl) (evl_cons (ev_var rfl) evl_nil)) (hr _ _ n0')) rfl) evl_nil))
  · refine sortedP_ok (f := fun k => (rs n (p k), q k - p k + rs n (p k))) ?_ ?_
    · have e : ((List.range n).map fun k => (rs n (p k), q k - p k + rs n (p k))) = ((List.range n).map fun k => rs n (p k)).map fun y => (y, h y) := by
        rw [List.map_map]
        refine List.map_congr_left fun k hk => ?_
        have hk := List.mem_range.mp hk
        have e1 := hs.int (rs n (p k)) ((p k - 1) / n)
        have e2 := rs_eq n (p k)
        rw [← e2, hq k hk] at e1
        exact Prod.ext rfl (by show _ = h (rs n (p k)); omega)
      rw [e]
      have e3 : ((List.range n).map fun k : Nat => ((k : Int) + 1, h ((k : Int) + 1))) = ((List.range n).map fun k : Nat => (k : Int) + 1).map fun y => (y, h y) := by rw [List.map_map]; rfl
      rw [e3]
      exact (perm_rs n0 un).map _
    · rw [List.pairwise_map]
      exact List.Pairwise.imp (fun {a b} hab => leP_iff2.mpr (.inl (by show (a : Int) + 1 < (b : Int) + 1; omega))) List.pairwise_lt_range
  · refine rs_ret (ev_bi (w := nums n h) (evl_cons (ev_frz (evf_map (ls := List.range n) (tw := fun k => pairW ((k : Int) + 1, h ((k : Int) + 1))) (f := fun k : Nat => .int (h ((k : Int) + 1))) (evi_seq (ws := ((List.range n).map fun k : Nat => ((k : Int) + 1, h ((k : Int) + 1))).map pairW) (ev_var rfl) rfl) (by rw [List.map_map]; rfl) rfl (by simp; omega) fun k hk => ⟨_, rfl, rfl, ev_var rfl⟩)) evl_nil) rfl)
end
end PO

set_option maxHeartbeats 4000000
namespace PO
open PM
section
variable {C : CallT} {G : Glob} {n : Nat} {f g : Int → Int}
theorem gt_int (a b : Int) : cmpW .Gt (.int a) (.int b) = some (decide (a > b)) := rfl
theorem falling_ok (n0 : 0 < n) (hn : n ≤ 1000) (f : Int → Int) : Runs C G [.val (nums n f), .no, .no] B_falling_in (.lst (((List.range n).filter fun k : Nat => decide (f ((k : Int) + 1) > n)).map fun k : Nat => .int ((k : Int) + 1))) :=
  rs_retF (evf_comp (ls := List.range n) (tw := fun k => .tup [.int ((k : Int) + 1), .int (f ((k : Int) + 1))]) (p := fun k : Nat => decide (f ((k : Int) + 1) > n)) (f := fun k : Nat => .int ((k : Int) + 1)) (evi_enum (ev_var rfl) ev_lit (enum_tup _ _)) rfl rfl (by simp; omega)
    fun k hk => ⟨_, rfl, rfl, ev_cmp (ev_var rfl) (ev_bi (evl_cons (ev_var rfl) evl_nil) (len_tup _ _ _)) rfl (gt_int _ _), fun _ => ev_var rfl⟩)
def pairL (n : Nat) : List (Int × Int) := (List.range n).flatMap fun k : Nat => (List.range (n - 1)).map fun d : Nat => ((k : Int) + 1, (k : Int) + 1 + (1 + d))
theorem len_flat {α β : Type} (m : α → List β) (N : Nat) (h : ∀ a, (m a).length = N) : ∀ ls : List α, (ls.flatMap m).length = ls.length * N
  | [] => by simp
  | a :: ls => by rw [List.flatMap_cons, List.length_append, h, len_flat m N h ls, List.length_cons, Nat.add_mul]; omega
theorem len_pairs (n : Nat) : (pairL n).length = n * (n - 1) := by
  unfold pairL
  rw [len_flat _ (n - 1) (by simp), List.length_range]
def ValAt (C : CallT) (n : Nat) (f : Int → Int) : Prop := ∀ x : Int, Ret C "" "value_at" [nums n f, .int x] (.int (f x))
theorem knots_ok (hv : ValAt C n f) (n0 : 0 < n) (hn : n ≤ 100) : Runs C G (.val (nums n f) :: nos 4) B_knots_in (.lst (((pairL n).filter fun p => decide (f p.1 > f p.2)).map pairW)) := by
  have hsz : (pairL n).length < 1000000 := by
    rw [len_pairs]
    have : n * (n - 1) ≤ 100 * 100 := Nat.mul_le_mul hn (by omega)
    omega
  refine rs_asg (ev_bi (evl_cons (ev_var rfl) evl_nil) (len_tup _ _ _)) (by simp [nos]) ?_
  refine rs_asg (u := .lst ((pairL n).map pairW)) (ev_frz ?_) (by simp [nos]) ?_
  · have q := evf_comp2 (C := C) (G := G) (env := [.val (nums n f), .val (.int n), .no, .no, .no]) (elt := .tup (xb (.var 3) (.var 4))) (tg := .nm 3) (it := .rng (xb (li 1) (eadd (.var 1) (li 1)))) (tg1 := .nm 4) (it1 := .rng (xb (eadd (.var 3) (li 1)) (eadd (.var 3) (.var 1)))) (vs := [3, 4]) (vs1 := [4])
      (ls := List.range n) (tw := fun k : Nat => .int ((k : Int) + 1)) (ms := fun _ => List.range (n - 1)) (uw := fun k d : Nat => .int ((k : Int) + 1 + (1 + d))) (f := fun k d : Nat => pairW ((k : Int) + 1, (k : Int) + 1 + (1 + d)))
      (evi_rng (evl_cons ev_lit (evl_cons (ev_bin (ev_var rfl) ev_lit rfl) evl_nil)) (rng_places (by omega))) rfl rfl (by have := hsz; unfold pairL at this; simpa [List.length_flatMap] using this) (fun k hk => ?_)
    · have e : (pairL n).map pairW = (List.range n).flatMap fun a : Nat => (List.range (n - 1)).map fun d : Nat => pairW ((a : Int) + 1, (a : Int) + 1 + (1 + d)) := by
        unfold pairL
        rw [List.map_flatMap]
        simp only [List.map_map]
        rfl
      rw [e]; exact q
    · have hk := List.mem_range.mp hk
      refine ⟨_, rfl, evi_rng (as := [.int ((k : Int) + 1 + 1), .int ((k : Int) + 1 + n)]) (evl_cons (ev_bin (ev_var rfl) ev_lit rfl) (evl_cons (ev_bin (ev_var rfl) (ev_var rfl) rfl) evl_nil)) ?_, ?_, fun d hd => ⟨_, rfl, rfl, ev_tup (evl_cons (ev_var rfl) (evl_cons (ev_var rfl) evl_nil))⟩⟩
      · rw [rng2_ok (n := n - 1) (by omega) (by omega) (by omega) (by omega) (by omega)]
        congr 1
        exact List.map_congr_left fun d _ => by congr 1; omega
      · intro e he
        match e, he with
        | [a, b, c, d, x], he =>
          have h1 := he
          simp [wipeE] at h1
          obtain ⟨rfl, rfl, rfl, rfl⟩ := h1
          rfl
  · refine rs_retF (evf_comp (ls := pairL n) (tw := pairW) (p := fun p => decide (f p.1 > f p.2)) (f := pairW) (evi_seq (ev_var rfl) rfl) rfl rfl hsz fun p hp => ⟨_, rfl, rfl, ev_cmp (ev_sub (ev_var rfl) (ev_bin (ev_var rfl) ev_lit rfl) (sub_tup _ (i := p.1 - 1) ?_ ?_)) (ev_call (evl_cons (ev_var rfl) (evl_cons (ev_var rfl) evl_nil)) (hv p.2)) rfl ?_, fun _ => ev_tup (evl_cons (ev_var rfl) (evl_cons (ev_var rfl) evl_nil))⟩)
    all_goals
      obtain ⟨k, hk, hp⟩ := List.mem_flatMap.mp hp
      obtain ⟨d, hd, rfl⟩ := List.mem_map.mp hp
      have hk := List.mem_range.mp hk
    · show (0 : Int) ≤ (k : Int) + 1 - 1; omega
    · show (k : Int) + 1 - 1 < n; omega
    · show some (decide (f ((((k : Int) + 1 - 1).toNat : Nat) + 1) > _)) = _
      rw [show ((((k : Int) + 1 - 1).toNat : Nat) : Int) + 1 = (k : Int) + 1 by omega]
theorem kn_len (n : Nat) (f : Int → Int) : ((((pairL n).filter fun p => decide (f p.1 > f p.2)).length : Nat) : Int) = kn n f := by
  have key : ∀ ks : List Nat, (((((ks.flatMap fun k : Nat => (List.range (n - 1)).map fun d : Nat => ((k : Int) + 1, (k : Int) + 1 + (1 + (d : Int)))).filter fun p : Int × Int => decide (f p.1 > f p.2)).length : Nat) : Int)) = (ks.map fun k : Nat => sm (n - 1) fun d => ind (decide (f ((k : Int) + 1) > f ((k : Int) + 1 + (1 + d))))).sum := by
    intro ks
    induction ks with
    | nil => rfl
    | cons k ks ih =>
      rw [List.flatMap_cons, List.filter_append, List.length_append, List.map_cons, List.sum_cons, ← ih, List.filter_map, List.length_map]
      rw [← len_filter_sm]
      push_cast
      rfl
  exact key (List.range n)
/-! ### the class -/
def isOrd (G : Glob) : Prop := fldK G "Order" "own_numbers" = true
theorem own_ev (hf : isOrd G) (r : Env) : Ev C G (.val (ordW n f) :: r) own (nums n f) := ev_fld (ev_var rfl) rfl hf
def AreNums (C : CallT) (n : Nat) (f : Int → Int) : Prop := Ret C "" "are_numbers" [nums n f] (.bl true)
theorem init_ok {d : ClsD} (ha : AreNums C n f) (hc : G.cls "Order" = some d) (hd : d.flds.contains "own_numbers" = true) (ra : Sms) : execSs C G (B_init ra) [.own (.obj "Order" [] []), .val (nums n f)] = .ok .nx [.own (ordW n f), .val (nums n f)] := by
  unfold B_init
  rw [ss_nx (do_skip (ev_not (b := true) (ev_call (evl_cons (ev_var rfl) evl_nil) ha))), execSs]
  have q : execS C G (.setf 0 "own_numbers" (.var 1)) [.own (.obj "Order" [] []), .val (nums n f)] = .ok .nx [.own (ordW n f), .val (nums n f)] := by
    rw [execS, (ev_var (C := C) (G := G) (env := [.own (.obj "Order" [] []), .val (nums n f)]) (i := 1) (w := nums n f) rfl).val, R.bind_ok]
    simp only [List.getElem?_cons_zero, hc]
    rw [if_pos ⟨hd, by decide⟩]
    rfl
  rw [q, R.bind_ok, execSs]
theorem numbers_ok (hf : isOrd G) : Runs C G [.val (ordW n f)] B_numbers (nums n f) := rs_ret (own_ev hf _)
theorem many_ok (hf : isOrd G) : Runs C G [.val (ordW n f)] B_many (.int n) := rs_ret (ev_bi (evl_cons (own_ev hf _) evl_nil) (len_tup _ _ _))
def FallIn (C : CallT) (n : Nat) (f : Int → Int) : Prop := Ret C "" "falling_in" [nums n f] (.lst (((List.range n).filter fun k : Nat => decide (f ((k : Int) + 1) > n)).map fun k : Nat => .int ((k : Int) + 1)))
def KnotsIn (C : CallT) (n : Nat) (f : Int → Int) : Prop := Ret C "" "knots_in" [nums n f] (.lst (((pairL n).filter fun p => decide (f p.1 > f p.2)).map pairW))
theorem level_ev (hl : FallIn C n f) (hf : isOrd G) (r : Env) : Ev C G (.val (ordW n f) :: r) (.bi .len (xa (.call "falling_in" (xa own)))) (.int (lev n f)) := ev_bi (evl_cons (ev_call (evl_cons (own_ev hf _) evl_nil) hl) evl_nil) (by rw [len_lst, List.length_map]; rfl)
theorem knots_ev (hl : KnotsIn C n f) (hf : isOrd G) (r : Env) : Ev C G (.val (ordW n f) :: r) (.bi .len (xa (.call "knots_in" (xa own)))) (.int (kn n f)) := ev_bi (evl_cons (ev_call (evl_cons (own_ev hf _) evl_nil) hl) evl_nil) (by rw [len_lst, List.length_map, kn_len])
theorem level_ok (hl : FallIn C n f) (hf : isOrd G) : Runs C G [.val (ordW n f)] B_level (.int (lev n f)) := rs_ret (level_ev hl hf _)
theorem knotsP_ok (hl : KnotsIn C n f) (hf : isOrd G) : Runs C G [.val (ordW n f)] B_knots (.int (kn n f)) := rs_ret (knots_ev hl hf _)
def sz (n : Nat) (f : Int → Int) : Int := lev n f * (n - lev n f) - kn n f
theorem lev_le (n : Nat) (f : Int → Int) : lev n f ≤ n := by
  unfold lev
  exact Nat.le_trans (List.length_filter_le _ _) (by simp)
theorem size_ok (hl : FallIn C n f) (hk : KnotsIn C n f) (hf : isOrd G) (hn : n ≤ 1000) : Runs C G [.val (ordW n f), .no] B_size (.int (sz n f)) := by
  have h1 := lev_le n f
  have p : (1000 : Int) < 2 ^ 200 := by decide +kernel
  have b1 : ((lev n f : Nat) : Int).natAbs < big := big_nn (by omega) (by omega)
  have b2 : ((n : Int) - (lev n f : Nat)).natAbs < big := big_nn (by omega) (by omega)
  refine rs_asg (level_ev hl hf _) (by simp) ?_
  exact rs_ret (ev_bin (ev_bin (ev_var rfl) (ev_bin (ev_bi (evl_cons (own_ev hf _) evl_nil) (len_tup _ _ _)) (ev_var rfl) rfl) (mulI_ok b1 b2)) (knots_ev hk hf _) rfl)
def endsW (n : Nat) (f : Int → Int) : W := .tup ((List.range n).map fun k : Nat => .int (rs n (f ((k : Int) + 1))))
theorem ends_ok (hr : RestOf C) (hf : isOrd G) (n0 : 0 < n) (hn : n ≤ 1000) : Runs C G [.val (ordW n f), .no] B_ends (endsW n f) :=
  rs_ret (ev_bi (evl_cons (ev_frz (evf_map (ls := List.range n) (tw := fun k : Nat => .int (f ((k : Int) + 1))) (f := fun k : Nat => .int (rs n (f ((k : Int) + 1)))) (evi_seq (own_ev hf _) rfl) rfl rfl (by simp; omega) fun k hk => ⟨_, rfl, rfl, ev_call (evl_cons (ev_bi (evl_cons (own_ev hf _) evl_nil) (len_tup _ _ _)) (evl_cons (ev_var rfl) evl_nil)) (hr _ _ (by omega))⟩)) evl_nil) rfl)
def Brought (C : CallT) (n : Nat) (h : Int → Int) (p q : Nat → Int) : Prop := Ret C "" "brought" [.int n, .lst ((List.range n).map fun k => .tup [.int (p k), .int (q k)])] (nums n h)
def Made (C : CallT) (n : Nat) (h : Int → Int) : Prop := Ret C "" "Order" [nums n h] (ordW n h)
theorem dual_ok (hf : isOrd G) (hn : n ≤ 1000) {h : Int → Int} (hb : Brought C n h (fun k => f ((k : Int) + 1)) (fun k => (k : Int) + 1 + n)) (hm : Made C n h) : Runs C G (.val (ordW n f) :: nos 4) B_dual (ordW n h) := by
  refine rs_asg (ev_bi (evl_cons (own_ev hf _) evl_nil) (len_tup _ _ _)) (by simp [nos]) ?_
  refine rs_asg (ev_frz (evf_map (ls := List.range n) (tw := fun k => .tup [.int ((k : Int) + 1), .int (f ((k : Int) + 1))]) (f := fun k : Nat => .tup [.int (f ((k : Int) + 1)), .int ((k : Int) + 1 + n)]) (evi_enum (own_ev hf _) ev_lit (enum_tup _ _)) rfl rfl (by simp; omega) fun k hk => ⟨_, rfl, rfl, ev_tup (evl_cons (ev_var rfl) (evl_cons (ev_bin (ev_var rfl) (ev_var rfl) rfl) evl_nil))⟩)) (by simp [nos]) ?_
  exact rs_retC (evl_cons (ev_call (evl_cons (ev_var rfl) (evl_cons (ev_var rfl) evl_nil)) hb) evl_nil) hm
theorem mirrored_ok (hf : isOrd G) (hn : n ≤ 1000) {h : Int → Int} (hb : Brought C n h (fun k => n + 1 - f ((k : Int) + 1)) (fun k => n + 1 - ((k : Int) + 1))) (hm : Made C n h) : Runs C G (.val (ordW n f) :: nos 4) B_mirrored (ordW n h) := by
  refine rs_asg (ev_bi (evl_cons (own_ev hf _) evl_nil) (len_tup _ _ _)) (by simp [nos]) ?_
  refine rs_asg (ev_frz (evf_map (ls := List.range n) (tw := fun k => .tup [.int ((k : Int) + 1), .int (f ((k : Int) + 1))]) (f := fun k : Nat => .tup [.int (n + 1 - f ((k : Int) + 1)), .int (n + 1 - ((k : Int) + 1))]) (evi_enum (own_ev hf _) ev_lit (enum_tup _ _)) rfl rfl (by simp; omega) fun k hk => ⟨_, rfl, rfl, ev_tup (evl_cons (ev_bin (ev_bin (ev_var rfl) ev_lit rfl) (ev_var rfl) rfl) (evl_cons (ev_bin (ev_bin (ev_var rfl) ev_lit rfl) (ev_var rfl) rfl) evl_nil))⟩)) (by simp [nos]) ?_
  exact rs_retC (evl_cons (ev_call (evl_cons (ev_var rfl) (evl_cons (ev_var rfl) evl_nil)) hb) evl_nil) hm
theorem turned_ok (hf : isOrd G) (hn : n ≤ 1000) {h : Int → Int} {b : Int} (hi : IsInt C) (hb1 : -10 ^ 60 < b) (hb2 : b < 10 ^ 60) (hb : Brought C n h (fun k => (k : Int) + 1 + b) (fun k => f ((k : Int) + 1) + b)) (hm : Made C n h) (ra : Sms) : Runs C G (.val (ordW n f) :: .val (.int b) :: nos 3) (B_turned ra) (ordW n h) := by
  have q := hi b
  rw [decide_eq_true hb1, decide_eq_true hb2] at q
  refine rs_skip (ev_not (b := true) (ev_call (evl_cons (ev_var rfl) evl_nil) q)) ?_
  refine rs_asg (ev_frz (evf_map (ls := List.range n) (tw := fun k => .tup [.int ((k : Int) + 1), .int (f ((k : Int) + 1))]) (f := fun k : Nat => .tup [.int ((k : Int) + 1 + b), .int (f ((k : Int) + 1) + b)]) (evi_enum (own_ev hf _) ev_lit (enum_tup _ _)) rfl rfl (by simp; omega) fun k hk => ⟨_, rfl, rfl, ev_tup (evl_cons (ev_bin (ev_var rfl) (ev_var rfl) rfl) (evl_cons (ev_bin (ev_var rfl) (ev_var rfl) rfl) evl_nil))⟩)) (by simp [nos]) ?_
  exact rs_retC (evl_cons (ev_call (evl_cons (ev_bi (evl_cons (own_ev hf _) evl_nil) (len_tup _ _ _)) (evl_cons (ev_var rfl) evl_nil)) hb) evl_nil) hm
theorem eq_ok (hf : isOrd G) (hi : G.isi (.glo "Order") (.glo "Order") = some true) (n : Nat) (f : Int → Int) : Runs C G [.val (ordW n f), .val (ordW n f)] B_eq (.bl true) :=
  rs_ret (ev_andt (ev_bi (evl_cons (ev_var rfl) (evl_cons ev_lit evl_nil)) (by simp [biW, isinW, tyW, ordW, hi])) (ev_cmp (own_ev hf _) (ev_fld (ev_var rfl) rfl hf) rfl (cmp_eq_same (dOk_tab n 59 fun k => f ((k : Int) + 1)))))
/-! ### marks -/
def fixL (n : Nat) (f : Int → Int) : List Nat := (List.range n).filter fun k : Nat => decide (f ((k : Int) + 1) = (k : Int) + 1 ∨ f ((k : Int) + 1) = (k : Int) + 1 + n)
def markW (f : Int → Int) (k : Nat) : W := .str (if f ((k : Int) + 1) = (k : Int) + 1 then "black" else "white")
def marksW (n : Nat) (f : Int → Int) : W := .dic ((fixL n f).map fun k : Nat => .int ((k : Int) + 1)) ((fixL n f).map (markW f))
theorem eqB_int (i j : Int) : eqB (.int i) (.int j) = decide (i = j) := by rw [eqB]; rfl
theorem in2_int (x a b : Int) : cmpW .In (.int x) (.tup [.int a, .int b]) = some (decide (x = a ∨ x = b)) := by
  have e : cmpW .In (.int x) (.tup [.int a, .int b]) = some (eqB (.int a) (.int x) || (eqB (.int b) (.int x) || false)) := rfl
  rw [e, eqB_int, eqB_int, Bool.or_false]
  congr 1
  rw [← Bool.decide_or]
  exact decide_eq_decide.mpr (by omega)
theorem eq_int (x y : Int) : cmpW .Eq (.int x) (.int y) = some (decide (x = y)) := by
  have e : cmpW .Eq (.int x) (.int y) = some (eqB (.int x) (.int y)) := rfl
  rw [e, eqB_int]
theorem dcompL_ok {α : Type} {ft : Env → R Bool} {fk fv : Env → R W} {tg : Tg} {vs : List Nat} {env0 : Env} {tw : α → W} {key : α → Int} {val : α → W} : ∀ {ls : List α} {ks us : List W} {env : Env}, wipeE env vs = wipeE env0 vs → ks.length + ls.length < 1000000 → (ls.map key).Nodup → (∀ a, a ∈ ls → ∀ k, k ∈ ks → kEq k (.int (key a)) = false) →
    (∀ a, a ∈ ls → ∃ e1, bindT tg (tw a) (wipeE env0 vs) = some e1 ∧ wipeE e1 vs = wipeE env0 vs ∧ ft e1 = .ok true e1 ∧ fk e1 = .ok (.int (key a)) e1 ∧ fv e1 = .ok (val a) e1) →
    ∃ e', dcompL ft fk fv tg vs (ls.map tw) ks us env = .ok (ks ++ ls.map fun a => .int (key a), us ++ ls.map val) e' ∧ wipeE e' vs = wipeE env0 vs
  | [], ks, us, env, hw, _, _, _, _ => ⟨env, by simp [dcompL], hw⟩
  | a :: ls, ks, us, env, hw, hl, hn, hk, h => by
    obtain ⟨e1, h1, h2, h3, h4, h5⟩ := h a List.mem_cons_self
    rw [List.map_cons, List.nodup_cons] at hn
    simp only [List.length_cons] at hl
    rw [List.map_cons]
    unfold dcompL
    rw [hw, h1]
    simp only [h3, h4, h5]
    have hp : (ks.any fun k => kEq k (.int (key a))) = false := List.any_eq_false.mpr fun k hk' => by rw [hk a List.mem_cons_self k hk']; decide
    have e : dPut ks us (.int (key a)) (val a) = (ks ++ [.int (key a)], us ++ [val a]) := by
      unfold dPut
      rw [hp]; rfl
    rw [if_pos ⟨rfl, by omega⟩, e]
    obtain ⟨e', g1, g2⟩ := dcompL_ok (ls := ls) (ks := ks ++ [.int (key a)]) (us := us ++ [val a]) (env := e1) (key := key) (val := val) (tw := tw) h2 (by simp; omega) hn.2 (fun b hb k hk' => by
      rcases List.mem_append.mp hk' with hk' | hk'
      · exact hk b (List.mem_cons_of_mem _ hb) k hk'
      · obtain rfl := List.mem_singleton.mp hk'
        show (key a == key b) = false
        exact beq_eq_false_iff_ne.mpr fun z => hn.1 (List.mem_map.mpr ⟨b, hb, z.symm⟩)) fun b hb => h b (List.mem_cons_of_mem _ hb)
    exact ⟨e', by rw [g1]; simp, g2⟩
theorem evf_dcomp {α : Type} {env : Env} {ke ve : Ex} {tg : Tg} {it : Iz} {vs : List Nat} {ls : List α} {tw : α → W} {key : α → Int} {val : α → W} {ws : List W} (hI : EvI C G env it ws) (hw : ws = ls.map tw) (hN : noOwn env vs = true) (hl : ls.length < 1000000) (hn : (ls.map key).Nodup)
    (h : ∀ a, a ∈ ls → ∃ e1, bindT tg (tw a) (wipeE env vs) = some e1 ∧ wipeE e1 vs = wipeE env vs ∧ Ev C G e1 ke (.int (key a)) ∧ Ev C G e1 ve (val a)) :
    EvF C G env (.dcomp ke ve tg it tt vs) (.dic (ls.map fun a => .int (key a)) (ls.map val)) := by
  subst hw
  obtain ⟨e', h1, h2⟩ := dcompL_ok (ft := fun e => (evalE C G tt e).bool) (fk := fun e => (evalE C G ke e).val) (fv := fun e => (evalE C G ve e).val) (tg := tg) (ls := ls) (ks := []) (us := []) (env := env) (tw := tw) (key := key) (val := val) rfl (by simpa using hl) hn (fun _ _ _ z => by cases z) fun a ha => by
    obtain ⟨e1, h1, h2, h3, h4⟩ := h a ha
    exact ⟨e1, h1, h2, (ev_lit (C := C) (G := G) (env := e1) (w := .bl true)).bool, h3.val, h4.val⟩
  unfold EvF EvI at *
  rw [evalF, hI, R.bind_ok, if_pos hN, h1]
  show (R.ok _ (backE env e' vs) : R W) = _
  rw [back_wipe h2]
  rfl
theorem marks_ok (hf : isOrd G) (hn : n ≤ 1000) : Runs C G (.val (ordW n f) :: nos 4) B_marks (marksW n f) := by
  have hl : (fixL n f).length < 1000000 := by
    unfold fixL
    refine Nat.lt_of_le_of_lt (List.length_filter_le _ _) ?_
    simp; omega
  refine rs_asg (ev_bi (evl_cons (own_ev hf _) evl_nil) (len_tup _ _ _)) (by simp [nos]) ?_
  refine rs_asg (ev_frz (evf_comp (ls := List.range n) (tw := fun k => .tup [.int ((k : Int) + 1), .int (f ((k : Int) + 1))]) (p := fun k : Nat => decide (f ((k : Int) + 1) = (k : Int) + 1 ∨ f ((k : Int) + 1) = (k : Int) + 1 + n)) (f := fun k : Nat => .tup [.int ((k : Int) + 1), .int (f ((k : Int) + 1))]) (evi_enum (own_ev hf _) ev_lit (enum_tup _ _)) rfl rfl (by simp; omega)
    fun k hk => ⟨_, rfl, rfl, ev_cmp (ev_var rfl) (ev_tup (evl_cons (ev_var rfl) (evl_cons (ev_bin (ev_var rfl) (ev_var rfl) rfl) evl_nil))) rfl (in2_int _ _ _), fun _ => ev_tup (evl_cons (ev_var rfl) (evl_cons (ev_var rfl) evl_nil))⟩)) (by simp [nos]) ?_
  refine rs_retF (evf_dcomp (ls := fixL n f) (tw := fun k : Nat => .tup [.int ((k : Int) + 1), .int (f ((k : Int) + 1))]) (key := fun k : Nat => (k : Int) + 1) (val := markW f) (evi_seq (ev_var rfl) rfl) rfl rfl hl ?_ fun k hk => ⟨_, rfl, rfl, ev_var rfl, ?_⟩)
  · rw [List.nodup_iff_pairwise_ne, List.pairwise_map]
    exact List.Pairwise.imp (fun {a b} hab => by omega) (List.nodup_iff_pairwise_ne.mp (List.nodup_range.filter _))
  · have q := ev_ite (C := C) (G := G) (env := [.val (ordW n f), .val (.int n), .val (.lst ((fixL n f).map fun k : Nat => .tup [.int ((k : Int) + 1), .int (f ((k : Int) + 1))])), .val (.int ((k : Int) + 1)), .val (.int (f ((k : Int) + 1)))]) (c := .cmp .Eq (.var 4) (.var 3)) (a := .lit (.str "black")) (b := .lit (.str "white"))
      (ev_cmp (ev_var rfl) (ev_var rfl) rfl (eq_int _ _)) (fun _ => ev_lit) (fun _ => ev_lit)
    have e : (if decide (f ((k : Int) + 1) = (k : Int) + 1) = true then W.str "black" else W.str "white") = markW f k := by
      unfold markW
      by_cases h : f ((k : Int) + 1) = (k : Int) + 1 <;> simp [h]
    rw [e] at q
    exact q
end
end PO

set_option maxHeartbeats 4000000
namespace PM
open PySem L2
section
variable {C : CallT} {G : Glob} {env : Env}
/-- a run that ends in a result, and what is there then -/
def RunE (C : CallT) (G : Glob) (env : Env) (ss : Sms) (w : W) (e : Env) : Prop := ∃ fr, execSs C G ss env = .ok (.rt fr w) e
theorem RunE.runs {ss : Sms} {w : W} {e : Env} (h : RunE C G env ss w e) : Runs C G env ss w := let ⟨fr, h⟩ := h; ⟨fr, e, h⟩
theorem re_nx {s : Sm} {ss : Sms} {e1 e : Env} {w : W} (h : execS C G s env = .ok .nx e1) (r : RunE C G e1 ss w e) : RunE C G env (.cons s ss) w e := by
  obtain ⟨fr, r⟩ := r
  exact ⟨fr, by rw [ss_nx h, r]⟩
theorem re_asg {i : Nat} {x : Ex} {ss : Sms} {u w : W} {e : Env} (h : Ev C G env x u) (hi : i < env.length) (r : RunE C G (env.set i (.val u)) ss w e) : RunE C G env (.cons (.asg (.nm i) x) ss) w e := re_nx (do_asg h hi) r
theorem re_asgT {t : Tg} {x : Ex} {ss : Sms} {u w : W} {e e1 : Env} (h : Ev C G env x u) (hb : bindT t u env = some e1) (r : RunE C G e1 ss w e) : RunE C G env (.cons (.asg t x) ss) w e := re_nx (do_asgT h hb) r
theorem re_skip {c : Ex} {a ss : Sms} {w : W} {e : Env} (h : Ev C G env c (.bl false)) (r : RunE C G env ss w e) : RunE C G env (.cons (.ifs c a .nil) ss) w e := re_nx (do_skip h) r
theorem re_ret {x : Ex} {ss : Sms} {w : W} (h : Ev C G env x w) : RunE C G env (.cons (.ret x) ss) w env := ⟨false, ss_rt (by rw [execS, h.val, R.bind_ok])⟩
theorem rs_asgT {t : Tg} {x : Ex} {ss : Sms} {u w : W} {e1 : Env} (h : Ev C G env x u) (hb : bindT t u env = some e1) (r : Runs C G e1 ss w) : Runs C G env (.cons (.asg t x) ss) w := rs_nx (do_asgT h hb) r
/-- the last of some turns ends the loop with a result -/
theorem forL_ret {t : Tg} {b : Env → R Fl} {I : Env → Prop} {w u : W} {fr : Bool} : ∀ {ws : List W} {us : List W} {env : Env}, (∀ w, w ∈ ws → ∀ e, I e → ∃ e1, bindT t w e = some e1 ∧ ∃ e2, b e1 = .ok .nx e2 ∧ I e2) →
    (∀ e, I e → ∃ e1 e2, bindT t w e = some e1 ∧ b e1 = .ok (.rt fr u) e2) → I env → ∃ e', forL t b (ws ++ w :: us) env = .ok (.rt fr u) e'
  | [], us, env, _, h, hi => by
    obtain ⟨e1, e2, h1, h2⟩ := h env hi
    refine ⟨e2, ?_⟩
    rw [List.nil_append]
    unfold forL
    rw [h1]
    simp only [h2, R.bind]
  | w' :: ws, us, env, hs, h, hi => by
    obtain ⟨e1, h1, e2, h2, h3⟩ := hs w' List.mem_cons_self env hi
    obtain ⟨e', h4⟩ := forL_ret (us := us) (fun w hw => hs w (List.mem_cons_of_mem _ hw)) h h3
    refine ⟨e', ?_⟩
    rw [List.cons_append]
    unfold forL
    rw [h1]
    simp only [h2, R.bind]
    exact h4
theorem rs_for {t : Tg} {it : Iz} {b ss : Sms} {I : Env → Prop} {w u : W} {fr : Bool} {ws us : List W} (hI : EvI C G env it (ws ++ w :: us)) (h1 : ∀ w, w ∈ ws → ∀ e, I e → ∃ e1, bindT t w e = some e1 ∧ ∃ e2, execSs C G b e1 = .ok .nx e2 ∧ I e2)
    (h2 : ∀ e, I e → ∃ e1 e2, bindT t w e = some e1 ∧ execSs C G b e1 = .ok (.rt fr u) e2) (hi : I env) : Runs C G env (.cons (.fors t it b) ss) u := by
  obtain ⟨e', h⟩ := forL_ret (t := t) (b := fun e => execSs C G b e) (us := us) h1 h2 hi
  exact ⟨fr, e', ss_rt (by unfold EvI at hI; rw [execS, hI, R.bind_ok, h])⟩
/-- a loop that goes to its end -/
theorem do_for {t : Tg} {it : Iz} {b : Sms} {I : Env → Prop} {ws : List W} (hI : EvI C G env it ws) (h : ∀ w, w ∈ ws → ∀ e, I e → ∃ e1, bindT t w e = some e1 ∧ ∃ e2, execSs C G b e1 = .ok .nx e2 ∧ I e2) (hi : I env) :
    ∃ e', execS C G (.fors t it b) env = .ok .nx e' ∧ I e' := by
  obtain ⟨e', h1, h2⟩ := for_ok (t := t) (b := fun e => execSs C G b e) (ws := ws) h env hi
  exact ⟨e', by unfold EvI at hI; rw [execS, hI, R.bind_ok, h1], h2⟩
/-- the same, with a count -/
theorem forL_up {t : Tg} {b : Env → R Fl} {F : Nat → W} {I : Nat → Env → Prop} : ∀ (m s : Nat) {env : Env}, (∀ k, s ≤ k → k < s + m → ∀ e, I k e → ∃ e1, bindT t (F k) e = some e1 ∧ ∃ e2, b e1 = .ok .nx e2 ∧ I (k + 1) e2) → I s env →
    ∃ e', forL t b ((List.range' s m).map F) env = .ok .nx e' ∧ I (s + m) e'
  | 0, s, env, _, hi => ⟨env, rfl, hi⟩
  | m + 1, s, env, h, hi => by
    obtain ⟨e1, h1, e2, h2, h3⟩ := h s (by omega) (by omega) env hi
    obtain ⟨e', h4, h5⟩ := forL_up (t := t) (b := b) (F := F) m (s + 1) (fun k h1 h2 => h k (by omega) (by omega)) h3
    refine ⟨e', ?_, by rw [show s + (m + 1) = s + 1 + m by omega]; exact h5⟩
    rw [List.range'_succ, List.map_cons]
    unfold forL
    rw [h1]
    simp only [h2, R.bind]
    exact h4
theorem do_up {t : Tg} {it : Iz} {b : Sms} {I : Nat → Env → Prop} {m : Nat} {F : Nat → W} (hI : EvI C G env it ((List.range m).map F)) (h : ∀ k, k < m → ∀ e, I k e → ∃ e1, bindT t (F k) e = some e1 ∧ ∃ e2, execSs C G b e1 = .ok .nx e2 ∧ I (k + 1) e2) (hi : I 0 env) :
    ∃ e', execS C G (.fors t it b) env = .ok .nx e' ∧ I m e' := by
  obtain ⟨e', h1, h2⟩ := forL_up (t := t) (b := fun e => execSs C G b e) (F := F) m 0 (fun k _ hk => h k (by omega)) hi
  rw [← List.range_eq_range'] at h1
  rw [Nat.zero_add] at h2
  exact ⟨e', by unfold EvI at hI; rw [execS, hI, R.bind_ok, h1], h2⟩
/-- the law's loop over the spots -/
abbrev spotsI (k : Nat) : Iz := .rng (e1 (.bi .max (e2 (li 1) (.bi .min (e2 (li k) (.bi .len (e1 (.var 0))))))))
theorem spots_ok {k m : Nat} {lb : Sms} {ns : List Int} (hk : k < 1000)
    (h : ∀ (i : Nat), i < k + 1 → ∀ r : Env, r.length = m → ∃ s1 r', execSs C G lb (.val (.rol (ns.map .int)) :: .val (.int i) :: r) = .ok .nx (.val (.rol (ns.map .int)) :: s1 :: r') ∧ r'.length = m) {s : Slot} {r : Env} (hr : r.length = m) :
    ∃ s1 r', execS C G (.fors (.nm 1) (spotsI k) lb) (.val (.rol (ns.map .int)) :: s :: r) = .ok .nx (.val (.rol (ns.map .int)) :: s1 :: r') ∧ r'.length = m := by
  have hm0 : 1 ≤ maxMin k ns.length := by unfold maxMin; split <;> omega
  have hm1 : maxMin k ns.length ≤ k + 1 := by unfold maxMin; split <;> (try split) <;> omega
  have hI : EvI C G (.val (.rol (ns.map .int)) :: s :: r) (spotsI k) ((List.range (maxMin k ns.length).toNat).map fun i => .int (i : Nat)) := by
    have q : evalI C G (spotsI k) (.val (.rol (ns.map W.int)) :: s :: r) = R.opt (rngW [.int (maxMin k (ns.map W.int).length)]) (.val (.rol (ns.map W.int)) :: s :: r) := rfl
    unfold EvI
    rw [q, List.length_map, rng1_ok (by omega) (by omega)]; rfl
  obtain ⟨e', h1, s1, r', rfl, h2⟩ := do_up (t := .nm 1) (b := lb) (I := fun _ e => ∃ s1 r, e = .val (.rol (ns.map W.int)) :: s1 :: r ∧ r.length = m) hI (fun i hi env hi' => by
      obtain ⟨s1, r, rfl, hr⟩ := hi'
      obtain ⟨s2, r', g1, g2⟩ := h i (by omega) r hr
      exact ⟨.val (.rol (ns.map W.int)) :: .val (.int i) :: r, by simp [bindT], _, g1, s2, r', rfl, g2⟩) ⟨s, r, rfl, hr⟩
  exact ⟨s1, r', h1, h2⟩
/-! ### rolls -/
/-- one roll of the dice that are held in slot i -/
theorem roll_ev {f : Str} (hr : Rolls C f) {i : Nat} {e : Ex} {a b c t : Int} (he : Ev C G env e (.int t)) (hd : env[i]? = some (.own (diceW a b c))) (ht : 0 < t) (ht' : t < 2 ^ 100) (hc : 0 ≤ c) (hc' : c < 2 ^ 100) :
    ∃ r a' c', evalE C G (.call f (e2 (.bor i) e)) env = .ok (.v (.int r)) (env.set i (.own (diceW a' b c'))) ∧ 0 ≤ r ∧ r < t ∧ 0 ≤ c' ∧ c' ≤ c + 1 := by
  have p1 : (2 : Int) ^ 100 < 2 ^ 200 := by decide +kernel
  have p2 : (2 : Int) ^ 100 + 1 < 2 ^ 200 := by decide +kernel
  obtain ⟨r, a', c', h, h1, h2, h3, h4⟩ := hr a b c t ht (by omega) hc (by omega)
  refine ⟨r, a', c', ?_, h1, h2, h3, h4⟩
  unfold Ev at he
  simp [evalE, evalEs, hd, he, callH, lents, nodupN, ars, putBacks, h, R.bind]
end
end PM
namespace PO
open PM
section
variable {C : CallT} {G : Glob} {n : Nat} {f g : Int → Int}
def B_law_value : Sms := .cons (.asg (.nm 2) (.bi .len (xa (.var 0)))) (.cons (.asg (.nm 3) (.bin .FloorDiv (esub (.var 1) (li 1)) (.var 2))) (.cons (.ret (eadd (.sub (.var 0) (esub (esub (.var 1) (li 1)) (.bin .Mult (.var 3) (.var 2)))) (.bin .Mult (.var 3) (.var 2)))) .nil))
def B_law_standing : Sms := .cons (.asg (.nm 2) (.bi .len (xa (.var 0)))) (.cons (.fors (.nm 3) (.rng (xa (.var 2))) (.cons (.ifs (.cmp .Eq (.bin .Mod (.bi .int (xa (esub (.sub (.var 0) (.var 3)) (.var 1)))) (.var 2)) (li 0)) (.cons (.ret (esub (eadd (eadd (.var 3) (li 1)) (.var 1)) (.sub (.var 0) (.var 3)))) .nil) .nil) .nil)) (.cons (.ret (.lit .non)) .nil))
def B_law_dual_of : Sms := .cons (.asg (.nm 1) (.bi .len (xa (.var 0)))) (.cons (.ret (.bi .tuple (xa (.frz (.comp (eadd (.call "_law_standing" (xb (.var 0) (.var 2))) (.var 1)) (.nm 2) (.rng (xb (li 1) (eadd (.var 1) (li 1)))) tt [2]))))) .nil)
def B_law_mirrored_of : Sms := .cons (.asg (.nm 1) (.bi .len (xa (.var 0)))) (.cons (.ret (.bi .tuple (xa (.frz (.comp (esub (eadd (.var 1) (li 1)) (.call "_law_standing" (xb (.var 0) (esub (eadd (.var 1) (li 1)) (.var 2))))) (.nm 2) (.rng (xb (li 1) (eadd (.var 1) (li 1)))) tt [2]))))) .nil)
def B_law_turned_of : Sms := .cons (.ret (.bi .tuple (xa (.frz (.comp (eadd (.call "_law_value" (xb (.var 0) (esub (.var 2) (.var 1)))) (.var 1)) (.nm 2) (.rng (xb (li 1) (eadd (.bi .len (xa (.var 0))) (li 1)))) tt [2]))))) .nil
theorem big_small {x : Int} (h : x.natAbs ≤ 2 ^ 100) : x.natAbs < big := Nat.lt_of_le_of_lt h (Nat.lt_trans (Nat.pow_lt_pow_right (by decide) (by decide)) big_lt)
theorem div_small {x n : Int} (hn : 0 < n) (h : x.natAbs ≤ 2 ^ 100) : (x / n).natAbs ≤ 2 ^ 100 := by
  have := Int.natAbs_ediv_le_natAbs x n
  omega
theorem law_value_ok (o : Ord n f g) (hn : n ≤ 1000) (x : Int) (hx : (x - 1).natAbs ≤ 2 ^ 100) : Runs C G [.val (nums n f), .val (.int x), .no, .no] B_law_value (.int (f x)) := by
  have n0 : (0 : Int) < n := by have := o.n0; omega
  have p : (1000 : Nat) < 2 ^ 100 := by decide
  have bn : (n : Int).natAbs < big := big_small (by omega)
  have h1 := rs_lo n0 x
  have h2 := rs_hi n0 x
  have q2 := rs_eq n x
  have e : f x = f (rs n x) + n * ((x - 1) / n) := by
    have q := o.fp.int (rs n x) ((x - 1) / n)
    rw [← q2] at q
    omega
  have hm : mulI ((x - 1) / n) n = some (.int ((x - 1) / n * n)) := mulI_ok (big_small (div_small n0 hx)) bn
  have hc : (x - 1) / n * n = n * ((x - 1) / n) := Int.mul_comm _ _
  refine rs_asg (ev_bi (evl_cons (ev_var rfl) evl_nil) (len_tup _ _ _)) (by simp) ?_
  refine rs_asg (u := .int ((x - 1) / n)) (ev_bin (ev_bin (ev_var rfl) ev_lit rfl) (ev_var rfl) (if_pos ⟨n0, bn⟩)) (by simp) ?_
  refine rs_ret (ev_bin (ev_sub (ev_var rfl) (ev_bin (ev_bin (ev_var rfl) ev_lit rfl) (ev_bin (ev_var rfl) (ev_var rfl) hm) rfl) (sub_tup _ ?_ ?_)) (ev_bin (ev_var rfl) (ev_var rfl) hm) ?_)
  · show 0 ≤ x - 1 - (x - 1) / n * n; omega
  · show x - 1 - (x - 1) / n * n < n; omega
  · show some (W.int (f (((x - 1 - (x - 1) / n * n).toNat : Nat) + 1) + (x - 1) / n * n)) = _
    rw [show (((x - 1 - (x - 1) / n * n).toNat : Nat) : Int) + 1 = rs n x by omega, e, hc]
theorem standing_ok (o : Ord n f g) (hn : n ≤ 1000) (y : Int) : Runs C G [.val (nums n f), .val (.int y), .no, .no] B_law_standing (.int (g y)) := by
  have n0 : (0 : Int) < n := by have := o.n0; omega
  have h1 := rs_lo n0 (g y)
  have h2 := rs_hi n0 (g y)
  generalize hj : (rs n (g y) - 1).toNat = j
  have hj1 : (j : Int) + 1 = rs n (g y) := by omega
  have hjn : j < n := by omega
  have hfj : f ((j : Int) + 1) = y - n * ((g y - 1) / n) := by
    have q := o.fp.int (rs n (g y)) ((g y - 1) / n)
    have q2 := rs_eq n (g y)
    rw [← q2, o.fg] at q
    rw [hj1]; omega
  have hg : (j : Int) + 1 + y - f ((j : Int) + 1) = g y := by have q2 := rs_eq n (g y); omega
  have hmod : ∀ k : Nat, k < n → ((f ((k : Int) + 1) - y) % (n : Int) = 0 → k = j) := fun k hk h => by
    have hd := Int.emod_add_mul_ediv (f ((k : Int) + 1) - y) n
    have hrs : rs n (f ((k : Int) + 1)) = rs n (f ((j : Int) + 1)) := by
      rw [show f ((k : Int) + 1) = f ((j : Int) + 1) + n * ((f ((k : Int) + 1) - y) / n + (g y - 1) / n) by rw [Int.mul_add]; omega, rs_add _ _ n0]
    exact o.res k j hk hjn hrs
  have hmj : (f ((j : Int) + 1) - y) % (n : Int) = 0 := by
    rw [hfj, show y - n * ((g y - 1) / n) - y = n * (-((g y - 1) / n)) by rw [Int.mul_neg]; omega, Int.mul_emod_right]
  have cond : ∀ (k : Nat) (r : Env), k < n → Ev C G (.val (nums n f) :: .val (.int y) :: .val (.int n) :: .val (.int k) :: r) (.cmp .Eq (.bin .Mod (.bi .int (xa (esub (.sub (.var 0) (.var 3)) (.var 1)))) (.var 2)) (li 0)) (.bl (decide ((f ((k : Int) + 1) - y) % (n : Int) = 0))) := fun k r hk =>
    ev_cmp (ev_bin (ev_bi (evl_cons (ev_bin (ev_sub (ev_var rfl) (ev_var rfl) (sub_tup _ (by omega) (by omega))) (ev_var rfl) rfl) evl_nil) rfl) (ev_var rfl) (if_pos n0)) ev_lit rfl (eq_int _ _)
  refine rs_asg (ev_bi (evl_cons (ev_var rfl) evl_nil) (len_tup _ _ _)) (by simp) ?_
  have split : (List.range n).map (fun i : Nat => W.int (i : Nat)) = ((List.range j).map fun i : Nat => W.int (i : Nat)) ++ W.int (j : Nat) :: ((List.range' (j + 1) (n - j - 1)).map fun i : Nat => W.int (i : Nat)) := by
    have e : List.range n = List.range j ++ j :: List.range' (j + 1) (n - j - 1) := by
      rw [List.range_eq_range', List.range_eq_range', ← List.range'_succ, show n - j - 1 + 1 = n - j by omega]
      have q := List.range'_append (s := 0) (m := j) (n := n - j) (step := 1)
      rw [Nat.one_mul, Nat.zero_add] at q
      rw [q, show j + (n - j) = n by omega]
    rw [e, List.map_append, List.map_cons]
  refine rs_for (fr := false) (I := fun e => ∃ s, e = [.val (nums n f), .val (.int y), .val (.int n), s]) (ws := (List.range j).map fun i : Nat => .int (i : Nat)) (w := .int (j : Nat)) (us := (List.range' (j + 1) (n - j - 1)).map fun i : Nat => .int (i : Nat)) ?_ (fun w hw e he => ?_) (fun e he => ?_) ⟨_, rfl⟩
  · rw [← split]
    exact evi_rng (evl_cons (ev_var rfl) evl_nil) (rng1_nat (by omega))
  · obtain ⟨k, hk, rfl⟩ := List.mem_map.mp hw
    have hk := List.mem_range.mp hk
    obtain ⟨s, rfl⟩ := he
    refine ⟨_, rfl, [.val (nums n f), .val (.int y), .val (.int n), .val (.int (k : Nat))], ?_, _, rfl⟩
    have q := cond k [] (by omega)
    rw [decide_eq_false (fun z => by have := hmod k (by omega) z; omega)] at q
    exact (ss_nx (do_skip q)).trans (by rw [execSs])
  · obtain ⟨s, rfl⟩ := he
    have q := cond j [] hjn
    rw [decide_eq_true hmj] at q
    refine ⟨_, [.val (nums n f), .val (.int y), .val (.int n), .val (.int (j : Nat))], rfl, ss_rt ?_⟩
    rw [execS]
    have e : [Slot.val (nums n f), .val (.int y), .val (.int n), s].set 3 (.val (.int (j : Nat))) = [.val (nums n f), .val (.int y), .val (.int n), .val (.int (j : Nat))] := rfl
    rw [e, q.bool, R.bind_ok, if_pos rfl]
    have r2 : execSs C G (.cons (.ret (esub (eadd (eadd (.var 3) (li 1)) (.var 1)) (.sub (.var 0) (.var 3)))) .nil) [.val (nums n f), .val (.int y), .val (.int n), .val (.int (j : Nat))] = .ok (.rt false (.int (g y))) [.val (nums n f), .val (.int y), .val (.int n), .val (.int (j : Nat))] := by
      refine ss_rt ?_
      rw [execS, (ev_bin (C := C) (G := G) (ev_bin (ev_bin (ev_var (env := [.val (nums n f), .val (.int y), .val (.int n), .val (.int (j : Nat))]) (i := 3) rfl) (ev_lit (w := .int (Int.ofNat 1))) rfl) (ev_var (i := 1) rfl) rfl) (ev_sub (ev_var (i := 0) rfl) (ev_var (i := 3) rfl) (sub_tup _ (by omega) (by omega))) (w := .int (g y)) (by
        show some (W.int ((j : Int) + 1 + y - f ((((j : Nat) : Int).toNat : Nat) + 1))) = _
        rw [Int.toNat_natCast, hg])).val, R.bind_ok]
    exact r2
def Standing (C : CallT) (n : Nat) (f g : Int → Int) : Prop := ∀ y : Int, Ret C "" "_law_standing" [nums n f, .int y] (.int (g y))
def LawValue (C : CallT) (n : Nat) (f : Int → Int) : Prop := ∀ x : Int, (x - 1).natAbs ≤ 2 ^ 100 → Ret C "" "_law_value" [nums n f, .int x] (.int (f x))
theorem dual_of_ok (hs : Standing C n f g) (hn : n ≤ 1000) : Runs C G [.val (nums n f), .no, .no] B_law_dual_of (nums n (dualF n g)) := by
  refine rs_asg (ev_bi (evl_cons (ev_var rfl) evl_nil) (len_tup _ _ _)) (by simp) ?_
  exact rs_ret (ev_bi (w := nums n (dualF n g)) (evl_cons (ev_frz (evf_map (ls := List.range n) (tw := fun k : Nat => .int ((k : Int) + 1)) (f := fun k : Nat => .int (dualF n g ((k : Int) + 1))) (evi_rng (evl_cons ev_lit (evl_cons (ev_bin (ev_var rfl) ev_lit rfl) evl_nil)) (rng_places (by omega))) rfl rfl (by simp; omega) fun k hk => ⟨_, rfl, rfl, ev_bin (ev_call (evl_cons (ev_var rfl) (evl_cons (ev_var rfl) evl_nil)) (hs _)) (ev_var rfl) rfl⟩)) evl_nil) rfl)
theorem mirrored_of_ok (hs : Standing C n f g) (hn : n ≤ 1000) : Runs C G [.val (nums n f), .no, .no] B_law_mirrored_of (nums n (mirF n g)) := by
  refine rs_asg (ev_bi (evl_cons (ev_var rfl) evl_nil) (len_tup _ _ _)) (by simp) ?_
  exact rs_ret (ev_bi (w := nums n (mirF n g)) (evl_cons (ev_frz (evf_map (ls := List.range n) (tw := fun k : Nat => .int ((k : Int) + 1)) (f := fun k : Nat => .int (mirF n g ((k : Int) + 1))) (evi_rng (evl_cons ev_lit (evl_cons (ev_bin (ev_var rfl) ev_lit rfl) evl_nil)) (rng_places (by omega))) rfl rfl (by simp; omega) fun k hk => ⟨_, rfl, rfl, ev_bin (ev_bin (ev_var rfl) ev_lit rfl) (ev_call (evl_cons (ev_var rfl) (evl_cons (ev_bin (ev_bin (ev_var rfl) ev_lit rfl) (ev_var rfl) rfl) evl_nil)) (hs _)) rfl⟩)) evl_nil) rfl)
theorem turned_of_ok (hs : LawValue C n f) (hn : n ≤ 1000) {b : Int} (hb : b.natAbs ≤ 1000) : Runs C G [.val (nums n f), .val (.int b), .no] B_law_turned_of (nums n (turF b f)) := by
  refine rs_ret (ev_bi (w := nums n (turF b f)) (evl_cons (ev_frz (evf_map (ls := List.range n) (tw := fun k : Nat => .int ((k : Int) + 1)) (f := fun k : Nat => .int (turF b f ((k : Int) + 1))) (evi_rng (evl_cons ev_lit (evl_cons (ev_bin (ev_bi (evl_cons (ev_var rfl) evl_nil) (len_tup _ _ _)) ev_lit rfl) evl_nil)) (rng_places (by omega))) rfl rfl (by simp; omega) fun k hk => ⟨_, rfl, rfl, ev_bin (ev_call (evl_cons (ev_var rfl) (evl_cons (ev_bin (ev_var rfl) (ev_var rfl) rfl) evl_nil)) (hs _ ?_)) (ev_var rfl) rfl⟩)) evl_nil) rfl)
  have hk := List.mem_range.mp hk
  have p : (4000 : Nat) < 2 ^ 100 := by decide
  omega
end
end PO

set_option maxHeartbeats 4000000
namespace PO
open PM PySem
section
variable {C : CallT} {G : Glob}
theorem callH_sv {c f : Str} {i : Nat} {o o' w u : W} {fr : Bool} {env : PM.Env} (hd : env[i]? = some (.own o)) (h : C c f [.own o, .val w] = .ok fr u [o']) : callH C c f [.s i, .v w] env = .ok (fr, u) (env.set i (.own o')) := by
  simp [callH, lents, nodupN, ars, hd, h, putBacks]
def B_law_mixed : Sms := .cons (.par 3 4 (.f (.fb .list (xa (.var 1)))) (.f (.lst .nil))) (.cons (.fors (.nm 2) (.rng (xa (.bi .len (xa (.var 1))))) (.cons (.expr (.om 4 .append (xa (.om 3 .popAt (xa (.call "_law_roll" (xb (.bor 0) (.bi .len (xa (.bor 3)))))))))) .nil)) (.cons (.retO 4) .nil))
/-- items in a drawn order -/
def Mixes (C : CallT) (f : Str) : Prop := ∀ (a b c : Int) (w : W) (ws : List W), seqW w = some ws → ws.length ≤ 1000 → 0 ≤ c → c < 2 ^ 90 → ∃ us a' c', C "" f [.own (diceW a b c), .val w] = .ok true (.lst us) [diceW a' b c'] ∧ us.Perm ws ∧ 0 ≤ c' ∧ c' ≤ c + ws.length
theorem len_seq {w : W} {ws : List W} (isi : W → W → Option Bool) (h : seqW w = some ws) : biW isi .len [w] = some (.int ws.length) := by
  show lenW [w] = _
  cases w <;> first | (cases h; rfl) | cases h
theorem perm_pop {α : Type} {l : List α} {i : Nat} (h : i < l.length) : (l[i] :: l.eraseIdx i).Perm l := by
  induction l generalizing i with
  | nil => simp at h
  | cons x l ih =>
    cases i with
    | zero => exact .refl _
    | succ i =>
      simp only [List.getElem_cons_succ, List.eraseIdx_cons_succ]
      exact (List.Perm.swap _ _ _).trans ((ih (by simpa using h)).cons x)
theorem mix_step (hr : Rolls C "_law_roll") {a b c : Int} {w : W} {s : Slot} {left found : List W} (hl : 0 < left.length) (hl' : left.length + found.length ≤ 1000) (hc : 0 ≤ c) (hc' : c < 2 ^ 100) :
    ∃ x left' a' c', execSs C G (.cons (.expr (.om 4 .append (xa (.om 3 .popAt (xa (.call "_law_roll" (xb (.bor 0) (.bi .len (xa (.bor 3)))))))))) .nil) [.own (diceW a b c), .val w, s, .own (.lst left), .own (.lst found)] =
      .ok .nx [.own (diceW a' b c'), .val w, s, .own (.lst left'), .own (.lst (found ++ [x]))] ∧ (x :: left').Perm left ∧ left'.length + 1 = left.length ∧ 0 ≤ c' ∧ c' ≤ c + 1 := by
  have p1 : (2 : Int) ^ 100 + 1 < 2 ^ 200 := by decide +kernel
  have p2 : (1000 : Int) < 2 ^ 200 := by decide +kernel
  obtain ⟨r, a', c', e, r0, r1, c0, c1⟩ := hr a b c left.length (by omega) (by omega) hc (by omega)
  have hi : r.toNat < left.length := by omega
  have hg : left[r.toNat]? = some left[r.toNat] := List.getElem?_eq_getElem hi
  refine ⟨left[r.toNat], left.eraseIdx r.toNat, a', c', ?_, perm_pop hi, ?_, c0, c1⟩
  · have z1 : left.length < 1000000 := by omega
    have z2 : found.length < 1000000 := by omega
    simp [execSs, execS, evalE, evalEs, callH, lents, nodupN, ars, putBacks, rd, rds, pv1, pvs, R.bind, R.opt, R.hd, biW, lenW, seqW, e, omW, popAtW, appendW, r0, r1, hg, z1, z2]
  · rw [List.length_eraseIdx_of_lt hi]; omega
theorem mixed_ok (hr : Rolls C "_law_roll") (a b c : Int) (w : W) (ws : List W) (hw : seqW w = some ws) (hl : ws.length ≤ 1000) (hc : 0 ≤ c) (hc' : c < 2 ^ 90) :
    ∃ us a' c', runF C G ⟨5, 2, [3, 4, 2], B_law_mixed⟩ [.own (diceW a b c), .val w] = .ok true (.lst us) [diceW a' b c'] ∧ us.Perm ws ∧ 0 ≤ c' ∧ c' ≤ c + ws.length := by
  have p1 : (2 : Int) ^ 90 + 1000 < 2 ^ 100 := by decide +kernel
  have e0 : execS C G (.par 3 4 (.f (.fb .list (xa (.var 1)))) (.f (.lst .nil))) [.own (diceW a b c), .val w, .no, .no, .no] = .ok .nx [.own (diceW a b c), .val w, .no, .own (.lst ws), .own (.lst [])] := by
    have hlw : listW [w] = some (.lst ws) := by
      show (match seqW w with | some ws => some (W.lst ws) | none => none) = _
      rw [hw]
    have q1 : EvF C G [.own (diceW a b c), .val w, .no, .no, .no] (.fb .list (xa (.var 1))) (.lst ws) := evf_fb (evl_cons (ev_var rfl) evl_nil) hlw
    have q2 : EvF C G [.own (diceW a b c), .val w, .no, .no, .no] (.lst .nil) (.lst []) := evf_lst evl_nil
    unfold EvF at q1 q2
    rw [execS, evalP, q1, R.bind_ok, R.bind_ok, evalP, q2]
    rfl
  obtain ⟨e', h1, ai, ci, s, left, found, he, hlf, hff, hp, hc0, hc1⟩ := do_up (C := C) (G := G) (t := .nm 2) (it := .rng (xa (.bi .len (xa (.var 1))))) (b := .cons (.expr (.om 4 .append (xa (.om 3 .popAt (xa (.call "_law_roll" (xb (.bor 0) (.bi .len (xa (.bor 3)))))))))) .nil) (m := ws.length) (F := fun i => .int (i : Nat)) (env := [.own (diceW a b c), .val w, .no, .own (.lst ws), .own (.lst [])])
    (I := fun k e => ∃ a' c' s left found, e = [.own (diceW a' b c'), .val w, s, .own (.lst left), .own (.lst found)] ∧ left.length + k = ws.length ∧ found.length = k ∧ (found ++ left).Perm ws ∧ 0 ≤ c' ∧ c' ≤ c + k)
    (evi_rng (evl_cons (ev_bi (evl_cons (ev_var rfl) evl_nil) (len_seq _ hw)) evl_nil) (rng1_nat (by omega)))
    (fun k hk e he => by
      obtain ⟨a1, c1, s, left, found, rfl, h1, h2, h3, h4, h5⟩ := he
      refine ⟨[.own (diceW a1 b c1), .val w, .val (.int (k : Nat)), .own (.lst left), .own (.lst found)], rfl, ?_⟩
      obtain ⟨x, left', a2, c2, g1, g2, g3, g4, g5⟩ := mix_step (C := C) (G := G) hr (a := a1) (b := b) (c := c1) (w := w) (s := .val (.int (k : Nat))) (left := left) (found := found) (by omega) (by omega) h4 (by omega)
      refine ⟨_, g1, a2, c2, _, left', found ++ [x], rfl, by omega, by simp [h2], ?_, g4, by omega⟩
      rw [List.append_assoc]
      exact ((List.Perm.append_left found g2)).trans h3)
    ⟨a, c, .no, ws, [], rfl, by simp, rfl, by simp, hc, by omega⟩
  have hl0 : left = [] := List.length_eq_zero_iff.mp (by omega)
  subst hl0
  rw [List.append_nil] at hp
  refine ⟨found, ai, ci, (runF_eq (env := [.own (diceW a b c), .val w, .no, .no, .no]) rfl rfl rfl).trans ?_, hp, hc0, hc1⟩
  unfold B_law_mixed
  rw [ss_nx e0, ss_nx h1, he]
  rfl
/-! ### a drawn order -/
def B_law_order : Sms := .cons (.asg (.nm 2) (.call "_law_mixed" (xb (.bor 0) (.frz (.lrng2 (li 1) (eadd (.var 1) (li 1))))))) (.cons (.asgO 3 (.lst .nil)) (.cons (.fors (.nm 4) (.rng (xa (.var 1))) (.cons (.asg (.nm 5) (.sub (.var 2) (.var 4))) (.cons (.asg (.nm 6) (.or (.cmp .Lt (.var 5) (eadd (.var 4) (li 1))) (.and (.cmp .Eq (.var 5) (eadd (.var 4) (li 1))) (.cmp .Eq (.call "_law_roll" (xb (.bor 0) (li 2))) (li 0))))) (.cons (.expr (.om 3 .append (xa (eadd (.var 5) (.bin .Mult (.var 1) (.bi .int (xa (.var 6)))))))) .nil)))) (.cons (.ret (.bi .tuple (xa (.bor 3)))) .nil)))
def toI : W → Int
  | .int i => i
  | _ => 0
theorem ints_of_perm {us : List W} {l : List Int} (h : us.Perm (l.map .int)) : ∃ vs : List Int, us = vs.map .int ∧ vs.Perm l := by
  refine ⟨us.map toI, ?_, ?_⟩
  · rw [List.map_map]
    symm
    refine (List.map_congr_left (g := id) fun u hu => ?_).trans (List.map_id _)
    obtain ⟨i, _, rfl⟩ := List.mem_map.mp (h.mem_iff.mp hu)
    rfl
  · have q := h.map toI
    rw [List.map_map] at q
    have e : l.map (toI ∘ W.int) = l := (List.map_congr_left (g := id) fun _ _ => rfl).trans (List.map_id _)
    rwa [e] at q
/-- a number of a drawn order -/
def Num (n : Nat) (k : Nat) (v x : Int) : Prop := (x = v ∧ (k : Int) + 1 ≤ v) ∨ (x = v + n ∧ v ≤ (k : Int) + 1)
theorem order_step (hr : Rolls C "_law_roll") {n k : Nat} {a b c : Int} {vs xs : List Int} {s5 s6 : Slot} (hk : k < vs.length) (hn : n ≤ 1000) (hx : xs.length = k) (hk' : k < n) (hc : 0 ≤ c) (hc' : c < 2 ^ 99) :
    ∃ x a' c' t5 t6, execSs C G (.cons (.asg (.nm 5) (.sub (.var 2) (.var 4))) (.cons (.asg (.nm 6) (.or (.cmp .Lt (.var 5) (eadd (.var 4) (li 1))) (.and (.cmp .Eq (.var 5) (eadd (.var 4) (li 1))) (.cmp .Eq (.call "_law_roll" (xb (.bor 0) (li 2))) (li 0))))) (.cons (.expr (.om 3 .append (xa (eadd (.var 5) (.bin .Mult (.var 1) (.bi .int (xa (.var 6)))))))) .nil)))
      [.own (diceW a b c), .val (.int n), .val (.lst (vs.map .int)), .own (.lst (xs.map .int)), .val (.int (k : Nat)), s5, s6] = .ok .nx [.own (diceW a' b c'), .val (.int n), .val (.lst (vs.map .int)), .own (.lst ((xs ++ [x]).map .int)), .val (.int (k : Nat)), t5, t6] ∧ Num n k vs[k] x ∧ 0 ≤ c' ∧ c' ≤ c + 1 := by
  have p1 : (2 : Int) ^ 99 + 1 < 2 ^ 200 := by decide +kernel
  obtain ⟨r, a', c', e, r0, r1, c0, c1⟩ := hr a b c 2 (by omega) (by decide) hc (by omega)
  have hg : (vs.map W.int)[k]? = some (.int vs[k]) := by rw [List.getElem?_map, List.getElem?_eq_getElem hk]; rfl
  have z1 : xs.length < 1000000 := by omega
  have hkz : (k : Int) < vs.length := by omega
  have bn : ((n : Nat) : Int).natAbs < big := big_small (by have : (1000 : Nat) < 2 ^ 100 := by decide
                                                            omega)
  have m0 : mulI (n : Int) 0 = some (.int 0) := by rw [mulI_ok bn (big_small (by simp))]; simp
  have m1 : mulI (n : Int) 1 = some (.int n) := by rw [mulI_ok bn (big_small (by decide))]; simp
  by_cases h1 : vs[k] < (k : Int) + 1
  · refine ⟨vs[k] + n, a, c, .val (.int vs[k]), .val (.bl true), ?_, .inr ⟨rfl, by omega⟩, hc, by omega⟩
    simp [execSs, execS, evalE, evalEs, callH, lents, nodupN, ars, putBacks, rd, rds, pv1, pvs, R.bind, R.opt, R.hd, R.val, R.bool, cmpH, ownEq, cmpW, ltB, eqW, dOk, eqB, binW, subW, ixW, hkz, hg, bindT, biW, intW, h1, m0, m1, omW, appendW, z1]
  · by_cases h2 : vs[k] = (k : Int) + 1
    · by_cases h3 : r = 0
      · refine ⟨vs[k] + n, a', c', .val (.int vs[k]), .val (.bl true), ?_, .inr ⟨rfl, by omega⟩, c0, c1⟩
        simp [execSs, execS, evalE, evalEs, callH, lents, nodupN, ars, putBacks, rd, rds, pv1, pvs, R.bind, R.opt, R.hd, R.val, R.bool, cmpH, ownEq, cmpW, ltB, eqW, dOk, eqB, binW, subW, ixW, hkz, hg, bindT, biW, intW, h2, h3, e, m0, m1, omW, appendW, z1]
      · refine ⟨vs[k], a', c', .val (.int vs[k]), .val (.bl false), ?_, .inl ⟨rfl, by omega⟩, c0, c1⟩
        simp [execSs, execS, evalE, evalEs, callH, lents, nodupN, ars, putBacks, rd, rds, pv1, pvs, R.bind, R.opt, R.hd, R.val, R.bool, cmpH, ownEq, cmpW, ltB, eqW, dOk, eqB, binW, subW, ixW, hkz, hg, bindT, biW, intW, h2, h3, e, m0, m1, omW, appendW, z1]
    · refine ⟨vs[k], a, c, .val (.int vs[k]), .val (.bl false), ?_, .inl ⟨rfl, by omega⟩, hc, by omega⟩
      simp [execSs, execS, evalE, evalEs, callH, lents, nodupN, ars, putBacks, rd, rds, pv1, pvs, R.bind, R.opt, R.hd, R.val, R.bool, cmpH, ownEq, cmpW, ltB, eqW, dOk, eqB, binW, subW, ixW, hkz, hg, bindT, biW, intW, h1, h2, m0, m1, omW, appendW, z1]
/-- drawn orders -/
def Orders (C : CallT) (f : Str) : Prop := ∀ (a b c : Int) (n : Nat), 0 < n → n ≤ 1000 → 0 ≤ c → c < 2 ^ 80 → ∃ a' c' h g, C "" f [.own (diceW a b c), .val (.int n)] = .ok false (nums n h) [diceW a' b c'] ∧ Ord n h g ∧ 0 ≤ c' ∧ c' ≤ c + 2 * n
theorem zq {a2 b c2 : Int} {n : Nat} {vs : List Int} {h : Int → Int} {s4 s5 s6 : Slot} : execS C G (.ret (.bi .tuple (xa (.bor 3)))) [.own (diceW a2 b c2), .val (.int n), .val (.lst (vs.map .int)), .own (.lst ((List.range n).map fun k : Nat => .int (h ((k : Int) + 1)))), s4, s5, s6] = .ok (.rt false (nums n h)) [.own (diceW a2 b c2), .val (.int n), .val (.lst (vs.map .int)), .own (.lst ((List.range n).map fun k : Nat => .int (h ((k : Int) + 1)))), s4, s5, s6] := by
    simp [execS, evalE, evalEs, rd, rds, R.bind, R.opt, R.hd, R.val, pv1, biW, tupleW, seqW, nums]
theorem zz {a b c a2 c2 : Int} {n : Nat} {h : Int → Int} {r : PM.Env} (z : execSs C G B_law_order [.own (diceW a b c), .val (.int n), .no, .no, .no, .no, .no] = .ok (.rt false (nums n h)) (.own (diceW a2 b c2) :: r)) : runF C G ⟨7, 2, [2, 3, 4, 5, 6], B_law_order⟩ [.own (diceW a b c), .val (.int n)] = .ok false (nums n h) [diceW a2 b c2] := by
  have y : ∀ B : Sms, runF C G ⟨7, 2, [2, 3, 4, 5, 6], B⟩ [.own (diceW a b c), .val (.int n)] = endR [.own (diceW a b c), .val (.int n)] (execSs C G B [.own (diceW a b c), .val (.int n), .no, .no, .no, .no, .no]) := fun B => runF_eq rfl rfl rfl
  rw [y, z]
  rfl
theorem order_nums {n : Nat} (n0 : 0 < n) {vs xs : List Int} (hq : vs.Perm ((List.range n).map fun i : Nat => (i : Int) + 1)) (hx : xs.length = n) (hnum : ∀ j (h : j < vs.length) (h' : j < xs.length), Num n j vs[j] xs[j]) :
    ∃ h g, Ord n h g ∧ xs.map W.int = (List.range n).map fun k : Nat => .int (h ((k : Int) + 1)) := by
  have n0' : (0 : Int) < n := by omega
  have hlv : vs.length = n := by rw [hq.length_eq]; simp
  have hv1 : ∀ k (h : k < vs.length), 1 ≤ vs[k] ∧ vs[k] ≤ n := fun k h => by
    obtain ⟨i, hi, q⟩ := List.mem_map.mp (hq.mem_iff.mp (List.getElem_mem h))
    have hi := List.mem_range.mp hi
    omega
  have hnd : vs.Nodup := (List.Perm.nodup_iff hq).mpr (by
    rw [List.nodup_iff_pairwise_ne, List.pairwise_map]
    exact List.Pairwise.imp (fun {a b} hab => by omega) (List.nodup_iff_pairwise_ne.mp List.nodup_range))
  have hxv : ∀ k (h : k < vs.length) (h' : k < xs.length), rs n xs[k] = vs[k] := fun k h h' => by
    have h3 := hv1 k h
    rcases hnum k h h' with ⟨e, _⟩ | ⟨e, _⟩
    · rw [e]; exact rs_small n0' h3.1 h3.2
    · exact rs_of (k := 1) n0' h3.1 h3.2 (by omega)
  obtain ⟨h, g, o, ho⟩ := ord_of (v := fun k => xs.getD k 0) n0 (fun k hk => by
      have q := hnum k (by omega) (by omega)
      have h3 := hv1 k (by omega)
      rw [List.getD_eq_getElem?_getD, List.getElem?_eq_getElem (show k < xs.length by omega), Option.getD_some]
      rcases q with ⟨e, _⟩ | ⟨e, _⟩ <;> omega) (fun k hk => by
      have q := hnum k (by omega) (by omega)
      have h3 := hv1 k (by omega)
      rw [List.getD_eq_getElem?_getD, List.getElem?_eq_getElem (show k < xs.length by omega), Option.getD_some]
      rcases q with ⟨e, _⟩ | ⟨e, _⟩ <;> omega) (fun i j hi hj e => by
      rw [List.getD_eq_getElem?_getD, List.getD_eq_getElem?_getD, List.getElem?_eq_getElem (show i < xs.length by omega), List.getElem?_eq_getElem (show j < xs.length by omega), Option.getD_some, Option.getD_some, hxv i (by omega) (by omega), hxv j (by omega) (by omega)] at e
      exact (List.getElem_inj hnd).mp e)
  have hxs : xs.map W.int = (List.range n).map fun k : Nat => .int (h ((k : Int) + 1)) := by
    apply List.ext_getElem
    · simp [hx]
    · intro k hk1 hk2
      simp only [List.length_map] at hk1
      rw [List.getElem_map, List.getElem_map, List.getElem_range, ho k (by omega), List.getD_eq_getElem?_getD, List.getElem?_eq_getElem hk1, Option.getD_some]
  exact ⟨h, g, o, hxs⟩
theorem lrng_n {env : PM.Env} {n : Nat} (hn : n ≤ 1000) (h1 : env[1]? = some (.val (.int n))) : Ev C G env (.frz (.lrng2 (li 1) (eadd (.var 1) (li 1)))) (.lst ((List.range n).map fun i : Nat => .int ((i : Int) + 1))) := ev_frz (evf_lrng2 ev_lit (ev_bin (ev_var h1) ev_lit rfl) (rng_places (by omega)))
theorem call_ov {env : PM.Env} {a b c a1 c1 : Int} {e : Ex} {w u : W} (q : evalE C G e env = .ok (.v w) env) (h0 : env[0]? = some (.own (diceW a b c))) (e1 : C "" "_law_mixed" [.own (diceW a b c), .val w] = .ok true u [diceW a1 b c1]) : evalE C G (.call "_law_mixed" (xb (.bor 0) e)) env = .ok (.v u) (env.set 0 (.own (diceW a1 b c1))) := by
    rw [evalE, evalEs, evalE, h0]
    simp only [R.bind_ok]
    rw [evalEs, q, R.bind_ok, evalEs, R.bind_ok, R.bind_ok, R.bind_ok, callH_sv (o := diceW a b c) h0 e1]
    rfl
theorem do_asgX {env e1 : PM.Env} {i : Nat} {e : Ex} {w : W} (h : evalE C G e env = .ok (.v w) e1) (hi : i < e1.length) : execS C G (.asg (.nm i) e) env = .ok .nx (e1.set i (.val w)) := by
  rw [execS, h]
  simp [R.val, R.bind, R.opt, pv1, bindT, hi]
theorem order_e2 {a b c a1 c1 : Int} {n : Nat} {vs : List Int} (hn : n ≤ 1000) (e1 : C "" "_law_mixed" [.own (diceW a b c), .val (.lst ((List.range n).map fun i : Nat => .int ((i : Int) + 1)))] = .ok true (.lst (vs.map .int)) [diceW a1 b c1]) :
    execS C G (.asg (.nm 2) (.call "_law_mixed" (xb (.bor 0) (.frz (.lrng2 (li 1) (eadd (.var 1) (li 1))))))) [.own (diceW a b c), .val (.int n), .no, .no, .no, .no, .no] = .ok .nx [.own (diceW a1 b c1), .val (.int n), .val (.lst (vs.map .int)), .no, .no, .no, .no] :=
  do_asgX (call_ov (lrng_n hn rfl) rfl e1) (by simp)
theorem order_ok (hr : Rolls C "_law_roll") (hm : Mixes C "_law_mixed") (a b c : Int) (n : Nat) (n0 : 0 < n) (hn : n ≤ 1000) (hc : 0 ≤ c) (hc' : c < 2 ^ 80) :
    ∃ a' c' h g, runF C G ⟨7, 2, [2, 3, 4, 5, 6], B_law_order⟩ [.own (diceW a b c), .val (.int n)] = .ok false (nums n h) [diceW a' b c'] ∧ Ord n h g ∧ 0 ≤ c' ∧ c' ≤ c + 2 * n := by
  have p1 : (2 : Int) ^ 80 + 2000 < 2 ^ 90 := by decide +kernel
  have p2 : (2 : Int) ^ 90 < 2 ^ 99 := by decide +kernel
  have n0' : (0 : Int) < n := by omega
  obtain ⟨us, a1, c1, e1, hp, hc1, hc1'⟩ := hm a b c (.lst ((List.range n).map fun i : Nat => .int ((i : Int) + 1))) _ rfl (by simp; omega) hc (by omega)
  rw [List.length_map, List.length_range] at hc1'
  obtain ⟨vs, rfl, hq⟩ := ints_of_perm (us := us) (l := (List.range n).map fun i : Nat => (i : Int) + 1) (by rw [List.map_map]; exact hp)
  have hlv : vs.length = n := by rw [hq.length_eq]; simp
  have e2 := order_e2 (C := C) (G := G) hn e1
  have e3 : execS C G (.asgO 3 (.lst .nil)) [.own (diceW a1 b c1), .val (.int n), .val (.lst (vs.map .int)), .no, .no, .no, .no] = .ok .nx [.own (diceW a1 b c1), .val (.int n), .val (.lst (vs.map .int)), .own (.lst []), .no, .no, .no] := do_asgO (evf_lst evl_nil) (by simp)
  have key := do_up (C := C) (G := G) (t := .nm 4) (it := .rng (xa (.var 1))) (b := .cons (.asg (.nm 5) (.sub (.var 2) (.var 4))) (.cons (.asg (.nm 6) (.or (.cmp .Lt (.var 5) (eadd (.var 4) (li 1))) (.and (.cmp .Eq (.var 5) (eadd (.var 4) (li 1))) (.cmp .Eq (.call "_law_roll" (xb (.bor 0) (li 2))) (li 0))))) (.cons (.expr (.om 3 .append (xa (eadd (.var 5) (.bin .Mult (.var 1) (.bi .int (xa (.var 6)))))))) .nil)))
    (m := n) (F := fun i => .int (i : Nat)) (env := [.own (diceW a1 b c1), .val (.int n), .val (.lst (vs.map .int)), .own (.lst []), .no, .no, .no])
    (I := fun k e => ∃ a' c' xs s4 s5 s6, e = [.own (diceW a' b c'), .val (.int n), .val (.lst (vs.map .int)), .own (.lst (xs.map .int)), s4, s5, s6] ∧ xs.length = k ∧ (∀ j (h : j < vs.length) (h' : j < xs.length), Num n j vs[j] xs[j]) ∧ 0 ≤ c' ∧ c' ≤ c1 + k)
    (evi_rng (evl_cons (ev_var rfl) evl_nil) (rng1_nat (by omega)))
    (fun k hk e he => by
      obtain ⟨a', c', xs, s4, s5, s6, rfl, h1, h2, h3, h4⟩ := he
      refine ⟨[.own (diceW a' b c'), .val (.int n), .val (.lst (vs.map .int)), .own (.lst (xs.map .int)), .val (.int (k : Nat)), s5, s6], rfl, ?_⟩
      obtain ⟨x, a3, c3, t5, t6, g1, g2, g3, g4⟩ := order_step (C := C) (G := G) hr (n := n) (k := k) (a := a') (b := b) (c := c') (vs := vs) (xs := xs) (s5 := s5) (s6 := s6) (by omega) hn h1 hk h3 (by omega)
      refine ⟨_, g1, a3, c3, xs ++ [x], _, t5, t6, rfl, by simp [h1], fun j hj hj' => ?_, g3, by omega⟩
      by_cases q : j < xs.length
      · rw [List.getElem_append_left q]
        exact h2 j hj q
      · have : j = k := by simp at hj'; omega
        subst this
        rw [List.getElem_append_right (by omega)]
        simpa using g2)
    ⟨a1, c1, [], .no, .no, .no, rfl, rfl, fun j h h' => by simp at h', hc1, by omega⟩
  obtain ⟨e', h1, a2, c2, xs, s4, s5, s6, he', hx, hnum, hc2, hc2'⟩ := key
  subst he'
  obtain ⟨h, g, o, hxs⟩ := order_nums n0 hq hx hnum
  rw [hxs] at h1
  have z : execSs C G B_law_order [.own (diceW a b c), .val (.int n), .no, .no, .no, .no, .no] = .ok (.rt false (nums n h)) [.own (diceW a2 b c2), .val (.int n), .val (.lst (vs.map .int)), .own (.lst ((List.range n).map fun k : Nat => .int (h ((k : Int) + 1)))), s4, s5, s6] := by
    unfold B_law_order
    rw [ss_nx e2, ss_nx e3, ss_nx h1, ss_rt zq]
  exact ⟨a2, c2, h, g, zz z, o, hc2, by omega⟩
end
end PO

set_option maxHeartbeats 4000000
namespace PO
open PM PySem
/-- a def of the table -/
def Fn (T : Tab) (G : Glob) (c f : Str) (k : CKd) (n ps : Nat) (rb : List Nat) (b : Sms) : Prop := kindC G c f = k ∧ T c f = some ⟨n, ps, rb, b⟩
section
variable {T : Tab} {G : Glob} {c f : Str} {n ps m : Nat} {rb : List Nat} {b : Sms}
theorem fn_run {as : List Ar} (h : Fn T G c f .plain n ps rb b) : callN T G (m + 2) c f as = runF (callN T G (m + 1)) G ⟨n, ps, rb, b⟩ as := by rw [call_plain h.1, runT_of h.2]
theorem prop_run {as : List Ar} (h : Fn T G c f .prop n ps rb b) : callN T G (m + 3) c f as = runF (callN T G (m + 1)) G ⟨n, ps, rb, b⟩ as := by rw [call_prop h.1, runT_of h.2]
theorem ret_fn {as : List W} {w : W} {env : PM.Env} (h : Fn T G c f .plain n ps rb b) (hp : as.length = ps) (he : as.map Slot.val ++ List.replicate (n - ps) .no = env) (r : Runs (callN T G (m + 1)) G env b w) : Ret (callN T G (m + 2)) c f as w := by
  subst he
  obtain ⟨fr, r⟩ := run_of (rb := rb) hp r
  exact ⟨fr, by rw [fn_run h, r]⟩
theorem ret_prop {as : List W} {w : W} {env : PM.Env} (h : Fn T G c f .prop n ps rb b) (hp : as.length = ps) (he : as.map Slot.val ++ List.replicate (n - ps) .no = env) (r : Runs (callN T G (m + 1)) G env b w) : Ret (callN T G (m + 3)) c f as w := by
  subst he
  obtain ⟨fr, r⟩ := run_of (rb := rb) hp r
  exact ⟨fr, by rw [prop_run h, r]⟩
theorem ret_new {as : List W} {o : W} {e env : PM.Env} (hk : kindC G "" c = .cls) (ht : T c "__init__" = some ⟨n, ps, rb, b⟩) (hp : as.length + 1 = ps) (hl : rb.contains 0 = false) (he : as.map Slot.val ++ List.replicate (n - ps) .no = env)
    (r : execSs (callN T G (m + 1)) G b (.own (.obj c [] []) :: env) = .ok .nx (.own o :: e)) : Ret (callN T G (m + 3)) "" c as o := by
  subst he
  exact ⟨true, by rw [call_cls hk, runT_of ht]; exact new_of hp hl r⟩
end
/-- what the package's orders need -/
structure OrdT (T : Tab) (G : Glob) (ra rb : Sms) : Prop where
  isw : Fn T G "" "is_whole" .plain 1 1 [] B_is_whole
  isn : Fn T G "" "is_integer" .plain 1 1 [] B_is_integer
  rest : Fn T G "" "rest_of" .plain 2 2 [] B_rest_of
  are : Fn T G "" "are_numbers" .plain 4 1 [1] B_are_numbers
  value : Fn T G "" "value_at" .plain 3 2 [2] B_value_at
  brt : Fn T G "" "brought" .plain 6 2 [2] B_brought
  fall : Fn T G "" "falling_in" .plain 3 1 [] B_falling_in
  knot : Fn T G "" "knots_in" .plain 5 1 [1, 2] B_knots_in
  isC : kindC G "" "Order" = .cls
  init : T "Order" "__init__" = some ⟨2, 2, [], B_init ra⟩
  nums : Fn T G "Order" "numbers" .prop 1 1 [] B_numbers
  many : Fn T G "Order" "many" .prop 1 1 [] B_many
  level : Fn T G "Order" "level" .prop 1 1 [] B_level
  knots : Fn T G "Order" "knots" .prop 1 1 [] B_knots
  size : Fn T G "Order" "size" .prop 2 1 [1] B_size
  ends : Fn T G "Order" "ends" .prop 2 1 [] B_ends
  marks : Fn T G "Order" "marks" .prop 5 1 [1, 2] B_marks
  dual : Fn T G "Order" "dual" .prop 5 1 [1, 2] B_dual
  mir : Fn T G "Order" "mirrored" .prop 5 1 [1, 2] B_mirrored
  tur : Fn T G "Order" "turned" .plain 5 2 [2] (B_turned rb)
  eq : Fn T G "Order" "__eq__" .prop 2 2 [] B_eq
  i1 : G.isi (.ty "int") (.ty "int") = some true
  i2 : G.isi (.ty "int") (.ty "bool") = some false
  i3 : G.isi (.ty "tuple") (.ty "tuple") = some true
  i4 : G.isi (.glo "Order") (.glo "Order") = some true
  great : G.cst "GREAT" = some (.int (10 ^ 60))
  most : G.cst "MOST" = some (.int 8)
  ord : isOrd G
section
variable {T : Tab} {G : Glob} {ra rb : Sms} {n : Nat} {f g : Int → Int}
theorem cls_of {G : Glob} {c f : Str} (h : fldK G c f = true) : ∃ d, G.cls c = some d ∧ d.flds.contains f = true := by
  unfold fldK at h
  split at h
  · exact ⟨_, by assumption, h⟩
  · cases h
namespace OrdT
variable (t : OrdT T G ra rb)
include t
theorem isInt (m : Nat) : IsInt (callN T G (m + 3)) := fun i => ret_fn t.isn rfl rfl (is_integer_ok (fun i => ret_fn t.isw rfl rfl (is_whole_ok t.i1 t.i2 i)) t.great i)
theorem restOf (m : Nat) : RestOf (callN T G (m + 2)) := fun n x h => ret_fn t.rest rfl rfl (rest_of_ok n x h)
theorem areN (m : Nat) (o : Ord n f g) (hn : n ≤ 8) : AreNums (callN T G (m + 4)) n f := ret_fn t.are rfl rfl (are_ok (t.isInt m) (t.restOf _) t.i3 t.most o hn)
theorem valAt (m : Nat) (o : Ord n f g) : ValAt (callN T G (m + 3)) n f := fun x => ret_fn t.value rfl rfl (value_at_ok (t.restOf _) o x)
theorem brtd (m : Nat) {h : Int → Int} (n0 : 0 < n) (hn : n ≤ 1000) (hs : Shf n h) {p q : Nat → Int} (hq : ∀ k, k < n → h (p k) = q k) (un : ∀ i j, i < n → j < n → rs n (p i) = rs n (p j) → i = j) : Brought (callN T G (m + 3)) n h p q := ret_fn t.brt rfl rfl (brought_ok (t.restOf _) n0 hn hs hq un)
theorem fallIn (m : Nat) (o : Ord n f g) (hn : n ≤ 8) : FallIn (callN T G (m + 2)) n f := ret_fn t.fall rfl rfl (falling_ok o.n0 (by omega) f)
theorem knotsIn (m : Nat) (o : Ord n f g) (hn : n ≤ 8) : KnotsIn (callN T G (m + 4)) n f := ret_fn t.knot rfl rfl (knots_ok (t.valAt _ o) o.n0 (by omega))
theorem made (m : Nat) (o : Ord n f g) (hn : n ≤ 8) : Made (callN T G (m + 6)) n f := by
  obtain ⟨d, h1, h2⟩ := cls_of t.ord
  exact ret_new (m := m + 3) t.isC t.init rfl rfl rfl (init_ok (t.areN m o hn) h1 h2 ra)
end OrdT
/-- calls of orders -/
structure OrdC (C : CallT) : Prop where
  make : ∀ {n f g}, Ord n f g → n ≤ 8 → Made C n f
  nums : ∀ n f, Ret C "Order" "numbers" [ordW n f] (PO.nums n f)
  many : ∀ n f, Ret C "Order" "many" [ordW n f] (.int n)
  level : ∀ {n f g}, Ord n f g → n ≤ 8 → Ret C "Order" "level" [ordW n f] (.int (lev n f))
  knots : ∀ {n f g}, Ord n f g → n ≤ 8 → Ret C "Order" "knots" [ordW n f] (.int (kn n f))
  size : ∀ {n f g}, Ord n f g → n ≤ 8 → Ret C "Order" "size" [ordW n f] (.int (sz n f))
  ends : ∀ {n f g}, Ord n f g → n ≤ 8 → Ret C "Order" "ends" [ordW n f] (endsW n f)
  marks : ∀ {n f g}, Ord n f g → n ≤ 8 → Ret C "Order" "marks" [ordW n f] (marksW n f)
  dual : ∀ {n f g}, Ord n f g → n ≤ 8 → Ret C "Order" "dual" [ordW n f] (ordW n (dualF n g))
  mir : ∀ {n f g}, Ord n f g → n ≤ 8 → Ret C "Order" "mirrored" [ordW n f] (ordW n (mirF n g))
  tur : ∀ {n f g}, Ord n f g → n ≤ 8 → ∀ b : Int, -10 ^ 60 < b → b < 10 ^ 60 → Ret C "Order" "turned" [ordW n f, .int b] (ordW n (turF b f))
  eq : ∀ n f, Ret C "Order" "__eq__" [ordW n f, ordW n f] (.bl true)
theorem ordC (t : OrdT T G ra rb) (m : Nat) : OrdC (callN T G (m + 8)) where
  make o hn := t.made (m + 2) o hn
  nums n f := ret_prop t.nums rfl rfl (numbers_ok t.ord)
  many n f := ret_prop t.many rfl rfl (many_ok t.ord)
  level o hn := ret_prop t.level rfl rfl (level_ok (t.fallIn _ o hn) t.ord)
  knots o hn := ret_prop t.knots rfl rfl (knotsP_ok (t.knotsIn _ o hn) t.ord)
  size o hn := ret_prop t.size rfl rfl (size_ok (t.fallIn _ o hn) (t.knotsIn _ o hn) t.ord (by omega))
  ends o hn := ret_prop t.ends rfl rfl (ends_ok (t.restOf _) t.ord o.n0 (by omega))
  marks o hn := ret_prop t.marks rfl rfl (marks_ok t.ord (by omega))
  dual {n f g} o hn := ret_prop t.dual rfl rfl (dual_ok t.ord (by omega) (t.brtd _ o.n0 (by omega) o.dual.fp (fun k _ => by unfold dualF; rw [o.gf]) o.res) (t.made _ o.dual hn))
  mir {n f g} o hn := ret_prop t.mir rfl rfl (mirrored_ok t.ord (by omega) (t.brtd _ o.n0 (by omega) o.mir.fp (fun k _ => by
      unfold mirF
      rw [show (n : Int) + 1 - (n + 1 - f ((k : Int) + 1)) = f ((k : Int) + 1) by omega, o.gf]) (fun i j hi hj e => by
      have n0 : (0 : Int) < n := by have := o.n0; omega
      obtain ⟨k, hk⟩ := rs_cong n0 e
      refine o.res i j hi hj ?_
      rw [show f ((i : Int) + 1) = f ((j : Int) + 1) + n * (-k) by rw [Int.mul_neg]; omega, rs_add _ _ n0])) (t.made _ o.mir hn))
  tur {n f g} o hn b h1 h2 := ret_fn t.tur rfl rfl (turned_ok t.ord (by omega) (t.isInt _) h1 h2 (t.brtd _ o.n0 (by omega) (o.tur b).fp (fun k _ => by unfold turF; rw [Int.add_sub_cancel]) (fun i j hi hj e => inj_step o.n0 (1 + b) 1 (.inl rfl) i j hi hj (by
      rw [show (1 : Int) + b + 1 * (i : Int) = (i : Int) + 1 + b by omega, show (1 : Int) + b + 1 * (j : Int) = (j : Int) + 1 + b by omega]; exact e))) (t.made _ (o.tur b) hn) rb)
  eq n f := ret_prop t.eq rfl rfl (eq_ok t.ord t.i4 n f)
end
end PO

set_option maxHeartbeats 4000000
namespace PO
open PM PySem
/-! ### dicts by lists -/
theorem kEq_int (i j : Int) : kEq (.int i) (.int j) = (i == j) := rfl
theorem dGet_map {α : Type} {key : α → Int} {val : α → W} : ∀ {ls : List α}, (ls.map key).Nodup → ∀ a, a ∈ ls → dGet (ls.map fun a => .int (key a)) (ls.map val) (.int (key a)) = some (val a)
  | [], _, a, h => by cases h
  | b :: ls, hn, a, h => by
    rw [List.map_cons, List.nodup_cons] at hn
    rw [List.map_cons, List.map_cons, dGet, kEq_int]
    by_cases e : key b = key a
    · rw [if_pos (by rw [beq_iff_eq]; exact e)]
      rcases List.mem_cons.mp h with rfl | h
      · rfl
      · exact absurd (List.mem_map.mpr ⟨a, h, e.symm⟩) hn.1
    · rw [if_neg (by rw [beq_iff_eq]; exact e)]
      rcases List.mem_cons.mp h with rfl | h
      · exact absurd rfl e
      · exact dGet_map hn.2 a h
theorem dOf_map {α : Type} {key : α → Int} {val : α → W} : ∀ {ls : List α} {ks us : List W}, (ls.map key).Nodup → (∀ a, a ∈ ls → ∀ k, k ∈ ks → kEq k (.int (key a)) = false) → dOf (ls.map fun a => .tup [.int (key a), val a]) (ks, us) = some (ks ++ ls.map fun a => .int (key a), us ++ ls.map val)
  | [], ks, us, _, _ => by simp [dOf]
  | a :: ls, ks, us, hn, hk => by
    rw [List.map_cons, List.nodup_cons] at hn
    have hp : (ks.any fun k => kEq k (.int (key a))) = false := List.any_eq_false.mpr fun k hk' => by rw [hk a List.mem_cons_self k hk']; decide
    have e : dPut ks us (.int (key a)) (val a) = (ks ++ [.int (key a)], us ++ [val a]) := by
      unfold dPut
      rw [hp]; rfl
    rw [List.map_cons, dOf]
    simp only [isKey, if_true, e]
    rw [dOf_map (ls := ls) hn.2 (fun b hb k hk' => by
      rcases List.mem_append.mp hk' with hk' | hk'
      · exact hk b (List.mem_cons_of_mem _ hb) k hk'
      · obtain rfl := List.mem_singleton.mp hk'
        show (key a == key b) = false
        exact beq_eq_false_iff_ne.mpr fun z => hn.1 (List.mem_map.mpr ⟨b, hb, z.symm⟩))]
    simp
theorem dict_ok {α : Type} {key : α → Int} {val : α → W} {ls : List α} (hn : (ls.map key).Nodup) : dictW [.lst (ls.map fun a => .tup [.int (key a), val a])] = some (.dic (ls.map fun a => .int (key a)) (ls.map val)) := by
  have q := dOf_map (ls := ls) (ks := []) (us := []) (key := key) (val := val) hn fun _ _ _ z => by cases z
  show (match dOf (ls.map fun a => W.tup [.int (key a), val a]) ([], []) with | some (ks, vs) => some (W.dic ks vs) | none => none) = _
  rw [q]; simp
theorem dSub_map {α : Type} {key : α → Int} {val : α → W} {ls : List α} (hn : (ls.map key).Nodup) (hv : ∀ a, a ∈ ls → flatEq (val a) (val a) = true) : ∀ {ms : List α}, (∀ a, a ∈ ms → a ∈ ls) → dSub (ms.map fun a => .int (key a)) (ms.map val) (ls.map fun a => .int (key a)) (ls.map val) = true
  | [], _ => rfl
  | a :: ms, h => by
    rw [List.map_cons, List.map_cons, dSub, dGet_map hn a (h a List.mem_cons_self), dSub_map hn hv fun b hb => h b (List.mem_cons_of_mem _ hb)]
    simp [isKey, hv a (h a List.mem_cons_self)]
theorem dict_ne_same {α : Type} {key : α → Int} {val : α → W} {ls : List α} (hn : (ls.map key).Nodup) (hv : ∀ a, a ∈ ls → flatEq (val a) (val a) = true) : cmpW .NotEq (.dic (ls.map fun a => .int (key a)) (ls.map val)) (.dic (ls.map fun a => .int (key a)) (ls.map val)) = some false := by
  show (if dSame _ _ _ _ = true then some false else none) = _
  rw [if_pos]
  unfold dSame
  rw [dSub_map hn hv fun _ h => h]; simp
/-! ### the law's statements -/
namespace K21
def s0 : Sm := Sm.asg (Tg.tp2 (Tg.nm 4) (Tg.nm 5)) (Ex.tup (xc (Ex.call ("Order" : Str) (xc (Ex.var 1) xn)) (xc (Ex.bi Bi.len (xc (Ex.var 1) xn)) xn)))
def s1 : Sm := Sm.par 6 7 (Pt.v (Ex.bin Operator.Sub (Ex.call ("_law_roll" : Str) (xc (Ex.bor 0) (xc (li 60) xn))) (li 30))) (Pt.v (Ex.call ("_law_pick" : Str) (xc (Ex.bor 0) (xc (Ex.frz (Fr.lst (xc (Ex.bin Operator.Add (Ex.bin Operator.Pow (li 10) (li 40)) (Ex.call ("_law_roll" : Str) (xc (Ex.bor 0) (xc (li 9) xn)))) (xc (Ex.neg (Ex.bin Operator.Pow (li 10) (li 30))) (xc (Ex.call ("_law_roll" : Str) (xc (Ex.bor 0) (xc (li 9) xn))) xn))))) xn))))
def s2 : Sm := Sm.asg (Tg.tp2 (Tg.nm 8) (Tg.nm 9)) (Ex.tup (xc (Ex.att (Ex.var 4) ("dual" : Str)) (xc (Ex.att (Ex.var 4) ("mirrored" : Str)) xn)))
def s3 : Sm := Sm.asg (Tg.nm 2) (Ex.meth (Ex.var 4) ("turned" : Str) (xc (Ex.var 6) xn))
def s4 : Sm := Sm.asg (Tg.nm 3) (Ex.frz (Fr.lst (xc (Ex.call ("_law_dual_of" : Str) (xc (Ex.var 1) xn)) (xc (Ex.call ("_law_mirrored_of" : Str) (xc (Ex.var 1) xn)) (xc (Ex.call ("_law_turned_of" : Str) (xc (Ex.var 1) (xc (Ex.var 6) xn))) xn)))))
def c5 : Ex := Ex.cmp CmpOp.NotEq (Ex.frz (Fr.lst (xc (Ex.att (Ex.var 8) ("numbers" : Str)) (xc (Ex.att (Ex.var 9) ("numbers" : Str)) (xc (Ex.att (Ex.var 2) ("numbers" : Str)) xn))))) (Ex.var 3)
def s5 : Sm := .ifs c5 retFalse .nil
def c6 : Ex := Ex.or (Ex.cmp CmpOp.NotEq (Ex.frz (Fr.lst (xc (Ex.att (Ex.var 8) ("size" : Str)) (xc (Ex.att (Ex.var 9) ("size" : Str)) (xc (Ex.att (Ex.var 2) ("size" : Str)) xn))))) (Ex.bin Operator.Mult (Ex.frz (Fr.lst (xc (Ex.att (Ex.var 4) ("size" : Str)) xn))) (li 3))) (Ex.cmp CmpOp.NotEq (Ex.frz (Fr.lst (xc (Ex.att (Ex.var 9) ("level" : Str)) (xc (Ex.att (Ex.var 2) ("level" : Str)) xn)))) (Ex.bin Operator.Mult (Ex.frz (Fr.lst (xc (Ex.att (Ex.var 4) ("level" : Str)) xn))) (li 2)))
def s6 : Sm := .ifs c6 retFalse .nil
def c7 : Ex := Ex.or (Ex.cmp CmpOp.NotEq (Ex.att (Ex.var 8) ("level" : Str)) (Ex.bin Operator.Sub (Ex.var 5) (Ex.att (Ex.var 4) ("level" : Str)))) (Ex.or (Ex.cmp CmpOp.NotEq (Ex.att (Ex.var 8) ("dual" : Str)) (Ex.var 4)) (Ex.cmp CmpOp.NotEq (Ex.att (Ex.var 9) ("mirrored" : Str)) (Ex.var 4)))
def s7 : Sm := .ifs c7 retFalse .nil
def c8 : Ex := Ex.or (Ex.cmp CmpOp.NotEq (Ex.meth (Ex.meth (Ex.var 4) ("turned" : Str) (xc (Ex.var 6) xn)) ("turned" : Str) (xc (Ex.var 7) xn)) (Ex.meth (Ex.var 4) ("turned" : Str) (xc (Ex.bin Operator.Add (Ex.var 6) (Ex.var 7)) xn))) (Ex.cmp CmpOp.NotEq (Ex.meth (Ex.meth (Ex.var 4) ("turned" : Str) (xc (Ex.var 6) xn)) ("turned" : Str) (xc (Ex.neg (Ex.var 6)) xn)) (Ex.var 4))
def s8 : Sm := .ifs c8 retFalse .nil
def c9 : Ex := Ex.or (Ex.cmp CmpOp.NotEq (Ex.meth (Ex.var 4) ("turned" : Str) (xc (Ex.var 5) xn)) (Ex.var 4)) (Ex.or (Ex.cmp CmpOp.NotEq (Ex.meth (Ex.var 4) ("turned" : Str) (xc (Ex.bin Operator.Mult (Ex.var 5) (Ex.var 7)) xn)) (Ex.var 4)) (Ex.cmp CmpOp.NotEq (Ex.meth (Ex.var 4) ("turned" : Str) (xc (Ex.bin Operator.Add (Ex.var 7) (Ex.var 5)) xn)) (Ex.meth (Ex.var 4) ("turned" : Str) (xc (Ex.var 7) xn))))
def s9 : Sm := .ifs c9 retFalse .nil
def c10 : Ex := Ex.or (Ex.cmp CmpOp.NotEq (Ex.att (Ex.var 8) ("mirrored" : Str)) (Ex.att (Ex.var 9) ("dual" : Str))) (Ex.or (Ex.cmp CmpOp.NotEq (Ex.att (Ex.var 2) ("dual" : Str)) (Ex.meth (Ex.var 8) ("turned" : Str) (xc (Ex.var 6) xn))) (Ex.cmp CmpOp.NotEq (Ex.att (Ex.var 2) ("mirrored" : Str)) (Ex.meth (Ex.var 9) ("turned" : Str) (xc (Ex.neg (Ex.var 6)) xn))))
def s10 : Sm := .ifs c10 retFalse .nil
def c11 : Ex := Ex.cmp CmpOp.NotEq (Ex.frz (Fr.fb Fb.dict (xc (Ex.frz (Fr.comp (Ex.tup (xc (Ex.var 11) (xc (Ex.ite (Ex.cmp CmpOp.Eq (Ex.sub (Ex.att (Ex.var 4) ("marks" : Str)) (Ex.var 11)) (Ex.lit (W.str ("black" : Str)))) (Ex.lit (W.str ("white" : Str))) (Ex.lit (W.str ("black" : Str)))) xn))) (Tg.nm 11) (Iz.seq (Ex.att (Ex.var 4) ("marks" : Str))) (Ex.lit (W.bl true)) [11])) xn))) (Ex.att (Ex.var 8) ("marks" : Str))
def s11 : Sm := .ifs c11 retFalse .nil
def c12 : Ex := Ex.cmp CmpOp.Eq (Ex.frz (Fr.comp (Ex.sub (Ex.att (Ex.var 8) ("ends" : Str)) (Ex.bin Operator.Sub (Ex.var 10) (li 1))) (Tg.nm 10) (Iz.seq (Ex.att (Ex.var 4) ("ends" : Str))) (Ex.lit (W.bl true)) [10])) (Ex.frz (Fr.lrng2 (li 1) (Ex.bin Operator.Add (Ex.var 5) (li 1))))
def s12 : Sm := .ret c12
def B_right : Sms := .cons s0 (.cons s1 (.cons s2 (.cons s3 (.cons s4 (.cons s5 (.cons s6 (.cons s7 (.cons s8 (.cons s9 (.cons s10 (.cons s11 (.cons s12 (.nil)))))))))))))

section
variable {C : CallT} {G : Glob} {env : PM.Env} {n : Nat} {f g : Int → Int} {b m : Int}
theorem ne_ord {x y : Ex} {h h' : Int → Int} (K : OrdC C) (hs : methK G "Order" "__eq__" = some .spec) (hx : Ev C G env x (ordW n h)) (hy : Ev C G env y (ordW n h')) (e : h = h') : Ev C G env (.cmp .NotEq x y) (.bl false) := by
  subst e
  have q := ev_cmpO (op := .NotEq) (c := "Order") (neg := true) (k := true) hx hy (if_pos ⟨rfl, hs⟩) (K.eq n h)
  exact q
theorem ne_same {x y : Ex} {w w' : W} (hx : Ev C G env x w) (hy : Ev C G env y w') (e : w = w') (ho : ownEq G .NotEq w w = none) (hw : dOk 60 w = true) : Ev C G env (.cmp .NotEq x y) (.bl false) := by
  subst e
  exact ev_cmp hx hy ho (cmp_ne_same hw)
theorem e_dual {x : Ex} (K : OrdC C) (hk : methK G "Order" "dual" = some .prop) (o : Ord n f g) (hn : n ≤ 8) (hx : Ev C G env x (ordW n f)) : Ev C G env (.att x "dual") (ordW n (dualF n g)) := ev_prop hx rfl hk (K.dual o hn)
theorem e_mir {x : Ex} (K : OrdC C) (hk : methK G "Order" "mirrored" = some .prop) (o : Ord n f g) (hn : n ≤ 8) (hx : Ev C G env x (ordW n f)) : Ev C G env (.att x "mirrored") (ordW n (mirF n g)) := ev_prop hx rfl hk (K.mir o hn)
theorem e_tur {x y : Ex} (K : OrdC C) (hk : methK G "Order" "turned" = some .meth) (o : Ord n f g) (hn : n ≤ 8) (hx : Ev C G env x (ordW n f)) (hy : Ev C G env y (.int b)) (h1 : -10 ^ 60 < b) (h2 : b < 10 ^ 60) : Ev C G env (.meth x "turned" (xc y xn)) (ordW n (turF b f)) := ev_meth hx hk (by decide +kernel) (evl_cons hy evl_nil) (K.tur o hn b h1 h2)
theorem e_nums {x : Ex} (K : OrdC C) (hk : methK G "Order" "numbers" = some .prop) (hx : Ev C G env x (ordW n f)) : Ev C G env (.att x "numbers") (nums n f) := ev_prop hx rfl hk (K.nums n f)
theorem e_size {x : Ex} (K : OrdC C) (hk : methK G "Order" "size" = some .prop) (o : Ord n f g) (hn : n ≤ 8) (hx : Ev C G env x (ordW n f)) : Ev C G env (.att x "size") (.int (sz n f)) := ev_prop hx rfl hk (K.size o hn)
theorem e_level {x : Ex} (K : OrdC C) (hk : methK G "Order" "level" = some .prop) (o : Ord n f g) (hn : n ≤ 8) (hx : Ev C G env x (ordW n f)) : Ev C G env (.att x "level") (.int (lev n f)) := ev_prop hx rfl hk (K.level o hn)
theorem e_marks {x : Ex} (K : OrdC C) (hk : methK G "Order" "marks" = some .prop) (o : Ord n f g) (hn : n ≤ 8) (hx : Ev C G env x (ordW n f)) : Ev C G env (.att x "marks") (marksW n f) := ev_prop hx rfl hk (K.marks o hn)
theorem e_ends {x : Ex} (K : OrdC C) (hk : methK G "Order" "ends" = some .prop) (o : Ord n f g) (hn : n ≤ 8) (hx : Ev C G env x (ordW n f)) : Ev C G env (.att x "ends") (endsW n f) := ev_prop hx rfl hk (K.ends o hn)
/-! equal orders -/
theorem dual2 (o : Ord n f g) : dualF n (fun x => f (x - n)) = f := funext fun x => by
  have h := o.fp (x - n)
  rw [Int.sub_add_cancel] at h
  show f (x - n) + n = f x
  omega
theorem mir2 (o : Ord n f g) : mirF n (mirF n f) = f := funext fun x => by
  unfold mirF
  rw [show (n : Int) + 1 - (n + 1 - x) = x by omega]; omega
theorem tur2 (b m : Int) (f : Int → Int) : turF m (turF b f) = turF (b + m) f := funext fun x => by
  unfold turF
  rw [show x - m - b = x - (b + m) by omega]; omega
theorem tur0 (f : Int → Int) : turF 0 f = f := funext fun x => by unfold turF; simp
theorem turn_n (o : Ord n f g) (k : Int) : turF (n * k) f = f := funext fun x => by
  have h := o.fp.int (x - n * k) k
  rw [Int.sub_add_cancel] at h
  unfold turF; omega
theorem turn_add (o : Ord n f g) (m : Int) : turF (m + n) f = turF m f := by
  rw [Int.add_comm, ← tur2]
  have := turn_n o 1
  rw [Int.mul_one] at this
  rw [this]
theorem dm (o : Ord n f g) : mirF n (fun x => f (x - n)) = dualF n (mirF n f) := funext fun x => by
  have h := o.fp (n + 1 - x - n)
  rw [Int.sub_add_cancel] at h
  show (n : Int) + 1 - f (n + 1 - x - n) = n + 1 - f (n + 1 - x) + n
  omega
theorem td (b : Int) : dualF n (turF b g) = turF b (dualF n g) := funext fun x => by
  show g (x - b) + b + n = g (x - b) + n + b
  omega
theorem tm (b : Int) : mirF n (turF b g) = turF (-b) (mirF n g) := funext fun x => by
  show (n : Int) + 1 - (g (n + 1 - x - b) + b) = n + 1 - g (n + 1 - (x - -b)) + -b
  rw [show (n : Int) + 1 - (x - -b) = n + 1 - x - b by omega]; omega
theorem sz_of {h : Int → Int} (e1 : lev n h = lev n f) (e2 : kn n h = kn n f) : sz n h = sz n f := by unfold sz; rw [e1, e2]
theorem sz_dual (o : Ord n f g) : sz n (dualF n g) = sz n f := by
  have h1 := lev_dual o
  have h2 : kn n (dualF n g) = kn n f := by
    rw [← kn_inv o]
    unfold kn dualF
    refine sm_congr fun k _ => sm_congr fun d _ => ?_
    congr 1
    exact decide_eq_decide.mpr (by omega)
  unfold sz
  rw [h1, h2, show (n : Int) - (n - lev n f) = lev n f by omega, Int.mul_comm]
theorem sz_mir (o : Ord n f g) : sz n (mirF n g) = sz n f := sz_of (lev_mir o) ((kn_mir o).trans (kn_inv o))
theorem sz_tur (o : Ord n f g) (b : Int) : sz n (turF b f) = sz n f := sz_of (lev_tur o b) (kn_tur o b)
structure KO (G : Glob) : Prop where
  nums : methK G "Order" "numbers" = some .prop
  level : methK G "Order" "level" = some .prop
  size : methK G "Order" "size" = some .prop
  ends : methK G "Order" "ends" = some .prop
  marks : methK G "Order" "marks" = some .prop
  dual : methK G "Order" "dual" = some .prop
  mir : methK G "Order" "mirrored" = some .prop
  tur : methK G "Order" "turned" = some .meth
  eq : methK G "Order" "__eq__" = some .spec
/-- what the frame holds -/
structure Held (env : PM.Env) (n : Nat) (f g : Int → Int) (b m : Int) : Prop where
  h2 : env[2]? = some (.val (ordW n (turF b f)))
  h4 : env[4]? = some (.val (ordW n f))
  h5 : env[5]? = some (.val (.int n))
  h6 : env[6]? = some (.val (.int b))
  h7 : env[7]? = some (.val (.int m))
  h8 : env[8]? = some (.val (ordW n (dualF n g)))
  h9 : env[9]? = some (.val (ordW n (mirF n g)))
variable (K : OrdC C) (M : KO G) (o : Ord n f g) (hn : n ≤ 8) (H : Held env n f g b m) (hb : b.natAbs ≤ 100) (hm : m.natAbs ≤ 10 ^ 50)
include K M o hn H
theorem c5_ok (h3 : env[3]? = some (.val (.lst [nums n (dualF n g), nums n (mirF n g), nums n (turF b f)]))) : Ev C G env c5 (.bl false) :=
  ne_same (ev_frz (evf_lst (evl_cons (e_nums K M.nums (ev_var H.h8)) (evl_cons (e_nums K M.nums (ev_var H.h9)) (evl_cons (e_nums K M.nums (ev_var H.h2)) evl_nil))))) (ev_var h3) rfl rfl (dOk_lst (n := 59) fun w hw => by
    simp only [List.mem_cons, List.not_mem_nil, or_false] at hw
    rcases hw with rfl | rfl | rfl <;> exact dOk_tab n 58 _)
theorem c6_ok : Ev C G env c6 (.bl false) := by
  refine ev_orf (ne_same (w := .lst [.int (sz n (dualF n g)), .int (sz n (mirF n g)), .int (sz n (turF b f))]) (w' := .lst [.int (sz n f), .int (sz n f), .int (sz n f)]) (ev_frz (evf_lst (evl_cons (e_size K M.size o.dual hn (ev_var H.h8)) (evl_cons (e_size K M.size o.mir hn (ev_var H.h9)) (evl_cons (e_size K M.size (o.tur b) hn (ev_var H.h2)) evl_nil))))) (ev_bin (ev_frz (evf_lst (evl_cons (e_size K M.size o hn (ev_var H.h4)) evl_nil))) ev_lit rfl) ?_ rfl rfl) ?_
  · rw [sz_dual o, sz_mir o, sz_tur o b]
  · refine ne_same (w := .lst [.int (lev n (mirF n g)), .int (lev n (turF b f))]) (w' := .lst [.int (lev n f), .int (lev n f)]) (ev_frz (evf_lst (evl_cons (e_level K M.level o.mir hn (ev_var H.h9)) (evl_cons (e_level K M.level (o.tur b) hn (ev_var H.h2)) evl_nil)))) (ev_bin (ev_frz (evf_lst (evl_cons (e_level K M.level o hn (ev_var H.h4)) evl_nil))) ev_lit rfl) ?_ rfl rfl
    rw [lev_mir o, lev_tur o b]
theorem c7_ok : Ev C G env c7 (.bl false) :=
  ev_orf (ne_same (e_level K M.level o.dual hn (ev_var H.h8)) (ev_bin (ev_var H.h5) (e_level K M.level o hn (ev_var H.h4)) rfl) (by rw [lev_dual o]) rfl rfl)
    (ev_orf (ne_ord K M.eq (e_dual K M.dual o.dual hn (ev_var H.h8)) (ev_var H.h4) (dual2 o)) (ne_ord K M.eq (e_mir K M.mir o.mir hn (ev_var H.h9)) (ev_var H.h4) (mir2 o)))
include hb hm
theorem c8_ok : Ev C G env c8 (.bl false) :=
  ev_orf (ne_ord K M.eq (e_tur K M.tur (o.tur b) hn (e_tur K M.tur o hn (ev_var H.h4) (ev_var H.h6) (by omega) (by omega)) (ev_var H.h7) (by omega) (by omega)) (e_tur K M.tur o hn (ev_var H.h4) (ev_bin (ev_var H.h6) (ev_var H.h7) rfl) (by omega) (by omega)) (tur2 b m f))
    (ne_ord K M.eq (e_tur K M.tur (o.tur b) hn (e_tur K M.tur o hn (ev_var H.h4) (ev_var H.h6) (by omega) (by omega)) (ev_neg (ev_var H.h6)) (by omega) (by omega)) (ev_var H.h4) (by rw [tur2, show b + -b = 0 by omega, tur0]))
theorem c9_ok : Ev C G env c9 (.bl false) := by
  have p : ((n : Int) * m).natAbs ≤ 8 * 10 ^ 50 := by rw [Int.natAbs_mul]; exact Nat.mul_le_mul (by omega) hm
  have p8 : (8 : Nat) ≤ 2 ^ 100 := by decide
  have q : mulI (n : Int) m = some (.int (n * m)) := mulI_ok (big_small (by omega)) (Nat.lt_of_le_of_lt hm (Nat.lt_trans (show (10 : Nat) ^ 50 < 2 ^ 200 by decide) big_lt))
  exact ev_orf (ne_ord K M.eq (e_tur K M.tur o hn (ev_var H.h4) (ev_var H.h5) (by omega) (by omega)) (ev_var H.h4) (by have := turn_n o 1; rwa [Int.mul_one] at this))
    (ev_orf (ne_ord K M.eq (e_tur K M.tur o hn (ev_var H.h4) (ev_bin (ev_var H.h5) (ev_var H.h7) q) (by omega) (by omega)) (ev_var H.h4) (turn_n o m))
      (ne_ord K M.eq (e_tur K M.tur o hn (ev_var H.h4) (ev_bin (ev_var H.h7) (ev_var H.h5) rfl) (by omega) (by omega)) (e_tur K M.tur o hn (ev_var H.h4) (ev_var H.h7) (by omega) (by omega)) (turn_add o m)))
theorem c10_ok : Ev C G env c10 (.bl false) :=
  ev_orf (ne_ord K M.eq (e_mir K M.mir o.dual hn (ev_var H.h8)) (e_dual K M.dual o.mir hn (ev_var H.h9)) (dm o))
    (ev_orf (ne_ord K M.eq (e_dual K M.dual (o.tur b) hn (ev_var H.h2)) (e_tur K M.tur o.dual hn (ev_var H.h8) (ev_var H.h6) (by omega) (by omega)) (td b))
      (ne_ord K M.eq (e_mir K M.mir (o.tur b) hn (ev_var H.h2)) (e_tur K M.tur o.mir hn (ev_var H.h9) (ev_neg (ev_var H.h6)) (by omega) (by omega)) (tm b)))
omit hb hm
theorem fix_dual : fixL n (dualF n g) = fixL n f := by
  have key : ∀ x : Int, (dualF n g x = x ∨ dualF n g x = x + n) ↔ (f x = x ∨ f x = x + n) := fun x => by
    have h1 := o.gf x
    have h2 := o.fg x
    have h3 := o.gp x
    have h4 := o.fp (g x)
    unfold dualF
    constructor
    · rintro (h | h)
      · right
        rw [h2] at h4
        rw [show g x + n = x by omega] at h4
        exact h4
      · left
        rw [show g x = x by omega] at h2
        exact h2
    · rintro (h | h)
      · right
        rw [h] at h1
        omega
      · left
        rw [h] at h1
        omega
  unfold fixL
  exact List.filter_congr fun k _ => decide_eq_decide.mpr (key _)
theorem mark_dual {k : Nat} (hk : k ∈ fixL n f) : markW (dualF n g) k = .str (if f ((k : Int) + 1) = (k : Int) + 1 then "white" else "black") := by
  have h0 := of_decide_eq_true (List.mem_filter.mp hk).2
  have n0 := o.n0
  have h1 := o.gf ((k : Int) + 1)
  have h3 := o.gp ((k : Int) + 1)
  unfold markW dualF
  congr 1
  rcases h0 with h | h
  · rw [h] at h1
    rw [if_pos h, if_neg (by omega)]
  · rw [h] at h1
    rw [if_pos (show g ((k : Int) + 1) + n = (k : Int) + 1 by omega), if_neg (show ¬ f ((k : Int) + 1) = (k : Int) + 1 by omega)]
theorem c11_ok (hl : 12 ≤ env.length) (h11 : env[11]? = some .no) : Ev C G env c11 (.bl false) := by
  have hlen : (fixL n f).length < 1000000 := by
    unfold fixL
    refine Nat.lt_of_le_of_lt (List.length_filter_le _ _) ?_
    simp; omega
  have nd : ((fixL n f).map fun k : Nat => (k : Int) + 1).Nodup := by
    rw [List.nodup_iff_pairwise_ne, List.pairwise_map]
    exact List.Pairwise.imp (fun {a b} hab => by omega) (List.nodup_iff_pairwise_ne.mp (List.nodup_range.filter _))
  let val : Nat → W := fun k => .str (if f ((k : Int) + 1) = (k : Int) + 1 then "white" else "black")
  have hw : wipeE env [11] = env := by
    apply List.ext_getElem?
    intro j
    rw [wipe_get]
    by_cases hj : j ∈ [11]
    · obtain rfl := List.mem_singleton.mp hj
      rw [if_pos hj, h11]; rfl
    · rw [if_neg hj]
  have hval : marksW n (dualF n g) = .dic ((fixL n f).map fun k : Nat => .int ((k : Int) + 1)) ((fixL n f).map val) := by
    unfold marksW
    rw [fix_dual K M o hn H]
    congr 1
    exact List.map_congr_left fun k hk => mark_dual K M o hn H hk
  have hd : Ev C G env (Ex.frz (Fr.fb Fb.dict (xc (Ex.frz (Fr.comp (Ex.tup (xc (Ex.var 11) (xc (Ex.ite (Ex.cmp CmpOp.Eq (Ex.sub (Ex.att (Ex.var 4) ("marks" : Str)) (Ex.var 11)) (Ex.lit (W.str ("black" : Str)))) (Ex.lit (W.str ("white" : Str))) (Ex.lit (W.str ("black" : Str)))) xn))) (Tg.nm 11) (Iz.seq (Ex.att (Ex.var 4) ("marks" : Str))) (Ex.lit (W.bl true)) [11])) xn))) (.dic ((fixL n f).map fun k : Nat => .int ((k : Int) + 1)) ((fixL n f).map val)) := by
    refine ev_frz (evf_fb (evl_cons (ev_frz (evf_map (ls := fixL n f) (tw := fun k : Nat => .int ((k : Int) + 1)) (f := fun k : Nat => .tup [.int ((k : Int) + 1), val k]) (evi_seq (e_marks K M.marks o hn (ev_var H.h4)) rfl) rfl (by simp [noOwn, h11]) hlen fun k hk => ?_)) evl_nil) (dict_ok nd))
    rw [hw]
    have g11 : (env.set 11 (.val (.int ((k : Int) + 1))))[11]? = some (.val (.int ((k : Int) + 1))) := by rw [List.getElem?_set_self (by omega)]
    have g4 : (env.set 11 (.val (.int ((k : Int) + 1))))[4]? = some (.val (ordW n f)) := by rw [List.getElem?_set_ne (by omega)]; exact H.h4
    refine ⟨env.set 11 (.val (.int ((k : Int) + 1))), if_pos (by omega), ?_, ev_tup (evl_cons (ev_var g11) (evl_cons ?_ evl_nil))⟩
    · show (env.set 11 _).set 11 Slot.no = env
      rw [List.set_set]
      exact hw
    · have q := ev_ite (C := C) (G := G) (u := .str "white") (v := .str "black") (ev_cmp (op := .Eq) (k := decide (f ((k : Int) + 1) = (k : Int) + 1)) (ev_sub (e_marks K M.marks o hn (ev_var g4)) (ev_var g11) (w := markW f k) (dGet_map nd k hk)) (ev_lit (w := .str "black")) rfl (by
          unfold markW
          by_cases h : f ((k : Int) + 1) = (k : Int) + 1
          · rw [if_pos h, decide_eq_true h]; decide +kernel
          · rw [if_neg h, decide_eq_false h]; decide +kernel)) (fun _ => ev_lit) (fun _ => ev_lit)
      have e : (if decide (f ((k : Int) + 1) = (k : Int) + 1) = true then W.str "white" else W.str "black") = val k := by
        show _ = W.str (if f ((k : Int) + 1) = (k : Int) + 1 then "white" else "black")
        by_cases h : f ((k : Int) + 1) = (k : Int) + 1 <;> simp [h]
      rw [e] at q
      exact q
  have hm : Ev C G env (.att (.var 8) "marks") (.dic ((fixL n f).map fun k : Nat => .int ((k : Int) + 1)) ((fixL n f).map val)) := by
    rw [← hval]
    exact e_marks K M.marks o.dual hn (ev_var H.h8)
  exact ev_cmp hd hm rfl (dict_ne_same nd fun k _ => by
    show decide (_ = _) = true
    exact decide_eq_true rfl)
theorem c12_ok (hl : 12 ≤ env.length) (h10 : env[10]? = some .no) : Ev C G env c12 (.bl true) := by
  have n0 : (0 : Int) < n := by have := o.n0; omega
  have hw : wipeE env [10] = env := by
    apply List.ext_getElem?
    intro j
    rw [wipe_get]
    by_cases hj : j ∈ [10]
    · obtain rfl := List.mem_singleton.mp hj
      rw [if_pos hj, h10]; rfl
    · rw [if_neg hj]
  have h1 : Ev C G env (.frz (Fr.comp (Ex.sub (Ex.att (Ex.var 8) ("ends" : Str)) (Ex.bin Operator.Sub (Ex.var 10) (li 1))) (Tg.nm 10) (Iz.seq (Ex.att (Ex.var 4) ("ends" : Str))) (Ex.lit (W.bl true)) [10])) (.lst ((List.range n).map fun k : Nat => .int ((k : Int) + 1))) := by
    refine ev_frz (evf_map (ls := List.range n) (tw := fun k : Nat => .int (rs n (f ((k : Int) + 1)))) (f := fun k : Nat => .int ((k : Int) + 1)) (evi_seq (e_ends K M.ends o hn (ev_var H.h4)) rfl) rfl (by simp [noOwn, h10]) (by simp; omega) fun k hk => ?_)
    have hk := List.mem_range.mp hk
    rw [hw]
    generalize hy : rs n (f ((k : Int) + 1)) = y
    have y1 := rs_lo n0 (f ((k : Int) + 1))
    have y2 := rs_hi n0 (f ((k : Int) + 1))
    rw [hy] at y1 y2
    have g10 : (env.set 10 (.val (.int y)))[10]? = some (.val (.int y)) := by rw [List.getElem?_set_self (by omega)]
    have g8 : (env.set 10 (.val (.int y)))[8]? = some (.val (ordW n (dualF n g))) := by rw [List.getElem?_set_ne (by omega)]; exact H.h8
    refine ⟨env.set 10 (.val (.int y)), if_pos (by omega), ?_, ev_sub (e_ends K M.ends o.dual hn (ev_var g8)) (ev_bin (ev_var g10) ev_lit rfl) ((sub_tup _ (i := y - 1) (by omega) (by omega)).trans ?_)⟩
    · show (env.set 10 _).set 10 Slot.no = env
      rw [List.set_set]
      exact hw
    · show some (W.int (rs n (dualF n g (((y - 1).toNat : Nat) + 1)))) = _
      rw [show (((y - 1).toNat : Nat) : Int) + 1 = y by omega]
      have e : dualF n g y = (k : Int) + 1 + n * (1 - (f ((k : Int) + 1) - 1) / n) := by
        have q := o.gp.int y ((f ((k : Int) + 1) - 1) / n)
        have q2 := rs_eq n (f ((k : Int) + 1))
        rw [hy] at q2
        rw [← q2, o.gf] at q
        unfold dualF
        rw [Int.mul_sub, Int.mul_one]; omega
      rw [e, rs_add _ _ n0, rs_small n0 (by omega) (by omega)]
  exact ev_cmp h1 (ev_frz (evf_lrng2 ev_lit (ev_bin (ev_var H.h5) ev_lit rfl) (rng_places (by omega)))) rfl (cmp_eq_same (dOk_tabL n 59 _))
end
end K21
end PO

set_option maxHeartbeats 4000000
namespace PO
open PM PySem
section
variable {C : CallT} {G : Glob} {env : PM.Env}
theorem ev_call_ov {f : Str} {e1 : PM.Env} {e : Ex} {oi o o' w u : W} {fr : Bool} {i : Nat} (hi : env[i]? = some (.own oi)) (q : evalE C G e env = .ok (.v w) e1) (h0 : e1[i]? = some (.own o)) (h : C "" f [.own o, .val w] = .ok fr u [o']) : evalE C G (.call f (xb (.bor i) e)) env = .ok (.v u) (e1.set i (.own o')) := by
  rw [evalE, evalEs, evalE, hi]
  simp only [R.bind_ok]
  rw [evalEs, q, R.bind_ok, evalEs, R.bind_ok, R.bind_ok, R.bind_ok, callH_sv h0 h]
  rfl
theorem evs_cons {e : Ex} {es : Exs} {h : Hd} {hs : List Hd} {e1 e2 : PM.Env} (h1 : evalE C G e env = .ok h e1) (h2 : evalEs C G es e1 = .ok hs e2) : evalEs C G (.cons e es) env = .ok (h :: hs) e2 := by
  rw [evalEs, h1, R.bind_ok, h2]; rfl
theorem evs_nil : evalEs C G .nil env = .ok [] env := by rw [evalEs]
theorem ex_frz_lst {es : Exs} {ws : List W} {e1 : PM.Env} (h : evalEs C G es env = .ok (ws.map .v) e1) : evalE C G (.frz (.lst es)) env = .ok (.v (.lst ws)) e1 := by
  rw [evalE, evalF, h, R.bind_ok, pvs_v]; rfl
theorem ex_bin {op : Operator} {a b : Ex} {u v w : W} {e1 e2 : PM.Env} (ha : evalE C G a env = .ok (.v u) e1) (hb : evalE C G b e1 = .ok (.v v) e2) (h : binW op u v = some w) : evalE C G (.bin op a b) env = .ok (.v w) e2 := by
  rw [evalE, ha, R.bind_ok, hb, R.bind_ok]
  simp only [rd, h]; rfl
theorem ex_par {i j : Nat} {a b : Ex} {u v : W} {e1 e2 : PM.Env} (ha : evalE C G a env = .ok (.v u) e1) (hb : evalE C G b e1 = .ok (.v v) e2) (hi : i < e2.length) (hj : j < e2.length) (hij : i ≠ j) : execS C G (.par i j (.v a) (.v b)) env = .ok .nx ((e2.set i (.val u)).set j (.val v)) := by
  rw [execS, evalP, ha, R.bind_ok, R.bind_ok, evalP, hb, R.bind_ok, R.bind_ok]
  unfold putS
  rw [if_pos ⟨hi, hj, hij⟩]
end
namespace K21
section
variable {C : CallT} {G : Glob} {env : PM.Env} {n : Nat} {f g : Int → Int}
theorem pow_ok (k : Nat) (h : k ≤ 1000) : binW .Pow (.int 10) (.int k) = some (.int (10 ^ k)) := by
  show (if _ then _ else _) = _
  rw [if_pos ⟨by omega, by omega, by decide⟩]
  simp
theorem s1_ok (hr : Rolls C "_law_roll") (hp : Picks C "_law_pick") {a b c : Int} (hd : env[0]? = some (.own (diceW a b c))) (hl : 12 ≤ env.length) (hc : 0 ≤ c) (hc' : c < 2 ^ 90) :
    ∃ by_ more a' c', execS C G s1 env = .ok .nx (((env.set 0 (.own (diceW a' b c'))).set 6 (.val (.int by_))).set 7 (.val (.int more))) ∧ by_.natAbs ≤ 100 ∧ more.natAbs ≤ 10 ^ 50 ∧ 0 ≤ c' ∧ c' ≤ c + 4 := by
  have p1 : (2 : Int) ^ 90 + 10 < 2 ^ 100 := by decide +kernel
  have p2 : (2 : Int) ^ 100 < 2 ^ 200 := by decide +kernel
  have p3 : (60 : Int) < 2 ^ 100 := by decide +kernel
  obtain ⟨r1, a1, c1, h1, l1, u1, d1, k1⟩ := roll_ev (G := G) hr (i := 0) (e := li 60) (t := 60) ev_lit hd (by omega) (by omega) hc (by omega)
  generalize he1 : env.set 0 (.own (diceW a1 b c1)) = e1 at h1
  have hd1 : e1[0]? = some (.own (diceW a1 b c1)) := by rw [← he1, List.getElem?_set_self (by omega)]
  obtain ⟨r2, a2, c2, h2, l2, u2, d2, k2⟩ := roll_ev (G := G) hr (i := 0) (e := li 9) (t := 9) ev_lit hd1 (by omega) (by omega) d1 (by omega)
  generalize he2 : e1.set 0 (.own (diceW a2 b c2)) = e2 at h2
  have hd2 : e2[0]? = some (.own (diceW a2 b c2)) := by rw [← he2, ← he1, List.set_set, List.getElem?_set_self (by omega)]
  obtain ⟨r3, a3, c3, h3, l3, u3, d3, k3⟩ := roll_ev (G := G) hr (i := 0) (e := li 9) (t := 9) ev_lit hd2 (by omega) (by omega) d2 (by omega)
  generalize he3 : e2.set 0 (.own (diceW a3 b c3)) = e3 at h3
  have hd3 : e3[0]? = some (.own (diceW a3 b c3)) := by rw [← he3, ← he2, ← he1, List.set_set, List.set_set, List.getElem?_set_self (by omega)]
  obtain ⟨w, a4, c4, h4, hw, d4, k4⟩ := hp a3 b c3 [.int (10 ^ 40 + r2), .int (-(10 ^ 30)), .int r3] (by simp) (by simp) d3 (by omega)
  have q1 : evalE C G (.bin .Sub (.call "_law_roll" (xc (.bor 0) (xc (li 60) xn))) (li 30)) env = .ok (.v (.int (r1 - 30))) e1 := ex_bin h1 (ev_lit (C := C) (G := G) (env := e1)) rfl
  have q2 : evalE C G (.frz (.lst (xc (.bin .Add (.bin .Pow (li 10) (li 40)) (.call "_law_roll" (xc (.bor 0) (xc (li 9) xn)))) (xc (.neg (.bin .Pow (li 10) (li 30))) (xc (.call "_law_roll" (xc (.bor 0) (xc (li 9) xn))) xn))))) e1 = .ok (.v (.lst [.int (10 ^ 40 + r2), .int (-(10 ^ 30)), .int r3])) e3 := by
    refine ex_frz_lst (ws := [.int (10 ^ 40 + r2), .int (-(10 ^ 30)), .int r3]) (evs_cons (ex_bin (ev_bin (C := C) (G := G) (env := e1) ev_lit ev_lit (pow_ok 40 (by omega))) h2 rfl) (evs_cons (ev_neg (C := C) (G := G) (env := e2) (ev_bin ev_lit ev_lit (pow_ok 30 (by omega)))) (evs_cons h3 evs_nil)))
  have hm : ∃ more : Int, w = .int more ∧ more.natAbs ≤ 10 ^ 50 := by
    simp only [List.mem_cons, List.not_mem_nil, or_false] at hw
    rcases hw with rfl | rfl | rfl
    · exact ⟨_, rfl, by omega⟩
    · exact ⟨_, rfl, by omega⟩
    · exact ⟨_, rfl, by omega⟩
  obtain ⟨more, rfl, hm⟩ := hm
  have q3 := ev_call_ov (C := C) (G := G) hd1 q2 hd3 h4
  have le3 : e3.length = env.length := by rw [← he3, ← he2, ← he1]; simp
  have q := ex_par (C := C) (G := G) (i := 6) (j := 7) q1 q3 (by simp; omega) (by simp; omega) (by decide)
  refine ⟨r1 - 30, more, a4, c4, q.trans ?_, by omega, hm, d4, by omega⟩
  rw [← he3, ← he2, ← he1, List.set_set, List.set_set, List.set_set]
/-- the law's look at one order -/
theorem right_ok (K : OrdC C) (M : KO G) (hr : Rolls C "_law_roll") (hp : Picks C "_law_pick") (o : Ord n f g) (hn : n ≤ 8)
    (hv1 : Ret C "" "_law_dual_of" [nums n f] (nums n (dualF n g))) (hv2 : Ret C "" "_law_mirrored_of" [nums n f] (nums n (mirF n g))) (hv3 : ∀ b : Int, b.natAbs ≤ 1000 → Ret C "" "_law_turned_of" [nums n f, .int b] (nums n (turF b f)))
    {a b c : Int} (hc : 0 ≤ c) (hc' : c < 2 ^ 90) : ∃ fr a' c', runF C G ⟨12, 2, [4, 5, 6, 7, 8, 9, 2, 3], B_right⟩ [.own (diceW a b c), .val (nums n f)] = .ok fr (.bl true) [diceW a' b c'] ∧ 0 ≤ c' ∧ c' ≤ c + 4 := by
  obtain ⟨by_, more, a', c', h1, hb, hm, hc1, hc2⟩ := s1_ok (C := C) (G := G) (env := [.own (diceW a b c), .val (nums n f), .no, .no, .val (ordW n f), .val (.int n), .no, .no, .no, .no, .no, .no]) hr hp rfl (by simp) hc hc'
  have H : Held [.own (diceW a' b c'), .val (nums n f), .val (ordW n (turF by_ f)), .val (.lst [nums n (dualF n g), nums n (mirF n g), nums n (turF by_ f)]), .val (ordW n f), .val (.int n), .val (.int by_), .val (.int more), .val (ordW n (dualF n g)), .val (ordW n (mirF n g)), .no, .no] n f g by_ more := ⟨rfl, rfl, rfl, rfl, rfl, rfl, rfl⟩
  have run : RunE C G [.own (diceW a b c), .val (nums n f), .no, .no, .no, .no, .no, .no, .no, .no, .no, .no] B_right (.bl true) [.own (diceW a' b c'), .val (nums n f), .val (ordW n (turF by_ f)), .val (.lst [nums n (dualF n g), nums n (mirF n g), nums n (turF by_ f)]), .val (ordW n f), .val (.int n), .val (.int by_), .val (.int more), .val (ordW n (dualF n g)), .val (ordW n (mirF n g)), .no, .no] := by
    refine re_asgT (ev_tup (evl_cons (ev_call (evl_cons (ev_var rfl) evl_nil) (K.make o hn)) (evl_cons (ev_bi (evl_cons (ev_var rfl) evl_nil) (len_tup _ _ _)) evl_nil))) rfl ?_
    refine re_nx h1 ?_
    refine re_asgT (ev_tup (evl_cons (e_dual K M.dual o hn (ev_var rfl)) (evl_cons (e_mir K M.mir o hn (ev_var rfl)) evl_nil))) rfl ?_
    refine re_asg (e_tur (b := by_) K M.tur o hn (ev_var rfl) (ev_var rfl) (by omega) (by omega)) (by simp) ?_
    refine re_asg (ev_frz (evf_lst (evl_cons (ev_call (evl_cons (ev_var rfl) evl_nil) hv1) (evl_cons (ev_call (evl_cons (ev_var rfl) evl_nil) hv2) (evl_cons (ev_call (evl_cons (ev_var rfl) (evl_cons (ev_var rfl) evl_nil)) (hv3 by_ (by omega))) evl_nil))))) (by simp) ?_
    refine re_skip (c5_ok K M o hn H rfl) ?_
    refine re_skip (c6_ok K M o hn H) ?_
    refine re_skip (c7_ok K M o hn H) ?_
    refine re_skip (c8_ok K M o hn H hb hm) ?_
    refine re_skip (c9_ok K M o hn H hb hm) ?_
    refine re_skip (c10_ok K M o hn H hb hm) ?_
    refine re_skip (c11_ok K M o hn H (by simp) rfl) ?_
    exact re_ret (c12_ok K M o hn H (by simp) rfl)
  obtain ⟨fr, run⟩ := run
  have y : ∀ B : Sms, runF C G ⟨12, 2, [4, 5, 6, 7, 8, 9, 2, 3], B⟩ [.own (diceW a b c), .val (nums n f)] = endR [.own (diceW a b c), .val (nums n f)] (execSs C G B [.own (diceW a b c), .val (nums n f), .no, .no, .no, .no, .no, .no, .no, .no, .no, .no]) := fun B => runF_eq rfl rfl rfl
  refine ⟨fr, a', c', ?_, hc1, hc2⟩
  rw [y, run]
  rfl
end
end K21
end PO

set_option maxHeartbeats 4000000
namespace PO
open PM PySem
section
variable {C : CallT} {G : Glob} {env : PM.Env}
theorem evf_call {f : Str} {es : Exs} {as : List W} {w : W} (he : EvL C G env es as) (h : C "" f (as.map .val) = .ok true w []) : EvF C G env (.call f es) w := by
  unfold EvF EvL at *
  rw [evalF, he, R.bind_ok, callH_v h, R.bind_ok, if_pos rfl]
/-- the law's look at drawn orders goes well -/
def Rights (C : CallT) (f : Str) : Prop := ∀ {n : Nat} {h g : Int → Int} (a b c : Int), Ord n h g → n ≤ 8 → 0 ≤ c → c < 2 ^ 80 → ∃ fr a' c', C "" f [.own (diceW a b c), .val (nums n h)] = .ok fr (.bl true) [diceW a' b c'] ∧ 0 ≤ c' ∧ c' ≤ c + 1000
/-- one turn: a drawn order is looked at -/
abbrev turnE (i k : Nat) : Ex := .not (.call "_law_right" (xb (.bor i) (.call "_law_order" (xb (.bor i) (eadd (li 1) (.call "_law_roll" (xb (.bor i) (li k))))))))
theorem turn_ok (hr : Rolls C "_law_roll") (ho : Orders C "_law_order") (hg : Rights C "_law_right") {i k : Nat} {a b c : Int} (hk : 0 < k) (hk' : k ≤ 8) (hd : env[i]? = some (.own (diceW a b c))) (hc : 0 ≤ c) (hc' : c < 2 ^ 70) :
    ∃ a' c', execS C G (.ifs (turnE i k) retFalse .nil) env = .ok .nx (env.set i (.own (diceW a' b c'))) ∧ 0 ≤ c' ∧ c' ≤ c + 2000 := by
  have p1 : (2 : Int) ^ 70 + 2000 < 2 ^ 80 := by decide +kernel
  have p2 : (2 : Int) ^ 80 < 2 ^ 100 := by decide +kernel
  have hi : i < env.length := by
    rcases Nat.lt_or_ge i env.length with h | h
    · exact h
    · rw [List.getElem?_eq_none h] at hd; cases hd
  obtain ⟨r, a1, c1, h1, l1, u1, d1, k1⟩ := roll_ev (G := G) hr (i := i) (e := li k) (t := k) ev_lit hd (by omega) (by omega) hc (by omega)
  generalize he1 : env.set i (.own (diceW a1 b c1)) = e1 at h1
  have hd1 : e1[i]? = some (.own (diceW a1 b c1)) := by rw [← he1, List.getElem?_set_self hi]
  have q1 : evalE C G (eadd (li 1) (.call "_law_roll" (xb (.bor i) (li k)))) env = .ok (.v (.int (((1 + r).toNat : Nat) : Int))) e1 := by
    have e : (((1 + r).toNat : Nat) : Int) = 1 + r := by omega
    rw [e]
    exact ex_bin (ev_lit (C := C) (G := G) (env := env)) h1 rfl
  obtain ⟨a2, c2, h, g, h2, o, d2, k2⟩ := ho a1 b c1 (1 + r).toNat (by omega) (by omega) d1 (by omega)
  have q2 := ev_call_ov (C := C) (G := G) hd q1 hd1 h2
  generalize he2 : e1.set i (.own (diceW a2 b c2)) = e2 at q2
  have hd2 : e2[i]? = some (.own (diceW a2 b c2)) := by rw [← he2, ← he1, List.set_set, List.getElem?_set_self hi]
  obtain ⟨fr, a3, c3, h3, d3, k3⟩ := hg a2 b c2 o (by omega) d2 (by omega)
  have q3 := ev_call_ov (C := C) (G := G) hd q2 hd2 h3
  refine ⟨a3, c3, ?_, d3, by omega⟩
  rw [execS, evalE, q3, ← he2, ← he1, List.set_set, List.set_set]
  show (execSs C G .nil _) = _
  rw [execSs]
end
/-- the law's helpers -/
structure LawT (T : Tab) (G : Glob) : Prop where
  roll : Fn T G "" "_law_roll" .plain 5 2 [4, 2, 3] (rollB 49979687 2305843009213693669 89 2305843009213693907 7368791 65536)
  dice : Fn T G "" "_law_dice" .plain 4 2 [2, 3] (diceB 61 17 10 16 10 60 1152921504606846869 43 811 29 5)
section
variable {T : Tab} {G : Glob}
theorem LawT.rolls (t : LawT T G) (m : Nat) : Rolls (callN T G (m + 2)) "_law_roll" := fun a b c t' h1 h2 h3 h4 => by
  rw [fn_run t.roll]
  exact roll_ok (by decide) (by decide) (by decide) (by decide) (by decide) (by decide) (by decide) (by decide) (by decide) h1 h2 h3 h4
theorem LawT.dices (t : LawT T G) (m : Nat) (ns : List Int) (i : Int) (h1 : 0 ≤ i) (h2 : i < 2 ^ 200) : ∃ a b, callN T G (m + 2) "" "_law_dice" [.val (.rol (ns.map .int)), .val (.int i)] = .ok true (diceW a b 0) [] := by
  rw [fn_run t.dice]
  exact dice_ok (by decide) (by decide) (by decide) (by decide) (by decide) (by decide) (Nat.lt_trans (show 10 ^ 60 < 2 ^ 200 by decide) big_lt) (by decide) (by decide) (by decide) (by decide) (by decide) h1 h2
theorem picks_of (t : LawT T G) (h : Fn T G "" "_law_pick" .plain 2 2 [] (pickB "_law_roll")) (m : Nat) : Picks (callN T G (m + 3)) "_law_pick" := fun a b c ws h1 h2 h3 h4 => by
  rw [fn_run h]
  exact pick_ok (t.rolls _) h1 h2 h3 h4
theorem mixes_of (t : LawT T G) (h : Fn T G "" "_law_mixed" .plain 5 2 [3, 4, 2] B_law_mixed) (m : Nat) : Mixes (callN T G (m + 3)) "_law_mixed" := fun a b c w ws hw hl hc hc' => by
  rw [fn_run h]
  exact mixed_ok (t.rolls _) a b c w ws hw hl hc hc'
theorem orders_of (t : LawT T G) (h1 : Fn T G "" "_law_mixed" .plain 5 2 [3, 4, 2] B_law_mixed) (h2 : Fn T G "" "_law_order" .plain 7 2 [2, 3, 4, 5, 6] B_law_order) (m : Nat) : Orders (callN T G (m + 4)) "_law_order" := fun a b c n n0 hn hc hc' => by
  rw [fn_run h2]
  exact order_ok (t.rolls _) (mixes_of t h1 _) a b c n n0 hn hc hc'
end
end PO

namespace K21
open PySem L2 PM
def top (i : Nat) : Stmt := PySem.Challenge.pw_rimtrails_k21_whole_orders_of_orders.main.body.getD i (.Pass ⟨0, 0, 0, 0⟩)
abbrev s_is_whole : Stmt := (top 7)
def d_is_whole : Df := ⟨"", "is_whole", "is_whole", s_is_whole, ["value"], ["value"], [], []⟩
abbrev s_is_integer : Stmt := (top 8)
def d_is_integer : Df := ⟨"", "is_integer", "is_integer", s_is_integer, ["value"], ["value"], [], []⟩
abbrev s_rest_of : Stmt := (top 11)
def d_rest_of : Df := ⟨"", "rest_of", "rest_of", s_rest_of, ["many", "number"], ["many", "number"], [], []⟩
abbrev s_are_numbers : Stmt := (top 12)
def d_are_numbers : Df := ⟨"", "are_numbers", "are_numbers", s_are_numbers, ["value", "many", "number", "index"], ["value"], [], [1]⟩
abbrev s_value_at : Stmt := (top 13)
def d_value_at : Df := ⟨"", "value_at", "value_at", s_value_at, ["numbers", "number", "index"], ["numbers", "number"], [], [2]⟩
abbrev s_brought : Stmt := (top 14)
def d_brought : Df := ⟨"", "brought", "brought", s_brought, ["many", "pairs", "found", "number", "value", "index"], ["many", "pairs"], [], [2]⟩
abbrev s_falling_in : Stmt := (top 15)
def d_falling_in : Df := ⟨"", "falling_in", "falling_in", s_falling_in, ["numbers", "index", "number"], ["numbers"], [], []⟩
abbrev s_knots_in : Stmt := (top 16)
def d_knots_in : Df := ⟨"", "knots_in", "knots_in", s_knots_in, ["numbers", "many", "places", "one", "other"], ["numbers"], [], [1, 2]⟩
abbrev s_Order___init__ : Stmt := (inClass (top 17) 0)
def d_Order___init__ : Df := ⟨"Order", "__init__", "Order.__init__", s_Order___init__, ["self", "numbers"], ["self", "numbers"], [0], []⟩
abbrev s_Order_numbers : Stmt := (inClass (top 17) 2)
def d_Order_numbers : Df := ⟨"Order", "numbers", "Order.numbers", s_Order_numbers, ["self"], ["self"], [], []⟩
abbrev s_Order_many : Stmt := (inClass (top 17) 3)
def d_Order_many : Df := ⟨"Order", "many", "Order.many", s_Order_many, ["self"], ["self"], [], []⟩
abbrev s_Order_level : Stmt := (inClass (top 17) 5)
def d_Order_level : Df := ⟨"Order", "level", "Order.level", s_Order_level, ["self"], ["self"], [], []⟩
abbrev s_Order_knots : Stmt := (inClass (top 17) 6)
def d_Order_knots : Df := ⟨"Order", "knots", "Order.knots", s_Order_knots, ["self"], ["self"], [], []⟩
abbrev s_Order_size : Stmt := (inClass (top 17) 7)
def d_Order_size : Df := ⟨"Order", "size", "Order.size", s_Order_size, ["self", "level"], ["self"], [], [1]⟩
abbrev s_Order_ends : Stmt := (inClass (top 17) 8)
def d_Order_ends : Df := ⟨"Order", "ends", "Order.ends", s_Order_ends, ["self", "number"], ["self"], [], []⟩
abbrev s_Order_marks : Stmt := (inClass (top 17) 9)
def d_Order_marks : Df := ⟨"Order", "marks", "Order.marks", s_Order_marks, ["self", "many", "fixed", "index", "number"], ["self"], [], [1, 2]⟩
abbrev s_Order_dual : Stmt := (inClass (top 17) 10)
def d_Order_dual : Df := ⟨"Order", "dual", "Order.dual", s_Order_dual, ["self", "many", "pairs", "index", "number"], ["self"], [], [1, 2]⟩
abbrev s_Order_mirrored : Stmt := (inClass (top 17) 11)
def d_Order_mirrored : Df := ⟨"Order", "mirrored", "Order.mirrored", s_Order_mirrored, ["self", "many", "pairs", "index", "number"], ["self"], [], [1, 2]⟩
abbrev s_Order_turned : Stmt := (inClass (top 17) 12)
def d_Order_turned : Df := ⟨"Order", "turned", "Order.turned", s_Order_turned, ["self", "by", "pairs", "index", "number"], ["self", "by"], [], [2]⟩
abbrev s_Order___eq__ : Stmt := (inClass (top 17) 21)
def d_Order___eq__ : Df := ⟨"Order", "__eq__", "Order.__eq__", s_Order___eq__, ["self", "other"], ["self", "other"], [], []⟩
abbrev s__law_dice : Stmt := (top 19)
def d__law_dice : Df := ⟨"", "_law_dice", "_law_dice", s__law_dice, ["script", "spot", "cell", "left"], ["script", "spot"], [], [2, 3]⟩
abbrev s__law_roll : Stmt := (top 20)
def d__law_roll : Df := ⟨"", "_law_roll", "_law_roll", s__law_roll, ["dice", "total", "one", "two", "found"], ["dice", "total"], [0], [4, 2, 3]⟩
abbrev s__law_pick : Stmt := (top 21)
def d__law_pick : Df := ⟨"", "_law_pick", "_law_pick", s__law_pick, ["dice", "items"], ["dice", "items"], [0], []⟩
abbrev s__law_mixed : Stmt := (top 22)
def d__law_mixed : Df := ⟨"", "_law_mixed", "_law_mixed", s__law_mixed, ["dice", "items", "turn", "left", "found"], ["dice", "items"], [0, 3, 4], [3, 4, 2]⟩
abbrev s__law_value : Stmt := (top 23)
def d__law_value : Df := ⟨"", "_law_value", "_law_value", s__law_value, ["numbers", "index", "times", "turns"], ["numbers", "index"], [], [2, 3]⟩
abbrev s__law_order : Stmt := (top 24)
def d__law_order : Df := ⟨"", "_law_order", "_law_order", s__law_order, ["dice", "times", "images", "found", "at", "place", "falls"], ["dice", "times"], [0, 3], [2, 3, 4, 5, 6]⟩
abbrev s__law_standing : Stmt := (top 25)
def d__law_standing : Df := ⟨"", "_law_standing", "_law_standing", s__law_standing, ["numbers", "value", "times", "at"], ["numbers", "value"], [], [2, 3]⟩
abbrev s__law_dual_of : Stmt := (top 26)
def d__law_dual_of : Df := ⟨"", "_law_dual_of", "_law_dual_of", s__law_dual_of, ["numbers", "times", "value"], ["numbers"], [], [1]⟩
abbrev s__law_mirrored_of : Stmt := (top 27)
def d__law_mirrored_of : Df := ⟨"", "_law_mirrored_of", "_law_mirrored_of", s__law_mirrored_of, ["numbers", "times", "value"], ["numbers"], [], [1]⟩
abbrev s__law_turned_of : Stmt := (top 28)
def d__law_turned_of : Df := ⟨"", "_law_turned_of", "_law_turned_of", s__law_turned_of, ["numbers", "by", "place"], ["numbers", "by"], [], []⟩
abbrev s__law_right : Stmt := (top 29)
def d__law_right : Df := ⟨"", "_law_right", "_law_right", s__law_right, ["dice", "numbers", "turned", "due", "order", "times", "by", "more", "dual", "mirrored", "end", "place"], ["dice", "numbers"], [0], [4, 5, 6, 7, 8, 9, 2, 3]⟩
abbrev s_law : Stmt := (top 30)
def d_law : Df := ⟨"", "law", "law", s_law, ["script", "spot", "some", "told", "dice", "turn"], ["script"], [4], [1, 4, 5, 2, 3]⟩
def Ls : List Df := [d_is_whole, d_is_integer, d_rest_of, d_are_numbers, d_value_at, d_brought, d_falling_in, d_knots_in, d_Order___init__, d_Order_numbers, d_Order_many, d_Order_level, d_Order_knots, d_Order_size, d_Order_ends, d_Order_marks, d_Order_dual, d_Order_mirrored, d_Order_turned, d_Order___eq__, d__law_dice, d__law_roll, d__law_pick, d__law_mixed, d__law_value, d__law_order, d__law_standing, d__law_dual_of, d__law_mirrored_of, d__law_turned_of, d__law_right, d_law]
def clL : List (Str × ClsD) := [("Order", ⟨["own_numbers"], [("numbers", .prop), ("many", .prop), ("level", .prop), ("knots", .prop), ("size", .prop), ("ends", .prop), ("marks", .prop), ("dual", .prop), ("mirrored", .prop), ("turned", .meth), ("__eq__", .spec)]⟩)]
def csL : List (Str × W) := [("GREAT", .int (10 ^ 60)), ("MOST", .int 8)]
def isL : List ((CKey × CKey) × Bool) := [((.inl "int", .inl "int"), true), ((.inl "int", .inl "bool"), false), ((.inl "tuple", .inl "tuple"), true), ((.inr "Order", .inr "Order"), true)]
def dfL : List Str := ["is_whole", "is_integer", "rest_of", "are_numbers", "value_at", "brought", "falling_in", "knots_in", "_law_dice", "_law_roll", "_law_pick", "_law_mixed", "_law_value", "_law_order", "_law_standing", "_law_dual_of", "_law_mirrored_of", "_law_turned_of", "_law_right"]
def blL : List Str := ["isinstance", "int", "bool", "tuple", "len", "all", "enumerate", "set", "sorted", "range", "str", "abs", "max", "min", "list", "dict", "iter"]
def xT : XTab := ⟨[], []⟩
def xcL : List (Str × Option Str) := []
def hdL : List Str := []
abbrev gg : Glob := mkG clL csL (xT.isi (isiOf isL)) xcL xT.isx
def g : Gk := gOf dfL blL hdL gg 12 12 Ls
def T : Tab := tabOf g 12 12 Ls
theorem facts {P : Program} {w : World} {K : PySem.W.Frag} {h : Heap} {mg : Str → Option Value} {fa : Addr} (X : K.In h) (G : h.Ns mainGlobals mg) (hmg : mg "law" = some (.ref fa))
    {C_Order : Addr}
    {f0 : Addr} {od0 an0 : Option Addr} {sl0 : Array (Option Value)} {oc0 kV0 dc0 pm0 cd0 ct0 : Value}
    {f1 : Addr} {od1 an1 : Option Addr} {sl1 : Array (Option Value)} {oc1 kV1 dc1 pm1 cd1 ct1 : Value}
    {f2 : Addr} {od2 an2 : Option Addr} {sl2 : Array (Option Value)} {oc2 kV2 dc2 pm2 cd2 ct2 : Value}
    {f3 : Addr} {od3 an3 : Option Addr} {sl3 : Array (Option Value)} {oc3 kV3 dc3 pm3 cd3 ct3 : Value}
    {f4 : Addr} {od4 an4 : Option Addr} {sl4 : Array (Option Value)} {oc4 kV4 dc4 pm4 cd4 ct4 : Value}
    {f5 : Addr} {od5 an5 : Option Addr} {sl5 : Array (Option Value)} {oc5 kV5 dc5 pm5 cd5 ct5 : Value}
    {f6 : Addr} {od6 an6 : Option Addr} {sl6 : Array (Option Value)} {oc6 kV6 dc6 pm6 cd6 ct6 : Value}
    {f7 : Addr} {od7 an7 : Option Addr} {sl7 : Array (Option Value)} {oc7 kV7 dc7 pm7 cd7 ct7 : Value}
    {f8 : Addr} {od8 an8 : Option Addr} {sl8 : Array (Option Value)} {oc8 kV8 dc8 pm8 cd8 ct8 : Value}
    {f9 : Addr} {od9 an9 : Option Addr} {sl9 : Array (Option Value)} {oc9 kV9 dc9 pm9 cd9 ct9 : Value}
    {p9 : Addr} {r9 : List Value}
    {f10 : Addr} {od10 an10 : Option Addr} {sl10 : Array (Option Value)} {oc10 kV10 dc10 pm10 cd10 ct10 : Value}
    {p10 : Addr} {r10 : List Value}
    {f11 : Addr} {od11 an11 : Option Addr} {sl11 : Array (Option Value)} {oc11 kV11 dc11 pm11 cd11 ct11 : Value}
    {p11 : Addr} {r11 : List Value}
    {f12 : Addr} {od12 an12 : Option Addr} {sl12 : Array (Option Value)} {oc12 kV12 dc12 pm12 cd12 ct12 : Value}
    {p12 : Addr} {r12 : List Value}
    {f13 : Addr} {od13 an13 : Option Addr} {sl13 : Array (Option Value)} {oc13 kV13 dc13 pm13 cd13 ct13 : Value}
    {p13 : Addr} {r13 : List Value}
    {f14 : Addr} {od14 an14 : Option Addr} {sl14 : Array (Option Value)} {oc14 kV14 dc14 pm14 cd14 ct14 : Value}
    {p14 : Addr} {r14 : List Value}
    {f15 : Addr} {od15 an15 : Option Addr} {sl15 : Array (Option Value)} {oc15 kV15 dc15 pm15 cd15 ct15 : Value}
    {p15 : Addr} {r15 : List Value}
    {f16 : Addr} {od16 an16 : Option Addr} {sl16 : Array (Option Value)} {oc16 kV16 dc16 pm16 cd16 ct16 : Value}
    {p16 : Addr} {r16 : List Value}
    {f17 : Addr} {od17 an17 : Option Addr} {sl17 : Array (Option Value)} {oc17 kV17 dc17 pm17 cd17 ct17 : Value}
    {p17 : Addr} {r17 : List Value}
    {f18 : Addr} {od18 an18 : Option Addr} {sl18 : Array (Option Value)} {oc18 kV18 dc18 pm18 cd18 ct18 : Value}
    {f19 : Addr} {od19 an19 : Option Addr} {sl19 : Array (Option Value)} {oc19 kV19 dc19 pm19 cd19 ct19 : Value}
    {f20 : Addr} {od20 an20 : Option Addr} {sl20 : Array (Option Value)} {oc20 kV20 dc20 pm20 cd20 ct20 : Value}
    {f21 : Addr} {od21 an21 : Option Addr} {sl21 : Array (Option Value)} {oc21 kV21 dc21 pm21 cd21 ct21 : Value}
    {f22 : Addr} {od22 an22 : Option Addr} {sl22 : Array (Option Value)} {oc22 kV22 dc22 pm22 cd22 ct22 : Value}
    {f23 : Addr} {od23 an23 : Option Addr} {sl23 : Array (Option Value)} {oc23 kV23 dc23 pm23 cd23 ct23 : Value}
    {f24 : Addr} {od24 an24 : Option Addr} {sl24 : Array (Option Value)} {oc24 kV24 dc24 pm24 cd24 ct24 : Value}
    {f25 : Addr} {od25 an25 : Option Addr} {sl25 : Array (Option Value)} {oc25 kV25 dc25 pm25 cd25 ct25 : Value}
    {f26 : Addr} {od26 an26 : Option Addr} {sl26 : Array (Option Value)} {oc26 kV26 dc26 pm26 cd26 ct26 : Value}
    {f27 : Addr} {od27 an27 : Option Addr} {sl27 : Array (Option Value)} {oc27 kV27 dc27 pm27 cd27 ct27 : Value}
    {f28 : Addr} {od28 an28 : Option Addr} {sl28 : Array (Option Value)} {oc28 kV28 dc28 pm28 cd28 ct28 : Value}
    {f29 : Addr} {od29 an29 : Option Addr} {sl29 : Array (Option Value)} {oc29 kV29 dc29 pm29 cd29 ct29 : Value}
    {f30 : Addr} {od30 an30 : Option Addr} {sl30 : Array (Option Value)} {oc30 kV30 dc30 pm30 cd30 ct30 : Value}
    {f31 : Addr} {od31 an31 : Option Addr} {sl31 : Array (Option Value)} {oc31 kV31 dc31 pm31 cd31 ct31 : Value}
    {tk0 : Tok}
    {tk1 : Tok}
    (aC_Order : PySem.W.nsIn K mainGlobals "Order" = some (some (.ref C_Order)))
    (a0 : PySem.W.nsIn K mainGlobals "is_whole" = some (some (.ref f0)))
    (l0 : K.lookup f0 = some ⟨oc0, od0, .func (PySem.W.fnOf "is_whole" "is_whole" (defArgs s_is_whole) (defBody s_is_whole) (defScope s_is_whole) .none kV0 dc0 pm0 an0 cd0 ct0), sl0⟩)
    (c0 : PySem.W.codeIn K cd0 "is_whole" = true)
    (k0 : PySem.W.keepIn K (.ref f0) = true)
    (a1 : PySem.W.nsIn K mainGlobals "is_integer" = some (some (.ref f1)))
    (l1 : K.lookup f1 = some ⟨oc1, od1, .func (PySem.W.fnOf "is_integer" "is_integer" (defArgs s_is_integer) (defBody s_is_integer) (defScope s_is_integer) .none kV1 dc1 pm1 an1 cd1 ct1), sl1⟩)
    (c1 : PySem.W.codeIn K cd1 "is_integer" = true)
    (k1 : PySem.W.keepIn K (.ref f1) = true)
    (a2 : PySem.W.nsIn K mainGlobals "rest_of" = some (some (.ref f2)))
    (l2 : K.lookup f2 = some ⟨oc2, od2, .func (PySem.W.fnOf "rest_of" "rest_of" (defArgs s_rest_of) (defBody s_rest_of) (defScope s_rest_of) .none kV2 dc2 pm2 an2 cd2 ct2), sl2⟩)
    (c2 : PySem.W.codeIn K cd2 "rest_of" = true)
    (k2 : PySem.W.keepIn K (.ref f2) = true)
    (a3 : PySem.W.nsIn K mainGlobals "are_numbers" = some (some (.ref f3)))
    (l3 : K.lookup f3 = some ⟨oc3, od3, .func (PySem.W.fnOf "are_numbers" "are_numbers" (defArgs s_are_numbers) (defBody s_are_numbers) (defScope s_are_numbers) .none kV3 dc3 pm3 an3 cd3 ct3), sl3⟩)
    (c3 : PySem.W.codeIn K cd3 "are_numbers" = true)
    (k3 : PySem.W.keepIn K (.ref f3) = true)
    (a4 : PySem.W.nsIn K mainGlobals "value_at" = some (some (.ref f4)))
    (l4 : K.lookup f4 = some ⟨oc4, od4, .func (PySem.W.fnOf "value_at" "value_at" (defArgs s_value_at) (defBody s_value_at) (defScope s_value_at) .none kV4 dc4 pm4 an4 cd4 ct4), sl4⟩)
    (c4 : PySem.W.codeIn K cd4 "value_at" = true)
    (k4 : PySem.W.keepIn K (.ref f4) = true)
    (a5 : PySem.W.nsIn K mainGlobals "brought" = some (some (.ref f5)))
    (l5 : K.lookup f5 = some ⟨oc5, od5, .func (PySem.W.fnOf "brought" "brought" (defArgs s_brought) (defBody s_brought) (defScope s_brought) .none kV5 dc5 pm5 an5 cd5 ct5), sl5⟩)
    (c5 : PySem.W.codeIn K cd5 "brought" = true)
    (k5 : PySem.W.keepIn K (.ref f5) = true)
    (a6 : PySem.W.nsIn K mainGlobals "falling_in" = some (some (.ref f6)))
    (l6 : K.lookup f6 = some ⟨oc6, od6, .func (PySem.W.fnOf "falling_in" "falling_in" (defArgs s_falling_in) (defBody s_falling_in) (defScope s_falling_in) .none kV6 dc6 pm6 an6 cd6 ct6), sl6⟩)
    (c6 : PySem.W.codeIn K cd6 "falling_in" = true)
    (k6 : PySem.W.keepIn K (.ref f6) = true)
    (a7 : PySem.W.nsIn K mainGlobals "knots_in" = some (some (.ref f7)))
    (l7 : K.lookup f7 = some ⟨oc7, od7, .func (PySem.W.fnOf "knots_in" "knots_in" (defArgs s_knots_in) (defBody s_knots_in) (defScope s_knots_in) .none kV7 dc7 pm7 an7 cd7 ct7), sl7⟩)
    (c7 : PySem.W.codeIn K cd7 "knots_in" = true)
    (k7 : PySem.W.keepIn K (.ref f7) = true)
    (a8 : PySem.W.findIn K (.ref C_Order) "__init__" = some (some (.ref f8)))
    (i8 : PySem.W.isFn K (.ref f8) = true)
    (l8 : K.lookup f8 = some ⟨oc8, od8, .func (PySem.W.fnOf "__init__" "Order.__init__" (defArgs s_Order___init__) (defBody s_Order___init__) (defScope s_Order___init__) .none kV8 dc8 pm8 an8 cd8 ct8), sl8⟩)
    (c8 : PySem.W.codeIn K cd8 "Order.__init__" = true)
    (k8 : PySem.W.keepIn K (.ref f8) = true)
    (a9 : PySem.W.findIn K (.ref C_Order) "numbers" = some (some (.ref p9)))
    (g9 : PySem.W.specialIn K (.ref p9) "__get__" = some (some (.builtin "property.__get__")))
    (t9 : PySem.W.takesIn K (.ref p9) = some true)
    (r9 : PySem.W.recIn K p9 "property" = some (.ref f9 :: r9))
    (l9 : K.lookup f9 = some ⟨oc9, od9, .func (PySem.W.fnOf "numbers" "Order.numbers" (defArgs s_Order_numbers) (defBody s_Order_numbers) (defScope s_Order_numbers) .none kV9 dc9 pm9 an9 cd9 ct9), sl9⟩)
    (c9 : PySem.W.codeIn K cd9 "Order.numbers" = true)
    (k9 : PySem.W.keepIn K (.ref f9) = true)
    (a10 : PySem.W.findIn K (.ref C_Order) "many" = some (some (.ref p10)))
    (g10 : PySem.W.specialIn K (.ref p10) "__get__" = some (some (.builtin "property.__get__")))
    (t10 : PySem.W.takesIn K (.ref p10) = some true)
    (r10 : PySem.W.recIn K p10 "property" = some (.ref f10 :: r10))
    (l10 : K.lookup f10 = some ⟨oc10, od10, .func (PySem.W.fnOf "many" "Order.many" (defArgs s_Order_many) (defBody s_Order_many) (defScope s_Order_many) .none kV10 dc10 pm10 an10 cd10 ct10), sl10⟩)
    (c10 : PySem.W.codeIn K cd10 "Order.many" = true)
    (k10 : PySem.W.keepIn K (.ref f10) = true)
    (a11 : PySem.W.findIn K (.ref C_Order) "level" = some (some (.ref p11)))
    (g11 : PySem.W.specialIn K (.ref p11) "__get__" = some (some (.builtin "property.__get__")))
    (t11 : PySem.W.takesIn K (.ref p11) = some true)
    (r11 : PySem.W.recIn K p11 "property" = some (.ref f11 :: r11))
    (l11 : K.lookup f11 = some ⟨oc11, od11, .func (PySem.W.fnOf "level" "Order.level" (defArgs s_Order_level) (defBody s_Order_level) (defScope s_Order_level) .none kV11 dc11 pm11 an11 cd11 ct11), sl11⟩)
    (c11 : PySem.W.codeIn K cd11 "Order.level" = true)
    (k11 : PySem.W.keepIn K (.ref f11) = true)
    (a12 : PySem.W.findIn K (.ref C_Order) "knots" = some (some (.ref p12)))
    (g12 : PySem.W.specialIn K (.ref p12) "__get__" = some (some (.builtin "property.__get__")))
    (t12 : PySem.W.takesIn K (.ref p12) = some true)
    (r12 : PySem.W.recIn K p12 "property" = some (.ref f12 :: r12))
    (l12 : K.lookup f12 = some ⟨oc12, od12, .func (PySem.W.fnOf "knots" "Order.knots" (defArgs s_Order_knots) (defBody s_Order_knots) (defScope s_Order_knots) .none kV12 dc12 pm12 an12 cd12 ct12), sl12⟩)
    (c12 : PySem.W.codeIn K cd12 "Order.knots" = true)
    (k12 : PySem.W.keepIn K (.ref f12) = true)
    (a13 : PySem.W.findIn K (.ref C_Order) "size" = some (some (.ref p13)))
    (g13 : PySem.W.specialIn K (.ref p13) "__get__" = some (some (.builtin "property.__get__")))
    (t13 : PySem.W.takesIn K (.ref p13) = some true)
    (r13 : PySem.W.recIn K p13 "property" = some (.ref f13 :: r13))
    (l13 : K.lookup f13 = some ⟨oc13, od13, .func (PySem.W.fnOf "size" "Order.size" (defArgs s_Order_size) (defBody s_Order_size) (defScope s_Order_size) .none kV13 dc13 pm13 an13 cd13 ct13), sl13⟩)
    (c13 : PySem.W.codeIn K cd13 "Order.size" = true)
    (k13 : PySem.W.keepIn K (.ref f13) = true)
    (a14 : PySem.W.findIn K (.ref C_Order) "ends" = some (some (.ref p14)))
    (g14 : PySem.W.specialIn K (.ref p14) "__get__" = some (some (.builtin "property.__get__")))
    (t14 : PySem.W.takesIn K (.ref p14) = some true)
    (r14 : PySem.W.recIn K p14 "property" = some (.ref f14 :: r14))
    (l14 : K.lookup f14 = some ⟨oc14, od14, .func (PySem.W.fnOf "ends" "Order.ends" (defArgs s_Order_ends) (defBody s_Order_ends) (defScope s_Order_ends) .none kV14 dc14 pm14 an14 cd14 ct14), sl14⟩)
    (c14 : PySem.W.codeIn K cd14 "Order.ends" = true)
    (k14 : PySem.W.keepIn K (.ref f14) = true)
    (a15 : PySem.W.findIn K (.ref C_Order) "marks" = some (some (.ref p15)))
    (g15 : PySem.W.specialIn K (.ref p15) "__get__" = some (some (.builtin "property.__get__")))
    (t15 : PySem.W.takesIn K (.ref p15) = some true)
    (r15 : PySem.W.recIn K p15 "property" = some (.ref f15 :: r15))
    (l15 : K.lookup f15 = some ⟨oc15, od15, .func (PySem.W.fnOf "marks" "Order.marks" (defArgs s_Order_marks) (defBody s_Order_marks) (defScope s_Order_marks) .none kV15 dc15 pm15 an15 cd15 ct15), sl15⟩)
    (c15 : PySem.W.codeIn K cd15 "Order.marks" = true)
    (k15 : PySem.W.keepIn K (.ref f15) = true)
    (a16 : PySem.W.findIn K (.ref C_Order) "dual" = some (some (.ref p16)))
    (g16 : PySem.W.specialIn K (.ref p16) "__get__" = some (some (.builtin "property.__get__")))
    (t16 : PySem.W.takesIn K (.ref p16) = some true)
    (r16 : PySem.W.recIn K p16 "property" = some (.ref f16 :: r16))
    (l16 : K.lookup f16 = some ⟨oc16, od16, .func (PySem.W.fnOf "dual" "Order.dual" (defArgs s_Order_dual) (defBody s_Order_dual) (defScope s_Order_dual) .none kV16 dc16 pm16 an16 cd16 ct16), sl16⟩)
    (c16 : PySem.W.codeIn K cd16 "Order.dual" = true)
    (k16 : PySem.W.keepIn K (.ref f16) = true)
    (a17 : PySem.W.findIn K (.ref C_Order) "mirrored" = some (some (.ref p17)))
    (g17 : PySem.W.specialIn K (.ref p17) "__get__" = some (some (.builtin "property.__get__")))
    (t17 : PySem.W.takesIn K (.ref p17) = some true)
    (r17 : PySem.W.recIn K p17 "property" = some (.ref f17 :: r17))
    (l17 : K.lookup f17 = some ⟨oc17, od17, .func (PySem.W.fnOf "mirrored" "Order.mirrored" (defArgs s_Order_mirrored) (defBody s_Order_mirrored) (defScope s_Order_mirrored) .none kV17 dc17 pm17 an17 cd17 ct17), sl17⟩)
    (c17 : PySem.W.codeIn K cd17 "Order.mirrored" = true)
    (k17 : PySem.W.keepIn K (.ref f17) = true)
    (a18 : PySem.W.findIn K (.ref C_Order) "turned" = some (some (.ref f18)))
    (i18 : PySem.W.isFn K (.ref f18) = true)
    (l18 : K.lookup f18 = some ⟨oc18, od18, .func (PySem.W.fnOf "turned" "Order.turned" (defArgs s_Order_turned) (defBody s_Order_turned) (defScope s_Order_turned) .none kV18 dc18 pm18 an18 cd18 ct18), sl18⟩)
    (c18 : PySem.W.codeIn K cd18 "Order.turned" = true)
    (k18 : PySem.W.keepIn K (.ref f18) = true)
    (a19 : PySem.W.findIn K (.ref C_Order) "__eq__" = some (some (.ref f19)))
    (i19 : PySem.W.isFn K (.ref f19) = true)
    (l19 : K.lookup f19 = some ⟨oc19, od19, .func (PySem.W.fnOf "__eq__" "Order.__eq__" (defArgs s_Order___eq__) (defBody s_Order___eq__) (defScope s_Order___eq__) .none kV19 dc19 pm19 an19 cd19 ct19), sl19⟩)
    (c19 : PySem.W.codeIn K cd19 "Order.__eq__" = true)
    (k19 : PySem.W.keepIn K (.ref f19) = true)
    (a20 : PySem.W.nsIn K mainGlobals "_law_dice" = some (some (.ref f20)))
    (l20 : K.lookup f20 = some ⟨oc20, od20, .func (PySem.W.fnOf "_law_dice" "_law_dice" (defArgs s__law_dice) (defBody s__law_dice) (defScope s__law_dice) .none kV20 dc20 pm20 an20 cd20 ct20), sl20⟩)
    (c20 : PySem.W.codeIn K cd20 "_law_dice" = true)
    (k20 : PySem.W.keepIn K (.ref f20) = true)
    (a21 : PySem.W.nsIn K mainGlobals "_law_roll" = some (some (.ref f21)))
    (l21 : K.lookup f21 = some ⟨oc21, od21, .func (PySem.W.fnOf "_law_roll" "_law_roll" (defArgs s__law_roll) (defBody s__law_roll) (defScope s__law_roll) .none kV21 dc21 pm21 an21 cd21 ct21), sl21⟩)
    (c21 : PySem.W.codeIn K cd21 "_law_roll" = true)
    (k21 : PySem.W.keepIn K (.ref f21) = true)
    (a22 : PySem.W.nsIn K mainGlobals "_law_pick" = some (some (.ref f22)))
    (l22 : K.lookup f22 = some ⟨oc22, od22, .func (PySem.W.fnOf "_law_pick" "_law_pick" (defArgs s__law_pick) (defBody s__law_pick) (defScope s__law_pick) .none kV22 dc22 pm22 an22 cd22 ct22), sl22⟩)
    (c22 : PySem.W.codeIn K cd22 "_law_pick" = true)
    (k22 : PySem.W.keepIn K (.ref f22) = true)
    (a23 : PySem.W.nsIn K mainGlobals "_law_mixed" = some (some (.ref f23)))
    (l23 : K.lookup f23 = some ⟨oc23, od23, .func (PySem.W.fnOf "_law_mixed" "_law_mixed" (defArgs s__law_mixed) (defBody s__law_mixed) (defScope s__law_mixed) .none kV23 dc23 pm23 an23 cd23 ct23), sl23⟩)
    (c23 : PySem.W.codeIn K cd23 "_law_mixed" = true)
    (k23 : PySem.W.keepIn K (.ref f23) = true)
    (a24 : PySem.W.nsIn K mainGlobals "_law_value" = some (some (.ref f24)))
    (l24 : K.lookup f24 = some ⟨oc24, od24, .func (PySem.W.fnOf "_law_value" "_law_value" (defArgs s__law_value) (defBody s__law_value) (defScope s__law_value) .none kV24 dc24 pm24 an24 cd24 ct24), sl24⟩)
    (c24 : PySem.W.codeIn K cd24 "_law_value" = true)
    (k24 : PySem.W.keepIn K (.ref f24) = true)
    (a25 : PySem.W.nsIn K mainGlobals "_law_order" = some (some (.ref f25)))
    (l25 : K.lookup f25 = some ⟨oc25, od25, .func (PySem.W.fnOf "_law_order" "_law_order" (defArgs s__law_order) (defBody s__law_order) (defScope s__law_order) .none kV25 dc25 pm25 an25 cd25 ct25), sl25⟩)
    (c25 : PySem.W.codeIn K cd25 "_law_order" = true)
    (k25 : PySem.W.keepIn K (.ref f25) = true)
    (a26 : PySem.W.nsIn K mainGlobals "_law_standing" = some (some (.ref f26)))
    (l26 : K.lookup f26 = some ⟨oc26, od26, .func (PySem.W.fnOf "_law_standing" "_law_standing" (defArgs s__law_standing) (defBody s__law_standing) (defScope s__law_standing) .none kV26 dc26 pm26 an26 cd26 ct26), sl26⟩)
    (c26 : PySem.W.codeIn K cd26 "_law_standing" = true)
    (k26 : PySem.W.keepIn K (.ref f26) = true)
    (a27 : PySem.W.nsIn K mainGlobals "_law_dual_of" = some (some (.ref f27)))
    (l27 : K.lookup f27 = some ⟨oc27, od27, .func (PySem.W.fnOf "_law_dual_of" "_law_dual_of" (defArgs s__law_dual_of) (defBody s__law_dual_of) (defScope s__law_dual_of) .none kV27 dc27 pm27 an27 cd27 ct27), sl27⟩)
    (c27 : PySem.W.codeIn K cd27 "_law_dual_of" = true)
    (k27 : PySem.W.keepIn K (.ref f27) = true)
    (a28 : PySem.W.nsIn K mainGlobals "_law_mirrored_of" = some (some (.ref f28)))
    (l28 : K.lookup f28 = some ⟨oc28, od28, .func (PySem.W.fnOf "_law_mirrored_of" "_law_mirrored_of" (defArgs s__law_mirrored_of) (defBody s__law_mirrored_of) (defScope s__law_mirrored_of) .none kV28 dc28 pm28 an28 cd28 ct28), sl28⟩)
    (c28 : PySem.W.codeIn K cd28 "_law_mirrored_of" = true)
    (k28 : PySem.W.keepIn K (.ref f28) = true)
    (a29 : PySem.W.nsIn K mainGlobals "_law_turned_of" = some (some (.ref f29)))
    (l29 : K.lookup f29 = some ⟨oc29, od29, .func (PySem.W.fnOf "_law_turned_of" "_law_turned_of" (defArgs s__law_turned_of) (defBody s__law_turned_of) (defScope s__law_turned_of) .none kV29 dc29 pm29 an29 cd29 ct29), sl29⟩)
    (c29 : PySem.W.codeIn K cd29 "_law_turned_of" = true)
    (k29 : PySem.W.keepIn K (.ref f29) = true)
    (a30 : PySem.W.nsIn K mainGlobals "_law_right" = some (some (.ref f30)))
    (l30 : K.lookup f30 = some ⟨oc30, od30, .func (PySem.W.fnOf "_law_right" "_law_right" (defArgs s__law_right) (defBody s__law_right) (defScope s__law_right) .none kV30 dc30 pm30 an30 cd30 ct30), sl30⟩)
    (c30 : PySem.W.codeIn K cd30 "_law_right" = true)
    (k30 : PySem.W.keepIn K (.ref f30) = true)
    (a31 : PySem.W.nsIn K mainGlobals "law" = some (some (.ref f31)))
    (l31 : K.lookup f31 = some ⟨oc31, od31, .func (PySem.W.fnOf "law" "law" (defArgs s_law) (defBody s_law) (defScope s_law) .none kV31 dc31 pm31 an31 cd31 ct31), sl31⟩)
    (c31 : PySem.W.codeIn K cd31 "law" = true)
    (k31 : PySem.W.keepIn K (.ref f31) = true)
    (pg_Order : PySem.W.plainGet K C_Order Str.empty = true)
    (hd_Order : PySem.W.hasDictIn K C_Order = true)
    (po_Order : PySem.W.plainOver K C_Order = true)
    (sa_Order : PySem.W.findIn K (.ref C_Order) "__setattr__" = some (some (.builtin "object.__setattr__")))
    (mk_Order : PySem.W.makesIn K C_Order = true)
    (kc_Order : PySem.W.keepIn K (.ref C_Order) = true)
    (n0_Order : PySem.W.findIn K (.ref C_Order) "own_numbers" = some none)
    (ob_Order : PySem.W.mroIn K C_Order (.type "object") = some true)
    (ne_Order : PySem.W.findIn K (.ref C_Order) "__ne__" = some (some (.builtin "object.__ne__")))
    (cl_Order : PySem.W.findIn K (.ref C_Order) "__class__" = some (some (.builtin "object.__class__")))
    (z0 : PySem.W.nsIn K mainGlobals "isinstance" = some none)
    (z1 : PySem.W.nsIn K mainGlobals "int" = some none)
    (z2 : PySem.W.nsIn K mainGlobals "bool" = some none)
    (z3 : PySem.W.nsIn K mainGlobals "tuple" = some none)
    (z4 : PySem.W.nsIn K mainGlobals "len" = some none)
    (z5 : PySem.W.nsIn K mainGlobals "all" = some none)
    (z6 : PySem.W.nsIn K mainGlobals "enumerate" = some none)
    (z7 : PySem.W.nsIn K mainGlobals "set" = some none)
    (z8 : PySem.W.nsIn K mainGlobals "sorted" = some none)
    (z9 : PySem.W.nsIn K mainGlobals "range" = some none)
    (z10 : PySem.W.nsIn K mainGlobals "str" = some none)
    (z11 : PySem.W.nsIn K mainGlobals "abs" = some none)
    (z12 : PySem.W.nsIn K mainGlobals "max" = some none)
    (z13 : PySem.W.nsIn K mainGlobals "min" = some none)
    (z14 : PySem.W.nsIn K mainGlobals "list" = some none)
    (z15 : PySem.W.nsIn K mainGlobals "dict" = some none)
    (z16 : PySem.W.nsIn K mainGlobals "iter" = some none)
    (y0 : PySem.W.nsIn K mainGlobals "GREAT" = some (some (.int (10 ^ 60) tk0)))
    (y1 : PySem.W.nsIn K mainGlobals "MOST" = some (some (.int 8 tk1)))
    (gd : PySem.W.specialIn K (.builtin "object.__class__") "__get__" = some (some (.builtin "getset_descriptor.__get__")))
    (tk : PySem.W.takesIn K (.builtin "object.__class__") = some true)
    : ∃ fd : FuncData, FunF K d_law fa fd ∧ (∀ u : Value, bindArgs fd ⟨[u], []⟩ = pure [(("script" : Str), u)]) ∧ ∀ base : Heap, LawF P w K mg base g T 12 12 Ls := by
  have e := (PySem.W.mg_of X G a31).symm.trans hmg
  injection e with e
  injection e with e
  subst e
  have F0 : FunF K d_is_whole f0 _ := ⟨fun_mk (st := s_is_whole) l0 c0 k0, (fun_mk (st := s_is_whole) l0 c0 k0).binds fun _ _ _ _ _ _ us hl => match us, hl with | [_], _ => rfl⟩
  have F1 : FunF K d_is_integer f1 _ := ⟨fun_mk (st := s_is_integer) l1 c1 k1, (fun_mk (st := s_is_integer) l1 c1 k1).binds fun _ _ _ _ _ _ us hl => match us, hl with | [_], _ => rfl⟩
  have F2 : FunF K d_rest_of f2 _ := ⟨fun_mk (st := s_rest_of) l2 c2 k2, (fun_mk (st := s_rest_of) l2 c2 k2).binds fun _ _ _ _ _ _ us hl => match us, hl with | [_, _], _ => rfl⟩
  have F3 : FunF K d_are_numbers f3 _ := ⟨fun_mk (st := s_are_numbers) l3 c3 k3, (fun_mk (st := s_are_numbers) l3 c3 k3).binds fun _ _ _ _ _ _ us hl => match us, hl with | [_], _ => rfl⟩
  have F4 : FunF K d_value_at f4 _ := ⟨fun_mk (st := s_value_at) l4 c4 k4, (fun_mk (st := s_value_at) l4 c4 k4).binds fun _ _ _ _ _ _ us hl => match us, hl with | [_, _], _ => rfl⟩
  have F5 : FunF K d_brought f5 _ := ⟨fun_mk (st := s_brought) l5 c5 k5, (fun_mk (st := s_brought) l5 c5 k5).binds fun _ _ _ _ _ _ us hl => match us, hl with | [_, _], _ => rfl⟩
  have F6 : FunF K d_falling_in f6 _ := ⟨fun_mk (st := s_falling_in) l6 c6 k6, (fun_mk (st := s_falling_in) l6 c6 k6).binds fun _ _ _ _ _ _ us hl => match us, hl with | [_], _ => rfl⟩
  have F7 : FunF K d_knots_in f7 _ := ⟨fun_mk (st := s_knots_in) l7 c7 k7, (fun_mk (st := s_knots_in) l7 c7 k7).binds fun _ _ _ _ _ _ us hl => match us, hl with | [_], _ => rfl⟩
  have F8 : FunF K d_Order___init__ f8 _ := ⟨fun_mk (st := s_Order___init__) l8 c8 k8, (fun_mk (st := s_Order___init__) l8 c8 k8).binds fun _ _ _ _ _ _ us hl => match us, hl with | [_, _], _ => rfl⟩
  have F9 : FunF K d_Order_numbers f9 _ := ⟨fun_mk (st := s_Order_numbers) l9 c9 k9, (fun_mk (st := s_Order_numbers) l9 c9 k9).binds fun _ _ _ _ _ _ us hl => match us, hl with | [_], _ => rfl⟩
  have F10 : FunF K d_Order_many f10 _ := ⟨fun_mk (st := s_Order_many) l10 c10 k10, (fun_mk (st := s_Order_many) l10 c10 k10).binds fun _ _ _ _ _ _ us hl => match us, hl with | [_], _ => rfl⟩
  have F11 : FunF K d_Order_level f11 _ := ⟨fun_mk (st := s_Order_level) l11 c11 k11, (fun_mk (st := s_Order_level) l11 c11 k11).binds fun _ _ _ _ _ _ us hl => match us, hl with | [_], _ => rfl⟩
  have F12 : FunF K d_Order_knots f12 _ := ⟨fun_mk (st := s_Order_knots) l12 c12 k12, (fun_mk (st := s_Order_knots) l12 c12 k12).binds fun _ _ _ _ _ _ us hl => match us, hl with | [_], _ => rfl⟩
  have F13 : FunF K d_Order_size f13 _ := ⟨fun_mk (st := s_Order_size) l13 c13 k13, (fun_mk (st := s_Order_size) l13 c13 k13).binds fun _ _ _ _ _ _ us hl => match us, hl with | [_], _ => rfl⟩
  have F14 : FunF K d_Order_ends f14 _ := ⟨fun_mk (st := s_Order_ends) l14 c14 k14, (fun_mk (st := s_Order_ends) l14 c14 k14).binds fun _ _ _ _ _ _ us hl => match us, hl with | [_], _ => rfl⟩
  have F15 : FunF K d_Order_marks f15 _ := ⟨fun_mk (st := s_Order_marks) l15 c15 k15, (fun_mk (st := s_Order_marks) l15 c15 k15).binds fun _ _ _ _ _ _ us hl => match us, hl with | [_], _ => rfl⟩
  have F16 : FunF K d_Order_dual f16 _ := ⟨fun_mk (st := s_Order_dual) l16 c16 k16, (fun_mk (st := s_Order_dual) l16 c16 k16).binds fun _ _ _ _ _ _ us hl => match us, hl with | [_], _ => rfl⟩
  have F17 : FunF K d_Order_mirrored f17 _ := ⟨fun_mk (st := s_Order_mirrored) l17 c17 k17, (fun_mk (st := s_Order_mirrored) l17 c17 k17).binds fun _ _ _ _ _ _ us hl => match us, hl with | [_], _ => rfl⟩
  have F18 : FunF K d_Order_turned f18 _ := ⟨fun_mk (st := s_Order_turned) l18 c18 k18, (fun_mk (st := s_Order_turned) l18 c18 k18).binds fun _ _ _ _ _ _ us hl => match us, hl with | [_, _], _ => rfl⟩
  have F19 : FunF K d_Order___eq__ f19 _ := ⟨fun_mk (st := s_Order___eq__) l19 c19 k19, (fun_mk (st := s_Order___eq__) l19 c19 k19).binds fun _ _ _ _ _ _ us hl => match us, hl with | [_, _], _ => rfl⟩
  have F20 : FunF K d__law_dice f20 _ := ⟨fun_mk (st := s__law_dice) l20 c20 k20, (fun_mk (st := s__law_dice) l20 c20 k20).binds fun _ _ _ _ _ _ us hl => match us, hl with | [_, _], _ => rfl⟩
  have F21 : FunF K d__law_roll f21 _ := ⟨fun_mk (st := s__law_roll) l21 c21 k21, (fun_mk (st := s__law_roll) l21 c21 k21).binds fun _ _ _ _ _ _ us hl => match us, hl with | [_, _], _ => rfl⟩
  have F22 : FunF K d__law_pick f22 _ := ⟨fun_mk (st := s__law_pick) l22 c22 k22, (fun_mk (st := s__law_pick) l22 c22 k22).binds fun _ _ _ _ _ _ us hl => match us, hl with | [_, _], _ => rfl⟩
  have F23 : FunF K d__law_mixed f23 _ := ⟨fun_mk (st := s__law_mixed) l23 c23 k23, (fun_mk (st := s__law_mixed) l23 c23 k23).binds fun _ _ _ _ _ _ us hl => match us, hl with | [_, _], _ => rfl⟩
  have F24 : FunF K d__law_value f24 _ := ⟨fun_mk (st := s__law_value) l24 c24 k24, (fun_mk (st := s__law_value) l24 c24 k24).binds fun _ _ _ _ _ _ us hl => match us, hl with | [_, _], _ => rfl⟩
  have F25 : FunF K d__law_order f25 _ := ⟨fun_mk (st := s__law_order) l25 c25 k25, (fun_mk (st := s__law_order) l25 c25 k25).binds fun _ _ _ _ _ _ us hl => match us, hl with | [_, _], _ => rfl⟩
  have F26 : FunF K d__law_standing f26 _ := ⟨fun_mk (st := s__law_standing) l26 c26 k26, (fun_mk (st := s__law_standing) l26 c26 k26).binds fun _ _ _ _ _ _ us hl => match us, hl with | [_, _], _ => rfl⟩
  have F27 : FunF K d__law_dual_of f27 _ := ⟨fun_mk (st := s__law_dual_of) l27 c27 k27, (fun_mk (st := s__law_dual_of) l27 c27 k27).binds fun _ _ _ _ _ _ us hl => match us, hl with | [_], _ => rfl⟩
  have F28 : FunF K d__law_mirrored_of f28 _ := ⟨fun_mk (st := s__law_mirrored_of) l28 c28 k28, (fun_mk (st := s__law_mirrored_of) l28 c28 k28).binds fun _ _ _ _ _ _ us hl => match us, hl with | [_], _ => rfl⟩
  have F29 : FunF K d__law_turned_of f29 _ := ⟨fun_mk (st := s__law_turned_of) l29 c29 k29, (fun_mk (st := s__law_turned_of) l29 c29 k29).binds fun _ _ _ _ _ _ us hl => match us, hl with | [_, _], _ => rfl⟩
  have F30 : FunF K d__law_right f30 _ := ⟨fun_mk (st := s__law_right) l30 c30 k30, (fun_mk (st := s__law_right) l30 c30 k30).binds fun _ _ _ _ _ _ us hl => match us, hl with | [_, _], _ => rfl⟩
  have F31 : FunF K d_law f31 _ := ⟨fun_mk (st := s_law) l31 c31 k31, (fun_mk (st := s_law) l31 c31 k31).binds fun _ _ _ _ _ _ us hl => match us, hl with | [_], _ => rfl⟩
  refine ⟨_, F31, fun u => rfl, fun base => ?_⟩
  have m0 : d_is_whole ∈ Ls := by unfold Ls; simp only [List.mem_cons, true_or, or_true]
  have m1 : d_is_integer ∈ Ls := by unfold Ls; simp only [List.mem_cons, true_or, or_true]
  have m2 : d_rest_of ∈ Ls := by unfold Ls; simp only [List.mem_cons, true_or, or_true]
  have m3 : d_are_numbers ∈ Ls := by unfold Ls; simp only [List.mem_cons, true_or, or_true]
  have m4 : d_value_at ∈ Ls := by unfold Ls; simp only [List.mem_cons, true_or, or_true]
  have m5 : d_brought ∈ Ls := by unfold Ls; simp only [List.mem_cons, true_or, or_true]
  have m6 : d_falling_in ∈ Ls := by unfold Ls; simp only [List.mem_cons, true_or, or_true]
  have m7 : d_knots_in ∈ Ls := by unfold Ls; simp only [List.mem_cons, true_or, or_true]
  have m8 : d_Order___init__ ∈ Ls := by unfold Ls; simp only [List.mem_cons, true_or, or_true]
  have m9 : d_Order_numbers ∈ Ls := by unfold Ls; simp only [List.mem_cons, true_or, or_true]
  have m10 : d_Order_many ∈ Ls := by unfold Ls; simp only [List.mem_cons, true_or, or_true]
  have m11 : d_Order_level ∈ Ls := by unfold Ls; simp only [List.mem_cons, true_or, or_true]
  have m12 : d_Order_knots ∈ Ls := by unfold Ls; simp only [List.mem_cons, true_or, or_true]
  have m13 : d_Order_size ∈ Ls := by unfold Ls; simp only [List.mem_cons, true_or, or_true]
  have m14 : d_Order_ends ∈ Ls := by unfold Ls; simp only [List.mem_cons, true_or, or_true]
  have m15 : d_Order_marks ∈ Ls := by unfold Ls; simp only [List.mem_cons, true_or, or_true]
  have m16 : d_Order_dual ∈ Ls := by unfold Ls; simp only [List.mem_cons, true_or, or_true]
  have m17 : d_Order_mirrored ∈ Ls := by unfold Ls; simp only [List.mem_cons, true_or, or_true]
  have m18 : d_Order_turned ∈ Ls := by unfold Ls; simp only [List.mem_cons, true_or, or_true]
  have m19 : d_Order___eq__ ∈ Ls := by unfold Ls; simp only [List.mem_cons, true_or, or_true]
  have m20 : d__law_dice ∈ Ls := by unfold Ls; simp only [List.mem_cons, true_or, or_true]
  have m21 : d__law_roll ∈ Ls := by unfold Ls; simp only [List.mem_cons, true_or, or_true]
  have m22 : d__law_pick ∈ Ls := by unfold Ls; simp only [List.mem_cons, true_or, or_true]
  have m23 : d__law_mixed ∈ Ls := by unfold Ls; simp only [List.mem_cons, true_or, or_true]
  have m24 : d__law_value ∈ Ls := by unfold Ls; simp only [List.mem_cons, true_or, or_true]
  have m25 : d__law_order ∈ Ls := by unfold Ls; simp only [List.mem_cons, true_or, or_true]
  have m26 : d__law_standing ∈ Ls := by unfold Ls; simp only [List.mem_cons, true_or, or_true]
  have m27 : d__law_dual_of ∈ Ls := by unfold Ls; simp only [List.mem_cons, true_or, or_true]
  have m28 : d__law_mirrored_of ∈ Ls := by unfold Ls; simp only [List.mem_cons, true_or, or_true]
  have m29 : d__law_turned_of ∈ Ls := by unfold Ls; simp only [List.mem_cons, true_or, or_true]
  have m30 : d__law_right ∈ Ls := by unfold Ls; simp only [List.mem_cons, true_or, or_true]
  have m31 : d_law ∈ Ls := by unfold Ls; simp only [List.mem_cons, true_or, or_true]
  have XF : XMF K mg xT := xmf_of (l := []) (List.forall_mem_nil _) List.nodup_nil rfl rfl (List.forall_mem_nil _) (List.forall_mem_nil _)
  refine lawF_of (by decide +kernel) (by decide +kernel) ?_ ?_ ?_ ?_ ?_ ?_ ?_ (exm_of XF) (by decide +kernel)
  · exact List.forall_mem_cons.mpr ⟨⟨_, _, F0⟩, List.forall_mem_cons.mpr ⟨⟨_, _, F1⟩, List.forall_mem_cons.mpr ⟨⟨_, _, F2⟩, List.forall_mem_cons.mpr ⟨⟨_, _, F3⟩, List.forall_mem_cons.mpr ⟨⟨_, _, F4⟩, List.forall_mem_cons.mpr ⟨⟨_, _, F5⟩, List.forall_mem_cons.mpr ⟨⟨_, _, F6⟩, List.forall_mem_cons.mpr ⟨⟨_, _, F7⟩, List.forall_mem_cons.mpr ⟨⟨_, _, F8⟩, List.forall_mem_cons.mpr ⟨⟨_, _, F9⟩, List.forall_mem_cons.mpr ⟨⟨_, _, F10⟩, List.forall_mem_cons.mpr ⟨⟨_, _, F11⟩, List.forall_mem_cons.mpr ⟨⟨_, _, F12⟩, List.forall_mem_cons.mpr ⟨⟨_, _, F13⟩, List.forall_mem_cons.mpr ⟨⟨_, _, F14⟩, List.forall_mem_cons.mpr ⟨⟨_, _, F15⟩, List.forall_mem_cons.mpr ⟨⟨_, _, F16⟩, List.forall_mem_cons.mpr ⟨⟨_, _, F17⟩, List.forall_mem_cons.mpr ⟨⟨_, _, F18⟩, List.forall_mem_cons.mpr ⟨⟨_, _, F19⟩, List.forall_mem_cons.mpr ⟨⟨_, _, F20⟩, List.forall_mem_cons.mpr ⟨⟨_, _, F21⟩, List.forall_mem_cons.mpr ⟨⟨_, _, F22⟩, List.forall_mem_cons.mpr ⟨⟨_, _, F23⟩, List.forall_mem_cons.mpr ⟨⟨_, _, F24⟩, List.forall_mem_cons.mpr ⟨⟨_, _, F25⟩, List.forall_mem_cons.mpr ⟨⟨_, _, F26⟩, List.forall_mem_cons.mpr ⟨⟨_, _, F27⟩, List.forall_mem_cons.mpr ⟨⟨_, _, F28⟩, List.forall_mem_cons.mpr ⟨⟨_, _, F29⟩, List.forall_mem_cons.mpr ⟨⟨_, _, F30⟩, List.forall_mem_cons.mpr ⟨⟨_, _, F31⟩, List.forall_mem_nil _⟩⟩⟩⟩⟩⟩⟩⟩⟩⟩⟩⟩⟩⟩⟩⟩⟩⟩⟩⟩⟩⟩⟩⟩⟩⟩⟩⟩⟩⟩⟩⟩
  · exact List.forall_mem_cons.mpr ⟨⟨by decide +kernel, d_is_whole, m0, rfl, rfl, _, _, F0, PySem.W.mg_of X G a0⟩, List.forall_mem_cons.mpr ⟨⟨by decide +kernel, d_is_integer, m1, rfl, rfl, _, _, F1, PySem.W.mg_of X G a1⟩, List.forall_mem_cons.mpr ⟨⟨by decide +kernel, d_rest_of, m2, rfl, rfl, _, _, F2, PySem.W.mg_of X G a2⟩, List.forall_mem_cons.mpr ⟨⟨by decide +kernel, d_are_numbers, m3, rfl, rfl, _, _, F3, PySem.W.mg_of X G a3⟩, List.forall_mem_cons.mpr ⟨⟨by decide +kernel, d_value_at, m4, rfl, rfl, _, _, F4, PySem.W.mg_of X G a4⟩, List.forall_mem_cons.mpr ⟨⟨by decide +kernel, d_brought, m5, rfl, rfl, _, _, F5, PySem.W.mg_of X G a5⟩, List.forall_mem_cons.mpr ⟨⟨by decide +kernel, d_falling_in, m6, rfl, rfl, _, _, F6, PySem.W.mg_of X G a6⟩, List.forall_mem_cons.mpr ⟨⟨by decide +kernel, d_knots_in, m7, rfl, rfl, _, _, F7, PySem.W.mg_of X G a7⟩, List.forall_mem_cons.mpr ⟨⟨by decide +kernel, d__law_dice, m20, rfl, rfl, _, _, F20, PySem.W.mg_of X G a20⟩, List.forall_mem_cons.mpr ⟨⟨by decide +kernel, d__law_roll, m21, rfl, rfl, _, _, F21, PySem.W.mg_of X G a21⟩, List.forall_mem_cons.mpr ⟨⟨by decide +kernel, d__law_pick, m22, rfl, rfl, _, _, F22, PySem.W.mg_of X G a22⟩, List.forall_mem_cons.mpr ⟨⟨by decide +kernel, d__law_mixed, m23, rfl, rfl, _, _, F23, PySem.W.mg_of X G a23⟩, List.forall_mem_cons.mpr ⟨⟨by decide +kernel, d__law_value, m24, rfl, rfl, _, _, F24, PySem.W.mg_of X G a24⟩, List.forall_mem_cons.mpr ⟨⟨by decide +kernel, d__law_order, m25, rfl, rfl, _, _, F25, PySem.W.mg_of X G a25⟩, List.forall_mem_cons.mpr ⟨⟨by decide +kernel, d__law_standing, m26, rfl, rfl, _, _, F26, PySem.W.mg_of X G a26⟩, List.forall_mem_cons.mpr ⟨⟨by decide +kernel, d__law_dual_of, m27, rfl, rfl, _, _, F27, PySem.W.mg_of X G a27⟩, List.forall_mem_cons.mpr ⟨⟨by decide +kernel, d__law_mirrored_of, m28, rfl, rfl, _, _, F28, PySem.W.mg_of X G a28⟩, List.forall_mem_cons.mpr ⟨⟨by decide +kernel, d__law_turned_of, m29, rfl, rfl, _, _, F29, PySem.W.mg_of X G a29⟩, List.forall_mem_cons.mpr ⟨⟨by decide +kernel, d__law_right, m30, rfl, rfl, _, _, F30, PySem.W.mg_of X G a30⟩, List.forall_mem_nil _⟩⟩⟩⟩⟩⟩⟩⟩⟩⟩⟩⟩⟩⟩⟩⟩⟩⟩⟩
  · exact List.forall_mem_cons.mpr ⟨PySem.W.mg_none_of X G z0, List.forall_mem_cons.mpr ⟨PySem.W.mg_none_of X G z1, List.forall_mem_cons.mpr ⟨PySem.W.mg_none_of X G z2, List.forall_mem_cons.mpr ⟨PySem.W.mg_none_of X G z3, List.forall_mem_cons.mpr ⟨PySem.W.mg_none_of X G z4, List.forall_mem_cons.mpr ⟨PySem.W.mg_none_of X G z5, List.forall_mem_cons.mpr ⟨PySem.W.mg_none_of X G z6, List.forall_mem_cons.mpr ⟨PySem.W.mg_none_of X G z7, List.forall_mem_cons.mpr ⟨PySem.W.mg_none_of X G z8, List.forall_mem_cons.mpr ⟨PySem.W.mg_none_of X G z9, List.forall_mem_cons.mpr ⟨PySem.W.mg_none_of X G z10, List.forall_mem_cons.mpr ⟨PySem.W.mg_none_of X G z11, List.forall_mem_cons.mpr ⟨PySem.W.mg_none_of X G z12, List.forall_mem_cons.mpr ⟨PySem.W.mg_none_of X G z13, List.forall_mem_cons.mpr ⟨PySem.W.mg_none_of X G z14, List.forall_mem_cons.mpr ⟨PySem.W.mg_none_of X G z15, List.forall_mem_cons.mpr ⟨PySem.W.mg_none_of X G z16, List.forall_mem_nil _⟩⟩⟩⟩⟩⟩⟩⟩⟩⟩⟩⟩⟩⟩⟩⟩⟩
  · exact List.forall_mem_cons.mpr ⟨⟨_, .int (10 ^ 60), PySem.W.mg_of X G y0, ⟨_, rfl⟩, fun _ _ => rfl⟩, List.forall_mem_cons.mpr ⟨⟨_, .int 8, PySem.W.mg_of X G y1, ⟨_, rfl⟩, fun _ _ => rfl⟩, List.forall_mem_nil _⟩⟩
  · exact List.forall_mem_cons.mpr ⟨⟨by decide +kernel, C_Order, PySem.W.mg_of X G aC_Order, ⟨pg_Order, hd_Order, po_Order, sa_Order⟩, List.forall_mem_cons.mpr ⟨n0_Order, List.forall_mem_nil _⟩, List.forall_mem_cons.mpr ⟨⟨p9, d_Order_numbers, f9, _, ⟨a9, g9, t9, ⟨_, r9⟩⟩, m9, rfl, rfl, F9⟩, List.forall_mem_cons.mpr ⟨⟨p10, d_Order_many, f10, _, ⟨a10, g10, t10, ⟨_, r10⟩⟩, m10, rfl, rfl, F10⟩, List.forall_mem_cons.mpr ⟨⟨p11, d_Order_level, f11, _, ⟨a11, g11, t11, ⟨_, r11⟩⟩, m11, rfl, rfl, F11⟩, List.forall_mem_cons.mpr ⟨⟨p12, d_Order_knots, f12, _, ⟨a12, g12, t12, ⟨_, r12⟩⟩, m12, rfl, rfl, F12⟩, List.forall_mem_cons.mpr ⟨⟨p13, d_Order_size, f13, _, ⟨a13, g13, t13, ⟨_, r13⟩⟩, m13, rfl, rfl, F13⟩, List.forall_mem_cons.mpr ⟨⟨p14, d_Order_ends, f14, _, ⟨a14, g14, t14, ⟨_, r14⟩⟩, m14, rfl, rfl, F14⟩, List.forall_mem_cons.mpr ⟨⟨p15, d_Order_marks, f15, _, ⟨a15, g15, t15, ⟨_, r15⟩⟩, m15, rfl, rfl, F15⟩, List.forall_mem_cons.mpr ⟨⟨p16, d_Order_dual, f16, _, ⟨a16, g16, t16, ⟨_, r16⟩⟩, m16, rfl, rfl, F16⟩, List.forall_mem_cons.mpr ⟨⟨p17, d_Order_mirrored, f17, _, ⟨a17, g17, t17, ⟨_, r17⟩⟩, m17, rfl, rfl, F17⟩, List.forall_mem_cons.mpr ⟨⟨d_Order_turned, f18, _, ⟨a18, i18, k18⟩, m18, rfl, rfl, F18⟩, List.forall_mem_cons.mpr ⟨⟨d_Order___eq__, f19, _, a19, i19, ob_Order, ne_Order, m19, rfl, rfl, F19⟩, List.forall_mem_nil _⟩⟩⟩⟩⟩⟩⟩⟩⟩⟩⟩, d_Order___init__, f8, _, ⟨mk_Order, a8, i8, kc_Order⟩, m8, rfl, rfl, F8⟩, List.forall_mem_nil _⟩
  · intro Y e1 e2
    subst e1 e2
    refine isx_of XF ?_
    exact isi_of (List.forall_mem_cons.mpr ⟨(fun u v hu hv => by (cases (show _ = _ from hu)); (cases (show _ = _ from hv)); exact kit_refl), List.forall_mem_cons.mpr ⟨(fun u v hu hv => by (cases (show _ = _ from hu)); (cases (show _ = _ from hv)); exact rfl), List.forall_mem_cons.mpr ⟨(fun u v hu hv => by (cases (show _ = _ from hu)); (cases (show _ = _ from hv)); exact kit_refl), List.forall_mem_cons.mpr ⟨(fun u v hu hv => by (obtain ⟨D, z, y⟩ := hu; cases (PySem.W.mg_of X G aC_Order).symm.trans z; cases y); (obtain ⟨D, z, y⟩ := hv; cases (PySem.W.mg_of X G aC_Order).symm.trans z; cases y); exact kit_refl), List.forall_mem_nil _⟩⟩⟩⟩) (List.forall_mem_cons.mpr ⟨(fun x D z y => by cases z), List.forall_mem_cons.mpr ⟨(fun x D z y => by cases z), List.forall_mem_cons.mpr ⟨(fun x D z y => by cases z), List.forall_mem_cons.mpr ⟨(fun x D z y => by cases z; cases (PySem.W.mg_of X G aC_Order).symm.trans y; exact ⟨⟨pg_Order, hd_Order, po_Order, sa_Order⟩, cl_Order, gd, tk, ob_Order⟩), List.forall_mem_nil _⟩⟩⟩⟩)
  · exact List.forall_mem_nil _
end K21
namespace K21
open PySem L2 PM PO
theorem tT : OrdT T g.G (.cons .nev .nil) (.cons .nev .nil) where
  isw := ⟨by kernel_rfl, by kernel_rfl⟩
  isn := ⟨by kernel_rfl, by kernel_rfl⟩
  rest := ⟨by kernel_rfl, by kernel_rfl⟩
  are := ⟨by kernel_rfl, by kernel_rfl⟩
  value := ⟨by kernel_rfl, by kernel_rfl⟩
  brt := ⟨by kernel_rfl, by kernel_rfl⟩
  fall := ⟨by kernel_rfl, by kernel_rfl⟩
  knot := ⟨by kernel_rfl, by kernel_rfl⟩
  isC := by kernel_rfl
  init := by kernel_rfl
  nums := ⟨by kernel_rfl, by kernel_rfl⟩
  many := ⟨by kernel_rfl, by kernel_rfl⟩
  level := ⟨by kernel_rfl, by kernel_rfl⟩
  knots := ⟨by kernel_rfl, by kernel_rfl⟩
  size := ⟨by kernel_rfl, by kernel_rfl⟩
  ends := ⟨by kernel_rfl, by kernel_rfl⟩
  marks := ⟨by kernel_rfl, by kernel_rfl⟩
  dual := ⟨by kernel_rfl, by kernel_rfl⟩
  mir := ⟨by kernel_rfl, by kernel_rfl⟩
  tur := ⟨by kernel_rfl, by kernel_rfl⟩
  eq := ⟨by kernel_rfl, by kernel_rfl⟩
  i1 := by kernel_rfl
  i2 := by kernel_rfl
  i3 := by kernel_rfl
  i4 := by kernel_rfl
  great := by kernel_rfl
  most := by kernel_rfl
  ord := by unfold isOrd; kernel_rfl
theorem tL : LawT T g.G where
  roll := ⟨by kernel_rfl, by kernel_rfl⟩
  dice := ⟨by kernel_rfl, by kernel_rfl⟩
theorem tK : PO.K21.KO g.G := ⟨by kernel_rfl, by kernel_rfl, by kernel_rfl, by kernel_rfl, by kernel_rfl, by kernel_rfl, by kernel_rfl, by kernel_rfl, by kernel_rfl⟩
theorem f_mixed : Fn T g.G "" "_law_mixed" .plain 5 2 [3, 4, 2] B_law_mixed := ⟨by kernel_rfl, by kernel_rfl⟩
theorem f_pick : Fn T g.G "" "_law_pick" .plain 2 2 [] (pickB "_law_roll") := ⟨by kernel_rfl, by kernel_rfl⟩
theorem f_order : Fn T g.G "" "_law_order" .plain 7 2 [2, 3, 4, 5, 6] B_law_order := ⟨by kernel_rfl, by kernel_rfl⟩
theorem f_value : Fn T g.G "" "_law_value" .plain 4 2 [2, 3] B_law_value := ⟨by kernel_rfl, by kernel_rfl⟩
theorem f_standing : Fn T g.G "" "_law_standing" .plain 4 2 [2, 3] B_law_standing := ⟨by kernel_rfl, by kernel_rfl⟩
theorem f_dual : Fn T g.G "" "_law_dual_of" .plain 3 1 [1] B_law_dual_of := ⟨by kernel_rfl, by kernel_rfl⟩
theorem f_mir : Fn T g.G "" "_law_mirrored_of" .plain 3 1 [1] B_law_mirrored_of := ⟨by kernel_rfl, by kernel_rfl⟩
theorem f_tur : Fn T g.G "" "_law_turned_of" .plain 3 2 [] B_law_turned_of := ⟨by kernel_rfl, by kernel_rfl⟩
theorem f_right : Fn T g.G "" "_law_right" .plain 12 2 [4, 5, 6, 7, 8, 9, 2, 3] PO.K21.B_right := ⟨by kernel_rfl, by kernel_rfl⟩
theorem rights : Rights (callN T g.G 40) "_law_right" := fun {n h g'} a b c o hn hc hc' => by
  have p : (2 : Int) ^ 80 < 2 ^ 90 := by decide +kernel
  obtain ⟨fr, a', c', e, h1, h2⟩ := PO.K21.right_ok (C := callN T g.G 39) (G := g.G) (ordC tT 31) tK (tL.rolls 37) (picks_of tL f_pick 36) o hn
    (ret_fn (m := 37) f_dual rfl rfl (dual_of_ok (fun y => ret_fn (m := 36) f_standing rfl rfl (standing_ok o (by omega) y)) (by omega)))
    (ret_fn (m := 37) f_mir rfl rfl (mirrored_of_ok (fun y => ret_fn (m := 36) f_standing rfl rfl (standing_ok o (by omega) y)) (by omega)))
    (fun b hb => ret_fn (m := 37) f_tur rfl rfl (turned_of_ok (fun x hx => ret_fn (m := 36) f_value rfl rfl (law_value_ok o (by omega) x hx)) (by omega) hb)) (a := a) (b := b) (c := c) hc (by omega)
  exact ⟨fr, a', c', by rw [fn_run (m := 38) f_right, e], h1, by omega⟩
def lb : Sms := .cons (.asgO 4 (.call "_law_dice" (xb (.var 0) (.var 1)))) (.cons (.fors (.nm 5) (.rng (xa (li 3))) (.cons (.ifs (turnE 4 8) retFalse .nil) .nil)) .nil)
def told : Ex := .frz (.lst (xc (.att (.att (.var 2) "dual") "numbers") (xc (.att (.att (.var 2) "mirrored") "numbers") (xc (.att (.meth (.var 2) "turned" (xc (li 1) xn)) "numbers") (xc (.cmp .Eq (.meth (.var 2) "turned" (xc (.neg (li 5)) xn)) (.meth (.var 2) "turned" (xc (li 3) xn))) xn)))))
def tl : Sms := .cons (.asg (.nm 2) (.call "Order" (xc (.tup (xc (li 2) (xc (li 5) (xc (li 3) (xc (li 8) xn))))) xn))) (.cons (.asg (.nm 3) told) (.cons (.ret (.cmp .Eq (.var 3) (.frz (.lst (xc (.tup (xc (li 2) (xc (li 5) (xc (li 7) (xc (li 4) xn))))) (xc (.tup (xc (li 5) (xc (li 2) (xc (li 4) (xc (li 7) xn))))) (xc (.tup (xc (li 5) (xc (li 3) (xc (li 6) (xc (li 4) xn))))) (xc (.lit (.bl true)) xn)))))))) .nil))
def lawBd : Sms := .cons (.fors (.nm 1) (spotsI 3) lb) tl
theorem b_law : d_law.fnd g 12 12 = ⟨6, 1, [1, 4, 5, 2, 3], lawBd⟩ := by kernel_rfl
theorem lb_ok (ns : List Int) (i : Nat) (hi : i < 4) (r : PM.Env) (hr : r.length = 4) : ∃ s1 r', execSs (callN T g.G 40) g.G lb (.val (.rol (ns.map .int)) :: .val (.int i) :: r) = .ok .nx (.val (.rol (ns.map .int)) :: s1 :: r') ∧ r'.length = 4 := by
  match r, hr with
  | [s2, s3, s4, s5], _ =>
    have p : (2 : Int) ^ 70 > 100000 := by decide +kernel
    have p2 : (4 : Int) < 2 ^ 200 := by decide +kernel
    obtain ⟨a, b, hd⟩ := tL.dices 38 ns i (by omega) (by omega)
    have e1 : execS (callN T g.G 40) g.G (.asgO 4 (.call "_law_dice" (xb (.var 0) (.var 1)))) [.val (.rol (ns.map .int)), .val (.int i), s2, s3, s4, s5] = .ok .nx [.val (.rol (ns.map .int)), .val (.int i), s2, s3, .own (diceW a b 0), s5] := do_asgO (evf_call (as := [.rol (ns.map .int), .int i]) (evl_cons (ev_var rfl) (evl_cons (ev_var rfl) evl_nil)) hd) (by simp)
    have key := do_up (C := callN T g.G 40) (G := g.G) (t := .nm 5) (it := .rng (xa (li 3))) (b := .cons (.ifs (turnE 4 8) retFalse .nil) .nil) (m := 3) (F := fun i => .int (i : Nat)) (env := [.val (.rol (ns.map .int)), .val (.int i), s2, s3, .own (diceW a b 0), s5])
      (I := fun k e => ∃ a' c' s5, e = [.val (.rol (ns.map .int)), .val (.int i), s2, s3, .own (diceW a' b c'), s5] ∧ 0 ≤ c' ∧ c' ≤ 2000 * k)
      (evi_rng (evl_cons ev_lit evl_nil) (rng1_nat (by omega)))
      (fun k hk e he => by
        obtain ⟨a', c', s5, rfl, h1, h2⟩ := he
        refine ⟨[.val (.rol (ns.map .int)), .val (.int i), s2, s3, .own (diceW a' b c'), .val (.int (k : Nat))], rfl, ?_⟩
        obtain ⟨a2, c2, g1, g2, g3⟩ := turn_ok (C := callN T g.G 40) (G := g.G) (tL.rolls 38) (orders_of tL f_mixed f_order 36) rights (i := 4) (k := 8) (a := a') (b := b) (c := c') (env := [.val (.rol (ns.map .int)), .val (.int i), s2, s3, .own (diceW a' b c'), .val (.int (k : Nat))]) (by omega) (by omega) rfl h1 (by omega)
        refine ⟨[.val (.rol (ns.map .int)), .val (.int i), s2, s3, .own (diceW a2 b c2), .val (.int (k : Nat))], (ss_nx g1).trans (by rw [execSs]; rfl), a2, c2, _, rfl, g2, by omega⟩)
      ⟨a, 0, s5, rfl, by omega, by omega⟩
    obtain ⟨e', h1, a', c', s5', rfl, _, _⟩ := key
    exact ⟨.val (.int i), [s2, s3, .own (diceW a' b c'), s5'], (ss_nx e1).trans ((ss_nx h1).trans (by rw [execSs])), rfl⟩
def okR : R Fl → Bool
  | .ok (.rt _ (.bl true)) _ => true
  | _ => false
theorem okR_of {r : R Fl} (h : okR r = true) : ∃ fr e, r = .ok (.rt fr (.bl true)) e := by
  unfold okR at h
  split at h
  · exact ⟨_, _, rfl⟩
  · cases h
theorem tl_ok (x0 s1 s2 s3 s4 s5 : Slot) : okR (execSs (callN T g.G 40) g.G tl [x0, s1, s2, s3, s4, s5]) = true := by kernel_rfl
theorem run (ns : List Int) (_ : ns.length ≤ 63) : ∃ fr bs, runF (callN T g.G 40) g.G (d_law.fnd g 12 12) [.val (.rol (ns.map .int))] = .ok fr (.bl true) bs := by
  rw [b_law]
  obtain ⟨s1, r', h1, hr⟩ := spots_ok (C := callN T g.G 40) (G := g.G) (k := 3) (m := 4) (lb := lb) (ns := ns) (by omega) (fun i hi r hr => lb_ok ns i hi r hr) (s := .no) (r := [.no, .no, .no, .no]) rfl
  match r', hr with
  | [s2, s3, s4, s5], _ =>
    obtain ⟨fr, e, h2⟩ := okR_of (tl_ok (.val (.rol (ns.map .int))) s1 s2 s3 s4 s5)
    have y : ∀ B : Sms, runF (callN T g.G 40) g.G ⟨6, 1, [1, 4, 5, 2, 3], B⟩ [.val (.rol (ns.map .int))] = endR [.val (.rol (ns.map .int))] (execSs (callN T g.G 40) g.G B [.val (.rol (ns.map .int)), .no, .no, .no, .no, .no]) := fun B => runF_eq rfl rfl rfl
    refine ⟨fr, [], ?_⟩
    rw [y, show lawBd = .cons (.fors (.nm 1) (spotsI 3) lb) tl from rfl, ss_nx h1, h2]
    rfl
end K21
open PySem PySem.W PyProof.Rows in
set_option maxRecDepth 100000 in
set_option maxHeartbeats 0 in
theorem PySem.Challenge.cw_rimtrails_k21_whole_orders_of_orders_holds : PySem.Challenge.rw_rimtrails_k21_whole_orders_of_orders.Holds := by
  w_on; o_law; k_head; (case hw => w_witness2)
  k_fill
  refine PM.walk (l := PySem.Challenge.rw_rimtrails_k21_whole_orders_of_orders) (g := K21.g) (T := K21.T) (m := 12) (n := 12) (L := K21.Ls) (dl := K21.d_law) rfl rfl rfl (by unfold K21.Ls; simp only [List.mem_cons, true_or, or_true]) rfl K21.run (fun w h Y => PySem.W.kIn_of Y) ?F
  case F =>
    intro w mg fa h KX G hmg
    refine' K21.facts KX G hmg ?aC_Order ?a0 ?l0 ?c0 ?k0 ?a1 ?l1 ?c1 ?k1 ?a2 ?l2 ?c2 ?k2 ?a3 ?l3 ?c3 ?k3 ?a4 ?l4 ?c4 ?k4 ?a5 ?l5 ?c5 ?k5 ?a6 ?l6 ?c6 ?k6 ?a7 ?l7 ?c7 ?k7 ?a8 ?i8 ?l8 ?c8 ?k8 ?a9 ?g9 ?t9 ?r9 ?l9 ?c9 ?k9 ?a10 ?g10 ?t10 ?r10 ?l10 ?c10 ?k10 ?a11 ?g11 ?t11 ?r11 ?l11 ?c11 ?k11 ?a12 ?g12 ?t12 ?r12 ?l12 ?c12 ?k12 ?a13 ?g13 ?t13 ?r13 ?l13 ?c13 ?k13 ?a14 ?g14 ?t14 ?r14 ?l14 ?c14 ?k14 ?a15 ?g15 ?t15 ?r15 ?l15 ?c15 ?k15 ?a16 ?g16 ?t16 ?r16 ?l16 ?c16 ?k16 ?a17 ?g17 ?t17 ?r17 ?l17 ?c17 ?k17 ?a18 ?i18 ?l18 ?c18 ?k18 ?a19 ?i19 ?l19 ?c19 ?k19 ?a20 ?l20 ?c20 ?k20 ?a21 ?l21 ?c21 ?k21 ?a22 ?l22 ?c22 ?k22 ?a23 ?l23 ?c23 ?k23 ?a24 ?l24 ?c24 ?k24 ?a25 ?l25 ?c25 ?k25 ?a26 ?l26 ?c26 ?k26 ?a27 ?l27 ?c27 ?k27 ?a28 ?l28 ?c28 ?k28 ?a29 ?l29 ?c29 ?k29 ?a30 ?l30 ?c30 ?k30 ?a31 ?l31 ?c31 ?k31 ?pg_Order ?hd_Order ?po_Order ?sa_Order ?mk_Order ?kc_Order ?n0_Order ?ob_Order ?ne_Order ?cl_Order ?z0 ?z1 ?z2 ?z3 ?z4 ?z5 ?z6 ?z7 ?z8 ?z9 ?z10 ?z11 ?z12 ?z13 ?z14 ?z15 ?z16 ?y0 ?y1 ?gd ?tk
    (case aC_Order => k_is)
    (case a0 => k_is)
    (case l0 => k_is)
    (case c0 => k_is)
    (case k0 => k_is)
    (case a1 => k_is)
    (case l1 => k_is)
    (case c1 => k_is)
    (case k1 => k_is)
    (case a2 => k_is)
    (case l2 => k_is)
    (case c2 => k_is)
    (case k2 => k_is)
    (case a3 => k_is)
    (case l3 => k_is)
    (case c3 => k_is)
    (case k3 => k_is)
    (case a4 => k_is)
    (case l4 => k_is)
    (case c4 => k_is)
    (case k4 => k_is)
    (case a5 => k_is)
    (case l5 => k_is)
    (case c5 => k_is)
    (case k5 => k_is)
    (case a6 => k_is)
    (case l6 => k_is)
    (case c6 => k_is)
    (case k6 => k_is)
    (case a7 => k_is)
    (case l7 => k_is)
    (case c7 => k_is)
    (case k7 => k_is)
    (case a8 => k_is)
    (case i8 => k_is)
    (case l8 => k_is)
    (case c8 => k_is)
    (case k8 => k_is)
    (case a9 => k_is)
    (case g9 => k_is)
    (case t9 => k_is)
    (case r9 => k_is)
    (case l9 => k_is)
    (case c9 => k_is)
    (case k9 => k_is)
    (case a10 => k_is)
    (case g10 => k_is)
    (case t10 => k_is)
    (case r10 => k_is)
    (case l10 => k_is)
    (case c10 => k_is)
    (case k10 => k_is)
    (case a11 => k_is)
    (case g11 => k_is)
    (case t11 => k_is)
    (case r11 => k_is)
    (case l11 => k_is)
    (case c11 => k_is)
    (case k11 => k_is)
    (case a12 => k_is)
    (case g12 => k_is)
    (case t12 => k_is)
    (case r12 => k_is)
    (case l12 => k_is)
    (case c12 => k_is)
    (case k12 => k_is)
    (case a13 => k_is)
    (case g13 => k_is)
    (case t13 => k_is)
    (case r13 => k_is)
    (case l13 => k_is)
    (case c13 => k_is)
    (case k13 => k_is)
    (case a14 => k_is)
    (case g14 => k_is)
    (case t14 => k_is)
    (case r14 => k_is)
    (case l14 => k_is)
    (case c14 => k_is)
    (case k14 => k_is)
    (case a15 => k_is)
    (case g15 => k_is)
    (case t15 => k_is)
    (case r15 => k_is)
    (case l15 => k_is)
    (case c15 => k_is)
    (case k15 => k_is)
    (case a16 => k_is)
    (case g16 => k_is)
    (case t16 => k_is)
    (case r16 => k_is)
    (case l16 => k_is)
    (case c16 => k_is)
    (case k16 => k_is)
    (case a17 => k_is)
    (case g17 => k_is)
    (case t17 => k_is)
    (case r17 => k_is)
    (case l17 => k_is)
    (case c17 => k_is)
    (case k17 => k_is)
    (case a18 => k_is)
    (case i18 => k_is)
    (case l18 => k_is)
    (case c18 => k_is)
    (case k18 => k_is)
    (case a19 => k_is)
    (case i19 => k_is)
    (case l19 => k_is)
    (case c19 => k_is)
    (case k19 => k_is)
    (case a20 => k_is)
    (case l20 => k_is)
    (case c20 => k_is)
    (case k20 => k_is)
    (case a21 => k_is)
    (case l21 => k_is)
    (case c21 => k_is)
    (case k21 => k_is)
    (case a22 => k_is)
    (case l22 => k_is)
    (case c22 => k_is)
    (case k22 => k_is)
    (case a23 => k_is)
    (case l23 => k_is)
    (case c23 => k_is)
    (case k23 => k_is)
    (case a24 => k_is)
    (case l24 => k_is)
    (case c24 => k_is)
    (case k24 => k_is)
    (case a25 => k_is)
    (case l25 => k_is)
    (case c25 => k_is)
    (case k25 => k_is)
    (case a26 => k_is)
    (case l26 => k_is)
    (case c26 => k_is)
    (case k26 => k_is)
    (case a27 => k_is)
    (case l27 => k_is)
    (case c27 => k_is)
    (case k27 => k_is)
    (case a28 => k_is)
    (case l28 => k_is)
    (case c28 => k_is)
    (case k28 => k_is)
    (case a29 => k_is)
    (case l29 => k_is)
    (case c29 => k_is)
    (case k29 => k_is)
    (case a30 => k_is)
    (case l30 => k_is)
    (case c30 => k_is)
    (case k30 => k_is)
    (case a31 => k_is)
    (case l31 => k_is)
    (case c31 => k_is)
    (case k31 => k_is)
    (case pg_Order => k_is)
    (case hd_Order => k_is)
    (case po_Order => k_is)
    (case sa_Order => k_is)
    (case mk_Order => k_is)
    (case kc_Order => k_is)
    (case n0_Order => k_is)
    (case ob_Order => k_is)
    (case ne_Order => k_is)
    (case cl_Order => k_is)
    (case z0 => k_is)
    (case z1 => k_is)
    (case z2 => k_is)
    (case z3 => k_is)
    (case z4 => k_is)
    (case z5 => k_is)
    (case z6 => k_is)
    (case z7 => k_is)
    (case z8 => k_is)
    (case z9 => k_is)
    (case z10 => k_is)
    (case z11 => k_is)
    (case z12 => k_is)
    (case z13 => k_is)
    (case z14 => k_is)
    (case z15 => k_is)
    (case z16 => k_is)
    (case y0 => k_is)
    (case y1 => k_is)
    (case gd => k_is)
    (case tk => k_is)
