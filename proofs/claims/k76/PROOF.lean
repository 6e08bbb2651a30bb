import PyProof.Rows.All
import Wide.All
import OpenK.AllK
import Wide.FinOn
import HandS.ForMost
import HandS.ForExc
import HandS.Wide
import HandS.Conv
import HandS.Flow
import HandS.RaiseMore
import HandS.DictComp
import PyProof.ReprRoads
import HandS.ExcInit
import HandS.ExcField
import PyProof.StrLaws
import KE.KStateDown
import HandS.Head0
import HandS.Head1
import HandS.Head2
import HandS.HeadEnd
import HandS.HeadHook1
import HandS.HeadHook2
import HandS.HeadHook3
import HandS.HeadHook4
import PySem.Challenge.RW_heldproofs_k76_seam_large_worlds
set_option Elab.async false
set_option linter.all false
set_option maxRecDepth 100000
set_option maxHeartbeats 2000000
/-! The mini layer: plain values, plain cells, plain results; each reading of the hand layer is implied by a plain function. -/
namespace ML
open PySem PySem.Spec PyProof.Rows L2

/-- a value told as a plain tree; ref: a cell of the mini heap -/
inductive MV where
  | non
  | bl (b : Bool)
  | int (i : Int)
  | str (s : Str)
  | tup (xs : List MV)
  | lst (xs : List MV)
  | rl (xs : List MV)
  | dK (ks : List Key) (vs : List MV)
  | dT (ks : List (List Key)) (vs : List MV)
  | obj (C : Addr) (ns : List Str) (vs : List MV)
  | ref (i : Nat)
  | ty (n : String)
  | cls (C : Addr)
  | exc (a dd C : Addr) (ns : List Str) (vs : List MV)

inductive MCell where
  | lst (xs : List MV)
  | dK (ks : List Key) (vs : List MV)
  | dT (ks : List (List Key)) (vs : List MV)
  | ins (C : Addr) (ns : List Str) (vs : List MV)
  | dead

abbrev Mo := List MCell
abbrev St := L2.St
structure MExc where
  cls : Addr
  fs : List (Str × MV)
inductive R (α : Type) where
  | ok (a : α) (m : Mo)
  | exc (e : MExc) (m : Mo)
  | stuck
def R.bind {α β : Type} (r : R α) (f : α → Mo → R β) : R β := match r with
  | .ok a m => f a m
  | .exc e m => .exc e m
  | .stuck => .stuck
abbrev Env := List (Option MV)
/-- a bound that nothing computes -/
def okI (lo hi n : Int) : Prop := lo ≤ n ∧ n ≤ hi
noncomputable instance {lo hi n : Int} : Decidable (okI lo hi n) := Classical.propDecidable _
abbrev ME := Env → Mo → R MV
abbrev MT := Env → Mo → R Bool
abbrev MA := Env → Mo → R (List MV)

@[simp] theorem R.bind_ok {α β : Type} (a : α) (m : Mo) (f : α → Mo → R β) : (R.ok a m).bind f = f a m := rfl
@[simp] theorem R.bind_exc {α β : Type} (e : MExc) (m : Mo) (f : α → Mo → R β) : (R.exc e m : R α).bind f = .exc e m := rfl
@[simp] theorem R.bind_stuck {α β : Type} (f : α → Mo → R β) : (R.stuck : R α).bind f = .stuck := rfl

/-- what is fixed (F: read, never written again), where the cells stand (ι), what is kept aside (G: not to be read or written meanwhile) -/
structure Wd where
  F : Hp
  ι : List Addr
  G : Hp

def isD : HO → Bool
  | .dK _ => true
  | .dT _ => true
  | .frz _ (.dK _) => true
  | .frz _ (.dT _) => true
  | _ => false
def isP : HO → Bool
  | .dK _ => true
  | .dT _ => true
  | _ => false
def HLw (F F' : Hp) : Prop := (∀ a u, isD u = false → F a = some u → F' a = some u) ∧ ∀ a u, isP u = true → Rd F a u → Rd F' a u
structure HLe (F F' : Hp) : Prop where
  w : HLw F F'
  z : ∀ a o u, F a = some (.frz o u) → F' a = some (.frz o u)
theorem HLe.refl (F : Hp) : HLe F F := ⟨⟨fun _ _ _ h => h, fun _ _ _ h => h⟩, fun _ _ _ h => h⟩
theorem HLw.trans {F F1 F2 : Hp} (a : HLw F F1) (b : HLw F1 F2) : HLw F F2 := ⟨fun x u d h => b.1 x u d (a.1 x u d h), fun x u d h => b.2 x u d (a.2 x u d h)⟩
theorem HLe.trans {F F1 F2 : Hp} (a : HLe F F1) (b : HLe F1 F2) : HLe F F2 := ⟨a.w.trans b.w, fun x o u h => b.z x o u (a.z x o u h)⟩
theorem HLe.new {F : Hp} {p : Addr} {o : HO} (h : F p = none) : HLe F (upd F p o) := ⟨⟨fun a u _ e => by
  rw [upd_ne (ne_of_none e h)]; exact e, fun a u _ e => by
  rcases e with e | ⟨ob, e⟩
  · exact .inl (by rw [upd_ne (ne_of_none e h)]; exact e)
  · exact .inr ⟨ob, by rw [upd_ne (ne_of_none e h)]; exact e⟩⟩, fun a ob u e => by rw [upd_ne (ne_of_none e h)]; exact e⟩
structure Wd.Lw (w w' : Wd) : Prop where
  f : HLw w.F w'.F
  i : ∃ t, w'.ι = w.ι ++ t
structure Wd.Lf (w w' : Wd) : Prop where
  f : HLe w.F w'.F
  i : ∃ t, w'.ι = w.ι ++ t
theorem Wd.Lf.lw {w w' : Wd} (h : w.Lf w') : w.Lw w' := ⟨h.f.w, h.i⟩
structure Wd.Le (w w' : Wd) : Prop where
  f : HLe w.F w'.F
  i : ∃ t, w'.ι = w.ι ++ t
  g : w'.G = w.G
theorem Wd.Le.lf {w w' : Wd} (h : w.Le w') : w.Lf w' := ⟨h.f, h.i⟩
theorem Wd.Le.refl (w : Wd) : w.Le w := ⟨HLe.refl _, ⟨[], by simp⟩, rfl⟩
theorem Wd.Le.trans {a b c : Wd} (h : a.Le b) (k : b.Le c) : a.Le c := ⟨h.f.trans k.f, by
  obtain ⟨t, e⟩ := h.i
  obtain ⟨t', e'⟩ := k.i
  exact ⟨t ++ t', by rw [e', e, List.append_assoc]⟩, k.g.trans h.g⟩
theorem Wd.Lw.at_ {w w' : Wd} (h : w.Lw w') {i : Nat} {a : Addr} (e : w.ι[i]? = some a) : w'.ι[i]? = some a := by
  obtain ⟨t, q⟩ := h.i
  rw [q, List.getElem?_append_left (List.getElem?_eq_some_iff.mp e).1]
  exact e

mutual
def RM (K : PySem.W.Frag) (w : Wd) : MV → V → Prop
  | .non, v => v = .non
  | .bl b, v => v = .bl b
  | .int i, v => v = .int i
  | .str s, v => v = .str s
  | .tup xs, v => ∃ a vs, v = .ref a ∧ SqT K w.F a vs ∧ RMs K w xs vs
  | .lst xs, v => ∃ a vs, v = .ref a ∧ w.F a = some (.lst vs) ∧ RMs K w xs vs
  | .rl xs, v => ∃ a vs, v = .ref a ∧ SqL K w.F a vs ∧ RMs K w xs vs
  | .dK ks xs, v => ∃ a vs, v = .ref a ∧ Rd w.F a (.dK (ks.zip vs)) ∧ ks.length = xs.length ∧ RMs K w xs vs
  | .dT ks xs, v => ∃ a vs, v = .ref a ∧ Rd w.F a (.dT (ks.zip vs)) ∧ ks.length = xs.length ∧ RMs K w xs vs
  | .obj C ns xs, v => ∃ a dx vs, v = .ref a ∧ w.F a = some (.ins C dx (ns.zip vs)) ∧ ns.length = xs.length ∧ RMs K w xs vs
  | .ref i, v => ∃ a, v = .ref a ∧ w.ι[i]? = some a
  | .ty n, v => v = .ty n
  | .cls C, v => v = .ref C
  | .exc a dd _ ns xs, v => v = .ref a ∧ ∃ vs, (ns = [] ∨ w.F dd = some (.xd (ns.zip vs))) ∧ ns.length = xs.length ∧ RMs K w xs vs
def RMs (K : PySem.W.Frag) (w : Wd) : List MV → List V → Prop
  | [], vs => vs = []
  | x :: xs, vs => ∃ v r, vs = v :: r ∧ RM K w x v ∧ RMs K w xs r
end

theorem rd_le {F F' : Hp} (h : HLw F F') {a : Addr} {u : HO} (hd : isD u = false) (e : Rd F a u) : Rd F' a u := by
  rcases e with e | ⟨o, e⟩
  · exact .inl (h.1 a u hd e)
  · refine .inr ⟨o, h.1 a _ ?_ e⟩
    cases u <;> first | rfl | exact absurd hd (by simp [isD])
theorem sqt_le {K : PySem.W.Frag} {F F' : Hp} (h : HLw F F') {a : Addr} {vs : List V} (e : SqT K F a vs) : SqT K F' a vs := by
  rcases e with e | e
  · exact .inl (rd_le h rfl e)
  · exact .inr e
theorem sql_le {K : PySem.W.Frag} {F F' : Hp} (h : HLw F F') {a : Addr} {vs : List V} (e : SqL K F a vs) : SqL K F' a vs := by
  rcases e with e | e
  · exact .inl (rd_le h rfl e)
  · exact .inr e

mutual
theorem RM.monoW {K : PySem.W.Frag} {w w' : Wd} (h : w.Lw w') : ∀ (x : MV) (v : V), RM K w x v → RM K w' x v
  | .non, _, e => e
  | .bl _, _, e => e
  | .int _, _, e => e
  | .str _, _, e => e
  | .tup xs, _, ⟨a, vs, e, s, r⟩ => ⟨a, vs, e, sqt_le h.f s, RMs.monoW h xs vs r⟩
  | .lst xs, _, ⟨a, vs, e, s, r⟩ => ⟨a, vs, e, h.f.1 a _ rfl s, RMs.monoW h xs vs r⟩
  | .rl xs, _, ⟨a, vs, e, s, r⟩ => ⟨a, vs, e, sql_le h.f s, RMs.monoW h xs vs r⟩
  | .dK ks xs, _, ⟨a, vs, e, s, l, r⟩ => ⟨a, vs, e, h.f.2 a _ rfl s, l, RMs.monoW h xs vs r⟩
  | .dT ks xs, _, ⟨a, vs, e, s, l, r⟩ => ⟨a, vs, e, h.f.2 a _ rfl s, l, RMs.monoW h xs vs r⟩
  | .obj C ns xs, _, ⟨a, dx, vs, e, s, l, r⟩ => ⟨a, dx, vs, e, h.f.1 a _ rfl s, l, RMs.monoW h xs vs r⟩
  | .ref i, _, ⟨a, e, s⟩ => ⟨a, e, h.at_ s⟩
  | .ty _, _, e => e
  | .cls _, _, e => e
  | .exc a dd C ns xs, _, ⟨e, vs, s, l, r⟩ => ⟨e, vs, s.imp id (h.f.1 dd _ rfl), l, RMs.monoW h xs vs r⟩
theorem RMs.monoW {K : PySem.W.Frag} {w w' : Wd} (h : w.Lw w') : ∀ (xs : List MV) (vs : List V), RMs K w xs vs → RMs K w' xs vs
  | [], _, e => e
  | x :: xs, _, ⟨v, r, e, a, b⟩ => ⟨v, r, e, RM.monoW h x v a, RMs.monoW h xs r b⟩
end
theorem RM.monoF {K : PySem.W.Frag} {w w' : Wd} (h : w.Lf w') (x : MV) (v : V) (r : RM K w x v) : RM K w' x v := RM.monoW h.lw x v r
theorem RMs.monoF {K : PySem.W.Frag} {w w' : Wd} (h : w.Lf w') (xs : List MV) (vs : List V) (r : RMs K w xs vs) : RMs K w' xs vs := RMs.monoW h.lw xs vs r
theorem RM.mono {K : PySem.W.Frag} {w w' : Wd} (h : w.Le w') (x : MV) (v : V) (r : RM K w x v) : RM K w' x v := RM.monoF h.lf x v r
theorem RMs.mono {K : PySem.W.Frag} {w w' : Wd} (h : w.Le w') (xs : List MV) (vs : List V) (r : RMs K w xs vs) : RMs K w' xs vs := RMs.monoF h.lf xs vs r
theorem Wd.Le.at_ {w w' : Wd} (h : w.Le w') {i : Nat} {a : Addr} (e : w.ι[i]? = some a) : w'.ι[i]? = some a := h.lf.lw.at_ e
section
variable {K : PySem.W.Frag} {w w' : Wd}
theorem RMs.length : ∀ {xs : List MV} {vs : List V}, RMs K w xs vs → vs.length = xs.length
  | [], _, e => by rw [show _ = _ from e]; rfl
  | x :: xs, _, ⟨v, r, e, _, b⟩ => by rw [e, List.length_cons, List.length_cons, RMs.length b]
theorem RMs.nil : RMs K w [] [] := rfl
theorem RMs.cons {x : MV} {xs : List MV} {v : V} {vs : List V} (a : RM K w x v) (b : RMs K w xs vs) : RMs K w (x :: xs) (v :: vs) := ⟨v, vs, rfl, a, b⟩
theorem RMs.get : ∀ {xs : List MV} {vs : List V} {i : Nat} {x : MV}, RMs K w xs vs → xs[i]? = some x → ∃ v, vs[i]? = some v ∧ RM K w x v
  | [], _, _, _, _, h => by simp at h
  | x :: xs, _, 0, y, ⟨v, r, e, a, _⟩, h => by
    have : x = y := by simpa using h
    subst this
    exact ⟨v, by rw [e]; rfl, a⟩
  | x :: xs, _, i + 1, y, ⟨v, r, e, _, b⟩, h => by
    obtain ⟨u, h1, h2⟩ := RMs.get (i := i) (x := y) b (by simpa using h)
    exact ⟨u, by rw [e]; simpa using h1, h2⟩
theorem RMs.append : ∀ {xs ys : List MV} {vs us : List V}, RMs K w xs vs → RMs K w ys us → RMs K w (xs ++ ys) (vs ++ us)
  | [], _, _, _, e, b => by rw [show _ = _ from e]; exact b
  | x :: xs, _, _, _, ⟨v, r, e, a, b⟩, c => by rw [e]; exact ⟨v, r ++ _, rfl, a, RMs.append b c⟩
theorem RMs.take : ∀ {xs : List MV} {vs : List V} (n : Nat), RMs K w xs vs → RMs K w (xs.take n) (vs.take n)
  | [], _, _, e => by rw [show _ = _ from e]; simp; exact rfl
  | x :: xs, _, 0, _ => by simp; exact rfl
  | x :: xs, _, n + 1, ⟨v, r, e, a, b⟩ => by rw [e]; exact ⟨v, r.take n, rfl, a, RMs.take n b⟩
theorem RMs.drop : ∀ {xs : List MV} {vs : List V} (n : Nat), RMs K w xs vs → RMs K w (xs.drop n) (vs.drop n)
  | [], _, _, e => by rw [show _ = _ from e]; simp; exact rfl
  | x :: xs, _, 0, h => h
  | x :: xs, _, n + 1, ⟨v, r, e, a, b⟩ => by rw [e]; exact RMs.drop n b
theorem RMs.set : ∀ {xs : List MV} {vs : List V} (n : Nat) {x : MV} {v : V}, RMs K w xs vs → RM K w x v → RMs K w (xs.set n x) (vs.set n v)
  | [], _, _, _, _, e, _ => by rw [show _ = _ from e]; simp; exact rfl
  | y :: xs, _, 0, x, v, ⟨v0, r, e, a, b⟩, h => by rw [e]; exact ⟨v, r, rfl, h, b⟩
  | y :: xs, _, n + 1, x, v, ⟨v0, r, e, a, b⟩, h => by rw [e]; exact ⟨v0, r.set n v, rfl, a, RMs.set n b h⟩
theorem RMs.reverse : ∀ {xs : List MV} {vs : List V}, RMs K w xs vs → RMs K w xs.reverse vs.reverse
  | [], _, e => by rw [show _ = _ from e]; exact rfl
  | x :: xs, _, ⟨v, r, e, a, b⟩ => by
    rw [e, List.reverse_cons, List.reverse_cons]
    exact RMs.append (RMs.reverse b) (RMs.cons a RMs.nil)
end

/-! ### no cell at or above L is named -/
mutual
def below (L : Nat) : MV → Bool
  | .tup xs => belows L xs
  | .lst xs => belows L xs
  | .rl xs => belows L xs
  | .dK _ xs => belows L xs
  | .dT _ xs => belows L xs
  | .obj _ _ xs => belows L xs
  | .exc _ _ _ _ xs => belows L xs
  | .ref i => decide (i < L)
  | _ => true
def belows (L : Nat) : List MV → Bool
  | [] => true
  | x :: xs => below L x && belows L xs
end
theorem belows_append (L : Nat) : ∀ xs ys : List MV, belows L (xs ++ ys) = (belows L xs && belows L ys)
  | [], ys => by simp [belows]
  | x :: xs, ys => by simp [belows, belows_append L xs ys, Bool.and_assoc]
def MCell.below (L : Nat) : MCell → Bool
  | .lst xs => belows L xs
  | .dK _ xs => belows L xs
  | .dT _ xs => belows L xs
  | .ins _ _ xs => belows L xs
  | .dead => true

mutual
theorem below_mono {L L' : Nat} (h : L ≤ L') : ∀ x : MV, below L x = true → below L' x = true
  | .non, _ => rfl
  | .bl _, _ => rfl
  | .int _, _ => rfl
  | .str _, _ => rfl
  | .tup xs, q => belows_mono h xs q
  | .lst xs, q => belows_mono h xs q
  | .rl xs, q => belows_mono h xs q
  | .dK _ xs, q => belows_mono h xs q
  | .dT _ xs, q => belows_mono h xs q
  | .obj _ _ xs, q => belows_mono h xs q
  | .ref i, q => decide_eq_true (Nat.lt_of_lt_of_le (of_decide_eq_true q) h)
  | .ty _, _ => rfl
  | .cls _, _ => rfl
  | .exc _ _ _ _ xs, q => belows_mono h xs q
theorem belows_mono {L L' : Nat} (h : L ≤ L') : ∀ xs : List MV, belows L xs = true → belows L' xs = true
  | [], _ => rfl
  | x :: xs, q => by
    have q' : (below L x && belows L xs) = true := q
    rw [Bool.and_eq_true] at q'
    show (below L' x && belows L' xs) = true
    rw [below_mono h x q'.1, belows_mono h xs q'.2]; rfl
end

/-! ### cells -/
def CellR (K : PySem.W.Frag) (w : Wd) : MCell → Option HO → Prop
  | .lst xs, o => ∃ vs, o = some (.lst vs) ∧ RMs K w xs vs
  | .dK ks xs, o => ∃ vs, o = some (.dK (ks.zip vs)) ∧ ks.length = xs.length ∧ RMs K w xs vs
  | .dT ks xs, o => ∃ vs, o = some (.dT (ks.zip vs)) ∧ ks.length = xs.length ∧ RMs K w xs vs
  | .ins C ns xs, o => ∃ dx vs, o = some (.ins C dx (ns.zip vs)) ∧ ns.length = xs.length ∧ RMs K w xs vs
  | .dead, _ => True
theorem CellR.monoW {K : PySem.W.Frag} {w w' : Wd} (h : w.Lw w') : ∀ {c : MCell} {o : Option HO}, CellR K w c o → CellR K w' c o
  | .lst xs, _, ⟨vs, e, r⟩ => ⟨vs, e, RMs.monoW h xs vs r⟩
  | .dK ks xs, _, ⟨vs, e, l, r⟩ => ⟨vs, e, l, RMs.monoW h xs vs r⟩
  | .dT ks xs, _, ⟨vs, e, l, r⟩ => ⟨vs, e, l, RMs.monoW h xs vs r⟩
  | .ins C ns xs, _, ⟨dx, vs, e, l, r⟩ => ⟨dx, vs, e, l, RMs.monoW h xs vs r⟩
  | .dead, _, _ => trivial
theorem CellR.monoF {K : PySem.W.Frag} {w w' : Wd} (h : w.Lf w') {c : MCell} {o : Option HO} (r : CellR K w c o) : CellR K w' c o := CellR.monoW h.lw r
theorem CellR.mono {K : PySem.W.Frag} {w w' : Wd} (h : w.Le w') {c : MCell} {o : Option HO} (r : CellR K w c o) : CellR K w' c o := CellR.monoF h.lf r

/-- the state: what is fixed stands, every live cell stands at its own place -/
structure RS (K : PySem.W.Frag) (w : Wd) (m : Mo) (H : Hp) : Prop where
  fz : ∀ a u, w.F a = some u → H a = some u
  gd : ∀ a u, w.G a = some u → H a = some u ∧ w.F a = none
  len : w.ι.length = m.length
  cel : ∀ (i : Nat) c, m[i]? = some c → c ≠ MCell.dead → ∃ a, w.ι[i]? = some a ∧ w.F a = none ∧ w.G a = none ∧ CellR K w c (H a) ∧ c.below i = true ∧ ∃ o, H a = some o
  inj : ∀ (i j : Nat) a ci cj, m[i]? = some ci → ci ≠ MCell.dead → m[j]? = some cj → cj ≠ MCell.dead → w.ι[i]? = some a → w.ι[j]? = some a → i = j

def SR (K : PySem.W.Frag) (w : Wd) (e : Env) (σ : St) : Prop := e.length = σ.length ∧ ∀ (i : Nat) x, e[i]? = some (some x) → ∃ v, σ[i]? = some (some v) ∧ RM K w x v
theorem SR.mono {K : PySem.W.Frag} {w w' : Wd} {e : Env} {σ : St} (s : SR K w e σ) (h : w.Le w') : SR K w' e σ := ⟨s.1, fun i x q => by
  obtain ⟨v, a, b⟩ := s.2 i x q
  exact ⟨v, a, b.mono h x v⟩⟩
theorem SR.set {K : PySem.W.Frag} {w : Wd} {e : Env} {σ : St} (s : SR K w e σ) (i : Nat) {x : MV} {v : V} (r : RM K w x v) : SR K w (e.set i (some x)) (σ.set i (some v)) := ⟨by rw [List.length_set, List.length_set, s.1], fun j y q => by
  by_cases hj : i = j
  · subst hj
    by_cases hl : i < e.length
    · rw [List.getElem?_set_self hl] at q
      cases q
      exact ⟨v, by rw [List.getElem?_set_self (by rw [← s.1]; exact hl)], r⟩
    · rw [List.getElem?_eq_none (by rw [List.length_set]; omega)] at q
      cases q
  · rw [List.getElem?_set_ne hj] at q
    obtain ⟨u, a, b⟩ := s.2 j y q
    exact ⟨u, by rw [List.getElem?_set_ne hj]; exact a, b⟩⟩

/-- an exception behind a raise: its class, its own dict -/
def ExcR (K : PySem.W.Frag) (w : Wd) (e : MExc) (c : Value) (d : Option Addr) (H : Hp) : Prop :=
  c = .ref e.cls ∧ match e.fs with
    | [] => True
    | fs => ∃ dd vs, d = some dd ∧ w.F dd = some (.xd ((fs.map (·.1)).zip vs)) ∧ RMs K w (fs.map (·.2)) vs

/-! ### what follows -/
section
variable (K : PySem.W.Frag) (W : WX) (σ : St)
def PostE (Q : VK) (w : Wd) : R MV → Prop
  | .ok x m' => ∀ w' H' v, w.Le w' → RS K w' m' H' → RM K w' x v → Q v H'
  | .exc e m' => ∀ w' H' c d, w.Le w' → RS K w' m' H' → ExcR K w' e c d H' → W c d σ H'
  | .stuck => False
def PostT (Q : Bool → Hp → Prop) (w : Wd) : R Bool → Prop
  | .ok b m' => ∀ w' H', w.Le w' → RS K w' m' H' → Q b H'
  | .exc e m' => ∀ w' H' c d, w.Le w' → RS K w' m' H' → ExcR K w' e c d H' → W c d σ H'
  | .stuck => False
def PostA (Q : List V → Hp → Prop) (w : Wd) : R (List MV) → Prop
  | .ok xs m' => ∀ w' H' vs, w.Le w' → RS K w' m' H' → RMs K w' xs vs → Q vs H'
  | .exc e m' => ∀ w' H' c d, w.Le w' → RS K w' m' H' → ExcR K w' e c d H' → W c d σ H'
  | .stuck => False
end
def SimE (K : PySem.W.Frag) (W : WX) (te : TE) (me : ME) : Prop := ∀ w m H e σ Q, RS K w m H → SR K w e σ → PostE K W σ Q w (me e m) → te σ H Q
def SimT (K : PySem.W.Frag) (W : WX) (tt : TT) (mt : MT) : Prop := ∀ w m H e σ Q, RS K w m H → SR K w e σ → PostT K W σ Q w (mt e m) → tt σ H Q
def SimA (K : PySem.W.Frag) (W : WX) (ta : TA) (ma : MA) : Prop := ∀ w m H e σ Q, RS K w m H → SR K w e σ → PostA K W σ Q w (ma e m) → ta σ H Q

section
variable {K : PySem.W.Frag} {W : WX} {σ : St} {w w1 : Wd}
theorem PostE.mono {Q : VK} {r : R MV} (l : w.Le w1) (h : PostE K W σ Q w r) : PostE K W σ Q w1 r := by
  cases r with
  | ok x m => exact fun w' H' v l' => h w' H' v (l.trans l')
  | exc e m => exact fun w' H' c d l' => h w' H' c d (l.trans l')
  | stuck => exact h
theorem PostT.mono {Q : Bool → Hp → Prop} {r : R Bool} (l : w.Le w1) (h : PostT K W σ Q w r) : PostT K W σ Q w1 r := by
  cases r with
  | ok x m => exact fun w' H' l' => h w' H' (l.trans l')
  | exc e m => exact fun w' H' c d l' => h w' H' c d (l.trans l')
  | stuck => exact h
theorem PostA.mono {Q : List V → Hp → Prop} {r : R (List MV)} (l : w.Le w1) (h : PostA K W σ Q w r) : PostA K W σ Q w1 r := by
  cases r with
  | ok x m => exact fun w' H' v l' => h w' H' v (l.trans l')
  | exc e m => exact fun w' H' c d l' => h w' H' c d (l.trans l')
  | stuck => exact h
/-- first r, then f -/
theorem PostE.bind {Q Q' : VK} {r : R MV} {f : MV → Mo → R MV} (h : PostE K W σ Q w (r.bind f)) (k : ∀ x m1 w1 H1 v, w.Le w1 → RS K w1 m1 H1 → RM K w1 x v → PostE K W σ Q w1 (f x m1) → Q' v H1) : PostE K W σ Q' w r := by
  cases r with
  | ok x m => exact fun w' H' v l s q => k x m w' H' v l s q (PostE.mono l h)
  | exc e m => exact h
  | stuck => exact h
theorem PostT.bindE {Q : VK} {Q' : Bool → Hp → Prop} {r : R Bool} {f : Bool → Mo → R MV} (h : PostE K W σ Q w (r.bind f)) (k : ∀ x m1 w1 H1, w.Le w1 → RS K w1 m1 H1 → PostE K W σ Q w1 (f x m1) → Q' x H1) : PostT K W σ Q' w r := by
  cases r with
  | ok x m => exact fun w' H' l s => k x m w' H' l s (PostE.mono l h)
  | exc e m => exact h
  | stuck => exact h
theorem PostE.bindT {Q : Bool → Hp → Prop} {Q' : VK} {r : R MV} {f : MV → Mo → R Bool} (h : PostT K W σ Q w (r.bind f)) (k : ∀ x m1 w1 H1 v, w.Le w1 → RS K w1 m1 H1 → RM K w1 x v → PostT K W σ Q w1 (f x m1) → Q' v H1) : PostE K W σ Q' w r := by
  cases r with
  | ok x m => exact fun w' H' v l s q => k x m w' H' v l s q (PostT.mono l h)
  | exc e m => exact h
  | stuck => exact h
theorem PostT.bind {Q Q' : Bool → Hp → Prop} {r : R Bool} {f : Bool → Mo → R Bool} (h : PostT K W σ Q w (r.bind f)) (k : ∀ x m1 w1 H1, w.Le w1 → RS K w1 m1 H1 → PostT K W σ Q w1 (f x m1) → Q' x H1) : PostT K W σ Q' w r := by
  cases r with
  | ok x m => exact fun w' H' l s => k x m w' H' l s (PostT.mono l h)
  | exc e m => exact h
  | stuck => exact h
theorem PostE.bindA {Q : List V → Hp → Prop} {Q' : VK} {r : R MV} {f : MV → Mo → R (List MV)} (h : PostA K W σ Q w (r.bind f)) (k : ∀ x m1 w1 H1 v, w.Le w1 → RS K w1 m1 H1 → RM K w1 x v → PostA K W σ Q w1 (f x m1) → Q' v H1) : PostE K W σ Q' w r := by
  cases r with
  | ok x m => exact fun w' H' v l s q => k x m w' H' v l s q (PostA.mono l h)
  | exc e m => exact h
  | stuck => exact h
theorem PostA.bind {Q Q' : List V → Hp → Prop} {r : R (List MV)} {f : List MV → Mo → R (List MV)} (h : PostA K W σ Q w (r.bind f)) (k : ∀ x m1 w1 H1 v, w.Le w1 → RS K w1 m1 H1 → RMs K w1 x v → PostA K W σ Q w1 (f x m1) → Q' v H1) : PostA K W σ Q' w r := by
  cases r with
  | ok x m => exact fun w' H' v l s q => k x m w' H' v l s q (PostA.mono l h)
  | exc e m => exact h
  | stuck => exact h
theorem PostA.bindE {Q : VK} {Q' : List V → Hp → Prop} {r : R (List MV)} {f : List MV → Mo → R MV} (h : PostE K W σ Q w (r.bind f)) (k : ∀ x m1 w1 H1 v, w.Le w1 → RS K w1 m1 H1 → RMs K w1 x v → PostE K W σ Q w1 (f x m1) → Q' v H1) : PostA K W σ Q' w r := by
  cases r with
  | ok x m => exact fun w' H' v l s q => k x m w' H' v l s q (PostE.mono l h)
  | exc e m => exact h
  | stuck => exact h
end
end ML
set_option Elab.async false
set_option linter.all false
set_option maxRecDepth 100000
set_option maxHeartbeats 2000000
namespace ML
open PySem PySem.Spec PyProof.Rows L2

/-! ### the state grows, changes -/
section
variable {K : PySem.W.Frag} {w : Wd} {m : Mo} {H : Hp}
theorem RS.free (s : RS K w m H) {p : Addr} (h : H p = none) : w.F p = none := by
  cases e : w.F p with
  | none => rfl
  | some u =>
    rw [s.fz p u e] at h
    cases h
theorem Wd.Le.newF {w : Wd} {p : Addr} {o : HO} (h : w.F p = none) : w.Le { w with F := upd w.F p o } := ⟨HLe.new h, ⟨[], by simp⟩, rfl⟩
/-- a new thing that is never written -/
theorem RS.new (s : RS K w m H) {p : Addr} {o : HO} (h : H p = none) : RS K { w with F := upd w.F p o } m (upd H p o) ∧ w.Le { w with F := upd w.F p o } := by
  have hl := Wd.Le.newF (o := o) (s.free h)
  refine ⟨⟨fun a u e => ?_, fun a u e => ?_, s.len, fun i c e l => ?_, s.inj⟩, hl⟩
  · by_cases q : a = p
    · have e' : upd w.F p o a = some u := e
      rw [q, upd_same] at e'
      rw [q, upd_same]; exact e'
    · have e' : upd w.F p o a = some u := e
      rw [upd_ne q] at e' ⊢
      exact s.fz a u e'
  · obtain ⟨g1, g2⟩ := s.gd a u e
    have q : a ≠ p := ne_of_none g1 h
    exact ⟨by rw [upd_ne q]; exact g1, by show upd w.F p o a = none; rw [upd_ne q]; exact g2⟩
  · obtain ⟨a, h1, h2, h3, h4, h5, ob, h6⟩ := s.cel i c e l
    have q : a ≠ p := ne_of_none h6 h
    exact ⟨a, h1, by show upd w.F p o a = none; rw [upd_ne q]; exact h2, h3, by rw [upd_ne q]; exact h4.mono hl, h5, ob, by rw [upd_ne q]; exact h6⟩
theorem Wd.Le.newI {w : Wd} {p : Addr} : w.Le { w with ι := w.ι ++ [p] } := ⟨HLe.refl _, ⟨[p], rfl⟩, rfl⟩
theorem snoc_get {α : Type} {l : List α} {x y : α} {i : Nat} (h : (l ++ [x])[i]? = some y) : l[i]? = some y ∨ (i = l.length ∧ y = x) := by
  by_cases q : i < l.length
  · rw [List.getElem?_append_left q] at h
    exact .inl h
  · rw [List.getElem?_append_right (by omega)] at h
    by_cases z : i - l.length = 0
    · rw [z] at h
      exact .inr ⟨by omega, by simpa using h.symm⟩
    · rw [List.getElem?_eq_none (by simp; omega)] at h
      cases h
/-- a new cell -/
theorem RS.cell (s : RS K w m H) {p : Addr} {o : HO} {c : MCell} (h : H p = none) (hc : CellR K { w with ι := w.ι ++ [p] } c (some o)) (hb : c.below m.length = true) :
    RS K { w with ι := w.ι ++ [p] } (m ++ [c]) (upd H p o) ∧ w.Le { w with ι := w.ι ++ [p] } := by
  have hl : w.Le { w with ι := w.ι ++ [p] } := Wd.Le.newI
  have old : ∀ (i : Nat) c' a, m[i]? = some c' → (w.ι ++ [p])[i]? = some a → w.ι[i]? = some a := fun i c' a e q => by
    have : i < w.ι.length := by rw [s.len]; exact (List.getElem?_eq_some_iff.mp e).1
    rw [List.getElem?_append_left this] at q
    exact q
  refine ⟨⟨fun a u e => ?_, fun a u e => ?_, by simp [s.len], fun i c' e l => ?_, fun i j a ci cj e1 l1 e2 l2 q1 q2 => ?_⟩, hl⟩
  · rw [upd_ne (ne_of_none (s.fz a u e) h)]
    exact s.fz a u e
  · obtain ⟨g1, g2⟩ := s.gd a u e
    exact ⟨by rw [upd_ne (ne_of_none g1 h)]; exact g1, g2⟩
  · rcases snoc_get e with e | ⟨rfl, rfl⟩
    · obtain ⟨a, h1, h2, h3, h4, h5, ob, h6⟩ := s.cel i c' e l
      have q : a ≠ p := ne_of_none h6 h
      exact ⟨a, hl.at_ h1, h2, h3, by rw [upd_ne q]; exact h4.mono hl, h5, ob, by rw [upd_ne q]; exact h6⟩
    · refine ⟨p, by show (w.ι ++ [p])[m.length]? = some p; rw [← s.len]; simp, s.free h, ?_, by rw [upd_same]; exact hc, hb, o, upd_same⟩
      cases g : w.G p with
      | none => rfl
      | some u =>
        rw [(s.gd p u g).1] at h
        cases h
  · have fresh : ∀ (i : Nat) c', m[i]? = some c' → c' ≠ MCell.dead → w.ι[i]? = some p → False := fun i c' e l q => by
      obtain ⟨a, h1, _, _, _, _, ob, h6⟩ := s.cel i c' e l
      rw [q] at h1
      cases h1
      rw [h] at h6
      cases h6
    have last : ∀ (i : Nat) b, i = m.length → (w.ι ++ [p])[i]? = some b → b = p := fun i b ei q => by
      rw [ei, ← s.len] at q
      simpa using q.symm
    rcases snoc_get e1 with f1 | ⟨f1, _⟩
    · rcases snoc_get e2 with f2 | ⟨f2, _⟩
      · exact s.inj i j a ci cj f1 l1 f2 l2 (old i ci a f1 q1) (old j cj a f2 q2)
      · exact (fresh i ci f1 l1 (last j a f2 q2 ▸ old i ci a f1 q1)).elim
    · rcases snoc_get e2 with f2 | ⟨f2, _⟩
      · exact (fresh j cj f2 l2 (last i a f1 q1 ▸ old j cj a f2 q2)).elim
      · rw [f1, f2]
theorem set_get {α : Type} {l : List α} {x y : α} {i j : Nat} (h : (l.set i x)[j]? = some y) : (j = i ∧ y = x ∧ i < l.length) ∨ (j ≠ i ∧ l[j]? = some y) := by
  by_cases q : i = j
  · subst q
    by_cases z : i < l.length
    · rw [List.getElem?_set_self z] at h
      exact .inl ⟨rfl, (Option.some.inj h).symm, z⟩
    · rw [List.getElem?_eq_none (by rw [List.length_set]; omega)] at h
      cases h
  · rw [List.getElem?_set_ne q] at h
    exact .inr ⟨fun e => q e.symm, h⟩
/-- a cell is written -/
theorem RS.put (s : RS K w m H) {i : Nat} {a : Addr} {c0 c : MCell} {o : HO} (e : m[i]? = some c0) (l0 : c0 ≠ MCell.dead) (ea : w.ι[i]? = some a) (hc : CellR K w c (some o)) (hb : c.below i = true) : RS K w (m.set i c) (upd H a o) := by
  obtain ⟨a', h1, h2, h3, _, _, ob, h6⟩ := s.cel i c0 e l0
  rw [ea] at h1
  cases h1
  refine ⟨fun b u q => ?_, fun b u q => ?_, by rw [List.length_set]; exact s.len, fun j c' q l => ?_, fun j k b cj ck q1 l1 q2 l2 z1 z2 => ?_⟩
  · have ne : b ≠ a := fun z => by
      rw [z, h2] at q
      cases q
    rw [upd_ne ne]
    exact s.fz b u q
  · have ne : b ≠ a := fun z => by
      rw [z, h3] at q
      cases q
    rw [upd_ne ne]
    exact s.gd b u q
  · rcases set_get q with ⟨rfl, rfl, _⟩ | ⟨ne, q⟩
    · exact ⟨a, ea, h2, h3, by rw [upd_same]; exact hc, hb, o, upd_same⟩
    · obtain ⟨b, k1, k2, k3, k4, k5, ob', k6⟩ := s.cel j c' q l
      have nb : b ≠ a := fun z => ne (s.inj j i a c' c0 q l e l0 (z ▸ k1) ea)
      exact ⟨b, k1, k2, k3, by rw [upd_ne nb]; exact k4, k5, ob', by rw [upd_ne nb]; exact k6⟩
  · have back : ∀ (j : Nat) cj, (m.set i c)[j]? = some cj → cj ≠ MCell.dead → ∃ c', m[j]? = some c' ∧ c' ≠ MCell.dead := fun j cj q l => by
      rcases set_get q with ⟨rfl, rfl, _⟩ | ⟨_, q⟩
      · exact ⟨c0, e, l0⟩
      · exact ⟨cj, q, l⟩
    obtain ⟨x1, y1, v1⟩ := back j cj q1 l1
    obtain ⟨x2, y2, v2⟩ := back k ck q2 l2
    exact s.inj j k b x1 x2 y1 v1 y2 v2 z1 z2
/-- a cell is given up: what it holds is fixed from now on -/
theorem RS.fix (s : RS K w m H) {i : Nat} {a : Addr} {c0 : MCell} {o : HO} (e : m[i]? = some c0) (l0 : c0 ≠ MCell.dead) (ea : w.ι[i]? = some a) (ho : H a = some o) :
    RS K { w with F := upd w.F a o } (m.set i .dead) H ∧ w.Le { w with F := upd w.F a o } := by
  obtain ⟨a', h1, h2, h3, _, _, ob, h6⟩ := s.cel i c0 e l0
  rw [ea] at h1
  cases h1
  have hl := Wd.Le.newF (o := o) h2
  refine ⟨⟨fun b u q => ?_, fun b u q => ?_, by rw [List.length_set]; exact s.len, fun j c' q l => ?_, fun j k b cj ck q1 l1 q2 l2 z1 z2 => ?_⟩, hl⟩
  · by_cases z : b = a
    · subst z
      have q' : upd w.F b o b = some u := q
      rw [upd_same] at q'
      rw [ho]; exact q'
    · have q' : upd w.F a o b = some u := q
      rw [upd_ne z] at q'
      exact s.fz b u q'
  · obtain ⟨g1, g2⟩ := s.gd b u q
    have ne : b ≠ a := fun z => by
      rw [z, h3] at q
      cases q
    exact ⟨g1, by show upd w.F a o b = none; rw [upd_ne ne]; exact g2⟩
  · rcases set_get q with ⟨rfl, rfl, _⟩ | ⟨ne, q⟩
    · exact absurd rfl l
    · obtain ⟨b, k1, k2, k3, k4, k5, ob', k6⟩ := s.cel j c' q l
      have nb : b ≠ a := fun z => ne (s.inj j i a c' c0 q l e l0 (z ▸ k1) ea)
      exact ⟨b, k1, by show upd w.F a o b = none; rw [upd_ne nb]; exact k2, k3, k4.mono hl, k5, ob', k6⟩
  · rcases set_get q1 with ⟨rfl, rfl, _⟩ | ⟨_, q1⟩
    · exact absurd rfl l1
    · rcases set_get q2 with ⟨rfl, rfl, _⟩ | ⟨_, q2⟩
      · exact absurd rfl l2
      · exact s.inj j k b cj ck q1 l1 q2 l2 z1 z2
/-- something is kept aside -/
theorem RS.aside (s : RS K w m H) {p : Addr} {o : HO} (h : H p = none) : RS K { w with G := upd w.G p o } m (upd H p o) := by
  refine ⟨fun a u e => ?_, fun a u e => ?_, s.len, fun i c e l => ?_, s.inj⟩
  · rw [upd_ne (ne_of_none (s.fz a u e) h)]
    exact s.fz a u e
  · by_cases q : a = p
    · subst q
      have e' : upd w.G a o a = some u := e
      rw [upd_same] at e' ⊢
      exact ⟨e', s.free h⟩
    · have e' : upd w.G p o a = some u := e
      rw [upd_ne q] at e' ⊢
      exact s.gd a u e'
  · obtain ⟨a, h1, h2, h3, h4, h5, ob, h6⟩ := s.cel i c e l
    have q : a ≠ p := ne_of_none h6 h
    exact ⟨a, h1, h2, by show upd w.G p o a = none; rw [upd_ne q]; exact h3, by rw [upd_ne q]; exact CellR.monoF (w := w) (w' := { w with G := upd w.G p o }) ⟨HLe.refl _, ⟨[], by simp⟩⟩ h4, h5, ob, by rw [upd_ne q]; exact h6⟩
end

/-! ### the judgements with a plain function in the reading's place -/
def PM (X : Cx) (W : WX) (e : Expr) (me : ME) : Prop := ∃ te, PE X e te ∧ SimE X.K W te me
def PMT (X : Cx) (W : WX) (e : Expr) (mt : MT) : Prop := ∃ tt, PT X e tt ∧ SimT X.K W tt mt
def PMW (X : Cx) (W : WX) (e : Expr) (mt : MT) : Prop := ∃ tt, PW X e tt ∧ SimT X.K W tt mt
def PMA (X : Cx) (W : WX) (es : List Expr) (ma : MA) : Prop := ∃ ta, PA X es ta ∧ SimA X.K W ta ma
section
variable {X : Cx} {W : WX} {e a b c : Expr} {es : List Expr} {me ma mb mc : ME} {ml : MA} {mt mu : MT} {pos : Pos}

/-! names, constants -/
def mVar (i : Nat) : ME := fun e m => match e[i]? with
  | some (some x) => .ok x m
  | _ => .stuck
def mC (x : MV) : ME := fun _ m => .ok x m
theorem simE_var {K : PySem.W.Frag} {i : Nat} : SimE K W (tVar i) (mVar i) := by
  intro w m H e σ Q s r p
  unfold mVar at p
  split at p
  · rename_i x hx
    obtain ⟨v, h1, h2⟩ := r.2 i x hx
    exact ⟨v, h1, p w H v (.refl w) s h2⟩
  · exact p.elim
theorem simE_c {K : PySem.W.Frag} {x : MV} {v : V} (h : ∀ w, RM K w x v) : SimE K W (tC v) (mC x) := fun w m H e σ Q s r p => p w H v (.refl w) s (h w)
theorem pm_var (i : Nat) {x : Str} (hN : X.N[i]? = some x := by rfl) (hv : Vis X.env.scope x := by first | exact Or.inl rfl | exact Or.inr (Or.inl rfl) | exact Or.inr (Or.inr rfl)) (hd : (x == ("__debug__" : Str)) = false := by decide)
    (hcd : (x == ("__classdict__" : Str)) = false := by decide) : PM X W (.Name x pos) (mVar i) := ⟨_, pe_var hN hv hd hcd, simE_var⟩
theorem pm_int {i j} : PM X W (.Constant (.int i) j pos) (mC (.int i)) := ⟨_, pe_int, simE_c fun _ => rfl⟩
theorem pm_bl {b j} : PM X W (.Constant (.bool b) j pos) (mC (.bl b)) := ⟨_, pe_bl, simE_c fun _ => rfl⟩
theorem pm_non {j} : PM X W (.Constant .none j pos) (mC .non) := ⟨_, pe_non, simE_c fun _ => rfl⟩
theorem pm_str {x j} : PM X W (.Constant (.str x) j pos) (mC (.str x)) := ⟨_, pe_str, simE_c fun _ => rfl⟩
/-- a class of the program, as a value -/
theorem pm_cls {C : Addr} {x : Str} (hm : X.mg x = some (.ref C)) (hg : Gl X x := by rfl) (hd : (x == ("__debug__" : Str)) = false := by decide) : PM X W (.Name x pos) (mC (.cls C)) := ⟨_, pe_glob hg hm (v := .ref C) rfl hd, simE_c fun _ => rfl⟩
/-- a text that the module names -/
theorem pm_gstr {z x : Str} {t : Tok} (hm : X.mg x = some (.str z t)) (hg : Gl X x := by rfl) (hd : (x == ("__debug__" : Str)) = false := by decide) : PM X W (.Name x pos) (mC (.str z)) := ⟨_, pe_glob hg hm (v := .str z) ⟨_, rfl⟩ hd, simE_c fun _ => rfl⟩

/-! two places -/
def mOp (f : MV → MV → Mo → R MV) (ma mb : ME) : ME := fun e m => (ma e m).bind fun x m1 => (mb e m1).bind fun y m2 => f x y m2
def mOpB (f : MV → MV → Mo → Option Bool) (ma mb : ME) : MT := fun e m => (ma e m).bind fun x m1 => (mb e m1).bind fun y m2 => match f x y m2 with
  | some b => .ok b m2
  | none => .stuck
def oB (f : MV → MV → Mo → Option Bool) : MV → MV → Mo → R MV := fun x y m => match f x y m with
  | some b => .ok (.bl b) m
  | none => .stuck
def SimO (K : PySem.W.Frag) (W : WX) (r : R2) (f : MV → MV → Mo → R MV) : Prop := ∀ w m H x y vx vy σ Q, RS K w m H → RM K w x vx → RM K w y vy → PostE K W σ Q w (f x y m) → r vx vy H Q
theorem simE_op {K : PySem.W.Frag} {r : R2} {f : MV → MV → Mo → R MV} {ta tb : TE} (hr : SimO K W r f) (ha : SimE K W ta ma) (hb : SimE K W tb mb) : SimE K W (tOp r ta tb) (mOp f ma mb) := by
  intro w m H e σ Q s q p
  refine ha w m H e σ _ s q (PostE.bind p fun x m1 w1 H1 vx l1 s1 r1 p1 => ?_)
  refine hb w1 m1 H1 e σ _ s1 (q.mono l1) (PostE.bind p1 fun y m2 w2 H2 vy l2 s2 r2 p2 => ?_)
  exact hr w2 m2 H2 x y vx vy σ Q s2 (RM.mono l2 _ _ r1) r2 p2
theorem pm_op {op : Operator} {r : R2} {f : MV → MV → Mo → R MV} (ho : OpR X (binaryOp op) r) (hr : SimO X.K W r f) (ha : PM X W a ma) (hb : PM X W b mb) : PM X W (.BinOp a op b pos) (mOp f ma mb) := by
  obtain ⟨ta, h1, s1⟩ := ha
  obtain ⟨tb, h2, s2⟩ := hb
  exact ⟨_, pe_op ho h1 h2, simE_op hr s1 s2⟩
theorem pm_cmp {op : CmpOp} {r : R2} {f : MV → MV → Mo → Option Bool} (ho : OpR X (compareOp op) r) (hr : SimO X.K W r (oB f)) (ha : PM X W a ma) (hb : PM X W b mb) (hm : behindInMarks op b = false) : PM X W (.Compare a [op] [b] pos) (mOp (oB f) ma mb) := by
  obtain ⟨ta, h1, s1⟩ := ha
  obtain ⟨tb, h2, s2⟩ := hb
  exact ⟨_, pe_cmpR ho h1 h2 hm, simE_op hr s1 s2⟩
theorem pmt_cmp {op : CmpOp} {r : R2} {f : MV → MV → Mo → Option Bool} (ho : OpR X (compareOp op) r) (hr : SimO X.K W r (oB f)) (ha : PM X W a ma) (hb : PM X W b mb) (hm : behindInMarks op b = false) : PMT X W (.Compare a [op] [b] pos) (mOpB f ma mb) := by
  obtain ⟨ta, h1, s1⟩ := ha
  obtain ⟨tb, h2, s2⟩ := hb
  refine ⟨_, pt_cmpR ho h1 h2 hm, fun w m H e σ Q s q p => ?_⟩
  refine s1 w m H e σ _ s q (PostE.bindT p fun x m1 w1 H1 vx l1 z1 r1 p1 => ?_)
  refine s2 w1 m1 H1 e σ _ z1 (q.mono l1) (PostE.bindT p1 fun y m2 w2 H2 vy l2 z2 r2 p2 => ?_)
  refine hr w2 m2 H2 x y vx vy σ _ z2 (RM.mono l2 _ _ r1) r2 ?_
  unfold oB
  cases h : f x y m2 with
  | none =>
    rw [h] at p2
    exact p2
  | some k =>
    rw [h] at p2
    intro w' H' v l' z' rv
    have ev : v = .bl k := rv
    exact ⟨k, ev, p2 w' H' l' z'⟩

/-! tests -/
def mTru (f : MV → Mo → Option Bool) (ma : ME) : MT := fun e m => (ma e m).bind fun x m1 => match f x m1 with
  | some b => .ok b m1
  | none => .stuck
def truM (x : MV) (m : Mo) : Option Bool := match x with
  | .non => some false
  | .bl b => some b
  | .int i => some (i != 0)
  | .str y => if y.length ≤ 16777216 then some ((y.length : Int) != 0) else none
  | .tup xs => some (!xs.isEmpty)
  | .lst xs => some (!xs.isEmpty)
  | .ref i => match m[i]? with
    | some (.lst xs) => some (!xs.isEmpty)
    | some (.dK ks _) => some (!ks.isEmpty)
    | _ => none
  | _ => none
theorem RMs.isEmpty {K : PySem.W.Frag} {w : Wd} {xs : List MV} {vs : List V} (r : RMs K w xs vs) : vs.isEmpty = xs.isEmpty := by
  have := r.length
  cases vs <;> cases xs <;> simp_all
/-- a thing at a cell -/
theorem RS.at_ {K : PySem.W.Frag} {w : Wd} {m : Mo} {H : Hp} (s : RS K w m H) {i : Nat} {c : MCell} {v : V} (r : RM K w (.ref i) v) (e : m[i]? = some c) (l : c ≠ MCell.dead) : ∃ a, v = .ref a ∧ w.ι[i]? = some a ∧ CellR K w c (H a) := by
  obtain ⟨a, rfl, h⟩ := r
  obtain ⟨a', h1, _, _, h4, _⟩ := s.cel i c e l
  rw [h] at h1
  cases h1
  exact ⟨a, rfl, h, h4⟩
theorem sqt_up {K : PySem.W.Frag} {w : Wd} {m : Mo} {H : Hp} (s : RS K w m H) {a : Addr} {vs : List V} (h : SqT K w.F a vs) : SqT K H a vs := by
  rcases h with (h | ⟨o, h⟩) | h
  · exact .inl (.inl (s.fz _ _ h))
  · exact .inl (.inr ⟨o, s.fz _ _ h⟩)
  · exact .inr h
theorem sql_up {K : PySem.W.Frag} {w : Wd} {m : Mo} {H : Hp} (s : RS K w m H) {a : Addr} {vs : List V} (h : SqL K w.F a vs) : SqL K H a vs := by
  rcases h with (h | ⟨o, h⟩) | h
  · exact .inl (.inl (s.fz _ _ h))
  · exact .inl (.inr ⟨o, s.fz _ _ h⟩)
  · exact .inr h
theorem tru_sim {K : PySem.W.Frag} {w : Wd} {m : Mo} {H : Hp} {x : MV} {v : V} {k : Bool} (s : RS K w m H) (r : RM K w x v) (h : truM x m = some k) : TruV K v H k := by
  have hz : sizeLine = 16777216 := sizeLine_eq
  cases x with
  | non => rw [show v = .non from r]; exact (Option.some.inj h).symm
  | bl b => rw [show v = .bl b from r]; exact (Option.some.inj h).symm
  | int i => rw [show v = .int i from r]; exact (Option.some.inj h).symm
  | str y =>
    rw [show v = .str y from r]
    unfold truM at h
    dsimp only at h
    split at h
    · rename_i hl
      exact ⟨by rw [hz]; exact hl, (Option.some.inj h).symm⟩
    · cases h
  | tup xs =>
    obtain ⟨a, vs, rfl, hs, rs⟩ := r
    exact .inr (.inl ⟨vs, sqt_up s hs, by rw [rs.isEmpty]; exact (Option.some.inj h).symm⟩)
  | lst xs =>
    obtain ⟨a, vs, rfl, hs, rs⟩ := r
    exact .inl ⟨vs, SqL.of (s.fz _ _ hs), by rw [rs.isEmpty]; exact (Option.some.inj h).symm⟩
  | ref i =>
    unfold truM at h
    dsimp only at h
    split at h
    · rename_i xs e
      obtain ⟨a, rfl, _, vs, h4, rs⟩ := s.at_ r e (by intro z; cases z)
      exact .inl ⟨vs, SqL.of h4, by rw [rs.isEmpty]; exact (Option.some.inj h).symm⟩
    · rename_i ks xs e
      obtain ⟨a, rfl, _, vs, h4, hl, rs⟩ := s.at_ r e (by intro z; cases z)
      refine .inr (.inr ⟨_, h4, ?_⟩)
      have : (ks.zip vs).isEmpty = ks.isEmpty := by
        have := rs.length
        cases ks <;> cases vs <;> cases xs <;> simp_all
      rw [this]
      exact (Option.some.inj h).symm
    · cases h
  | _ => cases h
theorem pmt_tru (ha : PM X W a ma) (he : ∀ whole, isTrue a X.env whole = (do let v ← whole; standAt a.pos; holding [v] (truthy v)) := by intro _; rfl) : PMT X W a (mTru truM ma) := by
  obtain ⟨ta, h1, s1⟩ := ha
  refine ⟨_, pt_truth h1 he, fun w m H e σ Q s q p => ?_⟩
  refine s1 w m H e σ _ s q (PostE.bindT p fun x m1 w1 H1 vx l1 z1 r1 p1 => ?_)
  cases h : truM x m1 with
  | none =>
    rw [h] at p1
    exact p1.elim
  | some k =>
    rw [h] at p1
    exact ⟨k, tru_sim z1 r1 h, p1 w1 H1 (.refl w1) z1⟩
def mNotT (mt : MT) : MT := fun e m => (mt e m).bind fun b m1 => .ok (!b) m1
def mAndT (mt mu : MT) : MT := fun e m => (mt e m).bind fun b m1 => if b = true then mu e m1 else .ok false m1
def mOrT (mt mu : MT) : MT := fun e m => (mt e m).bind fun b m1 => if b = true then .ok true m1 else mu e m1
theorem pmt_not (h : PMT X W a mt) : PMT X W (.UnaryOp .Not a pos) (mNotT mt) := by
  obtain ⟨t, h1, s1⟩ := h
  exact ⟨_, pt_not h1, fun w m H e σ Q s q p => s1 w m H e σ _ s q (PostT.bind p fun b m1 w1 H1 l1 z1 p1 => p1 w1 H1 (.refl _) z1)⟩
theorem pmw_and1 (h : PMT X W a mt) : PMW X W (.BoolOp .And [a] pos) mt := let ⟨t, h1, s1⟩ := h; ⟨t, pw_and1 h1, s1⟩
theorem pmw_or1 (h : PMT X W a mt) : PMW X W (.BoolOp .Or [a] pos) mt := let ⟨t, h1, s1⟩ := h; ⟨t, pw_or1 h1, s1⟩
theorem pmw_and (h : PMT X W a mt) (k : PMW X W (.BoolOp .And (b :: es) pos) mu) : PMW X W (.BoolOp .And (a :: b :: es) pos) (mAndT mt mu) := by
  obtain ⟨t, h1, s1⟩ := h
  obtain ⟨u, h2, s2⟩ := k
  refine ⟨_, pw_and h1 h2, fun w m H e σ Q s q p => s1 w m H e σ _ s q (PostT.bind p fun b m1 w1 H1 l1 z1 p1 => ?_)⟩
  cases b with
  | true => exact s2 w1 m1 H1 e σ Q z1 (q.mono l1) p1
  | false => exact p1 w1 H1 (.refl _) z1
theorem pmw_or (h : PMT X W a mt) (k : PMW X W (.BoolOp .Or (b :: es) pos) mu) : PMW X W (.BoolOp .Or (a :: b :: es) pos) (mOrT mt mu) := by
  obtain ⟨t, h1, s1⟩ := h
  obtain ⟨u, h2, s2⟩ := k
  refine ⟨_, pw_or h1 h2, fun w m H e σ Q s q p => s1 w m H e σ _ s q (PostT.bind p fun b m1 w1 H1 l1 z1 p1 => ?_)⟩
  cases b with
  | false => exact s2 w1 m1 H1 e σ Q z1 (q.mono l1) p1
  | true => exact p1 w1 H1 (.refl _) z1
theorem pmt_w (h : PMW X W a mt) : PMT X W a mt := let ⟨t, h1, s1⟩ := h; ⟨t, h1.pt, s1⟩
/-- and, or, not of bools, as values -/
def mAndV (ma mb : ME) : ME := fun e m => (ma e m).bind fun x m1 => match x with
  | .bl true => mb e m1
  | .bl false => .ok (.bl false) m1
  | _ => .stuck
def mOrV (ma mb : ME) : ME := fun e m => (ma e m).bind fun x m1 => match x with
  | .bl true => .ok (.bl true) m1
  | .bl false => mb e m1
  | _ => .stuck
def mNotV (ma : ME) : ME := fun e m => (ma e m).bind fun x m1 => match x with
  | .bl k => .ok (.bl (!k)) m1
  | _ => .stuck
theorem pm_one {op} (h : PM X W a ma) : PM X W (.BoolOp op [a] pos) ma := let ⟨t, h1, s1⟩ := h; ⟨t, pe_one h1, s1⟩
theorem pm_and (h : PM X W a ma) (k : PM X W (.BoolOp .And (b :: es) pos) mb) : PM X W (.BoolOp .And (a :: b :: es) pos) (mAndV ma mb) := by
  obtain ⟨t, h1, s1⟩ := h
  obtain ⟨u, h2, s2⟩ := k
  refine ⟨_, pe_and h1 h2, fun w m H e σ Q s q p => s1 w m H e σ _ s q (PostE.bind p fun x m1 w1 H1 v l1 z1 r1 p1 => ?_)⟩
  cases x with
  | bl k =>
    refine ⟨k, r1, ?_⟩
    cases k with
    | true => exact s2 w1 m1 H1 e σ Q z1 (q.mono l1) p1
    | false => exact p1 w1 H1 _ (.refl _) z1 rfl
  | _ => exact p1.elim
theorem pm_or (h : PM X W a ma) (k : PM X W (.BoolOp .Or (b :: es) pos) mb) : PM X W (.BoolOp .Or (a :: b :: es) pos) (mOrV ma mb) := by
  obtain ⟨t, h1, s1⟩ := h
  obtain ⟨u, h2, s2⟩ := k
  refine ⟨_, pe_or h1 h2, fun w m H e σ Q s q p => s1 w m H e σ _ s q (PostE.bind p fun x m1 w1 H1 v l1 z1 r1 p1 => ?_)⟩
  cases x with
  | bl k =>
    refine ⟨k, r1, ?_⟩
    cases k with
    | false => exact s2 w1 m1 H1 e σ Q z1 (q.mono l1) p1
    | true => exact p1 w1 H1 _ (.refl _) z1 rfl
  | _ => exact p1.elim
theorem pm_not (h : PM X W a ma) : PM X W (.UnaryOp .Not a pos) (mNotV ma) := by
  obtain ⟨t, h1, s1⟩ := h
  refine ⟨_, pe_not h1, fun w m H e σ Q s q p => s1 w m H e σ _ s q (PostE.bind p fun x m1 w1 H1 v l1 z1 r1 p1 => ?_)⟩
  cases x with
  | bl k => exact ⟨k, r1, p1 w1 H1 _ (.refl _) z1 rfl⟩
  | _ => exact p1.elim
def mIfE (mt : MT) (ma mb : ME) : ME := fun e m => (mt e m).bind fun b m1 => if b = true then ma e m1 else mb e m1
theorem pm_ifE (hc : PMT X W c mt) (ha : PM X W a ma) (hb : PM X W b mb) : PM X W (.IfExp c a b pos) (mIfE mt ma mb) := by
  obtain ⟨t, h1, s1⟩ := hc
  obtain ⟨ta, h2, s2⟩ := ha
  obtain ⟨tb, h3, s3⟩ := hb
  refine ⟨_, pe_ifExp h1 h2 h3, fun w m H e σ Q s q p => s1 w m H e σ _ s q (PostT.bindE p fun b m1 w1 H1 l1 z1 p1 => ?_)⟩
  cases b with
  | true => exact s2 w1 m1 H1 e σ Q z1 (q.mono l1) p1
  | false => exact s3 w1 m1 H1 e σ Q z1 (q.mono l1) p1

/-! arguments, displays -/
def mANil : MA := fun _ m => .ok [] m
def mACons (ma : ME) (ml : MA) : MA := fun e m => (ma e m).bind fun x m1 => (ml e m1).bind fun xs m2 => .ok (x :: xs) m2
theorem pma_nil : PMA X W [] mANil := ⟨_, pa_nil, fun w m H e σ Q s q p => p w H [] (.refl _) s rfl⟩
theorem pma_cons (ha : PM X W a ma) (hl : PMA X W es ml) (hs : starEach (a :: es) X.env = (false, eval a X.env) :: starEach es X.env := by rfl) : PMA X W (a :: es) (mACons ma ml) := by
  obtain ⟨t, h1, s1⟩ := ha
  obtain ⟨u, h2, s2⟩ := hl
  refine ⟨_, pa_cons h1 h2 hs, fun w m H e σ Q s q p => s1 w m H e σ _ s q (PostE.bindA p fun x m1 w1 H1 v l1 z1 r1 p1 => ?_)⟩
  refine s2 w1 m1 H1 e σ _ z1 (q.mono l1) (PostA.bind p1 fun xs m2 w2 H2 vs l2 z2 r2 p2 => ?_)
  exact p2 w2 H2 _ (.refl _) z2 ⟨v, vs, rfl, RM.mono l2 _ _ r1, r2⟩
def mTup (ml : MA) : ME := fun e m => (ml e m).bind fun xs m1 => if xs.length ≤ 16777216 then .ok (.tup xs) m1 else .stuck
def mLst (ml : MA) : ME := fun e m => (ml e m).bind fun xs m1 => if xs.length ≤ 16777216 then .ok (.lst xs) m1 else .stuck
def mLstC (ml : MA) : ME := fun e m => (ml e m).bind fun xs m1 => if xs.length ≤ 16777216 ∧ belows m1.length xs = true then .ok (.ref m1.length) (m1 ++ [.lst xs]) else .stuck
theorem pm_tup {k} (hl : PMA X W es ml) : PM X W (.Tuple es k pos) (mTup ml) := by
  obtain ⟨u, h2, s2⟩ := hl
  refine ⟨_, pe_tup h2, fun w m H e σ Q s q p => s2 w m H e σ _ s q (PostA.bindE p fun xs m1 w1 H1 vs l1 z1 r1 p1 => ?_)⟩
  split at p1
  · rename_i hz
    refine ⟨by rw [r1.length, sizeLine_eq]; exact hz, fun a ha => ?_⟩
    obtain ⟨z2, l2⟩ := z1.new (o := .tup vs) ha
    exact p1 _ _ _ l2 z2 ⟨a, vs, rfl, SqT.of upd_same, RMs.mono l2 _ _ r1⟩
  · exact p1.elim
theorem pm_lst (hl : PMA X W es ml) : PM X W (.List es pos) (mLst ml) := by
  obtain ⟨u, h2, s2⟩ := hl
  refine ⟨_, pe_lst h2, fun w m H e σ Q s q p => s2 w m H e σ _ s q (PostA.bindE p fun xs m1 w1 H1 vs l1 z1 r1 p1 => ?_)⟩
  split at p1
  · rename_i hz
    refine ⟨by rw [r1.length, sizeLine_eq]; exact hz, fun a ha => ?_⟩
    obtain ⟨z2, l2⟩ := z1.new (o := .lst vs) ha
    exact p1 _ _ _ l2 z2 ⟨a, vs, rfl, upd_same, RMs.mono l2 _ _ r1⟩
  · exact p1.elim
theorem pm_lstC (hl : PMA X W es ml) : PM X W (.List es pos) (mLstC ml) := by
  obtain ⟨u, h2, s2⟩ := hl
  refine ⟨_, pe_lst h2, fun w m H e σ Q s q p => s2 w m H e σ _ s q (PostA.bindE p fun xs m1 w1 H1 vs l1 z1 r1 p1 => ?_)⟩
  split at p1
  · rename_i hz
    refine ⟨by rw [r1.length, sizeLine_eq]; exact hz.1, fun a ha => ?_⟩
    obtain ⟨z2, l2⟩ := z1.cell (o := .lst vs) (c := .lst xs) ha ⟨vs, rfl, RMs.mono Wd.Le.newI _ _ r1⟩ hz.2
    exact p1 _ _ _ l2 z2 ⟨a, rfl, by show (w1.ι ++ [a])[m1.length]? = some a; rw [← z1.len]; simp⟩
  · exact p1.elim
end
end ML
set_option Elab.async false
set_option linter.all false
set_option maxRecDepth 100000
set_option maxHeartbeats 2000000
namespace ML
open PySem PySem.Spec PyProof.Rows L2

/-! ### what a value reads as -/
def lstOf (x : MV) (m : Mo) : Option (List MV) := match x with
  | .lst xs => some xs
  | .ref i => match m[i]? with
    | some (.lst xs) => some xs
    | _ => none
  | _ => none
def sqOf (x : MV) (m : Mo) : Option (List MV) := match x with
  | .lst xs => some xs
  | .rl xs => some xs
  | .tup xs => some xs
  | .ref i => match m[i]? with
    | some (.lst xs) => some xs
    | _ => none
  | _ => none
section
variable {K : PySem.W.Frag} {w : Wd} {m : Mo} {H : Hp} {x : MV} {v : V} {xs : List MV}
theorem lst_at (s : RS K w m H) (r : RM K w x v) (h : lstOf x m = some xs) : ∃ a vs, v = .ref a ∧ H a = some (.lst vs) ∧ RMs K w xs vs := by
  cases x with
  | lst ys =>
    cases h
    obtain ⟨a, vs, rfl, hs, rs⟩ := r
    exact ⟨a, vs, rfl, s.fz _ _ hs, rs⟩
  | ref i =>
    unfold lstOf at h
    dsimp only at h
    split at h
    · rename_i ys e
      cases h
      obtain ⟨a, rfl, _, vs, h4, rs⟩ := s.at_ r e (by intro z; cases z)
      exact ⟨a, vs, rfl, h4, rs⟩
    · cases h
  | _ => cases h
theorem sq_at (s : RS K w m H) (r : RM K w x v) (h : sqOf x m = some xs) : ∃ a vs, v = .ref a ∧ (SqL K H a vs ∨ SqT K H a vs) ∧ RMs K w xs vs := by
  cases x with
  | lst ys =>
    cases h
    obtain ⟨a, vs, rfl, hs, rs⟩ := r
    exact ⟨a, vs, rfl, .inl (SqL.of (s.fz _ _ hs)), rs⟩
  | rl ys =>
    cases h
    obtain ⟨a, vs, rfl, hs, rs⟩ := r
    exact ⟨a, vs, rfl, .inl (sql_up s hs), rs⟩
  | tup ys =>
    cases h
    obtain ⟨a, vs, rfl, hs, rs⟩ := r
    exact ⟨a, vs, rfl, .inr (sqt_up s hs), rs⟩
  | ref i =>
    unfold sqOf at h
    dsimp only at h
    split at h
    · rename_i ys e
      cases h
      obtain ⟨a, rfl, _, vs, h4, rs⟩ := s.at_ r e (by intro z; cases z)
      exact ⟨a, vs, rfl, .inl (SqL.of h4), rs⟩
    · cases h
  | _ => cases h
end

/-! ### data -/
mutual
def toD : MV → Option PyData
  | .non => some .none
  | .bl b => some (.bool b)
  | .int i => some (.int i)
  | .str s => some (.str s)
  | .tup xs => (toDs xs).map .tuple
  | .lst xs => (toDs xs).map .list
  | _ => none
def toDs : List MV → Option (List PyData)
  | [] => some []
  | x :: xs => (toD x).bind fun d => (toDs xs).map fun ds => d :: ds
end
def toD1 (m : Mo) (x : MV) : Option PyData := match x with
  | .ref i => match m[i]? with
    | some (.lst xs) => (toDs xs).map .list
    | _ => none
  | x => toD x
section
variable {K : PySem.W.Frag} {w : Wd} {m : Mo} {H : Hp}
mutual
theorem toD_dp (s : RS K w m H) : ∀ (x : MV) (v : V) (d : PyData), RM K w x v → toD x = some d → Dp K H v d
  | .non, _, _, r, h => by cases h; rw [show _ = V.non from r]; exact .non
  | .bl b, _, _, r, h => by cases h; rw [show _ = V.bl b from r]; exact .bl b
  | .int i, _, _, r, h => by cases h; rw [show _ = V.int i from r]; exact .int i
  | .str z, _, _, r, h => by cases h; rw [show _ = V.str z from r]; exact .str z
  | .tup xs, _, _, ⟨a, vs, e, hs, rs⟩, h => by
    unfold toD at h
    cases q : toDs xs with
    | none => rw [q] at h; cases h
    | some ds =>
      rw [q] at h
      cases h
      rw [e]
      exact .tup (sqt_up s hs) (toDs_dp s xs vs ds rs q)
  | .lst xs, _, _, ⟨a, vs, e, hs, rs⟩, h => by
    unfold toD at h
    cases q : toDs xs with
    | none => rw [q] at h; cases h
    | some ds =>
      rw [q] at h
      cases h
      rw [e]
      exact .lst (SqL.of (s.fz _ _ hs)) (toDs_dp s xs vs ds rs q)
  | .rl _, _, _, _, h => by cases h
  | .dK _ _, _, _, _, h => by cases h
  | .dT _ _, _, _, _, h => by cases h
  | .obj _ _ _, _, _, _, h => by cases h
  | .ref _, _, _, _, h => by cases h
  | .ty _, _, _, _, h => by cases h
  | .cls _, _, _, _, h => by cases h
  | .exc _ _ _ _ _, _, _, _, h => by cases h
theorem toDs_dp (s : RS K w m H) : ∀ (xs : List MV) (vs : List V) (ds : List PyData), RMs K w xs vs → toDs xs = some ds → DpAll K H vs ds
  | [], _, _, r, h => by
    cases h
    rw [show _ = _ from r]
    exact .nil
  | x :: xs, _, _, ⟨v, vs, e, a, b⟩, h => by
    unfold toDs at h
    cases q : toD x with
    | none => rw [q] at h; cases h
    | some d =>
      rw [q] at h
      cases q2 : toDs xs with
      | none => rw [q2] at h; cases h
      | some ds =>
        rw [q2] at h
        cases h
        rw [e]
        exact .cons (toD_dp s x v d a q) (toDs_dp s xs vs ds b q2)
end
theorem toD1_dp (s : RS K w m H) {x : MV} {v : V} {d : PyData} (r : RM K w x v) (h : toD1 m x = some d) : Dp K H v d := by
  cases x with
  | ref i =>
    unfold toD1 at h
    dsimp only at h
    split at h
    · rename_i xs e
      cases q : toDs xs with
      | none => rw [q] at h; cases h
      | some ds =>
        rw [q] at h
        cases h
        obtain ⟨a, rfl, _, vs, h4, rs⟩ := s.at_ r e (by intro z; cases z)
        exact .lst (SqL.of h4) (toDs_dp s xs vs ds rs q)
    · cases h
  | _ => exact toD_dp s _ _ _ r h
end

/-! ### operators -/
def ok2 (c : Prop) [Decidable c] (x : MV) (m : Mo) : R MV := if c then .ok x m else .stuck
def oAdd : MV → MV → Mo → R MV := fun x y m => match x with
  | .int i => (match y with
    | .int j => .ok (.int (i + j)) m
    | _ => .stuck)
  | .str a => (match y with
    | .str b => if a.length + b.length ≤ 16777216 then .ok (.str (a ++ b)) m else .stuck
    | _ => .stuck)
  | .tup xs => (match y with
    | .tup ys => if xs.isEmpty = false ∧ xs.length + ys.length ≤ 16777216 then .ok (.tup (xs ++ ys)) m else .stuck
    | _ => .stuck)
  | x => (match lstOf x m with
    | some xs => (match lstOf y m with
      | some ys => if xs.length + ys.length ≤ 16777216 then .ok (.lst (xs ++ ys)) m else .stuck
      | none => .stuck)
    | none => .stuck)
def rPlus (K : PySem.W.Frag) : R2 := fun x y H Q => rI0 (fun i j => .int (i + j)) x y H Q ∨ (∃ i j, x = .str i ∧ y = .str j ∧ i.length + j.length ≤ sizeLine ∧ Q (.str (i ++ j)) H) ∨ rCatT K x y H Q ∨ rCat x y H Q
theorem op_plus {X : Cx} : OpR X (binaryOp .Add) (rPlus X.K) := op_add.or (op_add_str.or (op_catT.or op_cat))
section
variable {K : PySem.W.Frag} {W : WX}
theorem plus_lists {w : Wd} {m : Mo} {H : Hp} {x y : MV} {vx vy : V} {σ : St} {Q : VK} (s : RS K w m H) (rx : RM K w x vx) (ry : RM K w y vy)
    (p : PostE K W σ Q w (match lstOf x m with
    | some xs => (match lstOf y m with
      | some ys => if xs.length + ys.length ≤ 16777216 then .ok (.lst (xs ++ ys)) m else .stuck
      | none => .stuck)
    | none => .stuck)) : rCat vx vy H Q := by
  cases hx : lstOf x m with
  | none => rw [hx] at p; exact p.elim
  | some xs =>
    rw [hx] at p
    dsimp only at p
    cases hy : lstOf y m with
    | none => rw [hy] at p; exact p.elim
    | some ys =>
      rw [hy] at p
      dsimp only at p
      split at p
      · rename_i hz
        obtain ⟨a, vs, rfl, h1, r1⟩ := lst_at s rx hx
        obtain ⟨b, us, rfl, h2, r2⟩ := lst_at s ry hy
        refine ⟨a, b, vs, us, rfl, rfl, h1, h2, by rw [r1.length, r2.length, sizeLine_eq]; exact hz, fun q hq => ?_⟩
        obtain ⟨z2, l2⟩ := s.new (o := .lst (vs ++ us)) hq
        exact p _ _ _ l2 z2 ⟨q, _, rfl, upd_same, RMs.mono l2 _ _ (r1.append r2)⟩
      · exact p.elim
theorem so_add : SimO K W (rPlus K) oAdd := by
  intro w m H x y vx vy σ Q s rx ry p
  unfold oAdd at p
  cases x with
  | int i =>
    cases y with
    | int j => exact .inl ⟨i, j, rx, ry, p w H _ (.refl w) s rfl⟩
    | _ => exact p.elim
  | str a =>
    cases y with
    | str b =>
      dsimp only at p
      split at p
      · rename_i hz
        exact .inr (.inl ⟨a, b, rx, ry, by rw [sizeLine_eq]; exact hz, p w H _ (.refl w) s rfl⟩)
      · exact p.elim
    | _ => exact p.elim
  | tup xs =>
    cases y with
    | tup ys =>
      dsimp only at p
      split at p
      · rename_i hz
        obtain ⟨a, vs, rfl, h1, r1⟩ := rx
        obtain ⟨b, us, rfl, h2, r2⟩ := ry
        have hne : vs ≠ [] := fun z => by
          have := r1.isEmpty
          rw [z, hz.1] at this
          cases this
        refine .inr (.inr (.inl ⟨a, b, vs, us, rfl, rfl, sqt_up s h1, sqt_up s h2, hne, by rw [r1.length, r2.length, sizeLine_eq]; exact hz.2, fun e => ?_, fun _ q hq => ?_⟩))
        · refine p w H _ (.refl w) s ⟨a, vs, rfl, h1, ?_⟩
          have : ys = [] := by
            have := r2.length
            rw [e] at this
            cases ys <;> simp_all
          rw [this, List.append_nil]
          exact r1
        · obtain ⟨z2, l2⟩ := s.new (o := .tup (vs ++ us)) hq
          exact p _ _ _ l2 z2 ⟨q, _, rfl, SqT.of upd_same, RMs.mono l2 _ _ (r1.append r2)⟩
      · exact p.elim
    | _ => exact p.elim
  | _ => exact .inr (.inr (.inr (plus_lists s rx ry p)))
def oSub : MV → MV → Mo → R MV := fun x y m => match x, y with
  | .int i, .int j => .ok (.int (i - j)) m
  | _, _ => .stuck
def mulOk (i j : Int) : Prop := ((-(2 ^ 64) < i ∧ i < 2 ^ 64) ∨ (-(2 ^ 64) < j ∧ j < 2 ^ 64)) ∨ i.natAbs.log2 + j.natAbs.log2 < 1000000
noncomputable instance {i j : Int} : Decidable (mulOk i j) := Classical.propDecidable _
noncomputable def oMul : MV → MV → Mo → R MV := fun x y m => match x, y with
  | .int i, .int j => if mulOk i j then .ok (.int (i * j)) m else .stuck
  | _, _ => .stuck
noncomputable def oDiv : MV → MV → Mo → R MV := fun x y m => match x, y with
  | .int i, .int j => if okI 1 1073741823 j then .ok (.int (i / j)) m else .stuck
  | _, _ => .stuck
def oMod : MV → MV → Mo → R MV := fun x y m => match x, y with
  | .int i, .int j => if 0 < j then .ok (.int (i % j)) m else .stuck
  | _, _ => .stuck
def oPow : MV → MV → Mo → R MV := fun x y m => match x, y with
  | .int i, .int j => if 0 ≤ j ∧ j ≤ 1000000 ∧ i.natAbs < 2 ^ 64 then .ok (.int (i ^ j.toNat)) m else .stuck
  | _, _ => .stuck
theorem so_int {f : MV → MV → Mo → R MV} {g : Int → Int → Int} {c : Int → Int → Prop} {r : R2} (hf : ∀ x y m, (∃ i j, x = MV.int i ∧ y = MV.int j ∧ ((c i j ∧ f x y m = .ok (.int (g i j)) m) ∨ f x y m = .stuck)) ∨ f x y m = .stuck)
    (hr : ∀ i j H (Q : VK), c i j → Q (.int (g i j)) H → r (.int i) (.int j) H Q) : SimO K W r f := by
  intro w m H x y vx vy σ Q s rx ry p
  rcases hf x y m with ⟨i, j, rfl, rfl, ⟨hc, e⟩ | e⟩ | e
  · rw [e] at p
    rw [show vx = .int i from rx, show vy = .int j from ry]
    exact hr i j H Q hc (p w H _ (.refl w) s rfl)
  · rw [e] at p
    exact p.elim
  · rw [e] at p
    exact p.elim
theorem so_sub : SimO K W (rI0 fun i j => .int (i - j)) oSub := so_int (c := fun _ _ => True) (fun x y m => by
  cases x <;> cases y <;> first | exact .inl ⟨_, _, rfl, rfl, .inl ⟨trivial, rfl⟩⟩ | exact .inr rfl) fun i j H Q _ q => ⟨i, j, rfl, rfl, q⟩
theorem so_mul : SimO K W (fun x y H Q => rI CMul (fun i j => .int (i * j)) x y H Q ∨ rI CMulW (fun i j => .int (i * j)) x y H Q) oMul := so_int (c := mulOk) (fun x y m => by
  cases x <;> cases y <;> first
    | exact .inr rfl
    | (rename_i i j
       by_cases h : mulOk i j
       · exact .inl ⟨_, _, rfl, rfl, .inl ⟨h, if_pos h⟩⟩
       · exact .inr (if_neg h))) fun i j H Q c q => by
  rcases c with c | c
  · exact .inl ⟨i, j, rfl, rfl, c, q⟩
  · exact .inr ⟨i, j, rfl, rfl, c, q⟩
theorem so_div : SimO K W (rI CDiv fun i j => .int (i / j)) oDiv := so_int (c := CDiv) (fun x y m => by
  cases x <;> cases y <;> first
    | exact .inr rfl
    | (rename_i i j
       by_cases h : okI 1 1073741823 j
       · exact .inl ⟨_, _, rfl, rfl, .inl ⟨⟨by have := h.1; omega, by have := h.2; omega⟩, if_pos h⟩⟩
       · exact .inr (if_neg h))) fun i j H Q c q => ⟨i, j, rfl, rfl, c, q⟩
theorem so_mod : SimO K W (rI (fun _ j => 0 < j) fun i j => .int (i % j)) oMod := so_int (c := fun _ j => 0 < j) (fun x y m => by
  cases x <;> cases y <;> first
    | exact .inr rfl
    | (rename_i i j
       by_cases h : 0 < j
       · exact .inl ⟨_, _, rfl, rfl, .inl ⟨h, if_pos h⟩⟩
       · exact .inr (if_neg h))) fun i j H Q c q => ⟨i, j, rfl, rfl, c, q⟩
theorem so_pow : SimO K W (rI CPow fun i j => .int (i ^ j.toNat)) oPow := so_int (c := CPow) (fun x y m => by
  cases x <;> cases y <;> first
    | exact .inr rfl
    | (rename_i i j
       by_cases h : 0 ≤ j ∧ j ≤ 1000000 ∧ i.natAbs < 2 ^ 64
       · exact .inl ⟨_, _, rfl, rfl, .inl ⟨h, if_pos h⟩⟩
       · exact .inr (if_neg h))) fun i j H Q c q => ⟨i, j, rfl, rfl, c, q⟩

/-! ### comparisons -/
def dEq (x y : MV) (m : Mo) : Option Bool := (toD1 m x).bind fun d => (toD1 m y).bind fun e => if (SeqAt.shaped d && SeqAt.shaped e) = true then some (PyData.eqv d e) else none
def fEq (x y : MV) (m : Mo) : Option Bool := match x with
  | .int i => (match y with
    | .int j => some (decide (i = j))
    | .str _ => some false
    | .non => some false
    | _ => dEq x y m)
  | .str a => (match y with
    | .str b => some (decide (a = b))
    | .int _ => some false
    | .bl _ => some false
    | .non => some false
    | _ => dEq x y m)
  | .bl a => (match y with
    | .bl b => some (decide (a = b))
    | _ => dEq x y m)
  | _ => dEq x y m
def fNe (x y : MV) (m : Mo) : Option Bool := (fEq x y m).map (!·)
def rEqM (K : PySem.W.Frag) : R2 := fun x y H Q => rEq x y H Q ∨ rEqD K x y H Q
def rNeM (K : PySem.W.Frag) : R2 := fun x y H Q => rNe x y H Q ∨ rNeD K x y H Q
theorem op_eqM {X : Cx} (hu : X.A.units + 64 < cLine) : OpR X (compareOp .Eq) (rEqM X.K) := op_eq.or (op_eqD hu)
theorem op_neM {X : Cx} (hu : X.A.units + 64 < cLine) : OpR X (compareOp .NotEq) (rNeM X.K) := op_ne.or (op_neD hu)
theorem d_eq {w : Wd} {m : Mo} {H : Hp} {x y : MV} {vx vy : V} {b : Bool} (s : RS K w m H) (rx : RM K w x vx) (ry : RM K w y vy) (h : dEq x y m = some b) :
    ∃ d e, Dp K H vx d ∧ Dp K H vy e ∧ SeqAt.shaped d = true ∧ SeqAt.shaped e = true ∧ PyData.eqv d e = b := by
  unfold dEq at h
  cases hx : toD1 m x with
  | none => rw [hx] at h; cases h
  | some d =>
    rw [hx] at h
    cases hy : toD1 m y with
    | none => rw [hy] at h; cases h
    | some e =>
      rw [hy] at h
      by_cases hs : (SeqAt.shaped d && SeqAt.shaped e) = true
      · have h' : some (PyData.eqv d e) = some b := by
          rw [← h]
          show _ = if (SeqAt.shaped d && SeqAt.shaped e) = true then some (PyData.eqv d e) else none
          rw [if_pos hs]
        rw [Bool.and_eq_true] at hs
        exact ⟨d, e, toD1_dp s rx hx, toD1_dp s ry hy, hs.1, hs.2, Option.some.inj h'⟩
      · have h' : (none : Option Bool) = some b := by
          rw [← h]
          show _ = if (SeqAt.shaped d && SeqAt.shaped e) = true then some (PyData.eqv d e) else none
          rw [if_neg hs]
        cases h'
theorem fEq_sim {w : Wd} {m : Mo} {H : Hp} {x y : MV} {vx vy : V} {b : Bool} (s : RS K w m H) (rx : RM K w x vx) (ry : RM K w y vy) (h : fEq x y m = some b) :
    (scal vx vy = true ∧ decide (vx = vy) = b) ∨ ∃ d e, Dp K H vx d ∧ Dp K H vy e ∧ SeqAt.shaped d = true ∧ SeqAt.shaped e = true ∧ PyData.eqv d e = b := by
  cases x with
  | int i =>
    cases y with
    | int j => rw [show vx = .int i from rx, show vy = .int j from ry]; exact .inl ⟨rfl, by rw [← Option.some.inj h]; simp⟩
    | str j => rw [show vx = .int i from rx, show vy = .str j from ry]; exact .inl ⟨rfl, by rw [← Option.some.inj h]; simp⟩
    | non => rw [show vx = .int i from rx, show vy = .non from ry]; exact .inl ⟨rfl, by rw [← Option.some.inj h]; simp⟩
    | _ => exact .inr (d_eq s rx ry h)
  | str i =>
    cases y with
    | int j => rw [show vx = .str i from rx, show vy = .int j from ry]; exact .inl ⟨rfl, by rw [← Option.some.inj h]; simp⟩
    | str j => rw [show vx = .str i from rx, show vy = .str j from ry]; exact .inl ⟨rfl, by rw [← Option.some.inj h]; simp⟩
    | bl j => rw [show vx = .str i from rx, show vy = .bl j from ry]; exact .inl ⟨rfl, by rw [← Option.some.inj h]; simp⟩
    | non => rw [show vx = .str i from rx, show vy = .non from ry]; exact .inl ⟨rfl, by rw [← Option.some.inj h]; simp⟩
    | _ => exact .inr (d_eq s rx ry h)
  | bl i =>
    cases y with
    | bl j => rw [show vx = .bl i from rx, show vy = .bl j from ry]; exact .inl ⟨rfl, by rw [← Option.some.inj h]; simp⟩
    | _ => exact .inr (d_eq s rx ry h)
  | _ => exact .inr (d_eq s rx ry h)
theorem so_eq : SimO K W (rEqM K) (oB fEq) := by
  intro w m H x y vx vy σ Q s rx ry p
  unfold oB at p
  cases h : fEq x y m with
  | none => rw [h] at p; exact p.elim
  | some b =>
    rw [h] at p
    rcases fEq_sim s rx ry h with ⟨h1, h2⟩ | ⟨d, e, h1, h2, h3, h4, h5⟩
    · exact .inl ⟨h1, by rw [h2]; exact p w H _ (.refl w) s rfl⟩
    · exact .inr ⟨d, e, h1, h2, h3, h4, by rw [h5]; exact p w H _ (.refl w) s rfl⟩
theorem so_ne : SimO K W (rNeM K) (oB fNe) := by
  intro w m H x y vx vy σ Q s rx ry p
  unfold oB fNe at p
  cases h : fEq x y m with
  | none => rw [h] at p; exact p.elim
  | some b =>
    rw [h] at p
    rcases fEq_sim s rx ry h with ⟨h1, h2⟩ | ⟨d, e, h1, h2, h3, h4, h5⟩
    · exact .inl ⟨h1, by rw [h2]; exact p w H _ (.refl w) s rfl⟩
    · exact .inr ⟨d, e, h1, h2, h3, h4, by rw [h5]; exact p w H _ (.refl w) s rfl⟩
def fCmp (g : Int → Int → Bool) (x y : MV) (m : Mo) : Option Bool := match x, y with
  | .int i, .int j => some (g i j)
  | _, _ => none
theorem so_cmp {g : Int → Int → Bool} : SimO K W (rI0 fun i j => .bl (g i j)) (oB (fCmp g)) := by
  intro w m H x y vx vy σ Q s rx ry p
  cases x with
  | int i =>
    cases y with
    | int j => exact ⟨i, j, rx, ry, p w H _ (.refl w) s rfl⟩
    | _ => exact p.elim
  | _ => cases y <;> exact p.elim
abbrev fLt := fCmp fun i j => decide (i < j)
abbrev fLe := fCmp fun i j => decide (i ≤ j)
abbrev fGt := fCmp fun i j => decide (j < i)
abbrev fGe := fCmp fun i j => decide (j ≤ i)

/-! in -/
def flatM : MV → Bool
  | .non => true
  | .bl _ => true
  | .int _ => true
  | .str _ => true
  | _ => false
def eqM : MV → MV → Bool
  | .non, .non => true
  | .bl a, .bl b => a == b
  | .bl a, .int b => (if a then 1 else 0) == b
  | .int a, .bl b => a == (if b then 1 else 0)
  | .int a, .int b => a == b
  | .str a, .str b => a == b
  | _, _ => false
theorem flat_rel {w : Wd} {x : MV} {v : V} (r : RM K w x v) (h : flatM x = true) : flatV v = true := by
  cases x <;> first | exact absurd h Bool.false_ne_true | (rw [show v = _ from r]; rfl)
theorem eq_rel {w : Wd} {x y : MV} {v u : V} (r : RM K w x v) (q : RM K w y u) (h : flatM x = true) (k : flatM y = true) : eqV v u = eqM x y := by
  cases x <;> first
    | exact absurd h Bool.false_ne_true
    | (cases y <;> first | exact absurd k Bool.false_ne_true | (rw [show v = _ from r, show u = _ from q]; rfl))
def inM (x : MV) (xs : List MV) : Bool := xs.any fun y => eqM y x
theorem flats_rel {w : Wd} : ∀ {xs : List MV} {vs : List V}, RMs K w xs vs → xs.all flatM = true → vs.all flatV = true
  | [], _, e, _ => by rw [show _ = _ from e]; rfl
  | x :: xs, _, ⟨v, r, e, a, b⟩, h => by
    rw [List.all_cons, Bool.and_eq_true] at h
    rw [e, List.all_cons, flat_rel a h.1, flats_rel b h.2]
    rfl
theorem in_rel {w : Wd} {x : MV} {v : V} (r : RM K w x v) (h : flatM x = true) : ∀ {xs : List MV} {vs : List V}, RMs K w xs vs → xs.all flatM = true → inV v vs = inM x xs
  | [], _, e, _ => by rw [show _ = _ from e]; rfl
  | y :: xs, _, ⟨u, us, e, a, b⟩, k => by
    rw [List.all_cons, Bool.and_eq_true] at k
    have ih := in_rel r h b k.2
    unfold inV inM at ih ⊢
    rw [e, List.any_cons, List.any_cons, ih, eq_rel a r k.1 h]
def fIn (x y : MV) (m : Mo) : Option Bool := match y with
  | .str b => (match x with
    | .str a => some (!(Builtin.Str.occurrences b a 0 b.length 1).isEmpty)
    | _ => none)
  | y => (sqOf y m).bind fun xs => if flatM x = true ∧ xs.all flatM = true then some (inM x xs) else none
def fNotIn (x y : MV) (m : Mo) : Option Bool := (fIn x y m).map (!·)
def rInM (K : PySem.W.Frag) (neg : Bool) : R2 := fun x y H Q => (∃ i j, x = .str i ∧ y = .str j ∧ Q (.bl (if neg = true then !(!(Builtin.Str.occurrences j i 0 j.length 1).isEmpty) else !(Builtin.Str.occurrences j i 0 j.length 1).isEmpty)) H) ∨ rIn K neg x y H Q
theorem op_inM {X : Cx} : OpR X (compareOp .In) (rInM X.K false) := op_in_str.or op_in_seq
theorem op_notInM {X : Cx} : OpR X (compareOp .NotIn) (rInM X.K true) := op_notin_str.or op_notIn_seq
theorem fIn_sim {w : Wd} {m : Mo} {H : Hp} {x y : MV} {vx vy : V} {b : Bool} {neg : Bool} {Q : VK} (s : RS K w m H) (rx : RM K w x vx) (ry : RM K w y vy) (h : fIn x y m = some b) (q : Q (.bl (if neg = true then !b else b)) H) : rInM K neg vx vy H Q := by
  have seq : ∀ {y : MV}, RM K w y vy → ((sqOf y m).bind fun xs => if flatM x = true ∧ xs.all flatM = true then some (inM x xs) else none) = some b → rIn K neg vx vy H Q := fun {y} ry h => by
    cases hy : sqOf y m with
    | none => rw [hy] at h; cases h
    | some xs =>
      rw [hy] at h
      have h : (if flatM x = true ∧ xs.all flatM = true then some (inM x xs) else none) = some b := h
      by_cases c : flatM x = true ∧ xs.all flatM = true
      · rw [if_pos c] at h
        obtain ⟨a, vs, rfl, h1, r1⟩ := sq_at s ry hy
        refine ⟨a, vs, rfl, h1, flat_rel rx c.1, flats_rel r1 c.2, ?_⟩
        rw [in_rel rx c.1 r1 c.2, Option.some.inj h]
        exact q
      · rw [if_neg c] at h
        cases h
  cases y with
  | str c =>
    cases x with
    | str a =>
      refine .inl ⟨a, c, rx, ry, ?_⟩
      have e : (!(Builtin.Str.occurrences c a 0 c.length 1).isEmpty) = b := Option.some.inj h
      rw [e]
      exact q
    | _ => cases h
  | _ => exact .inr (seq ry h)
theorem so_in : SimO K W (rInM K false) (oB fIn) := by
  intro w m H x y vx vy σ Q s rx ry p
  unfold oB at p
  cases h : fIn x y m with
  | none => rw [h] at p; exact p.elim
  | some b => rw [h] at p; exact fIn_sim s rx ry h (p w H _ (.refl w) s rfl)
theorem so_notIn : SimO K W (rInM K true) (oB fNotIn) := by
  intro w m H x y vx vy σ Q s rx ry p
  unfold oB fNotIn at p
  cases h : fIn x y m with
  | none => rw [h] at p; exact p.elim
  | some b => rw [h] at p; exact fIn_sim s rx ry h (p w H _ (.refl w) s rfl)
end
end ML
set_option Elab.async false
set_option linter.all false
set_option maxRecDepth 100000
set_option maxHeartbeats 2000000
namespace ML
open PySem PySem.Spec PyProof.Rows L2

/-! ### places -/
def oIx : MV → MV → Mo → R MV := fun x y m => match y with
  | .int i => (match x with
    | .str z => (if z.length ≤ 16777216 then (match atI z.cps.toList i with
      | some c => .ok (.str ⟨#[c]⟩) m
      | none => .stuck) else .stuck)
    | x => (match sqOf x m with
      | some xs => (match atI xs i with
        | some v => .ok v m
        | none => .stuck)
      | none => .stuck))
  | _ => .stuck
section
variable {K : PySem.W.Frag} {W : WX} {w : Wd}
theorem atI_rel {xs : List MV} {vs : List V} {i : Int} {x : MV} (r : RMs K w xs vs) (h : atI xs i = some x) : ∃ v, atI vs i = some v ∧ RM K w x v := by
  unfold atI at h ⊢
  rw [r.length]
  cases q : ixN xs.length i with
  | none => rw [q] at h; cases h
  | some j =>
    rw [q] at h
    exact r.get h
theorem so_ix : SimO K W (rIx K) oIx := by
  intro w m H x y vx vy σ Q s rx ry p
  unfold oIx at p
  cases y with
  | int i =>
    have seq : ∀ {x : MV}, RM K w x vx → PostE K W σ Q w (match sqOf x m with
      | some xs => (match atI xs i with
        | some v => .ok v m
        | none => .stuck)
      | none => .stuck) → rIx K vx vy H Q := fun {x} rx p => by
      cases hx : sqOf x m with
      | none => rw [hx] at p; exact p.elim
      | some xs =>
        rw [hx] at p
        dsimp only at p
        cases hv : atI xs i with
        | none => rw [hv] at p; exact p.elim
        | some z =>
          rw [hv] at p
          obtain ⟨a, vs, rfl, h1, r1⟩ := sq_at s rx hx
          obtain ⟨v, h2, r2⟩ := atI_rel r1 hv
          have q := p w H v (.refl w) s r2
          rcases h1 with h1 | h1
          · exact .inl ⟨a, vs, i, v, rfl, ry, h1, h2, q⟩
          · exact .inr (.inl ⟨a, vs, i, v, rfl, ry, h1, h2, q⟩)
    cases x with
    | str z =>
      dsimp only at p
      split at p
      · rename_i hz
        cases hv : atI z.cps.toList i with
        | none => rw [hv] at p; exact p.elim
        | some c =>
          rw [hv] at p
          exact .inr (.inr ⟨z, i, c, rx, ry, by rw [sizeLine_eq]; exact hz, hv, p w H _ (.refl w) s rfl⟩)
      · exact p.elim
    | _ => exact seq rx p
  | _ => exact p.elim
theorem pm_ix {X : Cx} {a b : Expr} {ma mb : ME} {pos : Pos} (ha : PM X W a ma) (hb : PM X W b mb) (hs : PlainIx b := by intro _ _; rfl) : PM X W (.Subscript a b pos) (mOp oIx ma mb) := by
  obtain ⟨ta, h1, s1⟩ := ha
  obtain ⟨tb, h2, s2⟩ := hb
  exact ⟨_, pe_ix ix_seq h1 h2 hs, simE_op so_ix s1 s2⟩

/-! ### slices -/
def MO := Env → Mo → R (Option Int)
def mONone : MO := fun _ m => .ok none m
def mOSome (ma : ME) : MO := fun e m => (ma e m).bind fun x m1 => match x with
  | .int i => .ok (some i) m1
  | _ => .stuck
def PostO (K : PySem.W.Frag) (W : WX) (σ : St) (Q : Option Int → Hp → Prop) (w : Wd) : R (Option Int) → Prop
  | .ok b m' => ∀ w' H', w.Le w' → RS K w' m' H' → Q b H'
  | .exc e m' => ∀ w' H' c d, w.Le w' → RS K w' m' H' → ExcR K w' e c d H' → W c d σ H'
  | .stuck => False
def PMO (X : Cx) (W : WX) (e : Option Expr) (mo : MO) : Prop := ∃ to, PO X e to ∧ ∀ w m H e' σ Q, RS X.K w m H → SR X.K w e' σ → PostO X.K W σ Q w (mo e' m) → to σ H Q
theorem pmo_none {X : Cx} : PMO X W none mONone := ⟨_, po_none, fun w m H e σ Q s q p => p w H (.refl w) s⟩
theorem pmo_some {X : Cx} {a : Expr} {ma : ME} (h : PM X W a ma) : PMO X W (some a) (mOSome ma) := by
  obtain ⟨t, h1, s1⟩ := h
  refine ⟨_, po_some h1, fun w m H e σ Q s q p => ?_⟩
  refine s1 w m H e σ _ s q ?_
  unfold mOSome at p
  cases hr : ma e m with
  | ok x m1 =>
    rw [hr] at p
    intro w1 H1 v l1 z1 r1
    cases x with
    | int i => exact ⟨i, r1, p w1 H1 l1 z1⟩
    | _ => exact (show False from p).elim
  | exc x m1 => rw [hr] at p; exact p
  | stuck => rw [hr] at p; exact p
def cutG {α : Type} (xs : List α) (lo hi : Option Int) : List α := (xs.drop (HT.sIx xs.length 0 lo)).take (HT.sIx xs.length xs.length hi - HT.sIx xs.length 0 lo)
theorem cut_rel {xs : List MV} {vs : List V} (r : RMs K w xs vs) (lo hi : Option Int) : RMs K w (cutG xs lo hi) (cutV vs lo hi) := by
  unfold cutG cutV
  rw [r.length]
  exact (r.drop _).take _
def oSl (x : MV) (lo hi : Option Int) (m : Mo) : R MV := match x with
  | .str z => if z.length ≤ 16777216 then .ok (.str (cutS z lo hi)) m else .stuck
  | .tup xs => if HT.sIx xs.length 0 lo = 0 ∧ HT.sIx xs.length xs.length hi = xs.length then .stuck else .ok (.tup (cutG xs lo hi)) m
  | x => match lstOf x m with
    | some xs => .ok (.lst (cutG xs lo hi)) m
    | none => .stuck
def mSl (ma : ME) (ml mh : MO) : ME := fun e m => (ma e m).bind fun x m1 => (ml e m1).bind fun lo m2 => (mh e m2).bind fun hi m3 => oSl x lo hi m3
def rSlM (K : PySem.W.Frag) : V → Option Int → Option Int → Hp → VK → Prop := fun x lo hi H Q => rSlL K x lo hi H Q ∨ rSlT K x lo hi H Q ∨ rSlS x lo hi H Q
theorem sl_all {X : Cx} : SlR X (rSlM X.K) := sl_list.or (sl_tup.or sl_str)
theorem so_sl {m : Mo} {H : Hp} {x : MV} {v : V} {lo hi : Option Int} {σ : St} {Q : VK} (s : RS K w m H) (r : RM K w x v) (p : PostE K W σ Q w (oSl x lo hi m)) : rSlM K v lo hi H Q := by
  unfold oSl at p
  have lists : ∀ {x : MV}, RM K w x v → PostE K W σ Q w (match lstOf x m with
    | some xs => .ok (.lst (cutG xs lo hi)) m
    | none => .stuck) → rSlL K v lo hi H Q := fun {x} r p => by
    cases hx : lstOf x m with
    | none => rw [hx] at p; exact p.elim
    | some xs =>
      rw [hx] at p
      obtain ⟨a, vs, rfl, h1, r1⟩ := lst_at s r hx
      refine ⟨a, vs, rfl, SqL.of h1, fun q hq => ?_⟩
      obtain ⟨z2, l2⟩ := s.new (o := .lst (cutV vs lo hi)) hq
      exact p _ _ _ l2 z2 ⟨q, _, rfl, upd_same, RMs.mono l2 _ _ (cut_rel r1 lo hi)⟩
  cases x with
  | str z =>
    dsimp only at p
    split at p
    · rename_i hz
      exact .inr (.inr ⟨z, r, by rw [sizeLine_eq]; exact hz, p w H _ (.refl w) s rfl⟩)
    · exact p.elim
  | tup xs =>
    dsimp only at p
    split at p
    · exact p.elim
    · rename_i hz
      obtain ⟨a, vs, rfl, h1, r1⟩ := r
      refine .inr (.inl ⟨a, vs, rfl, sqt_up s h1, by rw [r1.length]; exact hz, fun q hq => ?_⟩)
      obtain ⟨z2, l2⟩ := s.new (o := .tup (cutV vs lo hi)) hq
      exact p _ _ _ l2 z2 ⟨q, _, rfl, SqT.of upd_same, RMs.mono l2 _ _ (cut_rel r1 lo hi)⟩
  | _ => exact .inl (lists r p)
theorem pm_slice {X : Cx} {a : Expr} {lo hi : Option Expr} {ma : ME} {ml mh : MO} {pos p2 : Pos} (ha : PM X W a ma) (hl : PMO X W lo ml) (hh : PMO X W hi mh) : PM X W (.Subscript a (.Slice lo hi none p2) pos) (mSl ma ml mh) := by
  obtain ⟨ta, h1, s1⟩ := ha
  obtain ⟨tl, h2, s2⟩ := hl
  obtain ⟨th, h3, s3⟩ := hh
  refine ⟨_, pe_slice sl_all h1 h2 h3, fun w m H e σ Q s q p => ?_⟩
  refine s1 w m H e σ _ s q (PostE.bind p fun x m1 w1 H1 v l1 z1 r1 p1 => ?_)
  refine s2 w1 m1 H1 e σ _ z1 (q.mono l1) ?_
  cases hr : ml e m1 with
  | stuck => rw [hr] at p1; exact p1
  | exc x m2 => rw [hr] at p1; exact p1
  | ok lo m2 =>
    rw [hr] at p1
    intro w2 H2 l2 z2
    refine s3 w2 m2 H2 e σ _ z2 (q.mono (l1.trans l2)) ?_
    have p2 : PostE X.K W σ Q w2 ((mh e m2).bind fun hi m3 => oSl x lo hi m3) := PostE.mono l2 p1
    cases hr2 : mh e m2 with
    | stuck => rw [hr2] at p2; exact p2
    | exc x m3 => rw [hr2] at p2; exact p2
    | ok hi m3 =>
      rw [hr2] at p2
      intro w3 H3 l3 z3
      exact so_sl z3 (RM.mono (l2.trans l3) _ _ r1) (PostE.mono l3 p2)

/-! ### built-in functions -/
def SimC (K : PySem.W.Frag) (W : WX) (r : List V → Hp → VK → Prop) (f : List MV → Mo → R MV) : Prop := ∀ w m H xs vs σ Q, RS K w m H → RMs K w xs vs → PostE K W σ Q w (f xs m) → r vs H Q
def mCB (f : List MV → Mo → R MV) (ml : MA) : ME := fun e m => (ml e m).bind fun xs m1 => f xs m1
theorem pm_callB {X : Cx} {x : Str} {a : Expr} {es : List Expr} {ml : MA} {p pos : Pos} {id : String} {r : List V → Hp → VK → Prop} {f : List MV → Mo → R MV} (hc : CallR X (.builtin id) r) (hf : SimC X.K W r f) (hm : X.mg x = none) (hv : bootBuiltins x = some (.builtin id)) (ha : PMA X W (a :: es) ml)
    (hg : Gl X x := by rfl) (hn : x ≠ "__name__" := by decide) (hdb : (x == ("__debug__" : Str)) = false := by decide)
    (he : starEach (a :: es) X.env = (false, eval a X.env) :: starEach es X.env := by rfl) (hpl : (backTo pos (starEach es X.env)).any (·.1) = false := by rfl) : PM X W (.Call (.Name x p) (a :: es) [] pos) (mCB f ml) := by
  obtain ⟨t, h1, s1⟩ := ha
  exact ⟨_, pe_callB hc hg hm hv h1 hn hdb he hpl, fun w m H e σ Q s q p => s1 w m H e σ _ s q (PostA.bindE p fun xs m1 w1 H1 vs l1 z1 r1 p1 => hf w1 m1 H1 xs vs σ Q z1 r1 p1)⟩
theorem pm_callTy {X : Cx} {x : Str} {a : Expr} {es : List Expr} {ml : MA} {p pos : Pos} {T : String} {r : List V → Hp → VK → Prop} {f : List MV → Mo → R MV} (hc : CallR X (.type T) r) (hf : SimC X.K W r f) (hm : X.mg x = none) (hv : bootBuiltins x = some (.type T)) (ha : PMA X W (a :: es) ml)
    (hg : Gl X x := by rfl) (hn : x ≠ "__name__" := by decide) (hdb : (x == ("__debug__" : Str)) = false := by decide)
    (he : starEach (a :: es) X.env = (false, eval a X.env) :: starEach es X.env := by rfl) (hpl : (backTo pos (starEach es X.env)).any (·.1) = false := by rfl) : PM X W (.Call (.Name x p) (a :: es) [] pos) (mCB f ml) := by
  obtain ⟨t, h1, s1⟩ := ha
  exact ⟨_, pe_callTy hc hg hm hv h1 hn hdb he hpl, fun w m H e σ Q s q p => s1 w m H e σ _ s q (PostA.bindE p fun xs m1 w1 H1 vs l1 z1 r1 p1 => hf w1 m1 H1 xs vs σ Q z1 r1 p1)⟩
theorem RMs.one {x : MV} {vs : List V} (r : RMs K w [x] vs) : ∃ v, vs = [v] ∧ RM K w x v := by
  obtain ⟨v, r', e, a, b⟩ := r
  rw [show r' = [] from b] at e
  exact ⟨v, e, a⟩
theorem RMs.two {x y : MV} {vs : List V} (r : RMs K w [x, y] vs) : ∃ v u, vs = [v, u] ∧ RM K w x v ∧ RM K w y u := by
  obtain ⟨v, r', e, a, b⟩ := r
  obtain ⟨u, e', c⟩ := RMs.one b
  rw [e'] at e
  exact ⟨v, u, e, a, c⟩
def cAbs : List MV → Mo → R MV
  | [.int i], m => .ok (.int (if i < 0 then -i else i)) m
  | _, _ => .stuck
theorem sc_abs : SimC K W (fun xs H Q => ∃ i, xs = [.int i] ∧ Q (.int (if i < 0 then -i else i)) H) cAbs := by
  intro w m H xs vs σ Q s r p
  unfold cAbs at p
  split at p
  · rename_i i
    obtain ⟨v, rfl, rv⟩ := r.one
    exact ⟨i, by rw [show v = _ from rv], p w H _ (.refl w) s rfl⟩
  · exact p.elim
def cMax2 : List MV → Mo → R MV
  | [.int i, .int j], m => .ok (.int (if j > i then j else i)) m
  | _, _ => .stuck
def cMin2 : List MV → Mo → R MV
  | [.int i, .int j], m => .ok (.int (if j < i then j else i)) m
  | _, _ => .stuck
theorem sc_max2 : SimC K W (fun xs H Q => ∃ i j, xs = [.int i, .int j] ∧ Q (.int (if j > i then j else i)) H) cMax2 := by
  intro w m H xs vs σ Q s r p
  unfold cMax2 at p
  split at p
  · rename_i i j
    obtain ⟨v, u, rfl, rv, ru⟩ := r.two
    exact ⟨i, j, by rw [show v = _ from rv, show u = _ from ru], p w H _ (.refl w) s rfl⟩
  · exact p.elim
theorem sc_min2 : SimC K W (fun xs H Q => ∃ i j, xs = [.int i, .int j] ∧ Q (.int (if j < i then j else i)) H) cMin2 := by
  intro w m H xs vs σ Q s r p
  unfold cMin2 at p
  split at p
  · rename_i i j
    obtain ⟨v, u, rfl, rv, ru⟩ := r.two
    exact ⟨i, j, by rw [show v = _ from rv, show u = _ from ru], p w H _ (.refl w) s rfl⟩
  · exact p.elim
def cInt : List MV → Mo → R MV
  | [.int i], m => .ok (.int i) m
  | [.bl k], m => .ok (.int (if k then 1 else 0)) m
  | _, _ => .stuck
theorem sc_int : SimC K W (fun xs H Q => (∃ i, xs = [.int i] ∧ Q (.int i) H) ∨ ∃ k, xs = [.bl k] ∧ Q (.int (if k then 1 else 0)) H) cInt := by
  intro w m H xs vs σ Q s r p
  unfold cInt at p
  split at p
  · rename_i i
    obtain ⟨v, rfl, rv⟩ := r.one
    exact .inl ⟨i, by rw [show v = _ from rv], p w H _ (.refl w) s rfl⟩
  · rename_i i
    obtain ⟨v, rfl, rv⟩ := r.one
    exact .inr ⟨i, by rw [show v = _ from rv], p w H _ (.refl w) s rfl⟩
  · exact p.elim
def cStr : List MV → Mo → R MV
  | [.int i], m => if i.natAbs.log2 < 1920 then .ok (.str (toString i)) m else .stuck
  | _, _ => .stuck
theorem sc_str : SimC K W (fun xs H Q => ∃ i, xs = [.int i] ∧ i.natAbs.log2 < 1920 ∧ Q (.str (toString i)) H) cStr := by
  intro w m H xs vs σ Q s r p
  unfold cStr at p
  split at p
  · rename_i i
    split at p
    · rename_i hz
      obtain ⟨v, rfl, rv⟩ := r.one
      exact ⟨i, by rw [show v = _ from rv], hz, p w H _ (.refl w) s rfl⟩
    · exact p.elim
  · exact p.elim
def cLen : List MV → Mo → R MV
  | [.str z], m => if z.length ≤ 16777216 then .ok (.int z.length) m else .stuck
  | [x], m => (match sqOf x m with
    | some xs => .ok (.int xs.length) m
    | none => .stuck)
  | _, _ => .stuck
theorem sc_len : SimC K W (fun xs H Q => ∃ x n, xs = [x] ∧ LenV K x H n ∧ Q (.int n) H) cLen := by
  intro w m H xs vs σ Q s r p
  unfold cLen at p
  split at p
  · rename_i z
    split at p
    · rename_i hz
      obtain ⟨v, rfl, rv⟩ := r.one
      exact ⟨v, _, rfl, by rw [show v = _ from rv]; exact ⟨by rw [sizeLine_eq]; exact hz, rfl⟩, p w H _ (.refl w) s rfl⟩
    · exact p.elim
  · rename_i x _
    cases hx : sqOf x m with
    | none => rw [hx] at p; exact p.elim
    | some ys =>
      rw [hx] at p
      obtain ⟨v, rfl, rv⟩ := r.one
      obtain ⟨a, us, rfl, h1, r1⟩ := sq_at s rv hx
      refine ⟨_, _, rfl, ?_, p w H _ (.refl w) s rfl⟩
      rcases h1 with h1 | h1
      · exact .inl ⟨us, h1, r1.length.symm⟩
      · exact .inr ⟨us, h1, r1.length.symm⟩
  · exact p.elim
/-- list(x): a fixed list | a cell -/
def cList : List MV → Mo → R MV
  | [x], m => (match sqOf x m with
    | some xs => .ok (.lst xs) m
    | none => .stuck)
  | _, _ => .stuck
def cListC : List MV → Mo → R MV
  | [x], m => (match sqOf x m with
    | some xs => if belows m.length xs = true then .ok (.ref m.length) (m ++ [.lst xs]) else .stuck
    | none => .stuck)
  | _, _ => .stuck
theorem sc_list : SimC K W (fun xs H Q => ∃ p ys, xs = [.ref p] ∧ (SqL K H p ys ∨ SqT K H p ys) ∧ ∀ l, H l = none → Q (.ref l) (upd H l (.lst ys))) cList := by
  intro w m H xs vs σ Q s r p
  unfold cList at p
  split at p
  · rename_i x
    cases hx : sqOf x m with
    | none => rw [hx] at p; exact p.elim
    | some ys =>
      rw [hx] at p
      obtain ⟨v, rfl, rv⟩ := r.one
      obtain ⟨a, us, rfl, h1, r1⟩ := sq_at s rv hx
      refine ⟨a, us, rfl, h1, fun q hq => ?_⟩
      obtain ⟨z2, l2⟩ := s.new (o := .lst us) hq
      exact p _ _ _ l2 z2 ⟨q, us, rfl, upd_same, RMs.mono l2 _ _ r1⟩
  · exact p.elim
theorem sc_listC : SimC K W (fun xs H Q => ∃ p ys, xs = [.ref p] ∧ (SqL K H p ys ∨ SqT K H p ys) ∧ ∀ l, H l = none → Q (.ref l) (upd H l (.lst ys))) cListC := by
  intro w m H xs vs σ Q s r p
  unfold cListC at p
  split at p
  · rename_i x
    cases hx : sqOf x m with
    | none => rw [hx] at p; exact p.elim
    | some ys =>
      rw [hx] at p
      dsimp only at p
      split at p
      · rename_i hb
        obtain ⟨v, rfl, rv⟩ := r.one
        obtain ⟨a, us, rfl, h1, r1⟩ := sq_at s rv hx
        refine ⟨a, us, rfl, h1, fun q hq => ?_⟩
        obtain ⟨z2, l2⟩ := s.cell (o := .lst us) (c := .lst ys) hq ⟨us, rfl, RMs.mono Wd.Le.newI _ _ r1⟩ hb
        exact p _ _ _ l2 z2 ⟨q, rfl, by show (w.ι ++ [q])[m.length]? = some q; rw [← s.len]; simp⟩
      · exact p.elim
  · exact p.elim
/-- tuple(x) -/
def cTuple : List MV → Mo → R MV
  | [x], m => (match sqOf x m with
    | some xs => .ok (.tup xs) m
    | none => .stuck)
  | _, _ => .stuck
theorem sc_tuple : SimC K W (fun xs H Q => ∃ p ys, xs = [.ref p] ∧ ((SqL K H p ys ∧ ∀ l, H l = none → Q (.ref l) (upd H l (.tup ys))) ∨ (SqT K H p ys ∧ Q (.ref p) H))) cTuple := by
  intro w m H xs vs σ Q s r p
  unfold cTuple at p
  split at p
  · rename_i x
    cases hx : sqOf x m with
    | none => rw [hx] at p; exact p.elim
    | some ys =>
      rw [hx] at p
      obtain ⟨v, rfl, rv⟩ := r.one
      have lists : ∀ a us, SqL K H a us → RMs K w ys us → ∀ l, H l = none → Q (.ref l) (upd H l (.tup us)) := fun a us h1 r1 q hq => by
        obtain ⟨z2, l2⟩ := s.new (o := .tup us) hq
        exact p _ _ _ l2 z2 ⟨q, us, rfl, SqT.of upd_same, RMs.mono l2 _ _ r1⟩
      cases x with
      | tup zs =>
        cases hx
        obtain ⟨a, us, rfl, h1, r1⟩ := rv
        exact ⟨a, us, rfl, .inr ⟨sqt_up s h1, p w H _ (.refl w) s ⟨a, us, rfl, h1, r1⟩⟩⟩
      | lst zs =>
        cases hx
        obtain ⟨a, us, rfl, h1, r1⟩ := rv
        exact ⟨a, us, rfl, .inl ⟨SqL.of (s.fz _ _ h1), lists a us (SqL.of (s.fz _ _ h1)) r1⟩⟩
      | rl zs =>
        cases hx
        obtain ⟨a, us, rfl, h1, r1⟩ := rv
        exact ⟨a, us, rfl, .inl ⟨sql_up s h1, lists a us (sql_up s h1) r1⟩⟩
      | ref i =>
        unfold sqOf at hx
        dsimp only at hx
        split at hx
        · rename_i zs e
          cases hx
          obtain ⟨a, rfl, _, us, h4, r1⟩ := s.at_ rv e (by intro z; cases z)
          exact ⟨a, us, rfl, .inl ⟨SqL.of h4, lists a us (SqL.of h4) r1⟩⟩
        · cases hx
      | _ => cases hx
  · exact p.elim
/-- the ints lo .. hi - 1 -/
def rgM (a b : Int) : List MV := (List.range (b - a).toNat).map fun i => MV.int (a + (i : Nat))
theorem rg_rel {a b : Int} : RMs K w (rgM a b) (rgV a b) := by
  unfold rgM rgV
  generalize List.range (b - a).toNat = l
  induction l with
  | nil => exact rfl
  | cons i l ih => exact ⟨_, _, rfl, rfl, ih⟩
/-- list(range(n)) -/
noncomputable def mListRg (ma : ME) : ME := fun e m => (ma e m).bind fun x m1 => match x with
  | .int n => if okI (-1000000000) 16777216 n then .ok (.lst (rgM 0 n)) m1 else .stuck
  | _ => .stuck
theorem pm_listRg {X : Cx} {a : Expr} {ma : ME} {p p2 pos pos2 : Pos} (hc : X.calm = true) (hm : X.mg "list" = none) (hr : X.mg "range" = none) (ha : PM X W a ma) (hg : Gl X "list" := by rfl) (hg2 : Gl X "range" := by rfl)
    (na : starEach [(Expr.Call (.Name "range" p2) [a] [] pos2)] X.env = (false, eval (Expr.Call (.Name "range" p2) [a] [] pos2) X.env) :: starEach [] X.env := by rfl) (na2 : starEach [a] X.env = (false, eval a X.env) :: starEach [] X.env := by rfl) :
    PM X W (.Call (.Name "list" p) [.Call (.Name "range" p2) [a] [] pos2] [] pos) (mListRg ma) := by
  obtain ⟨t, h1, s1⟩ := ha
  refine ⟨_, pe_listRg hc hg hm (prg_1 hg2 hr h1 na2) na, fun w m H e σ Q s q p => s1 w m H e σ _ s q (PostE.bind p fun x m1 w1 H1 v l1 z1 r1 p1 => ?_)⟩
  cases x with
  | int n =>
    dsimp only at p1
    split at p1
    · rename_i hn
      have hn1 := hn.1
      have hn2 := hn.2
      refine ⟨n, r1, ⟨by omega, by omega, by omega, by omega, by omega⟩, fun q hq => ?_⟩
      obtain ⟨z2, l2⟩ := z1.new (o := .lst (rgV 0 n)) hq
      exact p1 _ _ _ l2 z2 ⟨q, _, rfl, upd_same, rg_rel⟩
    · exact p1.elim
  | _ => exact p1.elim
end
end ML
set_option Elab.async false
set_option linter.all false
set_option maxRecDepth 100000
set_option maxHeartbeats 2000000
namespace ML
open PySem PySem.Spec PyProof.Rows L2

inductive MF where
  | next (e : Env)
  | ret (x : MV)
  | brk (e : Env)
  | cont (e : Env)
abbrev MS := Env → Mo → R MF
def PostS (K : PySem.W.Frag) (W : WX) (D : Ends) (w : Wd) : R MF → Prop
  | .ok (.next e) m' => ∀ w' H' σ', w.Le w' → RS K w' m' H' → SR K w' e σ' → D.nx σ' H'
  | .ok (.ret x) m' => ∀ w' H' v, w.Le w' → RS K w' m' H' → RM K w' x v → D.rt v H'
  | .ok (.brk e) m' => ∀ w' H' σ', w.Le w' → RS K w' m' H' → SR K w' e σ' → D.bk σ' H'
  | .ok (.cont e) m' => ∀ w' H' σ', w.Le w' → RS K w' m' H' → SR K w' e σ' → D.ct σ' H'
  | .exc e m' => ∀ w' H' c d σ', w.Le w' → RS K w' m' H' → ExcR K w' e c d H' → W c d σ' H'
  | .stuck => False
def SimS (K : PySem.W.Frag) (W : WX) (ts : TS) (ms : MS) : Prop := ∀ w m H e σ D, RS K w m H → SR K w e σ → PostS K W D w (ms e m) → ts D σ H
def PMS (X : Cx) (W : WX) (st : Stmt) (ms : MS) : Prop := ∃ ts, PS X st ts ∧ SimS X.K W ts ms
def PMSs (X : Cx) (W : WX) (st : List Stmt) (ms : MS) : Prop := ∃ ts, PSs X st ts ∧ SimS X.K W ts ms
section
variable {K : PySem.W.Frag} {W : WX} {w w1 : Wd} {D : Ends}
theorem PostS.mono {r : R MF} (l : w.Le w1) (h : PostS K W D w r) : PostS K W D w1 r := by
  cases r with
  | ok f m =>
    cases f with
    | next e => exact fun w' H' v l' => h w' H' v (l.trans l')
    | ret e => exact fun w' H' v l' => h w' H' v (l.trans l')
    | brk e => exact fun w' H' v l' => h w' H' v (l.trans l')
    | cont e => exact fun w' H' v l' => h w' H' v (l.trans l')
  | exc e m => exact fun w' H' c d s l' => h w' H' c d s (l.trans l')
  | stuck => exact h
/-- an expression, then the rest -/
theorem PostE.bindS {σ : St} {Q' : VK} {r : R MV} {f : MV → Mo → R MF} (h : PostS K W D w (r.bind f)) (k : ∀ x m1 w1 H1 v, w.Le w1 → RS K w1 m1 H1 → RM K w1 x v → PostS K W D w1 (f x m1) → Q' v H1) : PostE K W σ Q' w r := by
  cases r with
  | ok x m => exact fun w' H' v l s q => k x m w' H' v l s q (PostS.mono l h)
  | exc e m => exact fun w' H' c d l s x => h w' H' c d σ l s x
  | stuck => exact h
theorem PostT.bindS {σ : St} {Q' : Bool → Hp → Prop} {r : R Bool} {f : Bool → Mo → R MF} (h : PostS K W D w (r.bind f)) (k : ∀ x m1 w1 H1, w.Le w1 → RS K w1 m1 H1 → PostS K W D w1 (f x m1) → Q' x H1) : PostT K W σ Q' w r := by
  cases r with
  | ok x m => exact fun w' H' l s => k x m w' H' l s (PostS.mono l h)
  | exc e m => exact fun w' H' c d l s x => h w' H' c d σ l s x
  | stuck => exact h
/-- the plainest reading of an expression -/
def tU (K : PySem.W.Frag) (W : WX) (me : ME) : TE := fun σ H Q => ∃ w m e, RS K w m H ∧ SR K w e σ ∧ PostE K W σ Q w (me e m)
def tUT (K : PySem.W.Frag) (W : WX) (mt : MT) : TT := fun σ H Q => ∃ w m e, RS K w m H ∧ SR K w e σ ∧ PostT K W σ Q w (mt e m)
theorem PM.pe {X : Cx} {e : Expr} {me : ME} (h : PM X W e me) : PE X e (tU X.K W me) := by
  obtain ⟨te, h1, s1⟩ := h
  exact ⟨fun pins s σ H Q I ⟨w, m, e', a, b, c⟩ => h1.run pins s σ H Q I (s1 w m H e' σ Q a b c)⟩
theorem PMT.pt {X : Cx} {e : Expr} {mt : MT} (h : PMT X W e mt) : PT X e (tUT X.K W mt) := by
  obtain ⟨te, h1, s1⟩ := h
  exact ⟨fun pins s σ H Q I ⟨w, m, e', a, b, c⟩ => h1.run pins s σ H Q I (s1 w m H e' σ Q a b c)⟩
theorem tU.sim {me : ME} : SimE K W (tU K W me) me := fun w m H e σ Q a b c => ⟨w, m, e, a, b, c⟩
theorem tUT.sim {mt : MT} : SimT K W (tUT K W mt) mt := fun w m H e σ Q a b c => ⟨w, m, e, a, b, c⟩
end

/-! ### statements -/
section
variable {X : Cx} {W : WX} {st : Stmt} {rest body els : List Stmt} {e c : Expr} {me : ME} {mt : MT} {ms mu : MS} {pos : Pos}
def mNext : MS := fun e m => .ok (.next e) m
def mNever : MS := fun _ _ => .stuck
def mSeq (ms mu : MS) : MS := fun e m => (ms e m).bind fun f m1 => match f with
  | .next e1 => mu e1 m1
  | f => .ok f m1
theorem pmss_nil : PMSs X W [] mNext := ⟨_, pss_nil, fun w m H e σ D s q p => p w H σ (.refl w) s q⟩
theorem pmss_cons (h : PMS X W st ms) (k : PMSs X W rest mu) : PMSs X W (st :: rest) (mSeq ms mu) := by
  obtain ⟨t, h1, s1⟩ := h
  obtain ⟨u, h2, s2⟩ := k
  refine ⟨_, pss_cons h1 h2, fun w m H e σ D s q p => s1 w m H e σ _ s q ?_⟩
  unfold mSeq at p
  cases r : ms e m with
  | stuck => rw [r] at p; exact p
  | exc x m1 => rw [r] at p; exact p
  | ok f m1 =>
    rw [r] at p
    cases f with
    | next e1 => exact fun w' H' σ' l z y => s2 w' m1 H' e1 σ' D z y (PostS.mono l p)
    | ret x => exact p
    | brk x => exact p
    | cont x => exact p
theorem pmss_one (h : PMS X W st ms) : PMSs X W [st] ms := by
  obtain ⟨t, h1, s1⟩ := h
  exact ⟨_, pss_one h1, s1⟩
theorem pms_pass : PMS X W (.Pass pos) mNext := ⟨_, ps_pass, fun w m H e σ D s q p => p w H σ (.refl w) s q⟩
theorem pms_never : PMS X W st mNever := ⟨_, ps_never, fun w m H e σ D s q p => p⟩
theorem pmss_never : PMSs X W rest mNever := ⟨_, pss_never, fun w m H e σ D s q p => p⟩
def mBrk : MS := fun e m => .ok (.brk e) m
def mCont : MS := fun e m => .ok (.cont e) m
theorem pms_break : PMS X W (.Break pos) mBrk := ⟨_, ps_break, fun w m H e σ D s q p => p w H σ (.refl w) s q⟩
theorem pms_continue : PMS X W (.Continue pos) mCont := ⟨_, ps_continue, fun w m H e σ D s q p => p w H σ (.refl w) s q⟩
theorem pms_doc {x j pos'} : PMS X W (.Expr (.Constant (.str x) j pos) pos') mNext := ⟨_, ps_doc, fun w m H e σ D s q p => p w H σ (.refl w) s q⟩
def mExpr (me : ME) : MS := fun e m => (me e m).bind fun _ m1 => .ok (.next e) m1
theorem pms_expr (h : PM X W e me) (hs : swapsWith e none pos.line X.env = pure false := by rfl) : PMS X W (.Expr e pos) (mExpr me) := by
  obtain ⟨t, h1, s1⟩ := h
  exact ⟨_, ps_expr h1 hs, fun w m H e σ D s q p => s1 w m H e σ _ s q (PostE.bindS p fun x m1 w1 H1 v l z r p1 => p1 w1 H1 σ (.refl _) z (q.mono l))⟩
def mRet (me : ME) : MS := fun e m => (me e m).bind fun x m1 => .ok (.ret x) m1
theorem pms_ret (h : PM X W e me) : PMS X W (.Return (some e) pos) (mRet me) := by
  obtain ⟨t, h1, s1⟩ := h
  exact ⟨_, ps_ret h1, fun w m H e σ D s q p => s1 w m H e σ _ s q (PostE.bindS p fun x m1 w1 H1 v l z r p1 => p1 w1 H1 v (.refl _) z r)⟩
theorem pms_retN : PMS X W (.Return none pos) (mRet (mC .non)) := ⟨_, ps_retN, fun w m H e σ D s q p => p w H _ (.refl w) s rfl⟩
def mIf (mt : MT) (ms mu : MS) : MS := fun e m => (mt e m).bind fun b m1 => if b = true then ms e m1 else mu e m1
theorem pms_if (h : PMT X W c mt) (h1 : PMSs X W body ms) (h2 : PMSs X W els mu) : PMS X W (.If c body els pos) (mIf mt ms mu) := by
  obtain ⟨t, a1, s1⟩ := h
  obtain ⟨u, a2, s2⟩ := h1
  obtain ⟨v, a3, s3⟩ := h2
  refine ⟨_, ps_if a1 a2 a3, fun w m H e σ D s q p => s1 w m H e σ _ s q (PostT.bindS p fun b m1 w1 H1 l z p1 => ?_)⟩
  cases b with
  | true => exact s2 w1 m1 H1 e σ D z (q.mono l) p1
  | false => exact s3 w1 m1 H1 e σ D z (q.mono l) p1
def mSet (i : Nat) (me : ME) : MS := fun e m => (me e m).bind fun x m1 => .ok (.next (e.set i (some x))) m1
theorem pms_set (i : Nat) {x : Str} {pos' : Pos} (hN : X.N.Nodup) (h : PM X W e me) (hi : X.N[i]? = some x := by rfl) (hx : Loc X.env.scope x := by first | exact Or.inl rfl | exact Or.inr rfl) (hs : swapsWith e (some (.Name x pos')) pos.line X.env = pure false := by rfl)
    (hf : X.fn x = true ∨ X.env.scope.names.lookup x = some .local := by first | exact .inl rfl | exact .inr rfl | assumption) : PMS X W (.Assign [.Name x pos'] e pos) (mSet i me) := by
  obtain ⟨t, h1, s1⟩ := h
  exact ⟨_, ps_set hN hi hx h1 hs hf, fun w m H e σ D s q p => s1 w m H e σ _ s q (PostE.bindS p fun x m1 w1 H1 v l z r p1 => p1 w1 H1 _ (.refl _) z ((q.mono l).set i r))⟩
/-- a ghost step: the cell at a slot's name is given up, its content fixed; depth 1: its items' cells first -/
def fixV (x : MV) (m : Mo) : R MV := match x with
  | .ref i => (match m[i]? with
    | some (.lst xs) => .ok (.lst xs) (m.set i .dead)
    | some (.dK ks xs) => .ok (.dK ks xs) (m.set i .dead)
    | some (.dT ks xs) => .ok (.dT ks xs) (m.set i .dead)
    | some (.ins C ns xs) => .ok (.obj C ns xs) (m.set i .dead)
    | _ => .stuck)
  | x => .ok x m
theorem fix_sim {K : PySem.W.Frag} {w : Wd} {m m' : Mo} {H : Hp} {x y : MV} {v : V} (s : RS K w m H) (r : RM K w x v) (h : fixV x m = .ok y m') : ∃ w', w.Le w' ∧ RS K w' m' H ∧ RM K w' y v := by
  cases x with
  | ref i =>
    unfold fixV at h
    dsimp only at h
    split at h
    · rename_i xs e
      cases h
      obtain ⟨a, rfl, ha, vs, h4, rs⟩ := s.at_ r e (by intro z; cases z)
      obtain ⟨s2, l2⟩ := s.fix e (by intro z; cases z) ha h4
      exact ⟨_, l2, s2, a, vs, rfl, upd_same, RMs.mono l2 _ _ rs⟩
    · rename_i ks xs e
      cases h
      obtain ⟨a, rfl, ha, vs, h4, hl, rs⟩ := s.at_ r e (by intro z; cases z)
      obtain ⟨s2, l2⟩ := s.fix e (by intro z; cases z) ha h4
      exact ⟨_, l2, s2, a, vs, rfl, .inl upd_same, hl, RMs.mono l2 _ _ rs⟩
    · rename_i ks xs e
      cases h
      obtain ⟨a, rfl, ha, vs, h4, hl, rs⟩ := s.at_ r e (by intro z; cases z)
      obtain ⟨s2, l2⟩ := s.fix e (by intro z; cases z) ha h4
      exact ⟨_, l2, s2, a, vs, rfl, .inl upd_same, hl, RMs.mono l2 _ _ rs⟩
    · rename_i C ns xs e
      cases h
      obtain ⟨a, rfl, ha, dx, vs, h4, hl, rs⟩ := s.at_ r e (by intro z; cases z)
      obtain ⟨s2, l2⟩ := s.fix e (by intro z; cases z) ha h4
      exact ⟨_, l2, s2, a, dx, vs, rfl, upd_same, hl, RMs.mono l2 _ _ rs⟩
    · cases h
  | _ =>
    cases h
    exact ⟨w, .refl w, s, r⟩
def fixVs : List MV → Mo → R (List MV)
  | [], m => .ok [] m
  | x :: xs, m => (fixV x m).bind fun y m1 => (fixVs xs m1).bind fun ys m2 => .ok (y :: ys) m2
/-- an expression whose value is fixed at once (a new list, dict or instance that nobody else holds) -/
def mFix (me : ME) : ME := fun e m => (me e m).bind fun x m1 => fixV x m1
theorem pm_fix (h : PM X W e me) : PM X W e (mFix me) := by
  obtain ⟨t, h1, s1⟩ := h
  refine ⟨_, h1, fun w m H e σ Q s q p => s1 w m H e σ _ s q (PostE.bind p fun x m1 w1 H1 v l z r p1 => ?_)⟩
  cases hx : fixV x m1 with
  | stuck => rw [hx] at p1; exact p1.elim
  | exc y m2 =>
    unfold fixV at hx
    split at hx
    · split at hx <;> cases hx
    · cases hx
  | ok y m2 =>
    rw [hx] at p1
    obtain ⟨w2, l2, z2, r2⟩ := fix_sim z r hx
    exact p1 w2 H1 v l2 z2 r2
/-- a ghost step ahead of a statement: what slot i holds is fixed -/
def gFix (i : Nat) (ms : MS) : MS := fun e m => match e[i]? with
  | some (some x) => (fixV x m).bind fun y m1 => ms (e.set i (some y)) m1
  | _ => .stuck
theorem set_same {l : List (Option V)} {i : Nat} {v : V} (h : l[i]? = some (some v)) : l.set i (some v) = l := by
  apply List.ext_getElem?
  intro j
  by_cases q : i = j
  · subst q
    rw [List.getElem?_set_self (List.getElem?_eq_some_iff.mp h).1, h]
  · rw [List.getElem?_set_ne q]
theorem sim_gFix {K : PySem.W.Frag} {ts : TS} {i : Nat} (h : SimS K W ts ms) : SimS K W ts (gFix i ms) := by
  intro w m H e σ D s q p
  unfold gFix at p
  split at p
  · rename_i x hx
    obtain ⟨v, hv, rv⟩ := q.2 i x hx
    cases hf : fixV x m with
    | stuck => rw [hf] at p; exact p.elim
    | exc y m2 =>
      unfold fixV at hf
      split at hf
      · split at hf <;> cases hf
      · cases hf
    | ok y m2 =>
      rw [hf] at p
      obtain ⟨w2, l2, z2, r2⟩ := fix_sim s rv hf
      have q2 := (q.mono l2).set i r2
      rw [set_same hv] at q2
      exact h w2 m2 H _ σ D z2 q2 (PostS.mono l2 p)
  · exact p.elim
theorem pms_gFix {i : Nat} (h : PMS X W st ms) : PMS X W st (gFix i ms) := let ⟨t, h1, s1⟩ := h; ⟨t, h1, sim_gFix s1⟩
/-- two levels: the items' cells first -/
def fixV2 (x : MV) (m : Mo) : R MV := match x with
  | .ref i => (match m[i]? with
    | some (.lst xs) => (fixVs xs m).bind fun ys m1 => match m1[i]? with
      | some (.lst _) => .ok (.lst ys) (m1.set i .dead)
      | _ => .stuck
    | _ => .stuck)
  | x => .ok x m
end
end ML
set_option Elab.async false
set_option linter.all false
set_option maxRecDepth 100000
set_option maxHeartbeats 2000000
namespace ML
open PySem PySem.Spec PyProof.Rows L2

/-! ### targets -/
abbrev MG := MV → Env → Mo → R Env
abbrev MGs := List MV → Env → Mo → R Env
def PostG (K : PySem.W.Frag) (W : WX) (Q : St → Hp → Prop) (w : Wd) : R Env → Prop
  | .ok e m' => ∀ w' H' σ', w.Le w' → RS K w' m' H' → SR K w' e σ' → Q σ' H'
  | .exc e m' => ∀ w' H' c d σ', w.Le w' → RS K w' m' H' → ExcR K w' e c d H' → W c d σ' H'
  | .stuck => False
def SimG (K : PySem.W.Frag) (W : WX) (g : TG) (mg : MG) : Prop := ∀ w m H e σ x v Q, RS K w m H → SR K w e σ → RM K w x v → PostG K W Q w (mg x e m) → g v σ H Q
def SimGs (K : PySem.W.Frag) (W : WX) (g : TGs) (mg : MGs) : Prop := ∀ w m H e σ x v Q, RS K w m H → SR K w e σ → RMs K w x v → PostG K W Q w (mg x e m) → g v σ H Q
section
variable {K : PySem.W.Frag} {W : WX} {w w1 : Wd}
theorem PostG.mono {Q : St → Hp → Prop} {r : R Env} (l : w.Le w1) (h : PostG K W Q w r) : PostG K W Q w1 r := by
  cases r with
  | ok x m => exact fun w' H' v l' => h w' H' v (l.trans l')
  | exc e m => exact fun w' H' c d s l' => h w' H' c d s (l.trans l')
  | stuck => exact h
theorem PostG.bindS {D : Ends} {Q' : St → Hp → Prop} {r : R Env} {f : Env → Mo → R MF} (h : PostS K W D w (r.bind f)) (k : ∀ x m1 w1 H1 v, w.Le w1 → RS K w1 m1 H1 → SR K w1 x v → PostS K W D w1 (f x m1) → Q' v H1) : PostG K W Q' w r := by
  cases r with
  | ok x m => exact fun w' H' v l s q => k x m w' H' v l s q (PostS.mono l h)
  | exc e m => exact h
  | stuck => exact h
def gSet (i : Nat) : MG := fun x e m => .ok (e.set i (some x)) m
theorem simG_name {i : Nat} : SimG K W (gName i) (gSet i) := fun w m H e σ x v Q s q r p => p w H _ (.refl w) s (q.set i r)
def gsNil : MGs := fun xs e m => if xs.isEmpty = true then .ok e m else .stuck
def gsCons (g : MG) (gs : MGs) : MGs := fun xs e m => match xs with
  | x :: r => (g x e m).bind fun e1 m1 => gs r e1 m1
  | [] => .stuck
theorem simGs_nil : SimGs K W gNil gsNil := by
  intro w m H e σ xs vs Q s q r p
  unfold gsNil at p
  cases xs with
  | nil => exact ⟨r, p w H _ (.refl w) s q⟩
  | cons x xs => exact p.elim
theorem simGs_cons {t : TG} {u : TGs} {g : MG} {gs : MGs} (h : SimG K W t g) (k : SimGs K W u gs) : SimGs K W (gCons t u) (gsCons g gs) := by
  intro w m H e σ xs vs Q s q r p
  cases xs with
  | nil => exact p.elim
  | cons x xs =>
    obtain ⟨v, us, rfl, a, b⟩ := r
    refine ⟨v, us, rfl, h w m H e σ x v _ s q a ?_⟩
    have p' : PostG K W Q w ((g x e m).bind fun e1 m1 => gs xs e1 m1) := p
    cases hr : g x e m with
    | stuck => rw [hr] at p'; exact p'
    | exc y m1 => rw [hr] at p'; exact p'
    | ok e1 m1 =>
      rw [hr] at p'
      exact fun w' H' σ' l z y => k w' m1 H' e1 σ' xs us Q z y (RMs.mono l _ _ b) (PostG.mono l p')
def gTupM (n : Nat) (gs : MGs) : MG := fun x e m => match x with
  | .tup xs => if xs.length = n then gs xs e m else .stuck
  | _ => .stuck
theorem simG_tup {n : Nat} {u : TGs} {gs : MGs} (k : SimGs K W u gs) : SimG K W (gTup K n u) (gTupM n gs) := by
  intro w m H e σ x v Q s q r p
  unfold gTupM at p
  cases x with
  | tup xs =>
    dsimp only at p
    split at p
    · rename_i hn
      obtain ⟨a, vs, rfl, h1, r1⟩ := r
      exact ⟨a, vs, rfl, sqt_up s h1, by rw [r1.length]; exact hn, k w m H e σ xs vs Q s q r1 p⟩
    · exact p.elim
  | _ => exact p.elim
end
def PMG (X : Cx) (W : WX) (tg : Expr) (mg : MG) : Prop := ∃ g, PG X tg g ∧ SimG X.K W g mg
def PMGs (X : Cx) (W : WX) (tg : List Expr) (mg : MGs) : Prop := ∃ g, PGs X tg g ∧ SimGs X.K W g mg
section
variable {X : Cx} {W : WX} {st : Stmt} {body : List Stmt} {tg e a b iter elt : Expr} {es : List Expr} {me ma mb : ME} {mt : MT} {ms mu : MS} {mg : MG} {mgs : MGs} {pos : Pos}
theorem pmg_name (i : Nat) {x : Str} (hN : X.N.Nodup) (hi : X.N[i]? = some x := by rfl) (hx : Loc X.env.scope x := by first | exact Or.inl rfl | exact Or.inr rfl) (hf : X.fn x = true ∨ X.env.scope.names.lookup x = some .local := by first | exact .inl rfl | exact .inr rfl | assumption) :
    PMG X W (.Name x pos) (gSet i) := ⟨_, pg_name hN hi hx hf, simG_name⟩
theorem pmgs_nil : PMGs X W [] gsNil := ⟨_, pgs_nil, simGs_nil⟩
theorem pmgs_cons (h : PMG X W e mg) (k : PMGs X W es mgs) (hs : (assignEach (e :: es) X.env).map (·.2) = assign e X.env :: (assignEach es X.env).map (·.2) := by rfl) : PMGs X W (e :: es) (gsCons mg mgs) :=
  let ⟨_, h1, s1⟩ := h
  let ⟨_, h2, s2⟩ := k
  ⟨_, pgs_cons h1 h2 hs, simGs_cons s1 s2⟩
theorem pmg_tup {k n : Nat} (hc : X.calm = true) (h : PMGs X W es mgs) (hn : (assignEach es X.env).length = n := by rfl) (hst : (assignEach es X.env).findIdx? (·.1) = none := by rfl) : PMG X W (.Tuple es k pos) (gTupM n mgs) :=
  let ⟨_, h1, s1⟩ := h
  ⟨_, pg_tup hc h1 hn hst, simG_tup s1⟩
/-- target = e -/
def mAsg (me : ME) (mg : MG) : MS := fun e m => (me e m).bind fun x m1 => (mg x e m1).bind fun e1 m2 => .ok (.next e1) m2
theorem pms_asg (h : PM X W e me) (k : PMG X W tg mg) (hs : swapsWithSole [tg] e pos.line X.env = pure false := by rfl) (hw : swappedStores [tg] e X.env = pure none := by rfl)
    (h1 : (assignEach [tg] X.env).map (·.2) = [assign tg X.env] := by rfl) : PMS X W (.Assign [tg] e pos) (mAsg me mg) := by
  obtain ⟨t, a1, s1⟩ := h
  obtain ⟨g, a2, s2⟩ := k
  refine ⟨_, ps_asg a1 a2 hs hw h1, fun w m H e σ D s q p => s1 w m H e σ _ s q (PostE.bindS p fun x m1 w1 H1 v l z r p1 => ?_)⟩
  exact s2 w1 m1 H1 e σ x v _ z (q.mono l) r (PostG.bindS p1 fun e1 m2 w2 H2 σ2 l2 z2 y2 p2 => p2 w2 H2 σ2 (.refl _) z2 y2)
/-- xs[i] = e, xs a list at a cell -/
def putAt (m : Mo) (o i x : MV) : Option Mo := match o, i with
  | .ref c, .int k => (match m[c]? with
    | some (.lst xs) => (match ixN xs.length k with
      | some j => if below c x = true then some (m.set c (.lst (xs.set j x))) else none
      | none => none)
    | _ => none)
  | _, _ => none
def mPutAt (me mo mi : ME) : MS := fun e m => (me e m).bind fun x m1 => (mo e m1).bind fun o m2 => (mi e m2).bind fun i m3 => match putAt m3 o i x with
  | some m4 => .ok (.next e) m4
  | none => .stuck
theorem belows_set (L : Nat) : ∀ (xs : List MV) (j : Nat) (x : MV), belows L xs = true → below L x = true → belows L (xs.set j x) = true
  | [], _, _, _, _ => rfl
  | y :: xs, 0, x, h, k => by
    have h' : (below L y && belows L xs) = true := h
    rw [Bool.and_eq_true] at h'
    show (below L x && belows L xs) = true
    rw [k, h'.2]; rfl
  | y :: xs, j + 1, x, h, k => by
    have h' : (below L y && belows L xs) = true := h
    rw [Bool.and_eq_true] at h'
    show (below L y && belows L (xs.set j x)) = true
    rw [h'.1, belows_set L xs j x h'.2 k]; rfl
theorem pms_putAt {o i : Expr} {mo mi : ME} {tpos : Pos} (h : PM X W e me) (ho : PM X W o mo) (hi : PM X W i mi)
    (ha : ∀ v, assign (.Subscript o i tpos) X.env v = (do
      let ov ← holding [v] (eval o X.env)
      let iv ← holding [v, ov] (eval i X.env)
      standAt tpos
      holding [v, ov, iv] (setItem ov iv v)
      release [v, ov, iv] []) := by intro _; rfl)
    (hs : swapsWithSole [.Subscript o i tpos] e pos.line X.env = pure false := by rfl) (hw : swappedStores [.Subscript o i tpos] e X.env = pure none := by rfl)
    (h1 : (assignEach [.Subscript o i tpos] X.env).map (·.2) = [assign (.Subscript o i tpos) X.env] := by rfl) : PMS X W (.Assign [.Subscript o i tpos] e pos) (mPutAt me mo mi) := by
  obtain ⟨t, a1, s1⟩ := h
  obtain ⟨t2, a2, s2⟩ := ho
  obtain ⟨t3, a3, s3⟩ := hi
  refine ⟨_, ps_asg a1 (pg_sub a2 a3 set_list ha) hs hw h1, fun w m H e σ D s q p => s1 w m H e σ _ s q (PostE.bindS p fun x m1 w1 H1 v l z r p1 => ?_)⟩
  refine s2 w1 m1 H1 e σ _ z (q.mono l) (PostE.bindS p1 fun o m2 w2 H2 vo l2 z2 r2 p2 => ?_)
  refine s3 w2 m2 H2 e σ _ z2 (q.mono (l.trans l2)) (PostE.bindS p2 fun i m3 w3 H3 vi l3 z3 r3 p3 => ?_)
  have ro := RM.mono l3 _ _ r2
  have rx := RM.mono (l2.trans l3) _ _ r
  cases hp : putAt m3 o i x with
  | none => rw [hp] at p3; exact p3.elim
  | some m4 =>
    rw [hp] at p3
    cases o with
    | ref c =>
      cases i with
      | int k =>
        unfold putAt at hp
        dsimp only at hp
        split at hp
        · rename_i xs e4
          cases hj : ixN xs.length k with
          | none => rw [hj] at hp; cases hp
          | some j =>
            rw [hj] at hp
            dsimp only at hp
            split at hp
            · rename_i hb
              cases hp
              obtain ⟨a, rfl, ha, vs, h4, rs⟩ := z3.at_ ro e4 (by intro z; cases z)
              obtain ⟨a', k1, _, _, _, k5, _⟩ := z3.cel c _ e4 (by intro z; cases z)
              refine ⟨a, vs, k, j, rfl, r3, h4, by rw [rs.length]; exact hj, ?_⟩
              have z4 := z3.put (c := .lst (xs.set j x)) (o := .lst (vs.set j v)) e4 (by intro z; cases z) ha ⟨_, rfl, rs.set j rx⟩ (belows_set c xs j x k5 hb)
              exact p3 w3 _ σ (.refl _) z4 (q.mono (l.trans (l2.trans l3)))
            · cases hp
        · cases hp
      | _ => cases hp
    | _ => cases i <;> cases hp
/-- xs.append(e), xs a list at a cell -/
def appM (m : Mo) (o x : MV) : Option Mo := match o with
  | .ref c => (match m[c]? with
    | some (.lst xs) => if xs.length < 16777216 ∧ below c x = true then some (m.set c (.lst (xs ++ [x]))) else none
    | _ => none)
  | _ => none
def mApp (mo me : ME) : ME := fun e m => (mo e m).bind fun o m1 => if (lstOf o m1).isSome = true then (me e m1).bind fun x m2 => match appM m2 o x with
  | some m3 => .ok .non m3
  | none => .stuck
  else .stuck
theorem belows_snoc {L : Nat} {xs : List MV} {x : MV} (h : belows L xs = true) (k : below L x = true) : belows L (xs ++ [x]) = true := by
  rw [belows_append, h]
  show (true && (below L x && true)) = true
  rw [k]; rfl
theorem pm_app {o : Expr} {mo : ME} {apos cpos : Pos} (ho : PM X W o mo) (h : PM X W e me) (hbase : attributeBase o "append" X.env (eval o X.env) = eval o X.env := by rfl)
    (hfew : ((backTo cpos (starEach [e] X.env)).all (fun x => !x.1) && (backToKw cpos (keywordEach [] X.env)).all (fun x => x.1.isSome)
      && decide ([e].length + ([] : List Keyword).length + (if ([] : List Keyword).isEmpty then 0 else 1) < 30)) = true := by rfl)
    (hline : (apos.endLine == cpos.line) = true := by rfl) (hs : starEach [e] X.env = (false, eval e X.env) :: starEach [] X.env := by rfl) (hplain : (backTo cpos (starEach [] X.env)).any (·.1) = false := by rfl) :
    PM X W (.Call (.Attribute o "append" apos) [e] [] cpos) (mApp mo me) := by
  obtain ⟨t, a1, s1⟩ := ho
  obtain ⟨t2, a2, s2⟩ := h
  refine ⟨_, pe_bm PySem.F.plainAttrs_list PySem.F.slot_list_append PySem.F.type_list_append mt_append a1 (pa_cons a2 pa_nil hs) hbase hfew hline hs hplain, fun w m H e σ Q s q p => s1 w m H e σ _ s q (PostE.bind p fun o m1 w1 H1 vo l z r p1 => ?_)⟩
  split at p1
  · rename_i hl
    cases hx : lstOf o m1 with
    | none => rw [hx] at hl; cases hl
    | some ys =>
      obtain ⟨a, us, rfl, h1, r1⟩ := lst_at z r hx
      refine ⟨.inl ⟨rfl, _, SqL.of h1⟩, s2 w1 m1 H1 e σ _ z (q.mono l) (PostE.bind p1 fun x m2 w2 H2 v l2 z2 r2 p2 => ?_)⟩
      have ro := RM.mono l2 _ _ r
      cases hp : appM m2 o x with
      | none => rw [hp] at p2; exact p2.elim
      | some m3 =>
        rw [hp] at p2
        cases o with
        | ref c =>
          unfold appM at hp
          dsimp only at hp
          split at hp
          · rename_i xs e4
            split at hp
            · rename_i hb
              cases hp
              obtain ⟨a', e', ha, vs, h4, rs⟩ := z2.at_ ro e4 (by intro z; cases z)
              cases e'
              obtain ⟨_, _, _, _, _, k5, _⟩ := z2.cel c _ e4 (by intro z; cases z)
              have z3 := z2.put (c := .lst (xs ++ [x])) (o := .lst (vs ++ [v])) e4 (by intro z; cases z) ha ⟨_, rfl, rs.append ⟨v, [], rfl, r2, rfl⟩⟩ (belows_snoc k5 hb.2)
              exact ⟨a, vs, v, rfl, rfl, h4, by rw [rs.length, sizeLine_eq]; exact hb.1, p2 w2 _ _ (.refl _) z3 rfl⟩
            · cases hp
          · cases hp
        | _ => cases hp
  · exact p1.elim

/-! ### what a for walks -/
abbrev MI := Env → Mo → R (List MV)
def JR (K : PySem.W.Frag) (J : It) (xs : List MV) (w : Wd) : Prop := ∀ (i : Nat) w' m H, w.Lf w' → RS K w' m H →
  (∀ x, xs[i]? = some x → J.go i H ∧ ∀ v H3, J.yld i H v H3 → ∃ w3, w'.Le w3 ∧ RS K w3 m H3 ∧ RM K w3 x v) ∧ (xs.length ≤ i → J.stop i H)
def PostI (K : PySem.W.Frag) (W : WX) (σ : St) (Rr : It → Hp → Prop) (w : Wd) : R (List MV) → Prop
  | .ok xs m' => ∀ w' H' J, w.Le w' → RS K w' m' H' → JR K J xs w' → Rr J H'
  | .exc e m' => ∀ w' H' c d, w.Le w' → RS K w' m' H' → ExcR K w' e c d H' → W c d σ H'
  | .stuck => False
def SimI (K : PySem.W.Frag) (W : WX) (wi : TI) (mi : MI) : Prop := ∀ w m H e σ Rr, RS K w m H → SR K w e σ → PostI K W σ Rr w (mi e m) → wi σ H Rr
def PMI (X : Cx) (W : WX) (tg iter : Expr) (mi : MI) : Prop := ∃ wi, PI X tg iter wi ∧ SimI X.K W wi mi
/-- items of a fixed list or tuple -/
def iSeq (me : ME) : MI := fun e m => (me e m).bind fun x m1 => match x with
  | .lst xs => .ok xs m1
  | .rl xs => .ok xs m1
  | _ => .stuck
def iTupM (me : ME) : MI := fun e m => (me e m).bind fun x m1 => match x with
  | .tup xs => .ok xs m1
  | _ => .stuck
theorem PostE.bindI {K : PySem.W.Frag} {σ : St} {w : Wd} {Rr : It → Hp → Prop} {Q' : VK} {r : R MV} {f : MV → Mo → R (List MV)} (h : PostI K W σ Rr w (r.bind f)) (k : ∀ x m1 w1 H1 v, w.Le w1 → RS K w1 m1 H1 → RM K w1 x v → PostI K W σ Rr w1 (f x m1) → Q' v H1) : PostE K W σ Q' w r := by
  cases r with
  | ok x m =>
    refine fun w' H' v l s q => k x m w' H' v l s q ?_
    have h' : PostI K W σ Rr w (f x m) := h
    cases hf : f x m with
    | ok xs m' => rw [hf] at h'; exact fun w2 H2 J l2 => h' w2 H2 J (l.trans l2)
    | exc y m' => rw [hf] at h'; exact fun w2 H2 c d l2 => h' w2 H2 c d (l.trans l2)
    | stuck => rw [hf] at h'; exact h'
  | exc e m => exact h
  | stuck => exact h
theorem jr_l {K : PySem.W.Frag} {w : Wd} {a : Addr} {xs : List MV} {vs : List V} (h : SqL K w.F a vs) (r : RMs K w xs vs) : JR K (Itl K a) xs w := fun i w' m H l s => by
  have h' : SqL K H a vs := sql_up s (sql_le l.f.w h)
  refine ⟨fun x hx => ?_, fun hl => ⟨vs, h', by rw [r.length]; exact hl⟩⟩
  obtain ⟨v, e, rv⟩ := r.get hx
  refine ⟨⟨vs, v, h', e⟩, fun u H3 ⟨e3, y⟩ => ?_⟩
  subst e3
  have := y vs h'
  rw [e] at this
  cases this
  exact ⟨w', .refl _, s, RM.monoF l _ _ rv⟩
theorem jr_t {K : PySem.W.Frag} {w : Wd} {a : Addr} {xs : List MV} {vs : List V} (h : SqT K w.F a vs) (r : RMs K w xs vs) : JR K (Itt K a) xs w := fun i w' m H l s => by
  have h' : SqT K H a vs := sqt_up s (sqt_le l.f.w h)
  refine ⟨fun x hx => ?_, fun hl => ⟨vs, h', by rw [r.length]; exact hl⟩⟩
  obtain ⟨v, e, rv⟩ := r.get hx
  refine ⟨⟨vs, v, h', e⟩, fun u H3 ⟨e3, y⟩ => ?_⟩
  subst e3
  have := y vs h'
  rw [e] at this
  cases this
  exact ⟨w', .refl _, s, RM.monoF l _ _ rv⟩
theorem pmi_seq (h : PM X W iter me) : PMI X W tg iter (iSeq me) := by
  obtain ⟨t, h1, s1⟩ := h
  refine ⟨_, pi_list h1, fun w m H e σ Rr s q p => s1 w m H e σ _ s q (PostE.bindI p fun x m1 w1 H1 v l z r p1 => ?_)⟩
  cases x with
  | lst xs =>
    obtain ⟨a, vs, rfl, h2, r2⟩ := r
    have h3 : SqL X.K w1.F a vs := .inl (.inl h2)
    exact ⟨a, rfl, ⟨vs, sql_up z h3⟩, p1 w1 H1 _ (.refl _) z (jr_l h3 r2)⟩
  | rl xs =>
    obtain ⟨a, vs, rfl, h3, r2⟩ := r
    exact ⟨a, rfl, ⟨vs, sql_up z h3⟩, p1 w1 H1 _ (.refl _) z (jr_l h3 r2)⟩
  | _ => exact p1.elim
theorem pmi_tup (h : PM X W iter me) : PMI X W tg iter (iTupM me) := by
  obtain ⟨t, h1, s1⟩ := h
  refine ⟨_, pi_tup h1, fun w m H e σ Rr s q p => s1 w m H e σ _ s q (PostE.bindI p fun x m1 w1 H1 v l z r p1 => ?_)⟩
  cases x with
  | tup xs =>
    obtain ⟨a, vs, rfl, h3, r2⟩ := r
    exact ⟨a, rfl, ⟨vs, sqt_up z h3⟩, p1 w1 H1 _ (.refl _) z (jr_t h3 r2)⟩
  | _ => exact p1.elim
/-- range(n) -/
noncomputable def iRg1 (me : ME) : MI := fun e m => (me e m).bind fun x m1 => match x with
  | .int n => if okI (-1000000000) 1000000000 n then .ok (rgM 0 n) m1 else .stuck
  | _ => .stuck
theorem jr_r {K : PySem.W.Frag} {w : Wd} {n : Int} : JR K (Itr 0 n.toNat) (rgM 0 n) w := fun i w' m H l s => by
  have hl : (rgM 0 n).length = n.toNat := by unfold rgM; simp
  refine ⟨fun x hx => ?_, fun h => by rw [hl] at h; exact h⟩
  have hi : i < n.toNat := by rw [← hl]; exact (List.getElem?_eq_some_iff.mp hx).1
  refine ⟨hi, fun v H3 ⟨e, ev⟩ => ?_⟩
  subst e
  refine ⟨w', .refl _, s, ?_⟩
  have : x = .int (0 + (i : Nat)) := by
    unfold rgM at hx
    rw [List.getElem?_map] at hx
    have hi' : i < (n - 0).toNat := by omega
    rw [List.getElem?_range hi'] at hx
    exact (Option.some.inj hx).symm
  rw [this, ev]
  exact rfl
theorem pmi_range {p : Pos} (hm : X.mg "range" = none) (h : PM X W e me) (hg : Gl X "range" := by rfl) (hs : starEach [e] X.env = [(false, eval e X.env)] := by rfl) : PMI X W tg (.Call (.Name "range" p) [e] [] pos) (iRg1 me) := by
  obtain ⟨t, h1, s1⟩ := h
  have hs' : starEach (e :: []) X.env = (false, eval e X.env) :: starEach [] X.env := hs
  refine ⟨_, pi_range1 hg hm (pa_cons h1 pa_nil hs') hs, fun w m H e σ Rr s q p => s1 w m H e σ _ s q (PostE.bindI p fun x m1 w1 H1 v l z r p1 => ?_)⟩
  cases x with
  | int n =>
    dsimp only at p1
    split at p1
    · rename_i hn
      have hn1 := hn.1
      have hn2 := hn.2
      exact ⟨n, by rw [show v = .int n from r], by omega, by omega, p1 w1 H1 _ (.refl _) z jr_r⟩
    · exact p1.elim
  | _ => exact p1.elim

/-! ### for -/
def forL (mg : MG) (ms : MS) : List MV → Env → Mo → R MF
  | [], e, m => .ok (.next e) m
  | x :: xs, e, m => (mg x e m).bind fun e1 m1 => (ms e1 m1).bind fun f m2 => match f with
    | .next e2 => forL mg ms xs e2 m2
    | .cont e2 => forL mg ms xs e2 m2
    | .brk e2 => .ok (.next e2) m2
    | .ret v => .ok (.ret v) m2
def mFor (mi : MI) (mg : MG) (ms : MS) : MS := fun e m => (mi e m).bind fun xs m1 => forL mg ms xs e m1
theorem pms_for (hp : PassesOwn (model X.prog X.w) X.A X.env X.xe) (hc : X.calm = true) {mi : MI} (hi : PMI X W tg iter mi) (hg : PMG X W tg mg) (hb : PMSs X W body ms) (hs : ∀ x, foldedSetIterable iter X.env x = pure x := by intro _; rfl) :
    PMS X W (.For tg iter body [] pos) (mFor mi mg ms) := by
  obtain ⟨wi, h1, s1⟩ := hi
  obtain ⟨g, h2, s2⟩ := hg
  obtain ⟨t, h3, s3⟩ := hb
  refine ⟨_, ps_for hp hc h1 h2 h3 hs, fun w m H e σ D s q p => s1 w m H e σ _ s q ?_⟩
  unfold mFor at p
  cases hr : mi e m with
  | stuck => rw [hr] at p; exact p
  | exc y m1 => rw [hr] at p; exact fun w' H' c d l z x => p w' H' c d σ l z x
  | ok xs m1 =>
    rw [hr] at p
    intro w1 H1 J l1 z1 jr
    have p1 : PostS X.K W D w1 (forL mg ms xs e m1) := PostS.mono l1 p
    refine ⟨fun i k σ' H' => ∃ w' m' e', w1.Le w' ∧ RS X.K w' m' H' ∧ SR X.K w' e' σ' ∧ k = xs.length - i ∧ i ≤ xs.length ∧ PostS X.K W D w' (forL mg ms (xs.drop i) e' m'),
      ⟨_, w1, m1, e, .refl _, z1, q.mono l1, rfl, Nat.zero_le _, p1⟩, ?_⟩
    rintro i k σ' H' ⟨w', m', e', l', z', y', rfl, hi, p'⟩
    obtain ⟨jg, js⟩ := jr i w' m' H' l'.lf z'
    by_cases hlt : i < xs.length
    · have hx : xs[i]? = some xs[i] := by simp [hlt]
      obtain ⟨go, yl⟩ := jg _ hx
      have hd : xs.drop i = xs[i] :: xs.drop (i + 1) := List.drop_eq_getElem_cons hlt
      rw [hd] at p'
      refine .inr ⟨go, fun σ2 H2 => ∃ w2 m2 e2, w1.Le w2 ∧ RS X.K w2 m2 H2 ∧ SR X.K w2 e2 σ2 ∧ PostS X.K W D w2 (forL mg ms (xs.drop (i + 1)) e2 m2), fun σ2 H2 ⟨w2, m2, e2, a, b, c, d⟩ => ⟨xs.length - (i + 1), by omega, w2, m2, e2, a, b, c, rfl, hlt, d⟩, fun v H3 hy => ?_⟩
      obtain ⟨w3, l3, z3, r3⟩ := yl v H3 hy
      have p3 : PostS X.K W D w3 ((mg xs[i] e' m').bind fun e1 m1 => (ms e1 m1).bind fun f m2 => match f with
        | .next e2 => forL mg ms (xs.drop (i + 1)) e2 m2
        | .cont e2 => forL mg ms (xs.drop (i + 1)) e2 m2
        | .brk e2 => .ok (.next e2) m2
        | .ret v => .ok (.ret v) m2) := PostS.mono l3 p'
      refine s2 w3 m' H3 e' σ' xs[i] v _ z3 (y'.mono l3) r3 (PostG.bindS p3 fun e4 m4 w4 H4 σ4 l4 z4 y4 p4 => ?_)
      refine s3 w4 m4 H4 e4 σ4 _ z4 y4 ?_
      have lw : w1.Le w4 := (l'.trans l3).trans l4
      cases hb : ms e4 m4 with
      | stuck => rw [hb] at p4; exact p4
      | exc y m5 => rw [hb] at p4; exact p4
      | ok f m5 =>
        rw [hb] at p4
        cases f with
        | next e5 => exact fun w5 H5 σ5 l5 z5 y5 => ⟨w5, m5, e5, lw.trans l5, z5, y5, PostS.mono l5 p4⟩
        | cont e5 => exact fun w5 H5 σ5 l5 z5 y5 => ⟨w5, m5, e5, lw.trans l5, z5, y5, PostS.mono l5 p4⟩
        | brk e5 => exact p4
        | ret v5 => exact p4
    · have hd : xs.drop i = [] := List.drop_eq_nil_of_le (by omega)
      rw [hd] at p'
      exact .inl ⟨js (by omega), p' w' H' σ' (.refl _) z' y'⟩
end
end ML
set_option Elab.async false
set_option linter.all false
set_option maxRecDepth 100000
set_option maxHeartbeats 2000000
namespace ML
open PySem PySem.Spec PyProof.Rows L2

abbrev W0 : WX := fun _ _ _ _ => False
def R.nox {α : Type} : R α → R α
  | .exc _ _ => .stuck
  | r => r
@[simp] theorem R.nox_ok {α : Type} (a : α) (m : Mo) : (R.ok a m).nox = .ok a m := rfl
@[simp] theorem R.nox_stuck {α : Type} : (R.stuck : R α).nox = .stuck := rfl
def mwipe (e : Env) : List Nat → Env
  | [] => e
  | v :: vs => (mwipe e vs).set v none
theorem mwipe_length (e : Env) : ∀ vs : List Nat, (mwipe e vs).length = e.length
  | [] => rfl
  | v :: vs => by unfold mwipe; rw [List.length_set, mwipe_length e vs]
theorem mwipe_some {e : Env} {i : Nat} {x : MV} : ∀ {vs : List Nat}, (mwipe e vs)[i]? = some (some x) → e[i]? = some (some x) ∧ i ∉ vs
  | [], h => ⟨h, by simp⟩
  | v :: vs, h => by
    unfold mwipe at h
    by_cases hi : v = i
    · subst hi
      by_cases hv : v < (mwipe e vs).length
      · rw [List.getElem?_set_self hv] at h; cases h
      · rw [List.getElem?_eq_none (by simpa using hv)] at h; cases h
    · rw [List.getElem?_set_ne hi] at h
      obtain ⟨h1, h2⟩ := mwipe_some h
      exact ⟨h1, by simp only [List.mem_cons, not_or]; exact ⟨fun e => hi e.symm, h2⟩⟩
theorem SR.monoF {K : PySem.W.Frag} {w w' : Wd} {e : Env} {σ : St} (s : SR K w e σ) (h : w.Lf w') : SR K w' e σ := ⟨s.1, fun i x q => by
  obtain ⟨v, a, b⟩ := s.2 i x q
  exact ⟨v, a, b.monoF h x v⟩⟩
theorem SR.wipe {K : PySem.W.Frag} {w : Wd} {e : Env} {σ : St} (s : SR K w e σ) (vs : List Nat) : SR K w (mwipe e vs) (L2.wipe σ vs) := ⟨by rw [mwipe_length, wipe_length, s.1], fun i x q => by
  obtain ⟨h1, h2⟩ := mwipe_some q
  obtain ⟨v, a, b⟩ := s.2 i x h1
  exact ⟨v, by rw [wipe_out h2]; exact a, b⟩⟩
theorem wipe_set_in {σ : St} {j : Nat} {y : Option V} : ∀ {vs : List Nat}, j ∈ vs → L2.wipe (σ.set j y) vs = L2.wipe σ vs := by
  have out : ∀ {vs : List Nat}, j ∉ vs → L2.wipe (σ.set j y) vs = (L2.wipe σ vs).set j y := by
    intro vs
    induction vs with
    | nil => intro _; rfl
    | cons v vs ih =>
      intro h
      simp only [List.mem_cons, not_or] at h
      show (L2.wipe (σ.set j y) vs).set v none = ((L2.wipe σ vs).set v none).set j y
      rw [ih h.2, List.set_comm _ _ h.1]
  intro vs
  induction vs with
  | nil => intro h; cases h
  | cons v vs ih =>
    intro h
    show (L2.wipe (σ.set j y) vs).set v none = (L2.wipe σ vs).set v none
    by_cases q : j ∈ vs
    · rw [ih q]
    · rw [out q]
      have : j = v := by
        rcases List.mem_cons.mp h with z | z
        · exact z
        · exact absurd z q
      rw [this, List.set_set]
theorem wipe_wipe {σ : St} : ∀ {vs us : List Nat}, (∀ v ∈ vs, v ∈ us) → L2.wipe (L2.wipe σ vs) us = L2.wipe σ us
  | [], _, _ => rfl
  | v :: vs, us, h => by
    show L2.wipe ((L2.wipe σ vs).set v none) us = L2.wipe σ us
    rw [wipe_set_in (h v List.mem_cons_self), wipe_wipe fun x hx => h x (List.mem_cons_of_mem _ hx)]
/-- the target leaves all but the block's own names -/
def Keeps (g : TG) (vs : List Nat) : Prop := ∀ (x : V) (σ : St) (H : Hp) (Q : St → Hp → Prop), g x σ H Q → g x σ H fun σ2 H2 => L2.wipe σ2 vs = L2.wipe σ vs ∧ Q σ2 H2
theorem keeps_name {j : Nat} {vs : List Nat} (h : j ∈ vs) : Keeps (gName j) vs := fun x σ H Q q => ⟨wipe_set_in h, q⟩

section
variable {K : PySem.W.Frag} {w : Wd} {m : Mo} {H : Hp} {D : Addr} {o o' : HO}
theorem upd2_G {G : Hp} : upd (upd G D o) D o' = upd G D o' := upd_upd
theorem RS.asidePut (s : RS K { w with G := upd w.G D o } m H) : RS K { w with G := upd w.G D o' } m (upd H D o') := by
  have hD : H D = some o ∧ w.F D = none := s.gd D o upd_same
  refine ⟨fun a u e => ?_, fun a u e => ?_, s.len, fun i c e l => ?_, s.inj⟩
  · have ne : a ≠ D := fun z => by
      have e' : w.F a = some u := e
      rw [z, hD.2] at e'
      cases e'
    rw [upd_ne ne]
    exact s.fz a u e
  · have e' : upd w.G D o' a = some u := e
    by_cases z : a = D
    · subst z
      rw [upd_same] at e' ⊢
      exact ⟨e', hD.2⟩
    · rw [upd_ne z] at e' ⊢
      exact s.gd a u (by show upd w.G D o a = some u; rw [upd_ne z]; exact e')
  · obtain ⟨a, h1, h2, h3, h4, h5, ob, h6⟩ := s.cel i c e l
    have h3' : upd w.G D o a = none := h3
    have z : a ≠ D := fun z => by
      rw [z, upd_same] at h3'
      cases h3'
    rw [upd_ne z] at h3'
    exact ⟨a, h1, h2, by show upd w.G D o' a = none; rw [upd_ne z]; exact h3', by rw [upd_ne z]; exact CellR.monoF (w := { w with G := upd w.G D o }) (w' := { w with G := upd w.G D o' }) ⟨HLe.refl _, ⟨[], by simp⟩⟩ h4, h5, ob, by rw [upd_ne z]; exact h6⟩
theorem RS.asideF (s : RS K { w with G := upd w.G D o } m H) (hG : w.G D = none) : RS K { w with F := upd w.F D o } m H ∧ w.Le { w with F := upd w.F D o } := by
  have hD : H D = some o ∧ w.F D = none := s.gd D o upd_same
  have hl := Wd.Le.newF (o := o) hD.2
  refine ⟨⟨fun a u e => ?_, fun a u e => ?_, s.len, fun i c e l => ?_, s.inj⟩, hl⟩
  · have e' : upd w.F D o a = some u := e
    by_cases z : a = D
    · rw [z, upd_same] at e'
      rw [z, hD.1]; exact e'
    · rw [upd_ne z] at e'
      exact s.fz a u e'
  · have e' : w.G a = some u := e
    have z : a ≠ D := fun z => by
      rw [z, hG] at e'
      cases e'
    obtain ⟨g1, g2⟩ := s.gd a u (by show upd w.G D o a = some u; rw [upd_ne z]; exact e')
    exact ⟨g1, by show upd w.F D o a = none; rw [upd_ne z]; exact g2⟩
  · obtain ⟨a, h1, h2, h3, h4, h5, h6⟩ := s.cel i c e l
    have h3' : upd w.G D o a = none := h3
    have z : a ≠ D := fun z => by
      rw [z, upd_same] at h3'
      cases h3'
    rw [upd_ne z] at h3'
    exact ⟨a, h1, by show upd w.F D o a = none; rw [upd_ne z]; exact h2, h3', CellR.monoF (w := { w with G := upd w.G D o }) (w' := { w with F := upd w.F D o }) ⟨hl.f, hl.i⟩ h4, h5, h6⟩
theorem RS.asideC {c : MCell} (s : RS K { w with G := upd w.G D o } m H) (hG : w.G D = none) (hc : CellR K w c (some o)) (hb : c.below m.length = true) : RS K { w with ι := w.ι ++ [D] } (m ++ [c]) H ∧ w.Le { w with ι := w.ι ++ [D] } := by
  have hD : H D = some o ∧ w.F D = none := s.gd D o upd_same
  have hl : w.Le { w with ι := w.ι ++ [D] } := Wd.Le.newI
  have len : w.ι.length = m.length := s.len
  have notD : ∀ (i : Nat) c' a, m[i]? = some c' → c' ≠ MCell.dead → w.ι[i]? = some a → a ≠ D ∧ w.G a = none := fun i c' a e l q => by
    obtain ⟨a', h1, _, h3, _⟩ := s.cel i c' e l
    have h1' : w.ι[i]? = some a' := h1
    rw [q] at h1'
    cases h1'
    have h3' : upd w.G D o a = none := h3
    have z : a ≠ D := fun z => by
      rw [z, upd_same] at h3'
      cases h3'
    rw [upd_ne z] at h3'
    exact ⟨z, h3'⟩
  have old : ∀ (i : Nat) c' a, m[i]? = some c' → (w.ι ++ [D])[i]? = some a → w.ι[i]? = some a := fun i c' a e q => by
    have : i < w.ι.length := by rw [len]; exact (List.getElem?_eq_some_iff.mp e).1
    rw [List.getElem?_append_left this] at q
    exact q
  have last : ∀ (i : Nat) b, i = m.length → (w.ι ++ [D])[i]? = some b → b = D := fun i b ei q => by
    rw [ei, ← len] at q
    simpa using q.symm
  refine ⟨⟨s.fz, fun a u e => ?_, by simp [len], fun i c' e l => ?_, fun i j a ci cj e1 l1 e2 l2 q1 q2 => ?_⟩, hl⟩
  · have e' : w.G a = some u := e
    have z : a ≠ D := fun z => by
      rw [z, hG] at e'
      cases e'
    exact s.gd a u (by show upd w.G D o a = some u; rw [upd_ne z]; exact e')
  · rcases snoc_get e with e | ⟨rfl, rfl⟩
    · obtain ⟨a, h1, h2, h3, h4, h5, h6⟩ := s.cel i c' e l
      exact ⟨a, hl.at_ h1, h2, (notD i c' a e l h1).2, CellR.monoF (w := { w with G := upd w.G D o }) (w' := { w with ι := w.ι ++ [D] }) ⟨hl.f, hl.i⟩ h4, h5, h6⟩
    · exact ⟨D, by show (w.ι ++ [D])[m.length]? = some D; rw [← len]; simp, hD.2, hG, by rw [hD.1]; exact hc.mono hl, hb, o, hD.1⟩
  · rcases snoc_get e1 with f1 | ⟨f1, _⟩
    · rcases snoc_get e2 with f2 | ⟨f2, _⟩
      · exact s.inj i j a ci cj f1 l1 f2 l2 (old i ci a f1 q1) (old j cj a f2 q2)
      · exact ((notD i ci a f1 l1 (old i ci a f1 q1)).1 (last j a f2 q2)).elim
    · rcases snoc_get e2 with f2 | ⟨f2, _⟩
      · exact ((notD j cj a f2 l2 (old j cj a f2 q2)).1 (last i a f1 q1)).elim
      · rw [f1, f2]
end

/-! ### list comprehensions -/
def compL (mg : MG) (mt : MT) (me : ME) (e0 : Env) : List MV → Mo → R (List MV)
  | [], m => .ok [] m
  | x :: xs, m => (mg x e0 m).bind fun e1 m1 => (mt e1 m1).bind fun b m2 => if b = true then (me e1 m2).bind fun y m3 => (compL mg mt me e0 xs m3).bind fun ys m4 => .ok (y :: ys) m4 else compL mg mt me e0 xs m2
/-- the loop, then what is made of the list's items -/
def PostD (Q : VK) (K : PySem.W.Frag) (D : Addr) (w : Wd) (acc : List MV) : R (List MV) → Prop
  | .ok ys m' => ∀ w' H' vs, w.Le w' → RS K { w' with G := upd w'.G D (.lst vs) } m' H' → RMs K w' (acc ++ ys) vs → Q (.ref D) H'
  | _ => False
theorem lc_loop {K : PySem.W.Frag} {g : TG} {tt : TT} {te : TE} {mg : MG} {mt : MT} {me : ME} {vs : List Nat} {J : It} {Q : VK} {w1 : Wd} {m1 : Mo} {H1 : Hp} {e : Env} {σ : St} {xs : List MV}
    (hg : SimG K W0 g mg) (hk : Keeps g vs) (ht : SimT K W0 tt mt) (he : SimE K W0 te me) (jr : JR K J xs w1) (z1 : RS K w1 m1 H1) (q : SR K w1 e σ) (hz : xs.length ≤ 16777216)
    (p : ∀ D, H1 D = none → PostD Q K D w1 [] (compL mg mt me (mwipe e vs) xs m1).nox) (D : Addr) (hD : H1 D = none) :
    ∃ W : Nat → Nat → Hp → Prop, (∃ m, W 0 m (upd H1 D (.lst []))) ∧ ∀ i m H, W i m H → (J.stop i H ∧ Q (.ref D) H) ∨ (J.go i H ∧ ∃ Nx : Hp → Prop, (∀ H', Nx H' → ∃ m', m' < m ∧ W (i + 1) m' H') ∧
      ∀ x H', J.yld i H x H' → g x (L2.wipe σ vs) H' fun σ2 H2 => L2.wipe σ2 vs = L2.wipe σ vs ∧ tt σ2 H2 fun b H3 =>
        if b = true then te σ2 H3 fun y H4 => ∃ acc, H4 D = some (.lst acc) ∧ acc.length < sizeLine ∧ Nx (upd H4 D (.lst (acc ++ [y]))) else Nx H3) := by
  have hG1 : w1.G D = none := by
    cases g : w1.G D with
    | none => rfl
    | some u =>
      rw [(z1.gd D u g).1] at hD
      cases hD
  have start : RS K { w1 with G := upd w1.G D (.lst []) } m1 (upd H1 D (.lst [])) := z1.aside hD
  let Inv := fun (i : Nat) (H : Hp) => ∃ w' m' acc vacc, w1.Le w' ∧ RS K { w' with G := upd w'.G D (.lst vacc) } m' H ∧ RMs K w' acc vacc ∧ acc.length ≤ i ∧ PostD Q K D w' acc (compL mg mt me (mwipe e vs) (xs.drop i) m').nox
  refine ⟨fun i k H => k = xs.length - i ∧ i ≤ xs.length ∧ Inv i H, ⟨_, rfl, Nat.zero_le _, w1, m1, [], [], .refl _, start, rfl, Nat.zero_le _, p D hD⟩, ?_⟩
  rintro i k H ⟨rfl, hi, w', m', acc, vacc, l', z', ra, hal, p'⟩
  have hG' : w'.G D = none := by rw [l'.g]; exact hG1
  by_cases hlt : i < xs.length
  · have hx : xs[i]? = some xs[i] := by simp [hlt]
    have hd : xs.drop i = xs[i] :: xs.drop (i + 1) := List.drop_eq_getElem_cons hlt
    rw [hd] at p'
    have la : w1.Lf { w' with G := upd w'.G D (.lst vacc) } := ⟨l'.f, l'.i⟩
    obtain ⟨go, yl⟩ := (jr i { w' with G := upd w'.G D (.lst vacc) } m' H la z').1 _ hx
    refine .inr ⟨go, fun H' => Inv (i + 1) H', fun H' h' => ⟨xs.length - (i + 1), by omega, rfl, hlt, h'⟩, fun v H2 hy => ?_⟩
    obtain ⟨w2, l2, z2, r2⟩ := yl v H2 hy
    have q2 : SR K w2 (mwipe e vs) (L2.wipe σ vs) := ((q.wipe vs).monoF la).mono l2
    have hw : L2.wipe (L2.wipe σ vs) vs = L2.wipe σ vs := wipe_wipe fun _ h => h
    -- what the rest of the turn gives
    have fin : ∀ {w3 : Wd} {m3 : Mo} {H3 : Hp}, w2.Le w3 → RS K w3 m3 H3 → PostD Q K D w' acc (compL mg mt me (mwipe e vs) (xs.drop (i + 1)) m3).nox → Inv (i + 1) H3 := fun {w3 m3 H3} l3 z3 p3 => by
      have g3 : w3.G = upd w'.G D (.lst vacc) := l3.g.trans l2.g
      have l4 : w'.Le { w3 with G := w'.G } := ⟨l2.f.trans l3.f, by
        obtain ⟨t, e1⟩ := l2.i
        obtain ⟨t', e2⟩ := l3.i
        exact ⟨t ++ t', by show w3.ι = w'.ι ++ (t ++ t'); rw [e2, e1, List.append_assoc]⟩, rfl⟩
      refine ⟨{ w3 with G := w'.G }, m3, acc, vacc, l'.trans l4, ?_, RMs.mono l4 _ _ ra, by omega, ?_⟩
      · show RS K { w3 with G := upd w'.G D (.lst vacc) } m3 H3
        rw [← g3]
        exact z3
      · cases hc : (compL mg mt me (mwipe e vs) (xs.drop (i + 1)) m3).nox with
        | ok ys m4 => rw [hc] at p3; exact fun w5 H5 us l5 => p3 w5 H5 us (l4.trans l5)
        | exc y m4 => rw [hc] at p3; exact p3
        | stuck => rw [hc] at p3; exact p3
    have fin2 : ∀ {w3 : Wd} {m3 : Mo} {H3 : Hp} {y : MV} {u : V}, w2.Le w3 → RS K w3 m3 H3 → RM K w3 y u → PostD Q K D w' acc ((compL mg mt me (mwipe e vs) (xs.drop (i + 1)) m3).bind fun ys m4 => .ok (y :: ys) m4).nox → ∃ ac, H3 D = some (.lst ac) ∧ ac.length < sizeLine ∧ Inv (i + 1) (upd H3 D (.lst (ac ++ [u]))) := fun {w3 m3 H3 y u} l3 z3 ry p3 => by
      have g3 : w3.G = upd w'.G D (.lst vacc) := l3.g.trans l2.g
      have l4 : w'.Le { w3 with G := w'.G } := ⟨l2.f.trans l3.f, by
        obtain ⟨t, e1⟩ := l2.i
        obtain ⟨t', e2⟩ := l3.i
        exact ⟨t ++ t', by show w3.ι = w'.ι ++ (t ++ t'); rw [e2, e1, List.append_assoc]⟩, rfl⟩
      have hD3 : H3 D = some (.lst vacc) := (z3.gd D _ (by rw [g3]; exact upd_same)).1
      have hacc := ra.length
      refine ⟨vacc, hD3, by rw [hacc, sizeLine_eq]; omega, { w3 with G := w'.G }, m3, acc ++ [y], vacc ++ [u], l'.trans l4, ?_, (RMs.mono l4 _ _ ra).append ⟨u, [], rfl, RM.monoF (w := w3) (w' := { w3 with G := w'.G }) ⟨HLe.refl _, ⟨[], by simp⟩⟩ _ _ ry, rfl⟩, by simp; omega, ?_⟩
      · show RS K { w3 with G := upd w'.G D (.lst (vacc ++ [u])) } m3 (upd H3 D (.lst (vacc ++ [u])))
        refine RS.asidePut (w := { w3 with G := w'.G }) (o := .lst vacc) ?_
        show RS K { w3 with G := upd w'.G D (.lst vacc) } m3 H3
        rw [← g3]
        exact z3
      · cases hc : compL mg mt me (mwipe e vs) (xs.drop (i + 1)) m3 with
        | ok ys m4 =>
          rw [hc] at p3
          refine fun w5 H5 us l5 s5 r5 => p3 w5 H5 us (l4.trans l5) s5 ?_
          rw [List.append_assoc] at r5
          exact r5
        | exc y m4 => rw [hc] at p3; exact p3
        | stuck => rw [hc] at p3; exact p3
    have p2 : PostD Q K D w' acc ((mg xs[i] (mwipe e vs) m').bind fun e1 m1 => (mt e1 m1).bind fun b m2 => if b = true then (me e1 m2).bind fun y m3 => (compL mg mt me (mwipe e vs) (xs.drop (i + 1)) m3).bind fun ys m4 => .ok (y :: ys) m4 else compL mg mt me (mwipe e vs) (xs.drop (i + 1)) m2).nox := p'
    refine cast (by rw [hw]) (hk v (L2.wipe σ vs) H2 (fun σ2 H3 => tt σ2 H3 fun b H4 => if b = true then te σ2 H4 fun y H5 => ∃ ac, H5 D = some (.lst ac) ∧ ac.length < sizeLine ∧ Inv (i + 1) (upd H5 D (.lst (ac ++ [y]))) else Inv (i + 1) H4) ?_)
    refine hg w2 m' H2 (mwipe e vs) (L2.wipe σ vs) xs[i] v _ z2 q2 r2 ?_
    cases h1 : mg xs[i] (mwipe e vs) m' with
    | stuck => rw [h1] at p2; exact p2
    | exc y m3 => rw [h1] at p2; exact p2.elim
    | ok e1 m3 =>
      rw [h1] at p2
      intro w3 H3 σ3 l3 z3 q3
      refine ht w3 m3 H3 e1 σ3 _ z3 q3 ?_
      have p3 : PostD Q K D w' acc ((mt e1 m3).bind fun b m2 => if b = true then (me e1 m2).bind fun y m3 => (compL mg mt me (mwipe e vs) (xs.drop (i + 1)) m3).bind fun ys m4 => .ok (y :: ys) m4 else compL mg mt me (mwipe e vs) (xs.drop (i + 1)) m2).nox := p2
      cases h2 : mt e1 m3 with
      | stuck => rw [h2] at p3; exact p3
      | exc y m4 => rw [h2] at p3; exact p3.elim
      | ok b m4 =>
        rw [h2] at p3
        intro w4 H4 l4 z4
        cases b with
        | false => exact fin (l3.trans l4) z4 p3
        | true =>
          have p4 : PostD Q K D w' acc ((me e1 m4).bind fun y m3 => (compL mg mt me (mwipe e vs) (xs.drop (i + 1)) m3).bind fun ys m4 => .ok (y :: ys) m4).nox := p3
          show te σ3 H4 _
          refine he w4 m4 H4 e1 σ3 _ z4 (q3.mono l4) ?_
          cases h3 : me e1 m4 with
          | stuck => rw [h3] at p4; exact p4
          | exc y m5 => rw [h3] at p4; exact p4.elim
          | ok y m5 =>
            rw [h3] at p4
            intro w5 H5 u l5 z5 r5
            exact fin2 ((l3.trans l4).trans l5) z5 r5 p4
  · have hd : xs.drop i = [] := List.drop_eq_nil_of_le (by omega)
    rw [hd] at p'
    have la : w1.Lf { w' with G := upd w'.G D (.lst vacc) } := ⟨l'.f, l'.i⟩
    refine .inl ⟨(jr i { w' with G := upd w'.G D (.lst vacc) } m' H la z').2 (by omega), ?_⟩
    exact p' w' H vacc (.refl _) z' (by rw [List.append_nil]; exact ra)
def mLc (mi : MI) (mg : MG) (mt : MT) (me : ME) (vs : List Nat) : ME := fun e m => (mi e m).bind fun xs m1 => if xs.length ≤ 16777216 then ((compL mg mt me (mwipe e vs) xs m1).nox).bind fun ys m2 => .ok (.lst ys) m2 else .stuck
def mLcC (mi : MI) (mg : MG) (mt : MT) (me : ME) (vs : List Nat) : ME := fun e m => (mi e m).bind fun xs m1 => if xs.length ≤ 16777216 then ((compL mg mt me (mwipe e vs) xs m1).nox).bind fun ys m2 => if belows m2.length ys = true then .ok (.ref m2.length) (m2 ++ [.lst ys]) else .stuck else .stuck
section
variable {K : PySem.W.Frag} {W : WX} {wi : TI} {g : TG} {tt : TT} {te : TE} {mi : MI} {mg : MG} {mt : MT} {me : ME} {vs : List Nat}
theorem sim_lc (hi : SimI K W wi mi) (hg : SimG K W0 g mg) (hk : Keeps g vs) (ht : SimT K W0 tt mt) (he : SimE K W0 te me) : SimE K W (tLc wi g tt te vs) (mLc mi mg mt me vs) := by
  intro w m H e σ Q s q p
  refine hi w m H e σ _ s q ?_
  unfold mLc at p
  cases hr : mi e m with
  | stuck => rw [hr] at p; exact p
  | exc y m1 => rw [hr] at p; exact p
  | ok xs m1 =>
    rw [hr] at p
    intro w1 H1 J l1 z1 jr
    have p1 : PostE K W σ Q w1 (if xs.length ≤ 16777216 then ((compL mg mt me (mwipe e vs) xs m1).nox).bind fun ys m2 => .ok (.lst ys) m2 else .stuck) := PostE.mono l1 p
    split at p1
    · rename_i hz
      intro D hD
      refine lc_loop hg hk ht he jr z1 (q.mono l1) hz (fun D hD => ?_) D hD
      have hG1 : w1.G D = none := by
        cases g : w1.G D with
        | none => rfl
        | some u =>
          rw [(z1.gd D u g).1] at hD
          cases hD
      cases hc : (compL mg mt me (mwipe e vs) xs m1).nox with
      | stuck => rw [hc] at p1; exact p1
      | exc y m2 =>
        cases hc2 : compL mg mt me (mwipe e vs) xs m1 <;> rw [hc2] at hc <;> cases hc
      | ok ys m2 =>
        rw [hc] at p1
        intro w2 H2 us l2 s2 r2
        obtain ⟨z3, l3⟩ := s2.asideF (by rw [l2.g]; exact hG1)
        exact p1 _ _ _ (l2.trans l3) z3 ⟨D, us, rfl, upd_same, RMs.mono l3 _ _ r2⟩
    · exact p1.elim
theorem sim_lcC (hi : SimI K W wi mi) (hg : SimG K W0 g mg) (hk : Keeps g vs) (ht : SimT K W0 tt mt) (he : SimE K W0 te me) : SimE K W (tLc wi g tt te vs) (mLcC mi mg mt me vs) := by
  intro w m H e σ Q s q p
  refine hi w m H e σ _ s q ?_
  unfold mLcC at p
  cases hr : mi e m with
  | stuck => rw [hr] at p; exact p
  | exc y m1 => rw [hr] at p; exact p
  | ok xs m1 =>
    rw [hr] at p
    intro w1 H1 J l1 z1 jr
    have p1 : PostE K W σ Q w1 (if xs.length ≤ 16777216 then ((compL mg mt me (mwipe e vs) xs m1).nox).bind fun ys m2 => if belows m2.length ys = true then .ok (.ref m2.length) (m2 ++ [.lst ys]) else .stuck else .stuck) := PostE.mono l1 p
    split at p1
    · rename_i hz
      intro D hD
      refine lc_loop hg hk ht he jr z1 (q.mono l1) hz (fun D hD => ?_) D hD
      have hG1 : w1.G D = none := by
        cases g : w1.G D with
        | none => rfl
        | some u =>
          rw [(z1.gd D u g).1] at hD
          cases hD
      cases hc : (compL mg mt me (mwipe e vs) xs m1).nox with
      | stuck => rw [hc] at p1; exact p1
      | exc y m2 =>
        cases hc2 : compL mg mt me (mwipe e vs) xs m1 <;> rw [hc2] at hc <;> cases hc
      | ok ys m2 =>
        rw [hc, R.bind_ok] at p1
        split at p1
        · rename_i hb
          intro w2 H2 us l2 s2 r2
          obtain ⟨z3, l3⟩ := s2.asideC (c := .lst ys) (by rw [l2.g]; exact hG1) ⟨us, rfl, r2⟩ hb
          exact p1 _ _ _ (l2.trans l3) z3 ⟨D, rfl, by show (w2.ι ++ [D])[m2.length]? = some D; rw [← s2.len]; simp⟩
        · exact p1.elim
    · exact p1.elim
end
/-- the context of a comprehension's block -/
abbrev Blk (X : Cx) (scope : Scope) (s : Shared) (H : Hp) (C : Addr) (cl : List (Str × Addr)) (fp : List Addr) : Cx := X.blk s H scope (compEnvC scope cl C X.env) fp
def mYes : MT := fun _ m => .ok true m
section
variable {X : Cx} {W : WX} {elt tg iter : Expr} {ifs : List Expr} {scope : Scope} {own : List (Str × Nat)} {pos : Pos} {mi : MI} {mt : MT} {me : ME} {j : Nat}
/-- the tests of a clause -/
def PMTs (X : Cx) (W : WX) (ifs : List Expr) (mt : MT) : Prop := PTs X ifs (tUT X.K W mt)
theorem pmts_nil : PMTs X W [] mYes := ⟨fun pins s σ H Q I ⟨w, m, e, a, b, c⟩ => pts_nil.run pins s σ H Q I (c w H (.refl w) a)⟩
theorem pmts_one {c : Expr} (h : PMT X W c mt) : PMTs X W [c] mt := pts_one h.pt
theorem pm_lc (hc : X.calm = true) (hN : X.N.Nodup) (hi : PMI X W tg iter mi) (ok : BlkOk X.N X.env.scope scope own) (hj : j ∈ own.map (·.2))
    (hg : ∀ s H C cl fp, PG (Blk X scope s H C cl fp) tg (gName j)) (ht : ∀ s H C cl fp, PMTs (Blk X scope s H C cl fp) W0 ifs mt) (he : ∀ s H C cl fp, PM (Blk X scope s H C cl fp) W0 elt me)
    (hs : ∀ x, foldedSetIterable iter X.env x = pure x := by intro _; rfl) : PM X W (.ListComp elt [⟨tg, iter, ifs, 0⟩] scope pos) (mLc mi (gSet j) mt me (own.map (·.2))) := by
  obtain ⟨wi, h1, s1⟩ := hi
  exact ⟨_, pe_lc (g := gName j) (tt := tUT X.K W0 mt) (te := tU X.K W0 me) hc hN h1 ok hg ht (fun s H C cl fp => (he s H C cl fp).pe) hs, sim_lc s1 simG_name (keeps_name hj) tUT.sim tU.sim⟩
theorem pm_lcC (hc : X.calm = true) (hN : X.N.Nodup) (hi : PMI X W tg iter mi) (ok : BlkOk X.N X.env.scope scope own) (hj : j ∈ own.map (·.2))
    (hg : ∀ s H C cl fp, PG (Blk X scope s H C cl fp) tg (gName j)) (ht : ∀ s H C cl fp, PMTs (Blk X scope s H C cl fp) W0 ifs mt) (he : ∀ s H C cl fp, PM (Blk X scope s H C cl fp) W0 elt me)
    (hs : ∀ x, foldedSetIterable iter X.env x = pure x := by intro _; rfl) : PM X W (.ListComp elt [⟨tg, iter, ifs, 0⟩] scope pos) (mLcC mi (gSet j) mt me (own.map (·.2))) := by
  obtain ⟨wi, h1, s1⟩ := hi
  exact ⟨_, pe_lc (g := gName j) (tt := tUT X.K W0 mt) (te := tU X.K W0 me) hc hN h1 ok hg ht (fun s H C cl fp => (he s H C cl fp).pe) hs, sim_lcC s1 simG_name (keeps_name hj) tUT.sim tU.sim⟩
theorem sim_asg {K : PySem.W.Frag} {te : TE} {me : ME} {i : Nat} (h : SimE K W te me) : SimS K W (tAsg te (gName i)) (mSet i me) := fun w m H e σ D s q p => h w m H e σ _ s q (PostE.bindS p fun x m1 w1 H1 v l z r p1 => p1 w1 H1 _ (.refl _) z ((q.mono l).set i r))
variable {y : Str} {py spos : Pos} {i : Nat}
theorem pms_setLc (hc : X.calm = true) (hN : X.N.Nodup) (hy : X.N[i]? = some y) (hyl : X.env.scope.names.lookup y = some .local) (hsw : swapsWith (.ListComp elt [⟨tg, iter, ifs, 0⟩] scope pos) (some (.Name y py)) spos.line X.env = pure true)
    (hi : PMI X W tg iter mi) (ok : BlkOk X.N X.env.scope scope own) (hj : j ∈ own.map (·.2))
    (hg : ∀ s H C cl fp, PG (Blk X scope s H C cl fp) tg (gName j)) (ht : ∀ s H C cl fp, PMTs (Blk X scope s H C cl fp) W0 ifs mt) (he : ∀ s H C cl fp, PM (Blk X scope s H C cl fp) W0 elt me)
    (hs : ∀ x, foldedSetIterable iter X.env x = pure x := by intro _; rfl) : PMS X W (.Assign [.Name y py] (.ListComp elt [⟨tg, iter, ifs, 0⟩] scope pos) spos) (mSet i (mLc mi (gSet j) mt me (own.map (·.2)))) := by
  obtain ⟨wi, h1, s1⟩ := hi
  exact ⟨_, ps_setLc (g := gName j) (tt := tUT X.K W0 mt) (te := tU X.K W0 me) hc hN hy hyl hsw h1 ok hg ht (fun s H C cl fp => (he s H C cl fp).pe) hs, sim_asg (sim_lc s1 simG_name (keeps_name hj) tUT.sim tU.sim)⟩
theorem pms_setLcC (hc : X.calm = true) (hN : X.N.Nodup) (hy : X.N[i]? = some y) (hyl : X.env.scope.names.lookup y = some .local) (hsw : swapsWith (.ListComp elt [⟨tg, iter, ifs, 0⟩] scope pos) (some (.Name y py)) spos.line X.env = pure true)
    (hi : PMI X W tg iter mi) (ok : BlkOk X.N X.env.scope scope own) (hj : j ∈ own.map (·.2))
    (hg : ∀ s H C cl fp, PG (Blk X scope s H C cl fp) tg (gName j)) (ht : ∀ s H C cl fp, PMTs (Blk X scope s H C cl fp) W0 ifs mt) (he : ∀ s H C cl fp, PM (Blk X scope s H C cl fp) W0 elt me)
    (hs : ∀ x, foldedSetIterable iter X.env x = pure x := by intro _; rfl) : PMS X W (.Assign [.Name y py] (.ListComp elt [⟨tg, iter, ifs, 0⟩] scope pos) spos) (mSet i (mLcC mi (gSet j) mt me (own.map (·.2)))) := by
  obtain ⟨wi, h1, s1⟩ := hi
  exact ⟨_, ps_setLc (g := gName j) (tt := tUT X.K W0 mt) (te := tU X.K W0 me) hc hN hy hyl hsw h1 ok hg ht (fun s H C cl fp => (he s H C cl fp).pe) hs, sim_asg (sim_lcC s1 simG_name (keeps_name hj) tUT.sim tU.sim)⟩
end
end ML
set_option Elab.async false
set_option linter.all false
set_option maxRecDepth 100000
set_option maxHeartbeats 2000000
namespace ML
open PySem PySem.Spec PyProof.Rows L2

abbrev WE (E : XK) : WX := fun c d _ H => E c d H
/-- what a def is: a plain function of its arguments and the cells -/
abbrev MFn := List MV → Mo → R MV
/-- THE PROMISE of a def of the text: it does what the plain function says -/
structure FnG (P : Program) (w : World) (K : PySem.W.Frag) (mg : Str → Option Value) (base : Heap) (k : Nat) (f : Addr) (fd : FuncData) (ps : List Str) (call : MFn) : Prop where
  run : ∀ (A : Around) (outer : List PySem.Env) (s : Shared) (H : Hp) (args : Args) (us : List Value) (vs : List V) (Q : VK) (E : XK) (xs : List MV) (m : Mo) (wd : Wd), A.guards = some [] → Room k A → Env0 P w K mg base A outer s H →
    BindsTo s fd args (ps.zip us) → Vals vs us → vs.length = ps.length → RS K wd m H → RMs K wd xs vs → PostE K (WE E) [] Q wd (call xs m) → codeAny (model P w) A (.call (.ref f) args) (CR (L2.CX P w) outer P w H s Q E) s
theorem FnG.mono {P : Program} {w : World} {K : PySem.W.Frag} {mg : Str → Option Value} {base : Heap} {j k : Nat} {f : Addr} {fd : FuncData} {ps : List Str} {call : MFn} (F : FnG P w K mg base j f fd ps call) (h : j ≤ k) : FnG P w K mg base k f fd ps call :=
  ⟨fun A outer s H args us vs Q E xs m wd hg hr => F.run A outer s H args us vs Q E xs m wd hg (hr.mono h)⟩

/-! ### the entry, the exit -/
def startM (n : Nat) (xs : List MV) : Env := xs.map some ++ List.replicate (n - xs.length) none
def finM (L : Nat) : R MF → R MV
  | .ok (.ret x) m => if below L x = true then .ok x (m.take L) else .ok x m
  | .ok (.next _) m => .ok .non (m.take L)
  | .ok _ _ => .stuck
  | .exc e m => .exc e m
  | .stuck => .stuck
def bodyM (n : Nat) (ms : MS) : MFn := fun xs m => finM m.length (ms (startM n xs) m)
section
variable {K : PySem.W.Frag} {w w' : Wd} {m m' : Mo} {H : Hp}
theorem start_rel {N : List Str} {xs : List MV} {vs : List V} (r : RMs K w xs vs) (hl : vs.length ≤ N.length) : SR K w (startM N.length xs) (L2.start N vs) := by
  have e := r.length
  unfold startM L2.start
  refine ⟨by simp; omega, fun i x h => ?_⟩
  by_cases hi : i < xs.length
  · rw [List.getElem?_append_left (by simpa using hi), List.getElem?_map] at h
    cases q : xs[i]? with
    | none => rw [q] at h; cases h
    | some y =>
      rw [q] at h
      cases h
      obtain ⟨v, h1, h2⟩ := r.get q
      exact ⟨v, by rw [List.getElem?_append_left (by rw [List.length_map]; omega), List.getElem?_map, h1]; rfl, h2⟩
  · rw [List.getElem?_append_right (by simpa using hi), List.getElem?_replicate] at h
    split at h <;> cases h
theorem take_pre {l t : List Addr} {n : Nat} (h : l.length = n) : (l ++ t).take n = l := by
  rw [← h]
  simp
mutual
theorem RM.take {L : Nat} (hι : w'.ι = w.ι.take L) (hF : w'.F = w.F) : ∀ (x : MV) (v : V), below L x = true → RM K w x v → RM K w' x v
  | .non, _, _, e => e
  | .bl _, _, _, e => e
  | .int _, _, _, e => e
  | .str _, _, _, e => e
  | .tup xs, _, h, ⟨a, vs, e, s, r⟩ => ⟨a, vs, e, by rw [hF]; exact s, RMs.takeL hι hF xs vs h r⟩
  | .lst xs, _, h, ⟨a, vs, e, s, r⟩ => ⟨a, vs, e, by rw [hF]; exact s, RMs.takeL hι hF xs vs h r⟩
  | .rl xs, _, h, ⟨a, vs, e, s, r⟩ => ⟨a, vs, e, by rw [hF]; exact s, RMs.takeL hι hF xs vs h r⟩
  | .dK ks xs, _, h, ⟨a, vs, e, s, l, r⟩ => ⟨a, vs, e, by rw [hF]; exact s, l, RMs.takeL hι hF xs vs h r⟩
  | .dT ks xs, _, h, ⟨a, vs, e, s, l, r⟩ => ⟨a, vs, e, by rw [hF]; exact s, l, RMs.takeL hι hF xs vs h r⟩
  | .obj C ns xs, _, h, ⟨a, dx, vs, e, s, l, r⟩ => ⟨a, dx, vs, e, by rw [hF]; exact s, l, RMs.takeL hι hF xs vs h r⟩
  | .ref i, _, h, ⟨a, e, s⟩ => ⟨a, e, by rw [hι, List.getElem?_take_of_lt (of_decide_eq_true h)]; exact s⟩
  | .ty _, _, _, e => e
  | .cls _, _, _, e => e
  | .exc a dd C ns xs, _, h, ⟨e, vs, s, l, r⟩ => ⟨e, vs, by rw [hF]; exact s, l, RMs.takeL hι hF xs vs h r⟩
theorem RMs.takeL {L : Nat} (hι : w'.ι = w.ι.take L) (hF : w'.F = w.F) : ∀ (xs : List MV) (vs : List V), belows L xs = true → RMs K w xs vs → RMs K w' xs vs
  | [], _, _, e => e
  | x :: xs, _, h, ⟨v, r, e, a, b⟩ => by
    have h' : (below L x && belows L xs) = true := h
    rw [Bool.and_eq_true] at h'
    exact ⟨v, r, e, RM.take hι hF x v h'.1 a, RMs.takeL hι hF xs r h'.2 b⟩
end
theorem CellR.take {L : Nat} {c : MCell} {o : Option HO} (hι : w'.ι = w.ι.take L) (hF : w'.F = w.F) (hb : c.below L = true) (h : CellR K w c o) : CellR K w' c o := by
  cases c with
  | lst xs => obtain ⟨vs, e, r⟩ := h; exact ⟨vs, e, RMs.takeL hι hF _ _ hb r⟩
  | dK ks xs => obtain ⟨vs, e, l, r⟩ := h; exact ⟨vs, e, l, RMs.takeL hι hF _ _ hb r⟩
  | dT ks xs => obtain ⟨vs, e, l, r⟩ := h; exact ⟨vs, e, l, RMs.takeL hι hF _ _ hb r⟩
  | ins C ns xs => obtain ⟨dx, vs, e, l, r⟩ := h; exact ⟨dx, vs, e, l, RMs.takeL hι hF _ _ hb r⟩
  | dead => trivial
theorem RS.take (s : RS K w m H) (L : Nat) : RS K { w with ι := w.ι.take L } (m.take L) H := by
  have get : ∀ (i : Nat) c, (m.take L)[i]? = some c → i < L ∧ m[i]? = some c := fun i c e => by
    by_cases hi : i < L
    · rw [List.getElem?_take_of_lt hi] at e
      exact ⟨hi, e⟩
    · rw [List.getElem?_eq_none (by rw [List.length_take]; omega)] at e
      cases e
  have getA : ∀ (i : Nat) a, (w.ι.take L)[i]? = some a → w.ι[i]? = some a := fun i a e => by
    by_cases hi : i < L
    · rw [List.getElem?_take_of_lt hi] at e
      exact e
    · rw [List.getElem?_eq_none (by rw [List.length_take]; omega)] at e
      cases e
  refine ⟨s.fz, s.gd, by simp [s.len], fun i c e l => ?_, fun i j a ci cj e1 l1 e2 l2 q1 q2 => s.inj i j a ci cj (get i ci e1).2 l1 (get j cj e2).2 l2 (getA i a q1) (getA j a q2)⟩
  obtain ⟨hi, e'⟩ := get i c e
  obtain ⟨a, h1, h2, h3, h4, h5, h6⟩ := s.cel i c e' l
  refine ⟨a, by show (w.ι.take L)[i]? = some a; rw [List.getElem?_take_of_lt hi]; exact h1, h2, h3, CellR.take (w := w) (w' := { w with ι := w.ι.take L }) rfl rfl ?_ h4, h5, h6⟩
  cases c with
  | lst xs => exact belows_mono (Nat.le_of_lt hi) xs h5
  | dK ks xs => exact belows_mono (Nat.le_of_lt hi) xs h5
  | dT ks xs => exact belows_mono (Nat.le_of_lt hi) xs h5
  | ins C ns xs => exact belows_mono (Nat.le_of_lt hi) xs h5
  | dead => rfl
/-- behind a body: what it made and nobody names is forgotten -/
theorem fin_post {E : XK} {Q : VK} {r : R MF} (s : RS K w m H) (h : PostE K (WE E) [] Q w (finM m.length r)) : PostS K (WE E) { nx := fun _ H' => Q .non H', rt := Q } w r := by
  have cut : ∀ {w1 : Wd} {m1 : Mo} {H1 : Hp}, w.Le w1 → RS K w1 m1 H1 → RS K { w1 with ι := w1.ι.take m.length } (m1.take m.length) H1 ∧ w.Le { w1 with ι := w1.ι.take m.length } := fun {w1 m1 H1} l z => by
    refine ⟨z.take m.length, ⟨l.f, ⟨[], ?_⟩, l.g⟩⟩
    obtain ⟨t, e⟩ := l.i
    show w1.ι.take m.length = w.ι ++ []
    rw [e, List.append_nil, take_pre s.len]
  cases r with
  | stuck => exact h
  | exc e m1 => exact fun w1 H1 c d σ l z x => h w1 H1 c d l z x
  | ok f m1 =>
    cases f with
    | next e =>
      intro w1 H1 σ l z y
      obtain ⟨z2, l2⟩ := cut l z
      exact h _ H1 _ l2 z2 rfl
    | ret x =>
      intro w1 H1 v l z y
      have h' : PostE K (WE E) [] Q w (if below m.length x = true then .ok x (m1.take m.length) else .ok x m1) := h
      split at h'
      · rename_i hb
        obtain ⟨z2, l2⟩ := cut l z
        exact h' _ H1 v l2 z2 (RM.take (w := w1) (w' := { w1 with ι := w1.ι.take m.length }) rfl rfl x v hb y)
      · exact h' w1 H1 v l z y
    | brk e => exact h.elim
    | cont e => exact h.elim
end

/-! ### a def by its body -/
/-- where a body stands -/
abbrev cxB (P : Program) (w : World) (K : PySem.W.Frag) (mg : Str → Option Value) (base : Heap) (N : List Str) (qual : Str) (scope : Scope) (f : Addr) (cd : Value) (A : Around) (outer : List PySem.Env) (s : Shared) (H : Hp) (E : XK) : Cx :=
  cxOf (L2.CX P w) P w K mg base N qual scope f cd A outer s H E
theorem fnG_of {P : Program} {w : World} {K : PySem.W.Frag} {mg : Str → Option Value} {base : Heap} {x qual : Str} {st : Stmt} {f : Addr} {fd : FuncData} {N ps : List Str} {k : Nat} {ms : MS} (F : Fun K x qual st f fd) (S : FnScope N ps (defScope st))
    (hbody : ∀ (cdv : Value) (A : Around) (outer : List PySem.Env) (s : Shared) (H : Hp) (E : XK), (A.deeper (envOfC qual (defScope st) s.heap.objs.size f cdv)).guards = some [] → Room k (A.deeper (envOfC qual (defScope st) s.heap.objs.size f cdv)) →
      PMSs (cxB P w K mg base N qual (defScope st) f cdv A outer s H E) (WE E) (defBody st) ms) : FnG P w K mg base (k + 1) f fd ps (bodyM N.length ms) := by
  obtain ⟨oc, od, kV, doc, pm, an, cdv, ct, osl, rfl, lk, hcd⟩ := F.ex
  constructor
  intro A outer s H args us vs Q E xs m wd hg hr e0 hb rv hl rs rx hp
  have keepB := fun b o e => (e0.bs b o e).1
  have inK := e0.mod.kin.keeps keepB
  have nolim := e0.mod.nolimit.keeps keepB
  have kinds : ∀ y ∈ ps.zip us, (defScope st).names.lookup y.1 = some .local ∨ ((defScope st).names.lookup y.1 = some .cell ∧ ((cellsFrom (s.heap.objs.size + 1) (defScope st).names []).lookup y.1).isSome = true) := by
    rintro ⟨n, v⟩ hy
    have hn := (List.of_mem_zip hy).1
    exact (S.par n hn).imp (fun q => q) fun q => ⟨q, PySem.W.cellsFrom_some _ _ _ (.inl q)⟩
  refine codeAny_call_function hr.depth (inK _ _ lk) rfl S.co S.gen rfl (PySem.W.codeRec_of inK hcd) (hb _ _ _ _ (wpAny_newFunctionEnv_cells S.kind kinds fun env he s1 ic => ?_))
  subst he
  refine ⟨nolim.keeps ic.toInCall.keep, codeAny_func ?_⟩
  have hpl : ps.length ≤ N.length := by
    have q := congrArg List.length S.pre
    rw [List.length_take] at q
    omega
  obtain ⟨t, ht, hs⟩ := hbody cdv A outer s H E hg (hr.deeper _)
  have I : Inv (cxB P w K mg base N qual (defScope st) f cdv A outer s H E) [] (L2.start N vs) H s1 := inv_start S hr.hd e0 hl rv ic
  have go := ht.run [] s1 (L2.start N vs) H _ I (hs wd m H _ _ _ rs (start_rel rx (by omega)) (fin_post rs hp))
  refine wpAny_mono go (fun fl s2 h2 => ?_) fun e s2 h2 => h2
  cases fl with
  | ret u => exact let ⟨v, σ2, H2, J, r2, q2⟩ := h2; ⟨v, H2, J.os, J.bare, J.base, J.hok, r2, q2⟩
  | next => exact let ⟨σ2, H2, J, q2⟩ := h2; ⟨.non, H2, J.os, J.bare, J.base, J.hok, rfl, q2⟩
  | brk => exact let ⟨_, _, _, q2⟩ := h2; q2.elim
  | cont => exact let ⟨_, _, _, q2⟩ := h2; q2.elim

/-! ### calls -/
section
variable {X : Cx} {W : WX} {k : Nat} {f C : Addr} {fd : FuncData} {ps : List Str} {call : MFn} {x mn : Str} {p pos apos : Pos} {a o : Expr} {es : List Expr} {ml : MA} {mo : ME}
theorem runG {pins : List (Addr × Obj)} {σ : St} {H : Hp} {s : Shared} {Q : VK} {us : List Value} {vs : List V} {xs : List MV} {m : Mo} {wd : Wd} (F : FnG X.prog X.w X.K X.mg X.base k f fd ps call) (hgd : X.A.guards = some []) (hr : Room k X.A) (hb : Binds X.K fd ps []) (tk : Takes X W)
    (I : Inv X pins σ H s) (r : Vals vs us) (hl : vs.length = ps.length) (z : RS X.K wd m H) (rx : RMs X.K wd xs vs) (h : PostE X.K W σ Q wd (call xs m)) : wpAny (model X.prog X.w) X.A (PySem.call (.ref f) us) (EP X pins σ Q) X.xe s := by
  have hu : (us ++ []).length = ps.length := by rw [List.append_nil, ← r.length]; exact hl
  have h' : PostE X.K (WE fun c d H => W c d σ H) [] Q wd (call xs m) := by
    cases hc : call xs m with
    | ok y m1 => rw [hc] at h; exact h
    | exc y m1 => rw [hc] at h; exact h
    | stuck => rw [hc] at h; exact h
  have bt := hb s us I.kIn hu
  rw [List.append_nil] at bt
  refine wpAny_call (codeAny_mono (F.run X.A X.stack s H ⟨us, []⟩ us vs Q (fun c d H => W c d σ H) xs m wd hgd hr I.env0 bt r hl z rx h') fun rr s2 hq => ?_)
  cases rr with
  | error e => exact tk e s2 (XE.of_call I (fun _ _ _ q => q) hq)
  | ok fl =>
    cases fl with
    | ret u => exact I.after hq
    | next => exact hq.elim
    | brk => exact hq.elim
    | cont => exact hq.elim
def mCall (n : Nat) (call : MFn) (ml : MA) : ME := fun e m => (ml e m).bind fun xs m1 => if xs.length = n then call xs m1 else .stuck
/-- a reading from a plain function alone -/
theorem PM.of {e : Expr} {me : ME} (h : ∀ pins s σ H Q w m e', Inv X pins σ H s → RS X.K w m H → SR X.K w e' σ → PostE X.K W σ Q w (me e' m) → wpAny (model X.prog X.w) X.A (eval e X.env) (EP X pins σ Q) X.xe s) : PM X W e me :=
  ⟨tU X.K W me, ⟨fun pins s σ H Q I ⟨w, m, e', a, b, c⟩ => h pins s σ H Q w m e' I a b c⟩, tU.sim⟩
/-- .. of arguments, run -/
theorem PMA.go (ha : PMA X W es ml) {pins : List (Addr × Obj)} {s : Shared} {σ : St} {H : Hp} {w : Wd} {m : Mo} {e : Env} {Q : VK} {f : List MV → Mo → R MV} (I : Inv X pins σ H s) (z : RS X.K w m H) (q : SR X.K w e σ) (p : PostE X.K W σ Q w ((ml e m).bind f)) (pos : Pos) {Q' : List Value → Shared → Prop}
    (k : ∀ us s1 xs vs w1 m1 H1, w.Le w1 → Inv X pins σ H1 s1 → RS X.K w1 m1 H1 → Vals vs us → RMs X.K w1 xs vs → PostE X.K W σ Q w1 (f xs m1) → Q' us s1) : wpAny (model X.prog X.w) X.A (spliced (backTo pos (starEach es X.env))) Q' X.xe s := by
  obtain ⟨t, h1, s1⟩ := ha
  refine thn (h1.run pos pins s σ H (fun vs H1 => ∃ xs w1 m1, w.Le w1 ∧ RS X.K w1 m1 H1 ∧ RMs X.K w1 xs vs ∧ PostE X.K W σ Q w1 (f xs m1)) I (s1 w m H e σ _ z q (PostA.bindE p fun xs m1 w1 H1 vs l z1 r p1 => ⟨xs, w1, m1, l, z1, r, p1⟩))) fun us s2 ⟨vs, H2, I2, rv, xs, w1, m1, l, z1, r, p1⟩ => ?_
  exact k us s2 xs vs w1 m1 H2 l I2 z1 rv r p1
theorem PM.go (ha : PM X W a mo) {pins : List (Addr × Obj)} {s : Shared} {σ : St} {H : Hp} {w : Wd} {m : Mo} {e : Env} {Q : VK} {f : MV → Mo → R MV} (I : Inv X pins σ H s) (z : RS X.K w m H) (q : SR X.K w e σ) (p : PostE X.K W σ Q w ((mo e m).bind f)) {Q' : Value → Shared → Prop}
    (k : ∀ u s1 x v w1 m1 H1, w.Le w1 → Inv X pins σ H1 s1 → RS X.K w1 m1 H1 → RelV v u → RM X.K w1 x v → PostE X.K W σ Q w1 (f x m1) → Q' u s1) : wpAny (model X.prog X.w) X.A (eval a X.env) Q' X.xe s := by
  obtain ⟨t, h1, s1⟩ := ha
  refine thn (h1.run pins s σ H (fun v H1 => ∃ x w1 m1, w.Le w1 ∧ RS X.K w1 m1 H1 ∧ RM X.K w1 x v ∧ PostE X.K W σ Q w1 (f x m1)) I (s1 w m H e σ _ z q (PostE.bind p fun x m1 w1 H1 v l z1 r p1 => ⟨x, w1, m1, l, z1, r, p1⟩))) fun u s2 ⟨v, H2, I2, rv, x, w1, m1, l, z1, r, p1⟩ => ?_
  exact k u s2 x v w1 m1 H2 l I2 z1 rv r p1
theorem pm_call (F : FnG X.prog X.w X.K X.mg X.base k f fd ps call) (hgd : X.A.guards = some []) (hr : Room k X.A) (hm : X.mg x = some (.ref f)) (hk : PySem.W.keepIn X.K (.ref f) = true) (hb : Binds X.K fd ps []) (tk : Takes X W) (ha : PMA X W (a :: es) ml)
    (hg : Gl X x := by rfl) (hdb : (x == ("__debug__" : Str)) = false := by decide) (he : starEach (a :: es) X.env = (false, eval a X.env) :: starEach es X.env := by rfl) (hpl : (backTo pos (starEach es X.env)).any (·.1) = false := by rfl) :
    PM X W (.Call (.Name x p) (a :: es) [] pos) (mCall ps.length call ml) := by
  refine PM.of fun pins s σ H Q w m e I z q h => ?_
  refine wpAny_Call_Name_kw (ld_glob I hg hm ?_ hdb)
  refine PySem.W.callWith_K (h₀ := X.base) I.ok.mod.kin hk (ha.go I z q h pos fun us s1 xs vs w1 m1 H1 l I1 z1 rv r p1 => ⟨I1.kIn, ?_⟩) he hpl
  split at p1
  · rename_i hn
    exact runG F hgd hr hb tk I1 rv (by rw [r.length]; exact hn) z1 r p1
  · exact p1.elim
theorem pm_call0 (F : FnG X.prog X.w X.K X.mg X.base k f fd [] call) (hgd : X.A.guards = some []) (hr : Room k X.A) (hm : X.mg x = some (.ref f)) (hk : PySem.W.keepIn X.K (.ref f) = true) (hb : Binds X.K fd [] []) (tk : Takes X W) (hg : Gl X x := by rfl) (hdb : (x == ("__debug__" : Str)) = false := by decide) :
    PM X W (.Call (.Name x p) [] [] pos) (mCall 0 call mANil) := by
  refine PM.of fun pins s σ H Q w m e I z q h => ?_
  refine wpAny_Call_Name_kw (ld_glob I hg hm ?_ hdb)
  exact PySem.W.callWith_K0 I.kIn hk (runG (us := []) (xs := []) F hgd hr hb tk I .nil rfl z rfl h)

/-! ### instances -/
def insOf (x : MV) (m : Mo) : Option (Addr × List Str × List MV) := match x with
  | .obj C ns xs => some (C, ns, xs)
  | .ref i => match m[i]? with
    | some (.ins C ns xs) => some (C, ns, xs)
    | _ => none
  | _ => none
theorem ins_at {K : PySem.W.Frag} {w : Wd} {m : Mo} {H : Hp} {x : MV} {v : V} {C : Addr} {ns : List Str} {xs : List MV} (s : RS K w m H) (r : RM K w x v) (h : insOf x m = some (C, ns, xs)) : ∃ a dx vs, v = .ref a ∧ H a = some (.ins C dx (ns.zip vs)) ∧ ns.length = xs.length ∧ RMs K w xs vs := by
  cases x with
  | obj C' ns' ys =>
    cases h
    obtain ⟨a, dx, vs, rfl, hs, l, rs⟩ := r
    exact ⟨a, dx, vs, rfl, s.fz _ _ hs, l, rs⟩
  | ref i =>
    unfold insOf at h
    dsimp only at h
    split at h
    · rename_i C' ns' ys e
      cases h
      obtain ⟨a, rfl, _, dx, vs, h4, l, rs⟩ := s.at_ r e (by intro z; cases z)
      exact ⟨a, dx, vs, rfl, h4, l, rs⟩
    · cases h
  | _ => cases h
def lookF : List Str → List MV → Str → Option MV
  | n :: ns, x :: xs, f => if f = n then some x else lookF ns xs f
  | _, _, _ => none
theorem lookF_some {K : PySem.W.Frag} {w : Wd} : ∀ {ns : List Str} {xs : List MV} {vs : List V} {f : Str} {x : MV}, RMs K w xs vs → lookF ns xs f = some x → ∃ v, (ns.zip vs).lookup f = some v ∧ RM K w x v
  | [], _, _, _, _, _, h => by simp [lookF] at h
  | _ :: _, [], _, _, _, _, h => by simp [lookF] at h
  | n :: ns, y :: ys, _, f, x, ⟨v, vs, e, a, b⟩, h => by
    unfold lookF at h
    rw [e, List.zip_cons_cons, List.lookup_cons]
    by_cases q : f = n
    · rw [if_pos q] at h
      cases h
      exact ⟨v, by rw [show (f == n) = true from beq_iff_eq.mpr q], a⟩
    · rw [if_neg q] at h
      obtain ⟨u, h1, h2⟩ := lookF_some b h
      exact ⟨u, by rw [show (f == n) = false from beq_eq_false_iff_ne.mpr q]; exact h1, h2⟩
theorem lookF_none {K : PySem.W.Frag} {w : Wd} : ∀ {ns : List Str} {xs : List MV} {vs : List V} {f : Str}, ns.length = xs.length → RMs K w xs vs → lookF ns xs f = none → (ns.zip vs).lookup f = none
  | [], _, _, _, _, _, _ => rfl
  | _ :: _, [], _, _, l, _, _ => by simp at l
  | n :: ns, y :: ys, _, f, l, ⟨v, vs, e, a, b⟩, h => by
    unfold lookF at h
    rw [e, List.zip_cons_cons, List.lookup_cons]
    by_cases q : f = n
    · rw [if_pos q] at h
      cases h
    · rw [if_neg q] at h
      rw [show (f == n) = false from beq_eq_false_iff_ne.mpr q]
      exact lookF_none (by simpa using l) b h
/-- e.f of an instance of the class at C -/
def mFld (C : Addr) (f : Str) (mo : ME) : ME := fun e m => (mo e m).bind fun x m1 => match insOf x m1 with
  | some (C', ns, xs) => if C' = C then (match lookF ns xs f with
    | some y => .ok y m1
    | none => .stuck) else .stuck
  | none => .stuck
theorem pm_fld {fl : Str} (c : Cls X.K C) (hn : NoAttr X.K C fl) (ho : PM X W o mo) (hb : attributeBase o fl X.env (eval o X.env) = eval o X.env := by rfl) : PM X W (.Attribute o fl pos) (mFld C fl mo) := by
  obtain ⟨t, h1, s1⟩ := ho
  refine ⟨_, pe_fld h1 hb, fun w m H e σ Q s q p => s1 w m H e σ _ s q (PostE.bind p fun x m1 w1 H1 v l z r p1 => ?_)⟩
  cases hi : insOf x m1 with
  | none => rw [hi] at p1; exact p1.elim
  | some t =>
    obtain ⟨C', ns, xs⟩ := t
    rw [hi] at p1
    dsimp only at p1
    split at p1
    · rename_i hC
      subst hC
      obtain ⟨a, dx, vs, rfl, h4, hl, rs⟩ := ins_at z r hi
      cases hf : lookF ns xs fl with
      | none => rw [hf] at p1; exact p1.elim
      | some y =>
        rw [hf] at p1
        obtain ⟨u, h5, ru⟩ := lookF_some rs hf
        exact ⟨a, C', dx, _, u, rfl, h4, c, hn, h5, p1 w1 H1 u (.refl _) z ru⟩
    · exact p1.elim
def setF : List Str → List MV → Str → MV → List Str × List MV
  | n :: ns, x :: xs, f, y => if n = f then (n :: ns, y :: xs) else ((n :: (setF ns xs f y).1), (x :: (setF ns xs f y).2))
  | _, _, f, y => ([f], [y])
theorem setF_rel {K : PySem.W.Frag} {w : Wd} {f : Str} {y : MV} {u : V} (ry : RM K w y u) : ∀ {ns : List Str} {xs : List MV} {vs : List V}, ns.length = xs.length → RMs K w xs vs → ∃ us, putF f u (ns.zip vs) = (setF ns xs f y).1.zip us ∧ (setF ns xs f y).1.length = (setF ns xs f y).2.length ∧ RMs K w (setF ns xs f y).2 us
  | [], [], _, _, r => by
    rw [show _ = _ from r]
    exact ⟨[u], rfl, rfl, u, [], rfl, ry, rfl⟩
  | [], _ :: _, _, l, _ => by simp at l
  | _ :: _, [], _, l, _ => by simp at l
  | n :: ns, x :: xs, _, l, ⟨v, vs, e, a, b⟩ => by
    rw [e, List.zip_cons_cons]
    have l' : ns.length = xs.length := by simpa using l
    unfold setF putF
    by_cases q : n = f
    · rw [if_pos q, if_pos q]
      exact ⟨u :: vs, rfl, by simp [l'], u, vs, rfl, ry, b⟩
    · rw [if_neg q, if_neg q]
      obtain ⟨us, h1, h2, h3⟩ := setF_rel ry l' b
      exact ⟨v :: us, by rw [h1]; rfl, by simp [h2], v, us, rfl, a, h3⟩
/-- o.f = e, o an instance at a cell -/
def mSetFld (C : Addr) (f : Str) (me mo : ME) : MS := fun e m => (me e m).bind fun x m1 => (mo e m1).bind fun o m2 => match o with
  | .ref i => (match m2[i]? with
    | some (.ins C' ns xs) => if C' = C ∧ ns.length < 1000 ∧ belows i (setF ns xs f x).2 = true then .ok (.next e) (m2.set i (.ins C (setF ns xs f x).1 (setF ns xs f x).2)) else .stuck
    | _ => .stuck)
  | _ => .stuck
theorem pms_setFld {fl : Str} {v : Expr} {me : ME} {pos' : Pos} (c : Cls X.K C) (hn : NoAttr X.K C fl) (hv : PM X W v me) (ho : PM X W o mo) (hs : swapsWith v (some (.Attribute o fl pos')) pos.line X.env = pure false := by rfl) : PMS X W (.Assign [.Attribute o fl pos'] v pos) (mSetFld C fl me mo) := by
  obtain ⟨t, h1, s1⟩ := hv
  obtain ⟨t2, h2, s2⟩ := ho
  refine ⟨_, ps_fld h2 h1 hs, fun w m H e σ D s q p => s1 w m H e σ _ s q (PostE.bindS p fun x m1 w1 H1 v l z r p1 => ?_)⟩
  refine s2 w1 m1 H1 e σ _ z (q.mono l) (PostE.bindS p1 fun o m2 w2 H2 vo l2 z2 r2 p2 => ?_)
  cases o with
  | ref i =>
    dsimp only at p2
    split at p2
    · rename_i C' ns xs e4
      split at p2
      · rename_i hc
        obtain ⟨hC, hz, hb⟩ := hc
        subst hC
        obtain ⟨a, rfl, ha, dx, vs, h4, hl, rs⟩ := z2.at_ r2 e4 (by intro z; cases z)
        obtain ⟨us, k1, k2, k3⟩ := setF_rel (f := fl) (RM.mono l2 _ _ r) hl rs
        have z3 := z2.put (c := .ins C' (setF ns xs fl x).1 (setF ns xs fl x).2) (o := .ins C' dx ((setF ns xs fl x).1.zip us)) e4 (by intro z; cases z) ha ⟨dx, us, rfl, k2, k3⟩ hb
        refine ⟨a, C', dx, _, rfl, h4, c, hn, ?_, ?_⟩
        · rw [List.length_zip, rs.length, ← hl]; simp; exact hz
        · rw [k1]
          exact p2 w2 _ σ (.refl _) z3 (q.mono (l.trans l2))
      · exact p2.elim
    · exact p2.elim
  | _ => exact p2.elim
/-- o.m(..) -/
def mMeth (C : Addr) (mn : Str) (n : Nat) (call : MFn) (mo : ME) (ml : MA) : ME := fun e m => (mo e m).bind fun x m1 => match insOf x m1 with
  | some (C', ns, xs) => if C' = C ∧ lookF ns xs mn = none then (ml e m1).bind fun ys m2 => if ys.length + 1 = n then call (x :: ys) m2 else .stuck else .stuck
  | none => .stuck
theorem pm_meth {pl : Sem Bool} (ho : PM X W o mo) (c : Cls X.K C) (hm : Meth X.K C mn f) (F : FnG X.prog X.w X.K X.mg X.base k f fd ps call) (hgd : X.A.guards = some []) (hr : Room k X.A) (hb : Binds X.K fd ps []) (tk : Takes X W) (ha : PMA X W (a :: es) ml)
    (hst : starEach (a :: es) X.env = (false, eval a X.env) :: starEach es X.env := by rfl) (hpl : (backTo pos (starEach es X.env)).any (·.1) = false := by rfl)
    (ht : eval (.Call (.Attribute o mn apos) (a :: es) [] pos) X.env = (do
      let ov ← eval o X.env
      standAt apos.atName
      let (f, first) ← holding [ov] (getMethod ov mn pl)
      callWith pos f first (backTo pos (starEach (a :: es) X.env)) (backToKw pos (keywordEach [] X.env))) := by rfl) :
    PM X W (.Call (.Attribute o mn apos) (a :: es) [] pos) (mMeth C mn ps.length call mo ml) := by
  refine PM.of fun pins s σ H Q w m e I z q h => ?_
  refine PySem.W.methodCall_KW (pl := pl) (ho.go I z q h fun u s1 x v w1 m1 H1 l I1 z1 rv r p1 => ?_) ht
  cases hi : insOf x m1 with
  | none => rw [hi] at p1; exact p1.elim
  | some t =>
    obtain ⟨C', ns, xs⟩ := t
    rw [hi] at p1
    dsimp only at p1
    split at p1
    · rename_i hc
      obtain ⟨hC, hn⟩ := hc
      subst hC
      obtain ⟨b, dx, vs, rfl, h4, hl, rs⟩ := ins_at z1 r hi
      obtain rfl : u = Value.ref b := rv
      refine getmeth_ok I1 h4 c hm (lookF_none hl rs hn) ?_
      refine PySem.W.callWith_K (first := [.ref b]) (h₀ := X.base) I.ok.mod.kin hm.kp (ha.go I1 z1 (q.mono l) p1 pos fun us s2 ys vs2 w2 m2 H2 l2 I2 z2 rv2 r2 p2 => ⟨I2.kIn, ?_⟩) hst hpl
      split at p2
      · rename_i hlen
        exact runG (us := .ref b :: us) (vs := .ref b :: vs2) (xs := x :: ys) F hgd hr hb tk I2 (.cons rfl rv2) (by rw [List.length_cons, r2.length]; exact hlen) z2 (RMs.cons (RM.mono l2 _ _ r) r2) p2
      · exact p2.elim
    · exact p1.elim
theorem pm_meth0 {pl : Sem Bool} (ho : PM X W o mo) (c : Cls X.K C) (hm : Meth X.K C mn f) (F : FnG X.prog X.w X.K X.mg X.base k f fd ps call) (hgd : X.A.guards = some []) (hr : Room k X.A) (hb : Binds X.K fd ps []) (tk : Takes X W)
    (ht : eval (.Call (.Attribute o mn apos) [] [] pos) X.env = (do
      let ov ← eval o X.env
      standAt apos.atName
      let (f, first) ← holding [ov] (getMethod ov mn pl)
      callWith pos f first (backTo pos (starEach [] X.env)) (backToKw pos (keywordEach [] X.env))) := by rfl) :
    PM X W (.Call (.Attribute o mn apos) [] [] pos) (mMeth C mn ps.length call mo mANil) := by
  refine PM.of fun pins s σ H Q w m e I z q h => ?_
  refine PySem.W.methodCall_KW (pl := pl) (ho.go I z q h fun u s1 x v w1 m1 H1 l I1 z1 rv r p1 => ?_) ht
  cases hi : insOf x m1 with
  | none => rw [hi] at p1; exact p1.elim
  | some t =>
    obtain ⟨C', ns, xs⟩ := t
    rw [hi] at p1
    dsimp only at p1
    split at p1
    · rename_i hc
      obtain ⟨hC, hn⟩ := hc
      subst hC
      obtain ⟨b, dx, vs, rfl, h4, hl, rs⟩ := ins_at z1 r hi
      obtain rfl : u = Value.ref b := rv
      refine getmeth_ok I1 h4 c hm (lookF_none hl rs hn) ?_
      have p2 : PostE X.K W σ Q w1 (if ([] : List MV).length + 1 = ps.length then call [x] m1 else .stuck) := p1
      split at p2
      · rename_i hlen
        exact PySem.W.callWith_K0 (first := [.ref b]) I1.kIn hm.kp (runG (us := [.ref b]) (vs := [.ref b]) (xs := [x]) F hgd hr hb tk I1 (.cons rfl .nil) hlen z1 (RMs.cons r RMs.nil) p2)
      · exact p2.elim
    · exact p1.elim
/-- C(..): a new instance at a cell, then __init__ -/
def mkM (C : Addr) (n : Nat) (call : MFn) (xs : List MV) (m : Mo) : R MV := if xs.length + 1 = n then (call (.ref m.length :: xs) (m ++ [.ins C [] []])).bind fun y m2 => match y with
  | .non => .ok (.ref m.length) m2
  | _ => .stuck
  else .stuck
def mMake (C : Addr) (n : Nat) (call : MFn) (ml : MA) : ME := fun e m => (ml e m).bind fun xs m1 => mkM C n call xs m1
theorem run_mkG {pins : List (Addr × Obj)} {σ : St} {H : Hp} {s : Shared} {Q : VK} {us : List Value} {vs : List V} {xs : List MV} {m : Mo} {wd : Wd} (M : Mk X.K C f) (F : FnG X.prog X.w X.K X.mg X.base k f fd ps call) (hgd : X.A.guards = some []) (hr : Room (k + 1) X.A) (hb : Binds X.K fd ps []) (tk : Takes X W)
    (I : Inv X pins σ H s) (r : Vals vs us) (z : RS X.K wd m H) (rx : RMs X.K wd xs vs) (h : PostE X.K W σ Q wd (mkM C ps.length call xs m)) : wpAny (model X.prog X.w) X.A (PySem.call (.ref C) us) (EP X pins σ Q) X.xe s := by
  unfold mkM at h
  split at h
  · rename_i hlen
    have nD : H s.heap.objs.size = none := I.hok.fresh (Nat.le_refl _)
    have nP : H (s.heap.objs.size + 1) = none := I.hok.fresh (Nat.le_succ _)
    have ne : s.heap.objs.size ≠ s.heap.objs.size + 1 := Nat.ne_of_lt (Nat.lt_succ_self _)
    have I2 := Inv.made (C := C) I
    have hul : (Value.ref (s.heap.objs.size + 1) :: us ++ []).length = ps.length := by
      have e := r.length
      have e2 := rx.length
      simp
      omega
    obtain ⟨z1, l1⟩ := z.new (o := .own (s.heap.objs.size + 1)) nD
    have nP1 : (upd H s.heap.objs.size (.own (s.heap.objs.size + 1))) (s.heap.objs.size + 1) = none := by rw [upd_ne ne.symm]; exact nP
    obtain ⟨z2, l2⟩ := z1.cell (o := .ins C s.heap.objs.size []) (c := .ins C [] []) nP1 ⟨_, [], rfl, rfl, rfl⟩ rfl
    have l12 := l1.trans l2
    have e1 : m.length = (m ++ [MCell.ins C [] []]).length - 1 := by simp
    have rr : RM X.K { wd with F := upd wd.F s.heap.objs.size (.own (s.heap.objs.size + 1)), ι := wd.ι ++ [s.heap.objs.size + 1] } (.ref m.length) (.ref (s.heap.objs.size + 1)) := ⟨_, rfl, by show (wd.ι ++ [s.heap.objs.size + 1])[m.length]? = _; rw [← z.len]; simp⟩
    have h2 : PostE X.K (WE fun c d H => W c d σ H) [] (fun v H2 => v = .non ∧ Q (.ref (s.heap.objs.size + 1)) H2) { wd with F := upd wd.F s.heap.objs.size (.own (s.heap.objs.size + 1)), ι := wd.ι ++ [s.heap.objs.size + 1] } (call (.ref m.length :: xs) (m ++ [.ins C [] []])) := by
      cases hc : call (.ref m.length :: xs) (m ++ [.ins C [] []]) with
      | stuck => rw [hc] at h; exact h
      | exc y m3 => rw [hc] at h; exact fun w' H' c d l z x => h w' H' c d (l12.trans l) z x
      | ok y m3 =>
        rw [hc] at h
        cases y with
        | non => exact fun w' H' v l z rv => ⟨rv, h w' H' _ (l12.trans l) z (RM.mono l _ _ rr)⟩
        | _ => exact h.elim
    have bt := hb _ (Value.ref (s.heap.objs.size + 1) :: us) I2.kIn hul
    rw [List.append_nil] at bt
    refine wpAny_call (make_map (f := f) I.kIn M.makes M.init (beq_iff_eq.mp M.fn) (codeAny_mono (F.run _ X.stack _ _ ⟨Value.ref (s.heap.objs.size + 1) :: us, []⟩ (Value.ref (s.heap.objs.size + 1) :: us) (V.ref (s.heap.objs.size + 1) :: vs) _ _ _ _ _ ?_ (hr.make C us []) (I2.env0.make C us []) bt (.cons rfl r) ?_ z2 (RMs.cons rr (RMs.mono l12 _ _ rx)) h2) fun rr s2 hq => ?_))
    · first
        | exact hgd
        | (show (X.A.under (.builtin "type.__call__" ⟨.ref C :: us, []⟩)).guards = some []; simp [Around.under, Code.isGuard, guardIds, hgd])
    · have e2 := rx.length
      simp
      omega
    · cases rr with
      | error e => exact tk e s2 (XE.of_call I2 (fun _ _ _ q => q) hq)
      | ok fl =>
        cases fl with
        | ret u =>
          obtain ⟨v, H', I3, rv, ev, q3⟩ := I2.after hq
          subst ev
          exact ⟨rv, V.ref (s.heap.objs.size + 1), H', I3, rfl, q3⟩
        | next => exact hq.elim
        | brk => exact hq.elim
        | cont => exact hq.elim
  · exact h.elim
theorem pm_make (M : Mk X.K C f) (F : FnG X.prog X.w X.K X.mg X.base k f fd ps call) (hgd : X.A.guards = some []) (hr : Room (k + 1) X.A) (hm : X.mg x = some (.ref C)) (hb : Binds X.K fd ps []) (tk : Takes X W) (ha : PMA X W (a :: es) ml)
    (hg : Gl X x := by rfl) (hdb : (x == ("__debug__" : Str)) = false := by decide) (he : starEach (a :: es) X.env = (false, eval a X.env) :: starEach es X.env := by rfl) (hpl : (backTo pos (starEach es X.env)).any (·.1) = false := by rfl) :
    PM X W (.Call (.Name x p) (a :: es) [] pos) (mMake C ps.length call ml) := by
  refine PM.of fun pins s σ H Q w m e I z q h => ?_
  refine wpAny_Call_Name_kw (ld_glob I hg hm ?_ hdb)
  exact PySem.W.callWith_K (h₀ := X.base) I.ok.mod.kin M.kp (ha.go I z q h pos fun us s1 xs vs w1 m1 H1 l I1 z1 rv r p1 => ⟨I1.kIn, run_mkG M F hgd hr hb tk I1 rv z1 r p1⟩) he hpl
theorem pm_make0 (M : Mk X.K C f) (F : FnG X.prog X.w X.K X.mg X.base k f fd ps call) (hgd : X.A.guards = some []) (hr : Room (k + 1) X.A) (hm : X.mg x = some (.ref C)) (hb : Binds X.K fd ps []) (tk : Takes X W) (hg : Gl X x := by rfl) (hdb : (x == ("__debug__" : Str)) = false := by decide) :
    PM X W (.Call (.Name x p) [] [] pos) (mMake C ps.length call mANil) := by
  refine PM.of fun pins s σ H Q w m e I z q h => ?_
  refine wpAny_Call_Name_kw (ld_glob I hg hm ?_ hdb)
  exact PySem.W.callWith_K0 I.kIn M.kp (run_mkG (us := []) (xs := []) M F hgd hr hb tk I .nil z rfl h)
end
end ML
set_option Elab.async false
set_option linter.all false
set_option maxRecDepth 100000
set_option maxHeartbeats 2000000
namespace ML
open PySem PySem.Spec PyProof.Rows L2

/-! ### dicts, keys ints and texts -/
def keyM : MV → Option Key
  | .int i => some (.inl i)
  | .str x => some (.inr x)
  | _ => none
def kM : Key → MV
  | .inl i => .int i
  | .inr x => .str x
section
variable {K : PySem.W.Frag} {w : Wd} {m : Mo} {H : Hp}
theorem key_rel {x : MV} {v : V} {k : Key} (r : RM K w x v) (h : keyM x = some k) : v = kV k := by
  cases x with
  | int i => cases h; exact r
  | str s => cases h; exact r
  | _ => cases h
theorem kM_rel (k : Key) : RM K w (kM k) (kV k) := by cases k <;> exact rfl
def lookK {κ : Type} [DecidableEq κ] : List κ → List MV → κ → Option MV
  | k' :: ks, x :: xs, k => if k' = k then some x else lookK ks xs k
  | _, _, _ => none
def setK {κ : Type} [DecidableEq κ] : List κ → List MV → κ → MV → List MV
  | k' :: ks, x :: xs, k, y => (if k' = k then y else x) :: setK ks xs k y
  | _, _, _, _ => []
theorem setK_length {κ : Type} [DecidableEq κ] {k : κ} {y : MV} : ∀ {ks : List κ} {xs : List MV}, ks.length = xs.length → (setK ks xs k y).length = xs.length
  | [], [], _ => rfl
  | [], _ :: _, h => by simp at h
  | _ :: _, [], h => by simp at h
  | k' :: ks, x :: xs, h => by
    show (setK ks xs k y).length + 1 = xs.length + 1
    rw [setK_length (by simpa using h)]
theorem look_rel {κ : Type} [DecidableEq κ] : ∀ {ks : List κ} {xs : List MV} {vs : List V} (k : κ), ks.length = xs.length → RMs K w xs vs → (∀ x, lookK ks xs k = some x → ∃ v, valV (ks.zip vs) k = some v ∧ RM K w x v) ∧ (lookK ks xs k = none → valV (ks.zip vs) k = none)
  | [], [], _, k, _, r => by
    rw [show _ = _ from r]
    exact ⟨fun x h => (by cases h), fun _ => rfl⟩
  | [], _ :: _, _, _, h, _ => by simp at h
  | _ :: _, [], _, _, h, _ => by simp at h
  | k' :: ks, x :: xs, _, k, h, ⟨v, vs, e, a, b⟩ => by
    rw [e, List.zip_cons_cons]
    have ih := look_rel k (by simpa using h) b
    unfold lookK
    by_cases q : k' = k
    · rw [if_pos q, valV_pos (p := (k', v)) q]
      exact ⟨fun y hy => ⟨v, rfl, (by cases hy; exact a)⟩, fun hn => (by cases hn)⟩
    · rw [if_neg q, valV_neg (p := (k', v)) q]
      exact ih
theorem look_any {κ : Type} [DecidableEq κ] {ks : List κ} {xs : List MV} {vs : List V} {k : κ} (h : ks.length = xs.length) (r : RMs K w xs vs) : (ks.zip vs).any (fun kv => decide (kv.1 = k)) = (lookK ks xs k).isSome := by
  rw [valV_any]
  obtain ⟨h1, h2⟩ := look_rel k h r
  cases q : lookK ks xs k with
  | none => rw [h2 q]; rfl
  | some x =>
    obtain ⟨v, hv, _⟩ := h1 x q
    rw [hv]; rfl
def putM {κ : Type} [DecidableEq κ] (ks : List κ) (xs : List MV) (k : κ) (y : MV) : List κ × List MV := if (lookK ks xs k).isSome = true then (ks, setK ks xs k y) else (ks ++ [k], xs ++ [y])
theorem set_rel {κ : Type} [DecidableEq κ] {k : κ} {y : MV} {u : V} (ry : RM K w y u) : ∀ {ks : List κ} {xs : List MV} {vs : List V}, ks.length = xs.length → RMs K w xs vs → ∃ us, (ks.zip vs).map (fun kv => if kv.1 = k then (kv.1, u) else kv) = ks.zip us ∧ RMs K w (setK ks xs k y) us
  | [], [], _, _, r => by
    rw [show _ = _ from r]
    exact ⟨[], rfl, rfl⟩
  | [], _ :: _, _, h, _ => by simp at h
  | _ :: _, [], _, h, _ => by simp at h
  | k' :: ks, x :: xs, _, h, ⟨v, vs, e, a, b⟩ => by
    obtain ⟨us, h1, h2⟩ := set_rel ry (by simpa using h) b
    rw [e, List.zip_cons_cons, List.map_cons, h1]
    by_cases q : k' = k
    · refine ⟨u :: us, by rw [List.zip_cons_cons, if_pos q], u, us, rfl, ?_, h2⟩
      rw [if_pos q]; exact ry
    · refine ⟨v :: us, by rw [List.zip_cons_cons, if_neg q], v, us, rfl, ?_, h2⟩
      rw [if_neg q]; exact a
theorem put_rel {κ : Type} [DecidableEq κ] {ks : List κ} {xs : List MV} {vs : List V} {k : κ} {y : MV} {u : V} (h : ks.length = xs.length) (r : RMs K w xs vs) (ry : RM K w y u) :
    ∃ us, putK (ks.zip vs) k u = (putM ks xs k y).1.zip us ∧ (putM ks xs k y).1.length = (putM ks xs k y).2.length ∧ RMs K w (putM ks xs k y).2 us := by
  unfold putK putM
  rw [look_any h r]
  by_cases q : (lookK ks xs k).isSome = true
  · rw [if_pos q, if_pos q]
    obtain ⟨us, h1, h2⟩ := set_rel ry h r (k := k)
    exact ⟨us, h1, by rw [setK_length h]; exact h, h2⟩
  · rw [if_neg q, if_neg q]
    refine ⟨vs ++ [u], ?_, by simp [h], r.append ⟨u, [], rfl, ry, rfl⟩⟩
    have hl := r.length
    rw [List.zip_append (by omega)]
    rfl
def OptR (K : PySem.W.Frag) (w : Wd) : Option MV → Option V → Prop
  | some x, u => ∃ v, u = some v ∧ RM K w x v
  | none, u => u = none
/-- what is looked up: the dict fixed or at a cell -/
def dGet (o k : MV) (m : Mo) : Option (Option MV) := match o with
  | .dK ks xs => (keyM k).map fun k => lookK ks xs k
  | .ref i => (match m[i]? with
    | some (.dK ks xs) => (keyM k).map fun k => lookK ks xs k
    | _ => none)
  | _ => none
theorem dget_rel (s : RS K w m H) {o k : MV} {vo vk : V} {r : Option MV} (ro : RM K w o vo) (rk : RM K w k vk) (h : dGet o k m = some r) : ∃ a u, vo = .ref a ∧ DGet H a vk u ∧ IsD H a ∧ OptR K w r u := by
  have fin : ∀ {a ks xs vs} {k0 : Key}, Rd H a (.dK (ks.zip vs)) → ks.length = xs.length → RMs K w xs vs → keyM k = some k0 → r = lookK ks xs k0 → ∃ u, DGet H a vk u ∧ IsD H a ∧ OptR K w r u := fun {a ks xs vs k0} hd hl rs hk hr => by
    refine ⟨valV (ks.zip vs) k0, .inl ⟨_, k0, hd, key_rel rk hk, rfl⟩, .inl ⟨_, hd⟩, ?_⟩
    obtain ⟨h1, h2⟩ := look_rel k0 hl rs
    rw [hr]
    cases q : lookK ks xs k0 with
    | none => exact h2 q
    | some x => exact h1 x q
  cases o with
  | dK ks xs =>
    unfold dGet at h
    dsimp only at h
    cases hk : keyM k with
    | none => rw [hk] at h; cases h
    | some k0 =>
      rw [hk] at h
      obtain ⟨a, vs, rfl, hd, hl, rs⟩ := ro
      have hd' : Rd H a (.dK (ks.zip vs)) := by
        rcases hd with hd | ⟨ob, hd⟩
        · exact .inl (s.fz _ _ hd)
        · exact .inr ⟨ob, s.fz _ _ hd⟩
      obtain ⟨u, a1, a2, a3⟩ := fin hd' hl rs hk (Option.some.inj h).symm
      exact ⟨a, u, rfl, a1, a2, a3⟩
  | ref i =>
    unfold dGet at h
    dsimp only at h
    split at h
    · rename_i ks xs e
      cases hk : keyM k with
      | none => rw [hk] at h; cases h
      | some k0 =>
        rw [hk] at h
        obtain ⟨a, rfl, _, vs, h4, hl, rs⟩ := s.at_ ro e (by intro z; cases z)
        obtain ⟨u, a1, a2, a3⟩ := fin (.inl h4) hl rs hk (Option.some.inj h).symm
        exact ⟨a, u, rfl, a1, a2, a3⟩
    · cases h
  | _ => cases h
end
section
variable {X : Cx} {W : WX} {o i v : Expr} {mo mi mv : ME} {pos : Pos}
def mDGet (mo mi : ME) : ME := mOp (fun o k m => match dGet o k m with
  | some (some x) => .ok x m
  | _ => .stuck) mo mi
theorem pm_dget (hu : X.A.units + 1 < cLine) (ho : PM X W o mo) (hi : PM X W i mi) (hs : NoSl i := by intro _ _; rfl) : PM X W (.Subscript o i pos) (mDGet mo mi) := by
  obtain ⟨t, h1, s1⟩ := ho
  obtain ⟨u, h2, s2⟩ := hi
  refine ⟨_, pe_dget hu h1 h2 hs, fun w m H e σ Q s q p => s1 w m H e σ _ s q (PostE.bind p fun o m1 w1 H1 vo l1 z1 r1 p1 => ?_)⟩
  refine s2 w1 m1 H1 e σ _ z1 (q.mono l1) (PostE.bind p1 fun k m2 w2 H2 vk l2 z2 r2 p2 => ?_)
  dsimp only at p2
  cases hg : dGet o k m2 with
  | none => rw [hg] at p2; exact p2.elim
  | some r =>
    rw [hg] at p2
    obtain ⟨a, u, rfl, h3, _, h4⟩ := dget_rel z2 (RM.mono l2 _ _ r1) r2 hg
    cases r with
    | none => exact p2.elim
    | some x =>
      obtain ⟨y, rfl, ry⟩ := h4
      exact ⟨a, y, rfl, h3, p2 w2 H2 y (.refl _) z2 ry⟩
def fDIn (k o : MV) (m : Mo) : Option Bool := (dGet o k m).map Option.isSome
def fDNotIn (k o : MV) (m : Mo) : Option Bool := (dGet o k m).map fun r => !r.isSome
theorem din_sim {K : PySem.W.Frag} {ty td : TE} {neg : Bool} (hi : SimE K W ty mi) (ho : SimE K W td mo) :
    SimE K W (fun σ H Q => ty σ H fun y H1 => td σ H1 fun x H2 => ∃ a o, x = .ref a ∧ DGet H2 a y o ∧ Q (.bl (if neg = true then !o.isSome else o.isSome)) H2) (mOp (oB fun k o m => (dGet o k m).map fun r => if neg = true then !r.isSome else r.isSome) mi mo) := by
  intro w m H e σ Q s q p
  refine hi w m H e σ _ s q (PostE.bind p fun k m1 w1 H1 vk l1 z1 r1 p1 => ?_)
  refine ho w1 m1 H1 e σ _ z1 (q.mono l1) (PostE.bind p1 fun o m2 w2 H2 vo l2 z2 r2 p2 => ?_)
  unfold oB at p2
  dsimp only at p2
  cases hg : dGet o k m2 with
  | none => rw [hg] at p2; exact p2.elim
  | some r =>
    rw [hg] at p2
    obtain ⟨a, u, rfl, h3, _, h4⟩ := dget_rel z2 r2 (RM.mono l2 _ _ r1) hg
    refine ⟨a, u, rfl, h3, ?_⟩
    have e : u.isSome = r.isSome := by
      cases r with
      | none => rw [show u = none from h4]; rfl
      | some x => obtain ⟨v, rfl, _⟩ := h4; rfl
    rw [e]
    exact p2 w2 H2 _ (.refl _) z2 rfl
theorem pm_din (hu : X.A.units + 1 < cLine) (hi : PM X W i mi) (ho : PM X W o mo) (hm : behindInMarks .In o = false := by with_unfolding_all rfl) : PM X W (.Compare i [.In] [o] pos) (mOp (oB fDIn) mi mo) := by
  obtain ⟨t, h1, s1⟩ := hi
  obtain ⟨u, h2, s2⟩ := ho
  exact ⟨_, pe_cmp (pc_din hu h1 h2) hm, din_sim (neg := false) s1 s2⟩
theorem pm_dnotin (hu : X.A.units + 1 < cLine) (hi : PM X W i mi) (ho : PM X W o mo) (hm : behindInMarks .NotIn o = false := by with_unfolding_all rfl) : PM X W (.Compare i [.NotIn] [o] pos) (mOp (oB fDNotIn) mi mo) := by
  obtain ⟨t, h1, s1⟩ := hi
  obtain ⟨u, h2, s2⟩ := ho
  exact ⟨_, pe_cmp (pc_dnotin hu h1 h2) hm, din_sim (neg := true) s1 s2⟩
/-- a comparison that gives a bool, as a test -/
theorem tB_sim {K : PySem.W.Frag} {te : TE} {f : MV → MV → Mo → Option Bool} {ma mb : ME} (h : SimE K W te (mOp (oB f) ma mb)) : SimT K W (tB te) (mOpB f ma mb) := by
  intro w m H e σ Q s q p
  refine h w m H e σ _ s q ?_
  unfold mOp
  unfold mOpB at p
  cases h1 : ma e m with
  | stuck => rw [h1] at p; exact p
  | exc y m1 => rw [h1] at p; exact p
  | ok x m1 =>
    rw [h1, R.bind_ok] at p
    rw [R.bind_ok]
    cases h2 : mb e m1 with
    | stuck => rw [h2] at p; exact p
    | exc y m2 => rw [h2] at p; exact p
    | ok y m2 =>
      rw [h2, R.bind_ok] at p
      rw [R.bind_ok]
      unfold oB
      cases h3 : f x y m2 with
      | none => rw [h3] at p; exact p
      | some b =>
        rw [h3] at p
        intro w' H' v l z r
        exact ⟨b, r, p w' H' l z⟩
theorem pmt_din (hu : X.A.units + 1 < cLine) (hi : PM X W i mi) (ho : PM X W o mo) (hm : behindInMarks .In o = false := by with_unfolding_all rfl) : PMT X W (.Compare i [.In] [o] pos) (mOpB fDIn mi mo) := by
  obtain ⟨t, h1, s1⟩ := hi
  obtain ⟨u, h2, s2⟩ := ho
  exact ⟨_, pt_cmp (pc_din hu h1 h2) hm, tB_sim (f := fDIn) (din_sim (neg := false) s1 s2)⟩
theorem pmt_dnotin (hu : X.A.units + 1 < cLine) (hi : PM X W i mi) (ho : PM X W o mo) (hm : behindInMarks .NotIn o = false := by with_unfolding_all rfl) : PMT X W (.Compare i [.NotIn] [o] pos) (mOpB fDNotIn mi mo) := by
  obtain ⟨t, h1, s1⟩ := hi
  obtain ⟨u, h2, s2⟩ := ho
  exact ⟨_, pt_cmp (pc_dnotin hu h1 h2) hm, tB_sim (f := fDNotIn) (din_sim (neg := true) s1 s2)⟩
/-- d.get(k, x) -/
def isDM (o : MV) (m : Mo) : Bool := match o with
  | .dK _ _ => true
  | .ref i => (match m[i]? with
    | some (.dK _ _) => true
    | _ => false)
  | _ => false
def mDGet2 (mo mi mv : ME) : ME := fun e m => (mo e m).bind fun o m1 => if isDM o m1 = true then (mi e m1).bind fun k m2 => (mv e m2).bind fun x m3 => match dGet o k m3 with
  | some (some y) => .ok y m3
  | some none => .ok x m3
  | none => .stuck
  else .stuck
theorem isDM_rel {K : PySem.W.Frag} {w : Wd} {m : Mo} {H : Hp} {x : MV} {vo : V} (s : RS K w m H) (ro : RM K w x vo) (h : isDM x m = true) : ∃ a, vo = .ref a ∧ IsD H a := by
  cases x with
  | dK ks xs =>
    obtain ⟨a, vs, rfl, hd, hl, rs⟩ := ro
    refine ⟨a, rfl, .inl ⟨ks.zip vs, ?_⟩⟩
    rcases hd with hd | ⟨ob, hd⟩
    · exact .inl (s.fz _ _ hd)
    · exact .inr ⟨ob, s.fz _ _ hd⟩
  | ref i =>
    unfold isDM at h
    dsimp only at h
    split at h
    · rename_i ks xs e
      obtain ⟨a, rfl, _, vs, h4, hl, rs⟩ := s.at_ ro e (by intro z; cases z)
      exact ⟨a, rfl, .inl ⟨_, .inl h4⟩⟩
    · cases h
  | _ => cases h
theorem pm_dget2 {apos : Pos} (hu : X.A.units + 1 < cLine) (ho : PM X W o mo) (hi : PM X W i mi) (hv : PM X W v mv) (hm : M2 X o "get" apos i v pos) : PM X W (.Call (.Attribute o "get" apos) [i, v] [] pos) (mDGet2 mo mi mv) := by
  obtain ⟨t, h1, s1⟩ := ho
  obtain ⟨u, h2, s2⟩ := hi
  obtain ⟨u3, h3, s3⟩ := hv
  refine ⟨_, pe_dget2 hu h1 h2 h3 hm, fun w m H e σ Q s q p => s1 w m H e σ _ s q (PostE.bind p fun o m1 w1 H1 vo l1 z1 r1 p1 => ?_)⟩
  split at p1
  · rename_i hd
    obtain ⟨a, rfl, h4⟩ := isDM_rel z1 r1 hd
    refine ⟨a, rfl, h4, s2 w1 m1 H1 e σ _ z1 (q.mono l1) (PostE.bind p1 fun k m2 w2 H2 vk l2 z2 r2 p2 => ?_)⟩
    refine s3 w2 m2 H2 e σ _ z2 (q.mono (l1.trans l2)) (PostE.bind p2 fun x m3 w3 H3 vx l3 z3 r3 p3 => ?_)
    cases hg : dGet o k m3 with
    | none => rw [hg] at p3; exact p3.elim
    | some r =>
      rw [hg] at p3
      obtain ⟨a', u, e', h5, _, h6⟩ := dget_rel z3 (RM.mono (l2.trans l3) _ _ r1) (RM.mono l3 _ _ r2) hg
      cases e'
      cases r with
      | none =>
        refine ⟨u, h5, ?_⟩
        rw [show u = none from h6]
        exact p3 w3 H3 vx (.refl _) z3 r3
      | some y =>
        obtain ⟨z, rfl, rz⟩ := h6
        exact ⟨_, h5, p3 w3 H3 z (.refl _) z3 rz⟩
  · exact p1.elim
/-- {} at a cell -/
def mDNewC : ME := fun _ m => .ok (.ref m.length) (m ++ [.dK [] []])
def mDNew : ME := fun _ m => .ok (.dK [] []) m
theorem pm_dnewC : PM X W (.Dict [] [] pos) mDNewC := by
  refine ⟨_, pe_dnewK, fun w m H e σ Q s q p a ha => ?_⟩
  obtain ⟨z2, l2⟩ := s.cell (o := .dK []) (c := .dK [] []) ha ⟨[], rfl, rfl, rfl⟩ rfl
  exact p _ _ _ l2 z2 ⟨a, rfl, by show (w.ι ++ [a])[m.length]? = some a; rw [← s.len]; simp⟩
theorem pm_dnew : PM X W (.Dict [] [] pos) mDNew := by
  refine ⟨_, pe_dnewK, fun w m H e σ Q s q p a ha => ?_⟩
  obtain ⟨z2, l2⟩ := s.new (o := .dK []) ha
  exact p _ _ _ l2 z2 ⟨a, [], rfl, .inl upd_same, rfl, rfl⟩
/-- d[k] = v, d at a cell -/
def dPutM (m : Mo) (o k x : MV) : Option Mo := match o with
  | .ref c => (match m[c]? with
    | some (.dK ks xs) => (match keyM k with
      | some k0 => if ks.length < 16777216 ∧ belows c (putM ks xs k0 x).2 = true then some (m.set c (.dK (putM ks xs k0 x).1 (putM ks xs k0 x).2)) else none
      | none => none)
    | _ => none)
  | _ => none
def mDPut (mv mo mi : ME) : MS := fun e m => (mv e m).bind fun x m1 => (mo e m1).bind fun o m2 => (mi e m2).bind fun k m3 => match dPutM m3 o k x with
  | some m4 => .ok (.next e) m4
  | none => .stuck
theorem dput_rel {K : PySem.W.Frag} {w : Wd} {m m4 : Mo} {H : Hp} {o k x : MV} {vo vk vx : V} (s : RS K w m H) (ro : RM K w o vo) (rk : RM K w k vk) (rx : RM K w x vx) (h : dPutM m o k x = some m4) : ∃ a H4, vo = .ref a ∧ DPut H a vk vx H4 ∧ RS K w m4 H4 := by
  cases o with
  | ref c =>
    unfold dPutM at h
    dsimp only at h
    split at h
    · rename_i ks xs e4
      cases hk : keyM k with
      | none => rw [hk] at h; cases h
      | some k0 =>
        rw [hk] at h
        dsimp only at h
        split at h
        · rename_i hb
          cases h
          obtain ⟨a, rfl, ha, vs, h4, hl, rs⟩ := s.at_ ro e4 (by intro z; cases z)
          obtain ⟨us, k1, k2, k3⟩ := put_rel (k := k0) hl rs rx
          have z3 := s.put (c := .dK (putM ks xs k0 x).1 (putM ks xs k0 x).2) (o := .dK ((putM ks xs k0 x).1.zip us)) e4 (by intro z; cases z) ha ⟨us, rfl, k2, k3⟩ hb.2
          refine ⟨a, _, rfl, .inl ⟨_, k0, h4, key_rel rk hk, ?_, rfl⟩, by rw [k1]; exact z3⟩
          rw [List.length_zip, rs.length, ← hl, sizeLine_eq]; simp; exact hb.1
        · cases h
    · cases h
  | _ => cases h
theorem pms_dput {pos' : Pos} (hu : X.A.units + 1 < cLine) (hv : PM X W v mv) (ho : PM X W o mo) (hi : PM X W i mi) (hs : swapsWith v (some (.Subscript o i pos')) pos.line X.env = pure false := by rfl) : PMS X W (.Assign [.Subscript o i pos'] v pos) (mDPut mv mo mi) := by
  obtain ⟨t, h1, s1⟩ := hv
  obtain ⟨u, h2, s2⟩ := ho
  obtain ⟨u3, h3, s3⟩ := hi
  refine ⟨_, ps_dput hu h2 h3 h1 hs, fun w m H e σ D s q p => s1 w m H e σ _ s q (PostE.bindS p fun x m1 w1 H1 vx l1 z1 r1 p1 => ?_)⟩
  refine s2 w1 m1 H1 e σ _ z1 (q.mono l1) (PostE.bindS p1 fun o m2 w2 H2 vo l2 z2 r2 p2 => ?_)
  refine s3 w2 m2 H2 e σ _ z2 (q.mono (l1.trans l2)) (PostE.bindS p2 fun k m3 w3 H3 vk l3 z3 r3 p3 => ?_)
  cases hp : dPutM m3 o k x with
  | none => rw [hp] at p3; exact p3.elim
  | some m4 =>
    rw [hp] at p3
    obtain ⟨a, H4, rfl, h4, z4⟩ := dput_rel z3 (RM.mono l3 _ _ r2) r3 (RM.mono (l2.trans l3) _ _ r1) hp
    exact ⟨a, H4, rfl, h4, p3 w3 H4 σ (.refl _) z4 (q.mono (l1.trans (l2.trans l3)))⟩
end

/-! ### a fixed dict walked -/
section
variable {K : PySem.W.Frag} {w : Wd} {m : Mo} {H : Hp} {d : Addr} {u : HO}
theorem upd_iff {F : Hp} {a d : Addr} {o v : HO} (h : upd F d o a = some v) : (a = d ∧ v = o) ∨ (a ≠ d ∧ F a = some v) := by
  by_cases z : a = d
  · subst z
    rw [upd_same] at h
    exact .inl ⟨rfl, (Option.some.inj h).symm⟩
  · rw [upd_ne z] at h
    exact .inr ⟨z, h⟩
/-- F with another object of the same reading at d -/
theorem HLw.swap {F : Hp} {o o' : HO} (hF : F d = some o) (hD : isD o = true) (hv : ∀ x, isP x = true → (o = x ∨ ∃ ob, o = .frz ob x) → (o' = x ∨ ∃ ob, o' = .frz ob x)) : HLw F (upd F d o') := by
  refine ⟨fun a x hx e => ?_, fun a x hx e => ?_⟩
  · have z : a ≠ d := fun z => by
      rw [z, hF] at e
      cases e
      rw [hD] at hx
      cases hx
    rw [upd_ne z]; exact e
  · by_cases z : a = d
    · subst z
      have : o = x ∨ ∃ ob, o = .frz ob x := by
        rcases e with e | ⟨ob, e⟩
        · rw [hF] at e; exact .inl (Option.some.inj e)
        · rw [hF] at e; exact .inr ⟨ob, Option.some.inj e⟩
      rcases hv x hx this with q | ⟨ob, q⟩
      · exact .inl (by rw [upd_same, q])
      · exact .inr ⟨ob, by rw [upd_same, q]⟩
    · rcases e with e | ⟨ob, e⟩
      · exact .inl (by rw [upd_ne z]; exact e)
      · exact .inr ⟨ob, by rw [upd_ne z]; exact e⟩
theorem RS.swapF (s : RS K w m H) {o o' : HO} (hF : w.F d = some o) (hl : HLw w.F (upd w.F d o')) : RS K { w with F := upd w.F d o' } m (upd H d o') := by
  have le : w.Lw { w with F := upd w.F d o' } := ⟨hl, ⟨[], by simp⟩⟩
  refine ⟨fun a x e => ?_, fun a x e => ?_, s.len, fun i c e l => ?_, s.inj⟩
  · rcases upd_iff e with ⟨rfl, rfl⟩ | ⟨z, e⟩
    · exact upd_same
    · rw [upd_ne z]; exact s.fz a x e
  · obtain ⟨g1, g2⟩ := s.gd a x e
    have z : a ≠ d := fun z => by
      rw [z, hF] at g2
      cases g2
    exact ⟨by rw [upd_ne z]; exact g1, by show upd w.F d o' a = none; rw [upd_ne z]; exact g2⟩
  · obtain ⟨a, h1, h2, h3, h4, h5, ob, h6⟩ := s.cel i c e l
    have z : a ≠ d := fun z => by
      rw [z, hF] at h2
      cases h2
    exact ⟨a, h1, by show upd w.F d o' a = none; rw [upd_ne z]; exact h2, h3, by rw [upd_ne z]; exact CellR.monoW le h4, h5, ob, by rw [upd_ne z]; exact h6⟩
/-- locked | let go -/
theorem HLw.lock {F : Hp} {kvs : List (Key × V)} {od : Obj} (hF : F d = some (.dK kvs)) : HLw F (upd F d (.frz od (.dK kvs))) := HLw.swap hF rfl fun x hx q => by
  rcases q with q | ⟨ob, q⟩
  · exact .inr ⟨od, by rw [q]⟩
  · cases q
theorem HLw.unlock {F : Hp} {kvs : List (Key × V)} {od : Obj} (hF : F d = some (.frz od (.dK kvs))) : HLw F (upd F d (.dK kvs)) := HLw.swap hF rfl fun x hx q => by
  rcases q with q | ⟨ob, q⟩
  · rw [← q] at hx
    cases hx
  · cases q
    exact .inl rfl
theorem HLe.lock {F : Hp} {kvs : List (Key × V)} {od : Obj} (hF : F d = some (.dK kvs)) : HLe F (upd F d (.frz od (.dK kvs))) := ⟨HLw.lock hF, fun a o u e => by
  have z : a ≠ d := fun z => by
    rw [z, hF] at e
    cases e
  rw [upd_ne z]; exact e⟩
theorem RM.swapF {x : MV} {v : V} {o : HO} (h : HLw w.F (upd w.F d o)) (r : RM K w x v) : RM K { w with F := upd w.F d o } x v := RM.monoW (w := w) (w' := { w with F := upd w.F d o }) ⟨h, ⟨[], by simp⟩⟩ x v r
theorem SR.swapF {e : Env} {σ : St} {o : HO} (h : HLw w.F (upd w.F d o)) (r : SR K w e σ) : SR K { w with F := upd w.F d o } e σ := ⟨r.1, fun i x q => by
  obtain ⟨v, a, b⟩ := r.2 i x q
  exact ⟨v, a, RM.swapF h b⟩⟩
/-- behind a stretch that began with the dict at d locked -/
theorem unlocked {w1 : Wd} {m1 : Mo} {H1 : Hp} {kvs : List (Key × V)} {od : Obj} (hF : w.F d = some (.dK kvs)) (l : ({ w with F := upd w.F d (.frz od (.dK kvs)) } : Wd).Le w1) (z : RS K w1 m1 H1) :
    H1 d = some (.frz od (.dK kvs)) ∧ HLw w1.F (upd w1.F d (.dK kvs)) ∧ RS K { w1 with F := upd w1.F d (.dK kvs) } m1 (upd H1 d (.dK kvs)) ∧ w.Le { w1 with F := upd w1.F d (.dK kvs) } := by
  have f1 : w1.F d = some (.frz od (.dK kvs)) := l.f.z d od _ upd_same
  have hw := HLw.unlock f1
  refine ⟨z.fz _ _ f1, hw, z.swapF f1 hw, ⟨⟨⟨fun a u hu e => ?_, fun a u hu e => ?_⟩, fun a o u e => ?_⟩, l.i, l.g⟩⟩
  · have ne : a ≠ d := fun q => by
      rw [q, hF] at e
      cases e
      cases hu
    show upd w1.F d (.dK kvs) a = some u
    rw [upd_ne ne]
    exact l.f.w.1 a u hu (by show upd w.F d _ a = some u; rw [upd_ne ne]; exact e)
  · exact hw.2 a u hu (l.f.w.2 a u hu ((HLw.lock hF).2 a u hu e))
  · have ne : a ≠ d := fun q => by
      rw [q, hF] at e
      cases e
    show upd w1.F d (.dK kvs) a = _
    rw [upd_ne ne]
    exact l.f.z a o u (by show upd w.F d _ a = _; rw [upd_ne ne]; exact e)
theorem jr_k {ks : List Key} {vs : List V} {od : Obj} (hF : w.F d = some (.frz od (.dK (ks.zip vs)))) (hl : vs.length = ks.length) : JR K (Itk d od (ks.zip vs)) (ks.map kM) w := fun i w' m H l s => by
  have f1 : H d = some (.frz od (.dK (ks.zip vs))) := s.fz _ _ (l.f.z d od _ hF)
  have len : (ks.zip vs).length = ks.length := by rw [List.length_zip]; omega
  refine ⟨fun x hx => ?_, fun h => ⟨f1, by rw [len]; simpa using h⟩⟩
  rw [List.getElem?_map] at hx
  cases hk : ks[i]? with
  | none => rw [hk] at hx; cases hx
  | some k =>
    rw [hk] at hx
    have hi : i < ks.length := (List.getElem?_eq_some_iff.mp hk).1
    refine ⟨⟨f1, by rw [len]; exact hi⟩, fun v H3 ⟨e, k', v', e2, e3⟩ => ?_⟩
    subst e
    refine ⟨w', .refl _, s, ?_⟩
    have : k' = k := by
      have hz : (ks.zip vs)[i]? = some (k, vs[i]) := by
        rw [List.getElem?_zip_eq_some]
        exact ⟨hk, by simp [show i < vs.length by omega]⟩
      rw [hz] at e2
      cases e2
      rfl
    rw [← (show kM k = x from Option.some.inj hx), e3, this]
    exact kM_rel k
theorem PS.or {X : Cx} {st : Stmt} {t u : TS} (h : PS X st t) (k : PS X st u) : PS X st (fun D σ H => t D σ H ∨ u D σ H) := ⟨fun pins s σ H D I q => q.elim (h.run pins s σ H D I) (k.run pins s σ H D I)⟩
theorem PE.or {X : Cx} {e : Expr} {t u : TE} (h : PE X e t) (k : PE X e u) : PE X e (fun σ H Q => t σ H Q ∨ u σ H Q) := ⟨fun pins s σ H Q I q => q.elim (h.run pins s σ H Q I) (k.run pins s σ H Q I)⟩
end
/-- what a statement over a fixed dict's keys needs: its walk, the dict locked there -/
def iKeysM (i : Nat) : MI := fun e m => match e[i]? with
  | some (some (.dK ks _)) => .ok (ks.map kM) m
  | _ => .stuck
theorem forL_sim {X : Cx} {W : WX} {body : List Stmt} {mg : MG} {ms : MS} {g : TG} {t : TS} (s2 : SimG X.K W g mg) (s3 : SimS X.K W t ms) {w1 : Wd} {m1 : Mo} {H1 : Hp} {J : It} {e : Env} {σ : St} {D : Ends} {xs : List MV} (z1 : RS X.K w1 m1 H1) (q : SR X.K w1 e σ) (jr : JR X.K J xs w1) (p1 : PostS X.K W D w1 (forL mg ms xs e m1)) :
    ∃ W' : Nat → Nat → St → Hp → Prop, (∃ m, W' 0 m σ H1) ∧ ∀ i m σ H, W' i m σ H → (J.stop i H ∧ D.nx σ H) ∨ (J.go i H ∧ ∃ N : St → Hp → Prop, (∀ σ' H', N σ' H' → ∃ m', m' < m ∧ W' (i + 1) m' σ' H') ∧ ∀ x H', J.yld i H x H' → g x σ H' fun σ2 H2 => t { D with nx := N, ct := N, bk := D.nx } σ2 H2) := by
  refine ⟨fun i k σ' H' => ∃ w' m' e', w1.Le w' ∧ RS X.K w' m' H' ∧ SR X.K w' e' σ' ∧ k = xs.length - i ∧ i ≤ xs.length ∧ PostS X.K W D w' (forL mg ms (xs.drop i) e' m'),
    ⟨_, w1, m1, e, .refl _, z1, q, rfl, Nat.zero_le _, p1⟩, ?_⟩
  rintro i k σ' H' ⟨w', m', e', l', z', y', rfl, hi, p'⟩
  obtain ⟨jg, js⟩ := jr i w' m' H' l'.lf z'
  by_cases hlt : i < xs.length
  · have hx : xs[i]? = some xs[i] := by simp [hlt]
    obtain ⟨go, yl⟩ := jg _ hx
    have hd : xs.drop i = xs[i] :: xs.drop (i + 1) := List.drop_eq_getElem_cons hlt
    rw [hd] at p'
    refine .inr ⟨go, fun σ2 H2 => ∃ w2 m2 e2, w1.Le w2 ∧ RS X.K w2 m2 H2 ∧ SR X.K w2 e2 σ2 ∧ PostS X.K W D w2 (forL mg ms (xs.drop (i + 1)) e2 m2), fun σ2 H2 ⟨w2, m2, e2, a, b, c, d⟩ => ⟨xs.length - (i + 1), by omega, w2, m2, e2, a, b, c, rfl, hlt, d⟩, fun v H3 hy => ?_⟩
    obtain ⟨w3, l3, z3, r3⟩ := yl v H3 hy
    have p3 : PostS X.K W D w3 ((mg xs[i] e' m').bind fun e1 m1 => (ms e1 m1).bind fun f m2 => match f with
      | .next e2 => forL mg ms (xs.drop (i + 1)) e2 m2
      | .cont e2 => forL mg ms (xs.drop (i + 1)) e2 m2
      | .brk e2 => .ok (.next e2) m2
      | .ret v => .ok (.ret v) m2) := PostS.mono l3 p'
    refine s2 w3 m' H3 e' σ' xs[i] v _ z3 (y'.mono l3) r3 (PostG.bindS p3 fun e4 m4 w4 H4 σ4 l4 z4 y4 p4 => ?_)
    refine s3 w4 m4 H4 e4 σ4 _ z4 y4 ?_
    have lw : w1.Le w4 := (l'.trans l3).trans l4
    cases hb : ms e4 m4 with
    | stuck => rw [hb] at p4; exact p4
    | exc y m5 => rw [hb] at p4; exact p4
    | ok f m5 =>
      rw [hb] at p4
      cases f with
      | next e5 => exact fun w5 H5 σ5 l5 z5 y5 => ⟨w5, m5, e5, lw.trans l5, z5, y5, PostS.mono l5 p4⟩
      | cont e5 => exact fun w5 H5 σ5 l5 z5 y5 => ⟨w5, m5, e5, lw.trans l5, z5, y5, PostS.mono l5 p4⟩
      | brk e5 => exact p4
      | ret v5 => exact p4
  · have hd : xs.drop i = [] := List.drop_eq_nil_of_le (by omega)
    rw [hd] at p'
    exact .inl ⟨js (by omega), p' w' H' σ' (.refl _) z' y'⟩
def mForD (i : Nat) (mg : MG) (ms : MS) : MS := fun e m => (mFor (iKeysM i) mg ms e m).nox
theorem pms_forD {X : Cx} {W : WX} {tg : Expr} {body : List Stmt} {mg : MG} {ms : MS} {x : Str} {px pos : Pos} (i : Nat) (hp : PassesOwn (model X.prog X.w) X.A X.env X.xe) (hc : X.calm = true) (hg : PMG X W tg mg) (hb : PMSs X W body ms)
    (hN : X.N[i]? = some x := by rfl) (hv : Vis X.env.scope x := by first | exact Or.inl rfl | exact Or.inr (Or.inl rfl) | exact Or.inr (Or.inr rfl)) (hd : (x == ("__debug__" : Str)) = false := by decide) (hcd : (x == ("__classdict__" : Str)) = false := by decide)
    (hs : ∀ z, foldedSetIterable (.Name x px) X.env z = pure z := by intro _; rfl) : PMS X W (.For tg (.Name x px) body [] pos) (mForD i mg ms) := by
  obtain ⟨g, h2, s2⟩ := hg
  obtain ⟨t, h3, s3⟩ := hb
  have h0 := ps_for (pos := pos) hp hc (pi_keys (tg := tg) (pe_var (pos := px) hN hv hd hcd)) h2 h3 hs
  refine ⟨_, PS.or (ps_lock h0) h0, fun w m H e σ D s q p => ?_⟩
  unfold mForD mFor iKeysM at p
  split at p
  · rename_i ks xs hx
    obtain ⟨v, hσ, a, vs, rfl, hd, hl, rs⟩ := q.2 i _ hx
    have hlen := rs.length
    rcases hd with hd | ⟨od, hd⟩
    · refine .inl ⟨a, _, s.fz _ _ hd, True.intro, fun od => ⟨.ref a, hσ, a, od, rfl, .inl ⟨_, upd_same, ?_⟩⟩⟩
      have hlk := HLw.lock (od := od) hd
      have s1 := s.swapF (o' := .frz od (.dK (ks.zip vs))) hd hlk
      refine forL_sim (X := X) (W := W) (body := body) s2 s3 s1 (q.swapF hlk) (jr_k (w := { w with F := upd w.F a (.frz od (.dK (ks.zip vs))) }) upd_same (by omega)) ?_
      have p' : PostS X.K W D w (forL mg ms (ks.map kM) e m).nox := p
      cases hr : forL mg ms (ks.map kM) e m with
      | stuck => rw [hr] at p'; exact p'
      | exc y m1 => rw [hr] at p'; exact p'.elim
      | ok f m1 =>
        rw [hr] at p'
        cases f with
        | next e1 =>
          intro w1 H1 σ1 l1 z1 y1
          obtain ⟨u1, u2, u3, u4⟩ := unlocked hd l1 z1
          exact ⟨u1, p' _ _ σ1 u4 u3 (y1.swapF u2)⟩
        | ret x =>
          intro w1 H1 v l1 z1 y1
          obtain ⟨u1, u2, u3, u4⟩ := unlocked hd l1 z1
          exact ⟨u1, p' _ _ v u4 u3 (RM.swapF u2 y1)⟩
        | brk e1 =>
          intro w1 H1 σ1 l1 z1 y1
          obtain ⟨u1, u2, u3, u4⟩ := unlocked hd l1 z1
          exact ⟨u1, p' _ _ σ1 u4 u3 (y1.swapF u2)⟩
        | cont e1 =>
          intro w1 H1 σ1 l1 z1 y1
          obtain ⟨u1, u2, u3, u4⟩ := unlocked hd l1 z1
          exact ⟨u1, p' _ _ σ1 u4 u3 (y1.swapF u2)⟩
    · refine .inr ⟨.ref a, hσ, a, od, rfl, .inl ⟨_, s.fz _ _ hd, ?_⟩⟩
      refine forL_sim (X := X) (W := W) (body := body) s2 s3 s q (jr_k hd (by omega)) ?_
      have p' : PostS X.K W D w (forL mg ms (ks.map kM) e m).nox := p
      cases hr : forL mg ms (ks.map kM) e m with
      | stuck => rw [hr] at p'; exact p'
      | exc y m1 => rw [hr] at p'; exact p'.elim
      | ok f m1 => rw [hr] at p'; exact p'
  · exact p.elim
end ML
set_option Elab.async false
set_option linter.all false
set_option maxRecDepth 100000
set_option maxHeartbeats 2000000
namespace ML
open PySem PySem.Spec PyProof.Rows L2

/-! ### dict comprehensions -/
abbrev KD := List Key × List MV
def dcL (mg : MG) (mt : MT) (mk mv : ME) (e0 : Env) : List MV → KD → Mo → R KD
  | [], acc, m => .ok acc m
  | x :: xs, acc, m => (mg x e0 m).bind fun e1 m1 => (mt e1 m1).bind fun b m2 => if b = true then (mk e1 m2).bind fun k m3 => (mv e1 m3).bind fun y m4 => match keyM k with
    | some k0 => dcL mg mt mk mv e0 xs (putM acc.1 acc.2 k0 y) m4
    | none => .stuck
    else dcL mg mt mk mv e0 xs acc m2
def PostDD (Q : VK) (K : PySem.W.Frag) (D : Addr) (w : Wd) : R KD → Prop
  | .ok acc m' => ∀ w' H' vs, w.Le w' → RS K { w' with G := upd w'.G D (.dK (acc.1.zip vs)) } m' H' → acc.1.length = acc.2.length → RMs K w' acc.2 vs → Q (.ref D) H'
  | _ => False
theorem PostDD.mono {Q : VK} {K : PySem.W.Frag} {D : Addr} {w w1 : Wd} {r : R KD} (l : w.Le w1) (h : PostDD Q K D w r) : PostDD Q K D w1 r := by
  cases r with
  | ok acc m => exact fun w' H' vs l' => h w' H' vs (l.trans l')
  | exc e m => exact h
  | stuck => exact h
theorem putM_len {ks : List Key} {xs : List MV} {k : Key} {y : MV} : (putM ks xs k y).1.length ≤ ks.length + 1 := by
  unfold putM
  split
  · exact Nat.le_succ _
  · simp
theorem dc_loop {K : PySem.W.Frag} {g : TG} {tt : TT} {tk tv : TE} {mg : MG} {mt : MT} {mk mv : ME} {vs : List Nat} {J : It} {Q : VK} {w1 : Wd} {m1 : Mo} {H1 : Hp} {e : Env} {σ : St} {xs : List MV}
    (hg : SimG K W0 g mg) (hk : Keeps g vs) (ht : SimT K W0 tt mt) (hy : SimE K W0 tk mk) (he : SimE K W0 tv mv) (jr : JR K J xs w1) (z1 : RS K w1 m1 H1) (q : SR K w1 e σ) (hz : xs.length ≤ 16777216)
    (p : ∀ D, H1 D = none → PostDD Q K D w1 (dcL mg mt mk mv (mwipe e vs) xs ([], []) m1).nox) (D : Addr) (hD : H1 D = none) :
    ∃ W : Nat → Nat → Hp → Prop, (∃ m, W 0 m (upd H1 D (.dK []))) ∧ ∀ i m H, W i m H → (J.stop i H ∧ Q (.ref D) H) ∨ (J.go i H ∧ ∃ Nx : Hp → Prop, (∀ H', Nx H' → ∃ m', m' < m ∧ W (i + 1) m' H') ∧
      ∀ x H', J.yld i H x H' → g x (L2.wipe σ vs) H' fun σ2 H2 => L2.wipe σ2 vs = L2.wipe σ vs ∧ tt σ2 H2 fun b H3 =>
        if b = true then tk σ2 H3 fun y H4 => tv σ2 H4 fun z H5 => ∃ kvs k, y = kV k ∧ H5 D = some (.dK kvs) ∧ kvs.length < sizeLine ∧ Nx (upd H5 D (.dK (putK kvs k z))) else Nx H3) := by
  have hG1 : w1.G D = none := by
    cases g : w1.G D with
    | none => rfl
    | some u =>
      rw [(z1.gd D u g).1] at hD
      cases hD
  have start : RS K { w1 with G := upd w1.G D (.dK []) } m1 (upd H1 D (.dK [])) := z1.aside hD
  let Inv := fun (i : Nat) (H : Hp) => ∃ w' m' acc vacc, w1.Le w' ∧ RS K { w' with G := upd w'.G D (.dK (acc.1.zip vacc)) } m' H ∧ acc.1.length = acc.2.length ∧ RMs K w' acc.2 vacc ∧ acc.1.length ≤ i ∧ PostDD Q K D w' (dcL mg mt mk mv (mwipe e vs) (xs.drop i) acc m').nox
  refine ⟨fun i k H => k = xs.length - i ∧ i ≤ xs.length ∧ Inv i H, ⟨_, rfl, Nat.zero_le _, w1, m1, ([], []), [], .refl _, start, rfl, rfl, Nat.zero_le _, p D hD⟩, ?_⟩
  rintro i k H ⟨rfl, hi, w', m', acc, vacc, l', z', hac, ra, hal, p'⟩
  have hG' : w'.G D = none := by rw [l'.g]; exact hG1
  have la : w1.Lf { w' with G := upd w'.G D (.dK (acc.1.zip vacc)) } := ⟨l'.f, l'.i⟩
  by_cases hlt : i < xs.length
  · have hx : xs[i]? = some xs[i] := by simp [hlt]
    have hd : xs.drop i = xs[i] :: xs.drop (i + 1) := List.drop_eq_getElem_cons hlt
    rw [hd] at p'
    obtain ⟨go, yl⟩ := (jr i { w' with G := upd w'.G D (.dK (acc.1.zip vacc)) } m' H la z').1 _ hx
    refine .inr ⟨go, fun H' => Inv (i + 1) H', fun H' h' => ⟨xs.length - (i + 1), by omega, rfl, hlt, h'⟩, fun v H2 hyy => ?_⟩
    obtain ⟨w2, l2, z2, r2⟩ := yl v H2 hyy
    have q2 : SR K w2 (mwipe e vs) (L2.wipe σ vs) := ((q.wipe vs).monoF la).mono l2
    have hw : L2.wipe (L2.wipe σ vs) vs = L2.wipe σ vs := wipe_wipe fun _ h => h
    have back : ∀ {w3 : Wd}, w2.Le w3 → w3.G = upd w'.G D (.dK (acc.1.zip vacc)) ∧ w'.Le { w3 with G := w'.G } := fun {w3} l3 => ⟨l3.g.trans l2.g, ⟨l2.f.trans l3.f, by
        obtain ⟨t, e1⟩ := l2.i
        obtain ⟨t', e2⟩ := l3.i
        exact ⟨t ++ t', by show w3.ι = w'.ι ++ (t ++ t'); rw [e2, e1, List.append_assoc]⟩, rfl⟩⟩
    have fin : ∀ {w3 : Wd} {m3 : Mo} {H3 : Hp}, w2.Le w3 → RS K w3 m3 H3 → PostDD Q K D w' (dcL mg mt mk mv (mwipe e vs) (xs.drop (i + 1)) acc m3).nox → Inv (i + 1) H3 := fun {w3 m3 H3} l3 z3 p3 => by
      obtain ⟨g3, l4⟩ := back l3
      refine ⟨{ w3 with G := w'.G }, m3, acc, vacc, l'.trans l4, ?_, hac, RMs.mono l4 _ _ ra, by omega, PostDD.mono l4 p3⟩
      show RS K { w3 with G := upd w'.G D (.dK (acc.1.zip vacc)) } m3 H3
      rw [← g3]
      exact z3
    have fin2 : ∀ {w3 : Wd} {m3 : Mo} {H3 : Hp} {y : MV} {u : V} {k0 : Key}, w2.Le w3 → RS K w3 m3 H3 → RM K w3 y u → PostDD Q K D w' (dcL mg mt mk mv (mwipe e vs) (xs.drop (i + 1)) (putM acc.1 acc.2 k0 y) m3).nox →
        ∃ ac, H3 D = some (.dK ac) ∧ ac.length < sizeLine ∧ Inv (i + 1) (upd H3 D (.dK (putK ac k0 u))) := fun {w3 m3 H3 y u k0} l3 z3 ry p3 => by
      obtain ⟨g3, l4⟩ := back l3
      have hD3 : H3 D = some (.dK (acc.1.zip vacc)) := (z3.gd D _ (by rw [g3]; exact upd_same)).1
      have ra4 := RMs.mono l4 _ _ ra
      have ry4 : RM K { w3 with G := w'.G } y u := RM.monoF (w := w3) (w' := { w3 with G := w'.G }) ⟨HLe.refl _, ⟨[], by simp⟩⟩ _ _ ry
      obtain ⟨us, k1, k2, k3⟩ := put_rel (k := k0) hac ra4 ry4
      have hl2 := ra.length
      have := putM_len (ks := acc.1) (xs := acc.2) (k := k0) (y := y)
      refine ⟨_, hD3, by rw [List.length_zip, hl2, ← hac, sizeLine_eq]; simp; omega, { w3 with G := w'.G }, m3, putM acc.1 acc.2 k0 y, us, l'.trans l4, ?_, k2, k3, by omega, PostDD.mono l4 p3⟩
      rw [k1]
      show RS K { w3 with G := upd w'.G D (.dK ((putM acc.1 acc.2 k0 y).1.zip us)) } m3 (upd H3 D (.dK ((putM acc.1 acc.2 k0 y).1.zip us)))
      refine RS.asidePut (w := { w3 with G := w'.G }) (o := .dK (acc.1.zip vacc)) ?_
      show RS K { w3 with G := upd w'.G D (.dK (acc.1.zip vacc)) } m3 H3
      rw [← g3]
      exact z3
    have p2 : PostDD Q K D w' ((mg xs[i] (mwipe e vs) m').bind fun e1 m1 => (mt e1 m1).bind fun b m2 => if b = true then (mk e1 m2).bind fun k m3 => (mv e1 m3).bind fun y m4 => match keyM k with
      | some k0 => dcL mg mt mk mv (mwipe e vs) (xs.drop (i + 1)) (putM acc.1 acc.2 k0 y) m4
      | none => .stuck
      else dcL mg mt mk mv (mwipe e vs) (xs.drop (i + 1)) acc m2).nox := p'
    refine cast (by rw [hw]) (hk v (L2.wipe σ vs) H2 (fun σ2 H3 => tt σ2 H3 fun b H4 => if b = true then tk σ2 H4 fun y H5 => tv σ2 H5 fun z H6 => ∃ kvs k, y = kV k ∧ H6 D = some (.dK kvs) ∧ kvs.length < sizeLine ∧ Inv (i + 1) (upd H6 D (.dK (putK kvs k z))) else Inv (i + 1) H4) ?_)
    refine hg w2 m' H2 (mwipe e vs) (L2.wipe σ vs) xs[i] v _ z2 q2 r2 ?_
    cases h1 : mg xs[i] (mwipe e vs) m' with
    | stuck => rw [h1] at p2; exact p2
    | exc y m3 => rw [h1] at p2; exact p2.elim
    | ok e1 m3 =>
      rw [h1] at p2
      intro w3 H3 σ3 l3 z3 q3
      refine ht w3 m3 H3 e1 σ3 _ z3 q3 ?_
      rw [R.bind_ok] at p2
      cases h2 : mt e1 m3 with
      | stuck => rw [h2] at p2; exact p2
      | exc y m4 => rw [h2] at p2; exact p2.elim
      | ok b m4 =>
        rw [h2, R.bind_ok] at p2
        intro w4 H4 l4 z4
        cases b with
        | false => exact fin (l3.trans l4) z4 p2
        | true =>
          rw [if_pos rfl] at p2
          show tk σ3 H4 _
          refine hy w4 m4 H4 e1 σ3 _ z4 (q3.mono l4) ?_
          cases h3 : mk e1 m4 with
          | stuck => rw [h3] at p2; exact p2
          | exc y m5 => rw [h3] at p2; exact p2.elim
          | ok k m5 =>
            rw [h3, R.bind_ok] at p2
            intro w5 H5 uk l5 z5 r5
            refine he w5 m5 H5 e1 σ3 _ z5 (q3.mono (l4.trans l5)) ?_
            cases h4 : mv e1 m5 with
            | stuck => rw [h4] at p2; exact p2
            | exc y m6 => rw [h4] at p2; exact p2.elim
            | ok y m6 =>
              rw [h4, R.bind_ok] at p2
              intro w6 H6 u l6 z6 r6
              cases hkk : keyM k with
              | none => rw [hkk] at p2; exact p2.elim
              | some k0 =>
                rw [hkk] at p2
                obtain ⟨ac, a1, a2, a3⟩ := fin2 (((l3.trans l4).trans l5).trans l6) z6 r6 p2
                exact ⟨ac, k0, key_rel r5 hkk, a1, a2, a3⟩
  · have hd : xs.drop i = [] := List.drop_eq_nil_of_le (by omega)
    rw [hd] at p'
    refine .inl ⟨(jr i { w' with G := upd w'.G D (.dK (acc.1.zip vacc)) } m' H la z').2 (by omega), ?_⟩
    exact p' w' H vacc (.refl _) z' hac ra
/-- {k: v for .. in d}, d the fixed dict at slot i: a fixed dict -/
def mDc (mi : MI) (mg : MG) (mt : MT) (mk mv : ME) (vs : List Nat) : ME := fun e m => (mi e m).bind fun xs m1 => if xs.length ≤ 16777216 then ((dcL mg mt mk mv (mwipe e vs) xs ([], []) m1).nox).bind fun acc m2 => .ok (.dK acc.1 acc.2) m2 else .stuck
theorem ps_setDc {X : Cx} {i : Nat} {y : Str} {py : Pos} {kx vx tg iter : Expr} {ifs : List Expr} {scope : Scope} {own : List (Str × Nat)} {pos spos : Pos} {wi : TI} {g : TG} {tt : TT} {tk tv : TE} (hc : X.calm = true) (hN : X.N.Nodup) (hy : X.N[i]? = some y) (hyl : X.env.scope.names.lookup y = some .local)
    (hsw : swapsWith (.DictComp kx vx [⟨tg, iter, ifs, 0⟩] scope pos) (some (.Name y py)) spos.line X.env = pure true) (hi : PI X tg iter wi) (ok : BlkOk X.N X.env.scope scope own)
    (hg : ∀ s H C cl fp, PG (Blk X scope s H C cl fp) tg g) (ht : ∀ s H C cl fp, PTs (Blk X scope s H C cl fp) ifs tt) (hk : ∀ s H C cl fp, PE (Blk X scope s H C cl fp) kx tk) (he : ∀ s H C cl fp, PE (Blk X scope s H C cl fp) vx tv)
    (hs : ∀ x, foldedSetIterable iter X.env x = pure x := by intro _; rfl) : PS X (.Assign [.Name y py] (.DictComp kx vx [⟨tg, iter, ifs, 0⟩] scope pos) spos) (tAsg (tDc wi g tt tk tv (own.map (·.2))) (gName i)) := by
  constructor
  intro pins s σ H D I h
  rw [exec_Assign_Name_used _ _ _ _ hsw]
  refine wpAny_bind (wpAny_standAt (wpAny_bind ?_))
  have h' : tDc wi g tt tk tv (own.map (·.2)) σ H (fun x H1 => gName i x σ H1 D.nx) := h
  show wpAny _ X.A (do let _ ← comprehension (.DictComp kx vx [⟨tg, iter, ifs, 0⟩] scope pos) scope X.env (firstIterPos [⟨tg, iter, ifs, 0⟩] pos) newDict false (eval iter X.env) (some (assign (.Name y py) X.env))) _ _ s
  refine wpAny_bind (thn (dc_core (Qf := fun _ s2 => SP X pins D .next s2) hc hN I hi ok hg ht hk he hs h' fun L C s2 m H2 I2 q hn f => ?_) fun _ s2 hq => wpAny_pure (wpAny_pure hq))
  obtain ⟨f0, f1, f2, f3, f4, f5⟩ := f
  show wpAny _ _ (assign (.Name y py) X.env (.ref L)) _ _ _
  refine wpAny_assign_Name (store_ok2 (v := V.ref L) I2 hN hy (.inl hyl) rfl (fun s3 I3 ⟨a, sb, ha⟩ => ⟨m, hn.sameBut sb ?_, fun h4 sb4 => ⟨_, H2, I3.turned (t' := s3.toks) (fun b o hb e => (sb4.2 b hb).trans e) f0 f1 f3 f4 f5, q⟩⟩) (.inr hyl))
  rcases ha with z | z
  · rw [z]; exact f1
  · exact fun e => f4 y a z e.symm
theorem sim_dc_core {K : PySem.W.Frag} {wi : TI} {g : TG} {tt : TT} {tk tv : TE} {mg : MG} {mt : MT} {mk mv : ME} {vs : List Nat} {J : It} {Q : VK} {w1 : Wd} {m1 : Mo} {H1 : Hp} {e : Env} {σ : St} {xs : List MV}
    (hg : SimG K W0 g mg) (hk : Keeps g vs) (ht : SimT K W0 tt mt) (hy : SimE K W0 tk mk) (he : SimE K W0 tv mv) (jr : JR K J xs w1) (z1 : RS K w1 m1 H1) (q : SR K w1 e σ) (hz : xs.length ≤ 16777216)
    (p : match (dcL mg mt mk mv (mwipe e vs) xs ([], []) m1).nox with
      | .ok acc m2 => ∀ w' H' v, w1.Le w' → RS K w' m2 H' → RM K w' (.dK acc.1 acc.2) v → Q v H'
      | _ => False) (D : Addr) (hD : H1 D = none) : ∃ W : Nat → Nat → Hp → Prop, (∃ m, W 0 m (upd H1 D (.dK []))) ∧ ∀ i m H, W i m H → (J.stop i H ∧ Q (.ref D) H) ∨ (J.go i H ∧ ∃ Nx : Hp → Prop, (∀ H', Nx H' → ∃ m', m' < m ∧ W (i + 1) m' H') ∧
      ∀ x H', J.yld i H x H' → g x (L2.wipe σ vs) H' fun σ2 H2 => L2.wipe σ2 vs = L2.wipe σ vs ∧ tt σ2 H2 fun b H3 =>
        if b = true then tk σ2 H3 fun y H4 => tv σ2 H4 fun z H5 => ∃ kvs k, y = kV k ∧ H5 D = some (.dK kvs) ∧ kvs.length < sizeLine ∧ Nx (upd H5 D (.dK (putK kvs k z))) else Nx H3) := by
  refine dc_loop hg hk ht hy he jr z1 q hz (fun D hD => ?_) D hD
  have hG1 : w1.G D = none := by
    cases g : w1.G D with
    | none => rfl
    | some u =>
      rw [(z1.gd D u g).1] at hD
      cases hD
  cases hc : (dcL mg mt mk mv (mwipe e vs) xs ([], []) m1).nox with
  | stuck => rw [hc] at p; exact p
  | exc y m2 => rw [hc] at p; exact p
  | ok acc m2 =>
    rw [hc] at p
    intro w2 H2 us l2 s2 hl r2
    obtain ⟨z3, l3⟩ := s2.asideF (by rw [l2.g]; exact hG1)
    exact p _ _ _ (l2.trans l3) z3 ⟨D, us, rfl, .inl upd_same, hl, RMs.mono l3 _ _ r2⟩
theorem pms_setDcD {X : Cx} {W : WX} {y x : Str} {py px pos spos : Pos} {kx vx tg : Expr} {ifs : List Expr} {scope : Scope} {own : List (Str × Nat)} {mt : MT} {mk mv : ME} {i j l : Nat} (hc : X.calm = true) (hN : X.N.Nodup) (hy : X.N[i]? = some y) (hyl : X.env.scope.names.lookup y = some .local)
    (hsw : swapsWith (.DictComp kx vx [⟨tg, .Name x px, ifs, 0⟩] scope pos) (some (.Name y py)) spos.line X.env = pure true) (hl : X.N[l]? = some x) (hv : Vis X.env.scope x) (ok : BlkOk X.N X.env.scope scope own) (hj : j ∈ own.map (·.2))
    (hg : ∀ s H C cl fp, PG (Blk X scope s H C cl fp) tg (gName j)) (ht : ∀ s H C cl fp, PMTs (Blk X scope s H C cl fp) W0 ifs mt) (hk : ∀ s H C cl fp, PM (Blk X scope s H C cl fp) W0 kx mk) (he : ∀ s H C cl fp, PM (Blk X scope s H C cl fp) W0 vx mv)
    (hd : (x == ("__debug__" : Str)) = false := by decide) (hcd : (x == ("__classdict__" : Str)) = false := by decide) (hs : ∀ z, foldedSetIterable (.Name x px) X.env z = pure z := by intro _; rfl) :
    PMS X W (.Assign [.Name y py] (.DictComp kx vx [⟨tg, .Name x px, ifs, 0⟩] scope pos) spos) (mSet i (mDc (iKeysM l) (gSet j) mt mk mv (own.map (·.2)))) := by
  have h0 := ps_setDc (g := gName j) (tt := tUT X.K W0 mt) (tk := tU X.K W0 mk) (tv := tU X.K W0 mv) hc hN hy hyl hsw (pi_keys (tg := tg) (pe_var (pos := px) hl hv hd hcd)) ok hg ht (fun s H C cl fp => (hk s H C cl fp).pe) (fun s H C cl fp => (he s H C cl fp).pe) hs
  refine ⟨_, PS.or (ps_lock h0) h0, fun w m H e σ D s q p => ?_⟩
  unfold mSet mDc iKeysM at p
  split at p
  · rename_i ks xs hx
    obtain ⟨v, hσ, a, vs, rfl, hdd, hlen, rs⟩ := q.2 l _ hx
    have hln := rs.length
    rw [R.bind_ok] at p
    split at p
    · rename_i hz
      rcases hdd with hdd | ⟨od, hdd⟩
      · refine .inl ⟨a, _, s.fz _ _ hdd, True.intro, fun od => ⟨.ref a, hσ, a, od, rfl, .inl ⟨_, upd_same, fun Dn hD => ?_⟩⟩⟩
        have hlk := HLw.lock (od := od) hdd
        have s1 := s.swapF (o' := .frz od (.dK (ks.zip vs))) hdd hlk
        refine sim_dc_core (Q := fun x H1 => gName i x σ H1 fun σ' H' => H' a = some (.frz od (.dK (ks.zip vs))) ∧ D.nx σ' (upd H' a (.dK (ks.zip vs)))) (mt := mt) (mk := mk) (mv := mv) (mg := gSet j) (wi := iKeys (tVar l)) simG_name (keeps_name hj) tUT.sim tU.sim tU.sim (jr_k (w := { w with F := upd w.F a (.frz od (.dK (ks.zip vs))) }) upd_same (by omega)) s1 (q.swapF hlk) hz ?_ Dn hD
        cases hr : (dcL (gSet j) mt mk mv (mwipe e (own.map (·.2))) (ks.map kM) ([], []) m).nox with
        | stuck => rw [hr] at p; exact p
        | exc z m1 => cases hr2 : dcL (gSet j) mt mk mv (mwipe e (own.map (·.2))) (ks.map kM) ([], []) m <;> rw [hr2] at hr <;> cases hr
        | ok acc m1 =>
          rw [hr, R.bind_ok, R.bind_ok] at p
          intro w1 H1 v l1 z1 r1
          obtain ⟨u1, u2, u3, u4⟩ := unlocked hdd l1 z1
          exact ⟨u1, p _ _ _ u4 u3 ((q.mono u4).set i (RM.swapF u2 r1))⟩
      · refine .inr ⟨.ref a, hσ, a, od, rfl, .inl ⟨_, s.fz _ _ hdd, fun Dn hD => ?_⟩⟩
        refine sim_dc_core (Q := fun x H1 => gName i x σ H1 D.nx) (mt := mt) (mk := mk) (mv := mv) (mg := gSet j) (wi := iKeys (tVar l)) simG_name (keeps_name hj) tUT.sim tU.sim tU.sim (jr_k hdd (by omega)) s q hz ?_ Dn hD
        cases hr : (dcL (gSet j) mt mk mv (mwipe e (own.map (·.2))) (ks.map kM) ([], []) m).nox with
        | stuck => rw [hr] at p; exact p
        | exc z m1 => cases hr2 : dcL (gSet j) mt mk mv (mwipe e (own.map (·.2))) (ks.map kM) ([], []) m <;> rw [hr2] at hr <;> cases hr
        | ok acc m1 =>
          rw [hr, R.bind_ok, R.bind_ok] at p
          exact fun w1 H1 v l1 z1 r1 => p _ _ _ l1 z1 ((q.mono l1).set i r1)
    · exact p.elim
  · exact p.elim
end ML
set_option Elab.async false
set_option linter.all false
set_option maxRecDepth 100000
set_option maxHeartbeats 2000000
namespace ML
open PySem PySem.Spec PyProof.Rows L2

/-! ### giving cells up, some levels deep -/
def mapR (f : MV → Mo → R MV) : List MV → Mo → R (List MV)
  | [], m => .ok [] m
  | x :: xs, m => (f x m).bind fun y m1 => (mapR f xs m1).bind fun ys m2 => .ok (y :: ys) m2
def fixD : Nat → MV → Mo → R MV
  | 0, x, m => .ok x m
  | n + 1, x, m => match x with
    | .ref i => (match m[i]? with
      | some (.lst xs) => (mapR (fixD n) xs m).bind fun ys m1 => (match m1[i]? with
        | some (.lst _) => .ok (.lst ys) (m1.set i .dead)
        | _ => .stuck)
      | some (.dK ks xs) => (mapR (fixD n) xs m).bind fun ys m1 => (match m1[i]? with
        | some (.dK ks2 _) => if ks2 = ks then .ok (.dK ks ys) (m1.set i .dead) else .stuck
        | _ => .stuck)
      | some (.dT ks xs) => (mapR (fixD n) xs m).bind fun ys m1 => (match m1[i]? with
        | some (.dT ks2 _) => if ks2 = ks then .ok (.dT ks ys) (m1.set i .dead) else .stuck
        | _ => .stuck)
      | some (.ins C ns xs) => (mapR (fixD n) xs m).bind fun ys m1 => (match m1[i]? with
        | some (.ins C2 ns2 _) => if C2 = C ∧ ns2 = ns then .ok (.obj C ns ys) (m1.set i .dead) else .stuck
        | _ => .stuck)
      | _ => .stuck)
    | .tup xs => (mapR (fixD n) xs m).bind fun ys m1 => .ok (.tup ys) m1
    | .lst xs => (mapR (fixD n) xs m).bind fun ys m1 => .ok (.lst ys) m1
    | .dK ks xs => (mapR (fixD n) xs m).bind fun ys m1 => .ok (.dK ks ys) m1
    | .dT ks xs => (mapR (fixD n) xs m).bind fun ys m1 => .ok (.dT ks ys) m1
    | x => .ok x m
def FR (K : PySem.W.Frag) (w : Wd) (H : Hp) (v : V) : R MV → Prop
  | .ok y m' => ∃ w', w.Le w' ∧ RS K w' m' H ∧ RM K w' y v
  | .exc _ _ => False
  | .stuck => True
def FRs (K : PySem.W.Frag) (w : Wd) (H : Hp) (vs : List V) : R (List MV) → Prop
  | .ok y m' => ∃ w', w.Le w' ∧ RS K w' m' H ∧ RMs K w' y vs
  | .exc _ _ => False
  | .stuck => True
def FixOk (f : MV → Mo → R MV) : Prop := ∀ (K : PySem.W.Frag) (w : Wd) (m : Mo) (H : Hp) (x : MV) (v : V), RS K w m H → RM K w x v → FR K w H v (f x m)
theorem FR.mono {K : PySem.W.Frag} {w w1 : Wd} {H : Hp} {v : V} {r : R MV} (l : w.Le w1) (h : FR K w1 H v r) : FR K w H v r := by
  cases r with
  | ok y m => obtain ⟨w2, l2, h⟩ := h; exact ⟨w2, l.trans l2, h⟩
  | exc e m => exact h
  | stuck => trivial
theorem mapR_ok {f : MV → Mo → R MV} (h : FixOk f) {K : PySem.W.Frag} {H : Hp} : ∀ (xs : List MV) (vs : List V) (w : Wd) (m : Mo), RS K w m H → RMs K w xs vs → FRs K w H vs (mapR f xs m)
  | [], vs, w, m, s, r => ⟨w, .refl w, s, r⟩
  | x :: xs, vs, w, m, s, ⟨v, r, e, a, b⟩ => by
    have h1 := h K w m H x v s a
    unfold mapR
    cases hx : f x m with
    | stuck => trivial
    | exc y m1 => rw [hx] at h1; exact h1.elim
    | ok y m1 =>
      rw [hx] at h1
      obtain ⟨w1, l1, s1, r1⟩ := h1
      have h2 := mapR_ok h xs r w1 m1 s1 (b.mono l1)
      rw [R.bind_ok]
      cases hy : mapR f xs m1 with
      | stuck => trivial
      | exc y m2 => rw [hy] at h2; exact h2.elim
      | ok ys m2 =>
        rw [hy] at h2
        obtain ⟨w2, l2, s2, r2⟩ := h2
        exact ⟨w2, l1.trans l2, s2, v, r, e, r1.mono l2, r2⟩
theorem mapR_pass {f : MV → Mo → R MV} (h : FixOk f) {K : PySem.W.Frag} {H : Hp} {xs : List MV} {vs : List V} {w : Wd} {m : Mo} (s : RS K w m H) (r : RMs K w xs vs) {g : List MV → Mo → R MV} {v : V}
    (p : ∀ ys m' w', w.Le w' → RS K w' m' H → RMs K w' ys vs → FR K w' H v (g ys m')) : FR K w H v ((mapR f xs m).bind g) := by
  have h1 := mapR_ok h xs vs w m s r
  cases hx : mapR f xs m with
  | stuck => trivial
  | exc y m1 => rw [hx] at h1; exact h1.elim
  | ok ys m1 =>
    rw [hx] at h1
    obtain ⟨w1, l1, s1, r1⟩ := h1
    exact FR.mono l1 (p ys m1 w1 l1 s1 r1)
theorem zipR : ∀ {α : Type} {ks : List α} {xs ys : List V}, ks.length = xs.length → ks.length = ys.length → ks.zip xs = ks.zip ys → xs = ys
  | _, [], [], [], _, _, _ => rfl
  | _, k :: ks, x :: xs, y :: ys, a, b, h => by
    simp only [List.zip_cons_cons, List.cons.injEq, Prod.mk.injEq, true_and] at h
    rw [h.1, zipR (by simpa using a) (by simpa using b) h.2]
theorem fixD_ok : ∀ n, FixOk (fixD n)
  | 0 => fun K w m H x v s r => ⟨w, .refl w, s, r⟩
  | n + 1 => by
    intro K w m H x v s r
    unfold fixD
    cases x with
    | ref i =>
      dsimp only
      cases e : m[i]? with
      | none => trivial
      | some c =>
        cases c with
        | lst xs =>
          obtain ⟨a, rfl, ha, vs, h4, rs⟩ := s.at_ r e (by intro z; cases z)
          refine mapR_pass (fixD_ok n) s rs fun ys m1 w1 l1 s1 r1 => ?_
          cases e1 : m1[i]? with
          | none => trivial
          | some c1 =>
            cases c1 with
            | lst zs =>
              obtain ⟨s2, l2⟩ := s1.fix e1 (by intro z; cases z) (l1.at_ ha) h4
              exact ⟨_, l2, s2, a, vs, rfl, upd_same, RMs.mono l2 _ _ r1⟩
            | _ => trivial
        | dK ks xs =>
          obtain ⟨a, rfl, ha, vs, h4, hl, rs⟩ := s.at_ r e (by intro z; cases z)
          refine mapR_pass (fixD_ok n) s rs fun ys m1 w1 l1 s1 r1 => ?_
          have hn := (rs.length.symm.trans r1.length)
          cases e1 : m1[i]? with
          | none => trivial
          | some c1 =>
            cases c1 with
            | dK ks2 zs =>
              dsimp only
              split
              · obtain ⟨s2, l2⟩ := s1.fix e1 (by intro z; cases z) (l1.at_ ha) h4
                exact ⟨_, l2, s2, a, vs, rfl, .inl upd_same, hl.trans hn, RMs.mono l2 _ _ r1⟩
              · trivial
            | _ => trivial
        | dT ks xs =>
          obtain ⟨a, rfl, ha, vs, h4, hl, rs⟩ := s.at_ r e (by intro z; cases z)
          refine mapR_pass (fixD_ok n) s rs fun ys m1 w1 l1 s1 r1 => ?_
          have hn := (rs.length.symm.trans r1.length)
          cases e1 : m1[i]? with
          | none => trivial
          | some c1 =>
            cases c1 with
            | dT ks2 zs =>
              dsimp only
              split
              · obtain ⟨s2, l2⟩ := s1.fix e1 (by intro z; cases z) (l1.at_ ha) h4
                exact ⟨_, l2, s2, a, vs, rfl, .inl upd_same, hl.trans hn, RMs.mono l2 _ _ r1⟩
              · trivial
            | _ => trivial
        | ins C ns xs =>
          obtain ⟨a, rfl, ha, dx, vs, h4, hl, rs⟩ := s.at_ r e (by intro z; cases z)
          refine mapR_pass (fixD_ok n) s rs fun ys m1 w1 l1 s1 r1 => ?_
          have hn := (rs.length.symm.trans r1.length)
          cases e1 : m1[i]? with
          | none => trivial
          | some c1 =>
            cases c1 with
            | ins C2 ns2 zs =>
              dsimp only
              split
              · obtain ⟨s2, l2⟩ := s1.fix e1 (by intro z; cases z) (l1.at_ ha) h4
                exact ⟨_, l2, s2, a, dx, vs, rfl, upd_same, hl.trans hn, RMs.mono l2 _ _ r1⟩
              · trivial
            | _ => trivial
        | dead => trivial
    | tup xs =>
      obtain ⟨a, vs, rfl, h4, rs⟩ := r
      exact mapR_pass (fixD_ok n) s rs fun ys m1 w1 l1 s1 r1 => ⟨w1, .refl _, s1, a, vs, rfl, sqt_le l1.f.w h4, r1⟩
    | lst xs =>
      obtain ⟨a, vs, rfl, h4, rs⟩ := r
      exact mapR_pass (fixD_ok n) s rs fun ys m1 w1 l1 s1 r1 => ⟨w1, .refl _, s1, a, vs, rfl, l1.f.w.1 _ _ rfl h4, r1⟩
    | dK ks xs =>
      obtain ⟨a, vs, rfl, h4, hl, rs⟩ := r
      exact mapR_pass (fixD_ok n) s rs fun ys m1 w1 l1 s1 r1 => ⟨w1, .refl _, s1, a, vs, rfl, l1.f.w.2 _ _ rfl h4, hl.trans (rs.length.symm.trans r1.length), r1⟩
    | dT ks xs =>
      obtain ⟨a, vs, rfl, h4, hl, rs⟩ := r
      exact mapR_pass (fixD_ok n) s rs fun ys m1 w1 l1 s1 r1 => ⟨w1, .refl _, s1, a, vs, rfl, l1.f.w.2 _ _ rfl h4, hl.trans (rs.length.symm.trans r1.length), r1⟩
    | _ => exact ⟨w, .refl w, s, r⟩
/-- ahead of a statement: what slot i holds is fixed, n levels deep -/
def gFixD (n i : Nat) (ms : MS) : MS := fun e m => match e[i]? with
  | some (some x) => (fixD n x m).bind fun y m1 => ms (e.set i (some y)) m1
  | _ => .stuck
section
variable {X : Cx} {W : WX} {e : Expr} {st : Stmt} {me : ME} {ms : MS}
theorem sim_gFixD {K : PySem.W.Frag} {ts : TS} {n i : Nat} (h : SimS K W ts ms) : SimS K W ts (gFixD n i ms) := by
  intro w m H e σ D s q p
  unfold gFixD at p
  split at p
  · rename_i x hx
    obtain ⟨v, hv, rv⟩ := q.2 i x hx
    have h1 := fixD_ok n K w m H x v s rv
    cases hf : fixD n x m with
    | stuck => rw [hf] at p; exact p.elim
    | exc y m2 => rw [hf] at h1; exact h1.elim
    | ok y m2 =>
      rw [hf] at p h1
      obtain ⟨w2, l2, z2, r2⟩ := h1
      have q2 := (q.mono l2).set i r2
      rw [set_same hv] at q2
      exact h w2 m2 H _ σ D z2 q2 (PostS.mono l2 p)
  · exact p.elim
theorem pms_gFixD (n i : Nat) (h : PMS X W st ms) : PMS X W st (gFixD n i ms) := let ⟨t, h1, s1⟩ := h; ⟨t, h1, sim_gFixD s1⟩
def mFixD (n : Nat) (me : ME) : ME := fun e m => (me e m).bind fun x m1 => fixD n x m1
theorem pm_fixD (n : Nat) (h : PM X W e me) : PM X W e (mFixD n me) := by
  obtain ⟨t, h1, s1⟩ := h
  refine ⟨_, h1, fun w m H e σ Q s q p => s1 w m H e σ _ s q (PostE.bind p fun x m1 w1 H1 v l z r p1 => ?_)⟩
  have h1 := fixD_ok n _ w1 m1 H1 x v z r
  cases hx : fixD n x m1 with
  | stuck => rw [hx] at p1; exact p1.elim
  | exc y m2 => rw [hx] at h1; exact h1.elim
  | ok y m2 =>
    rw [hx] at p1 h1
    obtain ⟨w2, l2, z2, r2⟩ := h1
    exact p1 w2 H1 v l2 z2 r2
end
end ML
set_option Elab.async false
set_option linter.all false
set_option maxRecDepth 100000
set_option maxHeartbeats 2000000
namespace ML
open PySem PySem.Spec PyProof.Rows L2

/-! ### repr -/
def kD : Key → PyData
  | .inl i => .int i
  | .inr x => .str x
section
variable {K : PySem.W.Frag} {H : Hp}
mutual
theorem nodict : ∀ {v : V} {d : PyData}, Dp K H v d → d.hasDict = false
  | _, _, .non => by simp only [PyData.hasDict]
  | _, _, .bl _ => by simp only [PyData.hasDict]
  | _, _, .int _ => by simp only [PyData.hasDict]
  | _, _, .str _ => by simp only [PyData.hasDict]
  | _, _, .lst _ h => by simp only [PyData.hasDict]; exact nodicts h
  | _, _, .tup _ h => by simp only [PyData.hasDict]; exact nodicts h
theorem nodicts : ∀ {vs : List V} {ds : List PyData}, DpAll K H vs ds → PyData.hasDictAll ds = false
  | _, _, .nil => by simp only [PyData.hasDictAll]
  | _, _, .cons h t => by simp only [PyData.hasDictAll, nodict h, nodicts t, Bool.or_self]
end
theorem dps_len : ∀ {vs : List V} {ds : List PyData}, DpAll K H vs ds → ds.length = vs.length
  | _, _, .nil => rfl
  | _, _, .cons _ t => by rw [List.length_cons, List.length_cons, dps_len t]
end
theorem nodict_keys : ∀ ks : List Key, PyData.hasDictAll (ks.map kD) = false
  | [] => by simp only [List.map_nil, PyData.hasDictAll]
  | .inl i :: ks => by simp only [List.map_cons, kD, PyData.hasDictAll, PyData.hasDict, nodict_keys ks, Bool.or_self]
  | .inr i :: ks => by simp only [List.map_cons, kD, PyData.hasDictAll, PyData.hasDict, nodict_keys ks, Bool.or_self]
section
variable {X : Cx} {pins : List (Addr × Obj)} {σ : St} {H : Hp} {s : Shared}
theorem key_read {h : Heap} {P : Program} {w : World} {k : Key} {u : Value} (e : (mixKind P w).is k u = true) : Reads h u (kD k) [] := by
  rcases keyIs_shape e with ⟨i, t, rfl, rfl⟩ | ⟨x, t, rfl, rfl⟩
  · exact .int i t
  · exact .str x t
theorem keys_read {h : Heap} {P : Program} {w : World} : ∀ {ks : List Key} {xs : List V} {kvs : List (Key × Value)} {es : List DictEntry}, ks.length = xs.length → KV (ks.zip xs) kvs → Pairs (mixKind P w) es kvs →
    ReadsAll h (es.map fun e => e.key) (ks.map kD) [] ∧ Vals xs (es.map fun e => e.val) := by
  intro ks
  induction ks with
  | nil =>
    intro xs kvs es hl r p
    cases xs with
    | nil =>
      cases r
      cases p
      exact ⟨.nil, .nil⟩
    | cons x xs => cases hl
  | cons k ks ih =>
    intro xs kvs es hl r p
    cases xs with
    | nil => cases hl
    | cons x xs =>
      cases r with
      | cons a t =>
        cases p with
        | cons b1 b2 u =>
          obtain ⟨h1, h2⟩ := ih (by simpa using hl) t u
          refine ⟨?_, ?_⟩
          · refine ReadsAll.cons (as := []) (bs := []) ?_ h1
            exact key_read (P := P) (w := w) (by rw [show k = _ from a.1]; exact b1)
          · refine .cons ?_ h2
            have a2 := a.2
            rw [← b2] at a2
            exact a2
/-- a dict of ints and texts, its values no dicts -/
def DRd (K : PySem.W.Frag) (H : Hp) (v : V) (d : PyData) : Prop := ∃ (a : Addr) (ks : List Key) (xs : List V) (ds : List PyData), v = .ref a ∧ Rd H a (.dK (ks.zip xs)) ∧ ks.length = xs.length ∧ DpAll K H xs ds ∧ d = .dict ((ks.map kD).zip ds)
theorem repr_dict {d : PyData} {v : V} {u : Value} {Q : VK} (hg : X.A.guards = some []) (hu : X.A.units + 64 < cLine) (I : Inv X pins σ H s) (hd : DRd X.K H v d) (r : RelV v u) (hs : d.showable = true) (hp : d.depth ≤ 60) (hz : d.shown.length ≤ sizeLine) (q : Q (.str d.shown) H) :
    wpAny (model X.prog X.w) X.A (call (.builtin "repr") [u]) (EP X pins σ Q) X.xe s := by
  obtain ⟨a, ks, xs, ds, rfl, hk, hl, ha, rfl⟩ := hd
  cases r
  obtain ⟨_, hsm, vs, kv, o, es, ep, ho, hx, hd, _, hpr, _⟩ := dk_rd I.hok hk
  obtain ⟨r1, r2⟩ := keys_read (h := s.heap) hl kv hpr
  obtain ⟨as, r3⟩ := Dp.readsAll I ds _ _ ha r2
  have hl2 : (ks.map kD).length = ds.length := by rw [List.length_map, hl, dps_len ha]
  have r1' : ReadsAll s.heap (es.toList.map (·.key)) (((ks.map kD).zip ds).map (·.1)) [] := by rw [List.map_fst_zip (by omega)]; exact r1
  have r3' : ReadsAll s.heap (es.toList.map (·.val)) (((ks.map kD).zip ds).map (·.2)) as := by rw [List.map_snd_zip (by omega)]; exact r3
  have rd := Reads.dict ho hx.1 hd r1' r3'
  generalize hkv : (ks.map kD).zip ds = kvs at *
  have hn1 : PyData.hasDictAll (kvs.map (·.1)) = false := by rw [← hkv, List.map_fst_zip (by omega)]; exact nodict_keys ks
  have hn2 : PyData.hasDictAll (kvs.map (·.2)) = false := by rw [← hkv, List.map_snd_zip (by omega)]; exact nodicts ha
  have hz' : (dictText (PyData.shownKv kvs)).length ≤ sizeLine := by simpa only [PyData.shown] using hz
  obtain ⟨hs1, hs2⟩ := PyData.showableKv_split kvs (by simpa [PyData.showable] using hs)
  obtain ⟨b1, hb1, k1⟩ := ReprAllK.of_readsAll (prog := X.prog) (w := X.w) r1' hs1 (fun z => by rw [hn1] at z; cases z) fun t ht => (PyData.shownKv_key_le kvs t ht).elim fun p z => Nat.le_trans z.2 (Nat.le_trans (dictText_mem_le z.1) hz')
  obtain ⟨b2, hb2, k2⟩ := ReprAllK.of_readsAll (prog := X.prog) (w := X.w) r3' hs2 (fun z => by rw [hn2] at z; cases z) fun t ht => (PyData.shownKv_val_le kvs t ht).elim fun p z => Nat.le_trans z.2 (Nat.le_trans (dictText_mem_le z.1) hz')
  have hb := (hb1.mono (PyData.depthAll_keys_le kvs)).append (hb2.mono (PyData.depthAll_vals_le kvs))
  have hna := not_mem_of_deeper rd (by simp only [PyData.depth]; omega) hb
  have hu2 : X.A.units + 1 + PyData.depthKv kvs + 1 < cLine := by
    simp only [PyData.depth] at hp
    omega
  refine call_repr_slot (by omega) ⟨o, ho, hx.1⟩ F.slot_dict_repr ?_
  refine call_dict_reprK ho hx.1 hd hsm hna (ReprEntriesK.of_two es.toList _ _ (k1.more_le (fun b hb => List.mem_append_left _ hb) (PyData.depthAll_keys_le kvs)) (k2.more_le (fun b hb => List.mem_append_right _ hb) (PyData.depthAll_vals_le kvs))) hg (fun b _ => Clear.nil b) ?_ (fun _ _ e => e) ?_ (by rw [← PyData.shownKv_eq]; exact hz')
  · show X.A.units + 1 + (PyData.depthKv kvs + 1) < cLine
    omega
  · intro h' u tk hk
    rw [← PyData.shownKv_eq]
    exact ⟨_, _, rfl, .str _, H, I.kept hk, ⟨_, rfl⟩, by simpa only [PyData.shown] using q⟩
theorem call_repr (hg : X.A.guards = some []) (hu : X.A.units + 64 < cLine) : CallR X (.builtin "repr") (fun xs H Q => ∃ v d, xs = [v] ∧ (Dp X.K H v d ∨ DRd X.K H v d) ∧ d.showable = true ∧ d.depth ≤ 60 ∧ d.shown.length ≤ sizeLine ∧ Q (.str d.shown) H) := by
  intro pins s σ H xs us Q I r h
  obtain ⟨v, d, rfl, hd, hs, hp, hz, q⟩ := h
  cases r with
  | cons r1 r2 =>
    cases r2
    rcases hd with hd | hd
    · obtain ⟨as, hr⟩ := Dp.reads I _ _ _ hd r1
      have hn := PyData.noDict_hsm (as := as) (nodict hd)
      cases hd with
      | non => cases r1; exact PySem.P.repr_of_none ⟨.str _, H, I.tok _, ⟨_, rfl⟩, q⟩
      | bl b => cases r1; exact PySem.P.repr_of_bool ⟨.str _, H, I.tok _, ⟨_, rfl⟩, q⟩
      | int i =>
        obtain ⟨t, rfl⟩ := r1
        exact PySem.P.repr_of_int (by simpa [PyData.showable] using hs) ⟨.str _, H, I.tok _, ⟨_, rfl⟩, q⟩
      | str i =>
        obtain ⟨t, rfl⟩ := r1
        exact PySem.P.repr_of_str ⟨.str _, H, I.tok _, ⟨_, rfl⟩, q⟩ hz
      | lst _ _ => cases r1; exact repr_of_reads' hr hs hn hg (by omega) (fun _ _ e => e) (fun h' u tk hk => ⟨.str _, H, I.kept hk, ⟨_, rfl⟩, q⟩) hz
      | tup _ _ => cases r1; exact repr_of_reads' hr hs hn hg (by omega) (fun _ _ e => e) (fun h' u tk hk => ⟨.str _, H, I.kept hk, ⟨_, rfl⟩, q⟩) hz
    · exact repr_dict hg hu I hd r1 hs hp hz q
end
def toR1 (m : Mo) (x : MV) : Option PyData := match x with
  | .dK ks xs => (toDs xs).map fun ds => .dict ((ks.map kD).zip ds)
  | .ref i => match m[i]? with
    | some (.lst xs) => (toDs xs).map .list
    | some (.dK ks xs) => (toDs xs).map fun ds => .dict ((ks.map kD).zip ds)
    | _ => none
  | x => toD x
theorem toR1_dr {K : PySem.W.Frag} {w : Wd} {m : Mo} {H : Hp} (s : RS K w m H) {x : MV} {v : V} {d : PyData} (r : RM K w x v) (h : toR1 m x = some d) : Dp K H v d ∨ DRd K H v d := by
  cases x with
  | ref i =>
    unfold toR1 at h
    dsimp only at h
    split at h
    · rename_i xs e
      cases q : toDs xs with
      | none => rw [q] at h; cases h
      | some ds =>
        rw [q] at h
        cases h
        obtain ⟨a, rfl, _, vs, h4, rs⟩ := s.at_ r e (by intro z; cases z)
        exact .inl (.lst (SqL.of h4) (toDs_dp s xs vs ds rs q))
    · rename_i ks xs e
      cases q : toDs xs with
      | none => rw [q] at h; cases h
      | some ds =>
        rw [q] at h
        cases h
        obtain ⟨a, rfl, _, vs, h4, hl, rs⟩ := s.at_ r e (by intro z; cases z)
        exact .inr ⟨a, ks, vs, ds, rfl, .inl h4, hl.trans rs.length.symm, toDs_dp s xs vs ds rs q, rfl⟩
    · cases h
  | dK ks xs =>
    unfold toR1 at h
    dsimp only at h
    cases q : toDs xs with
    | none => rw [q] at h; cases h
    | some ds =>
      rw [q] at h
      cases h
      obtain ⟨a, vs, rfl, hs, hl, rs⟩ := r
      have hs2 : Rd H a (.dK (ks.zip vs)) := by
        rcases hs with hs | ⟨o, hs⟩
        · exact .inl (s.fz _ _ hs)
        · exact .inr ⟨o, s.fz _ _ hs⟩
      exact .inr ⟨a, ks, vs, ds, rfl, hs2, hl.trans rs.length.symm, toDs_dp s xs vs ds rs q, rfl⟩
  | _ => exact .inl (toD_dp s _ _ _ r h)
def cRepr : List MV → Mo → R MV
  | [x], m => match toR1 m x with
    | some d => if d.showable = true ∧ d.depth ≤ 60 ∧ d.shown.length ≤ sizeLine then .ok (.str d.shown) m else .stuck
    | none => .stuck
  | _, _ => .stuck
theorem sc_repr {K : PySem.W.Frag} {W : WX} : SimC K W (fun xs H Q => ∃ v d, xs = [v] ∧ (Dp K H v d ∨ DRd K H v d) ∧ d.showable = true ∧ d.depth ≤ 60 ∧ d.shown.length ≤ sizeLine ∧ Q (.str d.shown) H) cRepr := by
  intro w m H xs vs σ Q s r p
  unfold cRepr at p
  split at p
  · obtain ⟨v, rfl, rv⟩ := r.one
    split at p
    · rename_i d hd
      split at p
      · rename_i hc
        exact ⟨v, d, rfl, toR1_dr s rv hd, hc.1, hc.2.1, hc.2.2, p w H _ (.refl w) s rfl⟩
      · exact p.elim
    · exact p.elim
  · exact p.elim
end ML
set_option Elab.async false
set_option linter.all false
set_option maxRecDepth 100000
set_option maxHeartbeats 2000000
namespace ML
open PySem PySem.Spec PyProof.Rows L2

/-! ### own errors: their __init__ -/
section
variable {X : Cx} {e : Expr} {es : List Expr} {ta : TA} {p1 p2 pos : Pos} {B : Addr} {x : Str}
/-- Base.__init__(self, ..), Base an own error class without an __init__ -/
theorem pe_ownInit {pl : Sem Bool} (hg : Gl X x) (hm : X.mg x = some (.ref B)) (hr : PySem.W.readsIn X.K B (.type "type") = true) (hs : PySem.W.specialIn X.K (.ref B) "__getattribute__" = some (some (.builtin "type.__getattribute__")))
    (vV : PySem.W.findCls X.K (.ref B) (.type "type") "__init__" = some (.val (.builtin "ValueError.__init__"))) (ha : PA X (e :: es) ta) (hdb : (x == ("__debug__" : Str)) = false := by decide)
    (hc : eval (.Call (.Attribute (.Name x p1) "__init__" p2) (e :: es) [] pos) X.env = (do
      let ov ← eval (.Name x p1) X.env
      standAt p2.atName
      let (f, first) ← holding [ov] (getMethod ov "__init__" pl)
      callWith pos f first (backTo pos (starEach (e :: es) X.env)) (backToKw pos (keywordEach [] X.env))) := by rfl)
    (he : starEach (e :: es) X.env = (false, eval e X.env) :: starEach es X.env := by rfl) (hpl : (backTo pos (starEach es X.env)).any (·.1) = false := by rfl) :
    PE X (.Call (.Attribute (.Name x p1) "__init__" p2) (e :: es) [] pos) (tVeI X.K ta) := by
  refine ⟨fun pins s σ H Q I h => ?_⟩
  refine PySem.W.methodCall_KW (ld_glob I hg hm ?_ hdb) hc
  refine PySem.W.method_cls I.kIn hs ?_
  refine PySem.W.cls_value I.kIn hr vV (by decide +kernel) ?_
  show wpAny _ _ (callWith pos (Value.builtin "ValueError.__init__") [] (backTo pos (starEach (e :: es) X.env)) []) _ _ _
  refine PyProof.Rows.callWith_method1 (thn (ha.run pos pins _ σ H _ (I.tok _) h) fun us s1 ⟨vs, H1, I1, r1, a, C, ws, ev, hl, T, ea, q⟩ => ?_) he hpl
  subst ev
  cases r1 with
  | @cons _ u0 _ ur ra rw' =>
    obtain rfl : u0 = Value.ref a := ra
    have hlen : ur.length ≤ sizeLine := by
      rw [← Paired.length rw', sizeLine_eq]
      omega
    exact oinit_ok T I1 ea hlen fun s' J => ⟨.non, H1, J, rfl, q⟩
end
/-- what such an __init__ does to the new exception: its fields, in order -/
def spX (K : PySem.W.Frag) (C : Addr) (fs : List Str) : Sp := fun vs H Q _ => ∃ (a : Addr) (ws : List V), vs = .ref a :: ws ∧ ws.length = fs.length ∧ H a = some (exo a C none) ∧
  ∀ dx, H dx = none → dx ≠ a → Q .non (upd (upd H dx (exd dx (fs.zip ws).reverse)) a (exo a C (some dx)))
theorem upd_turn {H : Hp} {a d : Addr} {o o1 o2 : HO} (h : d ≠ a) : upd (upd (upd H d o1) a o) d o2 = upd (upd H d o2) a o := by
  funext b
  unfold upd
  by_cases h1 : b = d
  · subst h1
    rw [if_pos rfl, if_neg h, if_pos rfl]
  · rw [if_neg h1]
    by_cases h2 : b = a
    · rw [if_pos h2, if_pos h2]
    · rw [if_neg h2, if_neg h2, if_neg h1, if_neg h1]
section
variable {P : Program} {w : World} {K : PySem.W.Frag} {mg : Str → Option Value} {base : Heap} {qual : Str} {st : Stmt} {f : Addr} {fd : FuncData} {B C : Addr} {x t f1 f2 p1 p2 : Str} {j k : Nat} {q1 q2 q3 q4 q5 q6 q7 q8 q9 q10 q11 q12 q13 q14 : Pos}
theorem ok_init1 {st1 : Stmt} (F : Fun K "__init__" qual st f fd) (S : FnScope ["self", p1] ["self", p1] (defScope st))
    (hb : defBody st = [st1, .Assign [.Attribute (.Name "self" q7) f1 q8] (.Name p1 q9) q10])
    (h1 : ∀ (cdv : Value) (A : Around) (outer : List PySem.Env) (s : Shared) (H : Hp) (E : XK), PS (cxOf CX0 P w K mg base ["self", p1] qual (defScope st) f cdv A outer s H E).nox st1 (tDrop (tVeI K (tCons (tVar 0) (tCons (tC (.str t)) tNil)))))
    (s0 : (defScope st).names.lookup ("self" : Str) = some NameKind.local) (s1 : (defScope st).names.lookup p1 = some .local)
    (T : OexC K C) (n1 : PySem.W.findIn K (.ref C) f1 = some none) (hd1 : (p1 == ("__debug__" : Str)) = false := by decide) (hc1 : (p1 == ("__classdict__" : Str)) = false := by decide) :
    FnOk P w K mg base CX0 (k + 1) f fd ["self", p1] (spX K C [f1]) := by
  refine F.ok S (fun vs H Q E h => ?_) (fun cdv A outer s H vs Q E hr2 h => ?_)
  · obtain ⟨a, ws, rfl, hl, _⟩ := h
    simpa using hl
  obtain ⟨a, ws, rfl, hl, ha, q⟩ := h
  rw [hb]
  have v0 : Vis (defScope st) ("self" : Str) := .inl s0
  have v1 : Vis (defScope st) p1 := .inl s1
  refine ⟨_, pss_cons (h1 cdv A outer s H E) (pss_one (ps_ost (pe_var (i := 0) rfl v0 (by decide) (by decide)) (pe_var (i := 1) rfl v1 hd1 hc1))), ?_⟩
  match ws, hl with
  | [y], _ =>
    refine ⟨_, rfl, a, C, [.str t], rfl, by simp, T, ha, ?_⟩
    refine ⟨y, rfl, .ref a, rfl, a, C, rfl, T, n1, .inl ⟨ha, fun dx n ne => q dx n ne⟩⟩
theorem ok_init2 {st1 : Stmt} (F : Fun K "__init__" qual st f fd) (S : FnScope ["self", p1, p2] ["self", p1, p2] (defScope st))
    (hb : defBody st = [st1, .Assign [.Attribute (.Name "self" q7) f1 q8] (.Name p1 q9) q10, .Assign [.Attribute (.Name "self" q11) f2 q12] (.Name p2 q13) q14])
    (h1 : ∀ (cdv : Value) (A : Around) (outer : List PySem.Env) (s : Shared) (H : Hp) (E : XK), PS (cxOf CX0 P w K mg base ["self", p1, p2] qual (defScope st) f cdv A outer s H E).nox st1 (tDrop (tVeI K (tCons (tVar 0) (tCons (tC (.str t)) tNil)))))
    (s0 : (defScope st).names.lookup ("self" : Str) = some NameKind.local) (s1 : (defScope st).names.lookup p1 = some .local) (s2 : (defScope st).names.lookup p2 = some .local)
    (T : OexC K C) (n1 : PySem.W.findIn K (.ref C) f1 = some none) (n2 : PySem.W.findIn K (.ref C) f2 = some none) (hd1 : (p1 == ("__debug__" : Str)) = false := by decide) (hc1 : (p1 == ("__classdict__" : Str)) = false := by decide)
    (hd2 : (p2 == ("__debug__" : Str)) = false := by decide) (hc2 : (p2 == ("__classdict__" : Str)) = false := by decide) :
    FnOk P w K mg base CX0 (k + 1) f fd ["self", p1, p2] (spX K C [f1, f2]) := by
  refine F.ok S (fun vs H Q E h => ?_) (fun cdv A outer s H vs Q E hr2 h => ?_)
  · obtain ⟨a, ws, rfl, hl, _⟩ := h
    simpa using hl
  obtain ⟨a, ws, rfl, hl, ha, q⟩ := h
  rw [hb]
  have v0 : Vis (defScope st) ("self" : Str) := .inl s0
  have v1 : Vis (defScope st) p1 := .inl s1
  have v2 : Vis (defScope st) p2 := .inl s2
  refine ⟨_, pss_cons (h1 cdv A outer s H E) (pss_cons (ps_ost (pe_var (i := 0) rfl v0 (by decide) (by decide)) (pe_var (i := 1) rfl v1 hd1 hc1)) (pss_one (ps_ost (pe_var (i := 0) rfl v0 (by decide) (by decide)) (pe_var (i := 2) rfl v2 hd2 hc2)))), ?_⟩
  match ws, hl with
  | [y, z], _ =>
    refine ⟨_, rfl, a, C, [.str t], rfl, by simp, T, ha, ?_⟩
    refine ⟨y, rfl, .ref a, rfl, a, C, rfl, T, n1, .inl ⟨ha, fun dx n ne => ?_⟩⟩
    refine ⟨z, rfl, .ref a, rfl, a, C, rfl, T, n2, .inr ⟨dx, [(f1, y)], upd_same, by rw [upd_ne ne, upd_same], by simp, ?_⟩⟩
    rw [upd_turn ne]
    exact q dx n ne
end
theorem PostA.bindS {K : PySem.W.Frag} {W : WX} {w : Wd} {D : Ends} {σ : St} {Q' : List V → Hp → Prop} {r : R (List MV)} {f : List MV → Mo → R MF} (h : PostS K W D w (r.bind f)) (k : ∀ x m1 w1 H1 v, w.Le w1 → RS K w1 m1 H1 → RMs K w1 x v → PostS K W D w1 (f x m1) → Q' v H1) : PostA K W σ Q' w r := by
  cases r with
  | ok x m => exact fun w' H' v l s q => k x m w' H' v l s q (PostS.mono l h)
  | exc e m => exact fun w' H' c d l s x => h w' H' c d σ l s x
  | stuck => exact h
/-- raise C(..), C with such an __init__ -/
def mRaiseO (C : Addr) (fs : List Str) (ml : MA) : MS := fun e m => (ml e m).bind fun xs m1 => if xs.length = fs.length ∧ fs ≠ [] ∧ fs.length ≤ 900 then .exc ⟨C, (fs.zip xs).reverse⟩ m1 else .stuck
theorem zip_fst {α β : Type} : ∀ {l : List α} {r : List β}, l.length = r.length → (l.zip r).map (·.1) = l
  | [], [], _ => rfl
  | a :: l, b :: r, h => by
    show a :: (l.zip r).map (·.1) = a :: l
    rw [zip_fst (by simpa using h)]
theorem zip_snd {α β : Type} : ∀ {l : List α} {r : List β}, l.length = r.length → (l.zip r).map (·.2) = r
  | [], [], _ => rfl
  | a :: l, b :: r, h => by
    show b :: (l.zip r).map (·.2) = b :: r
    rw [zip_snd (by simpa using h)]
theorem zip_eta {α β : Type} : ∀ (l : List (α × β)), (l.map (·.1)).zip (l.map (·.2)) = l
  | [] => rfl
  | (a, b) :: l => by
    show (a, b) :: (l.map (·.1)).zip (l.map (·.2)) = (a, b) :: l
    rw [zip_eta l]
section
variable {X : Cx} {W : WX} {ml : MA} {a : Expr} {es : List Expr}
theorem pms_raiseO {x : Str} {C fI : Addr} {k : Nat} {fd : FuncData} {ps fs : List Str} {p p2 pos : Pos} (hc : X.calm = true) (tk : Takes X W) (T : OexC X.K C) (iC : PySem.W.findIn X.K (.ref C) "__init__" = some (some (.ref fI))) (tI : PySem.W.typeIn X.K (.ref fI) = some (.type "function"))
    (F1 : FnOk X.prog X.w X.K X.mg X.base CX0 k fI fd ps (spX X.K C fs)) (hr : Room (k + 1) X.A) (hb : Binds X.K fd ps []) (hm : X.mg x = some (.ref C)) (ha : PMA X W (a :: es) ml) (hg : Gl X x := by rfl)
    (hdb : (x == ("__debug__" : Str)) = false := by decide) (he : starEach (a :: es) X.env = (false, eval a X.env) :: starEach es X.env := by rfl) (hpl : (backTo p2 (starEach es X.env)).any (·.1) = false := by rfl) :
    PMS X W (.Raise (some (.Call (.Name x p) (a :: es) [] p2)) none pos) (mRaiseO C fs ml) := by
  obtain ⟨ta, h1, s1⟩ := ha
  have pk := pmk_oex (p := p) (pos := p2) (dvs := []) (ds := []) T iC tI F1 hr hb .nil pass0 hg hm h1 hdb he hpl
  refine ⟨_, ps_raise hc tk pk, fun w m H e σ D s q p => ?_⟩
  refine s1 w m H e σ _ s q (PostA.bindS p fun xs m1 w1 H1 vs l z r p1 => ?_)
  split at p1
  · rename_i hn
    obtain ⟨hn, hne, hsz⟩ := hn
    have hvs := r.length
    refine ⟨by omega, fun b hb2 => ?_⟩
    rw [List.append_nil]
    refine ⟨b, vs, rfl, by omega, upd_same, fun dx hd hdb => ?_⟩
    rw [upd_ne hdb] at hd
    refine ⟨rfl, dx, (fs.zip vs).reverse, upd_same, by rw [upd_ne hdb, upd_same], hd, ?_⟩
    have eH : upd (del (upd (upd (upd H1 b (exo b C none)) dx (exd dx (fs.zip vs).reverse)) b (exo b C (some dx))) b) dx (HO.xd (fs.zip vs).reverse) = upd H1 dx (.xd (fs.zip vs).reverse) := by
      funext c
      unfold upd del
      by_cases c1 : c = dx
      · rw [if_pos c1, if_pos c1]
      · rw [if_neg c1, if_neg c1]
        by_cases c2 : c = b
        · rw [if_pos c2, c2, hb2]
        · rw [if_neg c2]
          dsimp only
          rw [if_neg c2, if_neg c1, if_neg c2]
    rw [eH]
    obtain ⟨z2, l2⟩ := z.new (o := .xd (fs.zip vs).reverse) hd
    refine p1 _ _ _ _ σ l2 z2 ⟨rfl, ?_⟩
    have e1 : ((fs.zip xs).reverse.map (·.1)) = fs.reverse := by rw [List.map_reverse, zip_fst (by omega)]
    have e2 : ((fs.zip xs).reverse.map (·.2)) = xs.reverse := by rw [List.map_reverse, zip_snd (by omega)]
    have e3 : (fs.zip vs).reverse = fs.reverse.zip vs.reverse := by
      have h3 := zip_eta ((fs.zip vs).reverse)
      rw [List.map_reverse, List.map_reverse, zip_fst (by omega), zip_snd (by omega)] at h3
      exact h3.symm
    show match (fs.zip xs).reverse with | [] => True | fs => _
    split
    · exact True.intro
    · rename_i hq
      rw [e1, e2]
      refine ⟨dx, vs.reverse, rfl, ?_, (RMs.mono l2 _ _ r).reverse⟩
      rw [← e3]
      exact upd_same
  · exact p1.elim
end
end ML
set_option Elab.async false
set_option linter.all false
set_option maxRecDepth 100000
set_option maxHeartbeats 2000000
namespace ML
open PySem PySem.Spec PyProof.Rows L2

/-! ### try .. except C as n -/
/-- what comes of f at every place an exception may stand -/
noncomputable def mAll (p : Bool) (f : Addr → Option Addr → R MF) : R MF := open Classical in if h : ∃ r, ∀ a d, (p = true → d.isSome = true) → f a d = r then Classical.choose h else .stuck
theorem mAll_eq {p : Bool} {f : Addr → Option Addr → R MF} {r : R MF} (h : ∀ a d, (p = true → d.isSome = true) → f a d = r) : mAll p f = r := by
  have hx : ∃ r, ∀ a d, (p = true → d.isSome = true) → f a d = r := ⟨r, h⟩
  unfold mAll
  rw [dif_pos hx]
  have h1 := Classical.choose_spec hx 0 (some 0) (fun _ => rfl)
  rw [← h1]
  exact h 0 (some 0) (fun _ => rfl)
theorem mAll_at {p : Bool} {f : Addr → Option Addr → R MF} (hs : mAll p f ≠ .stuck) (a : Addr) (d : Option Addr) (hd : p = true → d.isSome = true) : f a d = mAll p f := by
  unfold mAll at hs ⊢
  split
  · rename_i hx
    exact Classical.choose_spec hx a d hd
  · rename_i hx
    rw [dif_neg hx] at hs
    exact absurd rfl hs
def clrF (i : Nat) : MF → MF
  | .next e => .next (e.set i none)
  | .brk e => .brk (e.set i none)
  | .cont e => .cont (e.set i none)
  | .ret x => .ret x
noncomputable def mTry (cat : Addr → Option Bool) (i : Nat) (me : ME) (af : MV → MS) (mh : Addr → Value → Option Addr → MS) : MS := fun e m => match me e m with
  | .ok x m1 => af x e m1
  | .exc ex m1 => (match cat ex.cls with
    | some true => (mAll (!ex.fs.isEmpty) fun a d => mh a (.ref ex.cls) d (e.set i (some (.exc a (d.getD 0) ex.cls (ex.fs.map (·.1)) (ex.fs.map (·.2))))) m1).nox.bind fun fl m2 => .ok (clrF i fl) m2
    | some false => .exc ex m1
    | none => .stuck)
  | .stuck => .stuck
def tUSs (K : PySem.W.Frag) (W : WX) (ms : MS) : TS := fun D σ H => ∃ w m e, RS K w m H ∧ SR K w e σ ∧ PostS K W D w (ms e m)
theorem PMSs.ps {X : Cx} {W : WX} {st : List Stmt} {ms : MS} (h : PMSs X W st ms) : PSs X st (tUSs X.K W ms) := by
  obtain ⟨te, h1, s1⟩ := h
  exact ⟨fun pins s σ H D I ⟨w, m, e, a, b, c⟩ => h1.run pins s σ H D I (s1 w m H e σ D a b c)⟩
theorem SR.clear {K : PySem.W.Frag} {w : Wd} {e : Env} {σ : St} (s : SR K w e σ) (i : Nat) : SR K w (e.set i none) (σ.set i none) := ⟨by rw [List.length_set, List.length_set, s.1], fun j y q => by
  by_cases hj : i = j
  · subst hj
    by_cases hl : i < e.length
    · rw [List.getElem?_set_self hl] at q
      cases q
    · rw [List.getElem?_eq_none (by rw [List.length_set]; omega)] at q
      cases q
  · rw [List.getElem?_set_ne hj] at q
    obtain ⟨u, a, b⟩ := s.2 j y q
    exact ⟨u, by rw [List.getElem?_set_ne hj]; exact a, b⟩⟩
section
variable {X : Cx} {Wout : WX} {x n : Str} {c : Value} {i : Nat} {e0 : Expr} {suite : List Stmt} {b₀ : Stmt} {np pos pos' pos0 : Pos} {me : ME} {mh : Addr → Value → Option Addr → MS} {cat : Addr → Option Bool}
/-- the heart: what the clause gets -/
theorem was_of {D : Ends} {w : Wd} {σ : St} {e : Env} {ex : MExc} {m1 : Mo} {K : PySem.W.Frag} (hcat : ∀ C' b, cat C' = some b → PySem.W.exmOne K (.ref C') c = some b) (q : SR K w e σ)
    (p : PostS K Wout D w (match cat ex.cls with
    | some true => (mAll (!ex.fs.isEmpty) fun a d => mh a (.ref ex.cls) d (e.set i (some (.exc a (d.getD 0) ex.cls (ex.fs.map (·.1)) (ex.fs.map (·.2))))) m1).nox.bind fun fl m2 => .ok (clrF i fl) m2
    | some false => .exc ex m1
    | none => .stuck)) : ∀ w' H' cl d, w.Le w' → RS K w' m1 H' → ExcR K w' ex cl d H' → wAs K c i (fun a cls d => tUSs K W0 (mh a cls d)) Wout D cl d σ H' := by
  intro w' H' cl d l z ⟨e1, e2⟩
  subst e1
  cases hb : cat ex.cls with
  | none => rw [hb] at p; exact p.elim
  | some b =>
    refine ⟨b, hcat _ _ hb, fun ht a ha => ?_, fun hf => ?_⟩
    · subst ht
      rw [hb] at p
      dsimp only at p
      have ns : mAll (!ex.fs.isEmpty) (fun a d => mh a (.ref ex.cls) d (e.set i (some (.exc a (d.getD 0) ex.cls (ex.fs.map (·.1)) (ex.fs.map (·.2))))) m1) ≠ .stuck := by
        intro hz
        rw [hz] at p
        exact p
      have hd : (!ex.fs.isEmpty) = true → d.isSome = true := by
        intro hq
        cases hfs : ex.fs with
        | nil => rw [hfs] at hq; cases hq
        | cons f fs =>
          rw [hfs] at e2
          obtain ⟨dd, vs, e3, _⟩ := e2
          rw [e3]
          rfl
      have ev := mAll_at ns a d hd
      refine ⟨w', m1, _, z, (q.mono l).set i (x := .exc a (d.getD 0) ex.cls (ex.fs.map (·.1)) (ex.fs.map (·.2))) (v := .ref a) ?_, ?_⟩
      · cases hfs : ex.fs with
        | nil => exact ⟨rfl, [], .inl rfl, rfl, rfl⟩
        | cons f fs =>
          rw [hfs] at e2
          obtain ⟨dd, vs, e3, e4, e5⟩ := e2
          refine ⟨rfl, vs, .inr ?_, by rw [List.length_map, List.length_map], e5⟩
          rw [e3]
          exact e4
      · have ev2 : mh a (.ref ex.cls) d (e.set i (some (.exc a (d.getD 0) ex.cls (ex.fs.map (·.1)) (ex.fs.map (·.2))))) m1 = _ := ev
        rw [ev2]
        cases hr : mAll (!ex.fs.isEmpty) (fun a d => mh a (.ref ex.cls) d (e.set i (some (.exc a (d.getD 0) ex.cls (ex.fs.map (·.1)) (ex.fs.map (·.2))))) m1) with
        | stuck => exact absurd hr ns
        | exc y m2 =>
          rw [hr] at p
          exact p.elim
        | ok fl m2 =>
          rw [hr] at p
          cases fl with
          | next e' => exact fun w2 H2 σ2 l2 z2 r2 => p w2 H2 _ (l.trans l2) z2 (r2.clear i)
          | brk e' => exact fun w2 H2 σ2 l2 z2 r2 => p w2 H2 _ (l.trans l2) z2 (r2.clear i)
          | cont e' => exact fun w2 H2 σ2 l2 z2 r2 => p w2 H2 _ (l.trans l2) z2 (r2.clear i)
          | ret y => exact fun w2 H2 v l2 z2 r2 => p w2 H2 _ (l.trans l2) z2 r2
    · subst hf
      rw [hb] at p
      exact p w' H' _ d σ l z ⟨rfl, e2⟩
def mDropE : MV → MS := fun _ e m => .ok (.next e) m
def mRetE : MV → MS := fun x _ m => .ok (.ret x) m
theorem pms_tryE (hs : X.stack = X.env :: X.outer) (hf : X.env.frame = some X.env.locals) (hN : X.N.Nodup) (hi : X.N[i]? = some n) (hln : X.env.kindOf n = some .local) (hc : Names X x c) (tk : Takes X Wout)
    (hcat : ∀ C' b, cat C' = some b → PySem.W.exmOne X.K (.ref C') c = some b)
    (hb : ∀ (W : WX) (pn : List (Addr × Obj)) (xe : Value → Shared → Prop), Takes (X.tr pn xe) W → PassesOwn (model X.prog X.w) X.A X.env xe → PM (X.tr pn xe) W e0 me)
    (hsu : ∀ (a : Addr) (oe : Obj) (cls : Value) (d : Option Addr) (pn : List (Addr × Obj)), Zc cls d oe → (∃ vs, oe.data = .fields vs) → PMSs (X.suite a ((a, oe) :: pn)) W0 (b₀ :: suite) (mh a cls d))
    (hsw : swapsWith e0 none pos0.line X.env = pure false := by rfl) :
    PMS X Wout (.Try [.Expr e0 pos0] [.ExceptHandler (some (.Name x np)) (some n) (b₀ :: suite) pos'] [] [] pos) (mTry cat i me mDropE mh) := by
  refine ⟨_, ps_try_as (tb := fun W => tDrop (tU X.K W me)) (ts := fun a cls d => tUSs X.K W0 (mh a cls d)) hs hf hN hi hln hc tk (fun W pn xe t pa => pss_one (ps_expr (hb W pn xe t pa).pe hsw)) (fun a oe cls d pn hz hd => (hsu a oe cls d pn hz hd).ps), fun w m H e σ D s q p => ?_⟩
  refine ⟨w, m, e, s, q, ?_⟩
  unfold mTry at p
  cases hm : me e m with
  | stuck => rw [hm] at p; exact p
  | ok y m1 =>
    rw [hm] at p
    exact fun w' H' v l z r => p w' H' σ l z (q.mono l)
  | exc ex m1 =>
    rw [hm] at p
    exact was_of hcat q p
theorem pms_tryR (hs : X.stack = X.env :: X.outer) (hf : X.env.frame = some X.env.locals) (hN : X.N.Nodup) (hi : X.N[i]? = some n) (hln : X.env.kindOf n = some .local) (hc : Names X x c) (tk : Takes X Wout)
    (hcat : ∀ C' b, cat C' = some b → PySem.W.exmOne X.K (.ref C') c = some b)
    (hb : ∀ (W : WX) (pn : List (Addr × Obj)) (xe : Value → Shared → Prop), Takes (X.tr pn xe) W → PassesOwn (model X.prog X.w) X.A X.env xe → PM (X.tr pn xe) W e0 me)
    (hsu : ∀ (a : Addr) (oe : Obj) (cls : Value) (d : Option Addr) (pn : List (Addr × Obj)), Zc cls d oe → (∃ vs, oe.data = .fields vs) → PMSs (X.suite a ((a, oe) :: pn)) W0 (b₀ :: suite) (mh a cls d)) :
    PMS X Wout (.Try [.Return (some e0) pos0] [.ExceptHandler (some (.Name x np)) (some n) (b₀ :: suite) pos'] [] [] pos) (mTry cat i me mRetE mh) := by
  refine ⟨_, ps_try_as (tb := fun W => tRet (tU X.K W me)) (ts := fun a cls d => tUSs X.K W0 (mh a cls d)) hs hf hN hi hln hc tk (fun W pn xe t pa => pss_one (ps_ret (hb W pn xe t pa).pe)) (fun a oe cls d pn hz hd => (hsu a oe cls d pn hz hd).ps), fun w m H e σ D s q p => ?_⟩
  refine ⟨w, m, e, s, q, ?_⟩
  unfold mTry at p
  cases hm : me e m with
  | stuck => rw [hm] at p; exact p
  | ok y m1 =>
    rw [hm] at p
    exact fun w' H' v l z r => p w' H' v l z r
  | exc ex m1 =>
    rw [hm] at p
    exact was_of hcat q p
/-- n.f in the clause -/
def mXf (a : Addr) (cls : Value) (d : Option Addr) (C : Addr) (f : Str) (i : Nat) : ME := fun e m => match e[i]? with
  | some (some (.exc a' dd _ ns xs)) => if a' = a ∧ cls = .ref C ∧ d = some dd then (match lookF ns xs f with
    | some x => .ok x m
    | none => .stuck) else .stuck
  | _ => .stuck
theorem pm_xf {W : WX} {a C : Addr} {oe : Obj} {cls : Value} {d : Option Addr} {pn : List (Addr × Obj)} {f : Str} (T : XfC X.K C) (hno : PySem.W.findIn X.K (.ref C) f = some none) (hz : Zc cls d oe) (hf : ∃ vs, oe.data = .fields vs) (i : Nat) (hi : X.N[i]? = some n) (hv : Vis X.env.scope n)
    (hd : (n == ("__debug__" : Str)) = false := by decide) (hcd : (n == ("__classdict__" : Str)) = false := by decide) (hb : attributeBase (.Name n np) f X.env (eval (.Name n np) X.env) = eval (.Name n np) X.env := by rfl) :
    PM (X.suite a ((a, oe) :: pn)) W (.Attribute (.Name n np) f pos) (mXf a cls d C f i) := by
  refine ⟨_, pe_xf (X := X) (pos := pos) T hno hz hf (pe_var (X := X.suite a ((a, oe) :: pn)) (pos := np) hi hv hd hcd) hb, fun w m H e σ Q s q p => ?_⟩
  unfold mXf at p
  split at p
  · rename_i a' dd C' ns xs he
    split at p
    · rename_i hq
      obtain ⟨rfl, rfl, rfl⟩ := hq
      split at p
      · rename_i y hl
        obtain ⟨v, hv1, e1, vs, hx, hlen, rs⟩ := q.2 i _ he
        obtain ⟨u, hu, ru⟩ := lookF_some rs hl
        refine ⟨v, hv1, e1, rfl, dd, ns.zip vs, u, rfl, ?_, hu, p w H u (.refl w) s ru⟩
        rcases hx with hx | hx
        · subst hx
          unfold lookF at hl
          cases hl
        · exact s.fz _ _ hx
      · exact p.elim
    · exact p.elim
  · exact p.elim
end
end ML
set_option Elab.async false
set_option linter.all false
set_option maxRecDepth 100000
set_option maxHeartbeats 2000000
namespace ML
open PySem PySem.Spec PyProof.Rows L2

/-! ### len of an instance; a op b op c -/
section
variable {X : Cx} {W : WX} {k : Nat} {f C : Addr} {fd : FuncData} {ps : List Str} {call : MFn} {p pos : Pos} {o a b c : Expr} {mo ma mb mc : ME}
/-- len(o), o an instance whose class tells it -/
noncomputable def oLen (C : Addr) (call : MFn) (x : MV) (m1 : Mo) : R MV := match insOf x m1 with
  | some (C', _, _) => if C' = C then (call [x] m1).bind fun y m2 => (match y with
    | .int n => if okI 0 1000000000 n then .ok (.int n) m2 else .stuck
    | _ => .stuck) else .stuck
  | none => .stuck
noncomputable def oLen1 (C : Addr) (call : MFn) (xs : List MV) (m1 : Mo) : R MV := match xs with
  | [x] => oLen C call x m1
  | _ => .stuck
noncomputable def mLenO (C : Addr) (call : MFn) (mo : ME) : ME := fun e m => (mo e m).bind fun x m1 => oLen C call x m1
theorem pm_lenO (ho : PM X W o mo) (iL : PySem.W.findIn X.K (.ref C) "__len__" = some (some (.ref f))) (fL : PySem.W.isFn X.K (.ref f) = true) (F : FnG X.prog X.w X.K X.mg X.base k f fd ps call) (hgd : X.A.guards = some []) (hr : Room (k + 1) X.A) (hb : Binds X.K fd ps []) (tk : Takes X W) (hps : ps.length = 1)
    (hm : X.mg "len" = none) (hg : Gl X "len" := by rfl)
    (he : starEach [o] X.env = (false, eval o X.env) :: starEach [] X.env := by rfl) (hpl : (backTo pos (starEach [] X.env)).any (·.1) = false := by rfl) : PM X W (.Call (.Name "len" p) [o] [] pos) (mLenO C call mo) := by
  refine PM.of fun pins s σ H Q w m e I z q h => ?_
  refine wpAny_Call_Name_kw (ld_blt I hg hm PySem.boot_len ?_ (by decide) (by decide))
  have ha : PMA X W [o] (mACons mo mANil) := pma_cons ho pma_nil he
  have h' : PostE X.K W σ Q w ((mACons mo mANil e m).bind (oLen1 C call)) := by
    unfold mLenO at h
    unfold mACons mANil
    cases hx : mo e m with
    | stuck => rw [hx] at h; exact h
    | exc y m1 => rw [hx] at h; exact h
    | ok y m1 => rw [hx] at h; exact h
  refine PyProof.Rows.callWith_builtin1 (ha.go I z q h' pos fun us s1 xs vs w1 m1 H1 l I1 z1 rv r p1 => ?_) he hpl
  match xs, r, p1 with
  | [x], r, p1 =>
    obtain ⟨v, rfl, rx⟩ := r.one
    have p9 : PostE X.K W σ Q w1 (oLen C call x m1) := p1
    clear p1
    unfold oLen at p9
    cases hi : insOf x m1 with
    | none => rw [hi] at p9; exact p9.elim
    | some t =>
      obtain ⟨C', ns, fs⟩ := t
      rw [hi] at p9
      dsimp only at p9
      split at p9
      · rename_i hC
        subst hC
        obtain ⟨ad, dx, vs, rfl, h4, hl, rs⟩ := ins_at z1 rx hi
        cases rv with
        | cons r1 r2 =>
          cases r2
          rename_i u0
          obtain rfl : u0 = Value.ref ad := r1
          obtain ⟨mA, O, _⟩ := ins_get I1.hok h4
          obtain ⟨od, IA, _⟩ := O.look
          obtain ⟨mf, fr⟩ := I1.fr
          refine PySem.W.len_K fr I1.mod.kin IA iL fL ?_
          have hu : ([Value.ref ad] ++ ([] : List Value)).length = ps.length := by simp [hps]
          have bt := hb s1 [.ref ad] I1.kIn hu
          rw [List.append_nil] at bt
          have p2 : PostE X.K (WE fun c d H => W c d σ H) [] (fun v H2 => ∃ n : Int, v = .int n ∧ (0 ≤ n ∧ n < 2 ^ 63) ∧ Q (.int n) H2) w1 (call [x] m1) := by
            cases hc : call [x] m1 with
            | stuck => rw [hc] at p9; exact p9
            | exc y m3 => rw [hc] at p9; exact p9
            | ok y m3 =>
              rw [hc] at p9
              intro w' H' v l' z' rv'
              cases y with
              | int n =>
                rw [R.bind_ok] at p9
                dsimp only at p9
                split at p9
                · rename_i hn
                  exact ⟨n, rv', ⟨hn.1, by have := hn.2; omega⟩, p9 w' H' _ l' z' rfl⟩
                · exact p9.elim
              | _ => exact p9.elim
          refine wpAny_call (codeAny_mono (F.run X.A.in1 X.stack s1 H1 ⟨[.ref ad], []⟩ [.ref ad] [.ref ad] _ (fun c d H => W c d σ H) [x] m1 w1 hgd hr.in1 I1.env0.in1 bt (.cons rfl .nil) (by simp [hps]) z1 (RMs.cons rx RMs.nil) p2) fun rr s2 hq => ?_)
          cases rr with
          | error e => exact tk e s2 (XE.of_call I1 (fun _ _ _ q => q) hq)
          | ok fl =>
            cases fl with
            | ret u =>
              obtain ⟨v, H', I3, rv, n, ev, hn, q3⟩ := I1.after hq
              subst ev
              obtain ⟨t, rfl⟩ := rv
              exact ⟨hn, .int n, H', I3.tok _, ⟨_, rfl⟩, q3⟩
            | next => exact hq.elim
            | brk => exact hq.elim
            | cont => exact hq.elim
      · exact p9.elim
  | [], r, p1 => exact p1.elim
  | _ :: _ :: _, r, p1 => exact p1.elim
def mChain (f g : MV → MV → Mo → Option Bool) (ma mb mc : ME) : MT := fun e m => (ma e m).bind fun x m1 => (mb e m1).bind fun y m2 => match f x y m2 with
  | some true => (mc e m2).bind fun z m3 => (match g y z m3 with
    | some b => .ok b m3
    | none => .stuck)
  | some false => .ok false m2
  | none => .stuck
theorem pmt_chain {op op' : CmpOp} {r r' : R2} {f g : MV → MV → Mo → Option Bool} (ho : OpR X (compareOp op) r) (hr : SimO X.K W r (oB f)) (ho' : OpR X (compareOp op') r') (hr' : SimO X.K W r' (oB g)) (ha : PM X W a ma) (hb : PM X W b mb) (hc : PM X W c mc)
    (hm : lastMarks [op, op'] [b, c] = false := by with_unfolding_all rfl) : PMT X W (.Compare a [op, op'] [b, c] pos) (mChain f g ma mb mc) := by
  obtain ⟨ta, h1, s1⟩ := ha
  obtain ⟨tb, h2, s2⟩ := hb
  obtain ⟨tc, h3, s3⟩ := hc
  refine ⟨_, pt_chain ho ho' h1 h2 h3 hm, fun w m H e σ Q s q p => ?_⟩
  refine s1 w m H e σ _ s q (PostE.bindT p fun x m1 w1 H1 vx l1 z1 r1 p1 => ?_)
  refine s2 w1 m1 H1 e σ _ z1 (q.mono l1) (PostE.bindT p1 fun y m2 w2 H2 vy l2 z2 r2 p2 => ?_)
  have rx := RM.mono l2 _ _ r1
  cases h : f x y m2 with
  | none => rw [h] at p2; exact p2.elim
  | some k =>
    rw [h] at p2
    refine hr w2 m2 H2 x y vx vy σ _ z2 rx r2 ?_
    unfold oB
    rw [h]
    intro w3 H3 v l3 z3 r3
    refine ⟨k, r3, ?_⟩
    cases k with
    | false => exact ⟨false, rfl, p2 w3 H3 l3 z3⟩
    | true =>
      refine s3 w3 m2 H3 e σ _ z3 (q.mono ((l1.trans l2).trans l3)) (PostE.bindT (PostT.mono l3 p2) fun u m4 w4 H4 vu l4 z4 r4 p4 => ?_)
      refine hr' w4 m4 H4 y u vy vu σ _ z4 (RM.mono (l3.trans l4) _ _ r2) r4 ?_
      unfold oB
      cases hg : g y u m4 with
      | none => rw [hg] at p4; exact p4.elim
      | some k2 =>
        rw [hg] at p4
        exact fun w5 H5 v5 l5 z5 r5 => ⟨k2, r5, p4 w5 H5 l5 z5⟩
end
/-! ### is None -/
def fIsN (x y : MV) (_ : Mo) : Option Bool := match y with
  | .non => (match x with
    | .non => some true
    | _ => some false)
  | _ => none
def fNotN (x y : MV) (m : Mo) : Option Bool := (fIsN x y m).map (!·)
theorem non_rel {K : PySem.W.Frag} {w : Wd} : ∀ {x : MV} {v : V}, RM K w x v → v = .non → x = .non
  | .non, _, _, _ => rfl
  | .bl _, _, r, e => by cases show V.bl _ = V.non from r.symm.trans e
  | .int _, _, r, e => by cases show V.int _ = V.non from r.symm.trans e
  | .str _, _, r, e => by cases show V.str _ = V.non from r.symm.trans e
  | .tup _, _, ⟨_, _, r, _⟩, e => by cases r.symm.trans e
  | .lst _, _, ⟨_, _, r, _⟩, e => by cases r.symm.trans e
  | .rl _, _, ⟨_, _, r, _⟩, e => by cases r.symm.trans e
  | .dK _ _, _, ⟨_, _, r, _⟩, e => by cases r.symm.trans e
  | .dT _ _, _, ⟨_, _, r, _⟩, e => by cases r.symm.trans e
  | .obj _ _ _, _, ⟨_, _, _, r, _⟩, e => by cases r.symm.trans e
  | .ref _, _, ⟨_, r, _⟩, e => by cases r.symm.trans e
  | .ty _, _, r, e => by cases show V.ty _ = V.non from r.symm.trans e
  | .cls _, _, r, e => by cases show V.ref _ = V.non from r.symm.trans e
  | .exc _ _ _ _ _, _, ⟨r, _⟩, e => by cases r.symm.trans e
theorem fIsN_sim {K : PySem.W.Frag} {w : Wd} {m : Mo} {x y : MV} {vx vy : V} {b : Bool} (rx : RM K w x vx) (ry : RM K w y vy) (h : fIsN x y m = some b) : vy = .non ∧ b = decide (vx = .non) := by
  unfold fIsN at h
  split at h
  · refine ⟨ry, ?_⟩
    split at h
    · cases h
      have e : vx = .non := rx
      rw [decide_eq_true e]
    · rename_i hn
      cases h
      have e : vx ≠ .non := fun z => hn (non_rel rx z)
      rw [decide_eq_false e]
  · cases h
theorem so_isN {K : PySem.W.Frag} {W : WX} : SimO K W (fun x y H Q => y = .non ∧ Q (.bl (decide (x = .non))) H) (oB fIsN) := by
  intro w m H x y vx vy σ Q s rx ry p
  unfold oB at p
  cases h : fIsN x y m with
  | none => rw [h] at p; exact p.elim
  | some b =>
    rw [h] at p
    obtain ⟨e1, e2⟩ := fIsN_sim rx ry h
    exact ⟨e1, p w H _ (.refl w) s (by rw [e2]; exact rfl)⟩
theorem so_notN {K : PySem.W.Frag} {W : WX} : SimO K W (fun x y H Q => y = .non ∧ Q (.bl (!decide (x = .non))) H) (oB fNotN) := by
  intro w m H x y vx vy σ Q s rx ry p
  unfold oB fNotN at p
  cases h : fIsN x y m with
  | none => rw [h] at p; exact p.elim
  | some b =>
    rw [h] at p
    obtain ⟨e1, e2⟩ := fIsN_sim rx ry h
    exact ⟨e1, p w H _ (.refl w) s (by rw [← e2]; exact rfl)⟩
end ML
set_option Elab.async false
set_option linter.all false
set_option maxRecDepth 100000
set_option maxHeartbeats 2000000
namespace ML
open PySem PySem.Spec PyProof.Rows L2

/-! ### the law's own call -/
/-- what is tracked at the law's entry: at most the script -/
def OneAt (K : PySem.W.Frag) (a : Addr) (obj : Obj) (vs : List V) (H : Hp) : Prop :=
  (K.lookup a = some obj ∧ H = fun _ => none) ∨ (K.lookup a = none ∧ H = fun b => if b = a then some (.frz obj (.lst vs)) else none)
section
variable {P : Program} {w : World} {K : PySem.W.Frag} {mg mb : Str → Option Value} {k : Nat} {fa a : Addr} {fd : FuncData} {x : Str} {call : MFn} {s₁ : Shared} {us : List Value} {ns : List Int} {H : Hp}
theorem oneAt_at {obj : Obj} {vs : List V} (h : OneAt K a obj vs H) {b : Addr} {u : HO} (e : H b = some u) : b = a ∧ u = .frz obj (.lst vs) ∧ K.lookup a = none := by
  rcases h with ⟨_, rfl⟩ | ⟨hk, rfl⟩
  · cases e
  · dsimp only at e
    split at e
    · rename_i hb
      exact ⟨hb, (Option.some.inj e).symm, hk⟩
    · cases e
theorem law_runG (KX : K.In s₁.heap) (hns : s₁.heap.Ns mainGlobals mg) (hb : s₁.heap.Ns builtinsNs mb) (hbb : ∀ x : Str, x ≠ "__name__" → mb x = bootBuiltins x) (hlim : s₁.heap.NoLimit) (hg : s₁.gens = #[])
    (ho : s₁.heap.get? a = some { cls := .type "list", data := .seq us.toArray }) (hi : IntsAre us ns) (hl : ns.length ≤ sizeLine) (hr : Room k callerA)
    (F : ∀ base : Heap, K.In base → base.Ns mainGlobals mg → FnG P w K mg base k fa fd [x] call) (hbd : ∀ (s : Shared) (u : Value), BindsTo s fd ⟨[u], []⟩ [(x, u)])
    (law : ∃ m', call [.rl (ns.map MV.int)] [] = .ok (.bl true) m') :
    codeAny (model P w) callerA (.call (.ref fa) ⟨[.ref a], []⟩) (fun r s' => r = .ok (.ret (.bool true)) ∧ OldK s₁.heap s'.heap ∧ s'.os = s₁.os ∧ AllBare s'.gens) s₁ := by
  have rv := vals_ints hi
  have lenV := hi.length
  obtain ⟨H, hH⟩ : ∃ H, OneAt K a { cls := .type "list", data := .seq us.toArray } (ns.map V.int) H := by
    cases hk : K.lookup a with
    | none => exact ⟨_, .inr ⟨hk, rfl⟩⟩
    | some o =>
      have e := KX a o hk
      rw [ho] at e
      cases e
      exact ⟨_, .inl ⟨hk, rfl⟩⟩
  have hS : SqL K H a (ns.map V.int) := by
    rcases hH with ⟨hk, _⟩ | ⟨_, rfl⟩
    · exact .inr ⟨_, us.toArray, _, hk, rfl, rfl, rfl, by rw [List.size_toArray, lenV]; exact hl, by simpa using rv⟩
    · exact .inl (.inr ⟨_, if_pos rfl⟩)
  have hok : HOk P w H s₁.heap := fun b u e => by
    obtain ⟨rfl, rfl, _⟩ := oneAt_at hH e
    exact ⟨ho, by rw [List.length_map]; exact hl, us, _, rv, ho⟩
  have vis : ∀ {b : Addr} {o : Obj}, s₁.heap.get? b = some o → H b = none → (hidT s₁.heap H).get? b = some o := fun e n => hidT_get e n
  have dict : ∀ {b : Addr} {mm : Str → Option Value}, s₁.heap.Ns b mm → (hidT s₁.heap H).Ns b mm := fun {b mm} q => by
    obtain ⟨o, es, ep, e, d, r⟩ := q
    refine ⟨o, es, ep, vis e ?_, d, r⟩
    cases hq : H b with
    | none => rfl
    | some u =>
      obtain ⟨rfl, _⟩ := oneAt_at hH hq
      rw [ho] at e
      cases e
      have d' : Data.seq us.toArray _ = Data.dict es ep := d
      cases d'
  have inB : K.In (hidT s₁.heap H) := fun b o e => vis (KX b o e) (by
    cases hq : H b with
    | none => rfl
    | some u =>
      obtain ⟨rfl, _, hn⟩ := oneAt_at hH hq
      rw [hn] at e
      cases e)
  have md : Mod K mg (hidT s₁.heap H) := ⟨inB, dict hns, ⟨mb, dict hb, hbb⟩, hlim.elim fun mc h => ⟨mc, dict h.1, h.2⟩⟩
  have e0 : Env0 P w K mg (hidT s₁.heap H) callerA [] s₁ H := {
    frames := rfl
    mod := md
    bs := fun b o e => of_hidT e
    bsz := Nat.le_of_eq (hidT_size _ _)
    funs := trivial
    frf := fun b hb => by cases hb
    hok := hok
    bare := .of_eq hg }
  have rs : RS K ⟨H, [], fun _ => none⟩ [] H := ⟨fun _ _ e => e, fun _ _ e => (by cases e), rfl, fun i c e _ => (by cases e), fun i j a ci cj e _ _ _ _ _ => (by cases e)⟩
  have asInts : ∀ l : List Int, RMs K ⟨H, [], fun _ => none⟩ (l.map MV.int) (l.map V.int) := by
    intro l
    induction l with
    | nil => exact rfl
    | cons i l ih => exact ⟨_, _, rfl, rfl, ih⟩
  have rx : RMs K ⟨H, [], fun _ => none⟩ [.rl (ns.map MV.int)] [V.ref a] := RMs.cons ⟨a, _, rfl, hS, asInts ns⟩ RMs.nil
  obtain ⟨m', hlaw⟩ := law
  have post : PostE K (WE fun _ _ _ => False) [] (fun v _ => v = .bl true) ⟨H, [], fun _ => none⟩ (call [.rl (ns.map MV.int)] []) := by
    rw [hlaw]
    exact fun w' H' v _ _ r => r
  have run := (F _ inB (dict hns)).run callerA [] s₁ H ⟨[.ref a], []⟩ [.ref a] [.ref a] _ _ [.rl (ns.map MV.int)] [] _ rfl hr e0 (hbd s₁ (.ref a)) (.cons rfl .nil) rfl rs rx post
  refine codeAny_mono run fun r s' h => ?_
  match r, h with
  | .error e, h =>
    obtain ⟨_, _, _, _, _, _, _, _, _, _, _, _, z⟩ := h
    exact z.elim
  | .ok (.ret u), h =>
    obtain ⟨v, H', os, bare, un, hok', r', q⟩ := h
    have q' : v = .bl true := q
    subst q'
    obtain rfl : u = Value.bool true := r'
    refine ⟨rfl, OldK.of_keep fun b o e => ?_, os, bare⟩
    cases hq : H b with
    | none => exact un.keep b o e hq (fun z => by cases z) (fun z => by cases z)
    | some u =>
      obtain ⟨rfl, rfl, _⟩ := oneAt_at hH hq
      have z2 := un.frzs _ _ _ hq
      have e1 := (hok' _ _ z2).1
      rw [ho] at e
      cases e
      exact e1
end
/-- what k_head leaves of the law -/
theorem walkG {l : PySem.W.OpenLaw} {n k : Nat} {q : Program} {loose : List Str} {XP : (Str → Option Value) → Heap → Prop} {YP : World → Heap → Prop} {d : DefRec} {K : Params → PySem.W.Frag} {x : Str}
    (hn : l.most = some n) (hn2 : n ≤ sizeLine) (hdf : d.params.defaults = []) (hr : Room k callerA) (hY : ∀ (w : World) (h : Heap), YP w h → (K w.params).In h)
    (F : ∀ (w : World) (mg : Str → Option Value) (fa : Addr) (h : Heap), (K w.params).In h → h.Ns mainGlobals mg → mg d.name = some (.ref fa) →
      ∃ (fd : FuncData) (call : MFn), (∀ (s : Shared) (u : Value), BindsTo s fd ⟨[u], []⟩ [(x, u)]) ∧ (∀ base : Heap, (K w.params).In base → base.Ns mainGlobals mg → FnG l.prog w (K w.params) mg base k fa fd [x] call) ∧
        ∀ ns : List Int, ns.length ≤ n → ∃ m', call [.rl (ns.map MV.int)] [] = .ok (.bl true) m') :
    PySem.W.WalkO q loose XP YP l.row.toRowW d [] (fun f vs => PySem.call f vs) := by
  refine Att.attach_call hn hdf fun w s₀ s₁ mg mb fa o pm cd doc a vs ns G Y ho hd hcd hmg hobj hints hlen hg => ?_
  have KX := hY w _ Y
  obtain ⟨fd, call, hb, hF, hlaw⟩ := F w mg fa _ KX G.T.g hmg
  exact law_runG KX G.T.g G.T.b G.T.builtins G.T.nolimit hg hobj hints (Nat.le_trans hlen hn2) hr hF hb (hlaw ns hlen)
end ML
set_option Elab.async false
set_option linter.all false
set_option maxRecDepth 100000
set_option maxHeartbeats 2000000
namespace ML
open PySem PySem.Spec PyProof.Rows L2

/-! ### small words for the printed derivations -/
theorem u64 {k : Nat} {A : Around} (hr : Room k A) : A.units + 64 < cLine := by
  have := hr.un
  omega
theorem u1 {k : Nat} {A : Around} (hr : Room k A) : A.units + 1 < cLine := by
  have := hr.un
  omega
theorem fnG_stuck {P : Program} {w : World} {K : PySem.W.Frag} {mg : Str → Option Value} {base : Heap} {k : Nat} {f : Addr} {fd : FuncData} {ps : List Str} : FnG P w K mg base k f fd ps (fun _ _ => .stuck) :=
  ⟨fun A outer s H args us vs Q E xs m wd hg hr e0 hb rv hl rs rx hp => hp.elim⟩
def mNeg (ma : ME) : ME := fun e m => (ma e m).bind fun x m1 => match x with
  | .int i => .ok (.int (-i)) m1
  | _ => .stuck
theorem pm_neg {X : Cx} {W : WX} {a : Expr} {ma : ME} {pos : Pos} (h : PM X W a ma) : PM X W (.UnaryOp .USub a pos) (mNeg ma) := by
  obtain ⟨t, h1, s1⟩ := h
  refine ⟨_, pe_un un_neg h1, fun w m H e σ Q s q p => s1 w m H e σ _ s q (PostE.bind p fun x m1 w1 H1 v l z r p1 => ?_)⟩
  cases x with
  | int i => exact ⟨i, r, p1 w1 H1 _ (.refl _) z rfl⟩
  | _ => exact p1.elim
section
variable {X : Cx} {W : WX} {k n : Nat} {f C : Addr} {fd : FuncData} {ps : List Str} {call : MFn} {x mn : Str} {p pos apos : Pos} {a o : Expr} {es : List Expr} {ml : MA} {mo : ME}
theorem px_call (F : FnG X.prog X.w X.K X.mg X.base k f fd ps call) (hgd : X.A.guards = some []) (hr : Room k X.A) (hm : X.mg x = some (.ref f)) (hk : PySem.W.keepIn X.K (.ref f) = true) (hb : Binds X.K fd ps []) (tk : Takes X W) (ha : PMA X W (a :: es) ml) (hn : ps.length = n := by rfl)
    (hg : Gl X x := by rfl) (hdb : (x == ("__debug__" : Str)) = false := by decide) (he : starEach (a :: es) X.env = (false, eval a X.env) :: starEach es X.env := by rfl) (hpl : (backTo pos (starEach es X.env)).any (·.1) = false := by rfl) :
    PM X W (.Call (.Name x p) (a :: es) [] pos) (mCall n call ml) := by
  subst hn
  exact pm_call F hgd hr hm hk hb tk ha hg hdb he hpl
theorem px_meth {pl : Sem Bool} (ho : PM X W o mo) (c : Cls X.K C) (hm : Meth X.K C mn f) (F : FnG X.prog X.w X.K X.mg X.base k f fd ps call) (hgd : X.A.guards = some []) (hr : Room k X.A) (hb : Binds X.K fd ps []) (tk : Takes X W) (ha : PMA X W (a :: es) ml) (hn : ps.length = n := by rfl)
    (hst : starEach (a :: es) X.env = (false, eval a X.env) :: starEach es X.env := by rfl) (hpl : (backTo pos (starEach es X.env)).any (·.1) = false := by rfl)
    (ht : eval (.Call (.Attribute o mn apos) (a :: es) [] pos) X.env = (do
      let ov ← eval o X.env
      standAt apos.atName
      let (f, first) ← holding [ov] (getMethod ov mn pl)
      callWith pos f first (backTo pos (starEach (a :: es) X.env)) (backToKw pos (keywordEach [] X.env))) := by rfl) :
    PM X W (.Call (.Attribute o mn apos) (a :: es) [] pos) (mMeth C mn n call mo ml) := by
  subst hn
  exact pm_meth ho c hm F hgd hr hb tk ha hst hpl ht
theorem px_meth0 {pl : Sem Bool} (ho : PM X W o mo) (c : Cls X.K C) (hm : Meth X.K C mn f) (F : FnG X.prog X.w X.K X.mg X.base k f fd ps call) (hgd : X.A.guards = some []) (hr : Room k X.A) (hb : Binds X.K fd ps []) (tk : Takes X W) (hn : ps.length = n := by rfl)
    (ht : eval (.Call (.Attribute o mn apos) [] [] pos) X.env = (do
      let ov ← eval o X.env
      standAt apos.atName
      let (f, first) ← holding [ov] (getMethod ov mn pl)
      callWith pos f first (backTo pos (starEach [] X.env)) (backToKw pos (keywordEach [] X.env))) := by rfl) :
    PM X W (.Call (.Attribute o mn apos) [] [] pos) (mMeth C mn n call mo mANil) := by
  subst hn
  exact pm_meth0 ho c hm F hgd hr hb tk ht
theorem px_make (M : Mk X.K C f) (F : FnG X.prog X.w X.K X.mg X.base k f fd ps call) (hgd : X.A.guards = some []) (hr : Room (k + 1) X.A) (hm : X.mg x = some (.ref C)) (hb : Binds X.K fd ps []) (tk : Takes X W) (ha : PMA X W (a :: es) ml) (hn : ps.length = n := by rfl)
    (hg : Gl X x := by rfl) (hdb : (x == ("__debug__" : Str)) = false := by decide) (he : starEach (a :: es) X.env = (false, eval a X.env) :: starEach es X.env := by rfl) (hpl : (backTo pos (starEach es X.env)).any (·.1) = false := by rfl) :
    PM X W (.Call (.Name x p) (a :: es) [] pos) (mMake C n call ml) := by
  subst hn
  exact pm_make M F hgd hr hm hb tk ha hg hdb he hpl
theorem px_make0 (M : Mk X.K C f) (F : FnG X.prog X.w X.K X.mg X.base k f fd ps call) (hgd : X.A.guards = some []) (hr : Room (k + 1) X.A) (hm : X.mg x = some (.ref C)) (hb : Binds X.K fd ps []) (tk : Takes X W) (hn : ps.length = n := by rfl)
    (hg : Gl X x := by rfl) (hdb : (x == ("__debug__" : Str)) = false := by decide) : PM X W (.Call (.Name x p) [] [] pos) (mMake C n call mANil) := by
  subst hn
  exact pm_make0 M F hgd hr hm hb tk hg hdb
end
end ML
set_option Elab.async false
set_option linter.all false
set_option maxRecDepth 100000
set_option maxHeartbeats 2000000
namespace ML
open PySem L2
noncomputable section

/-! ### the mirrors, run: what follows a value is a named frame, no function is written out -/
section
variable {e : Env} {m m1 : Mo} {ma mb mc me mo mi mv : ME} {mt mu : MT} {ml : MA} {ms mu' : MS} {f : MV → MV → Mo → R MV} {g g' : MV → MV → Mo → Option Bool} {i n : Nat} {x y : MV} {xs : List MV} {b : Bool}
@[simp] theorem ev_var : mVar i e m = match e[i]? with | some (some x) => .ok x m | _ => .stuck := rfl
@[simp] theorem ev_c : mC x e m = .ok x m := rfl
def kOp2 (f : MV → MV → Mo → R MV) (x : MV) : MV → Mo → R MV := fun y m1 => f x y m1
@[simp] theorem kOp2_ap {f : MV → MV → Mo → R MV} {x : MV} {y : MV} {m1 : Mo} : kOp2 f x y m1 = f x y m1 := rfl
def kOp (f : MV → MV → Mo → R MV) (mb : ME) (e : Env) : MV → Mo → R MV := fun x m1 => (mb e m1).bind (kOp2 f x)
@[simp] theorem kOp_ap {f : MV → MV → Mo → R MV} {mb : ME} {e : Env} {x : MV} {m1 : Mo} : kOp f mb e x m1 = (mb e m1).bind (kOp2 f x) := rfl
@[simp] theorem ev_op : mOp f ma mb e m = (ma e m).bind (kOp f mb e) := rfl
def kOpB2 (g : MV → MV → Mo → Option Bool) (x : MV) : MV → Mo → R Bool := fun y m1 => (match g x y m1 with | some b => .ok b m1 | none => .stuck)
@[simp] theorem kOpB2_ap {g : MV → MV → Mo → Option Bool} {x : MV} {y : MV} {m1 : Mo} : kOpB2 g x y m1 = (match g x y m1 with | some b => .ok b m1 | none => .stuck) := rfl
def kOpB (g : MV → MV → Mo → Option Bool) (mb : ME) (e : Env) : MV → Mo → R Bool := fun x m1 => (mb e m1).bind (kOpB2 g x)
@[simp] theorem kOpB_ap {g : MV → MV → Mo → Option Bool} {mb : ME} {e : Env} {x : MV} {m1 : Mo} : kOpB g mb e x m1 = (mb e m1).bind (kOpB2 g x) := rfl
@[simp] theorem ev_opB : mOpB g ma mb e m = (ma e m).bind (kOpB g mb e) := rfl
@[simp] theorem ev_oB : oB g x y m = match g x y m with | some b => .ok (.bl b) m | none => .stuck := rfl
def kTru (h : MV → Mo → Option Bool) : MV → Mo → R Bool := fun x m1 => (match h x m1 with | some b => .ok b m1 | none => .stuck)
@[simp] theorem kTru_ap {h : MV → Mo → Option Bool} {x : MV} {m1 : Mo} : kTru h x m1 = (match h x m1 with | some b => .ok b m1 | none => .stuck) := rfl
@[simp] theorem ev_tru {h : MV → Mo → Option Bool} : mTru h ma e m = (ma e m).bind (kTru h) := rfl
def kNotT  : Bool → Mo → R Bool := fun b m1 => .ok (!b) m1
@[simp] theorem kNotT_ap  {b : Bool} {m1 : Mo} : kNotT  b m1 = .ok (!b) m1 := rfl
@[simp] theorem ev_notT : mNotT mt e m = (mt e m).bind kNotT := rfl
def kAndT (mu : MT) (e : Env) : Bool → Mo → R Bool := fun b m1 => if b = true then mu e m1 else .ok false m1
@[simp] theorem kAndT_ap {mu : MT} {e : Env} {b : Bool} {m1 : Mo} : kAndT mu e b m1 = if b = true then mu e m1 else .ok false m1 := rfl
@[simp] theorem ev_andT : mAndT mt mu e m = (mt e m).bind (kAndT mu e) := rfl
def kOrT (mu : MT) (e : Env) : Bool → Mo → R Bool := fun b m1 => if b = true then .ok true m1 else mu e m1
@[simp] theorem kOrT_ap {mu : MT} {e : Env} {b : Bool} {m1 : Mo} : kOrT mu e b m1 = if b = true then .ok true m1 else mu e m1 := rfl
@[simp] theorem ev_orT : mOrT mt mu e m = (mt e m).bind (kOrT mu e) := rfl
def kAndV (mb : ME) (e : Env) : MV → Mo → R MV := fun x m1 => match x with
  | .bl true => mb e m1
  | .bl false => .ok (.bl false) m1
  | _ => .stuck
@[simp] theorem kAndV_0 {mb : ME} {e : Env}  {m1 : Mo} : kAndV mb e (.bl true) m1 = mb e m1 := rfl
@[simp] theorem kAndV_1 {mb : ME} {e : Env}  {m1 : Mo} : kAndV mb e (.bl false) m1 = .ok (.bl false) m1 := rfl
@[simp] theorem ev_andV : mAndV ma mb e m = (ma e m).bind (kAndV mb e) := rfl
theorem kAndV_b {b : Bool} : kAndV mb e (.bl b) m1 = if b = true then mb e m1 else .ok (.bl false) m1 := by cases b <;> rfl
def kOrV (mb : ME) (e : Env) : MV → Mo → R MV := fun x m1 => match x with
  | .bl true => .ok (.bl true) m1
  | .bl false => mb e m1
  | _ => .stuck
@[simp] theorem kOrV_0 {mb : ME} {e : Env}  {m1 : Mo} : kOrV mb e (.bl true) m1 = .ok (.bl true) m1 := rfl
@[simp] theorem kOrV_1 {mb : ME} {e : Env}  {m1 : Mo} : kOrV mb e (.bl false) m1 = mb e m1 := rfl
@[simp] theorem ev_orV : mOrV ma mb e m = (ma e m).bind (kOrV mb e) := rfl
theorem kOrV_b {b : Bool} : kOrV mb e (.bl b) m1 = if b = true then .ok (.bl true) m1 else mb e m1 := by cases b <;> rfl
def kNotV  : MV → Mo → R MV := fun x m1 => match x with
  | .bl k => .ok (.bl (!k)) m1
  | _ => .stuck
@[simp] theorem kNotV_0  {k : Bool} {m1 : Mo} : kNotV  (.bl k) m1 = .ok (.bl (!k)) m1 := rfl
@[simp] theorem ev_notV : mNotV ma e m = (ma e m).bind kNotV := rfl
def kNeg  : MV → Mo → R MV := fun x m1 => match x with
  | .int i => .ok (.int (-i)) m1
  | _ => .stuck
@[simp] theorem kNeg_0  {i : Int} {m1 : Mo} : kNeg  (.int i) m1 = .ok (.int (-i)) m1 := rfl
@[simp] theorem ev_neg : mNeg ma e m = (ma e m).bind kNeg := rfl
def kIfE (ma : ME) (mb : ME) (e : Env) : Bool → Mo → R MV := fun b m1 => if b = true then ma e m1 else mb e m1
@[simp] theorem kIfE_ap {ma : ME} {mb : ME} {e : Env} {b : Bool} {m1 : Mo} : kIfE ma mb e b m1 = if b = true then ma e m1 else mb e m1 := rfl
@[simp] theorem ev_ifE : mIfE mt ma mb e m = (mt e m).bind (kIfE ma mb e) := rfl
@[simp] theorem ev_anil : mANil e m = .ok [] m := rfl
def kCons2 (x : MV) : List MV → Mo → R (List MV) := fun xs m1 => .ok (x :: xs) m1
@[simp] theorem kCons2_ap {x : MV} {xs : List MV} {m1 : Mo} : kCons2 x xs m1 = .ok (x :: xs) m1 := rfl
def kCons (ml : MA) (e : Env) : MV → Mo → R (List MV) := fun x m1 => (ml e m1).bind (kCons2 x)
@[simp] theorem kCons_ap {ml : MA} {e : Env} {x : MV} {m1 : Mo} : kCons ml e x m1 = (ml e m1).bind (kCons2 x) := rfl
@[simp] theorem ev_acons : mACons ma ml e m = (ma e m).bind (kCons ml e) := rfl
def kTup  : List MV → Mo → R MV := fun xs m1 => if xs.length ≤ 16777216 then .ok (.tup xs) m1 else .stuck
@[simp] theorem kTup_ap  {xs : List MV} {m1 : Mo} : kTup  xs m1 = if xs.length ≤ 16777216 then .ok (.tup xs) m1 else .stuck := rfl
@[simp] theorem ev_tup : mTup ml e m = (ml e m).bind kTup := rfl
def kLst  : List MV → Mo → R MV := fun xs m1 => if xs.length ≤ 16777216 then .ok (.lst xs) m1 else .stuck
@[simp] theorem kLst_ap  {xs : List MV} {m1 : Mo} : kLst  xs m1 = if xs.length ≤ 16777216 then .ok (.lst xs) m1 else .stuck := rfl
@[simp] theorem ev_lst : mLst ml e m = (ml e m).bind kLst := rfl
def kLstC  : List MV → Mo → R MV := fun xs m1 => if xs.length ≤ 16777216 ∧ belows m1.length xs = true then .ok (.ref m1.length) (m1 ++ [.lst xs]) else .stuck
@[simp] theorem kLstC_ap  {xs : List MV} {m1 : Mo} : kLstC  xs m1 = if xs.length ≤ 16777216 ∧ belows m1.length xs = true then .ok (.ref m1.length) (m1 ++ [.lst xs]) else .stuck := rfl
@[simp] theorem ev_lstC : mLstC ml e m = (ml e m).bind kLstC := rfl
@[simp] theorem ev_oNone : mONone e m = .ok none m := rfl
def kOSome  : MV → Mo → R (Option Int) := fun x m1 => match x with
  | .int i => .ok (some i) m1
  | _ => .stuck
@[simp] theorem kOSome_0  {i : Int} {m1 : Mo} : kOSome  (.int i) m1 = .ok (some i) m1 := rfl
@[simp] theorem ev_oSome : mOSome ma e m = (ma e m).bind kOSome := rfl
def kSl3 (x : MV) (lo : Option Int) : Option Int → Mo → R MV := fun hi m1 => oSl x lo hi m1
@[simp] theorem kSl3_ap {x : MV} {lo : Option Int} {hi : Option Int} {m1 : Mo} : kSl3 x lo hi m1 = oSl x lo hi m1 := rfl
def kSl2 (mh : MO) (e : Env) (x : MV) : Option Int → Mo → R MV := fun lo m1 => (mh e m1).bind (kSl3 x lo)
@[simp] theorem kSl2_ap {mh : MO} {e : Env} {x : MV} {lo : Option Int} {m1 : Mo} : kSl2 mh e x lo m1 = (mh e m1).bind (kSl3 x lo) := rfl
def kSl (ml : MO) (mh : MO) (e : Env) : MV → Mo → R MV := fun x m1 => (ml e m1).bind (kSl2 mh e x)
@[simp] theorem kSl_ap {ml : MO} {mh : MO} {e : Env} {x : MV} {m1 : Mo} : kSl ml mh e x m1 = (ml e m1).bind (kSl2 mh e x) := rfl
@[simp] theorem ev_sl {ml mh : MO} : mSl ma ml mh e m = (ma e m).bind (kSl ml mh e) := rfl
@[simp] theorem ev_cb {h : List MV → Mo → R MV} : mCB h ml e m = (ml e m).bind h := rfl
def kListRg  : MV → Mo → R MV := fun x m1 => match x with
  | .int n => (if okI (-1000000000) 16777216 n then .ok (.lst (rgM 0 n)) m1 else .stuck)
  | _ => .stuck
@[simp] theorem ev_listRg : mListRg ma e m = (ma e m).bind kListRg := rfl
@[simp] theorem ev_next : mNext e m = .ok (.next e) m := rfl
def kSeq (mu : MS) : MF → Mo → R MF := fun f m1 => match f with
  | .next e1 => mu e1 m1
  | f => .ok f m1
@[simp] theorem kSeq_n {mu : MS} {e : Env} : kSeq mu (.next e) m1 = mu e m1 := rfl
@[simp] theorem kSeq_r {mu : MS} : kSeq mu (.ret x) m1 = .ok (.ret x) m1 := rfl
@[simp] theorem kSeq_b {mu : MS} {e : Env} : kSeq mu (.brk e) m1 = .ok (.brk e) m1 := rfl
@[simp] theorem kSeq_c {mu : MS} {e : Env} : kSeq mu (.cont e) m1 = .ok (.cont e) m1 := rfl
@[simp] theorem ev_seq : mSeq ms mu' e m = (ms e m).bind (kSeq mu') := rfl
@[simp] theorem ev_brk : mBrk e m = .ok (.brk e) m := rfl
@[simp] theorem ev_cont : mCont e m = .ok (.cont e) m := rfl
def kExpr (e : Env) : MV → Mo → R MF := fun x m1 => .ok (.next e) m1
@[simp] theorem kExpr_ap {e : Env} {x : MV} {m1 : Mo} : kExpr e x m1 = .ok (.next e) m1 := rfl
@[simp] theorem ev_expr : mExpr me e m = (me e m).bind (kExpr e) := rfl
def kRet  : MV → Mo → R MF := fun x m1 => .ok (.ret x) m1
@[simp] theorem kRet_ap  {x : MV} {m1 : Mo} : kRet  x m1 = .ok (.ret x) m1 := rfl
@[simp] theorem ev_ret : mRet me e m = (me e m).bind kRet := rfl
def kIf (ms : MS) (mu' : MS) (e : Env) : Bool → Mo → R MF := fun b m1 => if b = true then ms e m1 else mu' e m1
@[simp] theorem kIf_ap {ms : MS} {mu' : MS} {e : Env} {b : Bool} {m1 : Mo} : kIf ms mu' e b m1 = if b = true then ms e m1 else mu' e m1 := rfl
@[simp] theorem ev_if : mIf mt ms mu' e m = (mt e m).bind (kIf ms mu' e) := rfl
def kSet (i : Nat) (e : Env) : MV → Mo → R MF := fun x m1 => .ok (.next (e.set i (some x))) m1
@[simp] theorem kSet_ap {i : Nat} {e : Env} {x : MV} {m1 : Mo} : kSet i e x m1 = .ok (.next (e.set i (some x))) m1 := rfl
@[simp] theorem ev_set : mSet i me e m = (me e m).bind (kSet i e) := rfl
@[simp] theorem ev_gset : gSet i x e m = .ok (e.set i (some x)) m := rfl
@[simp] theorem ev_gsnil : gsNil xs e m = if xs.isEmpty = true then .ok e m else .stuck := rfl
def kGCons (gs : MGs) (xs : List MV) : Env → Mo → R Env := fun e1 m1 => gs xs e1 m1
@[simp] theorem kGCons_ap {gs : MGs} {xs : List MV} {e1 : Env} {m1 : Mo} : kGCons gs xs e1 m1 = gs xs e1 m1 := rfl
@[simp] theorem ev_gscons {g : MG} {gs : MGs} : gsCons g gs (x :: xs) e m = (g x e m).bind (kGCons gs xs) := rfl
@[simp] theorem ev_gtup {gs : MGs} : gTupM n gs (.tup xs) e m = if xs.length = n then gs xs e m else .stuck := rfl
def kAsg2  : Env → Mo → R MF := fun e1 m1 => .ok (.next e1) m1
@[simp] theorem kAsg2_ap  {e1 : Env} {m1 : Mo} : kAsg2  e1 m1 = .ok (.next e1) m1 := rfl
def kAsg (g : MG) (e : Env) : MV → Mo → R MF := fun x m1 => (g x e m1).bind kAsg2
@[simp] theorem kAsg_ap {g : MG} {e : Env} {x : MV} {m1 : Mo} : kAsg g e x m1 = (g x e m1).bind kAsg2 := rfl
@[simp] theorem ev_asg {g : MG} : mAsg me g e m = (me e m).bind (kAsg g e) := rfl
def kPut3 (e : Env) (x : MV) (o : MV) : MV → Mo → R MF := fun i m1 => (match ML.putAt m1 o i x with | some m4 => .ok (.next e) m4 | none => .stuck)
@[simp] theorem kPut3_ap {e : Env} {x : MV} {o : MV} {i : MV} {m1 : Mo} : kPut3 e x o i m1 = (match ML.putAt m1 o i x with | some m4 => .ok (.next e) m4 | none => .stuck) := rfl
def kPut2 (mi : ME) (e : Env) (x : MV) : MV → Mo → R MF := fun o m1 => (mi e m1).bind (kPut3 e x o)
@[simp] theorem kPut2_ap {mi : ME} {e : Env} {x : MV} {o : MV} {m1 : Mo} : kPut2 mi e x o m1 = (mi e m1).bind (kPut3 e x o) := rfl
def kPut (mo : ME) (mi : ME) (e : Env) : MV → Mo → R MF := fun x m1 => (mo e m1).bind (kPut2 mi e x)
@[simp] theorem kPut_ap {mo : ME} {mi : ME} {e : Env} {x : MV} {m1 : Mo} : kPut mo mi e x m1 = (mo e m1).bind (kPut2 mi e x) := rfl
@[simp] theorem ev_putAt : mPutAt me mo mi e m = (me e m).bind (kPut mo mi e) := rfl
def kApp2 (o : MV) : MV → Mo → R MV := fun x m1 => (match appM m1 o x with | some m3 => .ok .non m3 | none => .stuck)
@[simp] theorem kApp2_ap {o : MV} {x : MV} {m1 : Mo} : kApp2 o x m1 = (match appM m1 o x with | some m3 => .ok .non m3 | none => .stuck) := rfl
def kApp (me : ME) (e : Env) : MV → Mo → R MV := fun o m1 => if (lstOf o m1).isSome = true then (me e m1).bind (kApp2 o) else .stuck
@[simp] theorem kApp_ap {me : ME} {e : Env} {o : MV} {m1 : Mo} : kApp me e o m1 = if (lstOf o m1).isSome = true then (me e m1).bind (kApp2 o) else .stuck := rfl
@[simp] theorem ev_app : mApp mo me e m = (mo e m).bind (kApp me e) := rfl
def kISeq  : MV → Mo → R (List MV) := fun x m1 => match x with
  | .lst xs => .ok xs m1
  | .rl xs => .ok xs m1
  | _ => .stuck
@[simp] theorem kISeq_0  {xs : List MV} {m1 : Mo} : kISeq  (.lst xs) m1 = .ok xs m1 := rfl
@[simp] theorem kISeq_1  {xs : List MV} {m1 : Mo} : kISeq  (.rl xs) m1 = .ok xs m1 := rfl
@[simp] theorem ev_iseq : iSeq me e m = (me e m).bind kISeq := rfl
def kITup  : MV → Mo → R (List MV) := fun x m1 => match x with
  | .tup xs => .ok xs m1
  | _ => .stuck
@[simp] theorem kITup_0  {xs : List MV} {m1 : Mo} : kITup  (.tup xs) m1 = .ok xs m1 := rfl
@[simp] theorem ev_itup : iTupM me e m = (me e m).bind kITup := rfl
def kRg1  : MV → Mo → R (List MV) := fun x m1 => match x with
  | .int n => (if okI (-1000000000) 1000000000 n then .ok (rgM 0 n) m1 else .stuck)
  | _ => .stuck
@[simp] theorem ev_rg1 : iRg1 me e m = (me e m).bind kRg1 := rfl
def kFor (mg : MG) (ms : MS) (e : Env) : List MV → Mo → R MF := fun xs m1 => forL mg ms xs e m1
@[simp] theorem kFor_ap {mg : MG} {ms : MS} {e : Env} {xs : List MV} {m1 : Mo} : kFor mg ms e xs m1 = forL mg ms xs e m1 := rfl
@[simp] theorem ev_for {mi : MI} {mg : MG} : mFor mi mg ms e m = (mi e m).bind (kFor mg ms e) := rfl
@[simp] theorem ev_forD {mg : MG} : mForD i mg ms e m = (mFor (iKeysM i) mg ms e m).nox := rfl
@[simp] theorem ev_keys : iKeysM i e m = match e[i]? with | some (some (.dK ks xs)) => .ok (ks.map kM) m | _ => .stuck := by
  unfold iKeysM
  rfl
def kCall (n : Nat) (call : MFn) : List MV → Mo → R MV := fun xs m1 => if xs.length = n then call xs m1 else .stuck
@[simp] theorem kCall_ap {n : Nat} {call : MFn} {xs : List MV} {m1 : Mo} : kCall n call xs m1 = if xs.length = n then call xs m1 else .stuck := rfl
@[simp] theorem ev_call {call : MFn} : mCall n call ml e m = (ml e m).bind (kCall n call) := rfl
def kDG2 (o : MV) : MV → Mo → R MV := fun k m1 => (match dGet o k m1 with | some (some x) => .ok x m1 | _ => .stuck)
@[simp] theorem kDG2_ap {o : MV} {k : MV} {m1 : Mo} : kDG2 o k m1 = (match dGet o k m1 with | some (some x) => .ok x m1 | _ => .stuck) := rfl
def kDG (mi : ME) (e : Env) : MV → Mo → R MV := fun o m1 => (mi e m1).bind (kDG2 o)
@[simp] theorem kDG_ap {mi : ME} {e : Env} {o : MV} {m1 : Mo} : kDG mi e o m1 = (mi e m1).bind (kDG2 o) := rfl
@[simp] theorem ev_dget : mDGet mo mi e m = (mo e m).bind (kDG mi e) := rfl
def kDH3 (o : MV) (k : MV) : MV → Mo → R MV := fun x m1 => (match dGet o k m1 with | some (some y) => .ok y m1 | some none => .ok x m1 | none => .stuck)
@[simp] theorem kDH3_ap {o : MV} {k : MV} {x : MV} {m1 : Mo} : kDH3 o k x m1 = (match dGet o k m1 with | some (some y) => .ok y m1 | some none => .ok x m1 | none => .stuck) := rfl
def kDH2 (mv : ME) (e : Env) (o : MV) : MV → Mo → R MV := fun k m1 => (mv e m1).bind (kDH3 o k)
@[simp] theorem kDH2_ap {mv : ME} {e : Env} {o : MV} {k : MV} {m1 : Mo} : kDH2 mv e o k m1 = (mv e m1).bind (kDH3 o k) := rfl
def kDH (mi : ME) (mv : ME) (e : Env) : MV → Mo → R MV := fun o m1 => if isDM o m1 = true then (mi e m1).bind (kDH2 mv e o) else .stuck
@[simp] theorem kDH_ap {mi : ME} {mv : ME} {e : Env} {o : MV} {m1 : Mo} : kDH mi mv e o m1 = if isDM o m1 = true then (mi e m1).bind (kDH2 mv e o) else .stuck := rfl
@[simp] theorem ev_dget2 : mDGet2 mo mi mv e m = (mo e m).bind (kDH mi mv e) := rfl
@[simp] theorem ev_dnewC : mDNewC e m = .ok (.ref m.length) (m ++ [.dK [] []]) := rfl
@[simp] theorem ev_dnew : mDNew e m = .ok (.dK [] []) m := rfl
def kDP3 (e : Env) (x : MV) (o : MV) : MV → Mo → R MF := fun k m1 => (match dPutM m1 o k x with | some m4 => .ok (.next e) m4 | none => .stuck)
@[simp] theorem kDP3_ap {e : Env} {x : MV} {o : MV} {k : MV} {m1 : Mo} : kDP3 e x o k m1 = (match dPutM m1 o k x with | some m4 => .ok (.next e) m4 | none => .stuck) := rfl
def kDP2 (mi : ME) (e : Env) (x : MV) : MV → Mo → R MF := fun o m1 => (mi e m1).bind (kDP3 e x o)
@[simp] theorem kDP2_ap {mi : ME} {e : Env} {x : MV} {o : MV} {m1 : Mo} : kDP2 mi e x o m1 = (mi e m1).bind (kDP3 e x o) := rfl
def kDP (mo : ME) (mi : ME) (e : Env) : MV → Mo → R MF := fun x m1 => (mo e m1).bind (kDP2 mi e x)
@[simp] theorem kDP_ap {mo : ME} {mi : ME} {e : Env} {x : MV} {m1 : Mo} : kDP mo mi e x m1 = (mo e m1).bind (kDP2 mi e x) := rfl
@[simp] theorem ev_dput : mDPut mv mo mi e m = (mv e m).bind (kDP mo mi e) := rfl
def kGFix (ms : MS) (e : Env) (i : Nat) : MV → Mo → R MF := fun y m1 => ms (e.set i (some y)) m1
@[simp] theorem kGFix_ap {ms : MS} {e : Env} {i : Nat} {y : MV} {m1 : Mo} : kGFix ms e i y m1 = ms (e.set i (some y)) m1 := rfl
@[simp] theorem ev_gfixD : gFixD n i ms e m = match e[i]? with | some (some x) => (fixD n x m).bind (kGFix ms e i) | _ => .stuck := rfl
@[simp] theorem ev_mfixD : mFixD n me e m = (me e m).bind (fixD n) := rfl
def kCh3 (g' : MV → MV → Mo → Option Bool) (y : MV) : MV → Mo → R Bool := fun z m1 => (match g' y z m1 with | some b => .ok b m1 | none => .stuck)
@[simp] theorem kCh3_ap {g' : MV → MV → Mo → Option Bool} {y : MV} {z : MV} {m1 : Mo} : kCh3 g' y z m1 = (match g' y z m1 with | some b => .ok b m1 | none => .stuck) := rfl
def kCh2 (g : MV → MV → Mo → Option Bool) (g' : MV → MV → Mo → Option Bool) (mc : ME) (e : Env) (x : MV) : MV → Mo → R Bool := fun y m1 => (match g x y m1 with | some true => (mc e m1).bind (kCh3 g' y) | some false => .ok false m1 | none => .stuck)
@[simp] theorem kCh2_ap {g : MV → MV → Mo → Option Bool} {g' : MV → MV → Mo → Option Bool} {mc : ME} {e : Env} {x : MV} {y : MV} {m1 : Mo} : kCh2 g g' mc e x y m1 = (match g x y m1 with | some true => (mc e m1).bind (kCh3 g' y) | some false => .ok false m1 | none => .stuck) := rfl
def kCh (g : MV → MV → Mo → Option Bool) (g' : MV → MV → Mo → Option Bool) (mb : ME) (mc : ME) (e : Env) : MV → Mo → R Bool := fun x m1 => (mb e m1).bind (kCh2 g g' mc e x)
@[simp] theorem kCh_ap {g : MV → MV → Mo → Option Bool} {g' : MV → MV → Mo → Option Bool} {mb : ME} {mc : ME} {e : Env} {x : MV} {m1 : Mo} : kCh g g' mb mc e x m1 = (mb e m1).bind (kCh2 g g' mc e x) := rfl
@[simp] theorem ev_chain : mChain g g' ma mb mc e m = (ma e m).bind (kCh g g' mb mc e) := rfl
def kLc2  : List MV → Mo → R MV := fun ys m1 => .ok (.lst ys) m1
@[simp] theorem kLc2_ap  {ys : List MV} {m1 : Mo} : kLc2  ys m1 = .ok (.lst ys) m1 := rfl
def kLc (mg : MG) (mt : MT) (me : ME) (vs : List Nat) (e : Env) : List MV → Mo → R MV := fun xs m1 => if xs.length ≤ 16777216 then ((compL mg mt me (mwipe e vs) xs m1).nox).bind kLc2 else .stuck
@[simp] theorem kLc_ap {mg : MG} {mt : MT} {me : ME} {vs : List Nat} {e : Env} {xs : List MV} {m1 : Mo} : kLc mg mt me vs e xs m1 = if xs.length ≤ 16777216 then ((compL mg mt me (mwipe e vs) xs m1).nox).bind kLc2 else .stuck := rfl
@[simp] theorem ev_lc {mi : MI} {mg : MG} {vs : List Nat} : mLc mi mg mt me vs e m = (mi e m).bind (kLc mg mt me vs e) := rfl
def kLcC2  : List MV → Mo → R MV := fun ys m1 => if belows m1.length ys = true then .ok (.ref m1.length) (m1 ++ [.lst ys]) else .stuck
@[simp] theorem kLcC2_ap  {ys : List MV} {m1 : Mo} : kLcC2  ys m1 = if belows m1.length ys = true then .ok (.ref m1.length) (m1 ++ [.lst ys]) else .stuck := rfl
def kLcC (mg : MG) (mt : MT) (me : ME) (vs : List Nat) (e : Env) : List MV → Mo → R MV := fun xs m1 => if xs.length ≤ 16777216 then ((compL mg mt me (mwipe e vs) xs m1).nox).bind kLcC2 else .stuck
@[simp] theorem kLcC_ap {mg : MG} {mt : MT} {me : ME} {vs : List Nat} {e : Env} {xs : List MV} {m1 : Mo} : kLcC mg mt me vs e xs m1 = if xs.length ≤ 16777216 then ((compL mg mt me (mwipe e vs) xs m1).nox).bind kLcC2 else .stuck := rfl
@[simp] theorem ev_lcC {mi : MI} {mg : MG} {vs : List Nat} : mLcC mi mg mt me vs e m = (mi e m).bind (kLcC mg mt me vs e) := rfl
def kDc2  : KD → Mo → R MV := fun acc m1 => .ok (.dK acc.1 acc.2) m1
@[simp] theorem kDc2_ap  {acc : KD} {m1 : Mo} : kDc2  acc m1 = .ok (.dK acc.1 acc.2) m1 := rfl
def kDc (mg : MG) (mt : MT) (mk : ME) (mv : ME) (vs : List Nat) (e : Env) : List MV → Mo → R MV := fun xs m1 => if xs.length ≤ 16777216 then ((dcL mg mt mk mv (mwipe e vs) xs ([], []) m1).nox).bind kDc2 else .stuck
@[simp] theorem kDc_ap {mg : MG} {mt : MT} {mk : ME} {mv : ME} {vs : List Nat} {e : Env} {xs : List MV} {m1 : Mo} : kDc mg mt mk mv vs e xs m1 = if xs.length ≤ 16777216 then ((dcL mg mt mk mv (mwipe e vs) xs ([], []) m1).nox).bind kDc2 else .stuck := rfl
@[simp] theorem ev_dc {mi : MI} {mg : MG} {vs : List Nat} {mk : ME} : mDc mi mg mt mk mv vs e m = (mi e m).bind (kDc mg mt mk mv vs e) := rfl
@[simp] theorem ev_yes : mYes e m = .ok true m := rfl
def kMt2 (n : Nat) (call : MFn) (x : MV) : List MV → Mo → R MV := fun ys m1 => if ys.length + 1 = n then call (x :: ys) m1 else .stuck
@[simp] theorem kMt2_ap {n : Nat} {call : MFn} {x : MV} {ys : List MV} {m1 : Mo} : kMt2 n call x ys m1 = if ys.length + 1 = n then call (x :: ys) m1 else .stuck := rfl
def kMt (C : Addr) (mn : Str) (n : Nat) (call : MFn) (ml : MA) (e : Env) : MV → Mo → R MV := fun x m1 => (match insOf x m1 with | some (C', ns, xs) => if C' = C ∧ lookF ns xs mn = none then (ml e m1).bind (kMt2 n call x) else .stuck | none => .stuck)
@[simp] theorem kMt_ap {C : Addr} {mn : Str} {n : Nat} {call : MFn} {ml : MA} {e : Env} {x : MV} {m1 : Mo} : kMt C mn n call ml e x m1 = (match insOf x m1 with | some (C', ns, xs) => if C' = C ∧ lookF ns xs mn = none then (ml e m1).bind (kMt2 n call x) else .stuck | none => .stuck) := rfl
@[simp] theorem ev_meth {C : Addr} {mn : Str} {call : MFn} : mMeth C mn n call mo ml e m = (mo e m).bind (kMt C mn n call ml e) := rfl
def kFld (C : Addr) (fl : Str) : MV → Mo → R MV := fun x m1 => (match insOf x m1 with | some (C', ns, xs) => if C' = C then (match lookF ns xs fl with | some y => .ok y m1 | none => .stuck) else .stuck | none => .stuck)
@[simp] theorem kFld_ap {C : Addr} {fl : Str} {x : MV} {m1 : Mo} : kFld C fl x m1 = (match insOf x m1 with | some (C', ns, xs) => if C' = C then (match lookF ns xs fl with | some y => .ok y m1 | none => .stuck) else .stuck | none => .stuck) := rfl
@[simp] theorem ev_fld {C : Addr} {fl : Str} : mFld C fl mo e m = (mo e m).bind (kFld C fl) := rfl
def kMk (p : Nat) : MV → Mo → R MV := fun x m1 => match x with
  | .non => .ok (.ref p) m1
  | _ => .stuck
@[simp] theorem kMk_0 {p : Nat}  {m1 : Mo} : kMk p (.non) m1 = .ok (.ref p) m1 := rfl
@[simp] theorem ev_make {C : Addr} {call : MFn} : mMake C n call ml e m = (ml e m).bind (mkM C n call) := rfl
@[simp] theorem ev_mk {C : Addr} {call : MFn} : mkM C n call xs m = if xs.length + 1 = n then (call (.ref m.length :: xs) (m ++ [.ins C [] []])).bind (kMk m.length) else .stuck := rfl
def kLen  : MV → Mo → R MV := fun x m1 => match x with
  | .int n => (if okI 0 1000000000 n then .ok (.int n) m1 else .stuck)
  | _ => .stuck
@[simp] theorem ev_lenO {C : Addr} {call : MFn} : mLenO C call mo e m = (mo e m).bind (oLen C call) := rfl
@[simp] theorem ev_len {C : Addr} {call : MFn} : oLen C call x m = match insOf x m with | some (C', _, _) => if C' = C then (call [x] m).bind kLen else .stuck | none => .stuck := rfl
def kRs (C : Addr) (fs : List Str) : List MV → Mo → R MF := fun xs m1 => if xs.length = fs.length ∧ fs ≠ [] ∧ fs.length ≤ 900 then .exc ⟨C, (fs.zip xs).reverse⟩ m1 else .stuck
@[simp] theorem kRs_ap {C : Addr} {fs : List Str} {xs : List MV} {m1 : Mo} : kRs C fs xs m1 = if xs.length = fs.length ∧ fs ≠ [] ∧ fs.length ≤ 900 then .exc ⟨C, (fs.zip xs).reverse⟩ m1 else .stuck := rfl
@[simp] theorem ev_raiseO {C : Addr} {fs : List Str} : mRaiseO C fs ml e m = (ml e m).bind (kRs C fs) := rfl
def kSF2 (C : Addr) (fl : Str) (e : Env) (x : MV) : MV → Mo → R MF := fun o m1 => (match o with | .ref i => (match m1[i]? with | some (.ins C' ns xs) => if C' = C ∧ ns.length < 1000 ∧ belows i (setF ns xs fl x).2 = true then .ok (.next e) (m1.set i (.ins C (setF ns xs fl x).1 (setF ns xs fl x).2)) else .stuck | _ => .stuck) | _ => .stuck)
@[simp] theorem kSF2_ap {C : Addr} {fl : Str} {e : Env} {x : MV} {o : MV} {m1 : Mo} : kSF2 C fl e x o m1 = (match o with | .ref i => (match m1[i]? with | some (.ins C' ns xs) => if C' = C ∧ ns.length < 1000 ∧ belows i (setF ns xs fl x).2 = true then .ok (.next e) (m1.set i (.ins C (setF ns xs fl x).1 (setF ns xs fl x).2)) else .stuck | _ => .stuck) | _ => .stuck) := rfl
def kSF (C : Addr) (fl : Str) (mo : ME) (e : Env) : MV → Mo → R MF := fun x m1 => (mo e m1).bind (kSF2 C fl e x)
@[simp] theorem kSF_ap {C : Addr} {fl : Str} {mo : ME} {e : Env} {x : MV} {m1 : Mo} : kSF C fl mo e x m1 = (mo e m1).bind (kSF2 C fl e x) := rfl
@[simp] theorem ev_setFld {C : Addr} {fl : Str} : mSetFld C fl me mo e m = (me e m).bind (kSF C fl mo e) := rfl
@[simp] theorem nox_ok {α : Type} {a : α} {m : Mo} : (R.ok a m).nox = .ok a m := rfl
@[simp] theorem fin_ret {L : Nat} : finM L (.ok (.ret x) m) = if below L x = true then .ok x (m.take L) else .ok x m := rfl
@[simp] theorem fin_next {L : Nat} : finM L (.ok (.next e) m) = .ok .non (m.take L) := rfl
@[simp] theorem fin_exc {L : Nat} {z : MExc} : finM L (.exc z m) = .exc z m := rfl
@[simp] theorem body_ap {k : Nat} : bodyM k ms xs m = finM m.length (ms (startM k xs) m) := rfl
end
/-! ### memory -/
theorem set_at {m : Mo} {p : Nat} {c c0 : MCell} (h : m[p]? = some c0) : (m.set p c)[p]? = some c := List.getElem?_set_self (List.getElem?_eq_some_iff.mp h).1
theorem app_at {m l : Mo} {p : Nat} {c0 : MCell} (h : m[p]? = some c0) : (m ++ l)[p]? = some c0 := by
  rw [List.getElem?_append_left (List.getElem?_eq_some_iff.mp h).1]
  exact h
@[simp] theorem take_set {m : Mo} {p : Nat} {c : MCell} : (m.set p c).take m.length = m.set p c := List.take_of_length_le (by simp)
@[simp] theorem take_app {m l : Mo} : (m ++ l).take m.length = m := List.take_left
@[simp] theorem take_app_set {m l : Mo} {p : Nat} {c : MCell} : (m.set p c ++ l).take m.length = m.set p c := by
  have : m.length = (m.set p c).length := by simp
  rw [this]
  exact List.take_left
theorem app_set {m l : Mo} {p : Nat} {c c0 : MCell} (h : m[p]? = some c0) : (m ++ l).set p c = m.set p c ++ l := List.set_append_left p c (List.getElem?_eq_some_iff.mp h).1
@[simp] theorem set_last {m : Mo} {c c' : MCell} : (m ++ [c]).set m.length c' = m ++ [c'] := by simp
@[simp] theorem at_last {m : Mo} {c : MCell} : (m ++ [c])[m.length]? = some c := by simp
theorem set_set' {m : Mo} {p : Nat} {c c' : MCell} : (m.set p c).set p c' = m.set p c' := List.set_set ..
/-! ### nothing named -/
theorem belows_map {α : Type} (L : Nat) (g : α → MV) (h : ∀ a, below L (g a) = true) : ∀ l : List α, belows L (l.map g) = true
  | [] => rfl
  | a :: l => by
    show (below L (g a) && belows L (l.map g)) = true
    rw [h a, belows_map L g h l]
    rfl
@[simp] theorem belows_int (L : Nat) (l : List Int) : belows L (l.map MV.int) = true := belows_map L MV.int (fun _ => rfl) l
@[simp] theorem belows_str (L : Nat) (l : List Str) : belows L (l.map MV.str) = true := belows_map L MV.str (fun _ => rfl) l
@[simp] theorem belows_bl (L : Nat) (l : List Bool) : belows L (l.map MV.bl) = true := belows_map L MV.bl (fun _ => rfl) l
@[simp] theorem belows_nil (L : Nat) : belows L [] = true := rfl
@[simp] theorem belows_cons (L : Nat) (x : MV) (xs : List MV) : belows L (x :: xs) = (below L x && belows L xs) := rfl
@[simp] theorem below_int (L : Nat) (i : Int) : below L (.int i) = true := rfl
@[simp] theorem below_bl (L : Nat) (i : Bool) : below L (.bl i) = true := rfl
@[simp] theorem below_str (L : Nat) (i : Str) : below L (.str i) = true := rfl
@[simp] theorem below_non (L : Nat) : below L .non = true := rfl
@[simp] theorem below_lst (L : Nat) (xs : List MV) : below L (.lst xs) = belows L xs := rfl
@[simp] theorem below_tup (L : Nat) (xs : List MV) : below L (.tup xs) = belows L xs := rfl
@[simp] theorem below_dK (L : Nat) (ks : List Key) (xs : List MV) : below L (.dK ks xs) = belows L xs := rfl
@[simp] theorem below_ref (L : Nat) (i : Nat) : below L (.ref i) = decide (i < L) := rfl
/-! ### loops -/
theorem forL_inv {mg : MG} {ms : MS} (I : Nat → Env → Mo → Prop) : ∀ (xs : List MV) (k : Nat) (e : Env) (m : Mo), I k e m →
    (∀ i x e m, xs[i]? = some x → I (k + i) e m → ∃ e' m', ((mg x e m).bind fun e1 m1 => ms e1 m1) = .ok (.next e') m' ∧ I (k + i + 1) e' m') →
    ∃ e' m', forL mg ms xs e m = .ok (.next e') m' ∧ I (k + xs.length) e' m'
  | [], k, e, m, h, _ => ⟨e, m, rfl, h⟩
  | x :: xs, k, e, m, h, st => by
    obtain ⟨e1, m1, h1, i1⟩ := st 0 x e m rfl h
    obtain ⟨e2, m2, h2, i2⟩ := forL_inv I xs (k + 1) e1 m1 i1 fun i y e m hy hi => by
      have := st (i + 1) y e m (by simpa using hy) (by rw [show k + (i + 1) = k + 1 + i by omega]; exact hi)
      rw [show k + (i + 1) + 1 = k + 1 + i + 1 by omega] at this
      exact this
    refine ⟨e2, m2, ?_, by rw [List.length_cons, show k + (xs.length + 1) = k + 1 + xs.length by omega]; exact i2⟩
    unfold forL
    cases hg : mg x e m with
    | stuck => rw [hg] at h1; cases h1
    | exc y m3 => rw [hg] at h1; cases h1
    | ok e3 m3 =>
      rw [hg] at h1
      rw [R.bind_ok] at h1 ⊢
      rw [h1]
      exact h2
/-- a loop of tests: it goes on, or answers y at once -/
theorem forL_tests {mg : MG} {ms : MS} (P : MV → Bool) (y : MV) (I : Env → Prop) (m : Mo) : ∀ (xs : List MV) (e : Env), I e →
    (∀ x ∈ xs, ∀ e, I e → if P x = true then ∃ e', ((mg x e m).bind fun e1 m1 => ms e1 m1) = .ok (.next e') m ∧ I e' else ((mg x e m).bind fun e1 m1 => ms e1 m1) = .ok (.ret y) m) →
    if xs.all P = true then ∃ e', forL mg ms xs e m = .ok (.next e') m ∧ I e' else forL mg ms xs e m = .ok (.ret y) m
  | [], e, h, _ => ⟨e, rfl, h⟩
  | x :: xs, e, h, st => by
    have h1 := st x (List.mem_cons_self ..) e h
    rw [List.all_cons]
    cases hP : P x with
    | true =>
      rw [hP, if_pos rfl] at h1
      obtain ⟨e1, h1, i1⟩ := h1
      have ih := forL_tests P y I m xs e1 i1 fun x hx e he => st x (List.mem_cons_of_mem _ hx) e he
      have ev : forL mg ms (x :: xs) e m = forL mg ms xs e1 m := by
        rw [forL]
        cases hg : mg x e m with
        | stuck => rw [hg] at h1; cases h1
        | exc y m3 => rw [hg] at h1; cases h1
        | ok e3 m3 =>
          rw [hg] at h1
          rw [R.bind_ok] at h1 ⊢
          rw [h1]
          rfl
      rw [ev, Bool.true_and]
      exact ih
    | false =>
      rw [hP, if_neg (by simp)] at h1
      rw [Bool.false_and, if_neg (by simp)]
      rw [forL]
      cases hg : mg x e m with
      | stuck => rw [hg] at h1; cases h1
      | exc y m3 => rw [hg] at h1; cases h1
      | ok e3 m3 =>
        rw [hg] at h1
        rw [R.bind_ok] at h1 ⊢
        rw [h1]
        rfl
/-! ### comprehensions -/
theorem compL_map {α : Type} {j : Nat} {mt : MT} {me : ME} {e0 : Env} {m : Mo} (g : α → MV) (t : α → Bool) (f : α → MV) : ∀ l : List α,
    (∀ a ∈ l, mt (e0.set j (some (g a))) m = .ok (t a) m ∧ (t a = true → me (e0.set j (some (g a))) m = .ok (f a) m)) → compL (gSet j) mt me e0 (l.map g) m = .ok ((l.filter t).map f) m
  | [], _ => rfl
  | a :: l, h => by
    obtain ⟨h1, h2⟩ := h a (List.mem_cons_self ..)
    have ih := compL_map g t f l fun b hb => h b (List.mem_cons_of_mem _ hb)
    rw [List.map_cons, compL, ev_gset, R.bind_ok, h1, R.bind_ok]
    cases ht : t a with
    | true => rw [if_pos rfl, h2 ht, R.bind_ok, ih, R.bind_ok, List.filter_cons_of_pos ht, List.map_cons]
    | false => rw [if_neg (by simp), ih, List.filter_cons_of_neg (by simp [ht])]
theorem compL_all {α : Type} {j : Nat} {me : ME} {e0 : Env} {m : Mo} (g : α → MV) (f : α → MV) (l : List α) (h : ∀ a ∈ l, me (e0.set j (some (g a))) m = .ok (f a) m) : compL (gSet j) mYes me e0 (l.map g) m = .ok (l.map f) m := by
  have := compL_map (mt := mYes) (j := j) (me := me) (e0 := e0) (m := m) g (fun _ => true) f l fun a ha => ⟨rfl, fun _ => h a ha⟩
  rw [List.filter_eq_self.mpr (fun _ _ => rfl)] at this
  exact this
/-- each item drawn: what holds of the memory goes on -/
theorem compL_draw {j : Nat} {mt : MT} {me : ME} {e0 : Env} (I : Mo → Prop) (Q : MV → MV → Prop) : ∀ (xs : List MV) (m : Mo), I m →
    (∀ x ∈ xs, ∀ m, I m → ∃ b m1, mt (e0.set j (some x)) m = .ok b m1 ∧ I m1 ∧ (b = true → ∃ y m2, me (e0.set j (some x)) m1 = .ok y m2 ∧ Q x y ∧ I m2)) →
    ∃ ys m', compL (gSet j) mt me e0 xs m = .ok ys m' ∧ I m' ∧ ∀ y ∈ ys, ∃ x ∈ xs, Q x y
  | [], m, h, _ => ⟨[], m, rfl, h, fun y hy => by cases hy⟩
  | x :: xs, m, h, st => by
    obtain ⟨b, m1, h1, i1, h2⟩ := st x (List.mem_cons_self ..) m h
    rw [compL, ev_gset, R.bind_ok, h1, R.bind_ok]
    cases b with
    | true =>
      obtain ⟨y, m2, h3, q, i2⟩ := h2 rfl
      obtain ⟨ys, m3, h4, i3, q3⟩ := compL_draw I Q xs m2 i2 fun x hx => st x (List.mem_cons_of_mem _ hx)
      rw [if_pos rfl, h3, R.bind_ok, h4, R.bind_ok]
      refine ⟨y :: ys, m3, rfl, i3, fun z hz => ?_⟩
      rcases List.mem_cons.mp hz with e | hz
      · exact ⟨x, List.mem_cons_self .., by rw [e]; exact q⟩
      · obtain ⟨x', hx, qx⟩ := q3 z hz
        exact ⟨x', List.mem_cons_of_mem _ hx, qx⟩
    | false =>
      obtain ⟨ys, m3, h4, i3, q3⟩ := compL_draw I Q xs m1 i1 fun x hx => st x (List.mem_cons_of_mem _ hx)
      rw [if_neg (by simp), h4]
      refine ⟨ys, m3, rfl, i3, fun z hz => ?_⟩
      obtain ⟨x', hx, qx⟩ := q3 z hz
      exact ⟨x', List.mem_cons_of_mem _ hx, qx⟩
inductive All2 {α β : Type} (Q : α → β → Prop) : List α → List β → Prop
  | nil : All2 Q [] []
  | cons {a : α} {b : β} {l : List α} {r : List β} : Q a b → All2 Q l r → All2 Q (a :: l) (b :: r)
theorem All2.len {α β : Type} {Q : α → β → Prop} : ∀ {l : List α} {r : List β}, All2 Q l r → r.length = l.length
  | _, _, .nil => rfl
  | _, _, .cons _ t => by rw [List.length_cons, List.length_cons, t.len]
theorem compL_each {j : Nat} {me : ME} {e0 : Env} (I : Mo → Prop) (Q : MV → MV → Prop) : ∀ (xs : List MV) (m : Mo), I m →
    (∀ x ∈ xs, ∀ m, I m → ∃ y m2, me (e0.set j (some x)) m = .ok y m2 ∧ Q x y ∧ I m2) → ∃ ys m', compL (gSet j) mYes me e0 xs m = .ok ys m' ∧ I m' ∧ All2 Q xs ys
  | [], m, h, _ => ⟨[], m, rfl, h, .nil⟩
  | x :: xs, m, h, st => by
    obtain ⟨y, m2, h3, q, i2⟩ := st x (List.mem_cons_self ..) m h
    obtain ⟨ys, m3, h4, i3, q3⟩ := compL_each I Q xs m2 i2 fun x hx => st x (List.mem_cons_of_mem _ hx)
    rw [compL, ev_gset, R.bind_ok, ev_yes, R.bind_ok, if_pos rfl, h3, R.bind_ok, h4, R.bind_ok]
    exact ⟨y :: ys, m3, rfl, i3, .cons q q3⟩
theorem rgM0 (n : Nat) : rgM 0 (n : Int) = (List.range n).map fun k : Nat => MV.int (k : Int) := by
  unfold rgM
  simp
@[simp] theorem rg_len (n : Int) : (rgM 0 n).length = n.toNat := by
  unfold rgM
  simp
/-! ### places -/
theorem atI_nat' {α : Type} {l : List α} {k : Nat} : atI l (k : Int) = l[k]? := by
  unfold atI ixN
  rw [if_pos (by omega)]
  by_cases h : (k : Int) < l.length
  · rw [if_pos h]
    simp
  · rw [if_neg h]
    have : l.length ≤ k := by omega
    simp [this]
@[simp] theorem ap_add {i j : Int} {m : Mo} : oAdd (.int i) (.int j) m = .ok (.int (i + j)) m := rfl
@[simp] theorem ap_adds {i j : Str} {m : Mo} : oAdd (.str i) (.str j) m = if i.length + j.length ≤ 16777216 then .ok (.str (i ++ j)) m else .stuck := rfl
@[simp] theorem ap_sub {i j : Int} {m : Mo} : oSub (.int i) (.int j) m = .ok (.int (i - j)) m := rfl
@[simp] theorem ap_mul {i j : Int} {m : Mo} : oMul (.int i) (.int j) m = if mulOk i j then .ok (.int (i * j)) m else .stuck := rfl
@[simp] theorem ap_div {i j : Int} {m : Mo} : oDiv (.int i) (.int j) m = if okI 1 1073741823 j then .ok (.int (i / j)) m else .stuck := rfl
@[simp] theorem ap_mod {i j : Int} {m : Mo} : oMod (.int i) (.int j) m = if 0 < j then .ok (.int (i % j)) m else .stuck := rfl
@[simp] theorem ap_pow {i j : Int} {m : Mo} : oPow (.int i) (.int j) m = if 0 ≤ j ∧ j ≤ 1000000 ∧ i.natAbs < 2 ^ 64 then .ok (.int (i ^ j.toNat)) m else .stuck := rfl
@[simp] theorem ap_int {i : Int} {m : Mo} : cInt [.int i] m = .ok (.int i) m := rfl
@[simp] theorem ap_intb {b : Bool} {m : Mo} : cInt [.bl b] m = .ok (.int (if b then 1 else 0)) m := rfl
@[simp] theorem ap_abs {i : Int} {m : Mo} : cAbs [.int i] m = .ok (.int (if i < 0 then -i else i)) m := rfl
@[simp] theorem ap_max {i j : Int} {m : Mo} : cMax2 [.int i, .int j] m = .ok (.int (if j > i then j else i)) m := rfl
@[simp] theorem ap_min {i j : Int} {m : Mo} : cMin2 [.int i, .int j] m = .ok (.int (if j < i then j else i)) m := rfl
@[simp] theorem ap_str {i : Int} {m : Mo} : cStr [.int i] m = if i.natAbs.log2 < 1920 then .ok (.str (toString i)) m else .stuck := rfl
@[simp] theorem ap_lenl {xs : List MV} {m : Mo} : cLen [.lst xs] m = .ok (.int xs.length) m := rfl
@[simp] theorem ap_lent {xs : List MV} {m : Mo} : cLen [.tup xs] m = .ok (.int xs.length) m := rfl
@[simp] theorem ap_lenr {xs : List MV} {m : Mo} : cLen [.rl xs] m = .ok (.int xs.length) m := rfl
theorem ap_lenc {xs : List MV} {m : Mo} {p : Nat} (h : m[p]? = some (.lst xs)) : cLen [.ref p] m = .ok (.int xs.length) m := by
  show (match sqOf (.ref p) m with | some xs => R.ok (MV.int xs.length) m | none => .stuck) = _
  unfold sqOf
  dsimp only
  rw [h]
@[simp] theorem ap_listl {xs : List MV} {m : Mo} : cList [.lst xs] m = .ok (.lst xs) m := rfl
@[simp] theorem ap_listt {xs : List MV} {m : Mo} : cList [.tup xs] m = .ok (.lst xs) m := rfl
@[simp] theorem ap_listC {xs : List MV} {m : Mo} : cListC [.lst xs] m = if belows m.length xs = true then .ok (.ref m.length) (m ++ [.lst xs]) else .stuck := rfl
theorem ap_listc {xs : List MV} {m : Mo} {p : Nat} (h : m[p]? = some (.lst xs)) : cList [.ref p] m = .ok (.lst xs) m := by
  show (match sqOf (.ref p) m with | some xs => R.ok (MV.lst xs) m | none => .stuck) = _
  unfold sqOf
  dsimp only
  rw [h]
@[simp] theorem ap_tuple {xs : List MV} {m : Mo} : cTuple [.lst xs] m = .ok (.tup xs) m := rfl
@[simp] theorem ap_ixl {xs : List MV} {i : Int} {m : Mo} : oIx (.lst xs) (.int i) m = match atI xs i with | some v => .ok v m | none => .stuck := rfl
@[simp] theorem ap_ixt {xs : List MV} {i : Int} {m : Mo} : oIx (.tup xs) (.int i) m = match atI xs i with | some v => .ok v m | none => .stuck := rfl
@[simp] theorem ap_ixr {xs : List MV} {i : Int} {m : Mo} : oIx (.rl xs) (.int i) m = match atI xs i with | some v => .ok v m | none => .stuck := rfl
@[simp] theorem ap_ixs {z : Str} {i : Int} {m : Mo} : oIx (.str z) (.int i) m = if z.length ≤ 16777216 then (match atI z.cps.toList i with | some c => .ok (.str ⟨#[c]⟩) m | none => .stuck) else .stuck := rfl
theorem ap_ixc {xs : List MV} {i : Int} {m : Mo} {p : Nat} (h : m[p]? = some (.lst xs)) : oIx (.ref p) (.int i) m = match atI xs i with | some v => .ok v m | none => .stuck := by
  show (match sqOf (.ref p) m with | some xs => (match atI xs i with | some v => R.ok v m | none => .stuck) | none => .stuck) = _
  unfold sqOf
  dsimp only
  rw [h]
theorem ap_put {xs : List MV} {i : Int} {x : MV} {m : Mo} {p : Nat} (h : m[p]? = some (.lst xs)) : ML.putAt m (.ref p) (.int i) x = match ixN xs.length i with | some j => if below p x = true then some (m.set p (.lst (xs.set j x))) else none | none => none := by
  unfold ML.putAt
  dsimp only
  rw [h] <;> (dsimp only; cases ixN xs.length i <;> rfl)
theorem ap_app {xs : List MV} {x : MV} {m : Mo} {p : Nat} (h : m[p]? = some (.lst xs)) : appM m (.ref p) x = if xs.length < 16777216 ∧ below p x = true then some (m.set p (.lst (xs ++ [x]))) else none := by
  unfold appM
  dsimp only
  rw [h]
theorem ap_lstc {xs : List MV} {m : Mo} {p : Nat} (h : m[p]? = some (.lst xs)) : lstOf (.ref p) m = some xs := by
  unfold lstOf
  dsimp only
  rw [h]
@[simp] theorem cmp_int {q : Int → Int → Bool} {i j : Int} {m : Mo} : fCmp q (.int i) (.int j) m = some (q i j) := rfl
@[simp] theorem eq_int {i j : Int} {m : Mo} : fEq (.int i) (.int j) m = some (decide (i = j)) := rfl
@[simp] theorem ne_int {i j : Int} {m : Mo} : fNe (.int i) (.int j) m = some (!decide (i = j)) := rfl
@[simp] theorem eq_str {i j : Str} {m : Mo} : fEq (.str i) (.str j) m = some (decide (i = j)) := rfl
@[simp] theorem ne_str {i j : Str} {m : Mo} : fNe (.str i) (.str j) m = some (!decide (i = j)) := rfl
@[simp] theorem eq_bl {i j : Bool} {m : Mo} : fEq (.bl i) (.bl j) m = some (decide (i = j)) := rfl
@[simp] theorem tru_bl {b : Bool} {m : Mo} : truM (.bl b) m = some b := rfl
@[simp] theorem tru_lst {xs : List MV} {m : Mo} : truM (.lst xs) m = some (!xs.isEmpty) := rfl
theorem tru_cell {xs : List MV} {m : Mo} {p : Nat} (h : m[p]? = some (.lst xs)) : truM (.ref p) m = some (!xs.isEmpty) := by
  unfold truM
  dsimp only
  rw [h]
theorem mulOk_l {i j : Int} (h : -(2 ^ 64) < i) (h' : i < 2 ^ 64) : mulOk i j := .inl (.inl ⟨h, h'⟩)
/-- the places of a short list -/
@[simp] theorem at3_0 {α : Type} {a : α} {l : List α} : atI (a :: l) 0 = some a := by
  unfold atI ixN
  simp
@[simp] theorem at3_1 {α : Type} {a b : α} {l : List α} : atI (a :: b :: l) 1 = some b := by
  unfold atI ixN
  simp
  rw [if_pos (by omega)]
  rfl
@[simp] theorem at3_2 {α : Type} {a b c : α} {l : List α} : atI (a :: b :: c :: l) 2 = some c := by
  unfold atI ixN
  simp
  rw [if_pos (by omega)]
  rfl
@[simp] theorem at3_3 {α : Type} {a b c d : α} {l : List α} : atI (a :: b :: c :: d :: l) 3 = some d := by
  unfold atI ixN
  simp
  rw [if_pos (by omega)]
  rfl
def rg (n : Nat) : List Int := (List.range n).map fun k : Nat => (k : Int)
theorem rgM_rg (n : Nat) : rgM 0 (n : Int) = (rg n).map MV.int := by
  rw [rgM0]
  unfold rg
  rw [List.map_map]
  rfl
@[simp] theorem rg_length (n : Nat) : (rg n).length = n := by unfold rg; simp
theorem run_rg {n : Nat} {m : Mo} (h : n ≤ 16777216) : kRg1 (.int n) m = .ok ((rg n).map MV.int) m := by
  have c : okI (-1000000000) 1000000000 (n : Int) := ⟨by omega, by omega⟩
  rw [← rgM_rg]
  exact if_pos c
theorem run_rgi {n : Int} {m : Mo} (h0 : 0 ≤ n) (h : n ≤ 16777216) : kRg1 (.int n) m = .ok ((rg n.toNat).map MV.int) m := by
  have := run_rg (m := m) (n := n.toNat) (by omega)
  rw [show ((n.toNat : Nat) : Int) = n by omega] at this
  exact this
theorem run_listRg {n : Nat} {m : Mo} (h : n ≤ 16777216) : kListRg (.int n) m = .ok (MV.lst ((rg n).map MV.int)) m := by
  have c : okI (-1000000000) 16777216 (n : Int) := ⟨by omega, by omega⟩
  rw [← rgM_rg]
  exact if_pos c
theorem run_len {n : Nat} {m : Mo} (h : n ≤ 16777216) : kLen (.int n) m = .ok (.int n) m := by
  have c : okI 0 1000000000 (n : Int) := ⟨by omega, by omega⟩
  exact if_pos c
theorem mem_rg {n : Nat} {a : Int} : a ∈ rg n ↔ 0 ≤ a ∧ a < n := by
  unfold rg
  rw [List.mem_map]
  constructor
  · rintro ⟨k, hk, rfl⟩
    have := List.mem_range.mp hk
    omega
  · rintro ⟨h0, h1⟩
    exact ⟨a.toNat, List.mem_range.mpr (by omega), by omega⟩
/-! ### it ends well, and then -/
def Post {α : Type} (r : R α) (P : α → Mo → Prop) : Prop := ∃ a m, r = .ok a m ∧ P a m
@[simp] theorem post_ok {α : Type} {a : α} {m : Mo} {P : α → Mo → Prop} : Post (.ok a m) P ↔ P a m := ⟨fun ⟨_, _, e, h⟩ => by cases e; exact h, fun h => ⟨a, m, rfl, h⟩⟩
theorem Post.mono {α : Type} {r : R α} {P Q : α → Mo → Prop} (h : Post r P) (k : ∀ a m, P a m → Q a m) : Post r Q := by
  obtain ⟨a, m, e, p⟩ := h
  exact ⟨a, m, e, k a m p⟩
theorem Post.bind {α β : Type} {r : R α} {f : α → Mo → R β} {Q : β → Mo → Prop} (h : Post r fun a m => Post (f a m) Q) : Post (r.bind f) Q := by
  obtain ⟨a, m, rfl, p⟩ := h
  exact p
theorem Post.nox {α : Type} {r : R α} {Q : α → Mo → Prop} (h : Post r Q) : Post r.nox Q := by
  obtain ⟨a, m, rfl, p⟩ := h
  exact ⟨a, m, rfl, p⟩
theorem Post.fin {r : R MF} {L : Nat} {Q : MV → Mo → Prop} (h : Post r fun f m => Post (finM L (.ok f m)) Q) : Post (finM L r) Q := by
  obtain ⟨a, m, rfl, p⟩ := h
  exact p
theorem Post.hide {α : Type} {r : R α} {Q : α → Mo → Prop} (h : ∀ Q' : α → Mo → Prop, (∀ a m, Q a m → Q' a m) → Post r Q') : Post r Q := h Q fun _ _ q => q
theorem forL_post {mg : MG} {ms : MS} {xs : List MV} {e : Env} {m : Mo} (I : Nat → Env → Mo → Prop) (h : I 0 e m)
    (st : ∀ i x e m, xs[i]? = some x → I i e m → Post ((mg x e m).bind fun e1 m1 => ms e1 m1) fun f m' => ∃ e', f = .next e' ∧ I (i + 1) e' m') :
    Post (forL mg ms xs e m) fun f m' => ∃ e', f = .next e' ∧ I xs.length e' m' := by
  obtain ⟨e', m', h1, h2⟩ := forL_inv (mg := mg) (ms := ms) I xs 0 e m h fun i x e m hx hi => by
    rw [Nat.zero_add] at hi ⊢
    obtain ⟨f, m', h1, e', rfl, h2⟩ := st i x e m hx hi
    exact ⟨e', m', h1, h2⟩
  rw [Nat.zero_add] at h2
  exact ⟨_, _, h1, e', rfl, h2⟩
/-- the same for a one-name target -/
theorem for_post {j : Nat} {ms : MS} {xs : List MV} {e : Env} {m : Mo} (I : Nat → Env → Mo → Prop) (h : I 0 e m)
    (st : ∀ i x e m, xs[i]? = some x → I i e m → Post (ms (e.set j (some x)) m) fun f m' => ∃ e', f = .next e' ∧ I (i + 1) e' m') :
    Post (forL (gSet j) ms xs e m) fun f m' => ∃ e', f = .next e' ∧ I xs.length e' m' := forL_post I h st
theorem comp_post {j : Nat} {mt : MT} {me : ME} {e0 : Env} {xs : List MV} {m : Mo} (I : Mo → Prop) (Q : MV → MV → Prop) (h : I m)
    (st : ∀ x ∈ xs, ∀ m, I m → Post (mt (e0.set j (some x)) m) fun b m1 => I m1 ∧ (b = true → Post (me (e0.set j (some x)) m1) fun y m2 => Q x y ∧ I m2)) :
    Post (compL (gSet j) mt me e0 xs m) fun ys m' => I m' ∧ ys.length ≤ xs.length ∧ ∀ y ∈ ys, ∃ x ∈ xs, Q x y := by
  induction xs generalizing m with
  | nil => exact ⟨[], m, rfl, h, Nat.le_refl _, fun y hy => by cases hy⟩
  | cons x xs ih =>
    obtain ⟨b, m1, h1, i1, h2⟩ := st x (List.mem_cons_self ..) m h
    rw [compL, ev_gset, R.bind_ok, h1, R.bind_ok]
    cases b with
    | true =>
      obtain ⟨y, m2, h3, q, i2⟩ := h2 rfl
      obtain ⟨ys, m3, h4, i3, l3, q3⟩ := ih i2 fun x hx => st x (List.mem_cons_of_mem _ hx)
      rw [if_pos rfl, h3, R.bind_ok, h4, R.bind_ok]
      refine ⟨y :: ys, m3, rfl, i3, by simpa using l3, fun z hz => ?_⟩
      rcases List.mem_cons.mp hz with e | hz
      · exact ⟨x, List.mem_cons_self .., by rw [e]; exact q⟩
      · obtain ⟨x', hx, qx⟩ := q3 z hz
        exact ⟨x', List.mem_cons_of_mem _ hx, qx⟩
    | false =>
      obtain ⟨ys, m3, h4, i3, l3, q3⟩ := ih i1 fun x hx => st x (List.mem_cons_of_mem _ hx)
      rw [if_neg (by simp), h4]
      refine ⟨ys, m3, rfl, i3, by simp; omega, fun z hz => ?_⟩
      obtain ⟨x', hx, qx⟩ := q3 z hz
      exact ⟨x', List.mem_cons_of_mem _ hx, qx⟩
theorem each_post {j : Nat} {me : ME} {e0 : Env} {xs : List MV} {m : Mo} (I : Mo → Prop) (Q : MV → MV → Prop) (h : I m)
    (st : ∀ x ∈ xs, ∀ m, I m → Post (me (e0.set j (some x)) m) fun y m2 => Q x y ∧ I m2) :
    Post (compL (gSet j) mYes me e0 xs m) fun ys m' => I m' ∧ All2 Q xs ys := by
  obtain ⟨ys, m', h1, h2, h3⟩ := compL_each (j := j) (me := me) (e0 := e0) I Q xs m h fun x hx m hm => by
    obtain ⟨y, m2, h1, h2, h3⟩ := st x hx m hm
    exact ⟨y, m2, h1, h2, h3⟩
  exact ⟨ys, m', h1, h2, h3⟩
theorem all2_map {α : Type} {Q : MV → α → Prop} {g : α → MV} : ∀ {xs : List MV} {ys : List MV}, All2 (fun x y => ∃ a, y = g a ∧ Q x a) xs ys → ∃ l, ys = l.map g ∧ All2 Q xs l
  | _, _, .nil => ⟨[], rfl, .nil⟩
  | _, _, .cons ⟨a, e, q⟩ t => by
    obtain ⟨l, e2, q2⟩ := all2_map t
    exact ⟨a :: l, by rw [e, e2]; rfl, .cons q q2⟩
/-! ### in -/
theorem any_map {α : Type} (l : List α) (g : α → MV) (q : MV → Bool) : (l.map g).any q = l.any fun a => q (g a) := by
  rw [List.any_map]
  rfl
theorem in_int {xs : List Int} {a : Int} {m : Mo} : fIn (.int a) (.lst (xs.map MV.int)) m = some (xs.any fun y => y == a) := by
  show (if flatM (.int a) = true ∧ (xs.map MV.int).all flatM = true then some (inM (.int a) (xs.map MV.int)) else none) = _
  rw [if_pos ⟨rfl, by rw [List.all_map]; simp [flatM]⟩]
  unfold inM
  rw [any_map]
  rfl
theorem in_bl {xs : List Bool} {a : Bool} {m : Mo} : fIn (.bl a) (.lst (xs.map MV.bl)) m = some (xs.any fun y => y == a) := by
  show (if flatM (.bl a) = true ∧ (xs.map MV.bl).all flatM = true then some (inM (.bl a) (xs.map MV.bl)) else none) = _
  rw [if_pos ⟨rfl, by rw [List.all_map]; simp [flatM]⟩]
  unfold inM
  rw [any_map]
  rfl
theorem in_strc {xs : List Str} {a : Str} {m : Mo} {p : Nat} (h : m[p]? = some (.lst (xs.map MV.str))) : fIn (.str a) (.ref p) m = some (xs.any fun y => y == a) := by
  have : fIn (.str a) (.ref p) m = (sqOf (.ref p) m).bind fun zs => if flatM (.str a) = true ∧ zs.all flatM = true then some (inM (.str a) zs) else none := rfl
  rw [this]
  unfold sqOf
  dsimp only
  rw [h]
  show (if flatM (.str a) = true ∧ (xs.map MV.str).all flatM = true then some (inM (.str a) (xs.map MV.str)) else none) = _
  rw [if_pos ⟨rfl, by rw [List.all_map]; simp [flatM]⟩]
  unfold inM
  rw [any_map]
  rfl
/-! ### giving up a cell -/
theorem fix0 (m : Mo) : ∀ xs : List MV, mapR (fixD 0) xs m = .ok xs m
  | [] => rfl
  | x :: xs => by
    rw [mapR, fixD, R.bind_ok, fix0 m xs]
    rfl
theorem fix1_lst {m : Mo} {p : Nat} {xs : List MV} (h : m[p]? = some (.lst xs)) : fixD 1 (.ref p) m = .ok (.lst xs) (m.set p .dead) := by
  rw [fixD, h]
  dsimp only
  rw [fix0, R.bind_ok, h]
theorem fix1_dK {m : Mo} {p : Nat} {ks : List Key} {xs : List MV} (h : m[p]? = some (.dK ks xs)) : fixD 1 (.ref p) m = .ok (.dK ks xs) (m.set p .dead) := by
  rw [fixD, h]
  dsimp only
  rw [fix0, R.bind_ok, h]
  exact if_pos rfl
theorem bool_any {α : Type} (l : List α) (f g : α → Bool) (h : ∀ a ∈ l, f a = g a) : l.any f = l.any g := by
  induction l with
  | nil => rfl
  | cons a l ih => rw [List.any_cons, List.any_cons, h a (List.mem_cons_self ..), ih fun b hb => h b (List.mem_cons_of_mem _ hb)]
/-! ### lists of ints, compared; tests -/
theorem toDs_int : ∀ l : List Int, toDs (l.map MV.int) = some (l.map PyData.int)
  | [] => rfl
  | a :: l => by
    show ((toD (.int a)).bind fun d => (toDs (l.map MV.int)).map fun ds => d :: ds) = _
    rw [toDs_int l]
    rfl
theorem lay_int : ∀ l : List Int, PyData.canLayAll0 (l.map PyData.int) = true
  | [] => by simp [PyData.canLayAll0]
  | a :: l => by simp [PyData.canLayAll0, PyData.canLay0, lay_int l]
theorem depth_int : ∀ l : List Int, PyData.depthAll (l.map PyData.int) = 0
  | [] => by simp [PyData.depthAll]
  | a :: l => by simp [PyData.depthAll, PyData.depth, depth_int l]
theorem eqv_int : ∀ a b : List Int, PyData.eqvAll (a.map PyData.int) (b.map PyData.int) = decide (a = b)
  | [], [] => by simp [PyData.eqvAll]
  | [], b :: bs => by simp [PyData.eqvAll]
  | a :: as, [] => by simp [PyData.eqvAll]
  | a :: as, b :: bs => by
    simp only [List.map_cons, PyData.eqvAll, PyData.eqv, eqv_int as bs]
    by_cases h1 : a = b
    · by_cases h2 : as = bs <;> simp [h1, h2]
    · simp [h1]
theorem eq_ints {a b : List Int} {m : Mo} : fEq (.lst (a.map MV.int)) (.lst (b.map MV.int)) m = some (decide (a = b)) := by
  show dEq _ _ m = _
  unfold dEq
  show (((toDs (a.map MV.int)).map PyData.list).bind fun d => ((toDs (b.map MV.int)).map PyData.list).bind fun e => _) = _
  rw [toDs_int, toDs_int]
  have sh : ∀ l : List Int, SeqAt.shaped (.list (l.map PyData.int)) = true := fun l => by
    unfold SeqAt.shaped
    simp [PyData.canLay0, PyData.depth, lay_int, depth_int]
  show (if (SeqAt.shaped (.list (a.map PyData.int)) && SeqAt.shaped (.list (b.map PyData.int))) = true then some (PyData.eqv (.list (a.map PyData.int)) (.list (b.map PyData.int))) else none) = _
  rw [sh, sh]
  simp [PyData.eqv, eqv_int]
theorem ne_ints {a b : List Int} {m : Mo} : fNe (.lst (a.map MV.int)) (.lst (b.map MV.int)) m = some (!decide (a = b)) := by
  unfold fNe
  rw [eq_ints]
  rfl
/-- a loop of tests over pure steps: on, or answer y -/
theorem tests_post {α : Type} {j : Nat} {ms : MS} {m : Mo} (g : α → MV) (t : α → Bool) (y : MV) (I : Env → Prop) : ∀ (l : List α) (e : Env), I e →
    (∀ a ∈ l, ∀ e, I e → Post (ms (e.set j (some (g a))) m) fun f m' => m' = m ∧ (if t a = true then ∃ e', f = .next e' ∧ I e' else f = .ret y)) →
    Post (forL (gSet j) ms (l.map g) e m) fun f m' => m' = m ∧ (if l.all t = true then ∃ e', f = .next e' ∧ I e' else f = .ret y)
  | [], e, h, _ => ⟨_, _, rfl, rfl, e, rfl, h⟩
  | a :: l, e, h, st => by
    obtain ⟨f, m', h1, rfl, h2⟩ := st a (List.mem_cons_self ..) e h
    rw [List.map_cons, forL, ev_gset, R.bind_ok, h1, R.bind_ok, List.all_cons]
    cases ht : t a with
    | true =>
      rw [ht, if_pos rfl] at h2
      obtain ⟨e', rfl, h3⟩ := h2
      rw [Bool.true_and]
      exact tests_post g t y I l e' h3 fun b hb => st b (List.mem_cons_of_mem _ hb)
    | false =>
      rw [ht, if_neg (by simp)] at h2
      subst h2
      exact ⟨_, _, rfl, rfl, by simp⟩
end
end ML
set_option Elab.async false
set_option linter.all false
set_option maxRecDepth 100000
set_option maxHeartbeats 4000000
namespace W76
open PySem PySem.Spec PyProof.Rows L2 ML
noncomputable section
def top (i : Nat) : Stmt := PySem.Challenge.pw_heldproofs_k76_seam_large_worlds.main.body.getD i (.Pass ⟨0, 0, 0, 0⟩)
abbrev s_BadWorld_init : Stmt := inClass (top 2) 0
abbrev s_sides : Stmt := top 5
abbrev s_is_all_once : Stmt := top 7
abbrev s_is_claim_once : Stmt := top 8
abbrev s_has_shape : Stmt := top 9
abbrev s_keeps_order : Stmt := top 10
abbrev s_keeps_grouping : Stmt := top 11
abbrev s_fault_of : Stmt := top 12
abbrev s_is_true_for : Stmt := top 13
abbrev s_World_init : Stmt := inClass (top 14) 0
abbrev s_World_len : Stmt := inClass (top 14) 1
abbrev s_World_product : Stmt := inClass (top 14) 2
abbrev s_World_has : Stmt := inClass (top 14) 3
abbrev s_World_fails : Stmt := inClass (top 14) 4
abbrev s_World__truths : Stmt := inClass (top 14) 5
abbrev s_law_cell : Stmt := top 16
abbrev s_law_pool : Stmt := top 17
abbrev s_law_next : Stmt := top 18
abbrev s_law_names : Stmt := top 19
abbrev s_law_product : Stmt := top 20
abbrev s_law_table : Stmt := top 21
abbrev s_law_facts : Stmt := top 22
abbrev s_law_sentence : Stmt := top 23
abbrev s_law_true : Stmt := top 24
abbrev s_law_refused : Stmt := top 25
abbrev s_law_spoilt : Stmt := top 26
abbrev s_law_picks : Stmt := top 27
abbrev s_law_places : Stmt := top 28
abbrev s_law_judged : Stmt := top 29
abbrev s_law : Stmt := top 30
structure Ad where
  HeldError : Addr
  BadWorld : Addr
  NotOnce : Addr
  World : Addr
  f_BadWorld_init : Addr
  d_BadWorld_init : FuncData
  f_sides : Addr
  d_sides : FuncData
  f_is_all_once : Addr
  d_is_all_once : FuncData
  f_is_claim_once : Addr
  d_is_claim_once : FuncData
  f_has_shape : Addr
  d_has_shape : FuncData
  f_keeps_order : Addr
  d_keeps_order : FuncData
  f_keeps_grouping : Addr
  d_keeps_grouping : FuncData
  f_fault_of : Addr
  d_fault_of : FuncData
  f_is_true_for : Addr
  d_is_true_for : FuncData
  f_World_init : Addr
  d_World_init : FuncData
  f_World_len : Addr
  d_World_len : FuncData
  f_World_product : Addr
  d_World_product : FuncData
  f_World__truths : Addr
  d_World__truths : FuncData
  f_World_has : Addr
  d_World_has : FuncData
  f_World_fails : Addr
  d_World_fails : FuncData
  f_law_cell : Addr
  d_law_cell : FuncData
  f_law_pool : Addr
  d_law_pool : FuncData
  f_law_next : Addr
  d_law_next : FuncData
  f_law_names : Addr
  d_law_names : FuncData
  f_law_product : Addr
  d_law_product : FuncData
  f_law_table : Addr
  d_law_table : FuncData
  f_law_facts : Addr
  d_law_facts : FuncData
  f_law_sentence : Addr
  d_law_sentence : FuncData
  f_law_true : Addr
  d_law_true : FuncData
  f_law_refused : Addr
  d_law_refused : FuncData
  f_law_spoilt : Addr
  d_law_spoilt : FuncData
  f_law_picks : Addr
  d_law_picks : FuncData
  f_law_places : Addr
  d_law_places : FuncData
  f_law_judged : Addr
  d_law_judged : FuncData
  f_law : Addr
  d_law : FuncData
def cat_BadWorld (A : Ad) (C : Addr) : Option Bool := if C = A.BadWorld then some true else none
structure Top (K : PySem.W.Frag) (mg : Str → Option Value) (A : Ad) : Prop where
  F_BadWorld_init : Fun K "__init__" "BadWorld.__init__" s_BadWorld_init A.f_BadWorld_init A.d_BadWorld_init
  b_BadWorld_init : Binds K A.d_BadWorld_init ["self", "reason"] []
  F_sides : Fun K "sides" "sides" s_sides A.f_sides A.d_sides
  b_sides : Binds K A.d_sides ["sentence"] []
  m_sides : mg "sides" = some (.ref A.f_sides)
  F_is_all_once : Fun K "is_all_once" "is_all_once" s_is_all_once A.f_is_all_once A.d_is_all_once
  b_is_all_once : Binds K A.d_is_all_once ["sentence"] []
  m_is_all_once : mg "is_all_once" = some (.ref A.f_is_all_once)
  F_is_claim_once : Fun K "is_claim_once" "is_claim_once" s_is_claim_once A.f_is_claim_once A.d_is_claim_once
  b_is_claim_once : Binds K A.d_is_claim_once ["claim"] []
  m_is_claim_once : mg "is_claim_once" = some (.ref A.f_is_claim_once)
  F_has_shape : Fun K "has_shape" "has_shape" s_has_shape A.f_has_shape A.d_has_shape
  b_has_shape : Binds K A.d_has_shape ["products"] []
  m_has_shape : mg "has_shape" = some (.ref A.f_has_shape)
  F_keeps_order : Fun K "keeps_order" "keeps_order" s_keeps_order A.f_keeps_order A.d_keeps_order
  b_keeps_order : Binds K A.d_keeps_order ["products"] []
  m_keeps_order : mg "keeps_order" = some (.ref A.f_keeps_order)
  F_keeps_grouping : Fun K "keeps_grouping" "keeps_grouping" s_keeps_grouping A.f_keeps_grouping A.d_keeps_grouping
  b_keeps_grouping : Binds K A.d_keeps_grouping ["products"] []
  m_keeps_grouping : mg "keeps_grouping" = some (.ref A.f_keeps_grouping)
  F_fault_of : Fun K "fault_of" "fault_of" s_fault_of A.f_fault_of A.d_fault_of
  b_fault_of : Binds K A.d_fault_of ["products", "facts"] []
  m_fault_of : mg "fault_of" = some (.ref A.f_fault_of)
  F_is_true_for : Fun K "is_true_for" "is_true_for" s_is_true_for A.f_is_true_for A.d_is_true_for
  b_is_true_for : Binds K A.d_is_true_for ["truths", "row", "givers"] []
  m_is_true_for : mg "is_true_for" = some (.ref A.f_is_true_for)
  F_World_init : Fun K "__init__" "World.__init__" s_World_init A.f_World_init A.d_World_init
  b_World_init : Binds K A.d_World_init ["self", "products", "facts"] []
  F_World_len : Fun K "__len__" "World.__len__" s_World_len A.f_World_len A.d_World_len
  b_World_len : Binds K A.d_World_len ["self"] []
  h_World_len : Meth K A.World "__len__" A.f_World_len
  F_World_product : Fun K "product" "World.product" s_World_product A.f_World_product A.d_World_product
  b_World_product : Binds K A.d_World_product ["self", "a", "b"] []
  h_World_product : Meth K A.World "product" A.f_World_product
  F_World__truths : Fun K "_truths" "World._truths" s_World__truths A.f_World__truths A.d_World__truths
  b_World__truths : Binds K A.d_World__truths ["self", "sentence"] []
  h_World__truths : Meth K A.World "_truths" A.f_World__truths
  F_World_has : Fun K "has" "World.has" s_World_has A.f_World_has A.d_World_has
  b_World_has : Binds K A.d_World_has ["self", "element", "sentence"] []
  h_World_has : Meth K A.World "has" A.f_World_has
  F_World_fails : Fun K "fails" "World.fails" s_World_fails A.f_World_fails A.d_World_fails
  b_World_fails : Binds K A.d_World_fails ["self", "claim", "places"] []
  h_World_fails : Meth K A.World "fails" A.f_World_fails
  F_law_cell : Fun K "_law_cell" "_law_cell" s_law_cell A.f_law_cell A.d_law_cell
  b_law_cell : Binds K A.d_law_cell ["script", "k"] []
  m_law_cell : mg "_law_cell" = some (.ref A.f_law_cell)
  F_law_pool : Fun K "_law_pool" "_law_pool" s_law_pool A.f_law_pool A.d_law_pool
  b_law_pool : Binds K A.d_law_pool ["script", "k"] []
  m_law_pool : mg "_law_pool" = some (.ref A.f_law_pool)
  F_law_next : Fun K "_law_next" "_law_next" s_law_next A.f_law_next A.d_law_next
  b_law_next : Binds K A.d_law_next ["pool", "many"] []
  m_law_next : mg "_law_next" = some (.ref A.f_law_next)
  F_law_names : Fun K "_law_names" "_law_names" s_law_names A.f_law_names A.d_law_names
  b_law_names : Binds K A.d_law_names ["pool", "many"] []
  m_law_names : mg "_law_names" = some (.ref A.f_law_names)
  F_law_product : Fun K "_law_product" "_law_product" s_law_product A.f_law_product A.d_law_product
  b_law_product : Binds K A.d_law_product ["form", "many", "a", "b"] []
  m_law_product : mg "_law_product" = some (.ref A.f_law_product)
  F_law_table : Fun K "_law_table" "_law_table" s_law_table A.f_law_table A.d_law_table
  b_law_table : Binds K A.d_law_table ["form", "many"] []
  m_law_table : mg "_law_table" = some (.ref A.f_law_table)
  F_law_facts : Fun K "_law_facts" "_law_facts" s_law_facts A.f_law_facts A.d_law_facts
  b_law_facts : Binds K A.d_law_facts ["pool", "many", "words"] []
  m_law_facts : mg "_law_facts" = some (.ref A.f_law_facts)
  F_law_sentence : Fun K "_law_sentence" "_law_sentence" s_law_sentence A.f_law_sentence A.d_law_sentence
  b_law_sentence : Binds K A.d_law_sentence ["pool", "words", "depth"] []
  m_law_sentence : mg "_law_sentence" = some (.ref A.f_law_sentence)
  F_law_true : Fun K "_law_true" "_law_true" s_law_true A.f_law_true A.d_law_true
  b_law_true : Binds K A.d_law_true ["table", "facts", "sentence"] []
  m_law_true : mg "_law_true" = some (.ref A.f_law_true)
  F_law_refused : Fun K "_law_refused" "_law_refused" s_law_refused A.f_law_refused A.d_law_refused
  b_law_refused : Binds K A.d_law_refused ["table", "facts"] []
  m_law_refused : mg "_law_refused" = some (.ref A.f_law_refused)
  F_law_spoilt : Fun K "_law_spoilt" "_law_spoilt" s_law_spoilt A.f_law_spoilt A.d_law_spoilt
  b_law_spoilt : Binds K A.d_law_spoilt ["pool", "form", "table", "facts"] []
  m_law_spoilt : mg "_law_spoilt" = some (.ref A.f_law_spoilt)
  F_law_picks : Fun K "_law_picks" "_law_picks" s_law_picks A.f_law_picks A.d_law_picks
  b_law_picks : Binds K A.d_law_picks ["pool", "lists"] []
  m_law_picks : mg "_law_picks" = some (.ref A.f_law_picks)
  F_law_places : Fun K "_law_places" "_law_places" s_law_places A.f_law_places A.d_law_places
  b_law_places : Binds K A.d_law_places ["pool", "truths", "many"] []
  m_law_places : mg "_law_places" = some (.ref A.f_law_places)
  F_law_judged : Fun K "_law_judged" "_law_judged" s_law_judged A.f_law_judged A.d_law_judged
  b_law_judged : Binds K A.d_law_judged ["pool", "world", "table", "facts", "sentences", "names"] []
  m_law_judged : mg "_law_judged" = some (.ref A.f_law_judged)
  F_law : Fun K "law" "law" s_law A.f_law A.d_law
  b_law : Binds K A.d_law ["script"] []
  m_law : mg "law" = some (.ref A.f_law)
  m_HeldError : mg "HeldError" = some (.ref A.HeldError)
  m_BadWorld : mg "BadWorld" = some (.ref A.BadWorld)
  m_NotOnce : mg "NotOnce" = some (.ref A.NotOnce)
  m_World : mg "World" = some (.ref A.World)
  rd_HeldError : PySem.W.readsIn K A.HeldError (.type "type") = true
  sp_HeldError : PySem.W.specialIn K (.ref A.HeldError) "__getattribute__" = some (some (.builtin "type.__getattribute__"))
  vi_HeldError : PySem.W.findCls K (.ref A.HeldError) (.type "type") "__init__" = some (.val (.builtin "ValueError.__init__"))
  t_BadWorld : OexC K A.BadWorld
  i_BadWorld : PySem.W.findIn K (.ref A.BadWorld) "__init__" = some (some (.ref A.f_BadWorld_init))
  ti_BadWorld : PySem.W.typeIn K (.ref A.f_BadWorld_init) = some (.type "function")
  nx_BadWorld_reason : PySem.W.findIn K (.ref A.BadWorld) "reason" = some none
  xf_BadWorld : XfC K A.BadWorld
  c_World : Cls K A.World
  k_World : Mk K A.World A.f_World_init
  n_World__facts : NoAttr K A.World "_facts"
  n_World__products : NoAttr K A.World "_products"
  cat_BadWorld : ∀ C' b, cat_BadWorld A C' = some b → PySem.W.exmOne K (.ref C') (.ref A.BadWorld) = some b
  z_abs : mg "abs" = none
  z_int : mg "int" = none
  z_len : mg "len" = none
  z_list : mg "list" = none
  z_max : mg "max" = none
  z_min : mg "min" = none
  z_range : mg "range" = none
  z_repr : mg "repr" = none
  z_str : mg "str" = none
  z_tuple : mg "tuple" = none
theorem Top.nm_BadWorld {K : PySem.W.Frag} {mg : Str → Option Value} {A : Ad} {X : Cx} (T : Top K mg A) (hg : Gl X "BadWorld") (hm : X.mg = mg := by rfl) : Names X "BadWorld" (.ref A.BadWorld) := ⟨hg, by decide, .inl (by rw [hm]; exact T.m_BadWorld)⟩
theorem sc_BadWorld_init : FnScope ["self", "reason"] ["self", "reason"] (defScope s_BadWorld_init) := ⟨rfl, rfl, rfl, by decide +kernel, rfl, by decide +kernel, by decide +kernel⟩
theorem BadWorld_init_ok {P : Program} {w : World} {K : PySem.W.Frag} {mg : Str → Option Value} {base : Heap} {A : Ad} {k : Nat} (T : Top K mg A) : FnOk P w K mg base CX0 (k + 1) A.f_BadWorld_init A.d_BadWorld_init ["self", "reason"] (spX K A.BadWorld ["reason"]) :=
  ok_init1 T.F_BadWorld_init sc_BadWorld_init rfl (fun cdv A outer s H E => ps_expr (pe_ownInit rfl T.m_HeldError T.rd_HeldError T.sp_HeldError T.vi_HeldError (pa_cons (pv 0) (pa_cons pe_str pa_nil)))) rfl rfl T.t_BadWorld T.nx_BadWorld_reason
theorem sc_sides : FnScope ["sentence"] ["sentence"] (defScope s_sides) := ⟨rfl, rfl, rfl, by decide +kernel, rfl, by decide +kernel, by decide +kernel⟩
def b_sides (A : Ad) : MS :=
  (mSeq (mIf (mOpB fEq (mOp oIx (mVar 0) (mC (.int 0))) (mC (.str "word"))) (mRet (mLst mANil)) mNext)
    (mSeq (mIf (mOpB fEq (mOp oIx (mVar 0) (mC (.int 0))) (mC (.str "menu"))) (mRet (mLst (mACons (mOp oIx (mVar 0) (mC (.int 1))) (mACons (mOp oIx (mVar 0) (mC (.int 2))) mANil)))) mNext)
    (mRet (mLst (mACons (mOp oIx (mVar 0) (mC (.int 2))) (mACons (mOp oIx (mVar 0) (mC (.int 3))) mANil))))))
def f_sides (A : Ad) : MFn := bodyM 1 (b_sides A)
theorem sc_is_all_once : FnScope ["sentence", "side"] ["sentence"] (defScope s_is_all_once) := ⟨rfl, rfl, rfl, by decide +kernel, rfl, by decide +kernel, by decide +kernel⟩
def b_is_all_once (A : Ad) (rec : MFn) : MS :=
  (mSeq (mIf (mAndT (mOpB fEq (mOp oIx (mVar 0) (mC (.int 0))) (mC (.str "trade"))) (mOpB fNe (mOp oIx (mVar 0) (mC (.int 1))) (mC (.str "once")))) (mRet (mC (.bl false))) mNext)
    (mSeq (mFor (iSeq (mCall 1 (f_sides A) (mACons (mVar 0) mANil))) (gSet 1) (mIf (mNotT (mTru truM (mCall 1 (rec) (mACons (mVar 1) mANil)))) (mRet (mC (.bl false))) mNext))
    (mRet (mC (.bl true)))))
def f_is_all_once (A : Ad) : Nat → MFn
  | 0 => fun _ _ => .stuck
  | n + 1 => bodyM 2 (b_is_all_once A (f_is_all_once A n))
theorem sc_is_claim_once : FnScope ["claim", "hold"] ["claim"] (defScope s_is_claim_once) := ⟨rfl, rfl, rfl, by decide +kernel, rfl, by decide +kernel, by decide +kernel⟩
def b_is_claim_once (A : Ad) : MS :=
  (mSeq (mFor (iTupM (mOp oIx (mVar 0) (mC (.int 0)))) (gSet 1) (mIf (mOrT (mOpB fNe (mOp oIx (mVar 1) (mC (.int 1))) (mC (.str "once"))) (mNotT (mTru truM (mCall 1 (f_is_all_once A 25) (mACons (mOp oIx (mVar 1) (mC (.int 2))) mANil))))) (mRet (mC (.bl false))) mNext))
    (mRet (mCall 1 (f_is_all_once A 25) (mACons (mOp oIx (mVar 0) (mC (.int 1))) mANil))))
def f_is_claim_once (A : Ad) : MFn := bodyM 2 (b_is_claim_once A)
theorem sc_has_shape : FnScope ["products", "count", "row", "item"] ["products"] (defScope s_has_shape) := ⟨rfl, rfl, rfl, by decide +kernel, rfl, by decide +kernel, by decide +kernel⟩
def b_has_shape (A : Ad) : MS :=
  (mSeq (mSet 1 (mCB cLen (mACons (mVar 0) mANil)))
    (mSeq (mFor (iSeq (mVar 0)) (gSet 2) (mSeq (mIf (mOpB fNe (mCB cLen (mACons (mVar 2) mANil)) (mVar 1)) (mRet (mC (.bl false))) mNext)
    (mFor (iSeq (mVar 2)) (gSet 3) (mIf (mNotT (mChain fLe fLt (mC (.int 0)) (mVar 3) (mVar 1))) (mRet (mC (.bl false))) mNext))))
    (mRet (mOp (oB fGt) (mVar 1) (mC (.int 0))))))
def f_has_shape (A : Ad) : MFn := bodyM 4 (b_has_shape A)
theorem sc_keeps_order : FnScope ["products", "first", "second"] ["products"] (defScope s_keeps_order) := ⟨rfl, rfl, rfl, by decide +kernel, rfl, by decide +kernel, by decide +kernel⟩
def b_keeps_order (A : Ad) : MS :=
  (mSeq (mFor (iRg1 (mCB cLen (mACons (mVar 0) mANil))) (gSet 1) (mFor (iRg1 (mVar 1)) (gSet 2) (mIf (mOpB fNe (mOp oIx (mOp oIx (mVar 0) (mVar 1)) (mVar 2)) (mOp oIx (mOp oIx (mVar 0) (mVar 2)) (mVar 1))) (mRet (mC (.bl false))) mNext)))
    (mRet (mC (.bl true))))
def f_keeps_order (A : Ad) : MFn := bodyM 3 (b_keeps_order A)
theorem sc_keeps_grouping : FnScope ["products", "row", "second", "item"] ["products"] (defScope s_keeps_grouping) := ⟨rfl, rfl, rfl, by decide +kernel, rfl, by decide +kernel, by decide +kernel⟩
def b_keeps_grouping (A : Ad) : MS :=
  (mSeq (mFor (iSeq (mVar 0)) (gSet 1) (mFor (iRg1 (mCB cLen (mACons (mVar 0) mANil))) (gSet 2) (mIf (mOpB fNe (mOp oIx (mVar 0) (mOp oIx (mVar 1) (mVar 2))) (mLc (iSeq (mOp oIx (mVar 0) (mVar 2))) (gSet 3) mYes (mOp oIx (mVar 1) (mVar 3)) [3])) (mRet (mC (.bl false))) mNext)))
    (mRet (mC (.bl true))))
def f_keeps_grouping (A : Ad) : MFn := bodyM 4 (b_keeps_grouping A)
theorem sc_fault_of : FnScope ["products", "facts", "name", "element"] ["products", "facts"] (defScope s_fault_of) := ⟨rfl, rfl, rfl, by decide +kernel, rfl, by decide +kernel, by decide +kernel⟩
def b_fault_of (A : Ad) : MS :=
  (mSeq (mIf (mNotT (mTru truM (mCall 1 (f_has_shape A) (mACons (mVar 0) mANil)))) (mRet (mC (.str "shape"))) mNext)
    (mSeq (mIf (mOpB fNe (mOp oIx (mVar 0) (mC (.int 0))) (mListRg (mCB cLen (mACons (mVar 0) mANil)))) (mRet (mC (.str "unit"))) mNext)
    (mSeq (mIf (mNotT (mTru truM (mCall 1 (f_keeps_order A) (mACons (mVar 0) mANil)))) (mRet (mC (.str "order"))) mNext)
    (mSeq (mIf (mNotT (mTru truM (mCall 1 (f_keeps_grouping A) (mACons (mVar 0) mANil)))) (mRet (mC (.str "grouping"))) mNext)
    (mSeq (mForD 1 (gSet 2) (mFor (iSeq (mDGet (mVar 1) (mVar 2))) (gSet 3) (mIf (mNotT (mChain fLe fLt (mC (.int 0)) (mVar 3) (mCB cLen (mACons (mVar 0) mANil)))) (mRet (mC (.str "fact"))) mNext)))
    (mRet (mC .non)))))))
def f_fault_of (A : Ad) : MFn := bodyM 4 (b_fault_of A)
theorem sc_is_true_for : FnScope ["truths", "row", "givers", "giver"] ["truths", "row", "givers"] (defScope s_is_true_for) := ⟨rfl, rfl, rfl, by decide +kernel, rfl, by decide +kernel, by decide +kernel⟩
def b_is_true_for (A : Ad) : MS :=
  (mSeq (mFor (iSeq (mVar 2)) (gSet 3) (mIf (mNotT (mTru truM (mOp oIx (mVar 0) (mOp oIx (mVar 1) (mVar 3))))) (mRet (mC (.bl false))) mNext))
    (mRet (mC (.bl true))))
def f_is_true_for (A : Ad) : MFn := bodyM 4 (b_is_true_for A)
theorem sc_World_init : FnScope ["self", "products", "facts", "rows", "places", "reason", "row", "name"] ["self", "products", "facts"] (defScope s_World_init) := ⟨rfl, rfl, rfl, by decide +kernel, rfl, by decide +kernel, by decide +kernel⟩
def b_World_init (A : Ad) : MS :=
  (mSeq (mSet 3 (mLc (iSeq (mVar 1)) (gSet 6) mYes (mCB cList (mACons (mVar 6) mANil)) [6]))
    (mSeq (mSet 4 (mDc (iKeysM 2) (gSet 7) mYes (mVar 7) (mCB cList (mACons (mDGet (mVar 2) (mVar 7)) mANil)) [7]))
    (mSeq (mSet 5 (mCall 2 (f_fault_of A) (mACons (mVar 3) (mACons (mVar 4) mANil))))
    (mSeq (mIf (mOpB fNotN (mVar 5) (mC .non)) (mRaiseO A.BadWorld ["reason"] (mACons (mVar 5) mANil)) mNext)
    (mSeq (mSetFld A.World "_products" (mVar 3) (mVar 0))
    (mSetFld A.World "_facts" (mVar 4) (mVar 0)))))))
def f_World_init (A : Ad) : MFn := bodyM 8 (b_World_init A)
theorem sc_World_len : FnScope ["self"] ["self"] (defScope s_World_len) := ⟨rfl, rfl, rfl, by decide +kernel, rfl, by decide +kernel, by decide +kernel⟩
def b_World_len (A : Ad) : MS :=
  (mRet (mCB cLen (mACons (mFld A.World "_products" (mVar 0)) mANil)))
def f_World_len (A : Ad) : MFn := bodyM 1 (b_World_len A)
theorem sc_World_product : FnScope ["self", "a", "b"] ["self", "a", "b"] (defScope s_World_product) := ⟨rfl, rfl, rfl, by decide +kernel, rfl, by decide +kernel, by decide +kernel⟩
def b_World_product (A : Ad) : MS :=
  (mRet (mOp oIx (mOp oIx (mFld A.World "_products" (mVar 0)) (mVar 1)) (mVar 2)))
def f_World_product (A : Ad) : MFn := bodyM 3 (b_World_product A)
theorem sc_World__truths : FnScope ["self", "sentence", "found", "first", "second", "givers", "element", "row"] ["self", "sentence"] (defScope s_World__truths) := ⟨rfl, rfl, rfl, by decide +kernel, rfl, by decide +kernel, by decide +kernel⟩
def b_World__truths (A : Ad) (rec : MFn) : MS :=
  (mSeq (mIf (mOpB fEq (mOp oIx (mVar 1) (mC (.int 0))) (mC (.str "word"))) (mSeq (mSet 2 (mDGet2 (mFld A.World "_facts" (mVar 0)) (mOp oIx (mVar 1) (mC (.int 1))) (mLst mANil)))
    (mRet (mLc (iRg1 (mCB cLen (mACons (mFld A.World "_products" (mVar 0)) mANil))) (gSet 6) mYes (mOp (oB fIn) (mVar 6) (mVar 2)) [6]))) mNext)
    (mSeq (mSet 3 (mMeth A.World "_truths" 2 (rec) (mVar 0) (mACons (mOp oIx (mVar 1) (mOp oSub (mCB cLen (mACons (mVar 1) mANil)) (mC (.int 2)))) mANil)))
    (mSeq (mSet 4 (mMeth A.World "_truths" 2 (rec) (mVar 0) (mACons (mOp oIx (mVar 1) (mOp oSub (mCB cLen (mACons (mVar 1) mANil)) (mC (.int 1)))) mANil)))
    (mSeq (mIf (mOpB fEq (mOp oIx (mVar 1) (mC (.int 0))) (mC (.str "menu"))) (mRet (mLc (iRg1 (mCB cLen (mACons (mVar 3) mANil))) (gSet 6) mYes (mAndV (mOp oIx (mVar 3) (mVar 6)) (mOp oIx (mVar 4) (mVar 6))) [6])) mNext)
    (mSeq (mSet 5 (mLc (iRg1 (mCB cLen (mACons (mVar 3) mANil))) (gSet 6) (mTru truM (mOp oIx (mVar 3) (mVar 6))) (mVar 6) [6]))
    (mRet (mLc (iSeq (mFld A.World "_products" (mVar 0))) (gSet 7) mYes (mCall 3 (f_is_true_for A) (mACons (mVar 4) (mACons (mVar 7) (mACons (mVar 5) mANil)))) [7])))))))
def f_World__truths (A : Ad) : Nat → MFn
  | 0 => fun _ _ => .stuck
  | n + 1 => bodyM 8 (b_World__truths A (f_World__truths A n))
theorem sc_World_has : FnScope ["self", "element", "sentence"] ["self", "element", "sentence"] (defScope s_World_has) := ⟨rfl, rfl, rfl, by decide +kernel, rfl, by decide +kernel, by decide +kernel⟩
def b_World_has (A : Ad) : MS :=
  (mSeq (mIf (mNotT (mTru truM (mCall 1 (f_is_all_once A 25) (mACons (mVar 2) mANil)))) mNever mNext)
    (mRet (mOp oIx (mMeth A.World "_truths" 2 (f_World__truths A 25) (mVar 0) (mACons (mVar 2) mANil)) (mVar 1))))
def f_World_has (A : Ad) : MFn := bodyM 3 (b_World_has A)
theorem sc_World_fails : FnScope ["self", "claim", "places", "holds", "goal", "total", "index"] ["self", "claim", "places"] (defScope s_World_fails) := ⟨rfl, rfl, rfl, by decide +kernel, rfl, by decide +kernel, by decide +kernel⟩
def b_World_fails (A : Ad) : MS :=
  (mSeq (mIf (mNotT (mTru truM (mCall 1 (f_is_claim_once A) (mACons (mVar 1) mANil)))) mNever mNext)
    (mSeq (mAsg (mVar 1) (gTupM 2 (gsCons (gSet 3) (gsCons (gSet 4) gsNil))))
    (mSeq (mSet 5 (mC (.int 0)))
    (mSeq (mFor (iRg1 (mCB cLen (mACons (mVar 3) mANil))) (gSet 6) (mSeq (mIf (mNotT (mTru truM (mOp oIx (mMeth A.World "_truths" 2 (f_World__truths A 25) (mVar 0) (mACons (mOp oIx (mOp oIx (mVar 3) (mVar 6)) (mC (.int 2))) mANil)) (mOp oIx (mVar 2) (mVar 6))))) (mRet (mC (.bl false))) mNext)
    (mSet 5 (mOp oIx (mOp oIx (mFld A.World "_products" (mVar 0)) (mVar 5)) (mOp oIx (mVar 2) (mVar 6))))))
    (mRet (mNotV (mOp oIx (mMeth A.World "_truths" 2 (f_World__truths A 25) (mVar 0) (mACons (mVar 4) mANil)) (mVar 5))))))))
def f_World_fails (A : Ad) : MFn := bodyM 7 (b_World_fails A)
theorem sc_law_cell : FnScope ["script", "k"] ["script", "k"] (defScope s_law_cell) := ⟨rfl, rfl, rfl, by decide +kernel, rfl, by decide +kernel, by decide +kernel⟩
def b_law_cell (A : Ad) : MS :=
  (mSeq (mIf (mOpB fLt (mVar 1) (mCB cLen (mACons (mVar 0) mANil))) (mRet (mCB cAbs (mACons (mOp oIx (mVar 0) (mVar 1)) mANil))) mNext)
    (mRet (mC (.int 0))))
def f_law_cell (A : Ad) : MFn := bodyM 2 (b_law_cell A)
theorem sc_law_pool : FnScope ["script", "k", "cell"] ["script", "k"] (defScope s_law_pool) := ⟨rfl, rfl, rfl, by decide +kernel, rfl, by decide +kernel, by decide +kernel⟩
def b_law_pool (A : Ad) : MS :=
  (mSeq (mSet 2 (mCall 2 (f_law_cell A) (mACons (mVar 0) (mACons (mVar 1) mANil))))
    (mSeq (mIf (mOpB fGe (mVar 2) (mOp oPow (mC (.int 10)) (mC (.int 18)))) (mRet (mLstC (mACons (mVar 2) (mACons (mC (.int 0)) (mACons (mOp oMod (mCB cInt (mACons (mVar 2) mANil)) (mC (.int 1000003))) mANil))))) mNext)
    (mRet (mLstC (mACons (mC (.int 0)) (mACons (mC (.int 0)) (mACons (mVar 2) mANil)))))))
def f_law_pool (A : Ad) : MFn := bodyM 3 (b_law_pool A)
theorem sc_law_next : FnScope ["pool", "many", "digit", "mixed"] ["pool", "many"] (defScope s_law_next) := ⟨rfl, rfl, rfl, by decide +kernel, rfl, by decide +kernel, by decide +kernel⟩
def b_law_next (A : Ad) : MS :=
  (mSeq (mIf (mOpB fGt (mOp oIx (mVar 0) (mC (.int 0))) (mC (.int 0))) (mSeq (mSet 2 (mOp oMod (mCB cInt (mACons (mOp oIx (mVar 0) (mC (.int 0))) mANil)) (mVar 1)))
    (mSeq (mPutAt (mOp oDiv (mOp oIx (mVar 0) (mC (.int 0))) (mVar 1)) (mVar 0) (mC (.int 0)))
    (mRet (mVar 2)))) mNext)
    (mSeq (mPutAt (mOp oAdd (mOp oIx (mVar 0) (mC (.int 1))) (mC (.int 1))) (mVar 0) (mC (.int 1)))
    (mSeq (mSet 3 (mOp oMod (mCB cInt (mACons (mOp oAdd (mOp oAdd (mOp oIx (mVar 0) (mC (.int 2))) (mOp oMul (mC (.int 7919)) (mOp oIx (mVar 0) (mC (.int 1))))) (mC (.int 13))) mANil)) (mC (.int 2147483647))))
    (mSeq (mSet 3 (mOp oMod (mCB cInt (mACons (mOp oMul (mVar 3) (mOp oAdd (mVar 3) (mC (.int 48271)))) mANil)) (mC (.int 2147483629))))
    (mSeq (mSet 3 (mOp oMod (mCB cInt (mACons (mOp oAdd (mOp oMul (mVar 3) (mOp oAdd (mVar 3) (mC (.int 69621)))) (mOp oMul (mC (.int 31)) (mOp oIx (mVar 0) (mC (.int 1))))) mANil)) (mC (.int 2147483647))))
    (mRet (mOp oMod (mCB cInt (mACons (mOp oDiv (mVar 3) (mC (.int 9))) mANil)) (mVar 1))))))))
def f_law_next (A : Ad) : MFn := bodyM 4 (b_law_next A)
theorem sc_law_names : FnScope ["pool", "many", "names", "k", "name", "j"] ["pool", "many"] (defScope s_law_names) := ⟨rfl, rfl, rfl, by decide +kernel, rfl, by decide +kernel, by decide +kernel⟩
def b_law_names (A : Ad) : MS :=
  (mSeq (mSet 2 (mLstC mANil))
    (mSeq (mFor (iRg1 (mVar 1)) (gSet 3) (mSeq (mSet 4 (mOp oIx (mC (.str "abcdefghijklmnopqrstuvwxyz")) (mCall 2 (f_law_next A) (mACons (mVar 0) (mACons (mC (.int 26)) mANil)))))
    (mSeq (mFor (iRg1 (mCall 2 (f_law_next A) (mACons (mVar 0) (mACons (mC (.int 12)) mANil)))) (gSet 5) (mSet 4 (mOp oAdd (mVar 4) (mOp oIx (mC (.str "abcdefghijklmnopqrstuvwxyz0123456789")) (mCall 2 (f_law_next A) (mACons (mVar 0) (mACons (mC (.int 36)) mANil)))))))
    (mSeq (mFor (iRg1 (mOp oAdd (mVar 1) (mC (.int 1)))) (gSet 5) (mIf (mOpB fIn (mVar 4) (mVar 2)) (mSet 4 (mOp oAdd (mC (.str "spare")) (mCB cStr (mACons (mVar 5) mANil)))) mNext))
    (mExpr (mApp (mVar 2) (mVar 4)))))))
    (gFixD 1 2 (mRet (mVar 2)))))
def f_law_names (A : Ad) : MFn := bodyM 6 (b_law_names A)
theorem sc_law_product : FnScope ["form", "many", "a", "b"] ["form", "many", "a", "b"] (defScope s_law_product) := ⟨rfl, rfl, rfl, by decide +kernel, rfl, by decide +kernel, by decide +kernel⟩
def b_law_product (A : Ad) : MS :=
  (mSeq (mIf (mOpB fEq (mVar 0) (mC (.int 0))) (mRet (mCB cMin2 (mACons (mOp oAdd (mVar 2) (mVar 3)) (mACons (mOp oSub (mVar 1) (mC (.int 1))) mANil)))) mNext)
    (mSeq (mIf (mOpB fEq (mVar 0) (mC (.int 1))) (mRet (mOp oMod (mCB cInt (mACons (mOp oAdd (mVar 2) (mVar 3)) mANil)) (mVar 1))) mNext)
    (mRet (mCB cMax2 (mACons (mVar 2) (mACons (mVar 3) mANil))))))
def f_law_product (A : Ad) : MFn := bodyM 4 (b_law_product A)
theorem sc_law_table : FnScope ["form", "many", "a", "b"] ["form", "many"] (defScope s_law_table) := ⟨rfl, rfl, rfl, by decide +kernel, rfl, by decide +kernel, by decide +kernel⟩
def b_law_table (A : Ad) : MS :=
  (mRet (mLc (iRg1 (mVar 1)) (gSet 2) mYes (mLc (iRg1 (mVar 1)) (gSet 3) mYes (mCall 4 (f_law_product A) (mACons (mVar 0) (mACons (mVar 1) (mACons (mVar 2) (mACons (mVar 3) mANil))))) [3]) [2]))
def f_law_table (A : Ad) : MFn := bodyM 4 (b_law_table A)
theorem sc_law_facts : FnScope ["pool", "many", "words", "facts", "word", "pick", "first", "k"] ["pool", "many", "words"] (defScope s_law_facts) := ⟨rfl, rfl, rfl, by decide +kernel, rfl, by decide +kernel, by decide +kernel⟩
def b_law_facts (A : Ad) : MS :=
  (mSeq (mSet 3 mDNewC)
    (mSeq (mFor (iSeq (mVar 2)) (gSet 4) (mSeq (mSet 5 (mCall 2 (f_law_next A) (mACons (mVar 0) (mACons (mC (.int 4)) mANil))))
    (mSeq (mSet 6 (mCall 2 (f_law_next A) (mACons (mVar 0) (mACons (mVar 1) mANil))))
    (mIf (mOpB fEq (mVar 5) (mC (.int 0))) (mDPut (mLc (iRg1 (mVar 1)) (gSet 7) (mOpB fGe (mVar 7) (mVar 6)) (mVar 7) [7]) (mVar 3) (mVar 4)) (mIf (mOpB fEq (mVar 5) (mC (.int 1))) (mDPut (mLc (iRg1 (mVar 1)) (gSet 7) (mOpB fNe (mVar 7) (mVar 6)) (mOp oSub (mOp oSub (mVar 1) (mC (.int 1))) (mVar 7)) [7]) (mVar 3) (mVar 4)) (mIf (mOpB fEq (mVar 5) (mC (.int 2))) (mDPut (mLc (iRg1 (mVar 1)) (gSet 7) (mOpB fGt (mCall 2 (f_law_next A) (mACons (mVar 0) (mACons (mC (.int 3)) mANil))) (mC (.int 0))) (mVar 7) [7]) (mVar 3) (mVar 4)) mNext))))))
    (gFixD 1 3 (mRet (mVar 3)))))
def f_law_facts (A : Ad) : MFn := bodyM 8 (b_law_facts A)
theorem sc_law_sentence : FnScope ["pool", "words", "depth", "sentence", "k", "other", "pick"] ["pool", "words", "depth"] (defScope s_law_sentence) := ⟨rfl, rfl, rfl, by decide +kernel, rfl, by decide +kernel, by decide +kernel⟩
def b_law_sentence (A : Ad) : MS :=
  (mSeq (mSet 3 (mTup (mACons (mC (.str "word")) (mACons (mOp oIx (mVar 1) (mCall 2 (f_law_next A) (mACons (mVar 0) (mACons (mCB cLen (mACons (mVar 1) mANil)) mANil)))) mANil))))
    (mSeq (mFor (iRg1 (mVar 2)) (gSet 4) (mSeq (mSet 5 (mTup (mACons (mC (.str "word")) (mACons (mOp oIx (mVar 1) (mCall 2 (f_law_next A) (mACons (mVar 0) (mACons (mCB cLen (mACons (mVar 1) mANil)) mANil)))) mANil))))
    (mSeq (mSet 6 (mCall 2 (f_law_next A) (mACons (mVar 0) (mACons (mC (.int 5)) mANil))))
    (mIf (mOpB fEq (mVar 6) (mC (.int 0))) (mSet 3 (mTup (mACons (mC (.str "menu")) (mACons (mVar 3) (mACons (mVar 5) mANil))))) (mIf (mOpB fEq (mVar 6) (mC (.int 1))) (mSet 3 (mTup (mACons (mC (.str "menu")) (mACons (mVar 5) (mACons (mVar 3) mANil))))) (mIf (mOpB fEq (mVar 6) (mC (.int 2))) (mSet 3 (mTup (mACons (mC (.str "trade")) (mACons (mC (.str "once")) (mACons (mVar 5) (mACons (mVar 3) mANil)))))) (mIf (mOpB fEq (mVar 6) (mC (.int 3))) (mSet 3 (mTup (mACons (mC (.str "trade")) (mACons (mC (.str "once")) (mACons (mVar 3) (mACons (mVar 5) mANil)))))) (mSeq (mSet 3 (mTup (mACons (mC (.str "trade")) (mACons (mC (.str "once")) (mACons (mVar 3) (mACons (mVar 3) mANil))))))
    (mIf (mOpB fGt (mVar 2) (mC (.int 3))) (mSet 3 (mTup (mACons (mC (.str "trade")) (mACons (mC (.str "once")) (mACons (mVar 5) (mACons (mOp oIx (mVar 3) (mC (.int 3))) mANil)))))) mNext)))))))))
    (mRet (mVar 3))))
def f_law_sentence (A : Ad) : MFn := bodyM 7 (b_law_sentence A)
theorem sc_law_true : FnScope ["table", "facts", "sentence", "many", "found", "one", "two", "givers", "k", "v"] ["table", "facts", "sentence"] (defScope s_law_true) := ⟨rfl, rfl, rfl, by decide +kernel, rfl, by decide +kernel, by decide +kernel⟩
def b_law_true (A : Ad) (rec : MFn) : MS :=
  (mSeq (mSet 3 (mCB cLen (mACons (mVar 0) mANil)))
    (mSeq (mIf (mOpB fEq (mOp oIx (mVar 2) (mC (.int 0))) (mC (.str "word"))) (mSeq (mSet 4 (mDGet2 (mVar 1) (mOp oIx (mVar 2) (mC (.int 1))) (mLst mANil)))
    (mRet (mLc (iRg1 (mVar 3)) (gSet 8) mYes (mOp (oB fIn) (mVar 8) (mVar 4)) [8]))) mNext)
    (mSeq (mSet 5 (mCall 3 (rec) (mACons (mVar 0) (mACons (mVar 1) (mACons (mOp oIx (mVar 2) (mNeg (mC (.int 2)))) mANil)))))
    (mSeq (mSet 6 (mCall 3 (rec) (mACons (mVar 0) (mACons (mVar 1) (mACons (mOp oIx (mVar 2) (mNeg (mC (.int 1)))) mANil)))))
    (mSeq (mIf (mOpB fEq (mOp oIx (mVar 2) (mC (.int 0))) (mC (.str "menu"))) (mRet (mLc (iRg1 (mVar 3)) (gSet 8) mYes (mAndV (mOp oIx (mVar 5) (mVar 8)) (mOp oIx (mVar 6) (mVar 8))) [8])) mNext)
    (mSeq (mSet 7 (mLc (iRg1 (mVar 3)) (gSet 8) (mTru truM (mOp oIx (mVar 5) (mVar 8))) (mVar 8) [8]))
    (mRet (mLc (iRg1 (mVar 3)) (gSet 8) mYes (mOp (oB fEq) (mCB cLen (mACons (mLc (iSeq (mVar 7)) (gSet 9) (mNotT (mTru truM (mOp oIx (mVar 6) (mOp oIx (mOp oIx (mVar 0) (mVar 8)) (mVar 9))))) (mVar 9) [9]) mANil)) (mC (.int 0))) [8]))))))))
def f_law_true (A : Ad) : Nat → MFn
  | 0 => fun _ _ => .stuck
  | n + 1 => bodyM 10 (b_law_true A (f_law_true A n))
theorem sc_law_refused : FnScope ["table", "facts", "e"] ["table", "facts"] (defScope s_law_refused) := ⟨rfl, rfl, rfl, by decide +kernel, rfl, by decide +kernel, by decide +kernel⟩
def b_law_refused (A : Ad) : MS :=
  (mSeq (mTry (cat_BadWorld A) 2 (mMake A.World 3 (f_World_init A) (mACons (mVar 0) (mACons (mVar 1) mANil))) mDropE (fun a cls d => (mRet (mXf a cls d A.BadWorld "reason" 2))))
    (mRet (mC (.str ""))))
def f_law_refused (A : Ad) : MFn := bodyM 3 (b_law_refused A)
theorem sc_law_spoilt : FnScope ["pool", "form", "table", "facts", "many", "rows", "places", "word", "pick", "due", "before", "row", "k"] ["pool", "form", "table", "facts"] (defScope s_law_spoilt) := ⟨rfl, rfl, rfl, by decide +kernel, rfl, by decide +kernel, by decide +kernel⟩
def b_law_spoilt (A : Ad) : MS :=
  (mSeq (mSet 4 (mCB cLen (mACons (mVar 2) mANil)))
    (mSeq (mSet 5 (mLcC (iSeq (mVar 2)) (gSet 11) mYes (mCB cListC (mACons (mVar 11) mANil)) [11]))
    (mSeq (mSet 6 mDNewC)
    (mSeq (mForD 3 (gSet 7) (mDPut (mCB cList (mACons (mDGet (mVar 3) (mVar 7)) mANil)) (mVar 6) (mVar 7)))
    (mSeq (mSet 8 (mCall 2 (f_law_next A) (mACons (mVar 0) (mACons (mC (.int 7)) mANil))))
    (mSeq (mIf (mAndT (mOpB fEq (mVar 1) (mC (.int 2))) (mOpB fEq (mCall 2 (f_law_next A) (mACons (mVar 0) (mACons (mC (.int 2)) mANil))) (mC (.int 0)))) (mSet 8 (mC (.int 4))) mNext)
    (mSeq (mSet 9 (mC (.str "shape")))
    (mSeq (mIf (mOpB fEq (mVar 8) (mC (.int 0))) (mPutAt (mSl (mOp oIx (mVar 5) (mNeg (mC (.int 1)))) mONone (mOSome (mNeg (mC (.int 1))))) (mVar 5) (mNeg (mC (.int 1)))) (mIf (mOpB fEq (mVar 8) (mC (.int 1))) (mExpr (mApp (mVar 5) (mCB cList (mACons (mOp oIx (mVar 5) (mNeg (mC (.int 1)))) mANil)))) (mIf (mAndT (mOpB fEq (mVar 8) (mC (.int 2))) (mOpB fGt (mVar 4) (mC (.int 1)))) (mSeq (mPutAt (mCall 2 (f_law_next A) (mACons (mVar 0) (mACons (mOp oSub (mVar 4) (mC (.int 1))) mANil))) (mOp oIx (mVar 5) (mC (.int 0))) (mOp oSub (mVar 4) (mC (.int 1))))
    (mSet 9 (mC (.str "unit")))) (mIf (mAndT (mOpB fEq (mVar 8) (mC (.int 3))) (mOpB fGt (mVar 4) (mC (.int 2)))) (mSeq (mPutAt (mOp oMod (mCB cInt (mACons (mOp oAdd (mOp oIx (mOp oIx (mVar 5) (mOp oSub (mVar 4) (mC (.int 1)))) (mOp oSub (mVar 4) (mC (.int 2)))) (mC (.int 1))) mANil)) (mVar 4)) (mOp oIx (mVar 5) (mOp oSub (mVar 4) (mC (.int 1)))) (mOp oSub (mVar 4) (mC (.int 2))))
    (mSet 9 (mC (.str "order")))) (mIf (mAndT (mOpB fEq (mVar 8) (mC (.int 4))) (mAndT (mOpB fEq (mVar 1) (mC (.int 2))) (mOpB fGt (mVar 4) (mC (.int 4))))) (mSeq (mPutAt (mC (.int 1)) (mOp oIx (mVar 5) (mOp oSub (mVar 4) (mC (.int 1)))) (mOp oSub (mVar 4) (mC (.int 2))))
    (mSeq (mPutAt (mC (.int 1)) (mOp oIx (mVar 5) (mOp oSub (mVar 4) (mC (.int 2)))) (mOp oSub (mVar 4) (mC (.int 1))))
    (mSet 9 (mC (.str "grouping"))))) (mIf (mOpB fEq (mVar 8) (mC (.int 5))) (mSeq (mDPut (mLc (iRg1 (mOp oAdd (mVar 4) (mC (.int 1)))) (gSet 12) mYes (mVar 12) [12]) (mVar 6) (mC (.str "last9")))
    (mSet 9 (mC (.str "fact")))) (mPutAt (mVar 4) (mOp oIx (mVar 5) (mNeg (mC (.int 1)))) (mNeg (mC (.int 1))))))))))
    (mSeq (gFixD 2 5 (gFixD 1 6 (mSet 10 (mTup (mACons (mCB cRepr (mACons (mVar 5) mANil)) (mACons (mCB cRepr (mACons (mVar 6) mANil)) mANil))))))
    (mRet (mAndV (mOp (oB fEq) (mCall 2 (f_law_refused A) (mACons (mVar 5) (mACons (mVar 6) mANil))) (mVar 9)) (mOp (oB fEq) (mTup (mACons (mCB cRepr (mACons (mVar 5) mANil)) (mACons (mCB cRepr (mACons (mVar 6) mANil)) mANil))) (mVar 10)))))))))))))
def f_law_spoilt (A : Ad) : MFn := bodyM 13 (b_law_spoilt A)
theorem sc_law_picks : FnScope ["pool", "lists", "able", "count", "k"] ["pool", "lists"] (defScope s_law_picks) := ⟨rfl, rfl, rfl, by decide +kernel, rfl, by decide +kernel, by decide +kernel⟩
def b_law_picks (A : Ad) : MS :=
  (mSeq (mSet 2 (mLc (iRg1 (mCB cLen (mACons (mVar 1) mANil))) (gSet 4) (mOpB fIn (mC (.bl true)) (mOp oIx (mVar 1) (mVar 4))) (mVar 4) [4]))
    (mSeq (mIf (mOrT (mNotT (mTru truM (mVar 2))) (mOpB fEq (mCall 2 (f_law_next A) (mACons (mVar 0) (mACons (mC (.int 8)) mANil))) (mC (.int 0)))) (mSet 2 (mLc (iRg1 (mCB cLen (mACons (mVar 1) mANil))) (gSet 4) mYes (mVar 4) [4])) mNext)
    (mSeq (mSet 3 (mCall 2 (f_law_next A) (mACons (mVar 0) (mACons (mC (.int 4)) mANil))))
    (mSeq (mIf (mOpB fEq (mCall 2 (f_law_next A) (mACons (mVar 0) (mACons (mC (.int 2)) mANil))) (mC (.int 0))) (mSet 3 (mOp oAdd (mC (.int 12)) (mCall 2 (f_law_next A) (mACons (mVar 0) (mACons (mC (.int 13)) mANil))))) mNext)
    (mRet (mLc (iRg1 (mVar 3)) (gSet 4) mYes (mOp oIx (mVar 2) (mCall 2 (f_law_next A) (mACons (mVar 0) (mACons (mCB cLen (mACons (mVar 2) mANil)) mANil)))) [4]))))))
def f_law_picks (A : Ad) : MFn := bodyM 5 (b_law_picks A)
theorem sc_law_places : FnScope ["pool", "truths", "many", "places", "row", "able", "k"] ["pool", "truths", "many"] (defScope s_law_places) := ⟨rfl, rfl, rfl, by decide +kernel, rfl, by decide +kernel, by decide +kernel⟩
def b_law_places (A : Ad) : MS :=
  (mSeq (mSet 3 (mLstC mANil))
    (mSeq (mFor (iSeq (mVar 1)) (gSet 4) (mSeq (mSet 5 (mLc (iRg1 (mVar 2)) (gSet 6) (mTru truM (mOp oIx (mVar 4) (mVar 6))) (mVar 6) [6]))
    (mSeq (mIf (mNotT (mTru truM (mVar 5))) (mSet 5 (mLc (iRg1 (mVar 2)) (gSet 6) mYes (mVar 6) [6])) mNext)
    (mExpr (mApp (mVar 3) (mOp oIx (mVar 5) (mCall 2 (f_law_next A) (mACons (mVar 0) (mACons (mCB cLen (mACons (mVar 5) mANil)) mANil)))))))))
    (mSeq (mIf (mAndT (mTru truM (mVar 3)) (mOpB fEq (mCall 2 (f_law_next A) (mACons (mVar 0) (mACons (mC (.int 4)) mANil))) (mC (.int 0)))) (mPutAt (mCall 2 (f_law_next A) (mACons (mVar 0) (mACons (mVar 2) mANil))) (mVar 3) (mNeg (mC (.int 1)))) mNext)
    (gFixD 1 3 (mRet (mVar 3))))))
def f_law_places (A : Ad) : MFn := bodyM 7 (b_law_places A)
theorem sc_law_judged : FnScope ["pool", "world", "table", "facts", "sentences", "names", "many", "lists", "k", "at", "picks", "places", "total", "good", "goal", "claim", "given", "one"] ["pool", "world", "table", "facts", "sentences", "names"] (defScope s_law_judged) := ⟨rfl, rfl, rfl, by decide +kernel, rfl, by decide +kernel, by decide +kernel⟩
def b_law_judged (A : Ad) : MS :=
  (mSeq (mSet 6 (mCB cLen (mACons (mVar 2) mANil)))
    (mSeq (mSet 7 (mLc (iSeq (mVar 4)) (gSet 17) mYes (mCall 3 (f_law_true A 25) (mACons (mVar 2) (mACons (mVar 3) (mACons (mVar 17) mANil)))) [17]))
    (mSeq (mFor (iRg1 (mCB cLen (mACons (mVar 4) mANil))) (gSet 8) (mFor (iSeq (mLst (mACons (mC (.int 0)) (mACons (mOp oSub (mVar 6) (mC (.int 1))) (mACons (mCall 2 (f_law_next A) (mACons (mVar 0) (mACons (mVar 6) mANil))) mANil))))) (gSet 9) (mIf (mOpB fNe (mCB cRepr (mACons (mMeth A.World "has" 3 (f_World_has A) (mVar 1) (mACons (mVar 9) (mACons (mOp oIx (mVar 4) (mVar 8)) mANil))) mANil)) (mCB cRepr (mACons (mOp oIx (mOp oIx (mVar 7) (mVar 8)) (mVar 9)) mANil))) (mRet (mC (.bl false))) mNext)))
    (mSeq (mSet 10 (mCall 2 (f_law_picks A) (mACons (mVar 0) (mACons (mVar 7) mANil))))
    (mSeq (mSet 11 (mCall 3 (f_law_places A) (mACons (mVar 0) (mACons (mLc (iSeq (mVar 10)) (gSet 9) mYes (mOp oIx (mVar 7) (mVar 9)) [9]) (mACons (mVar 6) mANil)))))
    (mSeq (mSet 12 (mC (.int 0)))
    (mSeq (mSet 13 (mC (.bl true)))
    (mSeq (mFor (iRg1 (mCB cLen (mACons (mVar 10) mANil))) (gSet 8) (mSeq (mSet 12 (mOp oIx (mOp oIx (mVar 2) (mVar 12)) (mOp oIx (mVar 11) (mVar 8))))
    (mSet 13 (mAndV (mVar 13) (mOp oIx (mOp oIx (mVar 7) (mOp oIx (mVar 10) (mVar 8))) (mOp oIx (mVar 11) (mVar 8)))))))
    (mSeq (mSet 14 (mCall 2 (f_law_next A) (mACons (mVar 0) (mACons (mCB cLen (mACons (mVar 4) mANil)) mANil))))
    (mSeq (mSet 15 (mTup (mACons (mCB cTuple (mACons (mLc (iRg1 (mCB cLen (mACons (mVar 10) mANil))) (gSet 8) mYes (mTup (mACons (mOp oIx (mVar 5) (mVar 8)) (mACons (mC (.str "once")) (mACons (mOp oIx (mVar 4) (mOp oIx (mVar 10) (mVar 8))) mANil)))) [8]) mANil)) (mACons (mOp oIx (mVar 4) (mVar 14)) mANil))))
    (mSeq (mSet 16 (mCB cList (mACons (mVar 11) mANil)))
    (mRet (mAndV (mOp (oB fEq) (mCB cRepr (mACons (mMeth A.World "fails" 3 (f_World_fails A) (mVar 1) (mACons (mVar 15) (mACons (mVar 16) mANil))) mANil)) (mCB cRepr (mACons (mAndV (mVar 13) (mNotV (mOp oIx (mOp oIx (mVar 7) (mVar 14)) (mVar 12)))) mANil))) (mOp (oB fEq) (mVar 16) (mVar 11)))))))))))))))
def f_law_judged (A : Ad) : MFn := bodyM 18 (b_law_judged A)
theorem sc_law : FnScope ["script", "pool", "form", "many", "words", "names", "table", "facts", "world", "other", "k", "a", "b", "count", "depths", "sentences", "depth"] ["script"] (defScope s_law) := ⟨rfl, rfl, rfl, by decide +kernel, rfl, by decide +kernel, by decide +kernel⟩
def b_law (A : Ad) : MS :=
  (mSeq (mSet 1 (mCall 2 (f_law_pool A) (mACons (mVar 0) (mACons (mC (.int 0)) mANil))))
    (mSeq (mSet 2 (mCall 2 (f_law_next A) (mACons (mVar 1) (mACons (mC (.int 3)) mANil))))
    (mSeq (mSet 3 (mOp oAdd (mC (.int 1)) (mCall 2 (f_law_next A) (mACons (mVar 1) (mACons (mC (.int 6)) mANil)))))
    (mSeq (mIf (mOpB fEq (mCall 2 (f_law_next A) (mACons (mVar 1) (mACons (mC (.int 2)) mANil))) (mC (.int 0))) (mSet 3 (mOp oAdd (mC (.int 18)) (mCall 2 (f_law_next A) (mACons (mVar 1) (mACons (mC (.int 23)) mANil))))) mNext)
    (mSeq (mSet 4 (mCall 2 (f_law_names A) (mACons (mVar 1) (mACons (mOp oAdd (mC (.int 1)) (mCall 2 (f_law_next A) (mACons (mVar 1) (mACons (mC (.int 6)) mANil)))) mANil))))
    (mSeq (mSet 5 (mCall 2 (f_law_names A) (mACons (mVar 1) (mACons (mC (.int 24)) mANil))))
    (mSeq (mSet 6 (mCall 2 (f_law_table A) (mACons (mVar 2) (mACons (mVar 3) mANil))))
    (mSeq (mSet 7 (mCall 3 (f_law_facts A) (mACons (mVar 1) (mACons (mVar 3) (mACons (mVar 4) mANil)))))
    (mSeq (mSet 8 (mMake A.World 3 (f_World_init A) (mACons (mVar 6) (mACons (mVar 7) mANil))))
    (mSeq (mIf (mOpB fNe (mLenO A.World (f_World_len A) (mVar 8)) (mVar 3)) (mRet (mC (.bl false))) mNext)
    (mSeq (mSet 9 (mCall 2 (f_law_pool A) (mACons (mVar 0) (mACons (mC (.int 1)) mANil))))
    (mSeq (mFor (iRg1 (mC (.int 4))) (gSet 10) (mSeq (mSet 11 (mOp oIx (mLst (mACons (mOp oSub (mVar 3) (mC (.int 1))) (mACons (mCall 2 (f_law_next A) (mACons (mVar 9) (mACons (mVar 3) mANil))) mANil))) (mCall 2 (f_law_next A) (mACons (mVar 9) (mACons (mC (.int 2)) mANil)))))
    (mSeq (mSet 12 (mCall 2 (f_law_next A) (mACons (mVar 9) (mACons (mVar 3) mANil))))
    (mIf (mOrT (mOpB fNe (mMeth A.World "product" 3 (f_World_product A) (mVar 8) (mACons (mVar 11) (mACons (mVar 12) mANil))) (mOp oIx (mOp oIx (mVar 6) (mVar 11)) (mVar 12))) (mOpB fNe (mMeth A.World "product" 3 (f_World_product A) (mVar 8) (mACons (mVar 12) (mACons (mVar 11) mANil))) (mOp oIx (mOp oIx (mVar 6) (mVar 11)) (mVar 12)))) (mRet (mC (.bl false))) mNext))))
    (mSeq (mSet 13 (mOp oAdd (mC (.int 1)) (mCall 2 (f_law_next A) (mACons (mVar 9) (mACons (mC (.int 6)) mANil)))))
    (mSeq (mSet 14 (mLc (iRg1 (mVar 13)) (gSet 10) mYes (mCall 2 (f_law_next A) (mACons (mVar 9) (mACons (mOp oIx (mLst (mACons (mC (.int 3)) (mACons (mC (.int 21)) mANil))) (mCB cInt (mACons (mAndV (mOp (oB fEq) (mCall 2 (f_law_next A) (mACons (mVar 9) (mACons (mC (.int 6)) mANil))) (mC (.int 1))) (mOp (oB fLt) (mVar 3) (mC (.int 7)))) mANil))) mANil))) [10]))
    (mSeq (mSet 15 (mLc (iSeq (mVar 14)) (gSet 16) mYes (mCall 3 (f_law_sentence A) (mACons (mVar 9) (mACons (mVar 4) (mACons (mVar 16) mANil)))) [16]))
    (mRet (mAndV (mCall 4 (f_law_spoilt A) (mACons (mVar 9) (mACons (mVar 2) (mACons (mVar 6) (mACons (mVar 7) mANil))))) (mCall 6 (f_law_judged A) (mACons (mVar 9) (mACons (mVar 8) (mACons (mVar 6) (mACons (mVar 7) (mACons (mVar 15) (mACons (mVar 5) mANil))))))))))))))))))))))))
def f_law (A : Ad) : MFn := bodyM 17 (b_law A)
theorem sides_is {P : Program} {w : World} {K : PySem.W.Frag} {mg : Str → Option Value} {base : Heap} {A : Ad} (T : Top K mg A) : FnG P w K mg base 1 A.f_sides A.d_sides ["sentence"] (f_sides A) := by
  refine fnG_of (k := 0) T.F_sides sc_sides fun cdv A₀ outer s H E hg hr => ?_
  show PMSs _ _ _ (b_sides A)
  unfold b_sides
  exact (pmss_cons (pms_if (pmt_cmp (op_eqM (u64 hr)) so_eq (pm_ix (pm_var 0) pm_int) pm_str (nomark _)) (pmss_one (pms_ret (pm_lst pma_nil))) pmss_nil)
    (pmss_cons (pms_if (pmt_cmp (op_eqM (u64 hr)) so_eq (pm_ix (pm_var 0) pm_int) pm_str (nomark _)) (pmss_one (pms_ret (pm_lst (pma_cons (pm_ix (pm_var 0) pm_int) (pma_cons (pm_ix (pm_var 0) pm_int) pma_nil))))) pmss_nil)
    (pmss_one (pms_ret (pm_lst (pma_cons (pm_ix (pm_var 0) pm_int) (pma_cons (pm_ix (pm_var 0) pm_int) pma_nil)))))))
theorem is_all_once_is {P : Program} {w : World} {K : PySem.W.Frag} {mg : Str → Option Value} {base : Heap} {A : Ad} (T : Top K mg A) : ∀ n, FnG P w K mg base (2 + n) A.f_is_all_once A.d_is_all_once ["sentence"] (f_is_all_once A n)
  | 0 => fnG_stuck
  | n + 1 => by
    have ih := is_all_once_is (P := P) (w := w) (base := base) T n
    refine fnG_of (k := 2 + n) T.F_is_all_once sc_is_all_once fun cdv A₀ outer s H E hg hr => ?_
    show PMSs _ _ _ (b_is_all_once A (f_is_all_once A n))
    unfold b_is_all_once
    exact (pmss_cons (pms_if (pmt_w (pmw_and (pmt_cmp (op_eqM (u64 hr)) so_eq (pm_ix (pm_var 0) pm_int) pm_str (nomark _)) (pmw_and1 (pmt_cmp (op_neM (u64 hr)) so_ne (pm_ix (pm_var 0) pm_int) pm_str (nomark _))))) (pmss_one (pms_ret pm_bl)) pmss_nil)
    (pmss_cons (pms_for (passes_of rfl) rfl (pmi_seq (px_call (sides_is T) hg (hr.mono (by first | decide | omega)) T.m_sides T.F_sides.kp T.b_sides (takes_of rfl rfl rfl rfl) (pma_cons (pm_var 0) pma_nil))) (pmg_name 1 sc_is_all_once.nd) (pmss_one (pms_if (pmt_not (pmt_tru (px_call ih hg hr T.m_is_all_once T.F_is_all_once.kp T.b_is_all_once (takes_of rfl rfl rfl rfl) (pma_cons (pm_var 1) pma_nil)))) (pmss_one (pms_ret pm_bl)) pmss_nil)))
    (pmss_one (pms_ret pm_bl))))
theorem is_claim_once_is {P : Program} {w : World} {K : PySem.W.Frag} {mg : Str → Option Value} {base : Heap} {A : Ad} (T : Top K mg A) : FnG P w K mg base 28 A.f_is_claim_once A.d_is_claim_once ["claim"] (f_is_claim_once A) := by
  refine fnG_of (k := 27) T.F_is_claim_once sc_is_claim_once fun cdv A₀ outer s H E hg hr => ?_
  show PMSs _ _ _ (b_is_claim_once A)
  unfold b_is_claim_once
  exact (pmss_cons (pms_for (passes_of rfl) rfl (pmi_tup (pm_ix (pm_var 0) pm_int)) (pmg_name 1 sc_is_claim_once.nd) (pmss_one (pms_if (pmt_w (pmw_or (pmt_cmp (op_neM (u64 hr)) so_ne (pm_ix (pm_var 1) pm_int) pm_str (nomark _)) (pmw_or1 (pmt_not (pmt_tru (px_call (is_all_once_is T 25) hg (hr.mono (by decide)) T.m_is_all_once T.F_is_all_once.kp T.b_is_all_once (takes_of rfl rfl rfl rfl) (pma_cons (pm_ix (pm_var 1) pm_int) pma_nil))))))) (pmss_one (pms_ret pm_bl)) pmss_nil)))
    (pmss_one (pms_ret (px_call (is_all_once_is T 25) hg (hr.mono (by decide)) T.m_is_all_once T.F_is_all_once.kp T.b_is_all_once (takes_of rfl rfl rfl rfl) (pma_cons (pm_ix (pm_var 0) pm_int) pma_nil)))))
theorem has_shape_is {P : Program} {w : World} {K : PySem.W.Frag} {mg : Str → Option Value} {base : Heap} {A : Ad} (T : Top K mg A) : FnG P w K mg base 1 A.f_has_shape A.d_has_shape ["products"] (f_has_shape A) := by
  refine fnG_of (k := 0) T.F_has_shape sc_has_shape fun cdv A₀ outer s H E hg hr => ?_
  show PMSs _ _ _ (b_has_shape A)
  unfold b_has_shape
  exact (pmss_cons (pms_set 1 sc_has_shape.nd (pm_callB call_len sc_len T.z_len PyProof.Rows.Boot.«len» (pma_cons (pm_var 0) pma_nil)))
    (pmss_cons (pms_for (passes_of rfl) rfl (pmi_seq (pm_var 0)) (pmg_name 2 sc_has_shape.nd) (pmss_cons (pms_if (pmt_cmp (op_neM (u64 hr)) so_ne (pm_callB call_len sc_len T.z_len PyProof.Rows.Boot.«len» (pma_cons (pm_var 2) pma_nil)) (pm_var 1) (nomark _)) (pmss_one (pms_ret pm_bl)) pmss_nil)
    (pmss_one (pms_for (passes_of rfl) rfl (pmi_seq (pm_var 2)) (pmg_name 3 sc_has_shape.nd) (pmss_one (pms_if (pmt_not (pmt_chain op_le so_cmp op_lt so_cmp pm_int (pm_var 3) (pm_var 1))) (pmss_one (pms_ret pm_bl)) pmss_nil))))))
    (pmss_one (pms_ret (pm_cmp op_gt so_cmp (pm_var 1) pm_int (nomark _))))))
theorem keeps_order_is {P : Program} {w : World} {K : PySem.W.Frag} {mg : Str → Option Value} {base : Heap} {A : Ad} (T : Top K mg A) : FnG P w K mg base 1 A.f_keeps_order A.d_keeps_order ["products"] (f_keeps_order A) := by
  refine fnG_of (k := 0) T.F_keeps_order sc_keeps_order fun cdv A₀ outer s H E hg hr => ?_
  show PMSs _ _ _ (b_keeps_order A)
  unfold b_keeps_order
  exact (pmss_cons (pms_for (passes_of rfl) rfl (pmi_range T.z_range (pm_callB call_len sc_len T.z_len PyProof.Rows.Boot.«len» (pma_cons (pm_var 0) pma_nil))) (pmg_name 1 sc_keeps_order.nd) (pmss_one (pms_for (passes_of rfl) rfl (pmi_range T.z_range (pm_var 1)) (pmg_name 2 sc_keeps_order.nd) (pmss_one (pms_if (pmt_cmp (op_neM (u64 hr)) so_ne (pm_ix (pm_ix (pm_var 0) (pm_var 1)) (pm_var 2)) (pm_ix (pm_ix (pm_var 0) (pm_var 2)) (pm_var 1)) (nomark _)) (pmss_one (pms_ret pm_bl)) pmss_nil)))))
    (pmss_one (pms_ret pm_bl)))
theorem keeps_grouping_is {P : Program} {w : World} {K : PySem.W.Frag} {mg : Str → Option Value} {base : Heap} {A : Ad} (T : Top K mg A) : FnG P w K mg base 1 A.f_keeps_grouping A.d_keeps_grouping ["products"] (f_keeps_grouping A) := by
  refine fnG_of (k := 0) T.F_keeps_grouping sc_keeps_grouping fun cdv A₀ outer s H E hg hr => ?_
  show PMSs _ _ _ (b_keeps_grouping A)
  unfold b_keeps_grouping
  exact (pmss_cons (pms_for (passes_of rfl) rfl (pmi_seq (pm_var 0)) (pmg_name 1 sc_keeps_grouping.nd) (pmss_one (pms_for (passes_of rfl) rfl (pmi_range T.z_range (pm_callB call_len sc_len T.z_len PyProof.Rows.Boot.«len» (pma_cons (pm_var 0) pma_nil))) (pmg_name 2 sc_keeps_grouping.nd) (pmss_one (pms_if (pmt_cmp (op_neM (u64 hr)) so_ne (pm_ix (pm_var 0) (pm_ix (pm_var 1) (pm_var 2))) (pm_lc rfl sc_keeps_grouping.nd (pmi_seq (pm_ix (pm_var 0) (pm_var 2))) (own := [("item", 3)]) (j := 3) (blkOk_by (by rfl)) (by decide) (fun s H C cl fp => (pg_name (hN := sc_keeps_grouping.nd) (hi := rfl) (hx := by first | exact .inl rfl | exact .inr rfl))) (fun s H C cl fp => pmts_nil) (fun s H C cl fp => (pm_ix (pm_var 1) (pm_var 3)))) (nomark _)) (pmss_one (pms_ret pm_bl)) pmss_nil)))))
    (pmss_one (pms_ret pm_bl)))
theorem fault_of_is {P : Program} {w : World} {K : PySem.W.Frag} {mg : Str → Option Value} {base : Heap} {A : Ad} (T : Top K mg A) : FnG P w K mg base 2 A.f_fault_of A.d_fault_of ["products", "facts"] (f_fault_of A) := by
  refine fnG_of (k := 1) T.F_fault_of sc_fault_of fun cdv A₀ outer s H E hg hr => ?_
  show PMSs _ _ _ (b_fault_of A)
  unfold b_fault_of
  exact (pmss_cons (pms_if (pmt_not (pmt_tru (px_call (has_shape_is T) hg (hr.mono (by decide)) T.m_has_shape T.F_has_shape.kp T.b_has_shape (takes_of rfl rfl rfl rfl) (pma_cons (pm_var 0) pma_nil)))) (pmss_one (pms_ret pm_str)) pmss_nil)
    (pmss_cons (pms_if (pmt_cmp (op_neM (u64 hr)) so_ne (pm_ix (pm_var 0) pm_int) (pm_listRg rfl T.z_list T.z_range (pm_callB call_len sc_len T.z_len PyProof.Rows.Boot.«len» (pma_cons (pm_var 0) pma_nil))) (nomark _)) (pmss_one (pms_ret pm_str)) pmss_nil)
    (pmss_cons (pms_if (pmt_not (pmt_tru (px_call (keeps_order_is T) hg (hr.mono (by decide)) T.m_keeps_order T.F_keeps_order.kp T.b_keeps_order (takes_of rfl rfl rfl rfl) (pma_cons (pm_var 0) pma_nil)))) (pmss_one (pms_ret pm_str)) pmss_nil)
    (pmss_cons (pms_if (pmt_not (pmt_tru (px_call (keeps_grouping_is T) hg (hr.mono (by decide)) T.m_keeps_grouping T.F_keeps_grouping.kp T.b_keeps_grouping (takes_of rfl rfl rfl rfl) (pma_cons (pm_var 0) pma_nil)))) (pmss_one (pms_ret pm_str)) pmss_nil)
    (pmss_cons (pms_forD 1 (passes_of rfl) rfl (pmg_name 2 sc_fault_of.nd) (pmss_one (pms_for (passes_of rfl) rfl (pmi_seq (pm_dget (u1 hr) (pm_var 1) (pm_var 2))) (pmg_name 3 sc_fault_of.nd) (pmss_one (pms_if (pmt_not (pmt_chain op_le so_cmp op_lt so_cmp pm_int (pm_var 3) (pm_callB call_len sc_len T.z_len PyProof.Rows.Boot.«len» (pma_cons (pm_var 0) pma_nil)))) (pmss_one (pms_ret pm_str)) pmss_nil)))) rfl (by first | exact .inl rfl | exact .inr (.inl rfl)))
    (pmss_one (pms_ret pm_non)))))))
theorem is_true_for_is {P : Program} {w : World} {K : PySem.W.Frag} {mg : Str → Option Value} {base : Heap} {A : Ad} (T : Top K mg A) : FnG P w K mg base 1 A.f_is_true_for A.d_is_true_for ["truths", "row", "givers"] (f_is_true_for A) := by
  refine fnG_of (k := 0) T.F_is_true_for sc_is_true_for fun cdv A₀ outer s H E hg hr => ?_
  show PMSs _ _ _ (b_is_true_for A)
  unfold b_is_true_for
  exact (pmss_cons (pms_for (passes_of rfl) rfl (pmi_seq (pm_var 2)) (pmg_name 3 sc_is_true_for.nd) (pmss_one (pms_if (pmt_not (pmt_tru (pm_ix (pm_var 0) (pm_ix (pm_var 1) (pm_var 3))))) (pmss_one (pms_ret pm_bl)) pmss_nil)))
    (pmss_one (pms_ret pm_bl)))
theorem World_init_is {P : Program} {w : World} {K : PySem.W.Frag} {mg : Str → Option Value} {base : Heap} {A : Ad} (T : Top K mg A) : FnG P w K mg base 4 A.f_World_init A.d_World_init ["self", "products", "facts"] (f_World_init A) := by
  refine fnG_of (k := 3) T.F_World_init sc_World_init fun cdv A₀ outer s H E hg hr => ?_
  show PMSs _ _ _ (b_World_init A)
  unfold b_World_init
  exact (pmss_cons (pms_setLc (i := 3) rfl sc_World_init.nd rfl rfl rfl (pmi_seq (pm_var 1)) (own := [("row", 6)]) (j := 6) (blkOk_by (by rfl)) (by decide) (fun s H C cl fp => (pg_name (hN := sc_World_init.nd) (hi := rfl) (hx := by first | exact .inl rfl | exact .inr rfl))) (fun s H C cl fp => pmts_nil) (fun s H C cl fp => (pm_callTy call_list_of sc_list T.z_list PyProof.Rows.Boot.«list» (pma_cons (pm_var 6) pma_nil))))
    (pmss_cons (pms_setDcD (i := 4) (j := 7) (l := 2) (own := [("name", 7)]) rfl sc_World_init.nd rfl rfl rfl rfl (by first | exact .inl rfl | exact .inr (.inl rfl)) (blkOk_by (by rfl)) (by decide) (fun s H C cl fp => (pg_name (hN := sc_World_init.nd) (hi := rfl) (hx := by first | exact .inl rfl | exact .inr rfl))) (fun s H C cl fp => pmts_nil) (fun s H C cl fp => (pm_var 7)) (fun s H C cl fp => (pm_callTy call_list_of sc_list T.z_list PyProof.Rows.Boot.«list» (pma_cons (pm_dget (u1 hr) (pm_var 2) (pm_var 7)) pma_nil))))
    (pmss_cons (pms_set 5 sc_World_init.nd (px_call (fault_of_is T) hg (hr.mono (by decide)) T.m_fault_of T.F_fault_of.kp T.b_fault_of (takes_of rfl rfl rfl rfl) (pma_cons (pm_var 3) (pma_cons (pm_var 4) pma_nil))))
    (pmss_cons (pms_if (pmt_cmp op_notN so_notN (pm_var 5) pm_non (nomark _)) (pmss_one (pms_raiseO (k := 1) rfl (takes_of rfl rfl rfl rfl) T.t_BadWorld T.i_BadWorld T.ti_BadWorld (BadWorld_init_ok T) (hr.mono (by decide)) T.b_BadWorld_init T.m_BadWorld (pma_cons (pm_var 5) pma_nil))) pmss_nil)
    (pmss_cons (pms_setFld T.c_World T.n_World__products (pm_var 3) (pm_var 0))
    (pmss_one (pms_setFld T.c_World T.n_World__facts (pm_var 4) (pm_var 0))))))))
theorem World_len_is {P : Program} {w : World} {K : PySem.W.Frag} {mg : Str → Option Value} {base : Heap} {A : Ad} (T : Top K mg A) : FnG P w K mg base 1 A.f_World_len A.d_World_len ["self"] (f_World_len A) := by
  refine fnG_of (k := 0) T.F_World_len sc_World_len fun cdv A₀ outer s H E hg hr => ?_
  show PMSs _ _ _ (b_World_len A)
  unfold b_World_len
  exact (pmss_one (pms_ret (pm_callB call_len sc_len T.z_len PyProof.Rows.Boot.«len» (pma_cons (pm_fld T.c_World T.n_World__products (pm_var 0)) pma_nil))))
theorem World_product_is {P : Program} {w : World} {K : PySem.W.Frag} {mg : Str → Option Value} {base : Heap} {A : Ad} (T : Top K mg A) : FnG P w K mg base 1 A.f_World_product A.d_World_product ["self", "a", "b"] (f_World_product A) := by
  refine fnG_of (k := 0) T.F_World_product sc_World_product fun cdv A₀ outer s H E hg hr => ?_
  show PMSs _ _ _ (b_World_product A)
  unfold b_World_product
  exact (pmss_one (pms_ret (pm_ix (pm_ix (pm_fld T.c_World T.n_World__products (pm_var 0)) (pm_var 1)) (pm_var 2))))
theorem World__truths_is {P : Program} {w : World} {K : PySem.W.Frag} {mg : Str → Option Value} {base : Heap} {A : Ad} (T : Top K mg A) : ∀ n, FnG P w K mg base (2 + n) A.f_World__truths A.d_World__truths ["self", "sentence"] (f_World__truths A n)
  | 0 => fnG_stuck
  | n + 1 => by
    have ih := World__truths_is (P := P) (w := w) (base := base) T n
    refine fnG_of (k := 2 + n) T.F_World__truths sc_World__truths fun cdv A₀ outer s H E hg hr => ?_
    show PMSs _ _ _ (b_World__truths A (f_World__truths A n))
    unfold b_World__truths
    exact (pmss_cons (pms_if (pmt_cmp (op_eqM (u64 hr)) so_eq (pm_ix (pm_var 1) pm_int) pm_str (nomark _)) (pmss_cons (pms_set 2 sc_World__truths.nd (pm_dget2 (u1 hr) (pm_fld T.c_World T.n_World__facts (pm_var 0)) (pm_ix (pm_var 1) pm_int) (pm_lst pma_nil) ⟨rfl, rfl, rfl, rfl⟩))
    (pmss_one (pms_ret (pm_lc rfl sc_World__truths.nd (pmi_range T.z_range (pm_callB call_len sc_len T.z_len PyProof.Rows.Boot.«len» (pma_cons (pm_fld T.c_World T.n_World__products (pm_var 0)) pma_nil))) (own := [("element", 6)]) (j := 6) (blkOk_by (by rfl)) (by first | decide | omega) (fun s H C cl fp => (pg_name (hN := sc_World__truths.nd) (hi := rfl) (hx := by first | exact .inl rfl | exact .inr rfl))) (fun s H C cl fp => pmts_nil) (fun s H C cl fp => (pm_cmp op_inM so_in (pm_var 6) (pm_var 2) (by with_unfolding_all rfl))))))) pmss_nil)
    (pmss_cons (pms_set 3 sc_World__truths.nd (px_meth (pm_var 0) T.c_World T.h_World__truths ih hg hr T.b_World__truths (takes_of rfl rfl rfl rfl) (pma_cons (pm_ix (pm_var 1) (pm_op op_sub so_sub (pm_callB call_len sc_len T.z_len PyProof.Rows.Boot.«len» (pma_cons (pm_var 1) pma_nil)) pm_int)) pma_nil)))
    (pmss_cons (pms_set 4 sc_World__truths.nd (px_meth (pm_var 0) T.c_World T.h_World__truths ih hg hr T.b_World__truths (takes_of rfl rfl rfl rfl) (pma_cons (pm_ix (pm_var 1) (pm_op op_sub so_sub (pm_callB call_len sc_len T.z_len PyProof.Rows.Boot.«len» (pma_cons (pm_var 1) pma_nil)) pm_int)) pma_nil)))
    (pmss_cons (pms_if (pmt_cmp (op_eqM (u64 hr)) so_eq (pm_ix (pm_var 1) pm_int) pm_str (nomark _)) (pmss_one (pms_ret (pm_lc rfl sc_World__truths.nd (pmi_range T.z_range (pm_callB call_len sc_len T.z_len PyProof.Rows.Boot.«len» (pma_cons (pm_var 3) pma_nil))) (own := [("element", 6)]) (j := 6) (blkOk_by (by rfl)) (by first | decide | omega) (fun s H C cl fp => (pg_name (hN := sc_World__truths.nd) (hi := rfl) (hx := by first | exact .inl rfl | exact .inr rfl))) (fun s H C cl fp => pmts_nil) (fun s H C cl fp => (pm_and (pm_ix (pm_var 3) (pm_var 6)) (pm_one (pm_ix (pm_var 4) (pm_var 6)))))))) pmss_nil)
    (pmss_cons (pms_set 5 sc_World__truths.nd (pm_lc rfl sc_World__truths.nd (pmi_range T.z_range (pm_callB call_len sc_len T.z_len PyProof.Rows.Boot.«len» (pma_cons (pm_var 3) pma_nil))) (own := [("element", 6)]) (j := 6) (blkOk_by (by rfl)) (by first | decide | omega) (fun s H C cl fp => (pg_name (hN := sc_World__truths.nd) (hi := rfl) (hx := by first | exact .inl rfl | exact .inr rfl))) (fun s H C cl fp => (pmts_one (pmt_tru (pm_ix (pm_var 3) (pm_var 6))))) (fun s H C cl fp => (pm_var 6))))
    (pmss_one (pms_ret (pm_lc rfl sc_World__truths.nd (pmi_seq (pm_fld T.c_World T.n_World__products (pm_var 0))) (own := [("row", 7)]) (j := 7) (blkOk_by (by rfl)) (by first | decide | omega) (fun s H C cl fp => (pg_name (hN := sc_World__truths.nd) (hi := rfl) (hx := by first | exact .inl rfl | exact .inr rfl))) (fun s H C cl fp => pmts_nil) (fun s H C cl fp => (px_call (is_true_for_is T) hg (hr.mono (by first | decide | omega)) T.m_is_true_for T.F_is_true_for.kp T.b_is_true_for takes0 (pma_cons (pm_var 4) (pma_cons (pm_var 7) (pma_cons (pm_var 5) pma_nil)))))))))))))
theorem World_has_is {P : Program} {w : World} {K : PySem.W.Frag} {mg : Str → Option Value} {base : Heap} {A : Ad} (T : Top K mg A) : FnG P w K mg base 28 A.f_World_has A.d_World_has ["self", "element", "sentence"] (f_World_has A) := by
  refine fnG_of (k := 27) T.F_World_has sc_World_has fun cdv A₀ outer s H E hg hr => ?_
  show PMSs _ _ _ (b_World_has A)
  unfold b_World_has
  exact (pmss_cons (pms_if (pmt_not (pmt_tru (px_call (is_all_once_is T 25) hg (hr.mono (by decide)) T.m_is_all_once T.F_is_all_once.kp T.b_is_all_once (takes_of rfl rfl rfl rfl) (pma_cons (pm_var 2) pma_nil)))) (pmss_one pms_never) pmss_nil)
    (pmss_one (pms_ret (pm_ix (px_meth (pm_var 0) T.c_World T.h_World__truths (World__truths_is T 25) hg (hr.mono (by decide)) T.b_World__truths (takes_of rfl rfl rfl rfl) (pma_cons (pm_var 2) pma_nil)) (pm_var 1)))))
theorem World_fails_is {P : Program} {w : World} {K : PySem.W.Frag} {mg : Str → Option Value} {base : Heap} {A : Ad} (T : Top K mg A) : FnG P w K mg base 29 A.f_World_fails A.d_World_fails ["self", "claim", "places"] (f_World_fails A) := by
  refine fnG_of (k := 28) T.F_World_fails sc_World_fails fun cdv A₀ outer s H E hg hr => ?_
  show PMSs _ _ _ (b_World_fails A)
  unfold b_World_fails
  exact (pmss_cons (pms_if (pmt_not (pmt_tru (px_call (is_claim_once_is T) hg (hr.mono (by decide)) T.m_is_claim_once T.F_is_claim_once.kp T.b_is_claim_once (takes_of rfl rfl rfl rfl) (pma_cons (pm_var 1) pma_nil)))) (pmss_one pms_never) pmss_nil)
    (pmss_cons (pms_asg (pm_var 1) (pmg_tup rfl (pmgs_cons (pmg_name 3 sc_World_fails.nd) (pmgs_cons (pmg_name 4 sc_World_fails.nd) pmgs_nil))))
    (pmss_cons (pms_set 5 sc_World_fails.nd pm_int)
    (pmss_cons (pms_for (passes_of rfl) rfl (pmi_range T.z_range (pm_callB call_len sc_len T.z_len PyProof.Rows.Boot.«len» (pma_cons (pm_var 3) pma_nil))) (pmg_name 6 sc_World_fails.nd) (pmss_cons (pms_if (pmt_not (pmt_tru (pm_ix (px_meth (pm_var 0) T.c_World T.h_World__truths (World__truths_is T 25) hg (hr.mono (by decide)) T.b_World__truths (takes_of rfl rfl rfl rfl) (pma_cons (pm_ix (pm_ix (pm_var 3) (pm_var 6)) pm_int) pma_nil)) (pm_ix (pm_var 2) (pm_var 6))))) (pmss_one (pms_ret pm_bl)) pmss_nil)
    (pmss_one (pms_set 5 sc_World_fails.nd (pm_ix (pm_ix (pm_fld T.c_World T.n_World__products (pm_var 0)) (pm_var 5)) (pm_ix (pm_var 2) (pm_var 6)))))))
    (pmss_one (pms_ret (pm_not (pm_ix (px_meth (pm_var 0) T.c_World T.h_World__truths (World__truths_is T 25) hg (hr.mono (by decide)) T.b_World__truths (takes_of rfl rfl rfl rfl) (pma_cons (pm_var 4) pma_nil)) (pm_var 5)))))))))
theorem law_cell_is {P : Program} {w : World} {K : PySem.W.Frag} {mg : Str → Option Value} {base : Heap} {A : Ad} (T : Top K mg A) : FnG P w K mg base 1 A.f_law_cell A.d_law_cell ["script", "k"] (f_law_cell A) := by
  refine fnG_of (k := 0) T.F_law_cell sc_law_cell fun cdv A₀ outer s H E hg hr => ?_
  show PMSs _ _ _ (b_law_cell A)
  unfold b_law_cell
  exact (pmss_cons (pms_if (pmt_cmp op_lt so_cmp (pm_var 1) (pm_callB call_len sc_len T.z_len PyProof.Rows.Boot.«len» (pma_cons (pm_var 0) pma_nil)) (nomark _)) (pmss_one (pms_ret (pm_callB call_abs sc_abs T.z_abs PyProof.Rows.Boot.«abs» (pma_cons (pm_ix (pm_var 0) (pm_var 1)) pma_nil)))) pmss_nil)
    (pmss_one (pms_ret pm_int)))
theorem law_pool_is {P : Program} {w : World} {K : PySem.W.Frag} {mg : Str → Option Value} {base : Heap} {A : Ad} (T : Top K mg A) : FnG P w K mg base 2 A.f_law_pool A.d_law_pool ["script", "k"] (f_law_pool A) := by
  refine fnG_of (k := 1) T.F_law_pool sc_law_pool fun cdv A₀ outer s H E hg hr => ?_
  show PMSs _ _ _ (b_law_pool A)
  unfold b_law_pool
  exact (pmss_cons (pms_set 2 sc_law_pool.nd (px_call (law_cell_is T) hg (hr.mono (by decide)) T.m_law_cell T.F_law_cell.kp T.b_law_cell (takes_of rfl rfl rfl rfl) (pma_cons (pm_var 0) (pma_cons (pm_var 1) pma_nil))))
    (pmss_cons (pms_if (pmt_cmp op_ge so_cmp (pm_var 2) (pm_op op_pow so_pow pm_int pm_int) (nomark _)) (pmss_one (pms_ret (pm_lstC (pma_cons (pm_var 2) (pma_cons pm_int (pma_cons (pm_op op_mod so_mod (pm_callTy call_int1 sc_int T.z_int PyProof.Rows.Boot.«int» (pma_cons (pm_var 2) pma_nil)) pm_int) pma_nil)))))) pmss_nil)
    (pmss_one (pms_ret (pm_lstC (pma_cons pm_int (pma_cons pm_int (pma_cons (pm_var 2) pma_nil))))))))
theorem law_next_is {P : Program} {w : World} {K : PySem.W.Frag} {mg : Str → Option Value} {base : Heap} {A : Ad} (T : Top K mg A) : FnG P w K mg base 1 A.f_law_next A.d_law_next ["pool", "many"] (f_law_next A) := by
  refine fnG_of (k := 0) T.F_law_next sc_law_next fun cdv A₀ outer s H E hg hr => ?_
  show PMSs _ _ _ (b_law_next A)
  unfold b_law_next
  exact (pmss_cons (pms_if (pmt_cmp op_gt so_cmp (pm_ix (pm_var 0) pm_int) pm_int (nomark _)) (pmss_cons (pms_set 2 sc_law_next.nd (pm_op op_mod so_mod (pm_callTy call_int1 sc_int T.z_int PyProof.Rows.Boot.«int» (pma_cons (pm_ix (pm_var 0) pm_int) pma_nil)) (pm_var 1)))
    (pmss_cons (pms_putAt (pm_op op_fdiv so_div (pm_ix (pm_var 0) pm_int) (pm_var 1)) (pm_var 0) pm_int)
    (pmss_one (pms_ret (pm_var 2))))) pmss_nil)
    (pmss_cons (pms_putAt (pm_op op_plus so_add (pm_ix (pm_var 0) pm_int) pm_int) (pm_var 0) pm_int)
    (pmss_cons (pms_set 3 sc_law_next.nd (pm_op op_mod so_mod (pm_callTy call_int1 sc_int T.z_int PyProof.Rows.Boot.«int» (pma_cons (pm_op op_plus so_add (pm_op op_plus so_add (pm_ix (pm_var 0) pm_int) (pm_op (OpR.or op_mul op_mulW) so_mul pm_int (pm_ix (pm_var 0) pm_int))) pm_int) pma_nil)) pm_int))
    (pmss_cons (pms_set 3 sc_law_next.nd (pm_op op_mod so_mod (pm_callTy call_int1 sc_int T.z_int PyProof.Rows.Boot.«int» (pma_cons (pm_op (OpR.or op_mul op_mulW) so_mul (pm_var 3) (pm_op op_plus so_add (pm_var 3) pm_int)) pma_nil)) pm_int))
    (pmss_cons (pms_set 3 sc_law_next.nd (pm_op op_mod so_mod (pm_callTy call_int1 sc_int T.z_int PyProof.Rows.Boot.«int» (pma_cons (pm_op op_plus so_add (pm_op (OpR.or op_mul op_mulW) so_mul (pm_var 3) (pm_op op_plus so_add (pm_var 3) pm_int)) (pm_op (OpR.or op_mul op_mulW) so_mul pm_int (pm_ix (pm_var 0) pm_int))) pma_nil)) pm_int))
    (pmss_one (pms_ret (pm_op op_mod so_mod (pm_callTy call_int1 sc_int T.z_int PyProof.Rows.Boot.«int» (pma_cons (pm_op op_fdiv so_div (pm_var 3) pm_int) pma_nil)) (pm_var 1)))))))))
theorem law_names_is {P : Program} {w : World} {K : PySem.W.Frag} {mg : Str → Option Value} {base : Heap} {A : Ad} (T : Top K mg A) : FnG P w K mg base 2 A.f_law_names A.d_law_names ["pool", "many"] (f_law_names A) := by
  refine fnG_of (k := 1) T.F_law_names sc_law_names fun cdv A₀ outer s H E hg hr => ?_
  show PMSs _ _ _ (b_law_names A)
  unfold b_law_names
  exact (pmss_cons (pms_set 2 sc_law_names.nd (pm_lstC pma_nil))
    (pmss_cons (pms_for (passes_of rfl) rfl (pmi_range T.z_range (pm_var 1)) (pmg_name 3 sc_law_names.nd) (pmss_cons (pms_set 4 sc_law_names.nd (pm_ix pm_str (px_call (law_next_is T) hg (hr.mono (by decide)) T.m_law_next T.F_law_next.kp T.b_law_next (takes_of rfl rfl rfl rfl) (pma_cons (pm_var 0) (pma_cons pm_int pma_nil)))))
    (pmss_cons (pms_for (passes_of rfl) rfl (pmi_range T.z_range (px_call (law_next_is T) hg (hr.mono (by decide)) T.m_law_next T.F_law_next.kp T.b_law_next (takes_of rfl rfl rfl rfl) (pma_cons (pm_var 0) (pma_cons pm_int pma_nil)))) (pmg_name 5 sc_law_names.nd) (pmss_one (pms_set 4 sc_law_names.nd (pm_op op_plus so_add (pm_var 4) (pm_ix pm_str (px_call (law_next_is T) hg (hr.mono (by decide)) T.m_law_next T.F_law_next.kp T.b_law_next (takes_of rfl rfl rfl rfl) (pma_cons (pm_var 0) (pma_cons pm_int pma_nil))))))))
    (pmss_cons (pms_for (passes_of rfl) rfl (pmi_range T.z_range (pm_op op_plus so_add (pm_var 1) pm_int)) (pmg_name 5 sc_law_names.nd) (pmss_one (pms_if (pmt_cmp op_inM so_in (pm_var 4) (pm_var 2) (by with_unfolding_all rfl)) (pmss_one (pms_set 4 sc_law_names.nd (pm_op op_plus so_add pm_str (pm_callTy call_str_int sc_str T.z_str PyProof.Rows.Boot.«str» (pma_cons (pm_var 5) pma_nil))))) pmss_nil)))
    (pmss_one (pms_expr (pm_app (pm_var 2) (pm_var 4))))))))
    (pmss_one (pms_gFixD 1 2 (pms_ret (pm_var 2))))))
theorem law_product_is {P : Program} {w : World} {K : PySem.W.Frag} {mg : Str → Option Value} {base : Heap} {A : Ad} (T : Top K mg A) : FnG P w K mg base 1 A.f_law_product A.d_law_product ["form", "many", "a", "b"] (f_law_product A) := by
  refine fnG_of (k := 0) T.F_law_product sc_law_product fun cdv A₀ outer s H E hg hr => ?_
  show PMSs _ _ _ (b_law_product A)
  unfold b_law_product
  exact (pmss_cons (pms_if (pmt_cmp (op_eqM (u64 hr)) so_eq (pm_var 0) pm_int (nomark _)) (pmss_one (pms_ret (pm_callB (call_min2 rfl) sc_min2 T.z_min PyProof.Rows.Boot.«min» (pma_cons (pm_op op_plus so_add (pm_var 2) (pm_var 3)) (pma_cons (pm_op op_sub so_sub (pm_var 1) pm_int) pma_nil))))) pmss_nil)
    (pmss_cons (pms_if (pmt_cmp (op_eqM (u64 hr)) so_eq (pm_var 0) pm_int (nomark _)) (pmss_one (pms_ret (pm_op op_mod so_mod (pm_callTy call_int1 sc_int T.z_int PyProof.Rows.Boot.«int» (pma_cons (pm_op op_plus so_add (pm_var 2) (pm_var 3)) pma_nil)) (pm_var 1)))) pmss_nil)
    (pmss_one (pms_ret (pm_callB (call_max2 rfl) sc_max2 T.z_max PyProof.Rows.Boot.«max» (pma_cons (pm_var 2) (pma_cons (pm_var 3) pma_nil)))))))
theorem law_table_is {P : Program} {w : World} {K : PySem.W.Frag} {mg : Str → Option Value} {base : Heap} {A : Ad} (T : Top K mg A) : FnG P w K mg base 2 A.f_law_table A.d_law_table ["form", "many"] (f_law_table A) := by
  refine fnG_of (k := 1) T.F_law_table sc_law_table fun cdv A₀ outer s H E hg hr => ?_
  show PMSs _ _ _ (b_law_table A)
  unfold b_law_table
  exact (pmss_one (pms_ret (pm_lc rfl sc_law_table.nd (pmi_range T.z_range (pm_var 1)) (own := [("a", 2)]) (j := 2) (blkOk_by (by rfl)) (by decide) (fun s H C cl fp => (pg_name (hN := sc_law_table.nd) (hi := rfl) (hx := by first | exact .inl rfl | exact .inr rfl))) (fun s H C cl fp => pmts_nil) (fun s H C cl fp => (pm_lc rfl sc_law_table.nd (pmi_range T.z_range (pm_var 1)) (own := [("b", 3)]) (j := 3) (blkOk_by (by rfl)) (by decide) (fun s H C cl fp => (pg_name (hN := sc_law_table.nd) (hi := rfl) (hx := by first | exact .inl rfl | exact .inr rfl))) (fun s H C cl fp => pmts_nil) (fun s H C cl fp => (px_call (law_product_is T) hg (hr.mono (by decide)) T.m_law_product T.F_law_product.kp T.b_law_product takes0 (pma_cons (pm_var 0) (pma_cons (pm_var 1) (pma_cons (pm_var 2) (pma_cons (pm_var 3) pma_nil)))))))))))
theorem law_facts_is {P : Program} {w : World} {K : PySem.W.Frag} {mg : Str → Option Value} {base : Heap} {A : Ad} (T : Top K mg A) : FnG P w K mg base 2 A.f_law_facts A.d_law_facts ["pool", "many", "words"] (f_law_facts A) := by
  refine fnG_of (k := 1) T.F_law_facts sc_law_facts fun cdv A₀ outer s H E hg hr => ?_
  show PMSs _ _ _ (b_law_facts A)
  unfold b_law_facts
  exact (pmss_cons (pms_set 3 sc_law_facts.nd pm_dnewC)
    (pmss_cons (pms_for (passes_of rfl) rfl (pmi_seq (pm_var 2)) (pmg_name 4 sc_law_facts.nd) (pmss_cons (pms_set 5 sc_law_facts.nd (px_call (law_next_is T) hg (hr.mono (by decide)) T.m_law_next T.F_law_next.kp T.b_law_next (takes_of rfl rfl rfl rfl) (pma_cons (pm_var 0) (pma_cons pm_int pma_nil))))
    (pmss_cons (pms_set 6 sc_law_facts.nd (px_call (law_next_is T) hg (hr.mono (by decide)) T.m_law_next T.F_law_next.kp T.b_law_next (takes_of rfl rfl rfl rfl) (pma_cons (pm_var 0) (pma_cons (pm_var 1) pma_nil))))
    (pmss_one (pms_if (pmt_cmp (op_eqM (u64 hr)) so_eq (pm_var 5) pm_int (nomark _)) (pmss_one (pms_dput (u1 hr) (pm_lc rfl sc_law_facts.nd (pmi_range T.z_range (pm_var 1)) (own := [("k", 7)]) (j := 7) (blkOk_by (by rfl)) (by decide) (fun s H C cl fp => (pg_name (hN := sc_law_facts.nd) (hi := rfl) (hx := by first | exact .inl rfl | exact .inr rfl))) (fun s H C cl fp => (pmts_one (pmt_cmp op_ge so_cmp (pm_var 7) (pm_var 6) (nomark _)))) (fun s H C cl fp => (pm_var 7))) (pm_var 3) (pm_var 4))) (pmss_one (pms_if (pmt_cmp (op_eqM (u64 hr)) so_eq (pm_var 5) pm_int (nomark _)) (pmss_one (pms_dput (u1 hr) (pm_lc rfl sc_law_facts.nd (pmi_range T.z_range (pm_var 1)) (own := [("k", 7)]) (j := 7) (blkOk_by (by rfl)) (by decide) (fun s H C cl fp => (pg_name (hN := sc_law_facts.nd) (hi := rfl) (hx := by first | exact .inl rfl | exact .inr rfl))) (fun s H C cl fp => (pmts_one (pmt_cmp (op_neM (u64 hr)) so_ne (pm_var 7) (pm_var 6) (nomark _)))) (fun s H C cl fp => (pm_op op_sub so_sub (pm_op op_sub so_sub (pm_var 1) pm_int) (pm_var 7)))) (pm_var 3) (pm_var 4))) (pmss_one (pms_if (pmt_cmp (op_eqM (u64 hr)) so_eq (pm_var 5) pm_int (nomark _)) (pmss_one (pms_dput (u1 hr) (pm_lc rfl sc_law_facts.nd (pmi_range T.z_range (pm_var 1)) (own := [("k", 7)]) (j := 7) (blkOk_by (by rfl)) (by decide) (fun s H C cl fp => (pg_name (hN := sc_law_facts.nd) (hi := rfl) (hx := by first | exact .inl rfl | exact .inr rfl))) (fun s H C cl fp => (pmts_one (pmt_cmp op_gt so_cmp (px_call (law_next_is T) hg (hr.mono (by decide)) T.m_law_next T.F_law_next.kp T.b_law_next takes0 (pma_cons (pm_var 0) (pma_cons pm_int pma_nil))) pm_int (nomark _)))) (fun s H C cl fp => (pm_var 7))) (pm_var 3) (pm_var 4))) pmss_nil)))))))))
    (pmss_one (pms_gFixD 1 3 (pms_ret (pm_var 3))))))
theorem law_sentence_is {P : Program} {w : World} {K : PySem.W.Frag} {mg : Str → Option Value} {base : Heap} {A : Ad} (T : Top K mg A) : FnG P w K mg base 2 A.f_law_sentence A.d_law_sentence ["pool", "words", "depth"] (f_law_sentence A) := by
  refine fnG_of (k := 1) T.F_law_sentence sc_law_sentence fun cdv A₀ outer s H E hg hr => ?_
  show PMSs _ _ _ (b_law_sentence A)
  unfold b_law_sentence
  exact (pmss_cons (pms_set 3 sc_law_sentence.nd (pm_tup (pma_cons pm_str (pma_cons (pm_ix (pm_var 1) (px_call (law_next_is T) hg (hr.mono (by decide)) T.m_law_next T.F_law_next.kp T.b_law_next (takes_of rfl rfl rfl rfl) (pma_cons (pm_var 0) (pma_cons (pm_callB call_len sc_len T.z_len PyProof.Rows.Boot.«len» (pma_cons (pm_var 1) pma_nil)) pma_nil)))) pma_nil))))
    (pmss_cons (pms_for (passes_of rfl) rfl (pmi_range T.z_range (pm_var 2)) (pmg_name 4 sc_law_sentence.nd) (pmss_cons (pms_set 5 sc_law_sentence.nd (pm_tup (pma_cons pm_str (pma_cons (pm_ix (pm_var 1) (px_call (law_next_is T) hg (hr.mono (by decide)) T.m_law_next T.F_law_next.kp T.b_law_next (takes_of rfl rfl rfl rfl) (pma_cons (pm_var 0) (pma_cons (pm_callB call_len sc_len T.z_len PyProof.Rows.Boot.«len» (pma_cons (pm_var 1) pma_nil)) pma_nil)))) pma_nil))))
    (pmss_cons (pms_set 6 sc_law_sentence.nd (px_call (law_next_is T) hg (hr.mono (by decide)) T.m_law_next T.F_law_next.kp T.b_law_next (takes_of rfl rfl rfl rfl) (pma_cons (pm_var 0) (pma_cons pm_int pma_nil))))
    (pmss_one (pms_if (pmt_cmp (op_eqM (u64 hr)) so_eq (pm_var 6) pm_int (nomark _)) (pmss_one (pms_set 3 sc_law_sentence.nd (pm_tup (pma_cons pm_str (pma_cons (pm_var 3) (pma_cons (pm_var 5) pma_nil)))))) (pmss_one (pms_if (pmt_cmp (op_eqM (u64 hr)) so_eq (pm_var 6) pm_int (nomark _)) (pmss_one (pms_set 3 sc_law_sentence.nd (pm_tup (pma_cons pm_str (pma_cons (pm_var 5) (pma_cons (pm_var 3) pma_nil)))))) (pmss_one (pms_if (pmt_cmp (op_eqM (u64 hr)) so_eq (pm_var 6) pm_int (nomark _)) (pmss_one (pms_set 3 sc_law_sentence.nd (pm_tup (pma_cons pm_str (pma_cons pm_str (pma_cons (pm_var 5) (pma_cons (pm_var 3) pma_nil))))))) (pmss_one (pms_if (pmt_cmp (op_eqM (u64 hr)) so_eq (pm_var 6) pm_int (nomark _)) (pmss_one (pms_set 3 sc_law_sentence.nd (pm_tup (pma_cons pm_str (pma_cons pm_str (pma_cons (pm_var 3) (pma_cons (pm_var 5) pma_nil))))))) (pmss_cons (pms_set 3 sc_law_sentence.nd (pm_tup (pma_cons pm_str (pma_cons pm_str (pma_cons (pm_var 3) (pma_cons (pm_var 3) pma_nil))))))
    (pmss_one (pms_if (pmt_cmp op_gt so_cmp (pm_var 2) pm_int (nomark _)) (pmss_one (pms_set 3 sc_law_sentence.nd (pm_tup (pma_cons pm_str (pma_cons pm_str (pma_cons (pm_var 5) (pma_cons (pm_ix (pm_var 3) pm_int) pma_nil))))))) pmss_nil))))))))))))))
    (pmss_one (pms_ret (pm_var 3)))))
theorem law_true_is {P : Program} {w : World} {K : PySem.W.Frag} {mg : Str → Option Value} {base : Heap} {A : Ad} (T : Top K mg A) : ∀ n, FnG P w K mg base (1 + n) A.f_law_true A.d_law_true ["table", "facts", "sentence"] (f_law_true A n)
  | 0 => fnG_stuck
  | n + 1 => by
    have ih := law_true_is (P := P) (w := w) (base := base) T n
    refine fnG_of (k := 1 + n) T.F_law_true sc_law_true fun cdv A₀ outer s H E hg hr => ?_
    show PMSs _ _ _ (b_law_true A (f_law_true A n))
    unfold b_law_true
    exact (pmss_cons (pms_set 3 sc_law_true.nd (pm_callB call_len sc_len T.z_len PyProof.Rows.Boot.«len» (pma_cons (pm_var 0) pma_nil)))
    (pmss_cons (pms_if (pmt_cmp (op_eqM (u64 hr)) so_eq (pm_ix (pm_var 2) pm_int) pm_str (nomark _)) (pmss_cons (pms_set 4 sc_law_true.nd (pm_dget2 (u1 hr) (pm_var 1) (pm_ix (pm_var 2) pm_int) (pm_lst pma_nil) ⟨rfl, rfl, rfl, rfl⟩))
    (pmss_one (pms_ret (pm_lc rfl sc_law_true.nd (pmi_range T.z_range (pm_var 3)) (own := [("k", 8)]) (j := 8) (blkOk_by (by rfl)) (by first | decide | omega) (fun s H C cl fp => (pg_name (hN := sc_law_true.nd) (hi := rfl) (hx := by first | exact .inl rfl | exact .inr rfl))) (fun s H C cl fp => pmts_nil) (fun s H C cl fp => (pm_cmp op_inM so_in (pm_var 8) (pm_var 4) (by with_unfolding_all rfl))))))) pmss_nil)
    (pmss_cons (pms_set 5 sc_law_true.nd (px_call ih hg hr T.m_law_true T.F_law_true.kp T.b_law_true (takes_of rfl rfl rfl rfl) (pma_cons (pm_var 0) (pma_cons (pm_var 1) (pma_cons (pm_ix (pm_var 2) (pm_neg pm_int)) pma_nil)))))
    (pmss_cons (pms_set 6 sc_law_true.nd (px_call ih hg hr T.m_law_true T.F_law_true.kp T.b_law_true (takes_of rfl rfl rfl rfl) (pma_cons (pm_var 0) (pma_cons (pm_var 1) (pma_cons (pm_ix (pm_var 2) (pm_neg pm_int)) pma_nil)))))
    (pmss_cons (pms_if (pmt_cmp (op_eqM (u64 hr)) so_eq (pm_ix (pm_var 2) pm_int) pm_str (nomark _)) (pmss_one (pms_ret (pm_lc rfl sc_law_true.nd (pmi_range T.z_range (pm_var 3)) (own := [("k", 8)]) (j := 8) (blkOk_by (by rfl)) (by first | decide | omega) (fun s H C cl fp => (pg_name (hN := sc_law_true.nd) (hi := rfl) (hx := by first | exact .inl rfl | exact .inr rfl))) (fun s H C cl fp => pmts_nil) (fun s H C cl fp => (pm_and (pm_ix (pm_var 5) (pm_var 8)) (pm_one (pm_ix (pm_var 6) (pm_var 8)))))))) pmss_nil)
    (pmss_cons (pms_set 7 sc_law_true.nd (pm_lc rfl sc_law_true.nd (pmi_range T.z_range (pm_var 3)) (own := [("k", 8)]) (j := 8) (blkOk_by (by rfl)) (by first | decide | omega) (fun s H C cl fp => (pg_name (hN := sc_law_true.nd) (hi := rfl) (hx := by first | exact .inl rfl | exact .inr rfl))) (fun s H C cl fp => (pmts_one (pmt_tru (pm_ix (pm_var 5) (pm_var 8))))) (fun s H C cl fp => (pm_var 8))))
    (pmss_one (pms_ret (pm_lc rfl sc_law_true.nd (pmi_range T.z_range (pm_var 3)) (own := [("k", 8)]) (j := 8) (blkOk_by (by rfl)) (by first | decide | omega) (fun s H C cl fp => (pg_name (hN := sc_law_true.nd) (hi := rfl) (hx := by first | exact .inl rfl | exact .inr rfl))) (fun s H C cl fp => pmts_nil) (fun s H C cl fp => (pm_cmp (op_eqM (u64 hr)) so_eq (pm_callB call_len sc_len T.z_len PyProof.Rows.Boot.«len» (pma_cons (pm_lc rfl sc_law_true.nd (pmi_seq (pm_var 7)) (own := [("v", 9)]) (j := 9) (blkOk_by (by rfl)) (by first | decide | omega) (fun s H C cl fp => (pg_name (hN := sc_law_true.nd) (hi := rfl) (hx := by first | exact .inl rfl | exact .inr rfl))) (fun s H C cl fp => (pmts_one (pmt_not (pmt_tru (pm_ix (pm_var 6) (pm_ix (pm_ix (pm_var 0) (pm_var 8)) (pm_var 9))))))) (fun s H C cl fp => (pm_var 9))) pma_nil)) pm_int (nomark _))))))))))))
theorem law_refused_is {P : Program} {w : World} {K : PySem.W.Frag} {mg : Str → Option Value} {base : Heap} {A : Ad} (T : Top K mg A) : FnG P w K mg base 6 A.f_law_refused A.d_law_refused ["table", "facts"] (f_law_refused A) := by
  refine fnG_of (k := 5) T.F_law_refused sc_law_refused fun cdv A₀ outer s H E hg hr => ?_
  show PMSs _ _ _ (b_law_refused A)
  unfold b_law_refused
  exact (pmss_cons (pms_tryE rfl rfl sc_law_refused.nd (i := 2) rfl rfl (T.nm_BadWorld rfl) (takes_of rfl rfl rfl rfl) T.cat_BadWorld (fun W pn xe tk pa => (px_make T.k_World (World_init_is T) hg (hr.mono (by decide)) T.m_World T.b_World_init tk (pma_cons (pm_var 0) (pma_cons (pm_var 1) pma_nil)))) (fun a oe cls d pn hz hd => (pmss_one (pms_ret (pm_xf T.xf_BadWorld T.nx_BadWorld_reason hz hd 2 rfl (.inl rfl))))))
    (pmss_one (pms_ret pm_str)))
theorem law_spoilt_is {P : Program} {w : World} {K : PySem.W.Frag} {mg : Str → Option Value} {base : Heap} {A : Ad} (T : Top K mg A) : FnG P w K mg base 7 A.f_law_spoilt A.d_law_spoilt ["pool", "form", "table", "facts"] (f_law_spoilt A) := by
  refine fnG_of (k := 6) T.F_law_spoilt sc_law_spoilt fun cdv A₀ outer s H E hg hr => ?_
  show PMSs _ _ _ (b_law_spoilt A)
  unfold b_law_spoilt
  exact (pmss_cons (pms_set 4 sc_law_spoilt.nd (pm_callB call_len sc_len T.z_len PyProof.Rows.Boot.«len» (pma_cons (pm_var 2) pma_nil)))
    (pmss_cons (pms_setLcC (i := 5) rfl sc_law_spoilt.nd rfl rfl rfl (pmi_seq (pm_var 2)) (own := [("row", 11)]) (j := 11) (blkOk_by (by rfl)) (by decide) (fun s H C cl fp => (pg_name (hN := sc_law_spoilt.nd) (hi := rfl) (hx := by first | exact .inl rfl | exact .inr rfl))) (fun s H C cl fp => pmts_nil) (fun s H C cl fp => (pm_callTy call_list_of sc_listC T.z_list PyProof.Rows.Boot.«list» (pma_cons (pm_var 11) pma_nil))))
    (pmss_cons (pms_set 6 sc_law_spoilt.nd pm_dnewC)
    (pmss_cons (pms_forD 3 (passes_of rfl) rfl (pmg_name 7 sc_law_spoilt.nd) (pmss_one (pms_dput (u1 hr) (pm_callTy call_list_of sc_list T.z_list PyProof.Rows.Boot.«list» (pma_cons (pm_dget (u1 hr) (pm_var 3) (pm_var 7)) pma_nil)) (pm_var 6) (pm_var 7))) rfl (by first | exact .inl rfl | exact .inr (.inl rfl)))
    (pmss_cons (pms_set 8 sc_law_spoilt.nd (px_call (law_next_is T) hg (hr.mono (by decide)) T.m_law_next T.F_law_next.kp T.b_law_next (takes_of rfl rfl rfl rfl) (pma_cons (pm_var 0) (pma_cons pm_int pma_nil))))
    (pmss_cons (pms_if (pmt_w (pmw_and (pmt_cmp (op_eqM (u64 hr)) so_eq (pm_var 1) pm_int (nomark _)) (pmw_and1 (pmt_cmp (op_eqM (u64 hr)) so_eq (px_call (law_next_is T) hg (hr.mono (by decide)) T.m_law_next T.F_law_next.kp T.b_law_next (takes_of rfl rfl rfl rfl) (pma_cons (pm_var 0) (pma_cons pm_int pma_nil))) pm_int (nomark _))))) (pmss_one (pms_set 8 sc_law_spoilt.nd pm_int)) pmss_nil)
    (pmss_cons (pms_set 9 sc_law_spoilt.nd pm_str)
    (pmss_cons (pms_if (pmt_cmp (op_eqM (u64 hr)) so_eq (pm_var 8) pm_int (nomark _)) (pmss_one (pms_putAt (pm_slice (pm_ix (pm_var 5) (pm_neg pm_int)) pmo_none (pmo_some (pm_neg pm_int))) (pm_var 5) (pm_neg pm_int))) (pmss_one (pms_if (pmt_cmp (op_eqM (u64 hr)) so_eq (pm_var 8) pm_int (nomark _)) (pmss_one (pms_expr (pm_app (pm_var 5) (pm_callTy call_list_of sc_list T.z_list PyProof.Rows.Boot.«list» (pma_cons (pm_ix (pm_var 5) (pm_neg pm_int)) pma_nil))))) (pmss_one (pms_if (pmt_w (pmw_and (pmt_cmp (op_eqM (u64 hr)) so_eq (pm_var 8) pm_int (nomark _)) (pmw_and1 (pmt_cmp op_gt so_cmp (pm_var 4) pm_int (nomark _))))) (pmss_cons (pms_putAt (px_call (law_next_is T) hg (hr.mono (by decide)) T.m_law_next T.F_law_next.kp T.b_law_next (takes_of rfl rfl rfl rfl) (pma_cons (pm_var 0) (pma_cons (pm_op op_sub so_sub (pm_var 4) pm_int) pma_nil))) (pm_ix (pm_var 5) pm_int) (pm_op op_sub so_sub (pm_var 4) pm_int))
    (pmss_one (pms_set 9 sc_law_spoilt.nd pm_str))) (pmss_one (pms_if (pmt_w (pmw_and (pmt_cmp (op_eqM (u64 hr)) so_eq (pm_var 8) pm_int (nomark _)) (pmw_and1 (pmt_cmp op_gt so_cmp (pm_var 4) pm_int (nomark _))))) (pmss_cons (pms_putAt (pm_op op_mod so_mod (pm_callTy call_int1 sc_int T.z_int PyProof.Rows.Boot.«int» (pma_cons (pm_op op_plus so_add (pm_ix (pm_ix (pm_var 5) (pm_op op_sub so_sub (pm_var 4) pm_int)) (pm_op op_sub so_sub (pm_var 4) pm_int)) pm_int) pma_nil)) (pm_var 4)) (pm_ix (pm_var 5) (pm_op op_sub so_sub (pm_var 4) pm_int)) (pm_op op_sub so_sub (pm_var 4) pm_int))
    (pmss_one (pms_set 9 sc_law_spoilt.nd pm_str))) (pmss_one (pms_if (pmt_w (pmw_and (pmt_cmp (op_eqM (u64 hr)) so_eq (pm_var 8) pm_int (nomark _)) (pmw_and (pmt_cmp (op_eqM (u64 hr)) so_eq (pm_var 1) pm_int (nomark _)) (pmw_and1 (pmt_cmp op_gt so_cmp (pm_var 4) pm_int (nomark _)))))) (pmss_cons (pms_putAt pm_int (pm_ix (pm_var 5) (pm_op op_sub so_sub (pm_var 4) pm_int)) (pm_op op_sub so_sub (pm_var 4) pm_int))
    (pmss_cons (pms_putAt pm_int (pm_ix (pm_var 5) (pm_op op_sub so_sub (pm_var 4) pm_int)) (pm_op op_sub so_sub (pm_var 4) pm_int))
    (pmss_one (pms_set 9 sc_law_spoilt.nd pm_str)))) (pmss_one (pms_if (pmt_cmp (op_eqM (u64 hr)) so_eq (pm_var 8) pm_int (nomark _)) (pmss_cons (pms_dput (u1 hr) (pm_lc rfl sc_law_spoilt.nd (pmi_range T.z_range (pm_op op_plus so_add (pm_var 4) pm_int)) (own := [("k", 12)]) (j := 12) (blkOk_by (by rfl)) (by decide) (fun s H C cl fp => (pg_name (hN := sc_law_spoilt.nd) (hi := rfl) (hx := by first | exact .inl rfl | exact .inr rfl))) (fun s H C cl fp => pmts_nil) (fun s H C cl fp => (pm_var 12))) (pm_var 6) pm_str)
    (pmss_one (pms_set 9 sc_law_spoilt.nd pm_str))) (pmss_one (pms_putAt (pm_var 4) (pm_ix (pm_var 5) (pm_neg pm_int)) (pm_neg pm_int))))))))))))))
    (pmss_cons (pms_gFixD 2 5 (pms_gFixD 1 6 (pms_set 10 sc_law_spoilt.nd (pm_tup (pma_cons (pm_callB (call_repr hg (u64 hr)) sc_repr T.z_repr PyProof.Rows.Boot.«repr» (pma_cons (pm_var 5) pma_nil)) (pma_cons (pm_callB (call_repr hg (u64 hr)) sc_repr T.z_repr PyProof.Rows.Boot.«repr» (pma_cons (pm_var 6) pma_nil)) pma_nil))))))
    (pmss_one (pms_ret (pm_and (pm_cmp (op_eqM (u64 hr)) so_eq (px_call (law_refused_is T) hg (hr.mono (by decide)) T.m_law_refused T.F_law_refused.kp T.b_law_refused (takes_of rfl rfl rfl rfl) (pma_cons (pm_var 5) (pma_cons (pm_var 6) pma_nil))) (pm_var 9) (nomark _)) (pm_one (pm_cmp (op_eqM (u64 hr)) so_eq (pm_tup (pma_cons (pm_callB (call_repr hg (u64 hr)) sc_repr T.z_repr PyProof.Rows.Boot.«repr» (pma_cons (pm_var 5) pma_nil)) (pma_cons (pm_callB (call_repr hg (u64 hr)) sc_repr T.z_repr PyProof.Rows.Boot.«repr» (pma_cons (pm_var 6) pma_nil)) pma_nil))) (pm_var 10) (nomark _)))))))))))))))
theorem law_picks_is {P : Program} {w : World} {K : PySem.W.Frag} {mg : Str → Option Value} {base : Heap} {A : Ad} (T : Top K mg A) : FnG P w K mg base 2 A.f_law_picks A.d_law_picks ["pool", "lists"] (f_law_picks A) := by
  refine fnG_of (k := 1) T.F_law_picks sc_law_picks fun cdv A₀ outer s H E hg hr => ?_
  show PMSs _ _ _ (b_law_picks A)
  unfold b_law_picks
  exact (pmss_cons (pms_set 2 sc_law_picks.nd (pm_lc rfl sc_law_picks.nd (pmi_range T.z_range (pm_callB call_len sc_len T.z_len PyProof.Rows.Boot.«len» (pma_cons (pm_var 1) pma_nil))) (own := [("k", 4)]) (j := 4) (blkOk_by (by rfl)) (by decide) (fun s H C cl fp => (pg_name (hN := sc_law_picks.nd) (hi := rfl) (hx := by first | exact .inl rfl | exact .inr rfl))) (fun s H C cl fp => (pmts_one (pmt_cmp op_inM so_in pm_bl (pm_ix (pm_var 1) (pm_var 4)) (by with_unfolding_all rfl)))) (fun s H C cl fp => (pm_var 4))))
    (pmss_cons (pms_if (pmt_w (pmw_or (pmt_not (pmt_tru (pm_var 2))) (pmw_or1 (pmt_cmp (op_eqM (u64 hr)) so_eq (px_call (law_next_is T) hg (hr.mono (by decide)) T.m_law_next T.F_law_next.kp T.b_law_next (takes_of rfl rfl rfl rfl) (pma_cons (pm_var 0) (pma_cons pm_int pma_nil))) pm_int (nomark _))))) (pmss_one (pms_set 2 sc_law_picks.nd (pm_lc rfl sc_law_picks.nd (pmi_range T.z_range (pm_callB call_len sc_len T.z_len PyProof.Rows.Boot.«len» (pma_cons (pm_var 1) pma_nil))) (own := [("k", 4)]) (j := 4) (blkOk_by (by rfl)) (by decide) (fun s H C cl fp => (pg_name (hN := sc_law_picks.nd) (hi := rfl) (hx := by first | exact .inl rfl | exact .inr rfl))) (fun s H C cl fp => pmts_nil) (fun s H C cl fp => (pm_var 4))))) pmss_nil)
    (pmss_cons (pms_set 3 sc_law_picks.nd (px_call (law_next_is T) hg (hr.mono (by decide)) T.m_law_next T.F_law_next.kp T.b_law_next (takes_of rfl rfl rfl rfl) (pma_cons (pm_var 0) (pma_cons pm_int pma_nil))))
    (pmss_cons (pms_if (pmt_cmp (op_eqM (u64 hr)) so_eq (px_call (law_next_is T) hg (hr.mono (by decide)) T.m_law_next T.F_law_next.kp T.b_law_next (takes_of rfl rfl rfl rfl) (pma_cons (pm_var 0) (pma_cons pm_int pma_nil))) pm_int (nomark _)) (pmss_one (pms_set 3 sc_law_picks.nd (pm_op op_plus so_add pm_int (px_call (law_next_is T) hg (hr.mono (by decide)) T.m_law_next T.F_law_next.kp T.b_law_next (takes_of rfl rfl rfl rfl) (pma_cons (pm_var 0) (pma_cons pm_int pma_nil)))))) pmss_nil)
    (pmss_one (pms_ret (pm_lc rfl sc_law_picks.nd (pmi_range T.z_range (pm_var 3)) (own := [("k", 4)]) (j := 4) (blkOk_by (by rfl)) (by decide) (fun s H C cl fp => (pg_name (hN := sc_law_picks.nd) (hi := rfl) (hx := by first | exact .inl rfl | exact .inr rfl))) (fun s H C cl fp => pmts_nil) (fun s H C cl fp => (pm_ix (pm_var 2) (px_call (law_next_is T) hg (hr.mono (by decide)) T.m_law_next T.F_law_next.kp T.b_law_next takes0 (pma_cons (pm_var 0) (pma_cons (pm_callB call_len sc_len T.z_len PyProof.Rows.Boot.«len» (pma_cons (pm_var 2) pma_nil)) pma_nil))))))))))))
theorem law_places_is {P : Program} {w : World} {K : PySem.W.Frag} {mg : Str → Option Value} {base : Heap} {A : Ad} (T : Top K mg A) : FnG P w K mg base 2 A.f_law_places A.d_law_places ["pool", "truths", "many"] (f_law_places A) := by
  refine fnG_of (k := 1) T.F_law_places sc_law_places fun cdv A₀ outer s H E hg hr => ?_
  show PMSs _ _ _ (b_law_places A)
  unfold b_law_places
  exact (pmss_cons (pms_set 3 sc_law_places.nd (pm_lstC pma_nil))
    (pmss_cons (pms_for (passes_of rfl) rfl (pmi_seq (pm_var 1)) (pmg_name 4 sc_law_places.nd) (pmss_cons (pms_setLc (i := 5) rfl sc_law_places.nd rfl rfl rfl (pmi_range T.z_range (pm_var 2)) (own := [("k", 6)]) (j := 6) (blkOk_by (by rfl)) (by decide) (fun s H C cl fp => (pg_name (hN := sc_law_places.nd) (hi := rfl) (hx := by first | exact .inl rfl | exact .inr rfl))) (fun s H C cl fp => (pmts_one (pmt_tru (pm_ix (pm_var 4) (pm_var 6))))) (fun s H C cl fp => (pm_var 6)))
    (pmss_cons (pms_if (pmt_not (pmt_tru (pm_var 5))) (pmss_one (pms_setLc (i := 5) rfl sc_law_places.nd rfl rfl rfl (pmi_range T.z_range (pm_var 2)) (own := [("k", 6)]) (j := 6) (blkOk_by (by rfl)) (by decide) (fun s H C cl fp => (pg_name (hN := sc_law_places.nd) (hi := rfl) (hx := by first | exact .inl rfl | exact .inr rfl))) (fun s H C cl fp => pmts_nil) (fun s H C cl fp => (pm_var 6)))) pmss_nil)
    (pmss_one (pms_expr (pm_app (pm_var 3) (pm_ix (pm_var 5) (px_call (law_next_is T) hg (hr.mono (by decide)) T.m_law_next T.F_law_next.kp T.b_law_next (takes_of rfl rfl rfl rfl) (pma_cons (pm_var 0) (pma_cons (pm_callB call_len sc_len T.z_len PyProof.Rows.Boot.«len» (pma_cons (pm_var 5) pma_nil)) pma_nil))))))))))
    (pmss_cons (pms_if (pmt_w (pmw_and (pmt_tru (pm_var 3)) (pmw_and1 (pmt_cmp (op_eqM (u64 hr)) so_eq (px_call (law_next_is T) hg (hr.mono (by decide)) T.m_law_next T.F_law_next.kp T.b_law_next (takes_of rfl rfl rfl rfl) (pma_cons (pm_var 0) (pma_cons pm_int pma_nil))) pm_int (nomark _))))) (pmss_one (pms_putAt (px_call (law_next_is T) hg (hr.mono (by decide)) T.m_law_next T.F_law_next.kp T.b_law_next (takes_of rfl rfl rfl rfl) (pma_cons (pm_var 0) (pma_cons (pm_var 2) pma_nil))) (pm_var 3) (pm_neg pm_int))) pmss_nil)
    (pmss_one (pms_gFixD 1 3 (pms_ret (pm_var 3)))))))
theorem law_judged_is {P : Program} {w : World} {K : PySem.W.Frag} {mg : Str → Option Value} {base : Heap} {A : Ad} (T : Top K mg A) : FnG P w K mg base 30 A.f_law_judged A.d_law_judged ["pool", "world", "table", "facts", "sentences", "names"] (f_law_judged A) := by
  refine fnG_of (k := 29) T.F_law_judged sc_law_judged fun cdv A₀ outer s H E hg hr => ?_
  show PMSs _ _ _ (b_law_judged A)
  unfold b_law_judged
  exact (pmss_cons (pms_set 6 sc_law_judged.nd (pm_callB call_len sc_len T.z_len PyProof.Rows.Boot.«len» (pma_cons (pm_var 2) pma_nil)))
    (pmss_cons (pms_set 7 sc_law_judged.nd (pm_lc rfl sc_law_judged.nd (pmi_seq (pm_var 4)) (own := [("one", 17)]) (j := 17) (blkOk_by (by rfl)) (by decide) (fun s H C cl fp => (pg_name (hN := sc_law_judged.nd) (hi := rfl) (hx := by first | exact .inl rfl | exact .inr rfl))) (fun s H C cl fp => pmts_nil) (fun s H C cl fp => (px_call (law_true_is T 25) hg (hr.mono (by decide)) T.m_law_true T.F_law_true.kp T.b_law_true takes0 (pma_cons (pm_var 2) (pma_cons (pm_var 3) (pma_cons (pm_var 17) pma_nil)))))))
    (pmss_cons (pms_for (passes_of rfl) rfl (pmi_range T.z_range (pm_callB call_len sc_len T.z_len PyProof.Rows.Boot.«len» (pma_cons (pm_var 4) pma_nil))) (pmg_name 8 sc_law_judged.nd) (pmss_one (pms_for (passes_of rfl) rfl (pmi_seq (pm_lst (pma_cons pm_int (pma_cons (pm_op op_sub so_sub (pm_var 6) pm_int) (pma_cons (px_call (law_next_is T) hg (hr.mono (by decide)) T.m_law_next T.F_law_next.kp T.b_law_next (takes_of rfl rfl rfl rfl) (pma_cons (pm_var 0) (pma_cons (pm_var 6) pma_nil))) pma_nil))))) (pmg_name 9 sc_law_judged.nd) (pmss_one (pms_if (pmt_cmp (op_neM (u64 hr)) so_ne (pm_callB (call_repr hg (u64 hr)) sc_repr T.z_repr PyProof.Rows.Boot.«repr» (pma_cons (px_meth (pm_var 1) T.c_World T.h_World_has (World_has_is T) hg (hr.mono (by decide)) T.b_World_has (takes_of rfl rfl rfl rfl) (pma_cons (pm_var 9) (pma_cons (pm_ix (pm_var 4) (pm_var 8)) pma_nil))) pma_nil)) (pm_callB (call_repr hg (u64 hr)) sc_repr T.z_repr PyProof.Rows.Boot.«repr» (pma_cons (pm_ix (pm_ix (pm_var 7) (pm_var 8)) (pm_var 9)) pma_nil)) (nomark _)) (pmss_one (pms_ret pm_bl)) pmss_nil)))))
    (pmss_cons (pms_set 10 sc_law_judged.nd (px_call (law_picks_is T) hg (hr.mono (by decide)) T.m_law_picks T.F_law_picks.kp T.b_law_picks (takes_of rfl rfl rfl rfl) (pma_cons (pm_var 0) (pma_cons (pm_var 7) pma_nil))))
    (pmss_cons (pms_set 11 sc_law_judged.nd (px_call (law_places_is T) hg (hr.mono (by decide)) T.m_law_places T.F_law_places.kp T.b_law_places (takes_of rfl rfl rfl rfl) (pma_cons (pm_var 0) (pma_cons (pm_lc rfl sc_law_judged.nd (pmi_seq (pm_var 10)) (own := [("at", 9)]) (j := 9) (blkOk_by (by rfl)) (by decide) (fun s H C cl fp => (pg_name (hN := sc_law_judged.nd) (hi := rfl) (hx := by first | exact .inl rfl | exact .inr rfl))) (fun s H C cl fp => pmts_nil) (fun s H C cl fp => (pm_ix (pm_var 7) (pm_var 9)))) (pma_cons (pm_var 6) pma_nil)))))
    (pmss_cons (pms_set 12 sc_law_judged.nd pm_int)
    (pmss_cons (pms_set 13 sc_law_judged.nd pm_bl)
    (pmss_cons (pms_for (passes_of rfl) rfl (pmi_range T.z_range (pm_callB call_len sc_len T.z_len PyProof.Rows.Boot.«len» (pma_cons (pm_var 10) pma_nil))) (pmg_name 8 sc_law_judged.nd) (pmss_cons (pms_set 12 sc_law_judged.nd (pm_ix (pm_ix (pm_var 2) (pm_var 12)) (pm_ix (pm_var 11) (pm_var 8))))
    (pmss_one (pms_set 13 sc_law_judged.nd (pm_and (pm_var 13) (pm_one (pm_ix (pm_ix (pm_var 7) (pm_ix (pm_var 10) (pm_var 8))) (pm_ix (pm_var 11) (pm_var 8)))))))))
    (pmss_cons (pms_set 14 sc_law_judged.nd (px_call (law_next_is T) hg (hr.mono (by decide)) T.m_law_next T.F_law_next.kp T.b_law_next (takes_of rfl rfl rfl rfl) (pma_cons (pm_var 0) (pma_cons (pm_callB call_len sc_len T.z_len PyProof.Rows.Boot.«len» (pma_cons (pm_var 4) pma_nil)) pma_nil))))
    (pmss_cons (pms_set 15 sc_law_judged.nd (pm_tup (pma_cons (pm_callTy call_tuple_of sc_tuple T.z_tuple PyProof.Rows.Boot.«tuple» (pma_cons (pm_lc rfl sc_law_judged.nd (pmi_range T.z_range (pm_callB call_len sc_len T.z_len PyProof.Rows.Boot.«len» (pma_cons (pm_var 10) pma_nil))) (own := [("k", 8)]) (j := 8) (blkOk_by (by rfl)) (by decide) (fun s H C cl fp => (pg_name (hN := sc_law_judged.nd) (hi := rfl) (hx := by first | exact .inl rfl | exact .inr rfl))) (fun s H C cl fp => pmts_nil) (fun s H C cl fp => (pm_tup (pma_cons (pm_ix (pm_var 5) (pm_var 8)) (pma_cons pm_str (pma_cons (pm_ix (pm_var 4) (pm_ix (pm_var 10) (pm_var 8))) pma_nil)))))) pma_nil)) (pma_cons (pm_ix (pm_var 4) (pm_var 14)) pma_nil))))
    (pmss_cons (pms_set 16 sc_law_judged.nd (pm_callTy call_list_of sc_list T.z_list PyProof.Rows.Boot.«list» (pma_cons (pm_var 11) pma_nil)))
    (pmss_one (pms_ret (pm_and (pm_cmp (op_eqM (u64 hr)) so_eq (pm_callB (call_repr hg (u64 hr)) sc_repr T.z_repr PyProof.Rows.Boot.«repr» (pma_cons (px_meth (pm_var 1) T.c_World T.h_World_fails (World_fails_is T) hg (hr.mono (by decide)) T.b_World_fails (takes_of rfl rfl rfl rfl) (pma_cons (pm_var 15) (pma_cons (pm_var 16) pma_nil))) pma_nil)) (pm_callB (call_repr hg (u64 hr)) sc_repr T.z_repr PyProof.Rows.Boot.«repr» (pma_cons (pm_and (pm_var 13) (pm_one (pm_not (pm_ix (pm_ix (pm_var 7) (pm_var 14)) (pm_var 12))))) pma_nil)) (nomark _)) (pm_one (pm_cmp (op_eqM (u64 hr)) so_eq (pm_var 16) (pm_var 11) (nomark _)))))))))))))))))
theorem law_is {P : Program} {w : World} {K : PySem.W.Frag} {mg : Str → Option Value} {base : Heap} {A : Ad} (T : Top K mg A) : FnG P w K mg base 31 A.f_law A.d_law ["script"] (f_law A) := by
  refine fnG_of (k := 30) T.F_law sc_law fun cdv A₀ outer s H E hg hr => ?_
  show PMSs _ _ _ (b_law A)
  unfold b_law
  exact (pmss_cons (pms_set 1 sc_law.nd (px_call (law_pool_is T) hg (hr.mono (by decide)) T.m_law_pool T.F_law_pool.kp T.b_law_pool (takes_of rfl rfl rfl rfl) (pma_cons (pm_var 0) (pma_cons pm_int pma_nil))))
    (pmss_cons (pms_set 2 sc_law.nd (px_call (law_next_is T) hg (hr.mono (by decide)) T.m_law_next T.F_law_next.kp T.b_law_next (takes_of rfl rfl rfl rfl) (pma_cons (pm_var 1) (pma_cons pm_int pma_nil))))
    (pmss_cons (pms_set 3 sc_law.nd (pm_op op_plus so_add pm_int (px_call (law_next_is T) hg (hr.mono (by decide)) T.m_law_next T.F_law_next.kp T.b_law_next (takes_of rfl rfl rfl rfl) (pma_cons (pm_var 1) (pma_cons pm_int pma_nil)))))
    (pmss_cons (pms_if (pmt_cmp (op_eqM (u64 hr)) so_eq (px_call (law_next_is T) hg (hr.mono (by decide)) T.m_law_next T.F_law_next.kp T.b_law_next (takes_of rfl rfl rfl rfl) (pma_cons (pm_var 1) (pma_cons pm_int pma_nil))) pm_int (nomark _)) (pmss_one (pms_set 3 sc_law.nd (pm_op op_plus so_add pm_int (px_call (law_next_is T) hg (hr.mono (by decide)) T.m_law_next T.F_law_next.kp T.b_law_next (takes_of rfl rfl rfl rfl) (pma_cons (pm_var 1) (pma_cons pm_int pma_nil)))))) pmss_nil)
    (pmss_cons (pms_set 4 sc_law.nd (px_call (law_names_is T) hg (hr.mono (by decide)) T.m_law_names T.F_law_names.kp T.b_law_names (takes_of rfl rfl rfl rfl) (pma_cons (pm_var 1) (pma_cons (pm_op op_plus so_add pm_int (px_call (law_next_is T) hg (hr.mono (by decide)) T.m_law_next T.F_law_next.kp T.b_law_next (takes_of rfl rfl rfl rfl) (pma_cons (pm_var 1) (pma_cons pm_int pma_nil)))) pma_nil))))
    (pmss_cons (pms_set 5 sc_law.nd (px_call (law_names_is T) hg (hr.mono (by decide)) T.m_law_names T.F_law_names.kp T.b_law_names (takes_of rfl rfl rfl rfl) (pma_cons (pm_var 1) (pma_cons pm_int pma_nil))))
    (pmss_cons (pms_set 6 sc_law.nd (px_call (law_table_is T) hg (hr.mono (by decide)) T.m_law_table T.F_law_table.kp T.b_law_table (takes_of rfl rfl rfl rfl) (pma_cons (pm_var 2) (pma_cons (pm_var 3) pma_nil))))
    (pmss_cons (pms_set 7 sc_law.nd (px_call (law_facts_is T) hg (hr.mono (by decide)) T.m_law_facts T.F_law_facts.kp T.b_law_facts (takes_of rfl rfl rfl rfl) (pma_cons (pm_var 1) (pma_cons (pm_var 3) (pma_cons (pm_var 4) pma_nil)))))
    (pmss_cons (pms_set 8 sc_law.nd (px_make T.k_World (World_init_is T) hg (hr.mono (by decide)) T.m_World T.b_World_init (takes_of rfl rfl rfl rfl) (pma_cons (pm_var 6) (pma_cons (pm_var 7) pma_nil))))
    (pmss_cons (pms_if (pmt_cmp (op_neM (u64 hr)) so_ne (pm_lenO (pm_var 8) T.h_World_len.at_ T.h_World_len.fn (World_len_is T) hg (hr.mono (by decide)) T.b_World_len (takes_of rfl rfl rfl rfl) rfl T.z_len) (pm_var 3) (nomark _)) (pmss_one (pms_ret pm_bl)) pmss_nil)
    (pmss_cons (pms_set 9 sc_law.nd (px_call (law_pool_is T) hg (hr.mono (by decide)) T.m_law_pool T.F_law_pool.kp T.b_law_pool (takes_of rfl rfl rfl rfl) (pma_cons (pm_var 0) (pma_cons pm_int pma_nil))))
    (pmss_cons (pms_for (passes_of rfl) rfl (pmi_range T.z_range pm_int) (pmg_name 10 sc_law.nd) (pmss_cons (pms_set 11 sc_law.nd (pm_ix (pm_lst (pma_cons (pm_op op_sub so_sub (pm_var 3) pm_int) (pma_cons (px_call (law_next_is T) hg (hr.mono (by decide)) T.m_law_next T.F_law_next.kp T.b_law_next (takes_of rfl rfl rfl rfl) (pma_cons (pm_var 9) (pma_cons (pm_var 3) pma_nil))) pma_nil))) (px_call (law_next_is T) hg (hr.mono (by decide)) T.m_law_next T.F_law_next.kp T.b_law_next (takes_of rfl rfl rfl rfl) (pma_cons (pm_var 9) (pma_cons pm_int pma_nil)))))
    (pmss_cons (pms_set 12 sc_law.nd (px_call (law_next_is T) hg (hr.mono (by decide)) T.m_law_next T.F_law_next.kp T.b_law_next (takes_of rfl rfl rfl rfl) (pma_cons (pm_var 9) (pma_cons (pm_var 3) pma_nil))))
    (pmss_one (pms_if (pmt_w (pmw_or (pmt_cmp (op_neM (u64 hr)) so_ne (px_meth (pm_var 8) T.c_World T.h_World_product (World_product_is T) hg (hr.mono (by decide)) T.b_World_product (takes_of rfl rfl rfl rfl) (pma_cons (pm_var 11) (pma_cons (pm_var 12) pma_nil))) (pm_ix (pm_ix (pm_var 6) (pm_var 11)) (pm_var 12)) (nomark _)) (pmw_or1 (pmt_cmp (op_neM (u64 hr)) so_ne (px_meth (pm_var 8) T.c_World T.h_World_product (World_product_is T) hg (hr.mono (by decide)) T.b_World_product (takes_of rfl rfl rfl rfl) (pma_cons (pm_var 12) (pma_cons (pm_var 11) pma_nil))) (pm_ix (pm_ix (pm_var 6) (pm_var 11)) (pm_var 12)) (nomark _))))) (pmss_one (pms_ret pm_bl)) pmss_nil)))))
    (pmss_cons (pms_set 13 sc_law.nd (pm_op op_plus so_add pm_int (px_call (law_next_is T) hg (hr.mono (by decide)) T.m_law_next T.F_law_next.kp T.b_law_next (takes_of rfl rfl rfl rfl) (pma_cons (pm_var 9) (pma_cons pm_int pma_nil)))))
    (pmss_cons (pms_setLc (i := 14) rfl sc_law.nd rfl rfl rfl (pmi_range T.z_range (pm_var 13)) (own := [("k", 10)]) (j := 10) (blkOk_by (by rfl)) (by decide) (fun s H C cl fp => (pg_name (hN := sc_law.nd) (hi := rfl) (hx := by first | exact .inl rfl | exact .inr rfl))) (fun s H C cl fp => pmts_nil) (fun s H C cl fp => (px_call (law_next_is T) hg (hr.mono (by decide)) T.m_law_next T.F_law_next.kp T.b_law_next takes0 (pma_cons (pm_var 9) (pma_cons (pm_ix (pm_lst (pma_cons pm_int (pma_cons pm_int pma_nil))) (pm_callTy call_int1 sc_int T.z_int PyProof.Rows.Boot.«int» (pma_cons (pm_and (pm_cmp (op_eqM (u64 hr)) so_eq (px_call (law_next_is T) hg (hr.mono (by decide)) T.m_law_next T.F_law_next.kp T.b_law_next takes0 (pma_cons (pm_var 9) (pma_cons pm_int pma_nil))) pm_int (nomark _)) (pm_one (pm_cmp op_lt so_cmp (pm_var 3) pm_int (nomark _)))) pma_nil))) pma_nil)))))
    (pmss_cons (pms_setLc (i := 15) rfl sc_law.nd rfl rfl rfl (pmi_seq (pm_var 14)) (own := [("depth", 16)]) (j := 16) (blkOk_by (by rfl)) (by decide) (fun s H C cl fp => (pg_name (hN := sc_law.nd) (hi := rfl) (hx := by first | exact .inl rfl | exact .inr rfl))) (fun s H C cl fp => pmts_nil) (fun s H C cl fp => (px_call (law_sentence_is T) hg (hr.mono (by decide)) T.m_law_sentence T.F_law_sentence.kp T.b_law_sentence takes0 (pma_cons (pm_var 9) (pma_cons (pm_var 4) (pma_cons (pm_var 16) pma_nil))))))
    (pmss_one (pms_ret (pm_and (px_call (law_spoilt_is T) hg (hr.mono (by decide)) T.m_law_spoilt T.F_law_spoilt.kp T.b_law_spoilt (takes_of rfl rfl rfl rfl) (pma_cons (pm_var 9) (pma_cons (pm_var 2) (pma_cons (pm_var 6) (pma_cons (pm_var 7) pma_nil))))) (pm_one (px_call (law_judged_is T) hg (hr.mono (by decide)) T.m_law_judged T.F_law_judged.kp T.b_law_judged (takes_of rfl rfl rfl rfl) (pma_cons (pm_var 9) (pma_cons (pm_var 8) (pma_cons (pm_var 6) (pma_cons (pm_var 7) (pma_cons (pm_var 15) (pma_cons (pm_var 5) pma_nil))))))))))))))))))))))))))
end
end W76
set_option Elab.async false
set_option linter.all false
set_option maxRecDepth 100000
set_option maxHeartbeats 2000000
namespace W76
open PySem ML L2
abbrev Pl := Int × Int × Int
abbrev plC (P : Pl) : MCell := .lst [.int P.1, .int P.2.1, .int P.2.2]
def mixA (P : Pl) : Int := (P.2.2 + 7919 * (P.2.1 + 1) + 13) % 2147483647
def mixB (P : Pl) : Int := (mixA P * (mixA P + 48271)) % 2147483629
def mixC (P : Pl) : Int := (mixB P * (mixB P + 69621) + 31 * (P.2.1 + 1)) % 2147483647
/-- the digit drawn, the pool behind it -/
def nxD (P : Pl) (n : Int) : Int := if 0 < P.1 then P.1 % n else (mixC P / 9) % n
def nxP (P : Pl) (n : Int) : Pl := if 0 < P.1 then (P.1 / n, P.2.1, P.2.2) else (P.1, P.2.1 + 1, P.2.2)
theorem nxD_lo {P : Pl} {n : Int} (h : 0 < n) : 0 ≤ nxD P n := by unfold nxD; split <;> exact Int.emod_nonneg _ (by omega)
theorem nxD_hi {P : Pl} {n : Int} (h : 0 < n) : nxD P n < n := by unfold nxD; split <;> exact Int.emod_lt_of_pos _ h
theorem next_eq (A : Ad) {m : Mo} {p : Nat} {P : Pl} {n : Int} (hp : m[p]? = some (plC P)) (h0 : 0 < n) (h1 : n < 1073741824) :
    f_law_next A [.ref p, .int n] m = .ok (.int (nxD P n)) (m.set p (plC (nxP P n))) := by
  obtain ⟨a, b, c⟩ := P
  unfold f_law_next b_law_next nxD nxP
  simp only [body_ap, startM]
  have q1 : okI 1 1073741823 n := ⟨by omega, by omega⟩
  have q2 : okI 1 1073741823 9 := ⟨by omega, by omega⟩
  by_cases ha : 0 < a
  · simp [q1, ap_ixc hp, ap_put hp, ixN, ha, h0, h1]
  · have e1 := ap_ixc (i := 0) hp
    have h2 := set_at (c := plC (a, b + 1, c)) hp
    have k1 : ∀ j, mulOk 7919 j := fun j => mulOk_l (by decide) (by decide)
    have k2 : ∀ j, mulOk 31 j := fun j => mulOk_l (by decide) (by decide)
    have k3 : mulOk (mixA (a, b, c)) (mixA (a, b, c) + 48271) := by
      have h3 := Int.emod_nonneg (c + 7919 * (b + 1) + 13) (show (2147483647 : Int) ≠ 0 by decide)
      have h4 := Int.emod_lt_of_pos (c + 7919 * (b + 1) + 13) (show (0 : Int) < 2147483647 by decide)
      exact mulOk_l (by unfold mixA; omega) (by unfold mixA; omega)
    have k4 : mulOk (mixB (a, b, c)) (mixB (a, b, c) + 69621) := by
      have h3 := Int.emod_nonneg (mixA (a, b, c) * (mixA (a, b, c) + 48271)) (show (2147483629 : Int) ≠ 0 by decide)
      have h4 := Int.emod_lt_of_pos (mixA (a, b, c) * (mixA (a, b, c) + 48271)) (show (0 : Int) < 2147483629 by decide)
      exact mulOk_l (by unfold mixB; omega) (by unfold mixB; omega)
    have e4 : (c + 7919 * (b + 1) + 13) % 2147483647 = mixA (a, b, c) := rfl
    have e5 : (mixA (a, b, c) * (mixA (a, b, c) + 48271)) % 2147483629 = mixB (a, b, c) := rfl
    have e6 : (mixB (a, b, c) * (mixB (a, b, c) + 69621) + 31 * (b + 1)) % 2147483647 = mixC (a, b, c) := rfl
    simp [q1, q2, ap_ixc hp, ap_put hp, ixN, ha, h0, h1, ap_ixc h2, k1, k2, e4, k3, e5, k4, e6]
end W76
set_option Elab.async false
set_option linter.all false
set_option maxRecDepth 100000
set_option maxHeartbeats 2000000
namespace W76
open PySem ML L2
def li (xs : List Int) : MV := .lst (xs.map MV.int)
def tb (rows : List (List Int)) : MV := .lst (rows.map li)
@[simp] theorem below_li (L : Nat) (xs : List Int) : below L (li xs) = true := belows_int L xs
@[simp] theorem belows_li (L : Nat) (xs : List (List Int)) : belows L (xs.map li) = true := belows_map L li (fun _ => belows_int L _) xs
@[simp] theorem below_tb (L : Nat) (xs : List (List Int)) : below L (tb xs) = true := belows_li L xs
def Dr (p : Nat) (m0 m : Mo) : Prop := ∃ P, m = m0.set p (plC P)
theorem Dr.refl {p : Nat} {m : Mo} {P : Pl} (h : m[p]? = some (plC P)) : Dr p m m := ⟨P, by
  apply List.ext_getElem?
  intro j
  by_cases q : p = j
  · subst q
    rw [List.getElem?_set_self (List.getElem?_eq_some_iff.mp h).1, h]
  · rw [List.getElem?_set_ne q]⟩
theorem Dr.len {p : Nat} {m0 m : Mo} (h : Dr p m0 m) : m.length = m0.length := by
  obtain ⟨P, rfl⟩ := h
  simp
theorem Dr.at {p : Nat} {m0 m : Mo} (h : Dr p m0 m) (hl : p < m0.length) : ∃ P, m[p]? = some (plC P) := by
  obtain ⟨P, rfl⟩ := h
  exact ⟨P, List.getElem?_set_self hl⟩
theorem next_ex (A : Ad) {m0 m : Mo} {p : Nat} {n : Int} (h : Dr p m0 m) (hl : p < m0.length) (h0 : 0 < n) (h1 : n < 1073741824) :
    ∃ d m', f_law_next A [.ref p, .int n] m = .ok (.int d) m' ∧ 0 ≤ d ∧ d < n ∧ Dr p m0 m' := by
  obtain ⟨P, hp⟩ := h.at hl
  refine ⟨_, _, next_eq A hp h0 h1, nxD_lo h0, nxD_hi h0, ?_⟩
  obtain ⟨P0, rfl⟩ := h
  exact ⟨nxP P n, by rw [List.set_set]⟩
theorem cell_ex (A : Ad) (ns : List Int) (k : Nat) (m : Mo) : ∃ v, f_law_cell A [.rl (ns.map MV.int), .int k] m = .ok (.int v) m := by
  unfold f_law_cell b_law_cell
  simp only [body_ap, startM]
  by_cases h : k < ns.length
  · have e : atI (ns.map MV.int) (k : Int) = some (.int ns[k]) := by rw [atI_nat']; simp [h]
    have h' : (k : Int) < ns.length := by omega
    refine ⟨if ns[k] < 0 then -ns[k] else ns[k], ?_⟩
    simp [e, h']
  · have h' : ¬ (k : Int) < ns.length := by omega
    refine ⟨0, ?_⟩
    simp [h']
theorem pool_ex (A : Ad) (ns : List Int) (k : Nat) (m : Mo) : ∃ P, f_law_pool A [.rl (ns.map MV.int), .int k] m = .ok (.ref m.length) (m ++ [plC P]) := by
  obtain ⟨v, hv⟩ := cell_ex A ns k m
  unfold f_law_pool b_law_pool
  simp only [body_ap, startM]
  by_cases h : 1000000000000000000 ≤ v
  · refine ⟨(v, 0, v % 1000003), ?_⟩
    simp [hv, h]
  · refine ⟨(0, 0, v), ?_⟩
    simp [hv, h]
/-! ### the table -/
def op (form n a b : Int) : Int := if form = 0 then (if n - 1 < a + b then n - 1 else a + b) else if form = 1 then (a + b) % n else (if b > a then b else a)
theorem product_eq (A : Ad) {form n a b : Int} (hn : 0 < n) (m : Mo) : f_law_product A [.int form, .int n, .int a, .int b] m = .ok (.int (op form n a b)) m := by
  unfold f_law_product b_law_product op
  simp only [body_ap, startM]
  by_cases h0 : form = 0
  · simp [h0]
  · by_cases h1 : form = 1
    · simp [h1, hn]
    · simp [h0, h1]
def T (form : Int) (n : Nat) : List (List Int) := (rg n).map fun a => (rg n).map fun b => op form n a b
theorem table_eq (A : Ad) {form : Int} {n : Nat} (hn : 0 < n) (hz : n ≤ 1000) (m : Mo) : f_law_table A [.int form, .int n] m = .ok (tb (T form n)) m := by
  unfold f_law_table b_law_table
  simp only [body_ap, startM]
  have hn' : (0 : Int) < n := by omega
  have hz3 : n ≤ 16777216 := by omega
  have inner : ∀ a : Int, compL (gSet 3) mYes (mCall 4 (f_law_product A) (mACons (mVar 0) (mACons (mVar 1) (mACons (mVar 2) (mACons (mVar 3) mANil))))) [some (.int form), some (.int n), some (.int a), none] ((rg n).map MV.int) m = .ok (((rg n).map fun b => op form n a b).map MV.int) m := fun a => by
    have := compL_all (m := m) (j := 3) (me := mCall 4 (f_law_product A) (mACons (mVar 0) (mACons (mVar 1) (mACons (mVar 2) (mACons (mVar 3) mANil))))) (e0 := [some (.int form), some (.int n), some (.int a), none]) MV.int (fun b => MV.int (op form n a b)) (rg n) fun b _ => by
      simp [product_eq A hn']
    rw [this, List.map_map]
    rfl
  have outer := compL_all (m := m) (j := 2) (me := mLc (iRg1 (mVar 1)) (gSet 3) mYes (mCall 4 (f_law_product A) (mACons (mVar 0) (mACons (mVar 1) (mACons (mVar 2) (mACons (mVar 3) mANil))))) [3]) (e0 := [some (.int form), some (.int n), none, none]) MV.int (fun a => li ((rg n).map fun b => op form n a b)) (rg n) fun a _ => by
    simp [run_rg hz3, hz3, mwipe, inner, li]
  simp [run_rg hz3, hz3, mwipe, outer, tb, T]
end W76
set_option Elab.async false
set_option linter.all false
set_option maxRecDepth 100000
set_option maxHeartbeats 2000000
namespace W76
open PySem ML L2
def Nm (s : Str) : Prop := s.length ≤ 20 ∧ ∀ c ∈ s.cps.toList, c < 128
instance (s : Str) : Decidable (Nm s) := by unfold Nm; infer_instance
/-- the memory while names are drawn -/
def Mm (p : Nat) (m0 : Mo) (P : Pl) (l : Mo) : Mo := m0.set p (plC P) ++ l
theorem Mm.at {p : Nat} {m0 : Mo} {P : Pl} {l : Mo} (h : p < m0.length) : (Mm p m0 P l)[p]? = some (plC P) := app_at (List.getElem?_set_self h)
@[simp] theorem Mm.len {p : Nat} {m0 : Mo} {P : Pl} {l : Mo} : (Mm p m0 P l).length = m0.length + l.length := by unfold Mm; simp
theorem next_Mm (A : Ad) {p : Nat} {m0 : Mo} {P : Pl} {l : Mo} {n : Int} (h : p < m0.length) (h0 : 0 < n) (h1 : n < 1073741824) : f_law_next A [.ref p, .int n] (Mm p m0 P l) = .ok (.int (nxD P n)) (Mm p m0 (nxP P n) l) := by
  rw [next_eq A (Mm.at h) h0 h1]
  congr 1
  unfold Mm
  rw [app_set (c0 := plC P) (List.getElem?_set_self h), List.set_set]
theorem Mm.new {p : Nat} {m0 : Mo} {P : Pl} {c : MCell} : (Mm p m0 P [c])[m0.length]? = some c := by
  unfold Mm
  rw [show m0.length = (m0.set p (plC P)).length by simp]
  simp
theorem Mm.put {p : Nat} {m0 : Mo} {P : Pl} {c c' : MCell} : (Mm p m0 P [c]).set m0.length c' = Mm p m0 P [c'] := by
  unfold Mm
  rw [show m0.length = (m0.set p (plC P)).length by simp]
  simp
theorem Mm.take {p : Nat} {m0 : Mo} {P : Pl} {l : Mo} : (Mm p m0 P l).take m0.length = m0.set p (plC P) := by
  unfold Mm
  simp
theorem pick_sign {z : Str} {n : Nat} {d : Int} (hz : z.cps.toList.length = n) (hc : ∀ c ∈ z.cps.toList, c < 128) (h0 : 0 ≤ d) (h1 : d < n) : ∃ c, atI z.cps.toList d = some c ∧ c < 128 := by
  have e : d = ((d.toNat : Nat) : Int) := by omega
  rw [e, atI_nat']
  have hl : d.toNat < z.cps.toList.length := by omega
  exact ⟨z.cps.toList[d.toNat], List.getElem?_eq_getElem hl, hc _ (List.getElem_mem hl)⟩
theorem al26 : ("abcdefghijklmnopqrstuvwxyz" : Str).cps.toList.length = 26 ∧ (∀ c ∈ ("abcdefghijklmnopqrstuvwxyz" : Str).cps.toList, c < 128) ∧ ("abcdefghijklmnopqrstuvwxyz" : Str).length ≤ 16777216 := by decide +kernel
theorem al36 : ("abcdefghijklmnopqrstuvwxyz0123456789" : Str).cps.toList.length = 36 ∧ (∀ c ∈ ("abcdefghijklmnopqrstuvwxyz0123456789" : Str).cps.toList, c < 128) ∧ ("abcdefghijklmnopqrstuvwxyz0123456789" : Str).length ≤ 16777216 := by decide +kernel
theorem spare_ok : ∀ j : Fin 30, Nm (("spare" : Str) ++ ((((j.val : Nat) : Int).repr : String) : Str)) ∧ ((j.val : Nat) : Int).natAbs.log2 < 1920 ∧ ("spare" : Str).length + (((((j.val : Nat) : Int).repr : String) : Str)).length ≤ 16777216 := by decide +kernel
theorem names_ex (A : Ad) {m0 : Mo} {p : Nat} {P : Pl} {n : Nat} (hl : p < m0.length) (hp : m0[p]? = some (plC P)) (hn : n ≤ 24) :
    Post (f_law_names A [.ref p, .int n] m0) fun x m' => ∃ (ns : List Str) (P' : Pl), x = .lst (ns.map MV.str) ∧ m' = m0.set p (plC P') ∧ ns.length = n ∧ ∀ s ∈ ns, Nm s := by
  have h26 := al26
  have h36 := al36
  generalize hz26 : ("abcdefghijklmnopqrstuvwxyz" : Str) = z26 at h26
  generalize hz36 : ("abcdefghijklmnopqrstuvwxyz0123456789" : Str) = z36 at h36
  unfold f_law_names b_law_names
  refine Post.hide fun Q0 hQ0 => ?_
  rw [hz26, hz36]
  simp only [body_ap, startM]
  have e0 : m0 ++ [MCell.lst []] = Mm p m0 P [.lst []] := by
    unfold Mm
    obtain ⟨Q, hQ⟩ := Dr.refl hp
    have : m0.set p (plC P) = m0 := by
      apply List.ext_getElem?
      intro j
      by_cases q : p = j
      · subst q
        rw [List.getElem?_set_self hl, hp]
      · rw [List.getElem?_set_ne q]
    rw [this]
  simp [run_rg (show n ≤ 16777216 by omega), e0]
  refine Post.fin (Post.bind ?_)
  refine Post.mono (for_post (fun k e m => ∃ (ns : List Str) (P : Pl) (o3 o4 o5 : Option MV), e = [some (.ref p), some (.int n), some (.ref m0.length), o3, o4, o5] ∧ m = Mm p m0 P [.lst (ns.map MV.str)] ∧ ns.length = k ∧ ∀ s ∈ ns, Nm s)
    ⟨[], P, none, none, none, rfl, rfl, rfl, fun s hs => by cases hs⟩ ?_) ?_
  · rintro i x e m hx ⟨ns, P, o3, o4, o5, rfl, rfl, hlen, hnm⟩
    refine Post.hide fun Q1 hQ1 => ?_
    simp only [List.getElem?_map, Option.map_eq_some_iff] at hx
    obtain ⟨a, ha, rfl⟩ := hx
    obtain ⟨c, hc, hc2⟩ := pick_sign h26.1 h26.2.1 (nxD_lo (P := P) (n := 26) (by decide)) (nxD_hi (P := P) (n := 26) (by decide))
    have hi : i < n := by
      have := (List.getElem?_eq_some_iff.mp ha).1
      simpa using this
    have d0 := nxD_lo (P := nxP P 26) (n := 12) (by decide)
    have d1 := nxD_hi (P := nxP P 26) (n := 12) (by decide)
    simp [next_Mm A hl, h26.2.2, hc]
    generalize hd : nxD (nxP P 26) 12 = d at *
    refine Post.bind (Post.bind ?_)
    rw [run_rgi d0 (by omega)]
    simp
    refine Post.mono (for_post (fun k e m => ∃ (P : Pl) (s : Str) (o5 : Option MV), e = [some (.ref p), some (.int n), some (.ref m0.length), some (.int a), some (.str s), o5] ∧ m = Mm p m0 P [.lst (ns.map MV.str)] ∧ s.length = k + 1 ∧ ∀ c ∈ s.cps.toList, c < 128)
      ⟨_, _, _, rfl, rfl, rfl, by simpa using hc2⟩ ?_) ?_
    · rintro k x e m hk ⟨P, s, o5, rfl, rfl, hs, hs2⟩
      obtain ⟨c, hc, hc2⟩ := pick_sign h36.1 h36.2.1 (nxD_lo (P := P) (n := 36) (by decide)) (nxD_hi (P := P) (n := 36) (by decide))
      have hk2 := (List.getElem?_eq_some_iff.mp hk).1
      simp at hk2
      have one : (⟨#[c]⟩ : Str).length = 1 := rfl
      have fit : s.length + (⟨#[c]⟩ : Str).length ≤ 16777216 := by rw [one]; omega
      refine Post.hide fun Q hQ => ?_
      simp [next_Mm A hl, h36.2.2, hc, fit]
      refine hQ _ _ ⟨_, rfl, _, _, _, rfl, rfl, ?_, ?_⟩
      · rw [PySem.strLen_append, hs, one]
      · intro c' hc'
        rw [PySem.Str.cps_append] at hc'
        simp at hc'
        rcases hc' with h | rfl
        · exact hs2 c' (by simpa using h)
        · exact hc2
    · rintro f m ⟨e, rfl, P, s, o5, rfl, rfl, hs, hs2⟩
      simp at hs
      simp [next_Mm A hl]
      rw [run_rgi (by omega) (by omega)]
      simp
      refine Post.bind ?_
      refine Post.mono (for_post (fun k e m => ∃ (s : Str) (o5 : Option MV), e = [some (.ref p), some (.int n), some (.ref m0.length), some (.int a), some (.str s), o5] ∧ m = Mm p m0 P [.lst (ns.map MV.str)] ∧ Nm s)
        ⟨_, _, rfl, rfl, by omega, hs2⟩ ?_) ?_
      · rintro k x e m hk ⟨s, o5, rfl, rfl, hs⟩
        simp only [List.getElem?_map, Option.map_eq_some_iff] at hk
        obtain ⟨b, hb, rfl⟩ := hk
        obtain ⟨b0, b1⟩ := mem_rg.mp (List.mem_of_getElem? hb)
        refine Post.hide fun Q hQ => ?_
        simp [in_strc Mm.new]
        split
        · have sp := spare_ok ⟨b.toNat, by omega⟩
          simp only [show ((b.toNat : Nat) : Int) = b by omega] at sp
          simp [sp.2.1, sp.2.2]
          exact hQ _ _ ⟨_, rfl, _, _, rfl, rfl, sp.1⟩
        · simp
          exact hQ _ _ ⟨_, rfl, _, _, rfl, rfl, hs⟩
      · rintro f m ⟨e, rfl, s, o5, rfl, rfl, hs⟩
        have fit : ns.length < 16777216 := by omega
        simp [ap_lstc Mm.new, ap_app Mm.new, fit, Mm.put]
        refine hQ1 _ _ ⟨_, rfl, ns ++ [s], P, _, _, _, rfl, by simp, by simp [hlen], fun t ht => ?_⟩
        rcases List.mem_append.mp ht with h | h
        · exact hnm t h
        · simp at h
          rw [h]
          exact hs
  · rintro f m ⟨e, rfl, ns, P, o3, o4, o5, rfl, rfl, hlen, hnm⟩
    simp [fix1_lst Mm.new, Mm.put, Mm.take]
    exact hQ0 _ _ ⟨_, _, rfl, rfl, by simpa using hlen, hnm⟩
end W76
set_option Elab.async false
set_option linter.all false
set_option maxRecDepth 100000
set_option maxHeartbeats 2000000
namespace W76
open PySem ML L2
abbrev Fs := List (Str × List Int)
def fk (fs : Fs) : List Key := fs.map fun f => Sum.inr f.1
def fv (fs : Fs) : List MV := fs.map fun f => li f.2
@[simp] theorem belows_fv (L : Nat) (fs : Fs) : belows L (fv fs) = true := belows_map L (fun f : Str × List Int => li f.2) (fun _ => belows_int L _) fs
def lookS : Fs → Str → Option (List Int)
  | (s, l) :: fs, k => if s = k then some l else lookS fs k
  | [], _ => none
def putS : Fs → Str → List Int → Fs
  | (s, l) :: fs, k, x => if s = k then (s, x) :: fs else (s, l) :: putS fs k x
  | [], k, x => [(k, x)]
theorem look_fs (fs : Fs) (k : Str) : lookK (fk fs) (fv fs) (Sum.inr k) = (lookS fs k).map li := by
  induction fs with
  | nil => rfl
  | cons f fs ih =>
    obtain ⟨s, l⟩ := f
    show (if (Sum.inr s : Key) = Sum.inr k then some (li l) else lookK (fk fs) (fv fs) (Sum.inr k)) = ((if s = k then some l else lookS fs k).map li)
    by_cases h : s = k
    · rw [if_pos (by rw [h]), if_pos h]
      rfl
    · rw [if_neg (by intro z; injection z; contradiction), if_neg h, ih]
def Nk (fs : Fs) : Prop := (fs.map (·.1)).Nodup
theorem put_fs (fs : Fs) (hn : Nk fs) (k : Str) (x : List Int) : putM (fk fs) (fv fs) (Sum.inr k) (li x) = (fk (putS fs k x), fv (putS fs k x)) := by
  have setN : ∀ fs : Fs, k ∉ fs.map (·.1) → setK (fk fs) (fv fs) (Sum.inr k) (li x) = fv fs := by
    intro fs
    induction fs with
    | nil => intro _; rfl
    | cons f fs ih =>
      intro h
      obtain ⟨s, l⟩ := f
      simp at h
      show ((if (Sum.inr s : Key) = Sum.inr k then li x else li l) :: setK (fk fs) (fv fs) (Sum.inr k) (li x)) = _
      rw [if_neg (by intro z; injection z with z; exact h.1 z.symm), ih (by simpa using h.2)]
      rfl
  have lookN : ∀ fs : Fs, k ∉ fs.map (·.1) → lookS fs k = none := by
    intro fs
    induction fs with
    | nil => intro _; rfl
    | cons f fs ih =>
      intro h
      obtain ⟨s, l⟩ := f
      simp at h
      show (if s = k then some l else lookS fs k) = none
      rw [if_neg (fun z => h.1 z.symm), ih (by simpa using h.2)]
  induction fs with
  | nil => rfl
  | cons f fs ih =>
    obtain ⟨s, l⟩ := f
    have hn' : s ∉ fs.map (·.1) ∧ Nk fs := List.nodup_cons.mp hn
    have ih := ih hn'.2
    unfold putM at ih ⊢
    rw [look_fs] at ih ⊢
    by_cases h : s = k
    · subst h
      rw [show lookS ((s, l) :: fs) s = some l from if_pos rfl, if_pos (show (Option.map li (some l)).isSome = true from rfl), show putS ((s, l) :: fs) s x = (s, x) :: fs from if_pos rfl]
      show (fk ((s, l) :: fs), (if (Sum.inr s : Key) = Sum.inr s then li x else li l) :: setK (fk fs) (fv fs) (Sum.inr s) (li x)) = _
      rw [if_pos rfl, setN fs hn'.1]
      rfl
    · rw [show lookS ((s, l) :: fs) k = lookS fs k from if_neg h, show putS ((s, l) :: fs) k x = (s, l) :: putS fs k x from if_neg h]
      cases hq : lookS fs k with
      | none =>
        rw [hq, if_neg (by simp)] at ih
        rw [if_neg (by simp)]
        injection ih with i1 i2
        show (Sum.inr s :: (fk fs ++ [Sum.inr k]), li l :: (fv fs ++ [li x])) = (Sum.inr s :: fk (putS fs k x), li l :: fv (putS fs k x))
        rw [i1, i2]
      | some y =>
        rw [hq, if_pos (by rfl)] at ih
        rw [if_pos (by rfl)]
        injection ih with i1 i2
        show (Sum.inr s :: fk fs, (if (Sum.inr s : Key) = Sum.inr k then li x else li l) :: setK (fk fs) (fv fs) (Sum.inr k) (li x)) = (Sum.inr s :: fk (putS fs k x), li l :: fv (putS fs k x))
        rw [if_neg (by intro z; injection z; contradiction), i2, i1]
theorem put_mem {fs : Fs} {k : Str} {x : List Int} {f : Str × List Int} (h : f ∈ putS fs k x) : f ∈ fs ∨ f = (k, x) := by
  induction fs with
  | nil => exact .inr (List.mem_singleton.mp h)
  | cons g fs ih =>
    obtain ⟨s, l⟩ := g
    unfold putS at h
    split at h
    · rename_i e
      rcases List.mem_cons.mp h with h | h
      · exact .inr (by rw [h, e])
      · exact .inl (List.mem_cons_of_mem _ h)
    · rcases List.mem_cons.mp h with h | h
      · exact .inl (by rw [h]; exact List.mem_cons_self ..)
      · exact (ih h).imp (List.mem_cons_of_mem _) id
theorem put_keys {fs : Fs} {k : Str} {x : List Int} : (putS fs k x).map (·.1) = if k ∈ fs.map (·.1) then fs.map (·.1) else fs.map (·.1) ++ [k] := by
  induction fs with
  | nil => rfl
  | cons g fs ih =>
    obtain ⟨s, l⟩ := g
    unfold putS
    by_cases h : s = k
    · rw [if_pos h]
      simp [h]
    · rw [if_neg h, List.map_cons, ih]
      have h' : ¬ k = s := fun z => h z.symm
      by_cases q : k ∈ fs.map (·.1)
      · rw [if_pos q, if_pos (by simp only [List.map_cons]; exact List.mem_cons_of_mem _ q)]
        rfl
      · rw [if_neg q, if_neg (by simp only [List.map_cons, List.mem_cons, not_or]; exact ⟨h', q⟩)]
        rfl
theorem put_nodup {fs : Fs} {k : Str} {x : List Int} (h : Nk fs) : Nk (putS fs k x) := by
  unfold Nk
  rw [put_keys]
  split
  · exact h
  · rename_i q
    rw [List.nodup_append]
    exact ⟨h, by simp, fun a ha b hb => by
      simp at hb
      rw [hb]
      exact fun z => q (z ▸ ha)⟩
theorem put_len {fs : Fs} {k : Str} {x : List Int} : (putS fs k x).length ≤ fs.length + 1 := by
  have := congrArg List.length (put_keys (fs := fs) (k := k) (x := x))
  rw [List.length_map] at this
  rw [this]
  split <;> simp
/-- the facts of a world with n elements -/
def FsOk (n : Nat) (fs : Fs) : Prop := Nk fs ∧ ∀ f ∈ fs, Nm f.1 ∧ f.2.length ≤ 64 ∧ ∀ i ∈ f.2, 0 ≤ i ∧ i < n
theorem FsOk.put {n : Nat} {fs : Fs} {k : Str} {x : List Int} (h : FsOk n fs) (hk : Nm k) (hl : x.length ≤ 64) (hx : ∀ i ∈ x, 0 ≤ i ∧ i < n) : FsOk n (putS fs k x) := ⟨put_nodup h.1, fun f hf => by
  rcases put_mem hf with q | q
  · exact h.2 f q
  · rw [q]
    exact ⟨hk, hl, hx⟩⟩
theorem Mm.putD {p : Nat} {m0 : Mo} {P : Pl} {c c' : MCell} : (Mm p m0 P [c]).set m0.length c' = Mm p m0 P [c'] := Mm.put
theorem dput_c {m : Mo} {p : Nat} {fs : Fs} {k : Str} {x : List Int} (h : m[p]? = some (.dK (fk fs) (fv fs))) (hn : Nk fs) (hl : fs.length < 16777216) : dPutM m (.ref p) (.str k) (li x) = some (m.set p (.dK (fk (putS fs k x)) (fv (putS fs k x)))) := by
  unfold dPutM
  dsimp only
  rw [h]
  dsimp only [keyM]
  rw [put_fs fs hn]
  refine if_pos ⟨?_, belows_fv _ _⟩
  unfold fk
  rw [List.length_map]
  exact hl
theorem comp_all {P : Int → Prop} {Q : Int → Prop} {l : List Int} {t : Int → Bool} {f : Int → Int} (h : ∀ a ∈ l, P a) (q : ∀ a, P a → Q (f a)) : ∀ i ∈ (l.filter t).map f, Q i := by
  intro i hi
  obtain ⟨a, ha, rfl⟩ := List.mem_map.mp hi
  exact q a (h a (List.mem_filter.mp ha).1)
theorem facts_ex (A : Ad) {m0 : Mo} {p : Nat} {P : Pl} {n : Nat} {ws : List Str} (hl : p < m0.length) (hp : m0[p]? = some (plC P)) (h0 : 0 < n) (hn : n ≤ 64) (hw : ∀ s ∈ ws, Nm s) (hwl : ws.length ≤ 64) :
    Post (f_law_facts A [.ref p, .int n, .lst (ws.map MV.str)] m0) fun x m' => ∃ (fs : Fs) (P' : Pl), x = .dK (fk fs) (fv fs) ∧ m' = m0.set p (plC P') ∧ FsOk n fs ∧ fs.length ≤ 64 := by
  unfold f_law_facts b_law_facts
  refine Post.hide fun Q0 hQ0 => ?_
  simp only [body_ap, startM]
  have e0 : m0 ++ [MCell.dK [] []] = Mm p m0 P [.dK [] []] := by
    unfold Mm
    have : m0.set p (plC P) = m0 := by
      apply List.ext_getElem?
      intro j
      by_cases q : p = j
      · subst q
        rw [List.getElem?_set_self hl, hp]
      · rw [List.getElem?_set_ne q]
    rw [this]
  have hn' : (0 : Int) < n := by omega
  have hn2 : (n : Int) < 1073741824 := by omega
  have hz : n ≤ 16777216 := by omega
  simp [e0]
  refine Post.fin (Post.bind ?_)
  refine Post.mono (for_post (fun k e m => ∃ (fs : Fs) (P : Pl) (o4 o5 o6 o7 : Option MV), e = [some (.ref p), some (.int n), some (.lst (ws.map MV.str)), some (.ref m0.length), o4, o5, o6, o7] ∧ m = Mm p m0 P [.dK (fk fs) (fv fs)] ∧ FsOk n fs ∧ fs.length ≤ k)
    ⟨[], P, none, none, none, none, rfl, rfl, ⟨List.nodup_nil, fun f hf => by cases hf⟩, Nat.le_refl _⟩ ?_) ?_
  · rintro i x e m hx ⟨fs, P, o4, o5, o6, o7, rfl, rfl, hok, hlen⟩
    refine Post.hide fun Q1 hQ1 => ?_
    simp only [List.getElem?_map, Option.map_eq_some_iff] at hx
    obtain ⟨wd, hwd, rfl⟩ := hx
    have hnm := hw _ (List.mem_of_getElem? hwd)
    have hi : i < ws.length := (List.getElem?_eq_some_iff.mp hwd).1
    have hlf : fs.length < 16777216 := by omega
    simp [next_Mm A hl, hn', hn2, h0]
    generalize nxD P 4 = d4
    generalize nxP P 4 = P4
    have f0 := nxD_lo (P := P4) hn'
    have f1 := nxD_hi (P := P4) hn'
    generalize nxD P4 n = fi at *
    generalize nxP P4 n = P5
    have ln : ∀ (t : Int → Bool) (f : Int → Int), (((rg n).filter t).map f).length ≤ 64 := fun t f => by
      rw [List.length_map]
      have := List.length_filter_le t (rg n)
      rw [rg_length] at this
      omega
    split
    · have c1 := compL_map (m := Mm p m0 P5 [.dK (fk fs) (fv fs)]) (j := 7) (mt := mOpB fGe (mVar 7) (mVar 6)) (me := mVar 7) (e0 := [some (.ref p), some (.int n), some (.lst (ws.map MV.str)), some (.ref m0.length), some (.str wd), some (.int d4), some (.int fi), none]) MV.int (fun a => decide (fi ≤ a)) MV.int (rg n) fun a _ => by simp
      have e1 : ((rg n).filter fun a => decide (fi ≤ a)).map MV.int = (((rg n).filter fun a => decide (fi ≤ a)).map id).map MV.int := by rw [List.map_id]
      simp [run_rg hz, hz, mwipe, c1]
      rw [e1, show MV.lst ((((rg n).filter fun a => decide (fi ≤ a)).map id).map MV.int) = li (((rg n).filter fun a => decide (fi ≤ a)).map id) from rfl, dput_c Mm.new hok.1 hlf, Mm.put]
      refine post_ok.mpr (hQ1 _ _ ⟨_, rfl, _, _, _, _, _, _, rfl, rfl, hok.put hnm (ln _ _) (comp_all (fun a ha => mem_rg.mp ha) fun a h => h), Nat.le_trans put_len (by omega)⟩)
    · split
      · have c1 := compL_map (m := Mm p m0 P5 [.dK (fk fs) (fv fs)]) (j := 7) (mt := mOpB fNe (mVar 7) (mVar 6)) (me := mOp oSub (mOp oSub (mVar 1) (mC (.int 1))) (mVar 7)) (e0 := [some (.ref p), some (.int n), some (.lst (ws.map MV.str)), some (.ref m0.length), some (.str wd), some (.int d4), some (.int fi), none]) MV.int (fun a => !decide (a = fi)) (fun a => MV.int ((n : Int) - 1 - a)) (rg n) fun a _ => by simp
        have e1 : ((rg n).filter fun a => !decide (a = fi)).map (fun a => MV.int ((n : Int) - 1 - a)) = (((rg n).filter fun a => !decide (a = fi)).map fun a => (n : Int) - 1 - a).map MV.int := by
          rw [List.map_map]
          rfl
        rw [e1] at c1
        refine Post.bind ?_
        rw [run_rg hz, R.bind_ok, kLc_ap, List.length_map, rg_length, if_pos hz]
        simp only [mwipe, List.set_cons_succ, List.set_cons_zero]
        rw [c1, nox_ok, R.bind_ok, kLc2_ap, post_ok]
        rw [show MV.lst ((((rg n).filter fun a => !decide (a = fi)).map fun a => (n : Int) - 1 - a).map MV.int) = li (((rg n).filter fun a => !decide (a = fi)).map fun a => (n : Int) - 1 - a) from rfl]
        simp
        rw [dput_c Mm.new hok.1 hlf, Mm.put]
        exact post_ok.mpr (hQ1 _ _ ⟨_, rfl, _, _, _, _, _, _, rfl, rfl, hok.put hnm (ln _ _) (comp_all (fun a ha => mem_rg.mp ha) fun a h => by omega), Nat.le_trans put_len (by omega)⟩)
      · split
        · simp [run_rg hz, hz, mwipe]
          refine Post.bind (Post.bind (Post.nox ?_))
          refine Post.mono (comp_post (fun m => ∃ P, m = Mm p m0 P [.dK (fk fs) (fv fs)]) (fun x y => y = x) ⟨_, rfl⟩ ?_) ?_
          · rintro x hx m ⟨P, rfl⟩
            obtain ⟨a, ha, rfl⟩ := List.mem_map.mp hx
            refine Post.hide fun Q2 hQ2 => ?_
            simp [next_Mm A hl]
            exact hQ2 _ _ ⟨⟨_, rfl⟩, fun _ => ⟨_, _, rfl, rfl, _, rfl⟩⟩
          · rintro ys m ⟨⟨P, rfl⟩, hyl, hys⟩
            have : ∃ zs : List Int, ys = zs.map MV.int ∧ ∀ z ∈ zs, 0 ≤ z ∧ z < n := by
              clear hyl
              induction ys with
              | nil => exact ⟨[], rfl, fun z hz => by cases hz⟩
              | cons y ys ih =>
                obtain ⟨zs, rfl, h2⟩ := ih fun y hy => hys y (List.mem_cons_of_mem _ hy)
                obtain ⟨x, hx, e⟩ := hys y (List.mem_cons_self ..)
                obtain ⟨a, ha, rfl⟩ := List.mem_map.mp hx
                refine ⟨a :: zs, by rw [e]; rfl, fun z hz => ?_⟩
                rcases List.mem_cons.mp hz with h | h
                · rw [h]
                  exact mem_rg.mp ha
                · exact h2 z h
            obtain ⟨zs, rfl, h2⟩ := this
            simp at hyl
            simp
            rw [show MV.lst (zs.map MV.int) = li zs from rfl, dput_c Mm.new hok.1 hlf, Mm.put]
            exact post_ok.mpr (hQ1 _ _ ⟨_, rfl, _, _, _, _, _, _, rfl, rfl, hok.put hnm (by omega) h2, Nat.le_trans put_len (by omega)⟩)
        · exact post_ok.mpr (hQ1 _ _ ⟨_, rfl, _, _, _, _, _, _, rfl, rfl, hok, by omega⟩)
  · rintro f m ⟨e, rfl, fs, P, o4, o5, o6, o7, rfl, rfl, hok, hlen⟩
    simp [fix1_dK Mm.new, Mm.put, Mm.take]
    simp at hlen
    exact hQ0 _ _ ⟨fs, _, rfl, rfl, hok, by omega⟩
end W76
set_option Elab.async false
set_option linter.all false
set_option maxRecDepth 100000
set_option maxHeartbeats 2000000
namespace W76
open PySem ML L2
inductive Sen where
  | word (s : Str)
  | menu (a b : Sen)
  | trade (a b : Sen)
def Sen.mv : Sen → MV
  | .word s => .tup [.str "word", .str s]
  | .menu a b => .tup [.str "menu", a.mv, b.mv]
  | .trade a b => .tup [.str "trade", .str "once", a.mv, b.mv]
def Sen.nest : Sen → Nat
  | .word _ => 0
  | .menu a b => max a.nest b.nest + 1
  | .trade a b => max a.nest b.nest + 1
theorem sen_below (L : Nat) : ∀ s : Sen, ML.below L s.mv = true
  | .word _ => rfl
  | .menu a b => by simp [Sen.mv, sen_below L a, sen_below L b]
  | .trade a b => by simp [Sen.mv, sen_below L a, sen_below L b]
theorem at_of {α : Type} {l : List α} {d : Int} (h0 : 0 ≤ d) (h1 : d < l.length) : ∃ x, atI l d = some x ∧ x ∈ l := by
  have e : d = ((d.toNat : Nat) : Int) := by omega
  rw [e, atI_nat']
  have hl : d.toNat < l.length := by omega
  exact ⟨l[d.toNat], List.getElem?_eq_getElem hl, List.getElem_mem hl⟩
theorem at_map {α : Type} {l : List α} {g : α → MV} {d : Int} {x : α} (h : atI l d = some x) : atI (l.map g) d = some (g x) := by
  unfold atI at h ⊢
  rw [List.length_map]
  cases hq : ixN l.length d with
  | none => rw [hq] at h; cases h
  | some j =>
    rw [hq] at h
    have h' : l[j]? = some x := h
    show (l.map g)[j]? = some (g x)
    rw [List.getElem?_map, h']
    rfl
theorem next_Dr (A : Ad) {p : Nat} {m0 : Mo} {P : Pl} {n : Int} (h : p < m0.length) (h0 : 0 < n) (h1 : n < 1073741824) : f_law_next A [.ref p, .int n] (m0.set p (plC P)) = .ok (.int (nxD P n)) (m0.set p (plC (nxP P n))) := by
  rw [next_eq A (List.getElem?_set_self h) h0 h1, List.set_set]
theorem sentence_ex (A : Ad) {m0 : Mo} {p : Nat} {P : Pl} {n : Int} {ws : List Str} (hl : p < m0.length) (hw0 : 0 < ws.length) (hw1 : ws.length ≤ 64) (h0 : 0 ≤ n) (h1 : n ≤ 20) :
    Post (f_law_sentence A [.ref p, .lst (ws.map MV.str), .int n] (m0.set p (plC P))) fun x m' => ∃ (s : Sen) (P' : Pl), x = s.mv ∧ m' = m0.set p (plC P') ∧ s.nest ≤ 20 := by
  unfold f_law_sentence b_law_sentence
  refine Post.hide fun Q0 hQ0 => ?_
  simp only [body_ap, startM]
  have w0 : (0 : Int) < ws.length := by omega
  have w1 : (ws.length : Int) < 1073741824 := by omega
  have word : ∀ P : Pl, ∃ s, atI (ws.map MV.str) (nxD P ws.length) = some (.str s) := fun P => by
    obtain ⟨s, hs, _⟩ := at_of (l := ws) (nxD_lo (P := P) w0) (nxD_hi w0)
    exact ⟨s, at_map hs⟩
  obtain ⟨s0, hs0⟩ := word P
  simp [next_Dr A hl, w0, w1, hw0, hs0, run_rgi h0 (show n ≤ 16777216 by omega)]
  refine Post.fin (Post.bind ?_)
  refine Post.mono (for_post (fun k e m => ∃ (s : Sen) (P : Pl) (o4 o5 o6 : Option MV), e = [some (.ref p), some (.lst (ws.map MV.str)), some (.int n), some s.mv, o4, o5, o6] ∧ m = m0.set p (plC P) ∧ s.nest ≤ k)
    ⟨.word s0, _, none, none, none, rfl, rfl, Nat.le_refl _⟩ ?_) ?_
  · rintro i x e m hx ⟨s, P, o4, o5, o6, rfl, rfl, hs⟩
    refine Post.hide fun Q1 hQ1 => ?_
    obtain ⟨s1, hs1⟩ := word P
    simp [next_Dr A hl, w0, w1, hw0, hs1]
    have nw : (Sen.word s1).nest = 0 := rfl
    split
    · simp
      exact hQ1 _ _ ⟨_, rfl, .menu s (.word s1), _, _, _, _, rfl, rfl, by unfold Sen.nest; omega⟩
    · split
      · simp
        exact hQ1 _ _ ⟨_, rfl, .menu (.word s1) s, _, _, _, _, rfl, rfl, by unfold Sen.nest; omega⟩
      · split
        · simp
          exact hQ1 _ _ ⟨_, rfl, .trade (.word s1) s, _, _, _, _, rfl, rfl, by unfold Sen.nest; omega⟩
        · split
          · simp
            exact hQ1 _ _ ⟨_, rfl, .trade s (.word s1), _, _, _, _, rfl, rfl, by unfold Sen.nest; omega⟩
          · by_cases h3 : 3 < n
            · simp [h3]
              exact hQ1 _ _ ⟨_, rfl, .trade (.word s1) s, _, _, _, _, rfl, rfl, by unfold Sen.nest; omega⟩
            · simp [h3]
              exact hQ1 _ _ ⟨_, rfl, .trade s s, _, _, _, _, rfl, rfl, by unfold Sen.nest; omega⟩
  · rintro f m ⟨e, rfl, s, P, o4, o5, o6, rfl, rfl, hs⟩
    simp at hs
    simp [sen_below]
    have : (m0.set p (plC P)).length = m0.length := by simp
    exact hQ0 _ _ ⟨s, P, rfl, by simp, by omega⟩
end W76
set_option Elab.async false
set_option linter.all false
set_option maxRecDepth 100000
set_option maxHeartbeats 2000000
namespace W76
open PySem ML L2
theorem atl (l : List MV) (i : Int) : atI l i = (ixN l.length i).bind fun j => l[j]? := rfl
theorem for_ret {j : Nat} {ms : MS} {l : List MV} {e : ML.Env} {m : Mo} {b : Bool} {I : ML.Env → Prop} {y : MV} {L : Nat} {rest : MS} {Q : MV → Mo → Prop}
    (h : Post (forL (gSet j) ms l e m) fun f m' => m' = m ∧ (if b = true then ∃ e', f = .next e' ∧ I e' else f = .ret y))
    (k1 : b = true → ∀ e', I e' → Post (finM L (rest e' m)) Q) (k2 : b = false → Post (finM L (.ok (.ret y) m)) Q) : Post (finM L ((forL (gSet j) ms l e m).bind (kSeq rest))) Q := by
  obtain ⟨f, m', h1, rfl, h2⟩ := h
  rw [h1, R.bind_ok]
  cases b with
  | true =>
    rw [if_pos rfl] at h2
    obtain ⟨e', rfl, h3⟩ := h2
    exact k1 rfl e' h3
  | false =>
    rw [if_neg (by simp)] at h2
    subst h2
    exact k2 rfl
/-- all rows as long as they are many, all items elements -/
def inR (n : Nat) (i : Int) : Bool := decide (0 ≤ i) && decide (i < n)
def shapeB (rows : List (List Int)) : Bool := rows.all fun r => decide (r.length = rows.length) && r.all (inR rows.length)
theorem shape_eq (A : Ad) (rows : List (List Int)) (m : Mo) : Post (f_has_shape A [tb rows] m) fun x m' => m' = m ∧ x = .bl (shapeB rows && decide (0 < rows.length)) := by
  unfold f_has_shape b_has_shape
  refine Post.hide fun Q0 hQ0 => ?_
  simp only [body_ap, startM, tb]
  simp
  refine for_ret (tests_post li (fun r => decide (r.length = rows.length) && r.all (inR rows.length)) (.bl false) (fun e => ∃ o2 o3, e = [some (.lst (rows.map li)), some (.int rows.length), o2, o3]) rows _ ⟨_, _, rfl⟩ ?_) ?_ ?_
  · rintro r hr e ⟨o2, o3, rfl⟩
    refine Post.hide fun Q1 hQ1 => ?_
    by_cases hlen : r.length = rows.length
    · simp [li, hlen]
      refine Post.mono (tests_post MV.int (inR rows.length) (.bl false) (fun e => ∃ o3, e = [some (.lst (rows.map li)), some (.int rows.length), some (li r), o3]) r _ ⟨_, rfl⟩ ?_) ?_
      · rintro i hi e ⟨o3, rfl⟩
        refine Post.hide fun Q2 hQ2 => ?_
        by_cases h0 : 0 ≤ i
        · by_cases h1 : i < rows.length
          · simp [h0, h1]
            exact hQ2 _ _ ⟨rfl, by simp [inR, h0, h1]⟩
          · simp [h0, h1]
            exact hQ2 _ _ ⟨rfl, by simp [inR, h0, h1]⟩
        · simp [h0]
          exact hQ2 _ _ ⟨rfl, by simp [inR, h0]⟩
      · rintro f m' ⟨rfl, h⟩
        refine hQ1 _ _ ⟨rfl, ?_⟩
        simp only [hlen, decide_true, Bool.true_and]
        split
        · rename_i q
          rw [if_pos q] at h
          obtain ⟨e', rfl, o3, rfl⟩ := h
          exact ⟨_, rfl, _, _, rfl⟩
        · rename_i q
          rw [if_neg q] at h
          exact h
    · have hlen' : ¬ (r.length : Int) = rows.length := by omega
      have hq : (decide (r.length = rows.length) && r.all (inR rows.length)) = false := by rw [decide_eq_false hlen, Bool.false_and]
      rw [hq] at hQ1
      simp [li, hlen, hlen']
      exact hQ1 _ _ ⟨rfl, rfl⟩
  · rintro hb e' ⟨o2, o3, rfl⟩
    simp
    exact hQ0 _ _ ⟨by simp, by unfold shapeB; rw [hb, Bool.true_and]⟩
  · intro hb
    simp
    exact hQ0 _ _ ⟨by simp, by unfold shapeB; rw [hb, Bool.false_and]⟩
end W76
set_option Elab.async false
set_option linter.all false
set_option maxRecDepth 100000
set_option maxHeartbeats 2000000
namespace W76
open PySem ML L2
def row (rows : List (List Int)) (i : Int) : List Int := rows.getD i.toNat []
def g0 (r : List Int) (j : Int) : Int := r.getD j.toNat 0
def cel (rows : List (List Int)) (i j : Int) : Int := g0 (row rows i) j
/-- a table of n rows of n elements -/
def Sq (n : Nat) (rows : List (List Int)) : Prop := rows.length = n ∧ ∀ r ∈ rows, r.length = n ∧ ∀ i ∈ r, 0 ≤ i ∧ i < n
theorem Sq.row {n : Nat} {rows : List (List Int)} (h : Sq n rows) {i : Int} (h0 : 0 ≤ i) (h1 : i < n) : atI (rows.map li) i = some (li (W76.row rows i)) ∧ W76.row rows i ∈ rows ∧ (W76.row rows i).length = n := by
  have hl : i.toNat < rows.length := by rw [h.1]; omega
  have e : W76.row rows i = rows[i.toNat] := by unfold W76.row; simp [hl]
  have hm : W76.row rows i ∈ rows := by rw [e]; exact List.getElem_mem hl
  refine ⟨?_, hm, (h.2 _ hm).1⟩
  rw [show i = ((i.toNat : Nat) : Int) by omega, atI_nat', List.getElem?_map]
  rw [show ((i.toNat : Nat) : Int) = i by omega, e, List.getElem?_eq_getElem hl]
  rfl
theorem at_row {r : List Int} {n : Nat} (hr : r.length = n) {j : Int} (h0 : 0 ≤ j) (h1 : j < n) : atI (r.map MV.int) j = some (.int (g0 r j)) ∧ g0 r j ∈ r := by
  have hl : j.toNat < r.length := by omega
  have e : g0 r j = r[j.toNat] := by unfold g0; simp [hl]
  refine ⟨?_, by rw [e]; exact List.getElem_mem hl⟩
  have e2 : atI (r.map MV.int) ((j.toNat : Nat) : Int) = some (.int r[j.toNat]) := by
    rw [atI_nat', List.getElem?_map, List.getElem?_eq_getElem hl]
    rfl
  rw [e, ← e2]
  congr 1
  omega
theorem Sq.cel {n : Nat} {rows : List (List Int)} (h : Sq n rows) {i j : Int} (h0 : 0 ≤ i) (h1 : i < n) (h2 : 0 ≤ j) (h3 : j < n) : atI ((W76.row rows i).map MV.int) j = some (.int (W76.cel rows i j)) ∧ 0 ≤ W76.cel rows i j ∧ W76.cel rows i j < n := by
  obtain ⟨_, hm, hl⟩ := h.row h0 h1
  obtain ⟨e1, e2⟩ := at_row hl h2 h3
  exact ⟨e1, (h.2 _ hm).2 _ e2⟩
def orderB (n : Nat) (rows : List (List Int)) : Bool := (rg n).all fun i => (rg i.toNat).all fun j => decide (cel rows i j = cel rows j i)
theorem order_eq (A : Ad) {n : Nat} {rows : List (List Int)} (h : Sq n rows) (hn : n ≤ 1000) (m : Mo) : Post (f_keeps_order A [tb rows] m) fun x m' => m' = m ∧ x = .bl (orderB n rows) := by
  unfold f_keeps_order b_keeps_order
  refine Post.hide fun Q0 hQ0 => ?_
  simp only [body_ap, startM, tb]
  simp [h.1, run_rg (show n ≤ 16777216 by omega)]
  refine for_ret (tests_post MV.int (fun i => (rg i.toNat).all fun j => decide (cel rows i j = cel rows j i)) (.bl false) (fun e => ∃ o1 o2, e = [some (.lst (rows.map li)), o1, o2]) (rg n) _ ⟨_, _, rfl⟩ ?_) ?_ ?_
  · rintro i hi e ⟨o1, o2, rfl⟩
    obtain ⟨i0, i1⟩ := mem_rg.mp hi
    refine Post.hide fun Q1 hQ1 => ?_
    simp [run_rgi i0 (show i ≤ 16777216 by omega)]
    refine Post.mono (tests_post MV.int (fun j => decide (cel rows i j = cel rows j i)) (.bl false) (fun e => ∃ o2, e = [some (.lst (rows.map li)), some (.int i), o2]) (rg i.toNat) _ ⟨_, rfl⟩ ?_) ?_
    · rintro j hj e ⟨o2, rfl⟩
      obtain ⟨j0, j1⟩ := mem_rg.mp hj
      have r1 := (h.row i0 i1).1
      have r2 := (h.row (i := j) j0 (by omega)).1
      have c1 := (h.cel (i := i) (j := j) i0 i1 j0 (by omega)).1
      have c2 := (h.cel (i := j) (j := i) j0 (by omega) i0 i1).1
      refine Post.hide fun Q2 hQ2 => ?_
      by_cases hc : cel rows i j = cel rows j i
      · rw [decide_eq_true hc] at hQ2
        rw [← hc] at c2
        simp [r1, r2, li, c1, c2]
        exact hQ2 _ _ ⟨rfl, _, rfl, _, rfl⟩
      · rw [decide_eq_false hc] at hQ2
        simp [r1, r2, li, c1, c2, hc]
        exact hQ2 _ _ ⟨rfl, rfl⟩
    · rintro f m' ⟨rfl, h⟩
      refine hQ1 _ _ ⟨rfl, ?_⟩
      split
      · rename_i q
        rw [if_pos q] at h
        obtain ⟨e', rfl, o3, rfl⟩ := h
        exact ⟨_, rfl, _, _, rfl⟩
      · rename_i q
        rw [if_neg q] at h
        exact h
  · rintro hb e' ⟨o1, o2, rfl⟩
    simp
    exact hQ0 _ _ ⟨by simp, by unfold orderB; rw [hb]⟩
  · intro hb
    simp
    exact hQ0 _ _ ⟨by simp, by unfold orderB; rw [hb]⟩
def groupB (n : Nat) (rows : List (List Int)) : Bool := rows.all fun r => (rg n).all fun s => decide (row rows (g0 r s) = (row rows s).map fun it => g0 r it)
theorem group_eq (A : Ad) {n : Nat} {rows : List (List Int)} (h : Sq n rows) (hn : n ≤ 1000) (m : Mo) : Post (f_keeps_grouping A [tb rows] m) fun x m' => m' = m ∧ x = .bl (groupB n rows) := by
  unfold f_keeps_grouping b_keeps_grouping
  refine Post.hide fun Q0 hQ0 => ?_
  simp only [body_ap, startM, tb]
  simp
  refine for_ret (tests_post li (fun r => (rg n).all fun s => decide (row rows (g0 r s) = (row rows s).map fun it => g0 r it)) (.bl false) (fun e => ∃ o1 o2 o3, e = [some (.lst (rows.map li)), o1, o2, o3]) rows _ ⟨_, _, _, rfl⟩ ?_) ?_ ?_
  · rintro r hr e ⟨o1, o2, o3, rfl⟩
    have hrl := (h.2 r hr).1
    refine Post.hide fun Q1 hQ1 => ?_
    simp [h.1, run_rg (show n ≤ 16777216 by omega)]
    refine Post.mono (tests_post MV.int (fun s => decide (row rows (g0 r s) = (row rows s).map fun it => g0 r it)) (.bl false) (fun e => ∃ o2 o3, e = [some (.lst (rows.map li)), some (li r), o2, o3]) (rg n) _ ⟨_, _, rfl⟩ ?_) ?_
    · rintro s hs e ⟨o2, o3, rfl⟩
      obtain ⟨s0, s1⟩ := mem_rg.mp hs
      obtain ⟨a1, a2⟩ := at_row hrl s0 s1
      obtain ⟨b0, b1⟩ := (h.2 r hr).2 _ a2
      have r1 := (h.row b0 b1).1
      obtain ⟨r2, m2, l2⟩ := h.row s0 s1
      have hl2 : (row rows s).length ≤ 16777216 := by omega
      refine Post.hide fun Q2 hQ2 => ?_
      have c1 := compL_all (m := m) (j := 3) (me := mOp oIx (mVar 1) (mVar 3)) (e0 := [some (.lst (rows.map li)), some (li r), some (.int s), none]) MV.int (fun it => MV.int (g0 r it)) (row rows s) fun it hit => by
        obtain ⟨t0, t1⟩ := (h.2 _ m2).2 it hit
        simp [li, (at_row hrl t0 t1).1]
      have c2 : compL (gSet 3) mYes (mOp oIx (mVar 1) (mVar 3)) [some (.lst (rows.map li)), some (li r), some (.int s), none] ((row rows s).map MV.int) m = .ok (((row rows s).map fun it => g0 r it).map MV.int) m := by
        rw [c1, List.map_map]
        rfl
      have hne : ∀ x y : List Int, fNe (li x) (.lst (y.map MV.int)) m = some (!decide (x = y)) := fun x y => ne_ints
      have a1' : oIx (li r) (.int s) m = .ok (.int (g0 r s)) m := by
        show (match atI (r.map MV.int) s with | some v => R.ok v m | none => .stuck) = _
        rw [a1]
      have k2 : kISeq (li (row rows s)) m = .ok ((row rows s).map MV.int) m := rfl
      generalize hys : (row rows s).map (fun it => g0 r it) = ys at c2 hQ2
      simp [a1', r1, r2, k2, hl2, mwipe, c2, hne]
      by_cases hc : row rows (g0 r s) = ys
      · rw [decide_eq_true hc] at hQ2
        simp [hc]
        exact hQ2 _ _ ⟨rfl, _, rfl, _, _, rfl⟩
      · rw [decide_eq_false hc] at hQ2
        simp [hc]
        exact hQ2 _ _ ⟨rfl, rfl⟩
    · rintro f m' ⟨rfl, h⟩
      refine hQ1 _ _ ⟨rfl, ?_⟩
      split
      · rename_i q
        rw [if_pos q] at h
        obtain ⟨e', rfl, o2, o3, rfl⟩ := h
        exact ⟨_, rfl, _, _, _, rfl⟩
      · rename_i q
        rw [if_neg q] at h
        exact h
  · rintro hb e' ⟨o1, o2, o3, rfl⟩
    simp
    exact hQ0 _ _ ⟨by simp, by unfold groupB; rw [hb]⟩
  · intro hb
    simp
    exact hQ0 _ _ ⟨by simp, by unfold groupB; rw [hb]⟩
end W76
set_option Elab.async false
set_option linter.all false
set_option maxRecDepth 100000
set_option maxHeartbeats 2000000
namespace W76
open PySem ML L2
theorem for_ret' {r : R MF} {m : Mo} {b : Bool} {I : ML.Env → Prop} {y : MV} {L : Nat} {rest : MS} {Q : MV → Mo → Prop}
    (h : Post r fun f m' => m' = m ∧ (if b = true then ∃ e', f = .next e' ∧ I e' else f = .ret y))
    (k1 : b = true → ∀ e', I e' → Post (finM L (rest e' m)) Q) (k2 : b = false → Post (finM L (.ok (.ret y) m)) Q) : Post (finM L (r.bind (kSeq rest))) Q := by
  obtain ⟨f, m', h1, rfl, h2⟩ := h
  rw [h1, R.bind_ok]
  cases b with
  | true =>
    rw [if_pos rfl] at h2
    obtain ⟨e', rfl, h3⟩ := h2
    exact k1 rfl e' h3
  | false =>
    rw [if_neg (by simp)] at h2
    subst h2
    exact k2 rfl
theorem post_eq {r : R MV} {m : Mo} {y : MV} (h : Post r fun x m' => m' = m ∧ x = y) : r = .ok y m := by
  obtain ⟨x, m', h1, h2, h3⟩ := h
  rw [h1, h2, h3]
theorem look_mem {fs : Fs} (h : Nk fs) {f : Str × List Int} (hf : f ∈ fs) : lookS fs f.1 = some f.2 := by
  induction fs with
  | nil => cases hf
  | cons g fs ih =>
    obtain ⟨s, l⟩ := g
    have hn : s ∉ fs.map (·.1) ∧ Nk fs := List.nodup_cons.mp h
    rcases List.mem_cons.mp hf with e | hf
    · rw [e]
      exact if_pos rfl
    · show (if s = f.1 then some l else lookS fs f.1) = some f.2
      rw [if_neg (fun z => hn.1 (by rw [z]; exact List.mem_map_of_mem hf)), ih hn.2 hf]
theorem keys_fs (fs : Fs) : (fk fs).map kM = fs.map fun f => MV.str f.1 := by
  unfold fk
  rw [List.map_map]
  rfl
theorem dget_fs {fs : Fs} {m : Mo} {k : Str} : dGet (.dK (fk fs) (fv fs)) (.str k) m = some ((lookS fs k).map li) := by
  show (keyM (.str k)).map (fun k => lookK (fk fs) (fv fs) k) = _
  show some (lookK (fk fs) (fv fs) (Sum.inr k)) = _
  rw [look_fs]
theorem sq_of {rows : List (List Int)} (h : shapeB rows = true) : Sq rows.length rows := by
  refine ⟨rfl, fun r hr => ?_⟩
  have := List.all_eq_true.mp h r hr
  rw [Bool.and_eq_true] at this
  refine ⟨of_decide_eq_true this.1, fun i hi => ?_⟩
  have := List.all_eq_true.mp this.2 i hi
  unfold inR at this
  simpa using this
def factsB (n : Nat) (fs : Fs) : Bool := fs.all fun f => f.2.all (inR n)
def fault (rows : List (List Int)) (fs : Fs) : Option Str :=
  if (shapeB rows && decide (0 < rows.length)) = false then some "shape"
  else if ¬ row rows 0 = rg rows.length then some "unit"
  else if orderB rows.length rows = false then some "order"
  else if groupB rows.length rows = false then some "grouping"
  else if factsB rows.length fs = false then some "fact"
  else none
def optS : Option Str → MV
  | none => .non
  | some s => .str s
theorem fault_eq (A : Ad) {rows : List (List Int)} {fs : Fs} (hk : Nk fs) (hn : rows.length ≤ 1000) (m : Mo) : Post (f_fault_of A [tb rows, .dK (fk fs) (fv fs)] m) fun x m' => m' = m ∧ x = optS (fault rows fs) := by
  unfold f_fault_of b_fault_of
  refine Post.hide fun Q0 hQ0 => ?_
  simp only [body_ap, startM]
  have s1 := post_eq (shape_eq A rows m)
  unfold fault at hQ0
  cases hs : shapeB rows && decide (0 < rows.length) with
  | false =>
    rw [hs] at s1 hQ0
    rw [if_pos rfl] at hQ0
    simp [s1]
    exact hQ0 _ _ ⟨by simp, rfl⟩
  | true =>
    rw [hs] at s1 hQ0
    rw [if_neg (by simp)] at hQ0
    rw [Bool.and_eq_true] at hs
    have sq := sq_of hs.1
    have h0 : (0 : Int) < rows.length := by have := of_decide_eq_true hs.2; omega
    have r0 := (sq.row (i := 0) (by decide) h0).1
    have r0' : oIx (tb rows) (.int 0) m = .ok (li (row rows 0)) m := by
      show (match atI (rows.map li) 0 with | some v => R.ok v m | none => .stuck) = _
      rw [r0]
    have ln : cLen [tb rows] m = .ok (.int rows.length) m := by
      show R.ok (MV.int ((rows.map li).length : Nat)) m = _
      rw [List.length_map]
    have ne0 : fNe (li (row rows 0)) (.lst ((rg rows.length).map MV.int)) m = some (!decide (row rows 0 = rg rows.length)) := ne_ints
    by_cases hu : row rows 0 = rg rows.length
    · rw [if_neg (by simp [hu])] at hQ0
      rw [decide_eq_true hu] at ne0
      have s2 := post_eq (order_eq A sq hn m)
      cases ho : orderB rows.length rows with
      | false =>
        rw [ho] at s2 hQ0
        rw [if_pos rfl] at hQ0
        simp [s1, r0', ln, run_listRg (show rows.length ≤ 16777216 by omega), ne0, s2]
        exact hQ0 _ _ ⟨by simp, rfl⟩
      | true =>
        rw [ho] at s2 hQ0
        rw [if_neg (by simp)] at hQ0
        have s3 := post_eq (group_eq A sq hn m)
        cases hg : groupB rows.length rows with
        | false =>
          rw [hg] at s3 hQ0
          rw [if_pos rfl] at hQ0
          simp [s1, r0', ln, run_listRg (show rows.length ≤ 16777216 by omega), ne0, s2, s3]
          exact hQ0 _ _ ⟨by simp, rfl⟩
        | true =>
          rw [hg] at s3 hQ0
          rw [if_neg (by simp)] at hQ0
          simp [s1, r0', ln, run_listRg (show rows.length ≤ 16777216 by omega), ne0, s2, s3]
          have kf := keys_fs fs
          rw [kf]
          refine for_ret' (Post.nox (tests_post (fun f : Str × List Int => MV.str f.1) (fun f => f.2.all (inR rows.length)) (.str "fact") (fun e => ∃ o2 o3, e = [some (tb rows), some (.dK (fk fs) (fv fs)), o2, o3]) fs _ ⟨_, _, rfl⟩ ?_)) ?_ ?_
          · rintro f hf e ⟨o2, o3, rfl⟩
            refine Post.hide fun Q1 hQ1 => ?_
            have dg : dGet (.dK (fk fs) (fv fs)) (.str f.1) m = some (some (li f.2)) := by rw [dget_fs, look_mem hk hf]; rfl
            have k2 : kISeq (li f.2) m = .ok (f.2.map MV.int) m := rfl
            simp [dg, k2]
            refine Post.mono (tests_post MV.int (inR rows.length) (.str "fact") (fun e => ∃ o2 o3, e = [some (tb rows), some (.dK (fk fs) (fv fs)), o2, o3]) f.2 _ ⟨_, _, rfl⟩ ?_) ?_
            · rintro i hi e ⟨o2, o3, rfl⟩
              refine Post.hide fun Q2 hQ2 => ?_
              by_cases h0 : 0 ≤ i
              · by_cases h1 : i < rows.length
                · simp [h0, h1, ln]
                  exact hQ2 _ _ ⟨rfl, by simp [inR, h0, h1]⟩
                · simp [h0, h1, ln]
                  exact hQ2 _ _ ⟨rfl, by simp [inR, h0, h1]⟩
              · simp [h0]
                exact hQ2 _ _ ⟨rfl, by simp [inR, h0]⟩
            · rintro z m' ⟨rfl, h⟩
              exact hQ1 _ _ ⟨rfl, h⟩
          · rintro hb e' ⟨o2, o3, rfl⟩
            simp
            rw [if_neg (by unfold factsB; rw [hb]; simp)] at hQ0
            exact hQ0 _ _ ⟨by simp, rfl⟩
          · intro hb
            simp
            rw [if_pos (by unfold factsB; exact hb)] at hQ0
            exact hQ0 _ _ ⟨by simp, rfl⟩
    · rw [if_pos hu] at hQ0
      rw [decide_eq_false hu] at ne0
      simp [s1, r0', ln, run_listRg (show rows.length ≤ 16777216 by omega), ne0]
      exact hQ0 _ _ ⟨by simp, rfl⟩
end W76
set_option Elab.async false
set_option linter.all false
set_option maxRecDepth 100000
set_option maxHeartbeats 2000000
namespace W76
open PySem ML L2
theorem putS_new {fs : Fs} {k : Str} {x : List Int} (h : k ∉ fs.map (·.1)) : putS fs k x = fs ++ [(k, x)] := by
  induction fs with
  | nil => rfl
  | cons g fs ih =>
    obtain ⟨s, l⟩ := g
    simp at h
    show (if s = k then (s, x) :: fs else (s, l) :: putS fs k x) = _
    rw [if_neg (fun z => h.1 z.symm), ih (by simpa using h.2)]
    rfl
theorem dc_fs {j : Nat} {mk mv : ME} {e0 : ML.Env} {m : Mo} : ∀ (suf pre : Fs), Nk (pre ++ suf) →
    (∀ f ∈ suf, mk (e0.set j (some (.str f.1))) m = .ok (.str f.1) m ∧ mv (e0.set j (some (.str f.1))) m = .ok (li f.2) m) →
    dcL (gSet j) mYes mk mv e0 (suf.map fun f => MV.str f.1) (fk pre, fv pre) m = .ok (fk (pre ++ suf), fv (pre ++ suf)) m
  | [], pre, _, _ => by simp [dcL]
  | f :: suf, pre, hn, h => by
    obtain ⟨h1, h2⟩ := h f (List.mem_cons_self ..)
    have hn' : Nk pre := by
      unfold Nk at hn ⊢
      rw [List.map_append] at hn
      exact (List.nodup_append.mp hn).1
    have hf : f.1 ∉ pre.map (·.1) := by
      unfold Nk at hn
      rw [List.map_append, List.map_cons] at hn
      intro hm
      exact (List.nodup_append.mp hn).2.2 _ hm _ (List.mem_cons_self ..) rfl
    have hk : Nk ((pre ++ [(f.1, f.2)]) ++ suf) := by
      rw [List.append_assoc]
      exact hn
    have ih := dc_fs (j := j) (mk := mk) (mv := mv) (e0 := e0) (m := m) suf (pre ++ [(f.1, f.2)]) hk fun g hg => h g (List.mem_cons_of_mem _ hg)
    rw [List.map_cons, dcL, ev_gset, R.bind_ok, ev_yes, R.bind_ok, if_pos rfl, h1, R.bind_ok, h2, R.bind_ok]
    show dcL (gSet j) mYes mk mv e0 (suf.map fun f => MV.str f.1) (putM (fk pre) (fv pre) (Sum.inr f.1) (li f.2)) m = _
    rw [put_fs pre hn', putS_new hf, ih, List.append_assoc]
    rfl
theorem cells_copy (rows : List (List Int)) (e0 : ML.Env) (m : Mo) (hl : 6 < e0.length) : compL (gSet 6) mYes (mCB cList (mACons (mVar 6) mANil)) e0 (rows.map li) m = .ok (rows.map li) m := by
  refine compL_all li li rows fun r hr => ?_
  simp [List.getElem?_set_self hl]
  rfl
def wIns (A : Ad) (rows : List (List Int)) (fs : Fs) : MCell := .ins A.World ["_products", "_facts"] [tb rows, .dK (fk fs) (fv fs)]
theorem init_ok (A : Ad) {rows : List (List Int)} {fs : Fs} (hk : Nk fs) (hn : rows.length ≤ 1000) (hf : fs.length ≤ 1000) (m : Mo) (h : fault rows fs = none) :
    f_World_init A [.ref m.length, tb rows, .dK (fk fs) (fv fs)] (m ++ [.ins A.World [] []]) = .ok .non (m ++ [wIns A rows fs]) := by
  have e1 := post_eq (fault_eq A hk hn (m ++ [.ins A.World [] []]) (fs := fs))
  rw [h] at e1
  unfold f_World_init b_World_init
  simp only [body_ap, startM]
  have k2 : kISeq (tb rows) (m ++ [.ins A.World [] []]) = .ok (rows.map li) (m ++ [.ins A.World [] []]) := rfl
  have c1 := cells_copy rows [some (.ref m.length), some (tb rows), some (.dK (fk fs) (fv fs)), none, none, none, none, none] (m ++ [.ins A.World [] []]) (by simp)
  have dc := dc_fs (j := 7) (mk := mVar 7) (mv := mCB cList (mACons (mDGet (mVar 2) (mVar 7)) mANil)) (e0 := [some (.ref m.length), some (tb rows), some (.dK (fk fs) (fv fs)), some (tb rows), none, none, none, none]) (m := m ++ [.ins A.World [] []]) fs [] hk fun f hf => ⟨by simp, by
    have dg : dGet (.dK (fk fs) (fv fs)) (.str f.1) (m ++ [.ins A.World [] []]) = some (some (li f.2)) := by rw [dget_fs, look_mem hk hf]; rfl
    simp [dg]
    rfl⟩
  have e2 : MV.lst (rows.map li) = tb rows := rfl
  have kf := keys_fs fs
  have hl1 : rows.length ≤ 16777216 := by omega
  have hl2 : fs.length ≤ 16777216 := by omega
  have hl3 : (fk fs).length ≤ 16777216 := by unfold fk; rw [List.length_map]; omega
  simp only [List.nil_append] at dc
  have dc' : dcL (gSet 7) mYes (mVar 7) (mCB cList (mACons (mDGet (mVar 2) (mVar 7)) mANil)) [some (.ref m.length), some (tb rows), some (.dK (fk fs) (fv fs)), some (tb rows), none, none, none, none] ((fk fs).map kM) ([], []) (m ++ [.ins A.World [] []]) = .ok (fk fs, fv fs) (m ++ [.ins A.World [] []]) := by
    rw [kf]
    exact dc
  have s1 : setF [] [] ("_products" : Str) (tb rows) = ([("_products" : Str)], [tb rows]) := rfl
  have s2 : setF [("_products" : Str)] [tb rows] ("_facts" : Str) (.dK (fk fs) (fv fs)) = ([("_products" : Str), ("_facts" : Str)], [tb rows, .dK (fk fs) (fv fs)]) := by
    show (if ("_products" : Str) = ("_facts" : Str) then ([("_products" : Str)], [MV.dK (fk fs) (fv fs)]) else (("_products" : Str) :: [("_facts" : Str)], tb rows :: [MV.dK (fk fs) (fv fs)])) = _
    rw [if_neg (by decide +kernel)]
  simp [k2, mwipe, c1, e2, hl1, hl3, dc', e1, optS, fNotN, fIsN, s1, s2, wIns]
  exact List.take_of_length_le (by simp)
theorem init_bad (A : Ad) {rows : List (List Int)} {fs : Fs} (hk : Nk fs) (hn : rows.length ≤ 1000) (hf : fs.length ≤ 1000) (m : Mo) {why : Str} (h : fault rows fs = some why) :
    f_World_init A [.ref m.length, tb rows, .dK (fk fs) (fv fs)] (m ++ [.ins A.World [] []]) = .exc ⟨A.BadWorld, [("reason", .str why)]⟩ (m ++ [.ins A.World [] []]) := by
  have e1 := post_eq (fault_eq A hk hn (m ++ [.ins A.World [] []]) (fs := fs))
  rw [h] at e1
  unfold f_World_init b_World_init
  simp only [body_ap, startM]
  have k2 : kISeq (tb rows) (m ++ [.ins A.World [] []]) = .ok (rows.map li) (m ++ [.ins A.World [] []]) := rfl
  have c1 := cells_copy rows [some (.ref m.length), some (tb rows), some (.dK (fk fs) (fv fs)), none, none, none, none, none] (m ++ [.ins A.World [] []]) (by simp)
  have dc := dc_fs (j := 7) (mk := mVar 7) (mv := mCB cList (mACons (mDGet (mVar 2) (mVar 7)) mANil)) (e0 := [some (.ref m.length), some (tb rows), some (.dK (fk fs) (fv fs)), some (tb rows), none, none, none, none]) (m := m ++ [.ins A.World [] []]) fs [] hk fun f hf => ⟨by simp, by
    have dg : dGet (.dK (fk fs) (fv fs)) (.str f.1) (m ++ [.ins A.World [] []]) = some (some (li f.2)) := by rw [dget_fs, look_mem hk hf]; rfl
    simp [dg]
    rfl⟩
  have e2 : MV.lst (rows.map li) = tb rows := rfl
  have kf := keys_fs fs
  have hl1 : rows.length ≤ 16777216 := by omega
  have hl3 : (fk fs).length ≤ 16777216 := by unfold fk; rw [List.length_map]; omega
  simp only [List.nil_append] at dc
  have dc' : dcL (gSet 7) mYes (mVar 7) (mCB cList (mACons (mDGet (mVar 2) (mVar 7)) mANil)) [some (.ref m.length), some (tb rows), some (.dK (fk fs) (fv fs)), some (tb rows), none, none, none, none] ((fk fs).map kM) ([], []) (m ++ [.ins A.World [] []]) = .ok (fk fs, fv fs) (m ++ [.ins A.World [] []]) := by
    rw [kf]
    exact dc
  simp [k2, mwipe, c1, e2, hl1, hl3, dc', e1, optS, fNotN, fIsN]
theorem make_ok (A : Ad) {rows : List (List Int)} {fs : Fs} (hk : Nk fs) (hn : rows.length ≤ 1000) (hf : fs.length ≤ 1000) (m : Mo) (h : fault rows fs = none) : mkM A.World 3 (f_World_init A) [tb rows, .dK (fk fs) (fv fs)] m = .ok (.ref m.length) (m ++ [wIns A rows fs]) := by
  simp [init_ok A hk hn hf m h]
theorem make_bad (A : Ad) {rows : List (List Int)} {fs : Fs} (hk : Nk fs) (hn : rows.length ≤ 1000) (hf : fs.length ≤ 1000) (m : Mo) {why : Str} (h : fault rows fs = some why) : mkM A.World 3 (f_World_init A) [tb rows, .dK (fk fs) (fv fs)] m = .exc ⟨A.BadWorld, [("reason", .str why)]⟩ (m ++ [.ins A.World [] []]) := by
  simp [init_bad A hk hn hf m h]
theorem refused_eq (A : Ad) {rows : List (List Int)} {fs : Fs} (hk : Nk fs) (hn : rows.length ≤ 1000) (hf : fs.length ≤ 1000) (m : Mo) {why : Str} (h : fault rows fs = some why) : f_law_refused A [tb rows, .dK (fk fs) (fv fs)] m = .ok (.str why) m := by
  unfold f_law_refused b_law_refused
  simp only [body_ap, startM]
  have mb := make_bad A hk hn hf m h
  have ev : mMake A.World 3 (f_World_init A) (mACons (mVar 0) (mACons (mVar 1) mANil)) [some (tb rows), some (.dK (fk fs) (fv fs)), none] m = .exc ⟨A.BadWorld, [("reason", .str why)]⟩ (m ++ [.ins A.World [] []]) := by
    simp [init_bad A hk hn hf m h]
  have al : mAll (!([("reason", MV.str why)] : List (Str × MV)).isEmpty) (fun a d => mRet (mXf a (Value.ref A.BadWorld) d A.BadWorld "reason" 2) ([some (tb rows), some (.dK (fk fs) (fv fs)), none].set 2 (some (.exc a (d.getD 0) A.BadWorld (([("reason", MV.str why)] : List (Str × MV)).map (·.1)) (([("reason", MV.str why)] : List (Str × MV)).map (·.2))))) (m ++ [.ins A.World [] []])) = .ok (.ret (.str why)) (m ++ [.ins A.World [] []]) := by
    refine mAll_eq fun a d hd => ?_
    cases d with
    | none => exact absurd (hd rfl) (by simp)
    | some dd => simp [mXf, lookF]
  have tr : mTry (cat_BadWorld A) 2 (mMake A.World 3 (f_World_init A) (mACons (mVar 0) (mACons (mVar 1) mANil))) mDropE (fun a cls d => mRet (mXf a cls d A.BadWorld "reason" 2)) [some (tb rows), some (.dK (fk fs) (fv fs)), none] m = .ok (.ret (.str why)) (m ++ [.ins A.World [] []]) := by
    unfold mTry
    rw [ev]
    dsimp only
    rw [show cat_BadWorld A A.BadWorld = some true from if_pos rfl]
    dsimp only
    rw [al]
    rfl
  simp [tr]
end W76
set_option Elab.async false
set_option linter.all false
set_option maxRecDepth 100000
set_option maxHeartbeats 2000000
namespace W76
open PySem ML L2
section
variable {A : Ad} {rows : List (List Int)} {fs : Fs} {m : Mo} {q : Nat}
theorem ins_w (hq : m[q]? = some (wIns A rows fs)) : insOf (.ref q) m = some (A.World, [("_products" : Str), ("_facts" : Str)], [tb rows, .dK (fk fs) (fv fs)]) := by
  unfold insOf
  dsimp only
  rw [hq]
  rfl
theorem lk_p {x y : MV} : lookF [("_products" : Str), "_facts"] [x, y] "_products" = some x := by
  show (if ("_products" : Str) = "_products" then some x else _) = _
  exact if_pos rfl
theorem lk_f {x y : MV} : lookF [("_products" : Str), "_facts"] [x, y] "_facts" = some y := by
  show (if ("_facts" : Str) = ("_products" : Str) then some x else (if ("_facts" : Str) = ("_facts" : Str) then some y else none)) = _
  rw [if_neg (by decide +kernel), if_pos rfl]
theorem lk_n {x y : MV} {f : Str} (h1 : f ≠ "_products") (h2 : f ≠ "_facts") : lookF [("_products" : Str), "_facts"] [x, y] f = none := by
  show (if f = ("_products" : Str) then some x else (if f = ("_facts" : Str) then some y else none)) = _
  rw [if_neg h1, if_neg h2]
theorem fld_p (hq : m[q]? = some (wIns A rows fs)) : kFld A.World "_products" (.ref q) m = .ok (tb rows) m := by
  rw [kFld_ap, ins_w hq]
  dsimp only
  rw [if_pos rfl, lk_p]
theorem fld_f (hq : m[q]? = some (wIns A rows fs)) : kFld A.World "_facts" (.ref q) m = .ok (.dK (fk fs) (fv fs)) m := by
  rw [kFld_ap, ins_w hq]
  dsimp only
  rw [if_pos rfl, lk_f]
theorem meth_w (hq : m[q]? = some (wIns A rows fs)) {mn : Str} {n : Nat} {call : MFn} {ml : MA} {e : ML.Env} (h1 : mn ≠ "_products" := by decide +kernel) (h2 : mn ≠ "_facts" := by decide +kernel) : kMt A.World mn n call ml e (.ref q) m = (ml e m).bind (kMt2 n call (.ref q)) := by
  rw [kMt_ap, ins_w hq]
  dsimp only
  exact if_pos ⟨rfl, lk_n h1 h2⟩
end
def gb (l : List Bool) (k : Int) : Bool := l.getD k.toNat false
def lb (l : List Bool) : MV := .lst (l.map MV.bl)
theorem at_bl {l : List Bool} {n : Nat} (hl : l.length = n) {k : Int} (h0 : 0 ≤ k) (h1 : k < n) : atI (l.map MV.bl) k = some (.bl (gb l k)) := by
  have hk : k.toNat < l.length := by omega
  have e : gb l k = l[k.toNat] := by unfold gb; simp [hk]
  have e2 : atI (l.map MV.bl) ((k.toNat : Nat) : Int) = some (.bl l[k.toNat]) := by
    rw [atI_nat', List.getElem?_map, List.getElem?_eq_getElem hk]
    rfl
  rw [e, ← e2]
  congr 1
  omega
def fact (fs : Fs) (w : Str) (k : Int) : Bool := ((lookS fs w).getD []).any fun y => y == k
/-- where a sentence is true -/
def tr (n : Nat) (rows : List (List Int)) (fs : Fs) : Sen → List Bool
  | .word w => (rg n).map fun k => fact fs w k
  | .menu a b => (rg n).map fun k => gb (tr n rows fs a) k && gb (tr n rows fs b) k
  | .trade a b => (rg n).map fun k => ((rg n).filter fun v => gb (tr n rows fs a) v).all fun v => gb (tr n rows fs b) (cel rows k v)
theorem tr_len (n : Nat) (rows : List (List Int)) (fs : Fs) (s : Sen) : (tr n rows fs s).length = n := by
  cases s <;> simp [tr]
theorem rows_rg {n : Nat} {rows : List (List Int)} (h : Sq n rows) : rows = (rg n).map (row rows) := by
  apply List.ext_getElem?
  intro i
  rw [List.getElem?_map]
  by_cases hi : i < n
  · have hl : i < rows.length := by rw [h.1]; exact hi
    have e : (rg n)[i]? = some (i : Int) := by unfold rg; simp [hi]
    rw [e, List.getElem?_eq_getElem hl]
    show some rows[i] = some (row rows (i : Int))
    unfold row
    simp [hl]
  · have e : (rg n)[i]? = none := by rw [List.getElem?_eq_none]; simp; omega
    rw [e, List.getElem?_eq_none (by rw [h.1]; omega)]
    rfl
theorem truefor_eq (A : Ad) {n : Nat} {bs : List Bool} {r gs : List Int} (hb : bs.length = n) (hr : r.length = n) (hv : ∀ i ∈ r, 0 ≤ i ∧ i < n) (hg : ∀ i ∈ gs, 0 ≤ i ∧ i < n) (m : Mo) :
    Post (f_is_true_for A [lb bs, li r, li gs] m) fun x m' => m' = m ∧ x = .bl (gs.all fun v => gb bs (g0 r v)) := by
  unfold f_is_true_for b_is_true_for
  refine Post.hide fun Q0 hQ0 => ?_
  simp only [body_ap, startM]
  have k2 : kISeq (li gs) m = .ok (gs.map MV.int) m := rfl
  simp [k2]
  refine for_ret' (tests_post MV.int (fun v => gb bs (g0 r v)) (.bl false) (fun e => ∃ o3, e = [some (lb bs), some (li r), some (li gs), o3]) gs _ ⟨_, rfl⟩ ?_) ?_ ?_
  · rintro v hv2 e ⟨o3, rfl⟩
    obtain ⟨v0, v1⟩ := hg v hv2
    obtain ⟨a1, a2⟩ := at_row hr v0 v1
    obtain ⟨b0, b1⟩ := hv _ a2
    have c1 := at_bl hb b0 b1
    have d1 : oIx (li r) (.int v) m = .ok (.int (g0 r v)) m := by
      show (match atI (r.map MV.int) v with | some v => R.ok v m | none => .stuck) = _
      rw [a1]
    have d2 : oIx (lb bs) (.int (g0 r v)) m = .ok (.bl (gb bs (g0 r v))) m := by
      show (match atI (bs.map MV.bl) (g0 r v) with | some v => R.ok v m | none => .stuck) = _
      rw [c1]
    refine Post.hide fun Q2 hQ2 => ?_
    cases hc : gb bs (g0 r v) with
    | true =>
      rw [hc] at hQ2 d2
      simp [d1, d2]
      exact hQ2 _ _ ⟨rfl, _, rfl, _, rfl⟩
    | false =>
      rw [hc] at hQ2 d2
      simp [d1, d2]
      exact hQ2 _ _ ⟨rfl, rfl⟩
  · rintro hb e' ⟨o3, rfl⟩
    simp
    exact hQ0 _ _ ⟨by simp, by rw [hb]⟩
  · intro hb
    simp
    exact hQ0 _ _ ⟨by simp, by rw [hb]⟩
end W76
set_option Elab.async false
set_option linter.all false
set_option maxRecDepth 100000
set_option maxHeartbeats 2000000
namespace W76
open PySem ML L2
theorem lk_truths {x y : MV} : lookF [("_products" : Str), "_facts"] [x, y] "_truths" = none := lk_n (by decide +kernel) (by decide +kernel)
theorem lk_has {x y : MV} : lookF [("_products" : Str), "_facts"] [x, y] "has" = none := lk_n (by decide +kernel) (by decide +kernel)
theorem lk_fails {x y : MV} : lookF [("_products" : Str), "_facts"] [x, y] "fails" = none := lk_n (by decide +kernel) (by decide +kernel)
theorem lk_product {x y : MV} : lookF [("_products" : Str), "_facts"] [x, y] "product" = none := lk_n (by decide +kernel) (by decide +kernel)
theorem wne1 : ¬ (("menu" : Str) = "word") := by decide +kernel
theorem wne2 : ¬ (("trade" : Str) = "word") := by decide +kernel
theorem wne3 : ¬ (("trade" : Str) = "menu") := by decide +kernel
theorem comp_bl {j : Nat} {me : ME} {e0 : ML.Env} {m : Mo} (l : List Int) (f : Int → Bool) (h : ∀ a ∈ l, me (e0.set j (some (.int a))) m = .ok (.bl (f a)) m) : compL (gSet j) mYes me e0 (l.map MV.int) m = .ok ((l.map f).map MV.bl) m := by
  rw [compL_all MV.int (fun a => MV.bl (f a)) l h, List.map_map]
  rfl
theorem comp_fil {j : Nat} {mt : MT} {me : ME} {e0 : ML.Env} {m : Mo} (l : List Int) (t : Int → Bool) (h : ∀ a ∈ l, mt (e0.set j (some (.int a))) m = .ok (t a) m ∧ me (e0.set j (some (.int a))) m = .ok (.int a) m) : compL (gSet j) mt me e0 (l.map MV.int) m = .ok ((l.filter t).map MV.int) m :=
  compL_map MV.int t MV.int l fun a ha => ⟨(h a ha).1, fun _ => (h a ha).2⟩
theorem ix_lb {l : List Bool} {n : Nat} (hl : l.length = n) {k : Int} (h0 : 0 ≤ k) (h1 : k < n) (m : Mo) : oIx (lb l) (.int k) m = .ok (.bl (gb l k)) m := by
  show (match atI (l.map MV.bl) k with | some v => R.ok v m | none => .stuck) = _
  rw [at_bl hl h0 h1]
theorem wtruths_eq (A : Ad) {n : Nat} {rows : List (List Int)} {fs : Fs} {m : Mo} {q : Nat} (sq : Sq n rows) (hn : n ≤ 1000) (hq : m[q]? = some (wIns A rows fs)) : ∀ (d : Nat) (s : Sen), s.nest < d → f_World__truths A d [.ref q, s.mv] m = .ok (lb (tr n rows fs s)) m
  | 0, s, h => by omega
  | d + 1, s, h => by
    show bodyM 8 (b_World__truths A (f_World__truths A d)) [.ref q, s.mv] m = _
    have hz : n ≤ 16777216 := by omega
    have lp : cLen [tb rows] m = .ok (.int n) m := by
      show R.ok (MV.int ((rows.map li).length : Nat)) m = _
      rw [List.length_map, sq.1]
    have ll : ∀ s, cLen [lb (tr n rows fs s)] m = .ok (.int n) m := fun s => by
      show R.ok (MV.int (((tr n rows fs s).map MV.bl).length : Nat)) m = _
      rw [List.length_map, tr_len]
    unfold b_World__truths
    simp only [body_ap, startM]
    cases s with
    | word w =>
      have dg : dGet (.dK (fk fs) (fv fs)) (.str w) m = some ((lookS fs w).map li) := dget_fs
      have found : (match some ((lookS fs w).map li) with | some (some y) => R.ok y m | some none => R.ok (.lst []) m | none => .stuck) = .ok (li ((lookS fs w).getD [])) m := by
        cases lookS fs w <;> rfl
      have isd : isDM (.dK (fk fs) (fv fs)) m = true := rfl
      have c1 := comp_bl (m := m) (j := 6) (me := mOp (oB fIn) (mVar 6) (mVar 2)) (e0 := [some (.ref q), some (.tup [.str "word", .str w]), some (li ((lookS fs w).getD [])), none, none, none, none, none]) (rg n) (fun k => fact fs w k) fun a ha => by
        have i1 : fIn (.int a) (li ((lookS fs w).getD [])) m = some (((lookS fs w).getD []).any fun y => y == a) := in_int
        simp [i1, fact]
      have fin : MV.lst ((rg n).map (MV.bl ∘ fun k => fact fs w k)) = lb (tr n rows fs (.word w)) := by
        unfold lb
        rw [tr, List.map_map]
      cases hw : lookS fs w with
      | none =>
        rw [hw] at c1 dg
        rw [show li (Option.getD none []) = MV.lst [] from rfl] at c1
        simp only [Option.map_none] at dg
        simp [Sen.mv, ins_w hq, lk_p, lk_f, isd, dg, lp, run_rg hz, hz, mwipe, c1]
        exact fin
      | some x =>
        rw [hw] at c1 dg
        simp only [Option.getD_some, Option.map_some] at c1 dg
        simp [Sen.mv, ins_w hq, lk_p, lk_f, isd, dg, lp, run_rg hz, hz, mwipe, c1]
        exact fin
    | menu a b =>
      have na : a.nest < d := by unfold Sen.nest at h; omega
      have nb : b.nest < d := by unfold Sen.nest at h; omega
      have ia := wtruths_eq A sq hn hq d a na
      have ib := wtruths_eq A sq hn hq d b nb
      have c1 := comp_bl (m := m) (j := 6) (me := mAndV (mOp oIx (mVar 3) (mVar 6)) (mOp oIx (mVar 4) (mVar 6))) (e0 := [some (.ref q), some (Sen.menu a b).mv, none, some (lb (tr n rows fs a)), some (lb (tr n rows fs b)), none, none, none]) (rg n) (fun k => gb (tr n rows fs a) k && gb (tr n rows fs b) k) fun k hk => by
        obtain ⟨k0, k1⟩ := mem_rg.mp hk
        simp [ix_lb (tr_len n rows fs a) k0 k1, ix_lb (tr_len n rows fs b) k0 k1, kAndV_b]
        cases gb (tr n rows fs a) k <;> simp
      simp [Sen.mv] at c1
      simp [Sen.mv, wne1, ins_w hq, lk_p, lk_f, lk_truths, ia, ib, ll, run_rg hz, hz, mwipe, c1, tr]
      unfold lb
      rw [List.map_map]
    | trade a b =>
      have na : a.nest < d := by unfold Sen.nest at h; omega
      have nb : b.nest < d := by unfold Sen.nest at h; omega
      have ia := wtruths_eq A sq hn hq d a na
      have ib := wtruths_eq A sq hn hq d b nb
      have c1 := comp_fil (m := m) (j := 6) (mt := mTru truM (mOp oIx (mVar 3) (mVar 6))) (me := mVar 6) (e0 := [some (.ref q), some (Sen.trade a b).mv, none, some (lb (tr n rows fs a)), some (lb (tr n rows fs b)), none, none, none]) (rg n) (fun k => gb (tr n rows fs a) k) fun k hk => by
        obtain ⟨k0, k1⟩ := mem_rg.mp hk
        simp [ix_lb (tr_len n rows fs a) k0 k1]
      simp [Sen.mv] at c1
      have k2 : kISeq (tb rows) m = .ok (rows.map li) m := rfl
      have hrl : rows.length ≤ 16777216 := by rw [sq.1]; exact hz
      have c2 := compL_all (m := m) (j := 7) (me := mCall 3 (f_is_true_for A) (mACons (mVar 4) (mACons (mVar 7) (mACons (mVar 5) mANil)))) (e0 := [some (.ref q), some (MV.tup [MV.str "trade", MV.str "once", a.mv, b.mv]), none, some (lb (tr n rows fs a)), some (lb (tr n rows fs b)), some (.lst (((rg n).filter fun k => gb (tr n rows fs a) k).map MV.int)), none, none]) li (fun r => MV.bl (((rg n).filter fun v => gb (tr n rows fs a) v).all fun v => gb (tr n rows fs b) (g0 r v))) rows fun r hr => by
        have tf := post_eq (truefor_eq A (bs := tr n rows fs b) (r := r) (gs := (rg n).filter fun k => gb (tr n rows fs a) k) (tr_len n rows fs b) (sq.2 r hr).1 (sq.2 r hr).2 (fun i hi => mem_rg.mp (List.mem_filter.mp hi).1) m)
        simp only [li] at tf
        simp [li, tf]
      have e3 : rows.map (fun r => MV.bl (((rg n).filter fun v => gb (tr n rows fs a) v).all fun v => gb (tr n rows fs b) (g0 r v))) = (tr n rows fs (.trade a b)).map MV.bl := by
        have gen : ∀ F : List Int → MV, rows.map F = (rg n).map fun k => F (row rows k) := fun F => by
          conv => lhs; rw [rows_rg sq, List.map_map]
          rfl
        rw [gen, tr, List.map_map]
        rfl
      rw [e3] at c2
      generalize htr : tr n rows fs (.trade a b) = bs at *
      simp [Sen.mv, wne2, wne3, ins_w hq, lk_p, lk_f, lk_truths, ia, ib, ll, run_rg hz, hz, mwipe, c1, k2, hrl, c2]
      rfl
end W76
set_option Elab.async false
set_option linter.all false
set_option maxRecDepth 100000
set_option maxHeartbeats 2000000
namespace W76
open PySem ML L2
theorem atm3_2 {α : Type} {x y z : α} : atI [x, y, z] (-2) = some y := rfl
theorem atm3_1 {α : Type} {x y z : α} : atI [x, y, z] (-1) = some z := rfl
theorem atm4_2 {α : Type} {x y z u : α} : atI [x, y, z, u] (-2) = some z := rfl
theorem atm4_1 {α : Type} {x y z u : α} : atI [x, y, z, u] (-1) = some u := rfl
theorem none_left (l : List Int) (p : Int → Bool) : decide (((l.filter fun v => !p v).length : Int) = 0) = l.all p := by
  induction l with
  | nil => rfl
  | cons a l ih =>
    rw [List.all_cons, ← ih]
    cases h : p a with
    | true => simp [h]
    | false =>
      simp [h]
      omega
theorem ltrue_eq (A : Ad) {n : Nat} {rows : List (List Int)} {fs : Fs} {m : Mo} (sq : Sq n rows) (hn : n ≤ 1000) : ∀ (d : Nat) (s : Sen), s.nest < d → f_law_true A d [tb rows, .dK (fk fs) (fv fs), s.mv] m = .ok (lb (tr n rows fs s)) m
  | 0, s, h => by omega
  | d + 1, s, h => by
    show bodyM 10 (b_law_true A (f_law_true A d)) [tb rows, .dK (fk fs) (fv fs), s.mv] m = _
    have hz : n ≤ 16777216 := by omega
    have lp : cLen [tb rows] m = .ok (.int n) m := by
      show R.ok (MV.int ((rows.map li).length : Nat)) m = _
      rw [List.length_map, sq.1]
    unfold b_law_true
    simp only [body_ap, startM]
    cases s with
    | word w =>
      have dg : dGet (.dK (fk fs) (fv fs)) (.str w) m = some ((lookS fs w).map li) := dget_fs
      have isd : isDM (.dK (fk fs) (fv fs)) m = true := rfl
      have c1 := comp_bl (m := m) (j := 8) (me := mOp (oB fIn) (mVar 8) (mVar 4)) (e0 := [some (tb rows), some (.dK (fk fs) (fv fs)), some (.tup [.str "word", .str w]), some (.int n), some (li ((lookS fs w).getD [])), none, none, none, none, none]) (rg n) (fun k => fact fs w k) fun a ha => by
        have i1 : fIn (.int a) (li ((lookS fs w).getD [])) m = some (((lookS fs w).getD []).any fun y => y == a) := in_int
        simp [i1, fact]
      have fin : MV.lst ((rg n).map (MV.bl ∘ fun k => fact fs w k)) = lb (tr n rows fs (.word w)) := by
        unfold lb
        rw [tr, List.map_map]
      cases hw : lookS fs w with
      | none =>
        rw [hw] at c1 dg
        rw [show li (Option.getD none []) = MV.lst [] from rfl] at c1
        simp only [Option.map_none] at dg
        simp [Sen.mv, isd, dg, lp, run_rg hz, hz, mwipe, c1]
        exact fin
      | some x =>
        rw [hw] at c1 dg
        simp only [Option.getD_some, Option.map_some] at c1 dg
        simp [Sen.mv, isd, dg, lp, run_rg hz, hz, mwipe, c1]
        exact fin
    | menu a b =>
      have na : a.nest < d := by unfold Sen.nest at h; omega
      have nb : b.nest < d := by unfold Sen.nest at h; omega
      have ia := ltrue_eq A (m := m) (fs := fs) sq hn d a na
      have ib := ltrue_eq A (m := m) (fs := fs) sq hn d b nb
      have c1 := comp_bl (m := m) (j := 8) (me := mAndV (mOp oIx (mVar 5) (mVar 8)) (mOp oIx (mVar 6) (mVar 8))) (e0 := [some (tb rows), some (.dK (fk fs) (fv fs)), some (Sen.menu a b).mv, some (.int n), none, some (lb (tr n rows fs a)), some (lb (tr n rows fs b)), none, none, none]) (rg n) (fun k => gb (tr n rows fs a) k && gb (tr n rows fs b) k) fun k hk => by
        obtain ⟨k0, k1⟩ := mem_rg.mp hk
        simp [ix_lb (tr_len n rows fs a) k0 k1, ix_lb (tr_len n rows fs b) k0 k1, kAndV_b]
        cases gb (tr n rows fs a) k <;> simp
      simp [Sen.mv] at c1
      simp [Sen.mv, wne1, ia, ib, lp, atm3_1, atm3_2, run_rg hz, hz, mwipe, c1, tr]
      unfold lb
      rw [List.map_map]
    | trade a b =>
      have na : a.nest < d := by unfold Sen.nest at h; omega
      have nb : b.nest < d := by unfold Sen.nest at h; omega
      have ia := ltrue_eq A (m := m) (fs := fs) sq hn d a na
      have ib := ltrue_eq A (m := m) (fs := fs) sq hn d b nb
      have c1 := comp_fil (m := m) (j := 8) (mt := mTru truM (mOp oIx (mVar 5) (mVar 8))) (me := mVar 8) (e0 := [some (tb rows), some (.dK (fk fs) (fv fs)), some (Sen.trade a b).mv, some (.int n), none, some (lb (tr n rows fs a)), some (lb (tr n rows fs b)), none, none, none]) (rg n) (fun k => gb (tr n rows fs a) k) fun k hk => by
        obtain ⟨k0, k1⟩ := mem_rg.mp hk
        simp [ix_lb (tr_len n rows fs a) k0 k1]
      generalize hgs : (rg n).filter (fun k => gb (tr n rows fs a) k) = gs at c1
      have hgm : ∀ v ∈ gs, 0 ≤ v ∧ v < n := fun v hv => by
        rw [← hgs] at hv
        exact mem_rg.mp (List.mem_filter.mp hv).1
      have hgl : gs.length ≤ 16777216 := by
        have := List.length_filter_le (fun k => gb (tr n rows fs a) k) (rg n)
        rw [hgs, rg_length] at this
        omega
      have c3 : ∀ k : Int, 0 ≤ k → k < n → compL (gSet 9) (mNotT (mTru truM (mOp oIx (mVar 6) (mOp oIx (mOp oIx (mVar 0) (mVar 8)) (mVar 9))))) (mVar 9) [some (tb rows), some (.dK (fk fs) (fv fs)), some (Sen.trade a b).mv, some (.int n), none, some (lb (tr n rows fs a)), some (lb (tr n rows fs b)), some (li gs), some (.int k), none] (gs.map MV.int) m = .ok ((gs.filter fun v => !gb (tr n rows fs b) (cel rows k v)).map MV.int) m := fun k k0 k1 =>
        comp_fil gs (fun v => !gb (tr n rows fs b) (cel rows k v)) fun v hv => by
          obtain ⟨v0, v1⟩ := hgm v hv
          obtain ⟨r1, _, _⟩ := sq.row k0 k1
          obtain ⟨e1, e2, e3⟩ := sq.cel k0 k1 v0 v1
          have d1 : oIx (tb rows) (.int k) m = .ok (li (row rows k)) m := by
            show (match atI (rows.map li) k with | some v => R.ok v m | none => .stuck) = _
            rw [r1]
          have d2 : oIx (li (row rows k)) (.int v) m = .ok (.int (cel rows k v)) m := by
            show (match atI ((row rows k).map MV.int) v with | some v => R.ok v m | none => .stuck) = _
            rw [e1]
          simp [d1, d2, ix_lb (tr_len n rows fs b) e2 e3]
      have c2 := comp_bl (m := m) (j := 8) (me := mOp (oB fEq) (mCB cLen (mACons (mLc (iSeq (mVar 7)) (gSet 9) (mNotT (mTru truM (mOp oIx (mVar 6) (mOp oIx (mOp oIx (mVar 0) (mVar 8)) (mVar 9))))) (mVar 9) [9]) mANil)) (mC (.int 0))) (e0 := [some (tb rows), some (.dK (fk fs) (fv fs)), some (Sen.trade a b).mv, some (.int n), none, some (lb (tr n rows fs a)), some (lb (tr n rows fs b)), some (li gs), none, none]) (rg n) (fun k => gs.all fun v => gb (tr n rows fs b) (cel rows k v)) fun k hk => by
        obtain ⟨k0, k1⟩ := mem_rg.mp hk
        have k2 : kISeq (li gs) m = .ok (gs.map MV.int) m := rfl
        rw [← none_left]
        simp [k2, hgl, mwipe, c3 k k0 k1]
      have e3 : (rg n).map (fun k => gs.all fun v => gb (tr n rows fs b) (cel rows k v)) = tr n rows fs (.trade a b) := by
        rw [tr, hgs]
      rw [e3] at c2
      simp only [li] at c2
      generalize htr : tr n rows fs (.trade a b) = bs at *
      simp [Sen.mv] at c1 c2
      simp [Sen.mv, wne2, wne3, ia, ib, lp, atm4_1, atm4_2, run_rg hz, hz, mwipe, c1, c2]
      rfl
end W76
set_option Elab.async false
set_option linter.all false
set_option maxRecDepth 100000
set_option maxHeartbeats 2000000
namespace W76
open PySem ML L2
theorem sides_eq (A : Ad) (s : Sen) (m : Mo) : f_sides A [s.mv] m = .ok (.lst (match s with | .word _ => [] | .menu a b => [a.mv, b.mv] | .trade a b => [a.mv, b.mv])) m := by
  unfold f_sides b_sides
  simp only [body_ap, startM]
  cases s with
  | word w => simp [Sen.mv]
  | menu a b => simp [Sen.mv, wne1, sen_below]
  | trade a b => simp [Sen.mv, wne2, wne3, sen_below]
theorem wne4 : ¬ (("word" : Str) = "trade") := by decide +kernel
theorem wne5 : ¬ (("menu" : Str) = "trade") := by decide +kernel
theorem once_eq (A : Ad) (m : Mo) : ∀ (d : Nat) (s : Sen), s.nest < d → f_is_all_once A d [s.mv] m = .ok (.bl true) m
  | 0, s, h => by omega
  | d + 1, s, h => by
    show bodyM 2 (b_is_all_once A (f_is_all_once A d)) [s.mv] m = _
    have sd := sides_eq A s m
    unfold b_is_all_once
    simp only [body_ap, startM]
    cases s with
    | word w =>
      simp only at sd
      simp [Sen.mv] at sd
      simp [Sen.mv, wne4, sd, forL]
    | menu a b =>
      have ia := once_eq A m d a (by unfold Sen.nest at h; omega)
      have ib := once_eq A m d b (by unfold Sen.nest at h; omega)
      simp only at sd
      simp [Sen.mv] at sd
      simp [Sen.mv, wne5, sd, forL, ia, ib]
    | trade a b =>
      have ia := once_eq A m d a (by unfold Sen.nest at h; omega)
      have ib := once_eq A m d b (by unfold Sen.nest at h; omega)
      simp only at sd
      simp [Sen.mv] at sd
      simp [Sen.mv, sd, forL, ia, ib]
/-- a claim all of whose kinds are once -/
def holdM (h : Str × Sen) : MV := .tup [.str h.1, .str "once", h.2.mv]
def claimM (hs : List (Str × Sen)) (g : Sen) : MV := .tup [.tup (hs.map holdM), g.mv]
theorem claim_once (A : Ad) {hs : List (Str × Sen)} {g : Sen} (hh : ∀ h ∈ hs, h.2.nest < 25) (hg : g.nest < 25) (m : Mo) : f_is_claim_once A [claimM hs g] m = .ok (.bl true) m := by
  refine post_eq ?_
  unfold f_is_claim_once b_is_claim_once
  refine Post.hide fun Q0 hQ0 => ?_
  simp only [body_ap, startM, claimM]
  simp
  refine for_ret' (tests_post holdM (fun _ => true) (.bl false) (fun e => ∃ o1, e = [some (MV.tup [.tup (hs.map holdM), g.mv]), o1]) hs _ ⟨_, rfl⟩ ?_) ?_ ?_
  · rintro h hh2 e ⟨o1, rfl⟩
    refine Post.hide fun Q2 hQ2 => ?_
    simp [holdM, once_eq A m 25 h.2 (hh h hh2)]
    exact hQ2 _ _ ⟨rfl, _, rfl, _, rfl⟩
  · rintro _ e' ⟨o1, rfl⟩
    simp [once_eq A m 25 g hg]
    exact hQ0 _ _ ⟨by simp, rfl⟩
  · intro hb
    simp at hb
end W76
set_option Elab.async false
set_option linter.all false
set_option maxRecDepth 100000
set_option maxHeartbeats 2000000
namespace W76
open PySem ML L2
def allT (t : Nat → Bool) : Nat → Nat → Bool
  | _, 0 => true
  | k, n + 1 => t k && allT t (k + 1) n
theorem tests_ix {α : Type} {j : Nat} {ms : MS} {m : Mo} (g : α → MV) (t : Nat → Bool) (y : MV) (I : Nat → ML.Env → Prop) : ∀ (l : List α) (k : Nat) (e : ML.Env), I k e →
    (∀ i a, l[i]? = some a → ∀ e, I (k + i) e → Post (ms (e.set j (some (g a))) m) fun f m' => m' = m ∧ (if t (k + i) = true then ∃ e', f = .next e' ∧ I (k + i + 1) e' else f = .ret y)) →
    Post (forL (gSet j) ms (l.map g) e m) fun f m' => m' = m ∧ (if allT t k l.length = true then ∃ e', f = .next e' ∧ I (k + l.length) e' else f = .ret y)
  | [], k, e, h, _ => ⟨_, _, rfl, rfl, e, rfl, h⟩
  | a :: l, k, e, h, st => by
    obtain ⟨f, m', h1, rfl, h2⟩ := st 0 a rfl e h
    rw [List.map_cons, forL, ev_gset, R.bind_ok, h1, R.bind_ok]
    rw [Nat.add_zero] at h2
    show Post _ fun f m'' => m'' = m' ∧ (if (t k && allT t (k + 1) l.length) = true then _ else _)
    cases ht : t k with
    | true =>
      rw [ht, if_pos rfl] at h2
      obtain ⟨e', rfl, h3⟩ := h2
      rw [Bool.true_and]
      refine Post.mono (tests_ix g t y I l (k + 1) e' h3 fun i b hb e he => ?_) ?_
      · have := st (i + 1) b (by simpa using hb) e (by rw [show k + (i + 1) = k + 1 + i by omega]; exact he)
        rw [show k + (i + 1) = k + 1 + i by omega] at this
        exact this
      · rintro f m'' ⟨rfl, h⟩
        refine ⟨rfl, ?_⟩
        split
        · rename_i q
          rw [if_pos q] at h
          obtain ⟨e'', rfl, h4⟩ := h
          exact ⟨_, rfl, by rw [List.length_cons, show k + (l.length + 1) = k + 1 + l.length by omega]; exact h4⟩
        · rename_i q
          rw [if_neg q] at h
          exact h
    | false =>
      rw [ht, if_neg (by simp)] at h2
      subst h2
      exact ⟨_, _, rfl, rfl, by simp⟩
section
variable (A : Ad) {n : Nat} {rows : List (List Int)} {fs : Fs} {m : Mo} {q : Nat} (sq : Sq n rows) (hn : n ≤ 1000) (hq : m[q]? = some (wIns A rows fs))
include sq hn hq
theorem has_eq {k : Int} (h0 : 0 ≤ k) (h1 : k < n) {s : Sen} (hs : s.nest < 25) : f_World_has A [.ref q, .int k, s.mv] m = .ok (.bl (gb (tr n rows fs s) k)) m := by
  unfold f_World_has b_World_has
  simp only [body_ap, startM]
  simp [once_eq A m 25 s hs, ins_w hq, lk_truths, wtruths_eq A sq hn hq 25 s hs, ix_lb (tr_len n rows fs s) h0 h1]
theorem ix_tb {a : Int} (a0 : 0 ≤ a) (a1 : a < n) : oIx (tb rows) (.int a) m = .ok (li (row rows a)) m := by
  show (match atI (rows.map li) a with | some v => R.ok v m | none => .stuck) = _
  rw [(sq.row a0 a1).1]
theorem ix_row {a b : Int} (a0 : 0 ≤ a) (a1 : a < n) (b0 : 0 ≤ b) (b1 : b < n) : oIx (li (row rows a)) (.int b) m = .ok (.int (cel rows a b)) m := by
  show (match atI ((row rows a).map MV.int) b with | some v => R.ok v m | none => .stuck) = _
  rw [(sq.cel a0 a1 b0 b1).1]
theorem prod_eq {a b : Int} (a0 : 0 ≤ a) (a1 : a < n) (b0 : 0 ≤ b) (b1 : b < n) : f_World_product A [.ref q, .int a, .int b] m = .ok (.int (cel rows a b)) m := by
  unfold f_World_product b_World_product
  simp only [body_ap, startM]
  simp [ins_w hq, lk_p, ix_tb A sq hn hq a0 a1, ix_row A sq hn hq a0 a1 b0 b1]
theorem len_eq : f_World_len A [.ref q] m = .ok (.int n) m := by
  have lp : cLen [tb rows] m = .ok (.int n) m := by
    show R.ok (MV.int ((rows.map li).length : Nat)) m = _
    rw [List.length_map, sq.1]
  unfold f_World_len b_World_len
  simp only [body_ap, startM]
  simp [ins_w hq, lk_p, lp]
end
def hsen (hs : List (Str × Sen)) (k : Nat) : Sen := ((hs[k]?).map (·.2)).getD (.word "")
def plc (ps : List Int) (k : Nat) : Int := (ps[k]?).getD 0
def tot (rows : List (List Int)) (ps : List Int) : Nat → Int
  | 0 => 0
  | k + 1 => cel rows (tot rows ps k) (plc ps k)
theorem tot_in {n : Nat} {rows : List (List Int)} {ps : List Int} (sq : Sq n rows) (h0 : 0 < n) (hp : ∀ p ∈ ps, 0 ≤ p ∧ p < n) : ∀ k, k ≤ ps.length → 0 ≤ tot rows ps k ∧ tot rows ps k < n
  | 0, _ => ⟨Int.le_refl _, by show (0 : Int) < n; omega⟩
  | k + 1, h => by
    obtain ⟨t0, t1⟩ := tot_in sq h0 hp k (by omega)
    have hk : k < ps.length := by omega
    have e : plc ps k = ps[k] := by unfold plc; simp [hk]
    obtain ⟨p0, p1⟩ := hp _ (List.getElem_mem hk)
    rw [← e] at p0 p1
    exact (sq.cel t0 t1 p0 p1).2
theorem rg_get {n i : Nat} {a : Int} (h : (rg n)[i]? = some a) : a = i ∧ i < n := by
  unfold rg at h
  rw [List.getElem?_map] at h
  by_cases hi : i < n
  · rw [List.getElem?_range hi] at h
    exact ⟨(Option.some.inj h).symm, hi⟩
  · rw [List.getElem?_eq_none (by simp; omega)] at h
    cases h
theorem fails_eq (A : Ad) {n : Nat} {rows : List (List Int)} {fs : Fs} {m : Mo} {q : Nat} (sq : Sq n rows) (h0 : 0 < n) (hn : n ≤ 1000) (hq : m[q]? = some (wIns A rows fs)) {hs : List (Str × Sen)} {g : Sen} {ps : List Int} (hl : hs.length = ps.length) (hz : hs.length ≤ 1000)
    (hh : ∀ h ∈ hs, h.2.nest < 25) (hg : g.nest < 25) (hp : ∀ p ∈ ps, 0 ≤ p ∧ p < n) :
    f_World_fails A [.ref q, claimM hs g, li ps] m = .ok (.bl (allT (fun k => gb (tr n rows fs (hsen hs k)) (plc ps k)) 0 hs.length && !gb (tr n rows fs g) (tot rows ps hs.length))) m := by
  refine post_eq ?_
  unfold f_World_fails b_World_fails
  refine Post.hide fun Q0 hQ0 => ?_
  simp only [body_ap, startM]
  have co := claim_once A hh hg m
  simp [co]
  rw [claimM]
  simp [run_rg (show hs.length ≤ 16777216 by omega)]
  refine for_ret' (tests_ix MV.int (fun k => gb (tr n rows fs (hsen hs k)) (plc ps k)) (.bl false) (fun k e => ∃ o6, e = [some (.ref q), some (claimM hs g), some (li ps), some (.tup (hs.map holdM)), some g.mv, some (.int (tot rows ps k)), o6]) (rg hs.length) 0 _ ⟨_, rfl⟩ ?_) ?_ ?_
  · rintro i a ha e ⟨o6, rfl⟩
    obtain ⟨rfl, hi⟩ := rg_get ha
    rw [Nat.zero_add]
    have hip : i < ps.length := by omega
    refine Post.hide fun Q2 hQ2 => ?_
    have e1 : atI (hs.map holdM) (i : Int) = some (holdM hs[i]) := by rw [atI_nat', List.getElem?_map, List.getElem?_eq_getElem hi]; rfl
    have e2 : hsen hs i = hs[i].2 := by unfold hsen; simp [hi]
    have e3 : plc ps i = ps[i] := by unfold plc; simp [hip]
    have e4 : oIx (li ps) (.int i) m = .ok (.int (plc ps i)) m := by
      show (match atI (ps.map MV.int) (i : Int) with | some v => R.ok v m | none => .stuck) = _
      rw [atI_nat', List.getElem?_map, List.getElem?_eq_getElem hip, e3]
      rfl
    have hmem := hh _ (List.getElem_mem hi)
    rw [← e2] at hmem
    obtain ⟨p0, p1⟩ := hp _ (List.getElem_mem hip)
    rw [← e3] at p0 p1
    obtain ⟨t0, t1⟩ := tot_in sq h0 hp i (by omega)
    have w1 := wtruths_eq A sq hn hq 25 (hsen hs i) hmem
    have hm : holdM hs[i] = .tup [.str hs[i].1, .str "once", (hsen hs i).mv] := by rw [e2]; rfl
    simp [e1, hm, ins_w hq, lk_truths, lk_p, w1, e4, ix_lb (tr_len n rows fs (hsen hs i)) p0 p1, ix_tb A sq hn hq t0 t1, ix_row A sq hn hq t0 t1 p0 p1]
    cases hc : gb (tr n rows fs (hsen hs i)) (plc ps i) with
    | true =>
      rw [hc] at hQ2
      simp [ins_w hq, lk_p, ix_tb A sq hn hq t0 t1, e4, ix_row A sq hn hq t0 t1 p0 p1]
      exact hQ2 _ _ ⟨rfl, _, rfl, _, rfl⟩
    | false =>
      rw [hc] at hQ2
      simp
      exact hQ2 _ _ ⟨rfl, rfl⟩
  · rintro hb e' ⟨o6, rfl⟩
    have hlr : (rg hs.length).length = hs.length := rg_length _
    rw [hlr] at hb
    have hx : 0 + (rg hs.length).length = hs.length := by rw [hlr, Nat.zero_add]
    rw [hx]
    obtain ⟨t0, t1⟩ := tot_in sq h0 hp hs.length (by omega)
    have w1 := wtruths_eq A sq hn hq 25 g hg
    simp [ins_w hq, lk_truths, w1, ix_lb (tr_len n rows fs g) t0 t1]
    exact hQ0 _ _ ⟨by simp, by rw [hb, Bool.true_and]⟩
  · intro hb
    have hlr : (rg hs.length).length = hs.length := rg_length _
    rw [hlr] at hb
    simp
    exact hQ0 _ _ ⟨by simp, by rw [hb, Bool.false_and]⟩
end W76
set_option Elab.async false
set_option linter.all false
set_option maxRecDepth 100000
set_option maxHeartbeats 2000000
namespace W76
open PySem ML L2
theorem all2_len {α β : Type} {Q : α → β → Prop} {l : List α} {r : List β} (h : All2 Q l r) : r.length = l.length := h.len
theorem all2_mem {α β : Type} {Q : α → β → Prop} : ∀ {l : List α} {r : List β}, All2 Q l r → ∀ b ∈ r, ∃ a ∈ l, Q a b
  | _, _, .nil, b, h => by cases h
  | _, _, .cons q t, b, h => by
    rcases List.mem_cons.mp h with e | h
    · exact ⟨_, List.mem_cons_self .., by rw [e]; exact q⟩
    · obtain ⟨a, ha, hq⟩ := all2_mem t b h
      exact ⟨a, List.mem_cons_of_mem _ ha, hq⟩
theorem ix_li {xs : List Int} {d : Int} (h0 : 0 ≤ d) (h1 : d < xs.length) (m : Mo) : ∃ v ∈ xs, oIx (li xs) (.int d) m = .ok (.int v) m := by
  obtain ⟨v, hv, hm⟩ := at_of h0 h1
  refine ⟨v, hm, ?_⟩
  show (match atI (xs.map MV.int) d with | some v => R.ok v m | none => .stuck) = _
  rw [at_map hv]
/-- the last part of picks -/
theorem drawn_of (A : Ad) {m0 : Mo} {p : Nat} {P : Pl} {able : List Int} {n : Nat} (hl : p < m0.length) (ha : 0 < able.length) (hb : able.length ≤ 1000) (hv : ∀ i ∈ able, 0 ≤ i ∧ i < n) {c : Int} (c0 : 0 ≤ c) (c1 : c ≤ 30) {e0 : ML.Env} (he0 : e0[0]? = some (some (.ref p))) (he2 : e0[2]? = some (some (li able))) (h4 : 4 < e0.length) :
    Post (compL (gSet 4) mYes (mOp oIx (mVar 2) (mCall 2 (f_law_next A) (mACons (mVar 0) (mACons (mCB cLen (mACons (mVar 2) mANil)) mANil)))) e0 ((rg c.toNat).map MV.int) (m0.set p (plC P))) fun ys m' => ∃ (ps : List Int) (P' : Pl), ys = ps.map MV.int ∧ m' = m0.set p (plC P') ∧ ps.length = c.toNat ∧ ∀ i ∈ ps, 0 ≤ i ∧ i < n := by
  have w0 : (0 : Int) < able.length := by omega
  have w1 : (able.length : Int) < 1073741824 := by omega
  have w2 : able.length < 1073741824 := by omega
  refine Post.mono (each_post (fun m => ∃ P, m = m0.set p (plC P)) (fun x y => ∃ a, y = MV.int a ∧ (0 ≤ a ∧ a < n)) ⟨_, rfl⟩ ?_) ?_
  · rintro x hx m ⟨P, rfl⟩
    refine Post.hide fun Q2 hQ2 => ?_
    obtain ⟨v, hvm, hix⟩ := ix_li (xs := able) (d := nxD P able.length) (nxD_lo w0) (nxD_hi w0) (m0.set p (plC (nxP P able.length)))
    have la : cLen [li able] (m0.set p (plC P)) = .ok (.int able.length) (m0.set p (plC P)) := by
      show R.ok (MV.int ((able.map MV.int).length : Nat)) _ = _
      rw [List.length_map]
    have g0 : (e0.set 4 (some x))[0]? = some (some (.ref p)) := by rw [List.getElem?_set_ne (by decide)]; exact he0
    have g2 : (e0.set 4 (some x))[2]? = some (some (li able)) := by rw [List.getElem?_set_ne (by decide)]; exact he2
    simp [g0, g2, la, next_Dr A hl, w0, w1, ha, hix]
    exact hQ2 _ _ ⟨⟨v, rfl, hv v hvm⟩, _, rfl⟩
  · rintro ys m ⟨⟨P, rfl⟩, hys⟩
    obtain ⟨ps, rfl, h2⟩ := all2_map hys
    refine ⟨ps, P, rfl, rfl, ?_, fun i hi => ?_⟩
    · rw [h2.len]
      simp
    · obtain ⟨_, _, h⟩ := all2_mem h2 i hi
      exact h
theorem picks_ex (A : Ad) {m0 : Mo} {p : Nat} {P : Pl} {ls : List (List Bool)} (hl : p < m0.length) (h0 : 0 < ls.length) (h1 : ls.length ≤ 1000) :
    Post (f_law_picks A [.ref p, .lst (ls.map lb)] (m0.set p (plC P))) fun x m' => ∃ (ps : List Int) (P' : Pl), x = li ps ∧ m' = m0.set p (plC P') ∧ ps.length ≤ 24 ∧ ∀ i ∈ ps, 0 ≤ i ∧ i < ls.length := by
  unfold f_law_picks b_law_picks
  refine Post.hide fun Q0 hQ0 => ?_
  simp only [body_ap, startM]
  have hz : ls.length ≤ 16777216 := by omega
  have c1 := comp_fil (m := m0.set p (plC P)) (j := 4) (mt := mOpB fIn (mC (.bl true)) (mOp oIx (mVar 1) (mVar 4))) (me := mVar 4) (e0 := [some (.ref p), some (.lst (ls.map lb)), none, none, none]) (rg ls.length) (fun k => (ls.getD k.toNat []).any fun y => y == true) fun k hk => by
    obtain ⟨k0, k1⟩ := mem_rg.mp hk
    have hk2 : k.toNat < ls.length := by omega
    have e1 : atI (ls.map lb) k = some (lb (ls.getD k.toNat [])) := by
      have e2 : atI (ls.map lb) ((k.toNat : Nat) : Int) = some (lb (ls.getD k.toNat [])) := by
        rw [atI_nat', List.getElem?_map]
        simp [hk2]
      rw [← e2]
      congr 1
      omega
    have i1 : fIn (.bl true) (lb (ls.getD k.toNat [])) (m0.set p (plC P)) = some ((ls.getD k.toNat []).any fun y => y == true) := in_bl
    generalize ls.getD k.toNat [] = lk at *
    constructor
    · simp only [ev_opB, ev_c, R.bind_ok, kOpB_ap, ev_op, ev_var, List.set_cons_succ, List.set_cons_zero, List.getElem?_cons_succ, List.getElem?_cons_zero, kOp_ap, kOp2_ap, ap_ixl, e1, kOpB2_ap, i1]
    · simp
  generalize hxs : (rg ls.length).filter (fun k => (ls.getD k.toNat []).any fun y => y == true) = xs at c1
  have hxm : ∀ i ∈ xs, 0 ≤ i ∧ i < ls.length := fun i hi => by
    rw [← hxs] at hi
    exact mem_rg.mp (List.mem_filter.mp hi).1
  have hxl : xs.length ≤ 1000 := by
    have := List.length_filter_le (fun k : Int => (ls.getD k.toNat []).any fun y => y == true) (rg ls.length)
    rw [hxs, rg_length] at this
    omega
  have c2 : ∀ o2 m, compL (gSet 4) mYes (mVar 4) [some (.ref p), some (.lst (ls.map lb)), o2, none, none] ((rg ls.length).map MV.int) m = .ok ((rg ls.length).map MV.int) m := fun o2 m => compL_all MV.int MV.int (rg ls.length) fun a ha => by simp
  -- what follows, whatever the able ones are
  have rest : ∀ (able : List Int) (P : Pl), 0 < able.length → able.length ≤ 1000 → (∀ i ∈ able, 0 ≤ i ∧ i < ls.length) → Post (finM m0.length (((mSet 3 (mCall 2 (f_law_next A) (mACons (mVar 0) (mACons (mC (MV.int 4)) mANil)))) [some (.ref p), some (.lst (ls.map lb)), some (li able), none, none] (m0.set p (plC P))).bind (kSeq
      (mSeq (mIf (mOpB fEq (mCall 2 (f_law_next A) (mACons (mVar 0) (mACons (mC (.int 2)) mANil))) (mC (.int 0))) (mSet 3 (mOp oAdd (mC (.int 12)) (mCall 2 (f_law_next A) (mACons (mVar 0) (mACons (mC (.int 13)) mANil))))) mNext)
    (mRet (mLc (iRg1 (mVar 3)) (gSet 4) mYes (mOp oIx (mVar 2) (mCall 2 (f_law_next A) (mACons (mVar 0) (mACons (mCB cLen (mACons (mVar 2) mANil)) mANil)))) [4])))))) Q0 := by
    intro able P ha hb hv
    have d0 := nxD_lo (P := P) (n := 4) (by decide)
    have d1 := nxD_hi (P := P) (n := 4) (by decide)
    have f0 := nxD_lo (P := nxP (nxP P 4) 2) (n := 13) (by decide)
    have f1 := nxD_hi (P := nxP (nxP P 4) 2) (n := 13) (by decide)
    have last : ∀ (c : Int) (P : Pl), 0 ≤ c → c ≤ 24 → Post (finM m0.length ((mRet (mLc (iRg1 (mVar 3)) (gSet 4) mYes (mOp oIx (mVar 2) (mCall 2 (f_law_next A) (mACons (mVar 0) (mACons (mCB cLen (mACons (mVar 2) mANil)) mANil)))) [4])) [some (.ref p), some (.lst (ls.map lb)), some (li able), some (.int c), none] (m0.set p (plC P)))) Q0 := by
      intro c P c0 c1
      have hc : c.toNat ≤ 16777216 := by omega
      simp only [ev_ret, ev_lc, ev_rg1, ev_var, List.getElem?_cons_succ, List.getElem?_cons_zero, R.bind_ok, run_rgi c0 (show c ≤ 16777216 by omega), kLc_ap, List.length_map, rg_length, if_pos hc, mwipe, List.set_cons_succ, List.set_cons_zero]
      refine Post.fin (Post.bind (Post.bind (Post.nox ?_)))
      refine Post.mono (drawn_of A (able := able) (n := ls.length) hl ha hb hv c0 (by omega) rfl rfl (by simp)) ?_
      rintro ys m ⟨ps, P', rfl, rfl, hlen, hps⟩
      simp
      exact hQ0 _ _ ⟨ps, P', rfl, by simp, by omega, hps⟩
    by_cases hz2 : nxD (nxP P 4) 2 = 0
    · simp [next_Dr A hl, hz2]
      exact last _ _ (by omega) (by omega)
    · simp [next_Dr A hl, hz2]
      exact last _ _ d0 (by omega)
  have lls : cLen [.lst (ls.map lb)] (m0.set p (plC P)) = .ok (.int ls.length) (m0.set p (plC P)) := by
    rw [ap_lenl, List.length_map]
  cases xs with
  | nil =>
    have := rest (rg ls.length) P (by simpa using h0) (by simpa using h1) (fun i hi => mem_rg.mp hi)
    simp only [List.map_nil] at c1
    simp [next_Dr A hl, li] at this
    simp [lls, run_rg hz, hz, mwipe, c1, c2, next_Dr A hl]
    exact this
  | cons x xs =>
    by_cases h8 : nxD P 8 = 0
    · have := rest (rg ls.length) (nxP P 8) (by simpa using h0) (by simpa using h1) (fun i hi => mem_rg.mp hi)
      simp only [List.map_cons] at c1
      simp [next_Dr A hl, li] at this
      simp [lls, run_rg hz, hz, mwipe, c1, c2, next_Dr A hl, h8]
      exact this
    · have := rest (x :: xs) (nxP P 8) (by simp) hxl hxm
      simp only [List.map_cons] at c1
      simp [next_Dr A hl, li] at this
      simp [lls, run_rg hz, hz, mwipe, c1, c2, next_Dr A hl, h8]
      exact this
end W76
set_option Elab.async false
set_option linter.all false
set_option maxRecDepth 100000
set_option maxHeartbeats 2000000
namespace W76
open PySem ML L2
theorem mm_start {m0 : Mo} {p : Nat} {P : Pl} {c : MCell} : m0.set p (plC P) ++ [c] = Mm p m0 P [c] := rfl
theorem places_ex (A : Ad) {m0 : Mo} {p : Nat} {P : Pl} {ts : List (List Bool)} {n : Nat} (hl : p < m0.length) (h0 : 0 < n) (hn : n ≤ 1000) (ht : ts.length ≤ 1000) (htl : ∀ t ∈ ts, t.length = n) :
    Post (f_law_places A [.ref p, .lst (ts.map lb), .int n] (m0.set p (plC P))) fun x m' => ∃ (ps : List Int) (P' : Pl), x = li ps ∧ m' = m0.set p (plC P') ∧ ps.length = ts.length ∧ ∀ i ∈ ps, 0 ≤ i ∧ i < n := by
  unfold f_law_places b_law_places
  refine Post.hide fun Q0 hQ0 => ?_
  simp only [body_ap, startM]
  have hz : n ≤ 16777216 := by omega
  have n0 : (0 : Int) < n := by omega
  have n1 : (n : Int) < 1073741824 := by omega
  have n2 : n < 1073741824 := by omega
  simp [mm_start]
  refine Post.fin (Post.bind ?_)
  refine Post.mono (for_post (fun k e m => ∃ (ps : List Int) (P : Pl) (o4 o5 o6 : Option MV), e = [some (.ref p), some (.lst (ts.map lb)), some (.int n), some (.ref m0.length), o4, o5, o6] ∧ m = Mm p m0 P [.lst (ps.map MV.int)] ∧ ps.length = k ∧ ∀ i ∈ ps, 0 ≤ i ∧ i < n)
    ⟨[], P, none, none, none, rfl, rfl, rfl, fun s hs => by cases hs⟩ ?_) ?_
  · rintro i x e m hx ⟨ps, P, o4, o5, o6, rfl, rfl, hlen, hps⟩
    refine Post.hide fun Q1 hQ1 => ?_
    simp only [List.getElem?_map, Option.map_eq_some_iff] at hx
    obtain ⟨t, htt, rfl⟩ := hx
    have hlt := htl t (List.mem_of_getElem? htt)
    have hi : i < ts.length := (List.getElem?_eq_some_iff.mp htt).1
    have hps2 : ps.length < 16777216 := by omega
    have c1 := comp_fil (m := Mm p m0 P [.lst (ps.map MV.int)]) (j := 6) (mt := mTru truM (mOp oIx (mVar 4) (mVar 6))) (me := mVar 6) (e0 := [some (.ref p), some (.lst (ts.map lb)), some (.int n), some (.ref m0.length), some (lb t), o5, none]) (rg n) (fun k => gb t k) fun k hk => by
      obtain ⟨k0, k1⟩ := mem_rg.mp hk
      simp [ix_lb hlt k0 k1]
    have c2 : ∀ o5 m, compL (gSet 6) mYes (mVar 6) [some (.ref p), some (.lst (ts.map lb)), some (.int n), some (.ref m0.length), some (lb t), o5, none] ((rg n).map MV.int) m = .ok ((rg n).map MV.int) m := fun o5 m => compL_all MV.int MV.int (rg n) fun a ha => by simp
    generalize hxs : (rg n).filter (fun k => gb t k) = xs at c1
    have hxm : ∀ i ∈ xs, 0 ≤ i ∧ i < n := fun i hi => by
      rw [← hxs] at hi
      exact mem_rg.mp (List.mem_filter.mp hi).1
    have hxl : xs.length ≤ 1000 := by
      have := List.length_filter_le (fun k : Int => gb t k) (rg n)
      rw [hxs, rg_length] at this
      omega
    have rest : ∀ (able : List Int) (o6 : Option MV), 0 < able.length → able.length ≤ 1000 → (∀ i ∈ able, 0 ≤ i ∧ i < n) →
        Post (mExpr (mApp (mVar 3) (mOp oIx (mVar 5) (mCall 2 (f_law_next A) (mACons (mVar 0) (mACons (mCB cLen (mACons (mVar 5) mANil)) mANil))))) [some (.ref p), some (.lst (ts.map lb)), some (.int n), some (.ref m0.length), some (lb t), some (.lst (able.map MV.int)), o6] (Mm p m0 P [.lst (ps.map MV.int)])) Q1 := by
      intro able o6 ha hb hv
      have w0 : (0 : Int) < able.length := by omega
      have w1 : (able.length : Int) < 1073741824 := by omega
      have w2 : able.length < 1073741824 := by omega
      obtain ⟨v, hvm, hix⟩ := ix_li (xs := able) (d := nxD P able.length) (nxD_lo w0) (nxD_hi w0) (Mm p m0 (nxP P able.length) [.lst (ps.map MV.int)])
      simp only [li] at hix
      have la : cLen [.lst (able.map MV.int)] (Mm p m0 P [.lst (ps.map MV.int)]) = .ok (.int able.length) (Mm p m0 P [.lst (ps.map MV.int)]) := by
        rw [ap_lenl, List.length_map]
      simp only [ev_expr, ev_app, ev_var, List.getElem?_cons_succ, List.getElem?_cons_zero, R.bind_ok, kApp_ap, ap_lstc Mm.new, Option.isSome_some, if_true, ev_op, kOp_ap, ev_call, ev_acons, kCons_ap, ev_cb, ev_anil, kCons2_ap, la, kCall_ap, List.length_cons, List.length_nil, next_Mm A hl w0 w1, kOp2_ap, hix, kApp2_ap, ap_app Mm.new, List.length_map, below_int, if_pos (show ps.length < 16777216 ∧ True from ⟨hps2, trivial⟩), and_true, if_pos hps2, kExpr_ap, Mm.put]
      refine post_ok.mpr (hQ1 _ _ ⟨_, rfl, ps ++ [v], nxP P able.length, _, _, _, rfl, by simp, by simp [hlen], fun t ht => ?_⟩)
      rcases List.mem_append.mp ht with h | h
      · exact hps t h
      · simp at h
        rw [h]
        exact hv v hvm
    cases xs with
    | nil =>
      have := rest (rg n) o6 (by simpa using h0) (by simpa using hn) (fun i hi => mem_rg.mp hi)
      simp only [List.map_nil] at c1
      simp only [ev_seq, ev_set, ev_lc, ev_rg1, ev_var, List.getElem?_cons_succ, List.getElem?_cons_zero, R.bind_ok, run_rg hz, kLc_ap, List.length_map, rg_length, if_pos hz, mwipe, List.set_cons_succ, List.set_cons_zero, c1, nox_ok, kLc2_ap, kSet_ap, kSeq_n, ev_if, ev_notT, ev_tru, kTru_ap, tru_lst, kNotT_ap, kIf_ap, List.isEmpty_nil, Bool.not_true, Bool.not_false, if_true, c2]
      exact this
    | cons x xs =>
      have := rest (x :: xs) o6 (by simp) hxl hxm
      simp only [ev_seq, ev_set, ev_lc, ev_rg1, ev_var, List.getElem?_cons_succ, List.getElem?_cons_zero, R.bind_ok, run_rg hz, kLc_ap, List.length_map, rg_length, if_pos hz, mwipe, List.set_cons_succ, List.set_cons_zero, c1, nox_ok, kLc2_ap, kSet_ap, kSeq_n, ev_if, ev_notT, ev_tru, kTru_ap, tru_lst, kNotT_ap, kIf_ap, List.map_cons, List.isEmpty_cons, Bool.not_true, Bool.not_false, Bool.false_eq_true, if_false, ev_next]
      exact this
  · rintro f m ⟨e, rfl, ps, P, o4, o5, o6, rfl, rfl, hlen, hps⟩
    have hpl : ps.length = ts.length := by simpa using hlen
    cases ps with
    | nil =>
      simp [tru_cell Mm.new, fix1_lst Mm.new, Mm.put, Mm.take]
      exact hQ0 _ _ ⟨[], _, rfl, rfl, hpl, hps⟩
    | cons a ps =>
      have tc : truM (.ref m0.length) (Mm p m0 P [.lst ((a :: ps).map MV.int)]) = some true := by rw [tru_cell Mm.new]; rfl
      by_cases h4 : nxD P 4 = 0
      · have d0 := nxD_lo (P := nxP P 4) n0
        have d1 := nxD_hi (P := nxP P 4) n0
        have hix : ixN ((a :: ps).map MV.int).length (-1) = some ps.length := by
          unfold ixN
          rw [if_neg (by decide), if_pos (by simp; omega)]
          congr 1
          simp
          omega
        have hp2 : ML.putAt (Mm p m0 (nxP (nxP P 4) n) [.lst ((a :: ps).map MV.int)]) (.ref m0.length) (.int (-1)) (.int (nxD (nxP P 4) n)) = some (Mm p m0 (nxP (nxP P 4) n) [.lst (((a :: ps).set ps.length (nxD (nxP P 4) n)).map MV.int)]) := by
          rw [ap_put Mm.new, hix]
          dsimp only
          rw [below_int, if_pos rfl, Mm.put, List.map_set]
        simp only [ev_seq, ev_if, ev_andT, ev_tru, ev_var, List.getElem?_cons_succ, List.getElem?_cons_zero, R.bind_ok, kTru_ap, tc, kAndT_ap, if_true, ev_opB, ev_call, ev_acons, kCons_ap, ev_c, ev_anil, kCons2_ap, kCall_ap, List.length_cons, List.length_nil, next_Mm A hl (show (0 : Int) < 4 by decide) (show (4 : Int) < 1073741824 by decide), kOpB_ap, kOpB2_ap, eq_int, h4, decide_true, kIf_ap, ev_putAt, next_Mm A hl n0 n1, kPut_ap, kPut2_ap, ev_neg, kNeg_0, kPut3_ap, hp2, kSeq_n, ev_gfixD, fix1_lst Mm.new, Mm.put, kGFix_ap, ev_ret, List.set_cons_succ, List.set_cons_zero, kRet_ap, fin_ret, below_lst, belows_int, Mm.take, post_ok]
        refine hQ0 _ _ ⟨(a :: ps).set ps.length (nxD (nxP P 4) n), _, rfl, rfl, by simpa using hpl, fun i hi => ?_⟩
        rcases List.mem_or_eq_of_mem_set hi with h | h
        · exact hps i h
        · rw [h]
          exact ⟨d0, d1⟩
      · simp only [ev_seq, ev_if, ev_andT, ev_tru, ev_var, List.getElem?_cons_succ, List.getElem?_cons_zero, R.bind_ok, kTru_ap, tc, kAndT_ap, if_true, ev_opB, ev_call, ev_acons, kCons_ap, ev_c, ev_anil, kCons2_ap, kCall_ap, List.length_cons, List.length_nil, next_Mm A hl (show (0 : Int) < 4 by decide) (show (4 : Int) < 1073741824 by decide), kOpB_ap, kOpB2_ap, eq_int, h4, decide_false, kIf_ap, Bool.false_eq_true, if_false, ev_next, kSeq_n, ev_gfixD, fix1_lst Mm.new, Mm.put, kGFix_ap, ev_ret, List.set_cons_succ, List.set_cons_zero, kRet_ap, fin_ret, below_lst, belows_int, Mm.take, post_ok]
        exact hQ0 _ _ ⟨a :: ps, _, rfl, rfl, hpl, hps⟩
end W76
set_option Elab.async false
set_option linter.all false
set_option maxRecDepth 100000
set_option maxHeartbeats 2000000
namespace W76
open PySem ML L2
theorem repr_bl (b : Bool) (m : Mo) : cRepr [.bl b] m = .ok (.str (PyData.bool b).shown) m := by
  show (if (PyData.bool b).showable = true ∧ (PyData.bool b).depth ≤ 60 ∧ (PyData.bool b).shown.length ≤ sizeLine then R.ok (MV.str (PyData.bool b).shown) m else .stuck) = _
  rw [if_pos]
  rw [PySem.sizeLine_eq]
  refine ⟨by simp [PyData.showable], by simp [PyData.depth], ?_⟩
  rw [PyData.shown]
  cases b <;> decide +kernel
theorem allT_snoc (t : Nat → Bool) : ∀ (n k : Nat), allT t k (n + 1) = (allT t k n && t (k + n))
  | 0, k => by simp [allT]
  | n + 1, k => by
    rw [allT, allT_snoc t n (k + 1), allT, Bool.and_assoc, show k + 1 + n = k + (n + 1) by omega]
theorem allT_cong {t u : Nat → Bool} : ∀ (n k : Nat), (∀ i, k ≤ i → i < k + n → t i = u i) → allT t k n = allT u k n
  | 0, _, _ => rfl
  | n + 1, k, h => by
    rw [allT, allT, h k (Nat.le_refl _) (by omega), allT_cong n (k + 1) fun i h1 h2 => h i (by omega) (by omega)]
theorem judged_eq (A : Ad) {m0 : Mo} {p q n : Nat} {P : Pl} {rows : List (List Int)} {fs : Fs} {ss : List Sen} {names : List Str} (hl : p < m0.length) (hpq : p ≠ q) (hw : m0[q]? = some (wIns A rows fs)) (sq : Sq n rows) (h0 : 0 < n) (hn : n ≤ 1000)
    (hs0 : 0 < ss.length) (hs1 : ss.length ≤ 1000) (hnest : ∀ s ∈ ss, s.nest < 25) (hnm : names.length = 24) :
    Post (f_law_judged A [.ref p, .ref q, tb rows, .dK (fk fs) (fv fs), .lst (ss.map Sen.mv), .lst (names.map MV.str)] (m0.set p (plC P))) fun x m' => x = .bl true := by
  unfold f_law_judged b_law_judged
  refine Post.hide fun Q0 hQ0 => ?_
  simp only [body_ap, startM]
  have hz : n ≤ 16777216 := by omega
  have n0 : (0 : Int) < n := by omega
  have n1 : (n : Int) < 1073741824 := by omega
  have hq : ∀ P, (m0.set p (plC P))[q]? = some (wIns A rows fs) := fun P => by rw [List.getElem?_set_ne hpq]; exact hw
  have lp : ∀ m, cLen [tb rows] m = .ok (.int n) m := fun m => by
    show R.ok (MV.int ((rows.map li).length : Nat)) m = _
    rw [List.length_map, sq.1]
  have ls : ∀ m, cLen [.lst (ss.map Sen.mv)] m = .ok (.int ss.length) m := fun m => by rw [ap_lenl, List.length_map]
  have c1 := compL_all (m := m0.set p (plC P)) (j := 17) (me := mCall 3 (f_law_true A 25) (mACons (mVar 2) (mACons (mVar 3) (mACons (mVar 17) mANil)))) (e0 := [some (.ref p), some (.ref q), some (tb rows), some (.dK (fk fs) (fv fs)), some (.lst (ss.map Sen.mv)), some (.lst (names.map MV.str)), some (.int n), none, none, none, none, none, none, none, none, none, none, none]) Sen.mv (fun s => lb (tr n rows fs s)) ss fun s hs => by
    simp [ltrue_eq A sq hn 25 s (hnest s hs)]
  have e1 : ss.map (fun s => lb (tr n rows fs s)) = (ss.map (tr n rows fs)).map lb := by rw [List.map_map]; rfl
  rw [e1] at c1
  generalize hls : ss.map (tr n rows fs) = lsx at c1
  have hss : ss.length ≤ 16777216 := by omega
  simp [lp, hss, mwipe, c1, ls, run_rg hss]
  refine Post.fin (Post.bind ?_)
  refine Post.mono (for_post (fun k e m => ∃ (P : Pl) (o8 o9 : Option MV), e = [some (.ref p), some (.ref q), some (tb rows), some (.dK (fk fs) (fv fs)), some (.lst (ss.map Sen.mv)), some (.lst (names.map MV.str)), some (.int n), some (.lst (lsx.map lb)), o8, o9, none, none, none, none, none, none, none, none] ∧ m = m0.set p (plC P))
    ⟨P, none, none, rfl, rfl⟩ ?_) ?_
  · rintro i x e m hx ⟨P, o8, o9, rfl, rfl⟩
    refine Post.hide fun Q1 hQ1 => ?_
    simp only [List.getElem?_map, Option.map_eq_some_iff] at hx
    obtain ⟨a, ha, rfl⟩ := hx
    obtain ⟨rfl, hi⟩ := rg_get ha
    simp [next_Dr A hl, n0, n1, h0]
    have d0 := nxD_lo (P := P) n0
    have d1 := nxD_hi (P := P) n0
    refine Post.mono (for_post (fun k e m => ∃ (o9 : Option MV), e = [some (.ref p), some (.ref q), some (tb rows), some (.dK (fk fs) (fv fs)), some (.lst (ss.map Sen.mv)), some (.lst (names.map MV.str)), some (.int n), some (.lst (lsx.map lb)), some (.int i), o9, none, none, none, none, none, none, none, none] ∧ m = m0.set p (plC (nxP P n)))
      ⟨_, rfl, rfl⟩ ?_) ?_
    · rintro k x e m hx ⟨o9, rfl, rfl⟩
      refine Post.hide fun Q2 hQ2 => ?_
      have hx2 : ∃ v : Int, x = .int v ∧ 0 ≤ v ∧ v < n := by
        have := List.mem_of_getElem? hx
        simp at this
        rcases this with rfl | rfl | rfl
        · exact ⟨0, rfl, Int.le_refl _, n0⟩
        · exact ⟨_, rfl, by omega, by omega⟩
        · exact ⟨_, rfl, d0, d1⟩
      obtain ⟨v, rfl, v0, v1⟩ := hx2
      have at1 : atI (ss.map Sen.mv) (i : Int) = some ss[i].mv := by rw [atI_nat', List.getElem?_map, List.getElem?_eq_getElem hi]; rfl
      have at2 : atI (lsx.map lb) (i : Int) = some (lb (tr n rows fs ss[i])) := by rw [atI_nat', ← hls, List.getElem?_map, List.getElem?_map, List.getElem?_eq_getElem hi]; rfl
      have hh := has_eq A sq hn (hq (nxP P n)) v0 v1 (hnest _ (List.getElem_mem hi))
      simp [at1, at2, ins_w (hq (nxP P n)), lk_has, hh, repr_bl, ix_lb (tr_len n rows fs ss[i]) v0 v1]
      exact hQ2 _ _ ⟨_, rfl, _, rfl, rfl⟩
    · rintro f m ⟨e, rfl, o9, rfl, rfl⟩
      exact hQ1 _ _ ⟨_, rfl, _, _, _, rfl, rfl⟩
  · rintro f m ⟨e, rfl, P, o8, o9, rfl, rfl⟩
    have hlx : lsx.length = ss.length := by rw [← hls, List.length_map]
    obtain ⟨_, _, pk, ps, P2, rfl, rfl, pk1, pk2⟩ := picks_ex A (P := P) (ls := lsx) hl (by omega) (by omega)
    have pss : ps.length ≤ 16777216 := by omega
    let sen : Int → Sen := fun i => ss.getD i.toNat (.word "")
    have at_ss : ∀ i : Int, 0 ≤ i → i < ss.length → atI (ss.map Sen.mv) i = some (sen i).mv ∧ sen i ∈ ss := fun i i0 i1 => by
      have hi : i.toNat < ss.length := by omega
      have e : sen i = ss[i.toNat] := by show ss.getD i.toNat _ = _; simp [hi]
      have e2 : atI (ss.map Sen.mv) ((i.toNat : Nat) : Int) = some (ss[i.toNat]).mv := by rw [atI_nat', List.getElem?_map, List.getElem?_eq_getElem hi]; rfl
      refine ⟨?_, by rw [e]; exact List.getElem_mem hi⟩
      rw [e, ← e2]
      congr 1
      omega
    have at_ls : ∀ i : Int, 0 ≤ i → i < ss.length → atI (lsx.map lb) i = some (lb (tr n rows fs (sen i))) := fun i i0 i1 => by
      have hi : i.toNat < ss.length := by omega
      have e : sen i = ss[i.toNat] := by show ss.getD i.toNat _ = _; simp [hi]
      have e2 : atI (lsx.map lb) ((i.toNat : Nat) : Int) = some (lb (tr n rows fs ss[i.toNat])) := by rw [atI_nat', ← hls, List.getElem?_map, List.getElem?_map, List.getElem?_eq_getElem hi]; rfl
      rw [e, ← e2]
      congr 1
      omega
    rw [hlx] at pk2
    have k2 : ∀ m, kISeq (li ps) m = .ok (ps.map MV.int) m := fun m => rfl
    have c2 : ∀ o8 o11, compL (gSet 9) mYes (mOp oIx (mVar 7) (mVar 9)) [some (.ref p), some (.ref q), some (tb rows), some (.dK (fk fs) (fv fs)), some (.lst (ss.map Sen.mv)), some (.lst (names.map MV.str)), some (.int n), some (.lst (lsx.map lb)), o8, none, some (li ps), o11, none, none, none, none, none, none] (ps.map MV.int) (m0.set p (plC P2)) = .ok ((ps.map fun i => tr n rows fs (sen i)).map lb) (m0.set p (plC P2)) := fun o8 o11 => by
      have := compL_all (m := m0.set p (plC P2)) (j := 9) (me := mOp oIx (mVar 7) (mVar 9)) (e0 := [some (.ref p), some (.ref q), some (tb rows), some (.dK (fk fs) (fv fs)), some (.lst (ss.map Sen.mv)), some (.lst (names.map MV.str)), some (.int n), some (.lst (lsx.map lb)), o8, none, some (li ps), o11, none, none, none, none, none, none]) MV.int (fun i => lb (tr n rows fs (sen i))) ps fun i hi => by
        obtain ⟨i0, i1⟩ := pk2 i hi
        simp [at_ls i i0 i1]
      rw [this, List.map_map]
      rfl
    obtain ⟨_, _, pc, pls, P3, rfl, rfl, pc1, pc2⟩ := places_ex A (P := P2) (ts := ps.map fun i => tr n rows fs (sen i)) hl h0 hn (by rw [List.length_map]; omega) (fun t ht => by
      obtain ⟨i, _, rfl⟩ := List.mem_map.mp ht
      exact tr_len _ _ _ _)
    rw [List.length_map] at pc1
    have lps : ∀ m, cLen [li ps] m = .ok (.int ps.length) m := fun m => by
      show R.ok (MV.int ((ps.map MV.int).length : Nat)) _ = _
      rw [List.length_map]
    simp only [kSeq_n, ev_seq, ev_set, ev_call, ev_acons, ev_var, ev_anil, List.getElem?_cons_succ, List.getElem?_cons_zero, R.bind_ok, kCons_ap, kCons2_ap, kCall_ap, List.length_cons, List.length_nil, if_true, pk, kSet_ap, List.set_cons_succ, List.set_cons_zero, ev_lc, ev_iseq, k2, kLc_ap, List.length_map, if_pos pss, mwipe, c2, nox_ok, kLc2_ap, pc, ev_c, ev_for, ev_rg1, ev_cb, lps, run_rg pss, kFor_ap]
    let t : Nat → Bool := fun k => gb (tr n rows fs (sen (g0 ps k))) (plc pls k)
    have ix_ps : ∀ (k : Nat) m, k < ps.length → oIx (li ps) (.int k) m = .ok (.int (g0 ps k)) m ∧ 0 ≤ g0 ps k ∧ g0 ps k < ss.length := fun k m hk => by
      obtain ⟨a1, a2⟩ := at_row (r := ps) rfl (j := (k : Int)) (by omega) (by omega)
      refine ⟨?_, pk2 _ a2⟩
      show (match atI (ps.map MV.int) (k : Int) with | some v => R.ok v m | none => .stuck) = _
      rw [a1]
    have ix_pl : ∀ (k : Nat) m, k < ps.length → oIx (li pls) (.int k) m = .ok (.int (plc pls k)) m ∧ 0 ≤ plc pls k ∧ plc pls k < n := fun k m hk => by
      have hk2 : k < pls.length := by omega
      have e3 : plc pls k = pls[k] := by unfold plc; simp [hk2]
      refine ⟨?_, by rw [e3]; exact pc2 _ (List.getElem_mem hk2)⟩
      show (match atI (pls.map MV.int) (k : Int) with | some v => R.ok v m | none => .stuck) = _
      rw [atI_nat', List.getElem?_map, List.getElem?_eq_getElem hk2, e3]
      rfl
    refine Post.bind ?_
    refine Post.mono (for_post (fun k e m => ∃ (o8 : Option MV), e = [some (.ref p), some (.ref q), some (tb rows), some (.dK (fk fs) (fv fs)), some (.lst (ss.map Sen.mv)), some (.lst (names.map MV.str)), some (.int n), some (.lst (lsx.map lb)), o8, o9, some (li ps), some (li pls), some (.int (tot rows pls k)), some (.bl (allT t 0 k)), none, none, none, none] ∧ m = m0.set p (plC P3))
      ⟨_, rfl, rfl⟩ ?_) ?_
    · rintro i x e m hx ⟨o8, rfl, rfl⟩
      refine Post.hide fun Q1 hQ1 => ?_
      simp only [List.getElem?_map, Option.map_eq_some_iff] at hx
      obtain ⟨a, ha, rfl⟩ := hx
      obtain ⟨rfl, hi⟩ := rg_get ha
      obtain ⟨t0, t1⟩ := tot_in sq h0 pc2 i (by omega)
      obtain ⟨x1, x2, x3⟩ := ix_ps i (m0.set p (plC P3)) hi
      obtain ⟨y1, y2, y3⟩ := ix_pl i (m0.set p (plC P3)) hi
      have z1 := at_ls _ x2 x3
      have z2 := ix_lb (tr_len n rows fs (sen (g0 ps i))) y2 y3 (m0.set p (plC P3))
      have z3 := allT_snoc t i 0
      rw [Nat.zero_add] at z3
      have z4 : t i = gb (tr n rows fs (sen (g0 ps i))) (plc pls i) := rfl
      simp only [ev_seq, ev_set, ev_op, ev_var, List.getElem?_cons_succ, List.getElem?_cons_zero, R.bind_ok, List.set_cons_succ, List.set_cons_zero, kOp_ap, kOp2_ap, ix_tb A sq hn (hq P3) t0 t1, y1, ix_row A sq hn (hq P3) t0 t1 y2 y3, kSet_ap, kSeq_n, ev_andV, kAndV_b, x1, ap_ixl, z1, z2]
      cases hg : allT t 0 i with
      | true =>
        rw [hg, Bool.true_and] at z3
        simp
        exact hQ1 _ _ ⟨_, rfl, _, by rw [z3, z4]; rfl, rfl⟩
      | false =>
        rw [hg, Bool.false_and] at z3
        simp
        exact hQ1 _ _ ⟨_, rfl, _, by rw [z3]; rfl, rfl⟩
    · rintro f m ⟨e, rfl, o8, rfl, rfl⟩
      have hlr : ((rg ps.length).map MV.int).length = ps.length := by rw [List.length_map, rg_length]
      rw [hlr]
      have s0 : (0 : Int) < ss.length := by omega
      have s1 : (ss.length : Int) < 1073741824 := by omega
      have d0 := nxD_lo (P := P3) s0
      have d1 := nxD_hi (P := P3) s0
      obtain ⟨u1, u2⟩ := at_ss _ d0 d1
      have u3 := at_ls _ d0 d1
      obtain ⟨t0, t1⟩ := tot_in sq h0 pc2 ps.length (by omega)
      let hs : List (Str × Sen) := (rg ps.length).map fun k => (names.getD k.toNat "", sen (g0 ps k))
      have c3 : ∀ o8, compL (gSet 8) mYes (mTup (mACons (mOp oIx (mVar 5) (mVar 8)) (mACons (mC (.str "once")) (mACons (mOp oIx (mVar 4) (mOp oIx (mVar 10) (mVar 8))) mANil)))) [some (.ref p), some (.ref q), some (tb rows), some (.dK (fk fs) (fv fs)), some (.lst (ss.map Sen.mv)), some (.lst (names.map MV.str)), some (.int n), some (.lst (lsx.map lb)), none, o9, some (li ps), some (li pls), some (.int (tot rows pls ps.length)), some (.bl (allT t 0 ps.length)), o8, none, none, none] ((rg ps.length).map MV.int) (m0.set p (plC (nxP P3 ss.length))) = .ok (hs.map holdM) (m0.set p (plC (nxP P3 ss.length))) := fun o8 => by
        rw [compL_all (m := m0.set p (plC (nxP P3 ss.length))) (j := 8) MV.int (fun k => holdM (names.getD k.toNat "", sen (g0 ps k))) (rg ps.length) fun k hk => by
          obtain ⟨k0, k1⟩ := mem_rg.mp hk
          have hk2 : k.toNat < ps.length := by omega
          have hk3 : k.toNat < names.length := by omega
          obtain ⟨x1, x2, x3⟩ := ix_ps k.toNat (m0.set p (plC (nxP P3 ss.length))) hk2
          rw [show ((k.toNat : Nat) : Int) = k by omega] at x1 x2 x3
          obtain ⟨v1, _⟩ := at_ss _ x2 x3
          have nm : atI (names.map MV.str) k = some (.str (names.getD k.toNat "")) := by
            have e2 : atI (names.map MV.str) ((k.toNat : Nat) : Int) = some (.str (names.getD k.toNat "")) := by
              rw [atI_nat', List.getElem?_map]
              simp [hk3]
            rw [← e2]
            congr 1
            omega
          simp only [ev_tup, ev_acons, ev_op, ev_var, List.getElem?_cons_succ, List.getElem?_cons_zero, R.bind_ok, List.set_cons_succ, List.set_cons_zero, kOp_ap, kOp2_ap, ap_ixl, nm, kCons_ap, ev_c, x1, v1, ev_anil, kCons2_ap, kTup_ap, List.length_cons, List.length_nil]
          rfl]
        rw [List.map_map]
        rfl
      have hhs : hs.length = ps.length := by show ((rg ps.length).map _).length = _; rw [List.length_map, rg_length]
      have hsn : ∀ h ∈ hs, h.2.nest < 25 := fun h hh => by
        obtain ⟨k, hk, rfl⟩ := List.mem_map.mp hh
        obtain ⟨k0, k1⟩ := mem_rg.mp hk
        obtain ⟨_, x2, x3⟩ := ix_ps k.toNat (m0.set p (plC P3)) (by omega)
        rw [show ((k.toNat : Nat) : Int) = k by omega] at x2 x3
        exact hnest _ (at_ss _ x2 x3).2
      have fl := fails_eq A sq h0 hn (hq (nxP P3 ss.length)) (hs := hs) (g := sen (nxD P3 ss.length)) (ps := pls) (by omega) (by omega) hsn (hnest _ u2) pc2
      have tt : allT (fun k => gb (tr n rows fs (hsen hs k)) (plc pls k)) 0 hs.length = allT t 0 ps.length := by
        rw [hhs]
        refine allT_cong _ _ fun i _ hi => ?_
        rw [Nat.zero_add] at hi
        have : hsen hs i = sen (g0 ps i) := by
          unfold hsen
          show (((((rg ps.length).map fun k => ((names.getD k.toNat "" : Str), sen (g0 ps k)))[i]?).map (·.2)).getD (.word "")) = _
          rw [List.getElem?_map]
          have e : (rg ps.length)[i]? = some (i : Int) := by unfold rg; simp [hi]
          rw [e]
          rfl
        rw [this]
      rw [tt, hhs] at fl
      have hsl : hs.length ≤ 16777216 := by omega
      have lgi : ∀ m, cList [li pls] m = .ok (li pls) m := fun m => rfl
      have eqp : ∀ m, fEq (li pls) (li pls) m = some true := fun m => by
        have := eq_ints (a := pls) (b := pls) (m := m)
        rw [decide_eq_true rfl] at this
        exact this
      have u4 := ix_lb (tr_len n rows fs (sen (nxD P3 ss.length))) t0 t1 (m0.set p (plC (nxP P3 ss.length)))
      unfold claimM at fl
      have iw := ins_w (hq (nxP P3 ss.length))
      have hs24 : ps.length ≤ 16777216 := pss
      simp only [kSeq_n, ev_seq, ev_set, ev_call, ev_acons, ev_cb, ev_var, ev_anil, List.getElem?_cons_succ, List.getElem?_cons_zero, R.bind_ok, kCons_ap, kCons2_ap, ls, kCall_ap, List.length_cons, List.length_nil, if_true, next_Dr A hl s0 s1, kSet_ap, List.set_cons_succ, List.set_cons_zero]
      simp only [ev_tup, ev_acons, ev_cb, ev_lc, ev_rg1, ev_var, ev_anil, List.getElem?_cons_succ, List.getElem?_cons_zero, R.bind_ok, lps, kCons_ap, kCons2_ap, run_rg pss, kLc_ap, List.length_map, rg_length, if_pos pss, mwipe, List.set_cons_succ, List.set_cons_zero, c3, nox_ok, kLc2_ap, ap_tuple, ev_op, kOp_ap, kOp2_ap, ap_ixl, u1, kTup_ap]
      generalize hb : allT t 0 ps.length = B at *
      cases B with
      | true =>
        simp [lgi, iw, lk_fails, fl, repr_bl, u3, u4, eqp]
        exact hQ0 _ _ rfl
      | false =>
        simp [lgi, iw, lk_fails, fl, repr_bl, u3, u4, eqp]
        exact hQ0 _ _ rfl
end W76
set_option Elab.async false
set_option linter.all false
set_option maxRecDepth 100000
set_option maxHeartbeats 2000000
namespace W76
open PySem ML L2
section
variable {f n a b c : Int} (hf : f = 0 ∨ f = 1 ∨ f = 2) (a0 : 0 ≤ a) (a1 : a < n) (b0 : 0 ≤ b) (b1 : b < n) (c0 : 0 ≤ c) (c1 : c < n)
include hf a0 a1 b0 b1
theorem op_in : 0 ≤ op f n a b ∧ op f n a b < n := by
  have hn : 0 < n := by omega
  have h1 := Int.emod_nonneg (a + b) (show n ≠ 0 by omega)
  have h2 := Int.emod_lt_of_pos (a + b) hn
  rcases hf with rfl | rfl | rfl
  · unfold op; simp only [if_true]; split <;> omega
  · unfold op; rw [if_neg (by decide), if_pos rfl]; exact ⟨h1, h2⟩
  · unfold op; rw [if_neg (by decide), if_neg (by decide)]; split <;> omega
theorem op_comm : op f n a b = op f n b a := by
  rcases hf with rfl | rfl | rfl
  · unfold op; simp only [if_true]; split <;> split <;> omega
  · unfold op; rw [if_neg (by decide), if_pos rfl, if_neg (by decide), if_pos rfl, Int.add_comm]
  · have e : ∀ x y : Int, op 2 n x y = if y > x then y else x := fun x y => by unfold op; rw [if_neg (by decide), if_neg (by decide)]
    rw [e, e]
    split <;> split <;> omega
include c0 c1 in
theorem op_assoc : op f n (op f n a b) c = op f n a (op f n b c) := by
  rcases hf with rfl | rfl | rfl
  · unfold op; simp only [if_true]; split <;> split <;> split <;> split <;> omega
  · have e : ∀ x y : Int, op 1 n x y = (x + y) % n := fun x y => by unfold op; rw [if_neg (by decide), if_pos rfl]
    rw [e, e, e, e, Int.emod_add_emod, Int.add_emod_emod, Int.add_assoc]
  · have e : ∀ x y : Int, op 2 n x y = if y > x then y else x := fun x y => by unfold op; rw [if_neg (by decide), if_neg (by decide)]
    rw [e, e, e, e]
    repeat' split
    all_goals omega
end
theorem op_zero {f n b : Int} (hf : f = 0 ∨ f = 1 ∨ f = 2) (b0 : 0 ≤ b) (b1 : b < n) : op f n 0 b = b := by
  rcases hf with rfl | rfl | rfl
  · unfold op; simp only [if_true]; split <;> omega
  · unfold op; rw [if_neg (by decide), if_pos rfl, Int.zero_add, Int.emod_eq_of_lt b0 b1]
  · unfold op; rw [if_neg (by decide), if_neg (by decide)]; split <;> omega
theorem rg_at {n : Nat} {i : Int} (h0 : 0 ≤ i) (h1 : i < n) : (rg n)[i.toNat]? = some i := by
  unfold rg
  rw [List.getElem?_map, List.getElem?_range (by omega)]
  show some ((i.toNat : Nat) : Int) = some i
  congr 1
  omega
theorem g0_map {n : Nat} {F : Int → Int} {i : Int} (h0 : 0 ≤ i) (h1 : i < n) : g0 ((rg n).map F) i = F i := by
  unfold g0
  rw [List.getD_eq_getElem?_getD, List.getElem?_map, rg_at h0 h1]
  rfl
theorem row_T {f : Int} {n : Nat} {i : Int} (h0 : 0 ≤ i) (h1 : i < n) : row (T f n) i = (rg n).map (op f n i) := by
  unfold row T
  rw [List.getD_eq_getElem?_getD, List.getElem?_map, rg_at h0 h1]
  rfl
theorem T_len (f : Int) (n : Nat) : (T f n).length = n := by unfold T; rw [List.length_map, rg_length]
theorem mem_T {f : Int} {n : Nat} {r : List Int} (h : r ∈ T f n) : ∃ a : Int, 0 ≤ a ∧ a < n ∧ r = (rg n).map (op f n a) := by
  unfold T at h
  obtain ⟨a, ha, rfl⟩ := List.mem_map.mp h
  obtain ⟨a0, a1⟩ := mem_rg.mp ha
  exact ⟨a, a0, a1, rfl⟩
theorem sq_T {f : Int} {n : Nat} (hf : f = 0 ∨ f = 1 ∨ f = 2) : Sq n (T f n) := by
  refine ⟨T_len f n, fun r hr => ?_⟩
  obtain ⟨a, a0, a1, rfl⟩ := mem_T hr
  refine ⟨by rw [List.length_map, rg_length], fun i hi => ?_⟩
  obtain ⟨b, hb, rfl⟩ := List.mem_map.mp hi
  obtain ⟨b0, b1⟩ := mem_rg.mp hb
  exact op_in hf a0 a1 b0 b1
theorem cel_T {f : Int} {n : Nat} {i j : Int} (h0 : 0 ≤ i) (h1 : i < n) (j0 : 0 ≤ j) (j1 : j < n) : cel (T f n) i j = op f n i j := by
  unfold cel
  rw [row_T h0 h1, g0_map j0 j1]
theorem shape_of {n : Nat} {rows : List (List Int)} (h : Sq n rows) : shapeB rows = true := by
  unfold shapeB
  rw [List.all_eq_true]
  intro r hr
  obtain ⟨h1, h2⟩ := h.2 r hr
  rw [Bool.and_eq_true, List.all_eq_true]
  refine ⟨by rw [h.1]; exact decide_eq_true h1, fun i hi => ?_⟩
  unfold inR
  rw [h.1]
  simpa using h2 i hi
theorem facts_of {n : Nat} {fs : Fs} (h : FsOk n fs) : factsB n fs = true := by
  unfold factsB
  rw [List.all_eq_true]
  intro f hf
  rw [List.all_eq_true]
  intro i hi
  unfold inR
  simpa using (h.2 f hf).2.2 i hi
theorem world_T {f : Int} {n : Nat} {fs : Fs} (hf : f = 0 ∨ f = 1 ∨ f = 2) (hn : 0 < n) (hfs : FsOk n fs) : fault (T f n) fs = none := by
  have sq := sq_T (n := n) hf
  have n0 : (0 : Int) < n := by omega
  have hunit : row (T f n) 0 = rg n := by
    rw [row_T (Int.le_refl _) n0]
    have : ∀ b ∈ rg n, op f n 0 b = b := fun b hb => by
      obtain ⟨b0, b1⟩ := mem_rg.mp hb
      exact op_zero hf b0 b1
    rw [List.map_congr_left this, List.map_id']
  have hord : orderB n (T f n) = true := by
    unfold orderB
    rw [List.all_eq_true]
    intro i hi
    rw [List.all_eq_true]
    intro j hj
    obtain ⟨i0, i1⟩ := mem_rg.mp hi
    obtain ⟨j0, j1⟩ := mem_rg.mp hj
    have j2 : j < n := by omega
    rw [cel_T i0 i1 j0 j2, cel_T j0 j2 i0 i1]
    exact decide_eq_true (op_comm hf i0 i1 j0 j2)
  have hgrp : groupB n (T f n) = true := by
    unfold groupB
    rw [List.all_eq_true]
    intro r hr
    obtain ⟨a, a0, a1, rfl⟩ := mem_T hr
    rw [List.all_eq_true]
    intro s hs
    obtain ⟨s0, s1⟩ := mem_rg.mp hs
    refine decide_eq_true ?_
    rw [g0_map s0 s1]
    obtain ⟨o0, o1⟩ := op_in hf a0 a1 s0 s1
    rw [row_T o0 o1, row_T s0 s1, List.map_map]
    refine List.map_congr_left fun b hb => ?_
    obtain ⟨b0, b1⟩ := mem_rg.mp hb
    obtain ⟨p0, p1⟩ := op_in hf s0 s1 b0 b1
    show op f n (op f n a s) b = g0 ((rg n).map (op f n a)) (op f n s b)
    rw [g0_map p0 p1]
    exact op_assoc hf a0 a1 s0 s1 b0 b1
  unfold fault
  rw [T_len, shape_of sq, decide_eq_true hn, hunit, hord, hgrp, facts_of hfs]
  simp
end W76
set_option Elab.async false
set_option linter.all false
set_option maxRecDepth 100000
set_option maxHeartbeats 2000000
namespace W76
open PySem ML L2
/-- one item changed -/
def setC (rows : List (List Int)) (i j : Nat) (v : Int) : List (List Int) := rows.set i ((row rows i).set j v)
theorem fault_shape {rows : List (List Int)} {fs : Fs} (h : shapeB rows = false) : fault rows fs = some ("shape" : Str) := by
  unfold fault
  rw [h]
  rfl
theorem shape_no {rows : List (List Int)} {r : List Int} (hr : r ∈ rows) (h : r.length ≠ rows.length ∨ ∃ i ∈ r, ¬ (0 ≤ i ∧ i < rows.length)) : shapeB rows = false := by
  cases hs : shapeB rows with
  | false => rfl
  | true =>
    have sq := sq_of hs
    obtain ⟨h1, h2⟩ := sq.2 r hr
    rcases h with h | ⟨i, hi, h⟩
    · exact absurd h1 h
    · exact absurd (h2 i hi) h
section
variable {n : Nat} {rows : List (List Int)} (sq : Sq n rows)
include sq
theorem row_set {i : Nat} (hi : i < n) {r : List Int} {a : Int} (a0 : 0 ≤ a) (a1 : a < n) : row (rows.set i r) a = if a = i then r else row rows a := by
  unfold row
  rw [List.getD_eq_getElem?_getD, List.getD_eq_getElem?_getD]
  by_cases h : a = i
  · subst h
    rw [if_pos rfl, show ((i : Int)).toNat = i by omega, List.getElem?_set_self (by rw [sq.1]; exact hi)]
    rfl
  · rw [if_neg h, List.getElem?_set_ne (by omega)]
theorem row_len {a : Int} (a0 : 0 ≤ a) (a1 : a < n) : (row rows a).length = n := (sq.row a0 a1).2.2
theorem g0_set {r : List Int} (hr : r.length = n) {j : Nat} {v : Int} (hj : j < n) {b : Int} (b0 : 0 ≤ b) (b1 : b < n) : g0 (r.set j v) b = if b = j then v else g0 r b := by
  unfold g0
  rw [List.getD_eq_getElem?_getD, List.getD_eq_getElem?_getD]
  by_cases h : b = j
  · subst h
    rw [if_pos rfl, show ((j : Int)).toNat = j by omega, List.getElem?_set_self (by rw [hr]; exact hj)]
    rfl
  · rw [if_neg h, List.getElem?_set_ne (by omega)]
theorem cel_set {i j : Nat} (hi : i < n) (hj : j < n) {v a b : Int} (a0 : 0 ≤ a) (a1 : a < n) (b0 : 0 ≤ b) (b1 : b < n) : cel (setC rows i j v) a b = if a = i ∧ b = j then v else cel rows a b := by
  unfold cel setC
  rw [row_set sq hi a0 a1]
  by_cases h : a = i
  · rw [if_pos h, g0_set sq (row_len sq (by omega) (by omega)) hj b0 b1]
    by_cases h2 : b = j
    · rw [if_pos h2, if_pos ⟨h, h2⟩]
    · rw [if_neg h2, if_neg (fun z => h2 z.2), h]
  · rw [if_neg h, if_neg (fun z => h z.1)]
theorem sq_set {i j : Nat} (hi : i < n) {v : Int} (v0 : 0 ≤ v) (v1 : v < n) : Sq n (setC rows i j v) := by
  unfold setC
  refine ⟨by rw [List.length_set, sq.1], fun r hr => ?_⟩
  rcases List.mem_or_eq_of_mem_set hr with h | h
  · exact sq.2 r h
  · rw [h]
    refine ⟨by rw [List.length_set]; exact row_len sq (by omega) (by omega), fun x hx => ?_⟩
    rcases List.mem_or_eq_of_mem_set hx with h2 | h2
    · exact (sq.2 _ (sq.row (i := (i : Int)) (by omega) (by omega)).2.1).2 x h2
    · rw [h2]
      exact ⟨v0, v1⟩
end
theorem row_ext {n : Nat} {r s : List Int} (hr : r.length = n) (hs : s.length = n) (h : ∀ b : Int, 0 ≤ b → b < n → g0 r b = g0 s b) : r = s := by
  apply List.ext_getElem (by omega)
  intro i h1 h2
  have := h i (by omega) (by omega)
  unfold g0 at this
  simpa [h1, h2] using this
theorem order_no {n : Nat} {rows : List (List Int)} {i j : Int} (h0 : 0 ≤ j) (h1 : j < i) (h2 : i < n) (h : cel rows i j ≠ cel rows j i) : orderB n rows = false := by
  cases ho : orderB n rows with
  | false => rfl
  | true =>
    unfold orderB at ho
    rw [List.all_eq_true] at ho
    have := ho i (mem_rg.mpr ⟨by omega, h2⟩)
    rw [List.all_eq_true] at this
    exact absurd (of_decide_eq_true (this j (mem_rg.mpr ⟨h0, by omega⟩))) h
theorem order_yes {n : Nat} {rows : List (List Int)} (h : ∀ i j : Int, 0 ≤ j → j < i → i < n → cel rows i j = cel rows j i) : orderB n rows = true := by
  unfold orderB
  rw [List.all_eq_true]
  intro i hi
  rw [List.all_eq_true]
  intro j hj
  obtain ⟨i0, i1⟩ := mem_rg.mp hi
  obtain ⟨j0, j1⟩ := mem_rg.mp hj
  exact decide_eq_true (h i j j0 (by omega) i1)
end W76
set_option Elab.async false
set_option linter.all false
set_option maxRecDepth 100000
set_option maxHeartbeats 2000000
namespace W76
open PySem ML L2
section
variable {f : Int} {n : Nat} {fs : Fs} (hf : f = 0 ∨ f = 1 ∨ f = 2) (hn : 0 < n)
include hf hn
theorem unit_row {i j : Nat} {v : Int} (hi : 0 < i) (hi2 : i < n) : row (setC (T f n) i j v) 0 = rg n := by
  have n0 : (0 : Int) < n := by omega
  unfold setC
  rw [row_set (sq_T hf) hi2 (Int.le_refl _) n0, if_neg (by omega), row_T (Int.le_refl _) n0]
  have : ∀ b ∈ rg n, op f n 0 b = b := fun b hb => by
    obtain ⟨b0, b1⟩ := mem_rg.mp hb
    exact op_zero hf b0 b1
  rw [List.map_congr_left this, List.map_id']
theorem bad_unit (h1 : 1 < n) {d : Int} (d0 : 0 ≤ d) (d1 : d < n - 1) : fault (setC (T f n) 0 (n - 1) d) fs = some ("unit" : Str) := by
  have sq := sq_set (sq_T (n := n) hf) hn (j := n - 1) d0 (show d < n by omega)
  have hu : ¬ row (setC (T f n) 0 (n - 1) d) 0 = rg n := by
    intro h
    have c := cel_set (sq_T (n := n) hf) (i := 0) (j := n - 1) hn (by omega) (v := d) (a := 0) (b := ((n - 1 : Nat) : Int)) (Int.le_refl _) (by omega) (by omega) (by omega)
    rw [if_pos ⟨rfl, rfl⟩] at c
    unfold cel at c
    rw [h] at c
    have e := g0_map (n := n) (F := id) (i := ((n - 1 : Nat) : Int)) (by omega) (by omega)
    rw [List.map_id] at e
    rw [e] at c
    simp at c
    omega
  unfold fault
  rw [sq.1, shape_of sq, decide_eq_true hn]
  rw [if_neg (by simp), if_pos hu]
theorem bad_order (h2 : 2 < n) : fault (setC (T f n) (n - 1) (n - 2) ((cel (T f n) (n - 1 : Nat) (n - 2 : Nat) + 1) % n)) fs = some ("order" : Str) := by
  have n0 : (0 : Int) < n := by omega
  have hv0 := Int.emod_nonneg (cel (T f n) (n - 1 : Nat) (n - 2 : Nat) + 1) (show (n : Int) ≠ 0 by omega)
  have hv1 := Int.emod_lt_of_pos (cel (T f n) (n - 1 : Nat) (n - 2 : Nat) + 1) n0
  have cT := cel_T (f := f) (n := n) (i := (n - 1 : Nat)) (j := (n - 2 : Nat)) (by omega) (by omega) (by omega) (by omega)
  obtain ⟨o0, o1⟩ := op_in (f := f) (n := n) (a := (n - 1 : Nat)) (b := (n - 2 : Nat)) hf (by omega) (by omega) (by omega) (by omega)
  have oc := op_comm (f := f) (n := n) (a := (n - 1 : Nat)) (b := (n - 2 : Nat)) hf (by omega) (by omega) (by omega) (by omega)
  rw [cT] at hv0 hv1 ⊢
  generalize hx : op f n (n - 1 : Nat) (n - 2 : Nat) = x at *
  have hne : (x + 1) % n ≠ x := by
    by_cases hq : x + 1 < n
    · rw [Int.emod_eq_of_lt (by omega) hq]
      omega
    · have : x + 1 = n := by omega
      rw [this, Int.emod_self]
      omega
  generalize hy : (x + 1) % (n : Int) = v at *
  have sq := sq_set (sq_T (n := n) hf) (i := n - 1) (j := n - 2) (by omega) hv0 hv1
  have hu := unit_row (f := f) (n := n) hf hn (i := n - 1) (j := n - 2) (v := v) (by omega) (by omega)
  have ho : orderB n (setC (T f n) (n - 1) (n - 2) v) = false := by
    refine order_no (i := (n - 1 : Nat)) (j := (n - 2 : Nat)) (by omega) (by omega) (by omega) ?_
    rw [cel_set (sq_T hf) (by omega) (by omega) (by omega) (by omega) (by omega) (by omega), if_pos ⟨rfl, rfl⟩]
    rw [cel_set (sq_T hf) (by omega) (by omega) (by omega) (by omega) (by omega) (by omega), if_neg (by omega)]
    rw [cel_T (by omega) (by omega) (by omega) (by omega), ← oc]
    exact hne
  unfold fault
  rw [sq.1, shape_of sq, decide_eq_true hn, hu, ho]
  rw [if_neg (by simp), if_neg (by simp), if_pos rfl]
theorem bad_last : fault (setC (T f n) (n - 1) (n - 1) n) fs = some ("shape" : Str) := by
  refine fault_shape (shape_no (r := (row (T f n) (n - 1 : Nat)).set (n - 1) n) ?_ (.inr ⟨n, ?_, ?_⟩))
  · unfold setC
    exact List.mem_set (by rw [T_len]; omega) _
  · exact List.mem_set (by rw [row_len (sq_T hf) (by omega) (by omega)]; omega) _
  · unfold setC
    rw [List.length_set, T_len]
    omega
theorem bad_short {r : List Int} (hr : r.length ≠ n) : fault ((T f n).set (n - 1) r) fs = some ("shape" : Str) := by
  refine fault_shape (shape_no (r := r) (List.mem_set (by rw [T_len]; omega) _) (.inl ?_))
  rw [List.length_set, T_len]
  exact hr
theorem bad_more {r : List Int} (hr : r.length = n) : fault (T f n ++ [r]) fs = some ("shape" : Str) := by
  refine fault_shape (shape_no (r := r) (by simp) (.inl ?_))
  rw [List.length_append, T_len]
  simp
  omega
theorem bad_fact {w : Str} (hfs : FsOk n fs) : fault (T f n) (putS fs w (rg (n + 1))) = some ("fact" : Str) := by
  have hw := world_T (fs := fs) hf hn hfs
  have hb : factsB n (putS fs w (rg (n + 1))) = false := by
    cases h : factsB n (putS fs w (rg (n + 1))) with
    | false => rfl
    | true =>
      unfold factsB at h
      rw [List.all_eq_true] at h
      have hm : (w, rg (n + 1)) ∈ putS fs w (rg (n + 1)) := by
        clear hw hfs h
        induction fs with
        | nil => exact List.mem_singleton.mpr rfl
        | cons g fs ih =>
          obtain ⟨s, l⟩ := g
          unfold putS
          split
          · rename_i e
            rw [e]
            exact List.mem_cons_self ..
          · exact List.mem_cons_of_mem _ ih
      have := h _ hm
      rw [List.all_eq_true] at this
      have := this (n : Int) (mem_rg.mpr ⟨by omega, by omega⟩)
      unfold inR at this
      simp at this
  unfold fault at hw ⊢
  rw [T_len] at hw ⊢
  rw [hb]
  split at hw
  · cases hw
  · rename_i q1
    rw [if_neg q1]
    split at hw
    · cases hw
    · rename_i q2
      rw [if_neg q2]
      split at hw
      · cases hw
      · rename_i q3
        rw [if_neg q3]
        split at hw
        · cases hw
        · rename_i q4
          rw [if_neg q4, if_pos rfl]
end
theorem bad_group {n : Nat} {fs : Fs} (h4 : 4 < n) : fault (setC (setC (T 2 n) (n - 1) (n - 2) 1) (n - 2) (n - 1) 1) fs = some ("grouping" : Str) := by
  have hf : (2 : Int) = 0 ∨ (2 : Int) = 1 ∨ (2 : Int) = 2 := .inr (.inr rfl)
  have hn : 0 < n := by omega
  have s1 := sq_set (sq_T (n := n) hf) (i := n - 1) (j := n - 2) (v := 1) (by omega) (by omega) (by omega)
  have s2 := sq_set s1 (i := n - 2) (j := n - 1) (v := 1) (by omega) (by omega) (by omega)
  have mx : ∀ a b : Int, op 2 n a b = if b > a then b else a := fun a b => by unfold op; rw [if_neg (by decide), if_neg (by decide)]
  have ce : ∀ a b : Int, 0 ≤ a → a < n → 0 ≤ b → b < n → cel (setC (setC (T 2 n) (n - 1) (n - 2) 1) (n - 2) (n - 1) 1) a b = if a = (n - 2 : Nat) ∧ b = (n - 1 : Nat) then 1 else if a = (n - 1 : Nat) ∧ b = (n - 2 : Nat) then 1 else if b > a then b else a := fun a b a0 a1 b0 b1 => by
    rw [cel_set s1 (by omega) (by omega) a0 a1 b0 b1, cel_set (sq_T hf) (by omega) (by omega) a0 a1 b0 b1, cel_T a0 a1 b0 b1, mx]
  generalize hR : setC (setC (T 2 n) (n - 1) (n - 2) 1) (n - 2) (n - 1) 1 = R at *
  have hu : row R 0 = rg n := by
    refine row_ext (n := n) (row_len s2 (by omega) (by omega)) (rg_length n) fun b b0 b1 => ?_
    have e := g0_map (n := n) (F := id) b0 b1
    rw [List.map_id] at e
    rw [e]
    have := ce 0 b (by omega) (by omega) b0 b1
    unfold cel at this
    rw [this, if_neg (by omega), if_neg (by omega)]
    show (if b > 0 then b else 0) = b
    split <;> omega
  have ho : orderB n R = true := by
    refine order_yes fun i j j0 h1 i1 => ?_
    rw [ce i j (by omega) i1 j0 (by omega), ce j i j0 (by omega) (by omega) i1]
    repeat' split
    all_goals omega
  have hg : groupB n R = false := by
    cases h : groupB n R with
    | false => rfl
    | true =>
      unfold groupB at h
      rw [List.all_eq_true] at h
      have h1 := h (row R (n - 1 : Nat)) (s2.row (by omega) (by omega)).2.1
      rw [List.all_eq_true] at h1
      have h2 := of_decide_eq_true (h1 (n - 2 : Nat) (mem_rg.mpr ⟨by omega, by omega⟩))
      have c1 := ce (n - 1 : Nat) (n - 2 : Nat) (by omega) (by omega) (by omega) (by omega)
      unfold cel at c1
      rw [if_neg (by omega), if_pos ⟨rfl, rfl⟩] at c1
      rw [c1] at h2
      have c2 := ce 1 (n - 3 : Nat) (by omega) (by omega) (by omega) (by omega)
      unfold cel at c2
      rw [if_neg (by omega), if_neg (by omega), if_pos (by omega), h2] at c2
      have l2 := row_len s2 (a := (n - 2 : Nat)) (by omega) (by omega)
      have c3 := ce (n - 2 : Nat) (n - 3 : Nat) (by omega) (by omega) (by omega) (by omega)
      unfold cel at c3
      rw [if_neg (by omega), if_neg (by omega), if_neg (by omega)] at c3
      have e : g0 ((row R (n - 2 : Nat)).map fun it => g0 (row R (n - 1 : Nat)) it) (n - 3 : Nat) = g0 (row R (n - 1 : Nat)) (g0 (row R (n - 2 : Nat)) (n - 3 : Nat)) := by
        have hi : n - 3 < (row R (n - 2 : Nat)).length := by omega
        unfold g0
        rw [List.getD_eq_getElem?_getD, List.getElem?_map]
        simp [hi]
      rw [e, c3, c1] at c2
      omega
  unfold fault
  rw [s2.1, shape_of s2, decide_eq_true hn, hu, ho, hg]
  simp
end W76
set_option Elab.async false
set_option linter.all false
set_option maxRecDepth 100000
set_option maxHeartbeats 2000000
namespace W76
open PySem ML L2 PySem.Builtin.Str
/-- a text of plain signs, at most k of them -/
def Gd (k : Nat) (s : Str) : Prop := s.length ≤ k ∧ ∀ c ∈ s.cps.toList, c < 128
theorem Gd.add {j k : Nat} {s t : Str} (a : Gd j s) (b : Gd k t) : Gd (j + k) (s ++ t) := by
  refine ⟨?_, fun c hc => ?_⟩
  · rw [strLen_append]
    have := a.1
    have := b.1
    omega
  · rw [PySem.Str.cps_append] at hc
    simp at hc
    rcases hc with h | h
    · exact a.2 c (by simpa using h)
    · exact b.2 c (by simpa using h)
theorem Gd.mono {j k : Nat} {s : Str} (a : Gd j s) (h : j ≤ k) : Gd k s := ⟨Nat.le_trans a.1 h, a.2⟩
theorem sep_gd : Gd 2 ((", " : String) : Str) ∧ Gd 2 ((if (0 : Nat) > 0 then ", " else "" : String) : Str) ∧ Gd 1 ("[" : Str) ∧ Gd 1 ("]" : Str) ∧ Gd 1 ("{" : Str) ∧ Gd 1 ("}" : Str) ∧ Gd 2 (": " : Str) := by
  unfold Gd
  decide +kernel
theorem from_gd {k : Nat} : ∀ (ts : List Str) (i j : Nat) (acc : Str), Gd j acc → (∀ t ∈ ts, Gd k t) → Gd (j + (k + 2) * ts.length) (textFrom i acc ts)
  | [], i, j, acc, h, _ => by simpa [textFrom] using h
  | t :: ts, i, j, acc, h, ht => by
    have hs : Gd 2 ((if i > 0 then ", " else "" : String) : Str) := by
      by_cases hi : i > 0
      · rw [if_pos hi]
        exact sep_gd.1
      · rw [if_neg hi]
        exact sep_gd.2.1
    have := from_gd (k := k) ts (i + 1) (j + 2 + k) (acc ++ (if i > 0 then ", " else "" : String) ++ t) ((h.add hs).add (ht t (List.mem_cons_self ..))) fun u hu => ht u (List.mem_cons_of_mem _ hu)
    rw [textFrom]
    refine this.mono ?_
    rw [List.length_cons, Nat.mul_add]
    omega
theorem list_gd {k : Nat} {ts : List Str} (h : ∀ t ∈ ts, Gd k t) : Gd (2 + (k + 2) * ts.length) (listText ts) := by
  unfold listText
  exact ((from_gd ts 0 1 "[" sep_gd.2.2.1 h).add sep_gd.2.2.2.1).mono (by omega)
theorem join_gd {k : Nat} : ∀ {ts : List Str}, (∀ t ∈ ts, Gd k t) → Gd ((k + 2) * ts.length) (Str.join ", " ts)
  | [], _ => ⟨Nat.zero_le _, fun c hc => by
    have : (Str.join ", " ([] : List Str)).cps.toList = [] := by decide +kernel
    rw [this] at hc
    cases hc⟩
  | [x], h => (h x (List.mem_cons_self ..)).mono (by simp)
  | x :: y :: r, h => by
    have ih := join_gd (k := k) (ts := y :: r) fun t ht => h t (List.mem_cons_of_mem _ ht)
    show Gd _ (x ++ ", " ++ Str.join ", " (y :: r))
    refine (((h x (List.mem_cons_self ..)).add sep_gd.1).add ih).mono ?_
    rw [List.length_cons (a := x), Nat.mul_add]
    omega
theorem dict_gd {k : Nat} {ts : List Str} (h : ∀ t ∈ ts, Gd k t) : Gd (2 + (k + 2) * ts.length) (dictText ts) := by
  unfold dictText
  exact ((sep_gd.2.2.2.2.1.add (join_gd h)).add sep_gd.2.2.2.2.2.1).mono (by omega)
theorem char_gd : ∀ c : Fin 128, ∀ q : Bool, ((reprChar (if q then 34 else 39) c.val).length ≤ 10) ∧ ∀ d ∈ reprChar (if q then 34 else 39) c.val, d < 128 := by decide +kernel
theorem text_gd {s : Str} (h : Nm s) : Gd 202 (reprText s) := by
  obtain ⟨q, hq⟩ : ∃ q : Bool, reprQuote s = if q then 34 else 39 := by
    unfold reprQuote
    by_cases h : (s.cps.contains 39 && !s.cps.contains 34) = true
    · exact ⟨true, by rw [if_pos h]; rfl⟩
    · exact ⟨false, by rw [if_neg h]; rfl⟩
  have key : ∀ (l : List Nat) (acc : Array Nat), (∀ c ∈ l, c < 128) → (∀ c ∈ acc.toList, c < 128) → (l.foldl (fun out c => out ++ (reprChar (reprQuote s) c).toArray) acc).size ≤ acc.size + 10 * l.length ∧ ∀ c ∈ (l.foldl (fun out c => out ++ (reprChar (reprQuote s) c).toArray) acc).toList, c < 128 := by
    intro l
    induction l with
    | nil => intro acc _ h; exact ⟨by simp, h⟩
    | cons c l ih =>
      intro acc hl ha
      have hc := hl c (List.mem_cons_self ..)
      have cg := char_gd ⟨c, hc⟩ q
      rw [← hq] at cg
      obtain ⟨h1, h2⟩ := ih (acc ++ (reprChar (reprQuote s) c).toArray) (fun d hd => hl d (List.mem_cons_of_mem _ hd)) (fun d hd => by
        simp at hd
        rcases hd with h | h
        · exact ha d (by simpa using h)
        · exact cg.2 d h)
      refine ⟨?_, h2⟩
      rw [List.foldl_cons, List.length_cons]
      simp at h1
      have c1 : (reprChar (reprQuote s) c).length ≤ 10 := cg.1
      omega
  have hqq : reprQuote s < 128 := by rw [hq]; cases q <;> decide
  obtain ⟨h1, h2⟩ := key s.cps.toList #[reprQuote s] h.2 (fun c hc => by simp at hc; rw [hc]; exact hqq)
  have hl : s.cps.toList.length ≤ 20 := h.1
  unfold reprText
  rw [← Array.foldl_toList]
  refine ⟨?_, fun c hc => ?_⟩
  · show (Array.push _ _).size ≤ 202
    rw [Array.size_push]
    simp at h1 hl ⊢
    omega
  · rw [show ((s.cps.toList.foldl (fun out c => out ++ (reprChar (reprQuote s) c).toArray) #[reprQuote s]).push (reprQuote s)).toList = (s.cps.toList.foldl (fun out c => out ++ (reprChar (reprQuote s) c).toArray) #[reprQuote s]).toList ++ [reprQuote s] from Array.toList_push] at hc
    rcases List.mem_append.mp hc with hc | hc
    · exact h2 c hc
    · rw [List.mem_singleton.mp hc]
      exact hqq
theorem int_gd : ∀ i : Fin 100, Gd 2 (PyData.shown (.int ((i.val : Nat) : Int))) := by
  unfold Gd
  intro i
  rw [PyData.shown]
  revert i
  decide +kernel
theorem row_gd {r : List Int} (h : ∀ i ∈ r, 0 ≤ i ∧ i < 100) : Gd (2 + 4 * r.length) (PyData.list (r.map .int)).shown := by
  rw [PyData.shown]
  have : ∀ t ∈ PyData.shownAll (r.map PyData.int), Gd 2 t := by
    induction r with
    | nil => intro t ht; simp [PyData.shownAll] at ht
    | cons a r ih =>
      intro t ht
      rw [List.map_cons, PyData.shownAll] at ht
      rcases List.mem_cons.mp ht with e | ht
      · obtain ⟨a0, a1⟩ := h a (List.mem_cons_self ..)
        have := int_gd ⟨a.toNat, by omega⟩
        rw [show (((⟨a.toNat, by omega⟩ : Fin 100).val : Nat) : Int) = a by show ((a.toNat : Nat) : Int) = a; omega] at this
        rw [e]
        exact this
      · exact ih (fun i hi => h i (List.mem_cons_of_mem _ hi)) t ht
  have hl : (PyData.shownAll (r.map PyData.int)).length = r.length := by
    clear this h
    induction r with
    | nil => simp [PyData.shownAll]
    | cons a r ih => simp [PyData.shownAll, ih]
  have g := list_gd this
  rw [hl] at g
  exact g
end W76
set_option Elab.async false
set_option linter.all false
set_option maxRecDepth 100000
set_option maxHeartbeats 2000000
namespace W76
open PySem ML L2 PySem.Builtin.Str
theorem gd_ok {k : Nat} {s : Str} (h : Gd k s) : PyData.strOk s = true := by
  unfold PyData.strOk
  rw [Array.all_eq_true_iff_forall_mem]
  intro c hc
  have := h.2 c (by simpa using hc)
  simp
  omega
theorem tup_eq {a b : Str} {j k : Nat} (ha : Gd j a) (hb : Gd k b) (m : Mo) : fEq (.tup [.str a, .str b]) (.tup [.str a, .str b]) m = some true := by
  show dEq _ _ m = _
  have e : toD1 m (.tup [.str a, .str b]) = some (.tuple [.str a, .str b]) := rfl
  unfold dEq
  rw [e]
  have sh : SeqAt.shaped (.tuple [.str a, .str b]) = true := by
    unfold SeqAt.shaped
    simp [PyData.canLay0, PyData.canLayAll0, PyData.depth, PyData.depthAll, gd_ok ha, gd_ok hb]
  show (if (SeqAt.shaped (.tuple [.str a, .str b]) && SeqAt.shaped (.tuple [.str a, .str b])) = true then some (PyData.eqv (.tuple [.str a, .str b]) (.tuple [.str a, .str b])) else none) = _
  rw [sh]
  simp [PyData.eqv, PyData.eqvAll]
/-- small rows -/
def Sm (r : List Int) : Prop := r.length ≤ 100 ∧ ∀ i ∈ r, 0 ≤ i ∧ i < 100
def ld (r : List Int) : PyData := .list (r.map .int)
theorem show_ints {r : List Int} (h : ∀ i ∈ r, 0 ≤ i ∧ i < 100) : PyData.showableAll (r.map PyData.int) = true := by
  induction r with
  | nil => simp [PyData.showableAll]
  | cons a r ih =>
    obtain ⟨a0, a1⟩ := h a (List.mem_cons_self ..)
    have : a.natAbs.log2 < 1920 := by
      have h1 : a.natAbs < 2 ^ 1920 := Nat.lt_of_lt_of_le (show a.natAbs < 100 by omega) (by decide)
      by_cases h0 : a.natAbs = 0
      · rw [h0]; decide
      · exact (Nat.log2_lt h0).mpr h1
    simp [PyData.showableAll, PyData.showable, this, ih fun i hi => h i (List.mem_cons_of_mem _ hi)]
theorem rows_data (rows : List (List Int)) : toDs (rows.map li) = some (rows.map ld) := by
  induction rows with
  | nil => rfl
  | cons r rows ih =>
    rw [List.map_cons, List.map_cons, toDs, ih]
    have : toD (li r) = some (ld r) := by
      show (toDs (r.map MV.int)).map PyData.list = _
      rw [toDs_int]
      rfl
    rw [this]
    rfl
theorem sm_gd {r : List Int} (h : Sm r) : Gd 402 (ld r).shown := (row_gd h.2).mono (by have := h.1; omega)
theorem rows_show {rows : List (List Int)} (h : ∀ r ∈ rows, Sm r) : PyData.showableAll (rows.map ld) = true ∧ PyData.depthAll (rows.map ld) ≤ 1 ∧ (∀ t ∈ PyData.shownAll (rows.map ld), Gd 402 t) ∧ (PyData.shownAll (rows.map ld)).length = rows.length := by
  induction rows with
  | nil => simp [PyData.showableAll, PyData.depthAll, PyData.shownAll]
  | cons r rows ih =>
    obtain ⟨h1, h2, h3, h4⟩ := ih fun s hs => h s (List.mem_cons_of_mem _ hs)
    have hr := h r (List.mem_cons_self ..)
    refine ⟨?_, ?_, ?_, ?_⟩
    · have : (ld r).showable = true := by simp [ld, PyData.showable, show_ints hr.2]
      simp [PyData.showableAll, this, h1]
    · have : (ld r).depth = 1 := by simp [ld, PyData.depth, depth_int]
      simp only [List.map_cons, PyData.depthAll, this]
      omega
    · intro t ht
      rw [List.map_cons, PyData.shownAll] at ht
      rcases List.mem_cons.mp ht with e | ht
      · rw [e]
        exact sm_gd hr
      · exact h3 t ht
    · simp [PyData.shownAll, h4]
theorem repr_rows {rows : List (List Int)} (h : ∀ r ∈ rows, Sm r) (hl : rows.length ≤ 100) (m : Mo) : ∃ s, Gd 50000 s ∧ cRepr [tb rows] m = .ok (.str s) m := by
  obtain ⟨h1, h2, h3, h4⟩ := rows_show h
  have g := list_gd h3
  rw [h4] at g
  have g2 : Gd 50000 (listText (PyData.shownAll (rows.map ld))) := g.mono (by omega)
  refine ⟨listText (PyData.shownAll (rows.map ld)), g2, ?_⟩
  have e : toR1 m (tb rows) = some (.list (rows.map ld)) := by
    show (toDs (rows.map li)).map PyData.list = _
    rw [rows_data]
    rfl
  show (match toR1 m (tb rows) with | some d => if d.showable = true ∧ d.depth ≤ 60 ∧ d.shown.length ≤ sizeLine then R.ok (MV.str d.shown) m else .stuck | none => .stuck) = _
  rw [e]
  dsimp only
  rw [if_pos]
  · rw [PyData.shown]
  · rw [PyData.shown, PyData.depth, PyData.showable, sizeLine_eq]
    exact ⟨h1, by omega, Nat.le_trans g2.1 (by decide)⟩
def FsS (fs : Fs) : Prop := fs.length ≤ 100 ∧ ∀ f ∈ fs, Nm f.1 ∧ Sm f.2
def fd (fs : Fs) : List (PyData × PyData) := fs.map fun f => (PyData.str f.1, ld f.2)
theorem fs_show {fs : Fs} (h : ∀ f ∈ fs, Nm f.1 ∧ Sm f.2) : PyData.showableKv (fd fs) = true ∧ PyData.depthKv (fd fs) ≤ 1 ∧ (∀ t ∈ PyData.shownKv (fd fs), Gd 606 t) ∧ (PyData.shownKv (fd fs)).length = fs.length := by
  induction fs with
  | nil => simp [fd, PyData.showableKv, PyData.depthKv, PyData.shownKv]
  | cons f fs ih =>
    obtain ⟨h1, h2, h3, h4⟩ := ih fun s hs => h s (List.mem_cons_of_mem _ hs)
    obtain ⟨hn, hr⟩ := h f (List.mem_cons_self ..)
    have ef : fd (f :: fs) = (PyData.str f.1, ld f.2) :: fd fs := rfl
    rw [ef]
    refine ⟨?_, ?_, ?_, ?_⟩
    · have : (ld f.2).showable = true := by simp [ld, PyData.showable, show_ints hr.2]
      simp [PyData.showableKv, PyData.showable, this, h1]
    · have : (ld f.2).depth = 1 := by simp [ld, PyData.depth, depth_int]
      simp only [PyData.depthKv, PyData.depth, this]
      omega
    · intro t ht
      rw [PyData.shownKv] at ht
      rcases List.mem_cons.mp ht with e | ht
      · rw [e, PyData.shown]
        exact (((text_gd hn).add sep_gd.2.2.2.2.2.2).add (sm_gd hr)).mono (by omega)
      · exact h3 t ht
    · simp [PyData.shownKv, h4]
theorem fv_data (fs : Fs) : toDs (fv fs) = some (fs.map fun f => ld f.2) := by
  have := rows_data (fs.map (·.2))
  rw [List.map_map, List.map_map] at this
  exact this
theorem repr_facts {fs : Fs} (h : FsS fs) (m : Mo) : ∃ s, Gd 90000 s ∧ cRepr [.dK (fk fs) (fv fs)] m = .ok (.str s) m := by
  obtain ⟨h1, h2, h3, h4⟩ := fs_show h.2
  have g := dict_gd h3
  rw [h4] at g
  have g2 : Gd 90000 (dictText (PyData.shownKv (fd fs))) := g.mono (by have := h.1; omega)
  refine ⟨dictText (PyData.shownKv (fd fs)), g2, ?_⟩
  have ez : ((fk fs).map kD).zip (fs.map fun f => ld f.2) = fd fs := by
    unfold fk fd
    clear h h1 h2 h3 h4 g g2
    induction fs with
    | nil => rfl
    | cons f fs ih =>
      simp only [List.map_cons, List.zip_cons_cons]
      rw [ih]
      rfl
  have e : toR1 m (.dK (fk fs) (fv fs)) = some (.dict (fd fs)) := by
    show ((toDs (fv fs)).map fun ds => PyData.dict (((fk fs).map kD).zip ds)) = _
    rw [fv_data, ← ez]
    rfl
  show (match toR1 m (.dK (fk fs) (fv fs)) with | some d => if d.showable = true ∧ d.depth ≤ 60 ∧ d.shown.length ≤ sizeLine then R.ok (MV.str d.shown) m else .stuck | none => .stuck) = _
  rw [e]
  dsimp only
  rw [if_pos]
  · rw [PyData.shown]
  · rw [PyData.shown, PyData.depth, PyData.showable, sizeLine_eq]
    exact ⟨h1, by omega, Nat.le_trans g2.1 (by decide)⟩
end W76
set_option Elab.async false
set_option linter.all false
set_option maxRecDepth 100000
set_option maxHeartbeats 2000000
namespace W76
open PySem ML L2
def rowC (r : List Int) : MCell := .lst (r.map MV.int)
def refs : Nat → Nat → List MV
  | _, 0 => []
  | k, n + 1 => .ref k :: refs (k + 1) n
theorem refs_len : ∀ n k, (refs k n).length = n
  | 0, _ => rfl
  | n + 1, k => by rw [refs, List.length_cons, refs_len n]
theorem refs_at : ∀ n k i, i < n → (refs k n)[i]? = some (.ref (k + i))
  | n + 1, k, 0, _ => rfl
  | n + 1, k, i + 1, h => by
    show (refs (k + 1) n)[i]? = _
    rw [refs_at n (k + 1) i (by omega), show k + 1 + i = k + (i + 1) by omega]
theorem refs_below : ∀ n k L, k + n ≤ L → belows L (refs k n) = true
  | 0, _, _, _ => rfl
  | n + 1, k, L, h => by
    show (decide (k < L) && belows L (refs (k + 1) n)) = true
    rw [refs_below n (k + 1) L (by omega), decide_eq_true (by omega)]
    rfl
theorem cells_make {e0 : ML.Env} (h11 : 11 < e0.length) : ∀ (rows : List (List Int)) (m : Mo), compL (gSet 11) mYes (mCB cListC (mACons (mVar 11) mANil)) e0 (rows.map li) m = .ok (refs m.length rows.length) (m ++ rows.map rowC)
  | [], m => by simp [compL, refs]
  | r :: rows, m => by
    have ih := cells_make h11 rows (m ++ [rowC r])
    rw [List.length_append, List.length_singleton] at ih
    have e : mCB cListC (mACons (mVar 11) mANil) (e0.set 11 (some (li r))) m = .ok (.ref m.length) (m ++ [rowC r]) := by
      simp [List.getElem?_set_self h11, li, rowC]
    rw [List.map_cons, compL, ev_gset, R.bind_ok, ev_yes, R.bind_ok, if_pos rfl, e, R.bind_ok, ih, R.bind_ok, List.length_cons, refs, List.map_cons, List.append_assoc]
    rfl
/-- the refs given up, the rows behind them -/
theorem fix_refs : ∀ (rows : List (List Int)) (k : Nat) (m : Mo), (∀ i r, rows[i]? = some r → m[k + i]? = some (rowC r)) →
    Post (mapR (fixD 1) (refs k rows.length) m) fun ys m' => ys = rows.map li ∧ m'.length = m.length ∧ ∀ i, (i < k ∨ k + rows.length ≤ i) → m'[i]? = m[i]?
  | [], k, m, _ => ⟨_, _, rfl, rfl, rfl, fun _ _ => rfl⟩
  | r :: rows, k, m, h => by
    have h0 := h 0 r rfl
    rw [Nat.add_zero] at h0
    have f1 := fix1_lst h0
    obtain ⟨ys, m', e1, rfl, e3, e4⟩ := fix_refs rows (k + 1) (m.set k .dead) fun i s hs => by
      rw [List.getElem?_set_ne (by omega), show k + 1 + i = k + (i + 1) by omega]
      exact h (i + 1) s (by simpa using hs)
    refine ⟨_, m', ?_, rfl, ?_, fun i hi => ?_⟩
    · rw [List.length_cons, refs, mapR, f1, R.bind_ok, e1, R.bind_ok]
      rfl
    · rw [e3, List.length_set]
    · rw [e4 i (by rw [List.length_cons] at hi; omega), List.getElem?_set_ne (by rw [List.length_cons] at hi; omega)]
theorem mapR_app {f : MV → Mo → R MV} : ∀ (xs ys : List MV) (m : Mo), mapR f (xs ++ ys) m = (mapR f xs m).bind fun a m1 => (mapR f ys m1).bind fun b m2 => .ok (a ++ b) m2
  | [], ys, m => by
    show mapR f ys m = (mapR f ys m).bind fun b m2 => .ok ([] ++ b) m2
    cases mapR f ys m <;> rfl
  | x :: xs, ys, m => by
    rw [List.cons_append, mapR, mapR]
    cases f x m with
    | stuck => rfl
    | exc e m => rfl
    | ok y m1 =>
      rw [R.bind_ok, R.bind_ok, mapR_app xs ys m1]
      cases mapR f xs m1 with
      | stuck => rfl
      | exc e m => rfl
      | ok a m2 =>
        rw [R.bind_ok, R.bind_ok, R.bind_ok]
        cases mapR f ys m2 <;> rfl
theorem fix_li (r : List Int) (m : Mo) : fixD 1 (li r) m = .ok (li r) m := by
  show (mapR (fixD 0) (r.map MV.int) m).bind (fun ys m1 => R.ok (MV.lst ys) m1) = _
  rw [fix0]
  rfl
end W76
set_option Elab.async false
set_option linter.all false
set_option maxRecDepth 100000
set_option maxHeartbeats 2000000
namespace W76
open PySem ML L2
def Mem (p : Nat) (m0 : Mo) (P : Pl) (rc : List MCell) (rl : List MV) (fs : Fs) : Mo := m0.set p (plC P) ++ (rc ++ [.lst rl, .dK (fk fs) (fv fs)])
section
variable {p : Nat} {m0 : Mo} {P : Pl} {rc : List MCell} {rl : List MV} {fs : Fs} (hl : p < m0.length)
theorem Mem.len : (Mem p m0 P rc rl fs).length = m0.length + rc.length + 2 := by unfold Mem; simp; omega
theorem Mem.lo {i : Nat} (hi : i < m0.length) : (Mem p m0 P rc rl fs)[i]? = (m0.set p (plC P))[i]? := by
  unfold Mem
  rw [List.getElem?_append_left (by simpa using hi)]
theorem Mem.row {i : Nat} (hi : i < rc.length) : (Mem p m0 P rc rl fs)[m0.length + i]? = rc[i]? := by
  unfold Mem
  rw [List.getElem?_append_right (by simp), show m0.length + i - (m0.set p (plC P)).length = i by simp, List.getElem?_append_left hi]
theorem Mem.atR : (Mem p m0 P rc rl fs)[m0.length + rc.length]? = some (.lst rl) := by
  unfold Mem
  rw [List.getElem?_append_right (by simp), show m0.length + rc.length - (m0.set p (plC P)).length = rc.length by simp, List.getElem?_append_right (Nat.le_refl _), Nat.sub_self]
  rfl
theorem Mem.atD : (Mem p m0 P rc rl fs)[m0.length + rc.length + 1]? = some (.dK (fk fs) (fv fs)) := by
  unfold Mem
  rw [List.getElem?_append_right (by simp; omega), show m0.length + rc.length + 1 - (m0.set p (plC P)).length = rc.length + 1 by simp; omega, List.getElem?_append_right (by omega), show rc.length + 1 - rc.length = 1 by omega]
  rfl
theorem Mem.setRow {i : Nat} (hi : i < rc.length) {c : MCell} : (Mem p m0 P rc rl fs).set (m0.length + i) c = Mem p m0 P (rc.set i c) rl fs := by
  unfold Mem
  rw [List.set_append_right _ _ (by simp), show m0.length + i - (m0.set p (plC P)).length = i by simp, List.set_append_left _ _ hi]
theorem Mem.setR {rl' : List MV} : (Mem p m0 P rc rl fs).set (m0.length + rc.length) (.lst rl') = Mem p m0 P rc rl' fs := by
  unfold Mem
  rw [List.set_append_right _ _ (by simp), show m0.length + rc.length - (m0.set p (plC P)).length = rc.length by simp, List.set_append_right _ _ (Nat.le_refl _), Nat.sub_self]
  rfl
theorem Mem.setD {fs' : Fs} : (Mem p m0 P rc rl fs).set (m0.length + rc.length + 1) (.dK (fk fs') (fv fs')) = Mem p m0 P rc rl fs' := by
  unfold Mem
  rw [List.set_append_right _ _ (by simp; omega), show m0.length + rc.length + 1 - (m0.set p (plC P)).length = rc.length + 1 by simp; omega, List.set_append_right _ _ (by omega), show rc.length + 1 - rc.length = 1 by omega]
  rfl
include hl
theorem Mem.next (A : Ad) {n : Int} (h0 : 0 < n) (h1 : n < 1073741824) : f_law_next A [.ref p, .int n] (Mem p m0 P rc rl fs) = .ok (.int (nxD P n)) (Mem p m0 (nxP P n) rc rl fs) := by
  have hp : (Mem p m0 P rc rl fs)[p]? = some (plC P) := by rw [Mem.lo hl, List.getElem?_set_self hl]
  rw [next_eq A hp h0 h1]
  congr 1
  unfold Mem
  rw [List.set_append_left _ _ (by simpa using hl), List.set_set]
end
theorem take_same {m M : Mo} {L : Nat} (hL : m.length = L) (hl : L ≤ M.length) (h : ∀ i, i < L → M[i]? = m[i]?) : M.take L = m := by
  apply List.ext_getElem?
  intro i
  by_cases hi : i < L
  · rw [List.getElem?_take_of_lt hi, h i hi]
  · rw [List.getElem?_eq_none (by rw [List.length_take]; omega), List.getElem?_eq_none (by omega)]
/-- what the fixes leave: the rows as told, the rest of the memory as it was below -/
def Fixed (m0 : Mo) (p : Nat) (P : Pl) (n : Nat) (rows : List (List Int)) (fs : Fs) (M : Mo) : Prop :=
  Post (fixD 2 (.ref (m0.length + n)) M) fun x M' => x = tb rows ∧ M'[m0.length + n + 1]? = some (.dK (fk fs) (fv fs)) ∧ m0.length ≤ M'.length ∧ ∀ i, i < m0.length → M'[i]? = (m0.set p (plC P))[i]?
noncomputable def b_tail (A : Ad) : MS := (mSeq (gFixD 2 5 (gFixD 1 6 (mSet 10 (mTup (mACons (mCB cRepr (mACons (mVar 5) mANil)) (mACons (mCB cRepr (mACons (mVar 6) mANil)) mANil))))))
    (mRet (mAndV (mOp (oB fEq) (mCall 2 (f_law_refused A) (mACons (mVar 5) (mACons (mVar 6) mANil))) (mVar 9)) (mOp (oB fEq) (mTup (mACons (mCB cRepr (mACons (mVar 5) mANil)) (mACons (mCB cRepr (mACons (mVar 6) mANil)) mANil))) (mVar 10)))))
theorem tail_ex (A : Ad) {m0 : Mo} {p n : Nat} {P : Pl} {rows : List (List Int)} {fs : Fs} {M : Mo} {due : Str} {o0 o1 o2 o3 o4 o7 o8 o10 o11 o12 : Option MV} {Q0 : MV → Mo → Prop}
    (hF : Fixed m0 p P n rows fs M) (hr : ∀ r ∈ rows, Sm r) (hrl : rows.length ≤ 100) (hfs : FsS fs) (hk : Nk fs) (hd : fault rows fs = some due)
    (hQ0 : Q0 (.bl true) (m0.set p (plC P))) : Post (finM m0.length (b_tail A [o0, o1, o2, o3, o4, some (.ref (m0.length + n)), some (.ref (m0.length + n + 1)), o7, o8, some (.str due), o10, o11, o12] M)) Q0 := by
  obtain ⟨x, M1, f1, rfl, f3, f4, f5⟩ := hF
  have f6 := fix1_dK f3
  obtain ⟨s1, g1, r1⟩ := repr_rows hr hrl (M1.set (m0.length + n + 1) .dead)
  obtain ⟨s2, g2, r2⟩ := repr_facts hfs (M1.set (m0.length + n + 1) .dead)
  have rf := refused_eq A hk (by omega) (by have := hfs.1; omega) (M1.set (m0.length + n + 1) .dead) hd
  have te := tup_eq g1 g2 (M1.set (m0.length + n + 1) .dead)
  have tk : (M1.set (m0.length + n + 1) .dead).take m0.length = m0.set p (plC P) := by
    refine take_same (by simp) (by rw [List.length_set]; exact f4) fun i hi => ?_
    rw [List.getElem?_set_ne (by omega), f5 i hi]
  unfold b_tail
  simp [f1, f6, r1, r2, rf, te, tk]
  exact hQ0
end W76
set_option Elab.async false
set_option linter.all false
set_option maxRecDepth 100000
set_option maxHeartbeats 2000000
namespace W76
open PySem ML L2
/-- refs to rows given up -/
theorem fixed_refs {m0 : Mo} {p : Nat} {P : Pl} {rows : List (List Int)} {fs : Fs} : Fixed m0 p P rows.length rows fs (Mem p m0 P (rows.map rowC) (refs m0.length rows.length) fs) := by
  have hlc : (rows.map rowC).length = rows.length := List.length_map ..
  have hR := Mem.atR (p := p) (m0 := m0) (P := P) (rc := rows.map rowC) (rl := refs m0.length rows.length) (fs := fs)
  have hD := Mem.atD (p := p) (m0 := m0) (P := P) (rc := rows.map rowC) (rl := refs m0.length rows.length) (fs := fs)
  rw [hlc] at hR hD
  obtain ⟨ys, M', e1, rfl, e3, e4⟩ := fix_refs rows m0.length (Mem p m0 P (rows.map rowC) (refs m0.length rows.length) fs) fun i r hr => by
    have hi : i < rows.length := (List.getElem?_eq_some_iff.mp hr).1
    rw [Mem.row (by rw [hlc]; exact hi), List.getElem?_map, hr]
    rfl
  have hR' : M'[m0.length + rows.length]? = some (.lst (refs m0.length rows.length)) := by rw [e4 _ (.inr (Nat.le_refl _)), hR]
  refine ⟨tb rows, M'.set (m0.length + rows.length) .dead, ?_, rfl, ?_, ?_, fun i hi => ?_⟩
  · rw [fixD, hR]
    dsimp only
    rw [e1, R.bind_ok, hR']
    rfl
  · rw [List.getElem?_set_ne (by omega), e4 _ (.inr (by omega)), hD]
  · rw [List.length_set, e3, Mem.len]
    omega
  · rw [List.getElem?_set_ne (by omega), e4 i (.inl hi), Mem.lo hi]
/-- refs to rows but the last, then a fixed row -/
theorem fixed_last {m0 : Mo} {p : Nat} {P : Pl} {rows : List (List Int)} {r : List Int} {fs : Fs} {rc : List MCell} (hrc : ∀ (i : Nat) (s : List Int), rows[i]? = some s → rc[i]? = some (rowC s)) (hn : rows.length ≤ rc.length) :
    Fixed m0 p P rc.length (rows ++ [r]) fs (Mem p m0 P rc (refs m0.length rows.length ++ [li r]) fs) := by
  have hR := Mem.atR (p := p) (m0 := m0) (P := P) (rc := rc) (rl := refs m0.length rows.length ++ [li r]) (fs := fs)
  have hD := Mem.atD (p := p) (m0 := m0) (P := P) (rc := rc) (rl := refs m0.length rows.length ++ [li r]) (fs := fs)
  obtain ⟨ys, M', e1, rfl, e3, e4⟩ := fix_refs rows m0.length (Mem p m0 P rc (refs m0.length rows.length ++ [li r]) fs) fun i s hs => by
    have hi : i < rows.length := (List.getElem?_eq_some_iff.mp hs).1
    rw [Mem.row (by omega), hrc i s hs]
  have hR' : M'[m0.length + rc.length]? = some (.lst (refs m0.length rows.length ++ [li r])) := by rw [e4 _ (.inr (by omega)), hR]
  refine ⟨tb (rows ++ [r]), M'.set (m0.length + rc.length) .dead, ?_, rfl, ?_, ?_, fun i hi => ?_⟩
  · rw [fixD, hR]
    dsimp only
    rw [mapR_app, e1, R.bind_ok]
    have : mapR (fixD 1) [li r] M' = .ok [li r] M' := by rw [mapR, fix_li, R.bind_ok]; rfl
    rw [this, R.bind_ok, R.bind_ok, hR']
    dsimp only
    unfold tb
    rw [List.map_append]
    rfl
  · rw [List.getElem?_set_ne (by omega), e4 _ (.inr (by omega)), hD]
  · rw [List.length_set, e3, Mem.len]
    omega
  · rw [List.getElem?_set_ne (by omega), e4 i (.inl hi), Mem.lo hi]
end W76
set_option Elab.async false
set_option linter.all false
set_option maxRecDepth 100000
set_option maxHeartbeats 4000000
namespace W76
open PySem ML L2
noncomputable def b_sp (A : Ad) (TL : MS) : MS := (mSeq (mSet 4 (mCB cLen (mACons (mVar 2) mANil))) (mSeq (mSet 5 (mLcC (iSeq (mVar 2)) (gSet 11) mYes (mCB cListC (mACons (mVar 11) mANil)) [11])) (mSeq (mSet 6 mDNewC) (mSeq (mForD 3 (gSet 7) (mDPut (mCB cList (mACons (mDGet (mVar 3) (mVar 7)) mANil)) (mVar 6) (mVar 7))) (mSeq (mSet 8 (mCall 2 (f_law_next A) (mACons (mVar 0) (mACons (mC (.int 7)) mANil)))) (mSeq (mIf (mAndT (mOpB fEq (mVar 1) (mC (.int 2))) (mOpB fEq (mCall 2 (f_law_next A) (mACons (mVar 0) (mACons (mC (.int 2)) mANil))) (mC (.int 0)))) (mSet 8 (mC (.int 4))) mNext) (mSeq (mSet 9 (mC (.str "shape"))) (mSeq (mIf (mOpB fEq (mVar 8) (mC (.int 0))) (mPutAt (mSl (mOp oIx (mVar 5) (mNeg (mC (.int 1)))) mONone (mOSome (mNeg (mC (.int 1))))) (mVar 5) (mNeg (mC (.int 1)))) (mIf (mOpB fEq (mVar 8) (mC (.int 1))) (mExpr (mApp (mVar 5) (mCB cList (mACons (mOp oIx (mVar 5) (mNeg (mC (.int 1)))) mANil)))) (mIf (mAndT (mOpB fEq (mVar 8) (mC (.int 2))) (mOpB fGt (mVar 4) (mC (.int 1)))) (mSeq (mPutAt (mCall 2 (f_law_next A) (mACons (mVar 0) (mACons (mOp oSub (mVar 4) (mC (.int 1))) mANil))) (mOp oIx (mVar 5) (mC (.int 0))) (mOp oSub (mVar 4) (mC (.int 1)))) (mSet 9 (mC (.str "unit")))) (mIf (mAndT (mOpB fEq (mVar 8) (mC (.int 3))) (mOpB fGt (mVar 4) (mC (.int 2)))) (mSeq (mPutAt (mOp oMod (mCB cInt (mACons (mOp oAdd (mOp oIx (mOp oIx (mVar 5) (mOp oSub (mVar 4) (mC (.int 1)))) (mOp oSub (mVar 4) (mC (.int 2)))) (mC (.int 1))) mANil)) (mVar 4)) (mOp oIx (mVar 5) (mOp oSub (mVar 4) (mC (.int 1)))) (mOp oSub (mVar 4) (mC (.int 2)))) (mSet 9 (mC (.str "order")))) (mIf (mAndT (mOpB fEq (mVar 8) (mC (.int 4))) (mAndT (mOpB fEq (mVar 1) (mC (.int 2))) (mOpB fGt (mVar 4) (mC (.int 4))))) (mSeq (mPutAt (mC (.int 1)) (mOp oIx (mVar 5) (mOp oSub (mVar 4) (mC (.int 1)))) (mOp oSub (mVar 4) (mC (.int 2)))) (mSeq (mPutAt (mC (.int 1)) (mOp oIx (mVar 5) (mOp oSub (mVar 4) (mC (.int 2)))) (mOp oSub (mVar 4) (mC (.int 1)))) (mSet 9 (mC (.str "grouping"))))) (mIf (mOpB fEq (mVar 8) (mC (.int 5))) (mSeq (mDPut (mLc (iRg1 (mOp oAdd (mVar 4) (mC (.int 1)))) (gSet 12) mYes (mVar 12) [12]) (mVar 6) (mC (.str "last9"))) (mSet 9 (mC (.str "fact")))) (mPutAt (mVar 4) (mOp oIx (mVar 5) (mNeg (mC (.int 1)))) (mNeg (mC (.int 1)))))))))) TL))))))))
theorem sp_eq (A : Ad) : b_law_spoilt A = b_sp A (b_tail A) := rfl
theorem last_row {f : Int} {n : Nat} (hn : 0 < n) : (T f n) = (T f n).take (n - 1) ++ [row (T f n) (n - 1 : Nat)] := by
  have hl := T_len f n
  have e : row (T f n) (n - 1 : Nat) = (T f n)[n - 1]'(by omega) := by
    unfold row
    rw [List.getD_eq_getElem?_getD, show (((n - 1 : Nat) : Int)).toNat = n - 1 by omega, List.getElem?_eq_getElem (by omega)]
    rfl
  rw [e]
  have d := List.drop_eq_getElem_cons (l := T f n) (i := n - 1) (by omega)
  rw [List.drop_eq_nil_of_le (i := n - 1 + 1) (by omega)] at d
  rw [← d, List.take_append_drop]
theorem seq_step {ms mu : MS} {e e' : ML.Env} {m m' : Mo} (h : ms e m = .ok (.next e') m') : mSeq ms mu e m = mu e' m' := by
  rw [ev_seq, h]
  rfl
theorem seq_post {ms mu : MS} {e : ML.Env} {m : Mo} {L : Nat} {Q : MV → Mo → Prop} (h : Post (ms e m) fun f m' => ∃ e', f = .next e' ∧ Post (finM L (mu e' m')) Q) : Post (finM L (mSeq ms mu e m)) Q := by
  obtain ⟨f, m', h1, e', rfl, h2⟩ := h
  rw [seq_step h1]
  exact h2
theorem places_copy {m0 : Mo} {p : Nat} {P : Pl} {rc : List MCell} {rl : List MV} {j : Nat} {o0 o1 o2 o4 o5 o8 o9 o10 o11 o12 : Option MV} {fs0 : Fs} (hj : j = m0.length + rc.length + 1) : ∀ (suf pre : Fs) (o7 : Option MV), Nk (pre ++ suf) → pre ++ suf = fs0 → fs0.length < 16777216 →
    ∃ o7', forL (gSet 7) (mDPut (mCB cList (mACons (mDGet (mVar 3) (mVar 7)) mANil)) (mVar 6) (mVar 7)) ((fk suf).map kM) [o0, o1, o2, some (.dK (fk fs0) (fv fs0)), o4, o5, some (.ref j), o7, o8, o9, o10, o11, o12] (Mem p m0 P rc rl pre)
      = .ok (.next [o0, o1, o2, some (.dK (fk fs0) (fv fs0)), o4, o5, some (.ref j), o7', o8, o9, o10, o11, o12]) (Mem p m0 P rc rl fs0)
  | [], pre, o7, hk, he, hl => ⟨o7, by rw [List.append_nil] at he; rw [he]; rfl⟩
  | f :: suf, pre, o7, hk, he, hl => by
    have ih := places_copy (p := p) (P := P) (rl := rl) (o0 := o0) (o1 := o1) (o2 := o2) (o4 := o4) (o5 := o5) (o8 := o8) (o9 := o9) (o10 := o10) (o11 := o11) (o12 := o12) (fs0 := fs0) hj suf (pre ++ [f]) (some (.str f.1)) (by simpa using hk) (by simpa using he) hl
    have hm : f ∈ fs0 := by rw [← he]; simp
    have hk0 : Nk fs0 := by rw [← he]; exact hk
    have dg : ∀ m, dGet (.dK (fk fs0) (fv fs0)) (.str f.1) m = some (some (li f.2)) := fun m => by rw [dget_fs, look_mem hk0 hm]; rfl
    have hn : f.1 ∉ pre.map (·.1) := by
      unfold Nk at hk
      rw [List.map_append, List.nodup_append] at hk
      intro z
      exact hk.2.2 f.1 z f.1 (by simp) rfl
    have hpk : Nk pre := by
      unfold Nk at hk ⊢
      rw [List.map_append, List.nodup_append] at hk
      exact hk.1
    have hD := Mem.atD (p := p) (m0 := m0) (P := P) (rc := rc) (rl := rl) (fs := pre)
    rw [← hj] at hD
    have hln : pre.length < 16777216 := by
      have := congrArg List.length he
      rw [List.length_append] at this
      omega
    have dp := dput_c (k := f.1) (x := f.2) hD hpk hln
    rw [putS_new hn] at dp
    have st : mDPut (mCB cList (mACons (mDGet (mVar 3) (mVar 7)) mANil)) (mVar 6) (mVar 7) [o0, o1, o2, some (.dK (fk fs0) (fv fs0)), o4, o5, some (.ref j), some (.str f.1), o8, o9, o10, o11, o12] (Mem p m0 P rc rl pre) = .ok (.next [o0, o1, o2, some (.dK (fk fs0) (fv fs0)), o4, o5, some (.ref j), some (.str f.1), o8, o9, o10, o11, o12]) (Mem p m0 P rc rl (pre ++ [f])) := by
      have ms : (Mem p m0 P rc rl pre).set j (.dK (fk (pre ++ [f])) (fv (pre ++ [f]))) = Mem p m0 P rc rl (pre ++ [f]) := by rw [hj]; exact Mem.setD
      simp [dg]
      have cl : cList [li f.2] (Mem p m0 P rc rl pre) = .ok (li f.2) (Mem p m0 P rc rl pre) := rfl
      rw [cl, R.bind_ok]
      simp [dp, ms]
    obtain ⟨o7', ih⟩ := ih
    refine ⟨o7', ?_⟩
    have ek : (fk (f :: suf)).map kM = .str f.1 :: (fk suf).map kM := rfl
    rw [ek, forL, ev_gset, R.bind_ok]
    simp only [List.set_cons_succ, List.set_cons_zero]
    rw [st]
    exact ih
end W76
set_option Elab.async false
set_option linter.all false
set_option maxRecDepth 100000
set_option maxHeartbeats 4000000
namespace W76
open PySem ML L2
theorem ixN_nat {n k : Nat} (h : k < n) : ixN n (k : Int) = some k := by
  unfold ixN
  rw [if_pos (by omega), if_pos (by omega)]
  simp
theorem ixN_last {n : Nat} (h : 0 < n) : ixN n (-1) = some (n - 1) := by
  unfold ixN
  rw [if_neg (by omega), if_pos (by omega)]
  congr 1
  omega
theorem atI_of {α : Type} {l : List α} {k : Int} {i : Nat} (h : ixN l.length k = some i) : atI l k = l[i]? := by
  unfold atI
  rw [h]
  rfl
section
variable {m0 : Mo} {p n : Nat} {P : Pl} {rows : List (List Int)} {fs : Fs} (hr : rows.length = n)
include hr
/-- rows[k] -/
theorem ix_rowS {k : Int} {i : Nat} (hk : ixN n k = some i) (hi : i < n) : oIx (.ref (m0.length + n)) (.int k) (Mem p m0 P (rows.map rowC) (refs m0.length n) fs) = .ok (.ref (m0.length + i)) (Mem p m0 P (rows.map rowC) (refs m0.length n) fs) := by
  have hR := Mem.atR (p := p) (m0 := m0) (P := P) (rc := rows.map rowC) (rl := refs m0.length n) (fs := fs)
  rw [List.length_map, hr] at hR
  rw [ap_ixc hR, atI_of (by rw [refs_len]; exact hk), refs_at _ _ _ hi]
theorem row_at {i : Nat} (hi : i < n) : (Mem p m0 P (rows.map rowC) (refs m0.length n) fs)[m0.length + i]? = some (rowC (row rows i)) := by
  rw [Mem.row (by rw [List.length_map, hr]; exact hi), List.getElem?_map, List.getElem?_eq_getElem (by omega)]
  unfold row
  rw [List.getD_eq_getElem?_getD, show ((i : Int)).toNat = i by omega, List.getElem?_eq_getElem (by omega)]
  rfl
/-- rows[i][k] = v -/
theorem put_cell {k : Int} {i j : Nat} {v : Int} (hi : i < n) (hl : (row rows i).length = n) (hk : ixN n k = some j) :
    ML.putAt (Mem p m0 P (rows.map rowC) (refs m0.length n) fs) (.ref (m0.length + i)) (.int k) (.int v) = some (Mem p m0 P ((setC rows i j v).map rowC) (refs m0.length n) fs) := by
  rw [ap_put (row_at hr hi), List.length_map, hl, hk]
  show (if true = true then some _ else none) = _
  rw [if_pos rfl, Mem.setRow (by rw [List.length_map, hr]; exact hi)]
  unfold setC
  rw [← List.map_set, List.map_set (f := rowC)]
  rfl
end
end W76
set_option Elab.async false
set_option linter.all false
set_option maxRecDepth 100000
set_option maxHeartbeats 4000000
namespace W76
open PySem ML L2
/-- the frame while the table is spoilt -/
abbrev EnvS (p n : Nat) (form : Int) (fs : Fs) (L : Nat) (o7 : Option MV) (v : Int) (due : Str) (o12 : Option MV) : ML.Env :=
  [some (.ref p), some (.int form), some (tb (T form n)), some (.dK (fk fs) (fv fs)), some (.int n), some (.ref (L + n)), some (.ref (L + n + 1)), o7, some (.int v), some (.str due), none, none, none]
noncomputable def sp0 (A : Ad) : MS := (mSeq (mSet 4 (mCB cLen (mACons (mVar 2) mANil))) (mSeq (mSet 5 (mLcC (iSeq (mVar 2)) (gSet 11) mYes (mCB cListC (mACons (mVar 11) mANil)) [11])) (mSeq (mSet 6 mDNewC) (mSeq (mForD 3 (gSet 7) (mDPut (mCB cList (mACons (mDGet (mVar 3) (mVar 7)) mANil)) (mVar 6) (mVar 7))) (mSeq (mSet 8 (mCall 2 (f_law_next A) (mACons (mVar 0) (mACons (mC (.int 7)) mANil)))) mNext)))))
theorem memnil {m0 : Mo} {p n : Nat} {P : Pl} {rows : List (List Int)} (h : rows.length = n) : Mem p m0 P (rows.map rowC) (refs m0.length n) [] = m0.set p (plC P) ++ rows.map rowC ++ [.lst (refs m0.length n)] ++ [.dK [] []] := by
  unfold Mem
  simp [fk, fv]
theorem start_ex (A : Ad) {m0 : Mo} {p n : Nat} {P : Pl} {form : Int} {fs : Fs} (hl : p < m0.length) (h0 : 0 < n) (hn : n ≤ 40) (hk : Nk fs) (hfl : fs.length ≤ 64) (mu : MS) {Q : MV → Mo → Prop}
    (h : ∀ o7, Post (finM m0.length (mu [some (.ref p), some (.int form), some (tb (T form n)), some (.dK (fk fs) (fv fs)), some (.int n), some (.ref (m0.length + n)), some (.ref (m0.length + n + 1)), o7, none, none, none, none, none] (Mem p m0 P ((T form n).map rowC) (refs m0.length n) fs))) Q) :
    Post (finM m0.length (mSeq (mSet 4 (mCB cLen (mACons (mVar 2) mANil))) (mSeq (mSet 5 (mLcC (iSeq (mVar 2)) (gSet 11) mYes (mCB cListC (mACons (mVar 11) mANil)) [11])) (mSeq (mSet 6 mDNewC) (mSeq (mForD 3 (gSet 7) (mDPut (mCB cList (mACons (mDGet (mVar 3) (mVar 7)) mANil)) (mVar 6) (mVar 7))) mu)))
      [some (.ref p), some (.int form), some (tb (T form n)), some (.dK (fk fs) (fv fs)), none, none, none, none, none, none, none, none, none] (m0.set p (plC P)))) Q := by
  have hTl := T_len form n
  have l2 : ((T form n).map li).length ≤ 16777216 := by rw [List.length_map]; omega
  have cm := cells_make (e0 := [some (.ref p), some (.int form), some (tb (T form n)), some (.dK (fk fs) (fv fs)), some (.int n), none, none, none, none, none, none, none, none]) (by simp) (T form n) (m0.set p (plC P))
  have bl : belows (m0.length + n) (refs m0.length n) = true := refs_below n m0.length (m0.length + n) (Nat.le_refl _)
  rw [hTl] at cm
  simp only [List.length_set] at cm
  have ml : (m0.set p (plC P) ++ (T form n).map rowC).length = m0.length + n := by simp [hTl]
  have s1 : mSet 4 (mCB cLen (mACons (mVar 2) mANil)) [some (.ref p), some (.int form), some (tb (T form n)), some (.dK (fk fs) (fv fs)), none, none, none, none, none, none, none, none, none] (m0.set p (plC P)) = .ok (.next [some (.ref p), some (.int form), some (tb (T form n)), some (.dK (fk fs) (fv fs)), some (.int n), none, none, none, none, none, none, none, none]) (m0.set p (plC P)) := by
    simp [tb, hTl]
  have s2 : mSet 5 (mLcC (iSeq (mVar 2)) (gSet 11) mYes (mCB cListC (mACons (mVar 11) mANil)) [11]) [some (.ref p), some (.int form), some (tb (T form n)), some (.dK (fk fs) (fv fs)), some (.int n), none, none, none, none, none, none, none, none] (m0.set p (plC P)) = .ok (.next [some (.ref p), some (.int form), some (tb (T form n)), some (.dK (fk fs) (fv fs)), some (.int n), some (.ref (m0.length + n)), none, none, none, none, none, none, none]) (m0.set p (plC P) ++ (T form n).map rowC ++ [.lst (refs m0.length n)]) := by
    have k2 : kISeq (tb (T form n)) (m0.set p (plC P)) = .ok ((T form n).map li) (m0.set p (plC P)) := rfl
    rw [ev_set, ev_lcC, ev_iseq, ev_var]
    simp only [List.getElem?_cons_succ, List.getElem?_cons_zero, R.bind_ok, k2, kLcC_ap]
    rw [if_pos l2]
    simp only [mwipe, List.foldl, List.set_cons_succ, List.set_cons_zero]
    rw [cm]
    simp only [nox_ok, R.bind_ok, kLcC2_ap]
    rw [ml, if_pos bl]
    simp only [R.bind_ok, kSet_ap, List.set_cons_succ, List.set_cons_zero]
  have s3 : mSet 6 mDNewC [some (.ref p), some (.int form), some (tb (T form n)), some (.dK (fk fs) (fv fs)), some (.int n), some (.ref (m0.length + n)), none, none, none, none, none, none, none] (m0.set p (plC P) ++ (T form n).map rowC ++ [.lst (refs m0.length n)]) = .ok (.next [some (.ref p), some (.int form), some (tb (T form n)), some (.dK (fk fs) (fv fs)), some (.int n), some (.ref (m0.length + n)), some (.ref (m0.length + n + 1)), none, none, none, none, none, none]) (Mem p m0 P ((T form n).map rowC) (refs m0.length n) []) := by
    rw [memnil hTl, ev_set, ev_dnewC]
    simp only [R.bind_ok, kSet_ap, List.set_cons_succ, List.set_cons_zero]
    have : (m0.set p (plC P) ++ (T form n).map rowC ++ [MCell.lst (refs m0.length n)]).length = m0.length + n + 1 := by rw [List.length_append, ml]; rfl
    rw [this]
  obtain ⟨o7, s4⟩ := places_copy (p := p) (m0 := m0) (P := P) (rc := (T form n).map rowC) (rl := refs m0.length n) (j := m0.length + n + 1) (o0 := some (.ref p)) (o1 := some (.int form)) (o2 := some (tb (T form n))) (o4 := some (.int n)) (o5 := some (.ref (m0.length + n))) (o8 := none) (o9 := none) (o10 := none) (o11 := none) (o12 := none) (fs0 := fs) (by rw [List.length_map, hTl]) fs [] none hk rfl (by omega)
  have s5 : mForD 3 (gSet 7) (mDPut (mCB cList (mACons (mDGet (mVar 3) (mVar 7)) mANil)) (mVar 6) (mVar 7)) [some (.ref p), some (.int form), some (tb (T form n)), some (.dK (fk fs) (fv fs)), some (.int n), some (.ref (m0.length + n)), some (.ref (m0.length + n + 1)), none, none, none, none, none, none] (Mem p m0 P ((T form n).map rowC) (refs m0.length n) [])
      = .ok (.next [some (.ref p), some (.int form), some (tb (T form n)), some (.dK (fk fs) (fv fs)), some (.int n), some (.ref (m0.length + n)), some (.ref (m0.length + n + 1)), o7, none, none, none, none, none]) (Mem p m0 P ((T form n).map rowC) (refs m0.length n) fs) := by
    rw [ev_forD, ev_for, ev_keys]
    simp only [List.getElem?_cons_succ, List.getElem?_cons_zero, R.bind_ok, kFor_ap]
    rw [s4]
    rfl
  rw [seq_step s1, seq_step s2, seq_step s3, seq_step s5]
  exact h o7
end W76
set_option Elab.async false
set_option linter.all false
set_option maxRecDepth 100000
set_option maxHeartbeats 4000000
namespace W76
open PySem ML L2
/-- what the spoiling leaves, with the reason that is due -/
def Due (m0 : Mo) (p n : Nat) (r : R MF) : Prop := Post r fun f M => ∃ (due : Str) (o0 o1 o2 o3 o4 o7 o8 o10 o11 o12 : Option MV) (rows : List (List Int)) (fs' : Fs) (P' : Pl), f = .next [o0, o1, o2, o3, o4, some (.ref (m0.length + n)), some (.ref (m0.length + n + 1)), o7, o8, some (.str due), o10, o11, o12] ∧ Fixed m0 p P' n rows fs' M ∧ (∀ r ∈ rows, Sm r) ∧ rows.length ≤ 100 ∧ FsS fs' ∧ Nk fs' ∧ fault rows fs' = some due
theorem due_of {m0 : Mo} {p n : Nat} {form : Int} {fs fs' : Fs} {r : R MF} {M : Mo} {o7 o12 : Option MV} {v : Int} {due : Str} {rows : List (List Int)} {P' : Pl} (e : r = .ok (.next (EnvS p n form fs m0.length o7 v due o12)) M) (hF : Fixed m0 p P' n rows fs' M) (h1 : ∀ r ∈ rows, Sm r) (h2 : rows.length ≤ 100) (h3 : FsS fs') (h4 : Nk fs') (h5 : fault rows fs' = some due) : Due m0 p n r :=
  ⟨_, _, e, due, _, _, _, _, _, _, _, _, _, _, rows, fs', P', rfl, hF, h1, h2, h3, h4, h5⟩
abbrev M1 (p : Nat) (m0 : Mo) (P : Pl) (n : Nat) (rows : List (List Int)) (fs : Fs) : Mo := Mem p m0 P (rows.map rowC) (refs m0.length n) fs
theorem sm_of {n : Nat} {rows : List (List Int)} (h : ∀ r ∈ rows, r.length ≤ n + 1 ∧ ∀ i ∈ r, 0 ≤ i ∧ i ≤ n) (hn : n ≤ 40) : ∀ r ∈ rows, Sm r := fun r hr => ⟨by have := (h r hr).1; omega, fun i hi => by have := (h r hr).2 i hi; omega⟩
theorem sm_T {n : Nat} {form : Int} (hf : form = 0 ∨ form = 1 ∨ form = 2) (hn : n ≤ 40) : ∀ r ∈ T form n, Sm r := sm_of (n := n) (fun r hr => ⟨by have := ((sq_T (n := n) hf).2 r hr).1; omega, fun i hi => by have := ((sq_T (n := n) hf).2 r hr).2 i hi; omega⟩) hn
theorem call2 {f : MFn} {a b : MV} {m : Mo} : kCall 2 f [a, b] m = f [a, b] m := rfl
theorem sm_set {rows : List (List Int)} {i j : Nat} {v : Int} (h : ∀ r ∈ rows, Sm r) (hi : i < rows.length) (hv : 0 ≤ v ∧ v < 100) : ∀ r ∈ setC rows i j v, Sm r := fun r hr => by
  unfold setC at hr
  rcases List.mem_or_eq_of_mem_set hr with q | q
  · exact h r q
  · have hm : row rows i ∈ rows := by
      unfold row
      rw [List.getD_eq_getElem?_getD, show ((i : Int)).toNat = i by omega, List.getElem?_eq_getElem hi]
      exact List.getElem_mem hi
    have s := h _ hm
    rw [q]
    refine ⟨by rw [List.length_set]; exact s.1, fun x hx => ?_⟩
    rcases List.mem_or_eq_of_mem_set hx with q2 | q2
    · exact s.2 x q2
    · rw [q2]; exact hv
theorem setC_len {rows : List (List Int)} {i j : Nat} {v : Int} : (setC rows i j v).length = rows.length := by
  unfold setC
  rw [List.length_set]
theorem fss_of {n : Nat} {fs : Fs} (h : FsOk n fs) (hn : n ≤ 40) (hl : fs.length ≤ 64) : FsS fs := ⟨by omega, fun f hf => ⟨(h.2 f hf).1, by have := (h.2 f hf).2.1; omega, fun i hi => by have := (h.2 f hf).2.2 i hi; omega⟩⟩
section
variable (A : Ad) {m0 : Mo} {p n : Nat} {P : Pl} {form : Int} {fs : Fs} (hl : p < m0.length) (hf : form = 0 ∨ form = 1 ∨ form = 2) (h0 : 0 < n) (hn : n ≤ 40) (hfs : FsOk n fs) (hfl : fs.length ≤ 64)
include hl hf h0 hn hfs hfl
theorem row_lenT {i : Nat} (hi : i < n) : (row (T form n) i).length = n := row_len (sq_T hf) (by omega) (by omega)
theorem case0 (o7 : Option MV) (v : Int) : Due m0 p n (mPutAt (mSl (mOp oIx (mVar 5) (mNeg (mC (.int 1)))) mONone (mOSome (mNeg (mC (.int 1))))) (mVar 5) (mNeg (mC (.int 1))) (EnvS p n form fs m0.length o7 v "shape" none) (M1 p m0 P n (T form n) fs)) := by
  have hTl := T_len form n
  have hin : n - 1 < n := by omega
  have e1 := ix_rowS (m0 := m0) (p := p) (P := P) (fs := fs) hTl (ixN_last h0) hin
  have hat := row_at (m0 := m0) (p := p) (P := P) (fs := fs) hTl hin
  have hrl := row_lenT hl hf h0 hn hfs hfl hin
  have hR := Mem.atR (p := p) (m0 := m0) (P := P) (rc := (T form n).map rowC) (rl := refs m0.length n) (fs := fs)
  rw [List.length_map, hTl] at hR
  generalize hr : row (T form n) (n - 1 : Nat) = r at *
  have sl : oSl (.ref (m0.length + (n - 1))) none (some (-1)) (M1 p m0 P n (T form n) fs) = .ok (li (cutG r none (some (-1)))) (M1 p m0 P n (T form n) fs) := by
    show (match lstOf (.ref (m0.length + (n - 1))) (M1 p m0 P n (T form n) fs) with | some xs => R.ok (MV.lst (cutG xs none (some (-1)))) (M1 p m0 P n (T form n) fs) | none => .stuck) = _
    rw [ap_lstc hat]
    dsimp only
    congr 1
    unfold li cutG
    rw [List.map_take, List.map_drop, List.length_map]
  have hc : cutG r none (some (-1)) = r.take (n - 1) := by
    unfold cutG
    rw [hrl]
    show List.take (((-1 : Int) + (n : Int)).toNat - 0) (List.drop 0 r) = _
    rw [List.drop_zero, show ((-1 : Int) + (n : Int)).toNat - 0 = n - 1 by omega]
  rw [hc] at sl
  have pt : ML.putAt (M1 p m0 P n (T form n) fs) (.ref (m0.length + n)) (.int (-1)) (li (r.take (n - 1))) = some (Mem p m0 P ((T form n).map rowC) (refs m0.length (n - 1) ++ [li (r.take (n - 1))]) fs) := by
    rw [ap_put hR, refs_len, ixN_last h0]
    dsimp only
    rw [if_pos (below_li _ _)]
    have : (refs m0.length n).set (n - 1) (li (r.take (n - 1))) = refs m0.length (n - 1) ++ [li (r.take (n - 1))] := by
      apply List.ext_getElem?
      intro i
      by_cases hi : i = n - 1
      · subst hi
        rw [List.getElem?_set_self (by rw [refs_len]; omega), List.getElem?_append_right (by rw [refs_len]; omega), refs_len]
        simp
      · rw [List.getElem?_set_ne (by omega)]
        by_cases hi2 : i < n - 1
        · rw [refs_at _ _ _ (by omega), List.getElem?_append_left (by rw [refs_len]; omega), refs_at _ _ _ hi2]
        · rw [List.getElem?_eq_none (by rw [refs_len]; omega), List.getElem?_eq_none (by rw [List.length_append, refs_len]; simp; omega)]
    rw [this]
    have q := Mem.setR (p := p) (m0 := m0) (P := P) (rc := (T form n).map rowC) (rl := refs m0.length n) (fs := fs) (rl' := refs m0.length (n - 1) ++ [li (r.take (n - 1))])
    rw [List.length_map, hTl] at q
    rw [q]
  have hfix := fixed_last (m0 := m0) (p := p) (P := P) (rows := (T form n).take (n - 1)) (r := r.take (n - 1)) (fs := fs) (rc := (T form n).map rowC) (fun i s hs => by
    rw [List.getElem?_map]
    have hi : i < n - 1 := by
      have := (List.getElem?_eq_some_iff.mp hs).1
      rw [List.length_take] at this
      omega
    rw [List.getElem?_take_of_lt hi] at hs
    rw [hs]
    rfl) (by rw [List.length_map, List.length_take]; omega)
  rw [List.length_map, hTl, List.length_take, hTl, Nat.min_eq_left (by omega)] at hfix
  have hset : (T form n).take (n - 1) ++ [r.take (n - 1)] = (T form n).set (n - 1) (r.take (n - 1)) := by
    conv => rhs; rw [last_row (f := form) h0]
    rw [List.set_append_right _ _ (by rw [List.length_take]; omega)]
    congr 1
    rw [List.length_take, hTl, Nat.min_eq_left (by omega), Nat.sub_self]
    rfl
  have sm := sm_T (n := n) hf hn
  have hrm : r ∈ T form n := by rw [← hr]; exact ((sq_T (n := n) hf).row (i := (n - 1 : Nat)) (by omega) (by omega)).2.1
  refine due_of (o7 := o7) (v := v) (o12 := none) (form := form) (fs := fs) (due := "shape") ?_ hfix ?_ ?_ (fss_of hfs hn hfl) hfs.1 ?_
  · rw [ev_putAt, ev_sl, ev_op, ev_var]
    simp only [List.getElem?_cons_succ, List.getElem?_cons_zero, R.bind_ok, kOp_ap, ev_neg, ev_c, kNeg_0, kOp2_ap, e1, kSl_ap, ev_oNone, ev_oSome, kOSome_0, kSl2_ap, kSl3_ap, sl, kPut_ap, ev_var, kPut2_ap, kPut3_ap, pt]
  · intro s hs
    rcases List.mem_append.mp hs with h | h
    · exact sm s (List.mem_of_mem_take h)
    · rw [List.mem_singleton.mp h]
      exact ⟨by have := (sm r hrm).1; rw [List.length_take]; omega, fun i hi => (sm r hrm).2 i (List.mem_of_mem_take hi)⟩
  · rw [List.length_append, List.length_take]; simp; omega
  · rw [hset]
    exact bad_short hf h0 (by rw [List.length_take]; omega)
theorem case1 (o7 : Option MV) (v : Int) : Due m0 p n (mExpr (mApp (mVar 5) (mCB cList (mACons (mOp oIx (mVar 5) (mNeg (mC (.int 1)))) mANil))) (EnvS p n form fs m0.length o7 v "shape" none) (M1 p m0 P n (T form n) fs)) := by
  have hTl := T_len form n
  have hin : n - 1 < n := by omega
  have e1 := ix_rowS (m0 := m0) (p := p) (P := P) (fs := fs) hTl (ixN_last h0) hin
  have hat := row_at (m0 := m0) (p := p) (P := P) (fs := fs) hTl hin
  have hrl := row_lenT hl hf h0 hn hfs hfl hin
  have hR := Mem.atR (p := p) (m0 := m0) (P := P) (rc := (T form n).map rowC) (rl := refs m0.length n) (fs := fs)
  rw [List.length_map, hTl] at hR
  have hrm : row (T form n) (n - 1 : Nat) ∈ T form n := ((sq_T (n := n) hf).row (i := (n - 1 : Nat)) (by omega) (by omega)).2.1
  generalize hr : row (T form n) (n - 1 : Nat) = r at *
  have sl : cList [.ref (m0.length + (n - 1))] (M1 p m0 P n (T form n) fs) = .ok (li r) (M1 p m0 P n (T form n) fs) := ap_listc hat
  have lo : (lstOf (.ref (m0.length + n)) (M1 p m0 P n (T form n) fs)).isSome = true := by rw [ap_lstc hR]; rfl
  have pt : appM (M1 p m0 P n (T form n) fs) (.ref (m0.length + n)) (li r) = some (Mem p m0 P ((T form n).map rowC) (refs m0.length n ++ [li r]) fs) := by
    rw [ap_app hR, refs_len, if_pos ⟨by omega, below_li _ _⟩]
    have q := Mem.setR (p := p) (m0 := m0) (P := P) (rc := (T form n).map rowC) (rl := refs m0.length n) (fs := fs) (rl' := refs m0.length n ++ [li r])
    rw [List.length_map, hTl] at q
    rw [q]
  have hfix := fixed_last (m0 := m0) (p := p) (P := P) (rows := T form n) (r := r) (fs := fs) (rc := (T form n).map rowC) (fun i s hs => by
    rw [List.getElem?_map, hs]
    rfl) (by rw [List.length_map]; omega)
  rw [List.length_map, hTl] at hfix
  have sm := sm_T (n := n) hf hn
  refine due_of (o7 := o7) (v := v) (o12 := none) (form := form) (fs := fs) ?_ hfix ?_ ?_ (fss_of hfs hn hfl) hfs.1 (bad_more hf h0 hrl)
  · rw [ev_expr, ev_app, ev_var]
    simp only [List.getElem?_cons_succ, List.getElem?_cons_zero, R.bind_ok, kApp_ap]
    rw [if_pos lo]
    simp only [ev_cb, ev_acons, ev_anil, ev_op, ev_var, List.getElem?_cons_succ, List.getElem?_cons_zero, R.bind_ok, kOp_ap, ev_neg, ev_c, kNeg_0, kOp2_ap, e1, kCons_ap, kCons2_ap, sl, kApp2_ap, pt, kExpr_ap]
  · intro s hs
    rcases List.mem_append.mp hs with h | h
    · exact sm s h
    · rw [List.mem_singleton.mp h]
      exact sm r hrm
  · rw [List.length_append, hTl]; simp; omega
/-- rows[i][k] = v, then the rest -/
theorem fixC {i j : Nat} {v : Int} (rows : List (List Int)) (hr : rows.length = n) : Fixed m0 p P n (setC rows i j v) fs (M1 p m0 P n (setC rows i j v) fs) := by
  have hfix := fixed_refs (m0 := m0) (p := p) (P := P) (rows := setC rows i j v) (fs := fs)
  rw [setC_len, hr] at hfix
  exact hfix
theorem case6 (o7 : Option MV) (v : Int) : Due m0 p n (mPutAt (mVar 4) (mOp oIx (mVar 5) (mNeg (mC (.int 1)))) (mNeg (mC (.int 1))) (EnvS p n form fs m0.length o7 v "shape" none) (M1 p m0 P n (T form n) fs)) := by
  have hTl := T_len form n
  have hin : n - 1 < n := by omega
  have e1 := ix_rowS (m0 := m0) (p := p) (P := P) (fs := fs) hTl (ixN_last h0) hin
  have hrl := row_lenT hl hf h0 hn hfs hfl hin
  have pt := put_cell (m0 := m0) (p := p) (P := P) (fs := fs) (v := (n : Int)) hTl hin hrl (ixN_last h0)
  have hfix := fixC (P := P) (i := n - 1) (j := n - 1) (v := (n : Int)) hl hf h0 hn hfs hfl (T form n) hTl
  refine due_of (o7 := o7) (v := v) (o12 := none) (form := form) (fs := fs) ?_ hfix ?_ ?_ (fss_of hfs hn hfl) hfs.1 (bad_last hf h0)
  · simp only [ev_putAt, ev_op, ev_var, List.getElem?_cons_succ, List.getElem?_cons_zero, R.bind_ok, kOp_ap, ev_neg, ev_c, kNeg_0, kOp2_ap, e1, kPut_ap, kPut2_ap, kPut3_ap, pt]
  · exact sm_set (sm_T (n := n) hf hn) (by omega) ⟨by omega, by omega⟩
  · rw [setC_len, hTl]; omega
theorem case2 (h1 : 1 < n) (o7 : Option MV) (v : Int) : Due m0 p n (mSeq (mPutAt (mCall 2 (f_law_next A) (mACons (mVar 0) (mACons (mOp oSub (mVar 4) (mC (.int 1))) mANil))) (mOp oIx (mVar 5) (mC (.int 0))) (mOp oSub (mVar 4) (mC (.int 1)))) (mSet 9 (mC (.str "unit"))) (EnvS p n form fs m0.length o7 v "shape" none) (M1 p m0 P n (T form n) fs)) := by
  have hTl := T_len form n
  have d0 := nxD_lo (P := P) (n := (n : Int) - 1) (by omega)
  have d1 := nxD_hi (P := P) (n := (n : Int) - 1) (by omega)
  have nx := Mem.next (rc := (T form n).map rowC) (rl := refs m0.length n) (fs := fs) (P := P) hl A (n := (n : Int) - 1) (by omega) (by omega)
  generalize nxD P ((n : Int) - 1) = d at *
  generalize nxP P ((n : Int) - 1) = P' at *
  have e1 := ix_rowS (m0 := m0) (p := p) (P := P') (fs := fs) hTl (ixN_nat h0) h0
  have hrl := row_lenT hl hf h0 hn hfs hfl h0
  have pt := put_cell (m0 := m0) (p := p) (P := P') (fs := fs) (v := d) hTl h0 hrl (ixN_nat (show n - 1 < n by omega))
  rw [show (((n - 1 : Nat)) : Int) = (n : Int) - 1 by omega] at pt
  have hfix := fixC (P := P') (i := 0) (j := n - 1) (v := d) hl hf h0 hn hfs hfl (T form n) hTl
  refine due_of (o7 := o7) (v := v) (o12 := none) (form := form) (fs := fs) (due := "unit") ?_ hfix ?_ ?_ (fss_of hfs hn hfl) hfs.1 (bad_unit hf h0 h1 d0 d1)
  · rw [seq_step (e' := EnvS p n form fs m0.length o7 v "shape" none) (m' := M1 p m0 P' n (setC (T form n) 0 (n - 1) d) fs)]
    · rfl
    · simp only [ev_putAt, ev_call, ev_acons, ev_anil, ev_op, ev_var, List.getElem?_cons_succ, List.getElem?_cons_zero, R.bind_ok, kOp_ap, ev_neg, ev_c, kNeg_0, kOp2_ap, ap_sub, kCons_ap, kCons2_ap, call2]
      rw [nx]
      simp only [ev_putAt, ev_call, ev_acons, ev_anil, ev_op, ev_var, List.getElem?_cons_succ, List.getElem?_cons_zero, R.bind_ok, kOp_ap, ev_neg, ev_c, kNeg_0, kOp2_ap, ap_sub, kPut_ap, kPut2_ap, kPut3_ap]
      rw [show ((0 : Nat) : Int) = 0 from rfl] at e1
      rw [e1]
      simp only [R.bind_ok, kPut2_ap, kPut3_ap, ev_op, ev_var, List.getElem?_cons_succ, List.getElem?_cons_zero, kOp_ap, ev_c, kOp2_ap, ap_sub, pt]
  · exact sm_set (sm_T (n := n) hf hn) (by omega) ⟨by omega, by omega⟩
  · rw [setC_len, hTl]; omega
theorem case3 (h1 : 2 < n) (o7 : Option MV) (v : Int) : Due m0 p n (mSeq (mPutAt (mOp oMod (mCB cInt (mACons (mOp oAdd (mOp oIx (mOp oIx (mVar 5) (mOp oSub (mVar 4) (mC (.int 1)))) (mOp oSub (mVar 4) (mC (.int 2)))) (mC (.int 1))) mANil)) (mVar 4)) (mOp oIx (mVar 5) (mOp oSub (mVar 4) (mC (.int 1)))) (mOp oSub (mVar 4) (mC (.int 2)))) (mSet 9 (mC (.str "order"))) (EnvS p n form fs m0.length o7 v "shape" none) (M1 p m0 P n (T form n) fs)) := by
  have hTl := T_len form n
  have hin : n - 1 < n := by omega
  have hrl := row_lenT hl hf h0 hn hfs hfl hin
  have hat := row_at (m0 := m0) (p := p) (P := P) (fs := fs) hTl hin
  have ic : atI ((row (T form n) (n - 1 : Nat)).map MV.int) ((n - 2 : Nat) : Int) = some (.int (cel (T form n) (n - 1 : Nat) (n - 2 : Nat))) := by
    rw [atI_nat', List.getElem?_map, List.getElem?_eq_getElem (by omega)]
    unfold cel g0
    rw [List.getD_eq_getElem?_getD, show ((n - 2 : Nat) : Int).toNat = n - 2 by omega, List.getElem?_eq_getElem (by omega)]
    rfl
  have ixc : oIx (.ref (m0.length + (n - 1))) (.int ((n - 2 : Nat) : Int)) (M1 p m0 P n (T form n) fs) = .ok (.int (cel (T form n) (n - 1 : Nat) (n - 2 : Nat))) (M1 p m0 P n (T form n) fs) := by
    rw [ap_ixc hat, ic]
  have bo := bad_order (fs := fs) hf h0 h1
  have cT := cel_T (f := form) (n := n) (i := (n - 1 : Nat)) (j := (n - 2 : Nat)) (by omega) (by omega) (by omega) (by omega)
  generalize hx : cel (T form n) (n - 1 : Nat) (n - 2 : Nat) = x at *
  have n0 : (0 : Int) < n := by omega
  have hv0 := Int.emod_nonneg (x + 1) (show (n : Int) ≠ 0 by omega)
  have hv1 := Int.emod_lt_of_pos (x + 1) n0
  have md : oMod (.int (x + 1)) (.int n) (M1 p m0 P n (T form n) fs) = .ok (.int ((x + 1) % n)) (M1 p m0 P n (T form n) fs) := by
    rw [ap_mod, if_pos n0]
  generalize hv : (x + 1) % (n : Int) = d at *
  have e1 := ix_rowS (m0 := m0) (p := p) (P := P) (fs := fs) hTl (ixN_nat hin) hin
  have pt := put_cell (m0 := m0) (p := p) (P := P) (fs := fs) (v := d) hTl hin hrl (ixN_nat (show n - 2 < n by omega))
  rw [show (((n - 1 : Nat)) : Int) = (n : Int) - 1 by omega] at e1
  rw [show (((n - 2 : Nat)) : Int) = (n : Int) - 2 by omega] at pt ixc
  have hfix := fixC (P := P) (i := n - 1) (j := n - 2) (v := d) hl hf h0 hn hfs hfl (T form n) hTl
  refine due_of (o7 := o7) (v := v) (o12 := none) (form := form) (fs := fs) (due := "order") ?_ hfix ?_ ?_ (fss_of hfs hn hfl) hfs.1 bo
  · rw [seq_step (e' := EnvS p n form fs m0.length o7 v "shape" none) (m' := M1 p m0 P n (setC (T form n) (n - 1) (n - 2) d) fs)]
    · rfl
    · simp only [ev_putAt, ev_op, ev_cb, ev_acons, ev_anil, ev_var, List.getElem?_cons_succ, List.getElem?_cons_zero, R.bind_ok, kOp_ap, ev_neg, ev_c, kNeg_0, kOp2_ap, ap_sub, kCons_ap, kCons2_ap, e1, ixc, ap_add, ap_int, md, kPut_ap, kPut2_ap, kPut3_ap, pt]
  · exact sm_set (sm_T (n := n) hf hn) (by omega) ⟨by omega, by omega⟩
  · rw [setC_len, hTl]; omega
end
theorem case4 {m0 : Mo} {p n : Nat} {P : Pl} {fs : Fs} (hn : n ≤ 40) (hfs : FsOk n fs) (hfl : fs.length ≤ 64) (h4 : 4 < n) (o7 : Option MV) (v : Int) : Due m0 p n (mSeq (mPutAt (mC (.int 1)) (mOp oIx (mVar 5) (mOp oSub (mVar 4) (mC (.int 1)))) (mOp oSub (mVar 4) (mC (.int 2)))) (mSeq (mPutAt (mC (.int 1)) (mOp oIx (mVar 5) (mOp oSub (mVar 4) (mC (.int 2)))) (mOp oSub (mVar 4) (mC (.int 1)))) (mSet 9 (mC (.str "grouping")))) (EnvS p n 2 fs m0.length o7 v "shape" none) (M1 p m0 P n (T 2 n) fs)) := by
  have hf : (2 : Int) = 0 ∨ (2 : Int) = 1 ∨ (2 : Int) = 2 := .inr (.inr rfl)
  have hTl := T_len 2 n
  have hin : n - 1 < n := by omega
  have hin2 : n - 2 < n := by omega
  have hrl : (row (T 2 n) (n - 1 : Nat)).length = n := row_len (sq_T hf) (by omega) (by omega)
  have e1 := ix_rowS (m0 := m0) (p := p) (P := P) (fs := fs) hTl (ixN_nat hin) hin
  have pt := put_cell (m0 := m0) (p := p) (P := P) (fs := fs) (v := 1) hTl hin hrl (ixN_nat hin2)
  have sq := sq_set (sq_T (n := n) (f := 2) hf) (i := n - 1) (j := n - 2) (v := 1) hin (by omega) (by omega)
  have hrl2 : (row (setC (T 2 n) (n - 1) (n - 2) 1) (n - 2 : Nat)).length = n := row_len sq (by omega) (by omega)
  have e2 := ix_rowS (m0 := m0) (p := p) (P := P) (fs := fs) sq.1 (ixN_nat hin2) hin2
  have pt2 := put_cell (m0 := m0) (p := p) (P := P) (fs := fs) (v := 1) sq.1 hin2 hrl2 (ixN_nat hin)
  rw [show (((n - 1 : Nat)) : Int) = (n : Int) - 1 by omega] at e1 pt2
  rw [show (((n - 2 : Nat)) : Int) = (n : Int) - 2 by omega] at pt e2
  have hfix := fixed_refs (m0 := m0) (p := p) (P := P) (rows := setC (setC (T 2 n) (n - 1) (n - 2) 1) (n - 2) (n - 1) 1) (fs := fs)
  rw [setC_len, setC_len, hTl] at hfix
  refine due_of (o7 := o7) (v := v) (o12 := none) (form := 2) (fs := fs) (due := "grouping") ?_ hfix ?_ ?_ (fss_of hfs hn hfl) hfs.1 (bad_group h4)
  · rw [seq_step (e' := EnvS p n 2 fs m0.length o7 v "shape" none) (m' := M1 p m0 P n (setC (T 2 n) (n - 1) (n - 2) 1) fs), seq_step (e' := EnvS p n 2 fs m0.length o7 v "shape" none) (m' := M1 p m0 P n (setC (setC (T 2 n) (n - 1) (n - 2) 1) (n - 2) (n - 1) 1) fs)]
    · rfl
    · simp only [ev_putAt, ev_op, ev_cb, ev_acons, ev_anil, ev_var, List.getElem?_cons_succ, List.getElem?_cons_zero, R.bind_ok, kOp_ap, ev_neg, ev_c, kNeg_0, kOp2_ap, ap_sub, e2, kPut_ap, kPut2_ap, kPut3_ap, pt2]
    · simp only [ev_putAt, ev_op, ev_cb, ev_acons, ev_anil, ev_var, List.getElem?_cons_succ, List.getElem?_cons_zero, R.bind_ok, kOp_ap, ev_neg, ev_c, kNeg_0, kOp2_ap, ap_sub, e1, kPut_ap, kPut2_ap, kPut3_ap, pt]
  · exact sm_set (sm_set (sm_T (n := n) hf hn) (by omega) ⟨by omega, by omega⟩) (by rw [setC_len]; omega) ⟨by omega, by omega⟩
  · rw [setC_len, setC_len, hTl]; omega
theorem case5 {m0 : Mo} {p n : Nat} {P : Pl} {form : Int} {fs : Fs} (hf : form = 0 ∨ form = 1 ∨ form = 2) (h0 : 0 < n) (hn : n ≤ 40) (hfs : FsOk n fs) (hfl : fs.length ≤ 64) (o7 : Option MV) (v : Int) : Due m0 p n (mSeq (mDPut (mLc (iRg1 (mOp oAdd (mVar 4) (mC (.int 1)))) (gSet 12) mYes (mVar 12) [12]) (mVar 6) (mC (.str "last9"))) (mSet 9 (mC (.str "fact"))) (EnvS p n form fs m0.length o7 v "shape" none) (M1 p m0 P n (T form n) fs)) := by
  have hTl := T_len form n
  have hD := Mem.atD (p := p) (m0 := m0) (P := P) (rc := (T form n).map rowC) (rl := refs m0.length n) (fs := fs)
  rw [List.length_map, hTl] at hD
  have dp := dput_c (k := "last9") (x := rg (n + 1)) hD hfs.1 (by omega)
  have sd := Mem.setD (p := p) (m0 := m0) (P := P) (rc := (T form n).map rowC) (rl := refs m0.length n) (fs := fs) (fs' := putS fs "last9" (rg (n + 1)))
  rw [List.length_map, hTl] at sd
  rw [sd] at dp
  have hfix := fixed_refs (m0 := m0) (p := p) (P := P) (rows := T form n) (fs := putS fs "last9" (rg (n + 1)))
  rw [hTl] at hfix
  have cp := compL_all (m := M1 p m0 P n (T form n) fs) (j := 12) (me := mVar 12) (e0 := EnvS p n form fs m0.length o7 v "shape" none) MV.int MV.int (rg (n + 1)) fun b _ => by simp
  have rr := run_rg (m := M1 p m0 P n (T form n) fs) (n := n + 1) (by omega)
  have nm9 : Nm ("last9" : Str) := by decide +kernel
  refine due_of (o7 := o7) (v := v) (o12 := none) (form := form) (fs := fs) (due := "fact") ?_ hfix (sm_T hf hn) (by omega) ?_ (put_nodup hfs.1) (bad_fact hf h0 hfs)
  · rw [seq_step (e' := EnvS p n form fs m0.length o7 v "shape" none) (m' := M1 p m0 P n (T form n) (putS fs "last9" (rg (n + 1))))]
    · rfl
    · rw [show ((n + 1 : Nat) : Int) = (n : Int) + 1 by omega] at rr
      rw [ev_dput, ev_lc, ev_rg1]
      simp only [ev_op, ev_var, List.getElem?_cons_succ, List.getElem?_cons_zero, R.bind_ok, kOp_ap, ev_c, kOp2_ap, ap_add, rr, kLc_ap]
      rw [if_pos (by rw [List.length_map, rg_length]; omega)]
      simp only [mwipe, List.foldl, List.set_cons_succ, List.set_cons_zero]
      rw [cp]
      simp only [nox_ok, R.bind_ok, kLc2_ap, kDP_ap, ev_var, List.getElem?_cons_succ, List.getElem?_cons_zero, kDP2_ap, ev_c, kDP3_ap]
      have dp' : dPutM (Mem p m0 P (List.map rowC (T form n)) (refs (List.length m0) n) fs) (MV.ref (List.length m0 + n + 1)) (MV.str (Str.ofString "last9")) (.lst ((rg (n + 1)).map MV.int)) = some (Mem p m0 P (List.map rowC (T form n)) (refs (List.length m0) n) (putS fs (Str.ofString "last9") (rg (n + 1)))) := dp
      rw [dp']
  · refine ⟨by have := put_len (fs := fs) (k := "last9") (x := rg (n + 1)); omega, fun f hf' => ?_⟩
    rcases put_mem hf' with q | q
    · exact (fss_of hfs hn hfl).2 f q
    · rw [q]
      exact ⟨nm9, by rw [rg_length]; omega, fun i hi => by obtain ⟨i0, i1⟩ := mem_rg.mp hi; omega⟩
end W76
set_option Elab.async false
set_option linter.all false
set_option maxRecDepth 100000
set_option maxHeartbeats 4000000
namespace W76
open PySem ML L2
theorem if_true {mt : MT} {ms mu : MS} {e : ML.Env} {m m' : Mo} (h : mt e m = .ok true m') : mIf mt ms mu e m = ms e m' := by rw [ev_if, h]; rfl
theorem if_false {mt : MT} {ms mu : MS} {e : ML.Env} {m m' : Mo} (h : mt e m = .ok false m') : mIf mt ms mu e m = mu e m' := by rw [ev_if, h]; rfl
theorem spoilt_ex (A : Ad) {m0 : Mo} {p n : Nat} {P : Pl} {form : Int} {fs : Fs} (hl : p < m0.length) (hf : form = 0 ∨ form = 1 ∨ form = 2) (h0 : 0 < n) (hn : n ≤ 40) (hfs : FsOk n fs) (hfl : fs.length ≤ 64) :
    Post (f_law_spoilt A [.ref p, .int form, tb (T form n), .dK (fk fs) (fv fs)] (m0.set p (plC P))) fun x m' => x = .bl true ∧ ∃ P', m' = m0.set p (plC P') := by
  unfold f_law_spoilt
  rw [sp_eq]
  refine Post.hide fun Q0 hQ0 => ?_
  have tl := @tail_ex A m0 p n
  generalize b_tail A = TL at tl
  rw [body_ap, List.length_set]
  refine start_ex A hl h0 hn hfs.1 hfl _ fun o7 => ?_
  have s8 : mSet 8 (mCall 2 (f_law_next A) (mACons (mVar 0) (mACons (mC (.int 7)) mANil))) [some (.ref p), some (.int form), some (tb (T form n)), some (.dK (fk fs) (fv fs)), some (.int n), some (.ref (m0.length + n)), some (.ref (m0.length + n + 1)), o7, none, none, none, none, none] (Mem p m0 P ((T form n).map rowC) (refs m0.length n) fs)
      = .ok (.next [some (.ref p), some (.int form), some (tb (T form n)), some (.dK (fk fs) (fv fs)), some (.int n), some (.ref (m0.length + n)), some (.ref (m0.length + n + 1)), o7, some (.int (nxD P 7)), none, none, none, none]) (Mem p m0 (nxP P 7) ((T form n).map rowC) (refs m0.length n) fs) := by
    have nx := Mem.next (rc := (T form n).map rowC) (rl := refs m0.length n) (fs := fs) (P := P) hl A (n := 7) (by omega) (by omega)
    simp only [ev_set, ev_call, ev_acons, ev_anil, ev_var, ev_c, List.getElem?_cons_succ, List.getElem?_cons_zero, R.bind_ok, kCons_ap, kCons2_ap, call2, nx, kSet_ap, List.set_cons_succ, List.set_cons_zero]
  rw [seq_step s8]
  generalize nxD P 7 = v0
  generalize nxP P 7 = P1
  have key : ∃ v P2, (mIf (mAndT (mOpB fEq (mVar 1) (mC (.int 2))) (mOpB fEq (mCall 2 (f_law_next A) (mACons (mVar 0) (mACons (mC (.int 2)) mANil))) (mC (.int 0)))) (mSet 8 (mC (.int 4))) mNext) [some (.ref p), some (.int form), some (tb (T form n)), some (.dK (fk fs) (fv fs)), some (.int n), some (.ref (m0.length + n)), some (.ref (m0.length + n + 1)), o7, some (.int v0), none, none, none, none] (Mem p m0 P1 ((T form n).map rowC) (refs m0.length n) fs)
      = .ok (.next [some (.ref p), some (.int form), some (tb (T form n)), some (.dK (fk fs) (fv fs)), some (.int n), some (.ref (m0.length + n)), some (.ref (m0.length + n + 1)), o7, some (.int v), none, none, none, none]) (M1 p m0 P2 n (T form n) fs) := by
    have nx := Mem.next (rc := (T form n).map rowC) (rl := refs m0.length n) (fs := fs) (P := P1) hl A (n := 2) (by omega) (by omega)
    by_cases hf2 : form = 2
    · by_cases hd : nxD P1 2 = 0
      · refine ⟨4, nxP P1 2, ?_⟩
        rw [if_true (m' := M1 p m0 (nxP P1 2) n (T form n) fs)]
        · rfl
        · simp only [ev_andT, ev_opB, ev_call, ev_acons, ev_anil, ev_var, ev_c, List.getElem?_cons_succ, List.getElem?_cons_zero, R.bind_ok, kOpB_ap, kOpB2_ap, eq_int, kAndT_ap, kCons_ap, kCons2_ap, call2, nx]
          rw [decide_eq_true hf2, decide_eq_true hd]
          rfl
      · refine ⟨v0, nxP P1 2, ?_⟩
        rw [if_false (m' := M1 p m0 (nxP P1 2) n (T form n) fs)]
        · rfl
        · simp only [ev_andT, ev_opB, ev_call, ev_acons, ev_anil, ev_var, ev_c, List.getElem?_cons_succ, List.getElem?_cons_zero, R.bind_ok, kOpB_ap, kOpB2_ap, eq_int, kAndT_ap, kCons_ap, kCons2_ap, call2, nx]
          rw [decide_eq_true hf2, decide_eq_false hd]
          rfl
    · refine ⟨v0, P1, ?_⟩
      rw [if_false (m' := M1 p m0 P1 n (T form n) fs)]
      · rfl
      · simp only [ev_andT, ev_opB, ev_var, ev_c, List.getElem?_cons_succ, List.getElem?_cons_zero, R.bind_ok, kOpB_ap, kOpB2_ap, eq_int, kAndT_ap]
        rw [decide_eq_false hf2]
        rfl
  obtain ⟨v, P2, key⟩ := key
  refine seq_post ⟨_, _, key, _, rfl, ?_⟩
  refine seq_post ⟨_, M1 p m0 P2 n (T form n) fs, rfl, EnvS p n form fs m0.length o7 v "shape" none, rfl, ?_⟩
  have due : Due m0 p n ((mIf (mOpB fEq (mVar 8) (mC (.int 0))) (mPutAt (mSl (mOp oIx (mVar 5) (mNeg (mC (.int 1)))) mONone (mOSome (mNeg (mC (.int 1))))) (mVar 5) (mNeg (mC (.int 1)))) (mIf (mOpB fEq (mVar 8) (mC (.int 1))) (mExpr (mApp (mVar 5) (mCB cList (mACons (mOp oIx (mVar 5) (mNeg (mC (.int 1)))) mANil)))) (mIf (mAndT (mOpB fEq (mVar 8) (mC (.int 2))) (mOpB fGt (mVar 4) (mC (.int 1)))) (mSeq (mPutAt (mCall 2 (f_law_next A) (mACons (mVar 0) (mACons (mOp oSub (mVar 4) (mC (.int 1))) mANil))) (mOp oIx (mVar 5) (mC (.int 0))) (mOp oSub (mVar 4) (mC (.int 1)))) (mSet 9 (mC (.str "unit")))) (mIf (mAndT (mOpB fEq (mVar 8) (mC (.int 3))) (mOpB fGt (mVar 4) (mC (.int 2)))) (mSeq (mPutAt (mOp oMod (mCB cInt (mACons (mOp oAdd (mOp oIx (mOp oIx (mVar 5) (mOp oSub (mVar 4) (mC (.int 1)))) (mOp oSub (mVar 4) (mC (.int 2)))) (mC (.int 1))) mANil)) (mVar 4)) (mOp oIx (mVar 5) (mOp oSub (mVar 4) (mC (.int 1)))) (mOp oSub (mVar 4) (mC (.int 2)))) (mSet 9 (mC (.str "order")))) (mIf (mAndT (mOpB fEq (mVar 8) (mC (.int 4))) (mAndT (mOpB fEq (mVar 1) (mC (.int 2))) (mOpB fGt (mVar 4) (mC (.int 4))))) (mSeq (mPutAt (mC (.int 1)) (mOp oIx (mVar 5) (mOp oSub (mVar 4) (mC (.int 1)))) (mOp oSub (mVar 4) (mC (.int 2)))) (mSeq (mPutAt (mC (.int 1)) (mOp oIx (mVar 5) (mOp oSub (mVar 4) (mC (.int 2)))) (mOp oSub (mVar 4) (mC (.int 1)))) (mSet 9 (mC (.str "grouping"))))) (mIf (mOpB fEq (mVar 8) (mC (.int 5))) (mSeq (mDPut (mLc (iRg1 (mOp oAdd (mVar 4) (mC (.int 1)))) (gSet 12) mYes (mVar 12) [12]) (mVar 6) (mC (.str "last9"))) (mSet 9 (mC (.str "fact")))) (mPutAt (mVar 4) (mOp oIx (mVar 5) (mNeg (mC (.int 1)))) (mNeg (mC (.int 1)))))))))) (EnvS p n form fs m0.length o7 v "shape" none) (M1 p m0 P2 n (T form n) fs)) := by
    have q : ∀ c : Int, (mOpB fEq (mVar 8) (mC (.int c))) (EnvS p n form fs m0.length o7 v "shape" none) (M1 p m0 P2 n (T form n) fs) = .ok (decide (v = c)) (M1 p m0 P2 n (T form n) fs) := fun c => rfl
    have g : ∀ c d : Int, (mAndT (mOpB fEq (mVar 8) (mC (.int c))) (mOpB fGt (mVar 4) (mC (.int d)))) (EnvS p n form fs m0.length o7 v "shape" none) (M1 p m0 P2 n (T form n) fs) = .ok (decide (v = c) && decide ((n : Int) > d)) (M1 p m0 P2 n (T form n) fs) := fun c d => by
      simp only [ev_andT, q, R.bind_ok, kAndT_ap]
      cases decide (v = c) <;> rfl
    have g4 : (mAndT (mOpB fEq (mVar 8) (mC (.int 4))) (mAndT (mOpB fEq (mVar 1) (mC (.int 2))) (mOpB fGt (mVar 4) (mC (.int 4))))) (EnvS p n form fs m0.length o7 v "shape" none) (M1 p m0 P2 n (T form n) fs) = .ok (decide (v = 4) && (decide (form = 2) && decide ((n : Int) > 4))) (M1 p m0 P2 n (T form n) fs) := by
      have q1 : (mOpB fEq (mVar 1) (mC (.int 2))) (EnvS p n form fs m0.length o7 v "shape" none) (M1 p m0 P2 n (T form n) fs) = .ok (decide (form = 2)) (M1 p m0 P2 n (T form n) fs) := rfl
      simp only [ev_andT, q, q1, R.bind_ok, kAndT_ap]
      cases decide (v = 4) <;> cases decide (form = 2) <;> rfl
    by_cases c0 : v = 0
    · rw [if_true (by rw [q, decide_eq_true c0])]
      exact case0 hl hf h0 hn hfs hfl o7 v
    rw [if_false (by rw [q, decide_eq_false c0])]
    by_cases c1 : v = 1
    · rw [if_true (by rw [q, decide_eq_true c1])]
      exact case1 hl hf h0 hn hfs hfl o7 v
    rw [if_false (by rw [q, decide_eq_false c1])]
    by_cases c2 : v = 2 ∧ (n : Int) > 1
    · rw [if_true (by rw [g, decide_eq_true c2.1, decide_eq_true c2.2]; rfl)]
      exact case2 A hl hf h0 hn hfs hfl (by omega) o7 v
    rw [if_false (by rw [g, ← Bool.decide_and, decide_eq_false c2])]
    by_cases c3 : v = 3 ∧ (n : Int) > 2
    · rw [if_true (by rw [g, decide_eq_true c3.1, decide_eq_true c3.2]; rfl)]
      exact case3 hl hf h0 hn hfs hfl (by omega) o7 v
    rw [if_false (by rw [g, ← Bool.decide_and, decide_eq_false c3])]
    by_cases c4 : v = 4 ∧ form = 2 ∧ (n : Int) > 4
    · rw [if_true (by rw [g4, decide_eq_true c4.1, decide_eq_true c4.2.1, decide_eq_true c4.2.2]; rfl)]
      obtain ⟨_, rfl, h4⟩ := c4
      exact case4 hn hfs hfl (by omega) o7 v
    rw [if_false (by rw [g4, ← Bool.decide_and, ← Bool.decide_and, decide_eq_false c4])]
    by_cases c5 : v = 5
    · rw [if_true (by rw [q, decide_eq_true c5])]
      exact case5 hf h0 hn hfs hfl o7 v
    rw [if_false (by rw [q, decide_eq_false c5])]
    exact case6 hl hf h0 hn hfs hfl o7 v
  obtain ⟨f, M, hfM, due, o0, o1, o2, o3, o4, o7', o8, o10, o11, o12, rows, fs', P', rfl, hF, h1, h2, h3, h4, h5⟩ := due
  refine seq_post ⟨_, _, hfM, _, rfl, ?_⟩
  exact tl hF h1 h2 h3 h4 h5 (hQ0 _ _ ⟨rfl, P', rfl⟩)
end W76
set_option Elab.async false
set_option linter.all false
set_option maxRecDepth 100000
set_option maxHeartbeats 4000000
namespace W76
open PySem ML L2
theorem next0 (A : Ad) (P : Pl) (l : Mo) {n : Int} (h0 : 0 < n) (h1 : n < 1073741824) : f_law_next A [.ref 0, .int n] (plC P :: l) = .ok (.int (nxD P n)) (plC (nxP P n) :: l) := next_eq A rfl h0 h1
theorem next2 (A : Ad) (P : Pl) (a b : MCell) {n : Int} (h0 : 0 < n) (h1 : n < 1073741824) : f_law_next A [.ref 2, .int n] [a, b, plC P] = .ok (.int (nxD P n)) [a, b, plC (nxP P n)] := next_eq A rfl h0 h1

theorem part1 (A : Ad) (ns : List Int) (mu : MS) {Q : MV → Mo → Prop} (h : ∀ (P : Pl) (f : Int) (n : Nat), (f = 0 ∨ f = 1 ∨ f = 2) → 0 < n → n ≤ 40 → Post (finM 0 (mu [some (.rl (ns.map MV.int)), some (.ref 0), some (.int f), some (.int n), none, none, none, none, none, none, none, none, none, none, none, none, none] [plC P])) Q) :
    Post (finM 0 (mSeq (mSet 1 (mCall 2 (f_law_pool A) (mACons (mVar 0) (mACons (mC (.int 0)) mANil))))
    (mSeq (mSet 2 (mCall 2 (f_law_next A) (mACons (mVar 1) (mACons (mC (.int 3)) mANil))))
    (mSeq (mSet 3 (mOp oAdd (mC (.int 1)) (mCall 2 (f_law_next A) (mACons (mVar 1) (mACons (mC (.int 6)) mANil)))))
    (mSeq (mIf (mOpB fEq (mCall 2 (f_law_next A) (mACons (mVar 1) (mACons (mC (.int 2)) mANil))) (mC (.int 0))) (mSet 3 (mOp oAdd (mC (.int 18)) (mCall 2 (f_law_next A) (mACons (mVar 1) (mACons (mC (.int 23)) mANil))))) mNext) mu))) [some (.rl (ns.map MV.int)), none, none, none, none, none, none, none, none, none, none, none, none, none, none, none, none] [])) Q := by
  obtain ⟨P, hP⟩ := pool_ex A ns 0 []
  have hP' : f_law_pool A [.rl (ns.map MV.int), .int 0] [] = .ok (.ref 0) [plC P] := hP
  have s1 : mSet 1 (mCall 2 (f_law_pool A) (mACons (mVar 0) (mACons (mC (.int 0)) mANil))) [some (.rl (ns.map MV.int)), none, none, none, none, none, none, none, none, none, none, none, none, none, none, none, none] [] = .ok (.next [some (.rl (ns.map MV.int)), some (.ref 0), none, none, none, none, none, none, none, none, none, none, none, none, none, none, none]) [plC P] := by
    simp [hP']
  have f0 := nxD_lo (P := P) (n := 3) (by decide)
  have f1 := nxD_hi (P := P) (n := 3) (by decide)
  have s2 : mSet 2 (mCall 2 (f_law_next A) (mACons (mVar 1) (mACons (mC (.int 3)) mANil))) [some (.rl (ns.map MV.int)), some (.ref 0), none, none, none, none, none, none, none, none, none, none, none, none, none, none, none] [plC P] = .ok (.next [some (.rl (ns.map MV.int)), some (.ref 0), some (.int (nxD P 3)), none, none, none, none, none, none, none, none, none, none, none, none, none, none]) [plC (nxP P 3)] := by
    simp [next0]
  generalize nxD P 3 = f at *
  generalize nxP P 3 = P at *
  have g0 := nxD_lo (P := P) (n := 6) (by decide)
  have g1 := nxD_hi (P := P) (n := 6) (by decide)
  have s3 : mSet 3 (mOp oAdd (mC (.int 1)) (mCall 2 (f_law_next A) (mACons (mVar 1) (mACons (mC (.int 6)) mANil)))) [some (.rl (ns.map MV.int)), some (.ref 0), some (.int f), none, none, none, none, none, none, none, none, none, none, none, none, none, none] [plC P] = .ok (.next [some (.rl (ns.map MV.int)), some (.ref 0), some (.int f), some (.int (1 + nxD P 6)), none, none, none, none, none, none, none, none, none, none, none, none, none]) [plC (nxP P 6)] := by
    simp [next0]
  generalize nxD P 6 = g at *
  generalize nxP P 6 = P at *
  rw [seq_step s1, seq_step s2, seq_step s3]
  have hf : f = 0 ∨ f = 1 ∨ f = 2 := by omega
  have s4 : ∃ (n : Nat) (P' : Pl), 0 < n ∧ n ≤ 40 ∧ mIf (mOpB fEq (mCall 2 (f_law_next A) (mACons (mVar 1) (mACons (mC (.int 2)) mANil))) (mC (.int 0))) (mSet 3 (mOp oAdd (mC (.int 18)) (mCall 2 (f_law_next A) (mACons (mVar 1) (mACons (mC (.int 23)) mANil))))) mNext [some (.rl (ns.map MV.int)), some (.ref 0), some (.int f), some (.int (1 + g)), none, none, none, none, none, none, none, none, none, none, none, none, none] [plC P] = .ok (.next [some (.rl (ns.map MV.int)), some (.ref 0), some (.int f), some (.int n), none, none, none, none, none, none, none, none, none, none, none, none, none]) [plC P'] := by
    by_cases hc : nxD P 2 = 0
    · have k0 := nxD_lo (P := nxP P 2) (n := 23) (by decide)
      have k1 := nxD_hi (P := nxP P 2) (n := 23) (by decide)
      refine ⟨(18 + nxD (nxP P 2) 23).toNat, nxP (nxP P 2) 23, by omega, by omega, ?_⟩
      rw [show (((18 + nxD (nxP P 2) 23).toNat : Nat) : Int) = 18 + nxD (nxP P 2) 23 by omega]
      simp [next0, hc]
    · refine ⟨(1 + g).toNat, nxP P 2, by omega, by omega, ?_⟩
      rw [show (((1 + g).toNat : Nat) : Int) = 1 + g by omega]
      simp [next0, hc]
  obtain ⟨n, P', n0, n1, s4⟩ := s4
  rw [seq_step s4]
  exact h P' f n hf n0 n1

theorem part2 (A : Ad) (ns : List Int) {P : Pl} {f : Int} {n : Nat} (hf : f = 0 ∨ f = 1 ∨ f = 2) (n0 : 0 < n) (n1 : n ≤ 40) (mu : MS) {Q : MV → Mo → Prop} (h : ∀ (P P2 : Pl) (ws nm : List Str) (fs : Fs), 0 < ws.length → ws.length ≤ 64 → nm.length = 24 → FsOk n fs → fs.length ≤ 64 → Post (finM 0 (mu [some (.rl (ns.map MV.int)), some (.ref 0), some (.int f), some (.int n), some (.lst (ws.map MV.str)), some (.lst (nm.map MV.str)), some (tb (T f n)), some (.dK (fk fs) (fv fs)), some (.ref 1), some (.ref 2), none, none, none, none, none, none, none] [plC P, wIns A (T f n) fs, plC P2])) Q) :
    Post (finM 0 (mSeq (mSet 4 (mCall 2 (f_law_names A) (mACons (mVar 1) (mACons (mOp oAdd (mC (.int 1)) (mCall 2 (f_law_next A) (mACons (mVar 1) (mACons (mC (.int 6)) mANil)))) mANil))))
    (mSeq (mSet 5 (mCall 2 (f_law_names A) (mACons (mVar 1) (mACons (mC (.int 24)) mANil))))
    (mSeq (mSet 6 (mCall 2 (f_law_table A) (mACons (mVar 2) (mACons (mVar 3) mANil))))
    (mSeq (mSet 7 (mCall 3 (f_law_facts A) (mACons (mVar 1) (mACons (mVar 3) (mACons (mVar 4) mANil)))))
    (mSeq (mSet 8 (mMake A.World 3 (f_World_init A) (mACons (mVar 6) (mACons (mVar 7) mANil))))
    (mSeq (mIf (mOpB fNe (mLenO A.World (f_World_len A) (mVar 8)) (mVar 3)) (mRet (mC (.bl false))) mNext)
    (mSeq (mSet 9 (mCall 2 (f_law_pool A) (mACons (mVar 0) (mACons (mC (.int 1)) mANil)))) mu)))))) [some (.rl (ns.map MV.int)), some (.ref 0), some (.int f), some (.int n), none, none, none, none, none, none, none, none, none, none, none, none, none] [plC P])) Q := by
  have g0 := nxD_lo (P := P) (n := 6) (by decide)
  have g1 := nxD_hi (P := P) (n := 6) (by decide)
  obtain ⟨x, m', h4, ws, P1, rfl, rfl, hwl, hws⟩ := names_ex A (m0 := [plC (nxP P 6)]) (p := 0) (P := nxP P 6) (n := (1 + nxD P 6).toNat) (by simp) rfl (by omega)
  rw [show (((1 + nxD P 6).toNat : Nat) : Int) = 1 + nxD P 6 by omega] at h4
  have s4 : mSet 4 (mCall 2 (f_law_names A) (mACons (mVar 1) (mACons (mOp oAdd (mC (.int 1)) (mCall 2 (f_law_next A) (mACons (mVar 1) (mACons (mC (.int 6)) mANil)))) mANil))) [some (.rl (ns.map MV.int)), some (.ref 0), some (.int f), some (.int n), none, none, none, none, none, none, none, none, none, none, none, none, none] [plC P] = .ok (.next [some (.rl (ns.map MV.int)), some (.ref 0), some (.int f), some (.int n), some (.lst (ws.map MV.str)), none, none, none, none, none, none, none, none, none, none, none, none]) [plC P1] := by
    rw [List.set_cons_zero] at h4
    simp [next0, h4]
  clear h4
  obtain ⟨x, m', h5, nm, P2, rfl, rfl, hnl, hnm⟩ := names_ex A (m0 := [plC P1]) (p := 0) (P := P1) (n := 24) (by simp) rfl (by omega)
  have s5 : mSet 5 (mCall 2 (f_law_names A) (mACons (mVar 1) (mACons (mC (.int 24)) mANil))) [some (.rl (ns.map MV.int)), some (.ref 0), some (.int f), some (.int n), some (.lst (ws.map MV.str)), none, none, none, none, none, none, none, none, none, none, none, none] [plC P1] = .ok (.next [some (.rl (ns.map MV.int)), some (.ref 0), some (.int f), some (.int n), some (.lst (ws.map MV.str)), some (.lst (nm.map MV.str)), none, none, none, none, none, none, none, none, none, none, none]) [plC P2] := by
    rw [List.set_cons_zero] at h5
    have h5' : f_law_names A [.ref 0, .int 24] [plC P1] = .ok (.lst (nm.map MV.str)) [plC P2] := h5
    simp [h5']
  have s6 : mSet 6 (mCall 2 (f_law_table A) (mACons (mVar 2) (mACons (mVar 3) mANil))) [some (.rl (ns.map MV.int)), some (.ref 0), some (.int f), some (.int n), some (.lst (ws.map MV.str)), some (.lst (nm.map MV.str)), none, none, none, none, none, none, none, none, none, none, none] [plC P2] = .ok (.next [some (.rl (ns.map MV.int)), some (.ref 0), some (.int f), some (.int n), some (.lst (ws.map MV.str)), some (.lst (nm.map MV.str)), some (tb (T f n)), none, none, none, none, none, none, none, none, none, none]) [plC P2] := by
    have t := table_eq A (form := f) n0 (by omega) [plC P2]
    simp [t]
  obtain ⟨x, m', h7, fs, P3, rfl, rfl, hfs, hfl⟩ := facts_ex A (m0 := [plC P2]) (p := 0) (P := P2) (n := n) (ws := ws) (by simp) rfl n0 (by omega) hws (by omega)
  have s7 : mSet 7 (mCall 3 (f_law_facts A) (mACons (mVar 1) (mACons (mVar 3) (mACons (mVar 4) mANil)))) [some (.rl (ns.map MV.int)), some (.ref 0), some (.int f), some (.int n), some (.lst (ws.map MV.str)), some (.lst (nm.map MV.str)), some (tb (T f n)), none, none, none, none, none, none, none, none, none, none] [plC P2] = .ok (.next [some (.rl (ns.map MV.int)), some (.ref 0), some (.int f), some (.int n), some (.lst (ws.map MV.str)), some (.lst (nm.map MV.str)), some (tb (T f n)), some (.dK (fk fs) (fv fs)), none, none, none, none, none, none, none, none, none]) [plC P3] := by
    rw [List.set_cons_zero] at h7
    simp [h7]
  have hTl := T_len f n
  have s8 : mSet 8 (mMake A.World 3 (f_World_init A) (mACons (mVar 6) (mACons (mVar 7) mANil))) [some (.rl (ns.map MV.int)), some (.ref 0), some (.int f), some (.int n), some (.lst (ws.map MV.str)), some (.lst (nm.map MV.str)), some (tb (T f n)), some (.dK (fk fs) (fv fs)), none, none, none, none, none, none, none, none, none] [plC P3] = .ok (.next [some (.rl (ns.map MV.int)), some (.ref 0), some (.int f), some (.int n), some (.lst (ws.map MV.str)), some (.lst (nm.map MV.str)), some (tb (T f n)), some (.dK (fk fs) (fv fs)), some (.ref 1), none, none, none, none, none, none, none, none]) [plC P3, wIns A (T f n) fs] := by
    have mo := make_ok A hfs.1 (show (T f n).length ≤ 1000 by omega) (show fs.length ≤ 1000 by omega) [plC P3] (world_T hf n0 hfs)
    have mo' : mkM A.World 3 (f_World_init A) [tb (T f n), .dK (fk fs) (fv fs)] [plC P3] = .ok (.ref 1) [plC P3, wIns A (T f n) fs] := mo
    rw [ev_set, ev_make]
    simp only [ev_acons, ev_anil, ev_var, List.getElem?_cons_succ, List.getElem?_cons_zero, R.bind_ok, kCons_ap, kCons2_ap, mo', kSet_ap, List.set_cons_succ, List.set_cons_zero]
  have sq := sq_T (n := n) hf
  have s9 : mIf (mOpB fNe (mLenO A.World (f_World_len A) (mVar 8)) (mVar 3)) (mRet (mC (.bl false))) mNext [some (.rl (ns.map MV.int)), some (.ref 0), some (.int f), some (.int n), some (.lst (ws.map MV.str)), some (.lst (nm.map MV.str)), some (tb (T f n)), some (.dK (fk fs) (fv fs)), some (.ref 1), none, none, none, none, none, none, none, none] [plC P3, wIns A (T f n) fs] = .ok (.next [some (.rl (ns.map MV.int)), some (.ref 0), some (.int f), some (.int n), some (.lst (ws.map MV.str)), some (.lst (nm.map MV.str)), some (tb (T f n)), some (.dK (fk fs) (fv fs)), some (.ref 1), none, none, none, none, none, none, none, none]) [plC P3, wIns A (T f n) fs] := by
    have hq : [plC P3, wIns A (T f n) fs][1]? = some (wIns A (T f n) fs) := rfl
    have le := len_eq A sq (by omega) hq
    have rl := run_len (m := [plC P3, wIns A (T f n) fs]) (n := n) (by omega)
    simp [ins_w hq, le, rl]
  obtain ⟨P4, hP4⟩ := pool_ex A ns 1 [plC P3, wIns A (T f n) fs]
  have hP4' : f_law_pool A [.rl (ns.map MV.int), .int 1] [plC P3, wIns A (T f n) fs] = .ok (.ref 2) [plC P3, wIns A (T f n) fs, plC P4] := hP4
  have s10 : mSet 9 (mCall 2 (f_law_pool A) (mACons (mVar 0) (mACons (mC (.int 1)) mANil))) [some (.rl (ns.map MV.int)), some (.ref 0), some (.int f), some (.int n), some (.lst (ws.map MV.str)), some (.lst (nm.map MV.str)), some (tb (T f n)), some (.dK (fk fs) (fv fs)), some (.ref 1), none, none, none, none, none, none, none, none] [plC P3, wIns A (T f n) fs] = .ok (.next [some (.rl (ns.map MV.int)), some (.ref 0), some (.int f), some (.int n), some (.lst (ws.map MV.str)), some (.lst (nm.map MV.str)), some (tb (T f n)), some (.dK (fk fs) (fv fs)), some (.ref 1), some (.ref 2), none, none, none, none, none, none, none]) [plC P3, wIns A (T f n) fs, plC P4] := by
    simp only [ev_set, ev_call, ev_acons, ev_anil, ev_var, ev_c, List.getElem?_cons_succ, List.getElem?_cons_zero, R.bind_ok, kCons_ap, kCons2_ap, call2, hP4', kSet_ap, List.set_cons_succ, List.set_cons_zero]
  rw [seq_step s4, seq_step s5, seq_step s6, seq_step s7, seq_step s8, seq_step s9, seq_step s10]
  exact h P3 P4 ws nm fs (by omega) (by omega) hnl hfs hfl

theorem part3 (A : Ad) (ns : List Int) {P P2 : Pl} {f : Int} {n : Nat} {ws nm : List Str} {fs : Fs} (hf : f = 0 ∨ f = 1 ∨ f = 2) (n0 : 0 < n) (n1 : n ≤ 40) (mu : MS) {Q : MV → Mo → Prop} (h : ∀ (P2 : Pl) (o10 o11 o12 : Option MV), Post (finM 0 (mu [some (.rl (ns.map MV.int)), some (.ref 0), some (.int f), some (.int n), some (.lst (ws.map MV.str)), some (.lst (nm.map MV.str)), some (tb (T f n)), some (.dK (fk fs) (fv fs)), some (.ref 1), some (.ref 2), o10, o11, o12, none, none, none, none] [plC P, wIns A (T f n) fs, plC P2])) Q) :
    Post (finM 0 (mSeq (mFor (iRg1 (mC (.int 4))) (gSet 10) (mSeq (mSet 11 (mOp oIx (mLst (mACons (mOp oSub (mVar 3) (mC (.int 1))) (mACons (mCall 2 (f_law_next A) (mACons (mVar 9) (mACons (mVar 3) mANil))) mANil))) (mCall 2 (f_law_next A) (mACons (mVar 9) (mACons (mC (.int 2)) mANil)))))
    (mSeq (mSet 12 (mCall 2 (f_law_next A) (mACons (mVar 9) (mACons (mVar 3) mANil))))
    (mIf (mOrT (mOpB fNe (mMeth A.World "product" 3 (f_World_product A) (mVar 8) (mACons (mVar 11) (mACons (mVar 12) mANil))) (mOp oIx (mOp oIx (mVar 6) (mVar 11)) (mVar 12))) (mOpB fNe (mMeth A.World "product" 3 (f_World_product A) (mVar 8) (mACons (mVar 12) (mACons (mVar 11) mANil))) (mOp oIx (mOp oIx (mVar 6) (mVar 11)) (mVar 12)))) (mRet (mC (.bl false))) mNext)))) mu [some (.rl (ns.map MV.int)), some (.ref 0), some (.int f), some (.int n), some (.lst (ws.map MV.str)), some (.lst (nm.map MV.str)), some (tb (T f n)), some (.dK (fk fs) (fv fs)), some (.ref 1), some (.ref 2), none, none, none, none, none, none, none] [plC P, wIns A (T f n) fs, plC P2])) Q := by
  have nn0 : (0 : Int) < n := by omega
  have nn1 : (n : Int) < 1073741824 := by omega
  have sq := sq_T (n := n) hf
  refine seq_post (Post.mono (P := fun fl m' => ∃ e', fl = MF.next e' ∧ ∃ (P2 : Pl) (o10 o11 o12 : Option MV), e' = [some (.rl (ns.map MV.int)), some (.ref 0), some (.int f), some (.int n), some (.lst (ws.map MV.str)), some (.lst (nm.map MV.str)), some (tb (T f n)), some (.dK (fk fs) (fv fs)), some (.ref 1), some (.ref 2), o10, o11, o12, none, none, none, none] ∧ m' = [plC P, wIns A (T f n) fs, plC P2]) ?_ ?_)
  · have rr := run_rg (m := [plC P, wIns A (T f n) fs, plC P2]) (n := 4) (by omega)
    have rr' : kRg1 (.int 4) [plC P, wIns A (T f n) fs, plC P2] = .ok ((rg 4).map MV.int) [plC P, wIns A (T f n) fs, plC P2] := rr
    rw [ev_for, ev_rg1, ev_c, R.bind_ok, rr', R.bind_ok, kFor_ap]
    refine for_post (fun k e' m' => ∃ (P2 : Pl) (o10 o11 o12 : Option MV), e' = [some (.rl (ns.map MV.int)), some (.ref 0), some (.int f), some (.int n), some (.lst (ws.map MV.str)), some (.lst (nm.map MV.str)), some (tb (T f n)), some (.dK (fk fs) (fv fs)), some (.ref 1), some (.ref 2), o10, o11, o12, none, none, none, none] ∧ m' = [plC P, wIns A (T f n) fs, plC P2]) ⟨P2, none, none, none, rfl, rfl⟩ ?_
    rintro i x e m hx ⟨P2, o10, o11, o12, rfl, rfl⟩
    simp only [List.getElem?_map, Option.map_eq_some_iff] at hx
    obtain ⟨k0, hk0, rfl⟩ := hx
    simp only [List.set_cons_succ, List.set_cons_zero]
    have d0 := nxD_lo (P := P2) nn0
    have d1 := nxD_hi (P := P2) nn0
    have c0 := nxD_lo (P := nxP P2 n) (n := 2) (by decide)
    have c1 := nxD_hi (P := nxP P2 n) (n := 2) (by decide)
    have sA : ∃ (a : Int) (P3 : Pl), 0 ≤ a ∧ a < n ∧ mSet 11 (mOp oIx (mLst (mACons (mOp oSub (mVar 3) (mC (.int 1))) (mACons (mCall 2 (f_law_next A) (mACons (mVar 9) (mACons (mVar 3) mANil))) mANil))) (mCall 2 (f_law_next A) (mACons (mVar 9) (mACons (mC (.int 2)) mANil)))) [some (.rl (ns.map MV.int)), some (.ref 0), some (.int f), some (.int n), some (.lst (ws.map MV.str)), some (.lst (nm.map MV.str)), some (tb (T f n)), some (.dK (fk fs) (fv fs)), some (.ref 1), some (.ref 2), some (.int k0), o11, o12, none, none, none, none] [plC P, wIns A (T f n) fs, plC P2] = .ok (.next [some (.rl (ns.map MV.int)), some (.ref 0), some (.int f), some (.int n), some (.lst (ws.map MV.str)), some (.lst (nm.map MV.str)), some (tb (T f n)), some (.dK (fk fs) (fv fs)), some (.ref 1), some (.ref 2), some (.int k0), some (.int a), o12, none, none, none, none]) [plC P, wIns A (T f n) fs, plC P3] := by
      have nx1 := next2 A P2 (plC P) (wIns A (T f n) fs) nn0 nn1
      have nx2 := next2 A (nxP P2 n) (plC P) (wIns A (T f n) fs) (n := 2) (by decide) (by decide)
      by_cases hc : nxD (nxP P2 n) 2 = 0
      · refine ⟨n - 1, nxP (nxP P2 n) 2, by omega, by omega, ?_⟩
        simp [nx1, nx2, hc]
      · have hc1 : nxD (nxP P2 n) 2 = 1 := by omega
        refine ⟨nxD P2 n, nxP (nxP P2 n) 2, d0, d1, ?_⟩
        simp [nx1, nx2, hc1]
    obtain ⟨a, P3, a0, a1, sA⟩ := sA
    have b0 := nxD_lo (P := P3) nn0
    have b1 := nxD_hi (P := P3) nn0
    have sB : mSet 12 (mCall 2 (f_law_next A) (mACons (mVar 9) (mACons (mVar 3) mANil))) [some (.rl (ns.map MV.int)), some (.ref 0), some (.int f), some (.int n), some (.lst (ws.map MV.str)), some (.lst (nm.map MV.str)), some (tb (T f n)), some (.dK (fk fs) (fv fs)), some (.ref 1), some (.ref 2), some (.int k0), some (.int a), o12, none, none, none, none] [plC P, wIns A (T f n) fs, plC P3] = .ok (.next [some (.rl (ns.map MV.int)), some (.ref 0), some (.int f), some (.int n), some (.lst (ws.map MV.str)), some (.lst (nm.map MV.str)), some (tb (T f n)), some (.dK (fk fs) (fv fs)), some (.ref 1), some (.ref 2), some (.int k0), some (.int a), some (.int (nxD P3 n)), none, none, none, none]) [plC P, wIns A (T f n) fs, plC (nxP P3 n)] := by
      have nx1 := next2 A P3 (plC P) (wIns A (T f n) fs) nn0 nn1
      simp [nx1]
    rw [seq_step sA, seq_step sB]
    generalize nxD P3 n = b at *
    generalize nxP P3 n = P4 at *
    have hq : [plC P, wIns A (T f n) fs, plC P4][1]? = some (wIns A (T f n) fs) := rfl
    have pe1 := prod_eq A sq (by omega) hq a0 a1 b0 b1
    have pe2 := prod_eq A sq (by omega) hq b0 b1 a0 a1
    have x1 := ix_tb A sq (by omega) hq a0 a1
    have x2 := ix_row A sq (by omega) hq a0 a1 b0 b1
    have cm : cel (T f n) b a = cel (T f n) a b := by rw [cel_T b0 b1 a0 a1, cel_T a0 a1 b0 b1, op_comm hf b0 b1 a0 a1]
    have sC : mIf (mOrT (mOpB fNe (mMeth A.World "product" 3 (f_World_product A) (mVar 8) (mACons (mVar 11) (mACons (mVar 12) mANil))) (mOp oIx (mOp oIx (mVar 6) (mVar 11)) (mVar 12))) (mOpB fNe (mMeth A.World "product" 3 (f_World_product A) (mVar 8) (mACons (mVar 12) (mACons (mVar 11) mANil))) (mOp oIx (mOp oIx (mVar 6) (mVar 11)) (mVar 12)))) (mRet (mC (.bl false))) mNext [some (.rl (ns.map MV.int)), some (.ref 0), some (.int f), some (.int n), some (.lst (ws.map MV.str)), some (.lst (nm.map MV.str)), some (tb (T f n)), some (.dK (fk fs) (fv fs)), some (.ref 1), some (.ref 2), some (.int k0), some (.int a), some (.int b), none, none, none, none] [plC P, wIns A (T f n) fs, plC P4] = .ok (.next [some (.rl (ns.map MV.int)), some (.ref 0), some (.int f), some (.int n), some (.lst (ws.map MV.str)), some (.lst (nm.map MV.str)), some (tb (T f n)), some (.dK (fk fs) (fv fs)), some (.ref 1), some (.ref 2), some (.int k0), some (.int a), some (.int b), none, none, none, none]) [plC P, wIns A (T f n) fs, plC P4] := by
      simp [ins_w hq, lk_product, pe1, pe2, x1, x2, cm]
    rw [sC, post_ok]
    exact ⟨_, rfl, P4, _, _, _, rfl, rfl⟩
  · rintro fl m' ⟨e', rfl, P2, o10, o11, o12, rfl, rfl⟩
    exact ⟨_, rfl, h P2 o10 o11 o12⟩
end W76
set_option Elab.async false
set_option linter.all false
set_option maxRecDepth 100000
set_option maxHeartbeats 4000000
namespace W76
open PySem ML L2
theorem call3 {f : MFn} {a b c : MV} {m : Mo} : kCall 3 f [a, b, c] m = f [a, b, c] m := rfl
theorem call4 {f : MFn} {a b c d : MV} {m : Mo} : kCall 4 f [a, b, c, d] m = f [a, b, c, d] m := rfl
theorem call6 {f : MFn} {a b c d g h : MV} {m : Mo} : kCall 6 f [a, b, c, d, g, h] m = f [a, b, c, d, g, h] m := rfl

theorem part4 (A : Ad) (ns : List Int) {P P2 : Pl} {f : Int} {n : Nat} {ws nm : List Str} {fs : Fs} {o10 o11 o12 : Option MV} (hf : f = 0 ∨ f = 1 ∨ f = 2) (n0 : 0 < n) (n1 : n ≤ 40) (hw0 : 0 < ws.length) (hw1 : ws.length ≤ 64) (hnm : nm.length = 24) (hfs : FsOk n fs) (hfl : fs.length ≤ 64) :
    Post (finM 0 (mSeq (mSet 13 (mOp oAdd (mC (.int 1)) (mCall 2 (f_law_next A) (mACons (mVar 9) (mACons (mC (.int 6)) mANil)))))
    (mSeq (mSet 14 (mLc (iRg1 (mVar 13)) (gSet 10) mYes (mCall 2 (f_law_next A) (mACons (mVar 9) (mACons (mOp oIx (mLst (mACons (mC (.int 3)) (mACons (mC (.int 21)) mANil))) (mCB cInt (mACons (mAndV (mOp (oB fEq) (mCall 2 (f_law_next A) (mACons (mVar 9) (mACons (mC (.int 6)) mANil))) (mC (.int 1))) (mOp (oB fLt) (mVar 3) (mC (.int 7)))) mANil))) mANil))) [10]))
    (mSeq (mSet 15 (mLc (iSeq (mVar 14)) (gSet 16) mYes (mCall 3 (f_law_sentence A) (mACons (mVar 9) (mACons (mVar 4) (mACons (mVar 16) mANil)))) [16]))
    (mRet (mAndV (mCall 4 (f_law_spoilt A) (mACons (mVar 9) (mACons (mVar 2) (mACons (mVar 6) (mACons (mVar 7) mANil))))) (mCall 6 (f_law_judged A) (mACons (mVar 9) (mACons (mVar 8) (mACons (mVar 6) (mACons (mVar 7) (mACons (mVar 15) (mACons (mVar 5) mANil)))))))))))
    [some (.rl (ns.map MV.int)), some (.ref 0), some (.int f), some (.int n), some (.lst (ws.map MV.str)), some (.lst (nm.map MV.str)), some (tb (T f n)), some (.dK (fk fs) (fv fs)), some (.ref 1), some (.ref 2), o10, o11, o12, none, none, none, none] [plC P, wIns A (T f n) fs, plC P2])) fun x _ => x = .bl true := by
  have hz : ∀ P, ([plC P, wIns A (T f n) fs, plC P2] : Mo).set 2 (plC P) = [plC P, wIns A (T f n) fs, plC P] := fun P => rfl
  have g0 := nxD_lo (P := P2) (n := 6) (by decide)
  have g1 := nxD_hi (P := P2) (n := 6) (by decide)
  have s1 : mSet 13 (mOp oAdd (mC (.int 1)) (mCall 2 (f_law_next A) (mACons (mVar 9) (mACons (mC (.int 6)) mANil)))) [some (.rl (ns.map MV.int)), some (.ref 0), some (.int f), some (.int n), some (.lst (ws.map MV.str)), some (.lst (nm.map MV.str)), some (tb (T f n)), some (.dK (fk fs) (fv fs)), some (.ref 1), some (.ref 2), o10, o11, o12, none, none, none, none] [plC P, wIns A (T f n) fs, plC P2] = .ok (.next [some (.rl (ns.map MV.int)), some (.ref 0), some (.int f), some (.int n), some (.lst (ws.map MV.str)), some (.lst (nm.map MV.str)), some (tb (T f n)), some (.dK (fk fs) (fv fs)), some (.ref 1), some (.ref 2), o10, o11, o12, some (.int (1 + nxD P2 6)), none, none, none]) [plC P, wIns A (T f n) fs, plC (nxP P2 6)] := by
    simp [next2]
  rw [seq_step s1]
  have hc0 : 0 < 1 + nxD P2 6 := by omega
  have hc1 : 1 + nxD P2 6 ≤ 6 := by omega
  clear g0 g1 s1 hz
  generalize 1 + nxD P2 6 = c at *
  generalize nxP P2 6 = P2 at *
  -- the depths
  refine seq_post ?_
  refine Post.mono (P := fun fl m' => ∃ (ds : List Int) (P2 : Pl), fl = MF.next [some (.rl (ns.map MV.int)), some (.ref 0), some (.int f), some (.int n), some (.lst (ws.map MV.str)), some (.lst (nm.map MV.str)), some (tb (T f n)), some (.dK (fk fs) (fv fs)), some (.ref 1), some (.ref 2), o10, o11, o12, some (.int c), some (.lst (ds.map MV.int)), none, none] ∧ m' = [plC P, wIns A (T f n) fs, plC P2] ∧ ds.length = c.toNat ∧ ∀ d ∈ ds, 0 ≤ d ∧ d ≤ 20) ?_ ?_
  · rw [ev_set, ev_lc, ev_rg1, ev_var]
    simp only [List.getElem?_cons_succ, List.getElem?_cons_zero, R.bind_ok]
    rw [run_rgi (by omega) (by omega), R.bind_ok, kLc_ap, if_pos (by rw [List.length_map, rg_length]; omega)]
    simp only [mwipe, List.foldl, List.set_cons_succ, List.set_cons_zero]
    refine Post.bind (Post.bind (Post.nox (Post.mono (each_post (fun m => ∃ P2, m = [plC P, wIns A (T f n) fs, plC P2]) (fun x y => ∃ d : Int, y = .int d ∧ 0 ≤ d ∧ d ≤ 20) ⟨P2, rfl⟩ ?_) ?_)))
    · rintro x hx m ⟨P2, rfl⟩
      obtain ⟨k0, _, rfl⟩ := List.mem_map.mp hx
      have nx1 := next2 A P2 (plC P) (wIns A (T f n) fs) (n := 6) (by decide) (by decide)
      simp only [List.set_cons_succ, List.set_cons_zero]
      have key : ∀ b : Int, b = 3 ∨ b = 21 → Post (f_law_next A [.ref 2, .int b] [plC P, wIns A (T f n) fs, plC (nxP P2 6)]) fun y m2 => (∃ d : Int, y = .int d ∧ 0 ≤ d ∧ d ≤ 20) ∧ ∃ P2, m2 = [plC P, wIns A (T f n) fs, plC P2] := by
        intro b hb
        have b0 : (0 : Int) < b := by omega
        have nx2 := next2 A (nxP P2 6) (plC P) (wIns A (T f n) fs) b0 (by omega)
        have d0 := nxD_lo (P := nxP P2 6) b0
        have d1 := nxD_hi (P := nxP P2 6) b0
        rw [nx2]
        exact post_ok.mpr ⟨⟨_, rfl, d0, by omega⟩, _, rfl⟩
      refine Post.hide fun Q1 hQ1 => ?_
      have k3 := Post.mono (key 3 (.inl rfl)) hQ1
      have k21 := Post.mono (key 21 (.inr rfl)) hQ1
      by_cases h1 : nxD P2 6 = 1
      · by_cases h2 : (n : Int) < 7
        · simp [nx1, h1, fLt, h2]
          exact k21
        · simp [nx1, h1, fLt, h2]
          exact k3
      · simp [nx1, h1]
        exact k3
    · rintro ys m ⟨⟨P2, rfl⟩, all⟩
      obtain ⟨ds, rfl, al2⟩ := all2_map (g := MV.int) (Q := fun _ d => 0 ≤ d ∧ d ≤ 20) all
      simp only [kLc2_ap, post_ok, kSet_ap, List.set_cons_succ, List.set_cons_zero]
      refine ⟨ds, P2, rfl, rfl, ?_, fun d hd => ?_⟩
      · have := all2_len al2
        rw [List.length_map, rg_length] at this
        exact this
      · obtain ⟨x, _, q⟩ := all2_mem al2 d hd
        exact q
  · rintro fl m' ⟨ds, P2, rfl, rfl, hdl, hds⟩
    refine ⟨_, rfl, ?_⟩
    -- the sentences
    refine seq_post ?_
    refine Post.mono (P := fun fl m' => ∃ (ss : List Sen) (P2 : Pl), fl = MF.next [some (.rl (ns.map MV.int)), some (.ref 0), some (.int f), some (.int n), some (.lst (ws.map MV.str)), some (.lst (nm.map MV.str)), some (tb (T f n)), some (.dK (fk fs) (fv fs)), some (.ref 1), some (.ref 2), o10, o11, o12, some (.int c), some (.lst (ds.map MV.int)), some (.lst (ss.map Sen.mv)), none] ∧ m' = [plC P, wIns A (T f n) fs, plC P2] ∧ ss.length = c.toNat ∧ ∀ s ∈ ss, s.nest ≤ 20) ?_ ?_
    · have k2 : kISeq (.lst (ds.map MV.int)) [plC P, wIns A (T f n) fs, plC P2] = .ok (ds.map MV.int) [plC P, wIns A (T f n) fs, plC P2] := rfl
      rw [ev_set, ev_lc, ev_iseq, ev_var]
      simp only [List.getElem?_cons_succ, List.getElem?_cons_zero, R.bind_ok, k2]
      rw [kLc_ap, if_pos (by rw [List.length_map]; omega)]
      simp only [mwipe, List.foldl, List.set_cons_succ, List.set_cons_zero]
      refine Post.bind (Post.bind (Post.nox (Post.mono (each_post (fun m => ∃ P2, m = [plC P, wIns A (T f n) fs, plC P2]) (fun x y => ∃ s : Sen, y = s.mv ∧ s.nest ≤ 20) ⟨P2, rfl⟩ ?_) ?_)))
      · rintro x hx m ⟨P2, rfl⟩
        obtain ⟨d, hd, rfl⟩ := List.mem_map.mp hx
        obtain ⟨d0, d1⟩ := hds d hd
        obtain ⟨y, m2, e, s, P3, rfl, rfl, hs⟩ := sentence_ex A (m0 := [plC P, wIns A (T f n) fs, plC P2]) (p := 2) (P := P2) (n := d) (ws := ws) (by simp) hw0 hw1 d0 d1
        have e' : f_law_sentence A [.ref 2, .lst (ws.map MV.str), .int d] [plC P, wIns A (T f n) fs, plC P2] = .ok s.mv [plC P, wIns A (T f n) fs, plC P3] := e
        refine ⟨s.mv, [plC P, wIns A (T f n) fs, plC P3], ?_, ⟨s, rfl, hs⟩, P3, rfl⟩
        simp only [ev_call, ev_acons, ev_anil, ev_var, List.set_cons_succ, List.set_cons_zero, List.getElem?_cons_succ, List.getElem?_cons_zero, R.bind_ok, kCons_ap, kCons2_ap, call3, e']
      · rintro ys m ⟨⟨P2, rfl⟩, all⟩
        obtain ⟨ss, rfl, al2⟩ := all2_map (g := Sen.mv) (Q := fun _ s => s.nest ≤ 20) all
        simp only [kLc2_ap, post_ok, kSet_ap, List.set_cons_succ, List.set_cons_zero]
        refine ⟨ss, P2, rfl, rfl, ?_, fun s hs => ?_⟩
        · have := all2_len al2
          rw [List.length_map] at this
          omega
        · obtain ⟨x, _, q⟩ := all2_mem al2 s hs
          exact q
    · rintro fl m' ⟨ss, P2, rfl, rfl, hsl, hss⟩
      refine ⟨_, rfl, ?_⟩
      obtain ⟨x, m2, e, rfl, P3, rfl⟩ := spoilt_ex A (m0 := [plC P, wIns A (T f n) fs, plC P2]) (p := 2) (P := P2) (form := f) (fs := fs) (by simp) hf n0 n1 hfs hfl
      have e' : f_law_spoilt A [.ref 2, .int f, tb (T f n), .dK (fk fs) (fv fs)] [plC P, wIns A (T f n) fs, plC P2] = .ok (.bl true) [plC P, wIns A (T f n) fs, plC P3] := e
      obtain ⟨y, m3, e2, rfl⟩ := judged_eq A (m0 := [plC P, wIns A (T f n) fs, plC P3]) (p := 2) (q := 1) (P := P3) (n := n) (rows := T f n) (fs := fs) (ss := ss) (names := nm) (by simp) (by decide) rfl (sq_T hf) n0 (by omega) (by omega) (by omega) (fun s hs => by have := hss s hs; omega) hnm
      have e2' : f_law_judged A [.ref 2, .ref 1, tb (T f n), .dK (fk fs) (fv fs), .lst (ss.map Sen.mv), .lst (nm.map MV.str)] [plC P, wIns A (T f n) fs, plC P3] = .ok (.bl true) m3 := e2
      have r : mRet (mAndV (mCall 4 (f_law_spoilt A) (mACons (mVar 9) (mACons (mVar 2) (mACons (mVar 6) (mACons (mVar 7) mANil))))) (mCall 6 (f_law_judged A) (mACons (mVar 9) (mACons (mVar 8) (mACons (mVar 6) (mACons (mVar 7) (mACons (mVar 15) (mACons (mVar 5) mANil)))))))) [some (.rl (ns.map MV.int)), some (.ref 0), some (.int f), some (.int n), some (.lst (ws.map MV.str)), some (.lst (nm.map MV.str)), some (tb (T f n)), some (.dK (fk fs) (fv fs)), some (.ref 1), some (.ref 2), o10, o11, o12, some (.int c), some (.lst (ds.map MV.int)), some (.lst (ss.map Sen.mv)), none] [plC P, wIns A (T f n) fs, plC P2] = .ok (.ret (.bl true)) m3 := by
        simp only [ev_ret, ev_andV, ev_call, ev_acons, ev_anil, ev_var, List.getElem?_cons_succ, List.getElem?_cons_zero, R.bind_ok, kCons_ap, kCons2_ap, call4, call6, e', e2', kAndV_0, kRet_ap]
      rw [r]
      exact post_ok.mpr rfl
theorem law_eq (A : Ad) (ns : List Int) : ∃ m', f_law A [.rl (ns.map MV.int)] [] = .ok (.bl true) m' := by
  have : Post (f_law A [.rl (ns.map MV.int)] []) fun x _ => x = .bl true := by
    unfold f_law b_law
    rw [body_ap]
    refine part1 A ns _ fun P f n hf n0 n1 => ?_
    refine part2 A ns hf n0 n1 _ fun P P2 ws nm fs hw0 hw1 hnm hfs hfl => ?_
    refine part3 A ns hf n0 n1 _ fun P2 o10 o11 o12 => ?_
    exact part4 A ns hf n0 n1 hw0 hw1 hnm hfs hfl
  obtain ⟨x, m, e, rfl⟩ := this
  exact ⟨m, e⟩
end W76
set_option Elab.async false
set_option linter.all false
set_option maxRecDepth 100000
set_option maxHeartbeats 2000000
/-! the end over a head by facts -/
namespace ML
open PySem PySem.Spec PyProof.Rows L2
theorem walkE {l : PySem.W.OpenLaw} {n k : Nat} {q : Program} {loose : List Str} {XP : (Str → Option Value) → Heap → Prop} {YP : World → Heap → Prop} {d : DefRec} {x : Str}
    (hn : l.most = some n) (hn2 : n ≤ sizeLine) (hdf : d.params.defaults = []) (hr : Room k callerA)
    (F : ∀ (w : World) (mg : Str → Option Value) (fa : Addr) (h : Heap), YP w h → h.Ns mainGlobals mg → mg d.name = some (.ref fa) →
      ∃ (K : PySem.W.Frag) (fd : FuncData) (call : MFn), K.In h ∧ (∀ (s : Shared) (u : Value), BindsTo s fd ⟨[u], []⟩ [(x, u)]) ∧ (∀ base : Heap, K.In base → base.Ns mainGlobals mg → FnG l.prog w K mg base k fa fd [x] call) ∧
        ∀ ns : List Int, ns.length ≤ n → ∃ m', call [.rl (ns.map MV.int)] [] = .ok (.bl true) m') :
    PySem.W.WalkO q loose XP YP l.row.toRowW d [] (fun f vs => PySem.call f vs) := by
  refine Att.attach_call hn hdf fun w s₀ s₁ mg mb fa o pm cd doc a vs ns G Y ho hd hcd hmg hobj hints hlen hg => ?_
  obtain ⟨K, fd, call, KX, hb, hF, hlaw⟩ := F w mg fa _ Y G.T.g hmg
  exact law_runG KX G.T.g G.T.b G.T.builtins G.T.nolimit hg hobj hints (Nat.le_trans hlen hn2) hr hF hb (hlaw ns hlen)
/-! ### facts -/
def oexB (K : PySem.W.Frag) (C : Addr) : Bool := match K.lookup C with
  | some ⟨.type "type", _, .cls cd, sl⟩ => (match cd.mro, sl.toList with
    | .ref C' :: bm, [_, _, _, _, some (.builtin n), _] => C' == C && n == "ValueError.__new__" && !cd.hasDel && cd.hasDict && PySem.HandSPX.refsVE bm
    | _, _ => false)
  | _ => false
def oexA (K : PySem.W.Frag) (C : Addr) : Bool := oexB K C && (decide (PySem.W.findIn K (.ref C) "__setattr__" = some (some (.builtin "object.__setattr__"))) && (decide (PySem.W.subIn K (.ref C) (.type "BaseException") = some true) && (decide (PySem.W.typeIn K (.ref C) = some (.type "type")) && PySem.W.keepIn K (.ref C))))
theorem oexA_ok {K : PySem.W.Frag} {C : Addr} (h : oexA K C = true) : OexC K C := by
  obtain ⟨h1, h⟩ := Bool.and_eq_true_iff.mp h
  obtain ⟨h2, h⟩ := Bool.and_eq_true_iff.mp h
  obtain ⟨h3, h⟩ := Bool.and_eq_true_iff.mp h
  obtain ⟨h4, h5⟩ := Bool.and_eq_true_iff.mp h
  refine ⟨?_, of_decide_eq_true h2, of_decide_eq_true h3, of_decide_eq_true h4, h5⟩
  unfold oexB at h1
  split at h1
  · rename_i dd cd sl ho
    split at h1
    · rename_i C' bm k0 k1 k2 k3 n k5 hm hs
      simp only [Bool.and_eq_true, beq_iff_eq, Bool.not_eq_true'] at h1
      obtain ⟨⟨⟨⟨rfl, rfl⟩, hdel⟩, hdd⟩, ht⟩ := h1
      obtain ⟨nm, bs, mro, ns, qn, hd, sn, sub, ab, col, del⟩ := cd
      dsimp only at hm hdel hdd
      subst hm hdel hdd
      have hsl : sl = #[k0, k1, k2, k3, some (.builtin "ValueError.__new__"), k5] := by
        obtain ⟨l⟩ := sl
        simp only at hs
        rw [hs]
      subst hsl
      exact ⟨nm, qn, ns, bs, bm, sn, sub, ab, col, dd, k0, k1, k2, k3, k5, ho, ht⟩
    · cases h1
  · cases h1
theorem Fun.ofD {K : PySem.W.Frag} {x qual : Str} {st : Stmt} {f : Addr} {fd : FuncData} (F : FunD K x qual (defArgs st) (defBody st) (defScope st) [] [] f fd) : Fun K x qual st f fd := by
  obtain ⟨oc, od, dV, kV, doc, pm, an, cdv, ct, osl, rfl, lk, hcd, hd, _⟩ := F.ex
  rcases hd with ⟨_, rfl⟩ | ⟨h, _⟩
  · exact ⟨⟨oc, od, kV, doc, pm, an, cdv, ct, osl, rfl, lk, hcd⟩, F.kp⟩
  · exact absurd rfl h
theorem ex_at {l : List (PySem.W.Frag → Bool)} {K : PySem.W.Frag} (h : (l.all fun b => b K) = true) (i : Nat) {b : PySem.W.Frag → Bool} (e : l[i]? = some b := by rfl) : b K = true := List.all_eq_true.mp h b (List.mem_of_getElem? e)
def exmB (C D : Str) (b : Bool) (K : PySem.W.Frag) : Bool := decide (PySem.W.exmOne K (.ref (He.ga K C)) (.ref (He.ga K D)) = some b)
theorem exmB_ok {C D : Str} {b : Bool} {K : PySem.W.Frag} (h : exmB C D b K = true) : PySem.W.exmOne K (.ref (He.ga K C)) (.ref (He.ga K D)) = some b := of_decide_eq_true h
def fclsB (K : PySem.W.Frag) (C : Addr) : Bool := match PySem.W.findCls K (.ref C) (.type "type") "__init__" with
  | some (.val (.builtin n)) => n == "ValueError.__init__"
  | _ => false
theorem of_fclsB {K : PySem.W.Frag} {C : Addr} (h : fclsB K C = true) : PySem.W.findCls K (.ref C) (.type "type") "__init__" = some (.val (.builtin "ValueError.__init__")) := by
  unfold fclsB at h
  split at h
  · rename_i n e
    rw [e, beq_iff_eq.mp h]
  · cases h
/-! ### the Hook -/
def KM (n : Nat) (g : Addr → Option Obj) : PySem.W.Frag := He.frG g (He.asD g n ++ [cStatics, sysModules])
structure SaysM (fa : List He.Fa) (fn : List He.DefD) (ts : List He.Tab) (ex : PySem.W.Frag → Bool) (w : World) (K : PySem.W.Frag) : Prop where
  t : He.SaysT fa fn ts w K
  more : ex K = true
abbrev AlM : Type := He.AlT × Bool
def obsM (n : Nat) (fa : List He.Fa) (fn : List He.DefD) (ts : List He.Tab) (ex : PySem.W.Frag → Bool) (g : Addr → Option Obj) : AlM := (He.obsT fa fn ts (KM n g), ex (KM n g))
def valM (fn : List He.DefD) (ts : List He.Tab) (w : World) : AlM := (He.valT fn ts w, true)
def hookM (n : Nat) (fa : List He.Fa) (fn : List He.DefD) (ts : List He.Tab) (ex : PySem.W.Frag → Bool) : PySem.W.Hook where
  α := AlM
  obs := fun s => obsM n fa fn ts ex s.heap.get?
  val := fun w => valM fn ts w
  says := fun w h => ∃ K : PySem.W.Frag, K.In h ∧ SaysM fa fn ts ex w K
  of := fun _ _ e => ⟨_, He.frG_in, ⟨congrArg (fun z : AlM => z.1) e, congrArg (fun z : AlM => z.2) e⟩⟩
  keeps := fun _ _ _ ⟨K, hK, c⟩ k => ⟨K, PySem.W.Frag.In.keeps hK k, c⟩
theorem obsM_eq {n : Nat} {fa : List He.Fa} {fn : List He.DefD} {ts : List He.Tab} {ex : PySem.W.Frag → Bool} {g : Addr → Option Obj} {s : Shared} (h : ∀ a, g a = s.heap.get? a) : obsM n fa fn ts ex g = (hookM n fa fn ts ex).obs s := by
  have e : g = s.heap.get? := funext h
  rw [e] <;> rfl
end ML
set_option Elab.async false
set_option linter.all false
set_option maxRecDepth 100000
set_option maxHeartbeats 0
namespace W76
open PySem PySem.Spec PyProof.Rows L2 ML
def hfa : List He.Fa := [.glo "sides", .glo "is_all_once", .glo "is_claim_once", .glo "has_shape", .glo "keeps_order", .glo "keeps_grouping", .glo "fault_of", .glo "is_true_for", .meth "World" "__len__", .meth "World" "product", .meth "World" "_truths", .meth "World" "has", .meth "World" "fails", .glo "_law_cell", .glo "_law_pool", .glo "_law_next", .glo "_law_names", .glo "_law_product", .glo "_law_table", .glo "_law_facts", .glo "_law_sentence", .glo "_law_true", .glo "_law_refused", .glo "_law_spoilt", .glo "_law_picks", .glo "_law_places", .glo "_law_judged", .glo "law", .glo "HeldError", .glo "BadWorld", .noat "BadWorld" "reason", .glo "NotOnce", .glo "World", .cls "World", .mkr "World", .noat "World" "_facts", .noat "World" "_products", .free "abs", .free "int", .free "len", .free "list", .free "max", .free "min", .free "range", .free "repr", .free "str", .free "tuple"]
def hfn : List He.DefD := [⟨("BadWorld", some "__init__"), "__init__", "BadWorld.__init__", defArgs s_BadWorld_init, defBody s_BadWorld_init, defScope s_BadWorld_init, [], []⟩,
  ⟨("sides", none), "sides", "sides", defArgs s_sides, defBody s_sides, defScope s_sides, [], []⟩,
  ⟨("is_all_once", none), "is_all_once", "is_all_once", defArgs s_is_all_once, defBody s_is_all_once, defScope s_is_all_once, [], []⟩,
  ⟨("is_claim_once", none), "is_claim_once", "is_claim_once", defArgs s_is_claim_once, defBody s_is_claim_once, defScope s_is_claim_once, [], []⟩,
  ⟨("has_shape", none), "has_shape", "has_shape", defArgs s_has_shape, defBody s_has_shape, defScope s_has_shape, [], []⟩,
  ⟨("keeps_order", none), "keeps_order", "keeps_order", defArgs s_keeps_order, defBody s_keeps_order, defScope s_keeps_order, [], []⟩,
  ⟨("keeps_grouping", none), "keeps_grouping", "keeps_grouping", defArgs s_keeps_grouping, defBody s_keeps_grouping, defScope s_keeps_grouping, [], []⟩,
  ⟨("fault_of", none), "fault_of", "fault_of", defArgs s_fault_of, defBody s_fault_of, defScope s_fault_of, [], []⟩,
  ⟨("is_true_for", none), "is_true_for", "is_true_for", defArgs s_is_true_for, defBody s_is_true_for, defScope s_is_true_for, [], []⟩,
  ⟨("World", some "__init__"), "__init__", "World.__init__", defArgs s_World_init, defBody s_World_init, defScope s_World_init, [], []⟩,
  ⟨("World", some "__len__"), "__len__", "World.__len__", defArgs s_World_len, defBody s_World_len, defScope s_World_len, [], []⟩,
  ⟨("World", some "product"), "product", "World.product", defArgs s_World_product, defBody s_World_product, defScope s_World_product, [], []⟩,
  ⟨("World", some "_truths"), "_truths", "World._truths", defArgs s_World__truths, defBody s_World__truths, defScope s_World__truths, [], []⟩,
  ⟨("World", some "has"), "has", "World.has", defArgs s_World_has, defBody s_World_has, defScope s_World_has, [], []⟩,
  ⟨("World", some "fails"), "fails", "World.fails", defArgs s_World_fails, defBody s_World_fails, defScope s_World_fails, [], []⟩,
  ⟨("_law_cell", none), "_law_cell", "_law_cell", defArgs s_law_cell, defBody s_law_cell, defScope s_law_cell, [], []⟩,
  ⟨("_law_pool", none), "_law_pool", "_law_pool", defArgs s_law_pool, defBody s_law_pool, defScope s_law_pool, [], []⟩,
  ⟨("_law_next", none), "_law_next", "_law_next", defArgs s_law_next, defBody s_law_next, defScope s_law_next, [], []⟩,
  ⟨("_law_names", none), "_law_names", "_law_names", defArgs s_law_names, defBody s_law_names, defScope s_law_names, [], []⟩,
  ⟨("_law_product", none), "_law_product", "_law_product", defArgs s_law_product, defBody s_law_product, defScope s_law_product, [], []⟩,
  ⟨("_law_table", none), "_law_table", "_law_table", defArgs s_law_table, defBody s_law_table, defScope s_law_table, [], []⟩,
  ⟨("_law_facts", none), "_law_facts", "_law_facts", defArgs s_law_facts, defBody s_law_facts, defScope s_law_facts, [], []⟩,
  ⟨("_law_sentence", none), "_law_sentence", "_law_sentence", defArgs s_law_sentence, defBody s_law_sentence, defScope s_law_sentence, [], []⟩,
  ⟨("_law_true", none), "_law_true", "_law_true", defArgs s_law_true, defBody s_law_true, defScope s_law_true, [], []⟩,
  ⟨("_law_refused", none), "_law_refused", "_law_refused", defArgs s_law_refused, defBody s_law_refused, defScope s_law_refused, [], []⟩,
  ⟨("_law_spoilt", none), "_law_spoilt", "_law_spoilt", defArgs s_law_spoilt, defBody s_law_spoilt, defScope s_law_spoilt, [], []⟩,
  ⟨("_law_picks", none), "_law_picks", "_law_picks", defArgs s_law_picks, defBody s_law_picks, defScope s_law_picks, [], []⟩,
  ⟨("_law_places", none), "_law_places", "_law_places", defArgs s_law_places, defBody s_law_places, defScope s_law_places, [], []⟩,
  ⟨("_law_judged", none), "_law_judged", "_law_judged", defArgs s_law_judged, defBody s_law_judged, defScope s_law_judged, [], []⟩,
  ⟨("law", none), "law", "law", defArgs s_law, defBody s_law, defScope s_law, [], []⟩]
def hex : List (PySem.W.Frag → Bool) := [fun K => PySem.W.readsIn K (He.ga K "HeldError") (.type "type"),
  fun K => decide (PySem.W.specialIn K (.ref (He.ga K "HeldError")) "__getattribute__" = some (some (.builtin "type.__getattribute__"))),
  fun K => fclsB K (He.ga K "HeldError"),
  fun K => oexA K (He.ga K "BadWorld"),
  fun K => decide (PySem.W.findIn K (.ref (He.ga K "BadWorld")) "__init__" = some (some (.ref (He.fAd K ("BadWorld", some "__init__"))))),
  fun K => decide (PySem.W.typeIn K (.ref (He.fAd K ("BadWorld", some "__init__"))) = some (.type "function")),
  fun K => xfB K (He.ga K "BadWorld"),
  exmB "BadWorld" "BadWorld" true]
def exAll (K : PySem.W.Frag) : Bool := hex.all fun b => b K
abbrev HR : PySem.W.OpenRow := PySem.W.OpenLaw.row PySem.Challenge.rw_heldproofs_k76_seam_large_worlds
def hnames0 : List Str := ["HeldError", "BadWorld", "NotOnce", "sides", "is_all_once", "is_claim_once", "has_shape", "keeps_order", "keeps_grouping", "fault_of", "is_true_for", "World", "_law_cell", "_law_pool", "_law_next", "_law_names", "_law_product", "_law_table", "_law_facts", "_law_sentence", "_law_true", "_law_refused", "_law_spoilt", "_law_picks", "_law_places", "_law_judged"]
def hnames : List Str := hnames0
abbrev hk : PySem.W.Hook := ML.hookM 5 hfa hfn [] exAll
def hob (s : PySem.W.SharedT) : ML.AlM := ML.obsM 5 hfa hfn [] exAll (HandSHeadRun.getT s)
theorem hob_eq (s : PySem.W.SharedT) : hob s = hk.obs s.abs := ML.obsM_eq (HandSHeadRun.getT_eq s)
theorem hrun (w : World) : HandSHeadRun.RunEq HR (PySem.W.view HR.prog [30]) hk hob 4000 hnames w := by
  intro os
  kernel_rfl
theorem top_of {K : PySem.W.Frag} {h : Heap} {w : World} {mg : Str → Option Value} (X : K.In h) (G : h.Ns mainGlobals mg) (c : ML.SaysM hfa hfn [] exAll w K) : ∃ A : Ad, Top K mg A ∧ ∀ (s : Shared) (v : Value), BindsTo s A.d_law ⟨[v], []⟩ [("script", v)] := by
  have fct := fun i {f : He.Fa} (e : hfa[i]? = some f) => c.t.d.fact i (f := f) e
  have exx := fun i {b : PySem.W.Frag → Bool} (e : hex[i]? = some b) => ex_at (l := hex) c.more i (b := b) e
  obtain ⟨D0, F0⟩ := c.t.d.def_ 0 rfl
  obtain ⟨D1, F1⟩ := c.t.d.def_ 1 rfl
  obtain ⟨D2, F2⟩ := c.t.d.def_ 2 rfl
  obtain ⟨D3, F3⟩ := c.t.d.def_ 3 rfl
  obtain ⟨D4, F4⟩ := c.t.d.def_ 4 rfl
  obtain ⟨D5, F5⟩ := c.t.d.def_ 5 rfl
  obtain ⟨D6, F6⟩ := c.t.d.def_ 6 rfl
  obtain ⟨D7, F7⟩ := c.t.d.def_ 7 rfl
  obtain ⟨D8, F8⟩ := c.t.d.def_ 8 rfl
  obtain ⟨D9, F9⟩ := c.t.d.def_ 9 rfl
  obtain ⟨D10, F10⟩ := c.t.d.def_ 10 rfl
  obtain ⟨D11, F11⟩ := c.t.d.def_ 11 rfl
  obtain ⟨D12, F12⟩ := c.t.d.def_ 12 rfl
  obtain ⟨D13, F13⟩ := c.t.d.def_ 13 rfl
  obtain ⟨D14, F14⟩ := c.t.d.def_ 14 rfl
  obtain ⟨D15, F15⟩ := c.t.d.def_ 15 rfl
  obtain ⟨D16, F16⟩ := c.t.d.def_ 16 rfl
  obtain ⟨D17, F17⟩ := c.t.d.def_ 17 rfl
  obtain ⟨D18, F18⟩ := c.t.d.def_ 18 rfl
  obtain ⟨D19, F19⟩ := c.t.d.def_ 19 rfl
  obtain ⟨D20, F20⟩ := c.t.d.def_ 20 rfl
  obtain ⟨D21, F21⟩ := c.t.d.def_ 21 rfl
  obtain ⟨D22, F22⟩ := c.t.d.def_ 22 rfl
  obtain ⟨D23, F23⟩ := c.t.d.def_ 23 rfl
  obtain ⟨D24, F24⟩ := c.t.d.def_ 24 rfl
  obtain ⟨D25, F25⟩ := c.t.d.def_ 25 rfl
  obtain ⟨D26, F26⟩ := c.t.d.def_ 26 rfl
  obtain ⟨D27, F27⟩ := c.t.d.def_ 27 rfl
  obtain ⟨D28, F28⟩ := c.t.d.def_ 28 rfl
  obtain ⟨D29, F29⟩ := c.t.d.def_ 29 rfl
  exact ⟨{ HeldError := He.ga K "HeldError", BadWorld := He.ga K "BadWorld", NotOnce := He.ga K "NotOnce", World := He.ga K "World", f_BadWorld_init := He.fAd K ("BadWorld", some "__init__"), d_BadWorld_init := D0, f_sides := He.fAd K ("sides", none), d_sides := D1, f_is_all_once := He.fAd K ("is_all_once", none), d_is_all_once := D2, f_is_claim_once := He.fAd K ("is_claim_once", none), d_is_claim_once := D3, f_has_shape := He.fAd K ("has_shape", none), d_has_shape := D4, f_keeps_order := He.fAd K ("keeps_order", none), d_keeps_order := D5, f_keeps_grouping := He.fAd K ("keeps_grouping", none), d_keeps_grouping := D6, f_fault_of := He.fAd K ("fault_of", none), d_fault_of := D7, f_is_true_for := He.fAd K ("is_true_for", none), d_is_true_for := D8, f_World_init := He.fAd K ("World", some "__init__"), d_World_init := D9, f_World_len := He.fAd K ("World", some "__len__"), d_World_len := D10, f_World_product := He.fAd K ("World", some "product"), d_World_product := D11, f_World__truths := He.fAd K ("World", some "_truths"), d_World__truths := D12, f_World_has := He.fAd K ("World", some "has"), d_World_has := D13, f_World_fails := He.fAd K ("World", some "fails"), d_World_fails := D14, f_law_cell := He.fAd K ("_law_cell", none), d_law_cell := D15, f_law_pool := He.fAd K ("_law_pool", none), d_law_pool := D16, f_law_next := He.fAd K ("_law_next", none), d_law_next := D17, f_law_names := He.fAd K ("_law_names", none), d_law_names := D18, f_law_product := He.fAd K ("_law_product", none), d_law_product := D19, f_law_table := He.fAd K ("_law_table", none), d_law_table := D20, f_law_facts := He.fAd K ("_law_facts", none), d_law_facts := D21, f_law_sentence := He.fAd K ("_law_sentence", none), d_law_sentence := D22, f_law_true := He.fAd K ("_law_true", none), d_law_true := D23, f_law_refused := He.fAd K ("_law_refused", none), d_law_refused := D24, f_law_spoilt := He.fAd K ("_law_spoilt", none), d_law_spoilt := D25, f_law_picks := He.fAd K ("_law_picks", none), d_law_picks := D26, f_law_places := He.fAd K ("_law_places", none), d_law_places := D27, f_law_judged := He.fAd K ("_law_judged", none), d_law_judged := D28, f_law := He.fAd K ("law", none), d_law := D29 },
    { F_BadWorld_init := Fun.ofD (st := s_BadWorld_init) F0,
      b_BadWorld_init := (Fun.ofD (st := s_BadWorld_init) F0).binds (ps := ["self", "reason"]) fun _ _ _ _ _ _ us hl => match us, hl with | [_, _], _ => rfl,
      F_sides := Fun.ofD (st := s_sides) F1,
      b_sides := (Fun.ofD (st := s_sides) F1).binds (ps := ["sentence"]) fun _ _ _ _ _ _ us hl => match us, hl with | [_], _ => rfl,
      m_sides := He.glo_ok X G (fct 0 rfl),
      F_is_all_once := Fun.ofD (st := s_is_all_once) F2,
      b_is_all_once := (Fun.ofD (st := s_is_all_once) F2).binds (ps := ["sentence"]) fun _ _ _ _ _ _ us hl => match us, hl with | [_], _ => rfl,
      m_is_all_once := He.glo_ok X G (fct 1 rfl),
      F_is_claim_once := Fun.ofD (st := s_is_claim_once) F3,
      b_is_claim_once := (Fun.ofD (st := s_is_claim_once) F3).binds (ps := ["claim"]) fun _ _ _ _ _ _ us hl => match us, hl with | [_], _ => rfl,
      m_is_claim_once := He.glo_ok X G (fct 2 rfl),
      F_has_shape := Fun.ofD (st := s_has_shape) F4,
      b_has_shape := (Fun.ofD (st := s_has_shape) F4).binds (ps := ["products"]) fun _ _ _ _ _ _ us hl => match us, hl with | [_], _ => rfl,
      m_has_shape := He.glo_ok X G (fct 3 rfl),
      F_keeps_order := Fun.ofD (st := s_keeps_order) F5,
      b_keeps_order := (Fun.ofD (st := s_keeps_order) F5).binds (ps := ["products"]) fun _ _ _ _ _ _ us hl => match us, hl with | [_], _ => rfl,
      m_keeps_order := He.glo_ok X G (fct 4 rfl),
      F_keeps_grouping := Fun.ofD (st := s_keeps_grouping) F6,
      b_keeps_grouping := (Fun.ofD (st := s_keeps_grouping) F6).binds (ps := ["products"]) fun _ _ _ _ _ _ us hl => match us, hl with | [_], _ => rfl,
      m_keeps_grouping := He.glo_ok X G (fct 5 rfl),
      F_fault_of := Fun.ofD (st := s_fault_of) F7,
      b_fault_of := (Fun.ofD (st := s_fault_of) F7).binds (ps := ["products", "facts"]) fun _ _ _ _ _ _ us hl => match us, hl with | [_, _], _ => rfl,
      m_fault_of := He.glo_ok X G (fct 6 rfl),
      F_is_true_for := Fun.ofD (st := s_is_true_for) F8,
      b_is_true_for := (Fun.ofD (st := s_is_true_for) F8).binds (ps := ["truths", "row", "givers"]) fun _ _ _ _ _ _ us hl => match us, hl with | [_, _, _], _ => rfl,
      m_is_true_for := He.glo_ok X G (fct 7 rfl),
      F_World_init := Fun.ofD (st := s_World_init) F9,
      b_World_init := (Fun.ofD (st := s_World_init) F9).binds (ps := ["self", "products", "facts"]) fun _ _ _ _ _ _ us hl => match us, hl with | [_, _, _], _ => rfl,
      F_World_len := Fun.ofD (st := s_World_len) F10,
      b_World_len := (Fun.ofD (st := s_World_len) F10).binds (ps := ["self"]) fun _ _ _ _ _ _ us hl => match us, hl with | [_], _ => rfl,
      h_World_len := He.meth_ok (fct 8 rfl),
      F_World_product := Fun.ofD (st := s_World_product) F11,
      b_World_product := (Fun.ofD (st := s_World_product) F11).binds (ps := ["self", "a", "b"]) fun _ _ _ _ _ _ us hl => match us, hl with | [_, _, _], _ => rfl,
      h_World_product := He.meth_ok (fct 9 rfl),
      F_World__truths := Fun.ofD (st := s_World__truths) F12,
      b_World__truths := (Fun.ofD (st := s_World__truths) F12).binds (ps := ["self", "sentence"]) fun _ _ _ _ _ _ us hl => match us, hl with | [_, _], _ => rfl,
      h_World__truths := He.meth_ok (fct 10 rfl),
      F_World_has := Fun.ofD (st := s_World_has) F13,
      b_World_has := (Fun.ofD (st := s_World_has) F13).binds (ps := ["self", "element", "sentence"]) fun _ _ _ _ _ _ us hl => match us, hl with | [_, _, _], _ => rfl,
      h_World_has := He.meth_ok (fct 11 rfl),
      F_World_fails := Fun.ofD (st := s_World_fails) F14,
      b_World_fails := (Fun.ofD (st := s_World_fails) F14).binds (ps := ["self", "claim", "places"]) fun _ _ _ _ _ _ us hl => match us, hl with | [_, _, _], _ => rfl,
      h_World_fails := He.meth_ok (fct 12 rfl),
      F_law_cell := Fun.ofD (st := s_law_cell) F15,
      b_law_cell := (Fun.ofD (st := s_law_cell) F15).binds (ps := ["script", "k"]) fun _ _ _ _ _ _ us hl => match us, hl with | [_, _], _ => rfl,
      m_law_cell := He.glo_ok X G (fct 13 rfl),
      F_law_pool := Fun.ofD (st := s_law_pool) F16,
      b_law_pool := (Fun.ofD (st := s_law_pool) F16).binds (ps := ["script", "k"]) fun _ _ _ _ _ _ us hl => match us, hl with | [_, _], _ => rfl,
      m_law_pool := He.glo_ok X G (fct 14 rfl),
      F_law_next := Fun.ofD (st := s_law_next) F17,
      b_law_next := (Fun.ofD (st := s_law_next) F17).binds (ps := ["pool", "many"]) fun _ _ _ _ _ _ us hl => match us, hl with | [_, _], _ => rfl,
      m_law_next := He.glo_ok X G (fct 15 rfl),
      F_law_names := Fun.ofD (st := s_law_names) F18,
      b_law_names := (Fun.ofD (st := s_law_names) F18).binds (ps := ["pool", "many"]) fun _ _ _ _ _ _ us hl => match us, hl with | [_, _], _ => rfl,
      m_law_names := He.glo_ok X G (fct 16 rfl),
      F_law_product := Fun.ofD (st := s_law_product) F19,
      b_law_product := (Fun.ofD (st := s_law_product) F19).binds (ps := ["form", "many", "a", "b"]) fun _ _ _ _ _ _ us hl => match us, hl with | [_, _, _, _], _ => rfl,
      m_law_product := He.glo_ok X G (fct 17 rfl),
      F_law_table := Fun.ofD (st := s_law_table) F20,
      b_law_table := (Fun.ofD (st := s_law_table) F20).binds (ps := ["form", "many"]) fun _ _ _ _ _ _ us hl => match us, hl with | [_, _], _ => rfl,
      m_law_table := He.glo_ok X G (fct 18 rfl),
      F_law_facts := Fun.ofD (st := s_law_facts) F21,
      b_law_facts := (Fun.ofD (st := s_law_facts) F21).binds (ps := ["pool", "many", "words"]) fun _ _ _ _ _ _ us hl => match us, hl with | [_, _, _], _ => rfl,
      m_law_facts := He.glo_ok X G (fct 19 rfl),
      F_law_sentence := Fun.ofD (st := s_law_sentence) F22,
      b_law_sentence := (Fun.ofD (st := s_law_sentence) F22).binds (ps := ["pool", "words", "depth"]) fun _ _ _ _ _ _ us hl => match us, hl with | [_, _, _], _ => rfl,
      m_law_sentence := He.glo_ok X G (fct 20 rfl),
      F_law_true := Fun.ofD (st := s_law_true) F23,
      b_law_true := (Fun.ofD (st := s_law_true) F23).binds (ps := ["table", "facts", "sentence"]) fun _ _ _ _ _ _ us hl => match us, hl with | [_, _, _], _ => rfl,
      m_law_true := He.glo_ok X G (fct 21 rfl),
      F_law_refused := Fun.ofD (st := s_law_refused) F24,
      b_law_refused := (Fun.ofD (st := s_law_refused) F24).binds (ps := ["table", "facts"]) fun _ _ _ _ _ _ us hl => match us, hl with | [_, _], _ => rfl,
      m_law_refused := He.glo_ok X G (fct 22 rfl),
      F_law_spoilt := Fun.ofD (st := s_law_spoilt) F25,
      b_law_spoilt := (Fun.ofD (st := s_law_spoilt) F25).binds (ps := ["pool", "form", "table", "facts"]) fun _ _ _ _ _ _ us hl => match us, hl with | [_, _, _, _], _ => rfl,
      m_law_spoilt := He.glo_ok X G (fct 23 rfl),
      F_law_picks := Fun.ofD (st := s_law_picks) F26,
      b_law_picks := (Fun.ofD (st := s_law_picks) F26).binds (ps := ["pool", "lists"]) fun _ _ _ _ _ _ us hl => match us, hl with | [_, _], _ => rfl,
      m_law_picks := He.glo_ok X G (fct 24 rfl),
      F_law_places := Fun.ofD (st := s_law_places) F27,
      b_law_places := (Fun.ofD (st := s_law_places) F27).binds (ps := ["pool", "truths", "many"]) fun _ _ _ _ _ _ us hl => match us, hl with | [_, _, _], _ => rfl,
      m_law_places := He.glo_ok X G (fct 25 rfl),
      F_law_judged := Fun.ofD (st := s_law_judged) F28,
      b_law_judged := (Fun.ofD (st := s_law_judged) F28).binds (ps := ["pool", "world", "table", "facts", "sentences", "names"]) fun _ _ _ _ _ _ us hl => match us, hl with | [_, _, _, _, _, _], _ => rfl,
      m_law_judged := He.glo_ok X G (fct 26 rfl),
      F_law := Fun.ofD (st := s_law) F29,
      b_law := (Fun.ofD (st := s_law) F29).binds (ps := ["script"]) fun _ _ _ _ _ _ us hl => match us, hl with | [_], _ => rfl,
      m_law := He.glo_ok X G (fct 27 rfl),
      m_HeldError := He.glo_ok X G (fct 28 rfl),
      rd_HeldError := exx 0 rfl,
      sp_HeldError := of_decide_eq_true (exx 1 rfl),
      vi_HeldError := of_fclsB (exx 2 rfl),
      m_BadWorld := He.glo_ok X G (fct 29 rfl),
      t_BadWorld := oexA_ok (exx 3 rfl),
      i_BadWorld := of_decide_eq_true (exx 4 rfl),
      ti_BadWorld := of_decide_eq_true (exx 5 rfl),
      nx_BadWorld_reason := He.noat_ok (fct 30 rfl),
      xf_BadWorld := xfB_ok (exx 6 rfl),
      m_NotOnce := He.glo_ok X G (fct 31 rfl),
      m_World := He.glo_ok X G (fct 32 rfl),
      c_World := He.cls_ok (fct 33 rfl),
      k_World := He.mkr_ok (fct 34 rfl),
      n_World__facts := He.noat_ok (fct 35 rfl),
      n_World__products := He.noat_ok (fct 36 rfl),
      cat_BadWorld := fun C b h => (by
        unfold cat_BadWorld at h
        split at h
        · rename_i e; cases h; rw [e]; exact exmB_ok (exx 7 rfl)
        cases h),
      z_abs := He.free_ok X G (fct 37 rfl),
      z_int := He.free_ok X G (fct 38 rfl),
      z_len := He.free_ok X G (fct 39 rfl),
      z_list := He.free_ok X G (fct 40 rfl),
      z_max := He.free_ok X G (fct 41 rfl),
      z_min := He.free_ok X G (fct 42 rfl),
      z_range := He.free_ok X G (fct 43 rfl),
      z_repr := He.free_ok X G (fct 44 rfl),
      z_str := He.free_ok X G (fct 45 rfl),
      z_tuple := He.free_ok X G (fct 46 rfl) }, fun s v => FunD.bindsA (ps := ["script"]) (body := defBody s_law) (params := defArgs s_law) (scope := defScope s_law) F29 (fun _ _ _ _ _ _ us hl => match us, hl with | [_], _ => rfl) s [v] rfl⟩
end W76
open PySem PySem.W PySem.Calls PyProof.Rows
set_option maxRecDepth 100000 in
set_option maxHeartbeats 0 in
theorem PySem.Challenge.cw_heldproofs_k76_seam_large_worlds_holds : PySem.Challenge.rw_heldproofs_k76_seam_large_worlds.Holds := by
  w_on; o_law
  refine HandSHeadRun.head_any (r := OpenLaw.row PySem.Challenge.rw_heldproofs_k76_seam_large_worlds) (q := view (OpenLaw.row PySem.Challenge.rw_heldproofs_k76_seam_large_worlds).prog [30]) (H := W76.hk) (ob := W76.hob) (M := 4000) (loose := W76.hnames) (d := HandSHeadRun.topDef (OpenLaw.row PySem.Challenge.rw_heldproofs_k76_seam_large_worlds).prog 30) (kwd := []) W76.hob_eq
    (by kernel_rfl) (fun s => by kernel_rfl) W76.hrun (by kernel_rfl) (by kernel_rfl) (by kernel_rfl) (by rfl) (by first | assumption | decide +kernel) (by decide +kernel) ⟨rfl, rfl, rfl, rfl, rfl, by decide +kernel⟩ ?hw ?hc
  case hw => w_witness2
  case hc =>
    refine ML.walkE (l := PySem.Challenge.rw_heldproofs_k76_seam_large_worlds) (n := 63) (k := 31) (x := "script") rfl (by decide) (by kernel_rfl) ⟨rfl, by decide, by decide⟩ ?F
    intro w mg fa h Y G hmg0
    obtain ⟨K, KX, c⟩ := Y
    have hmg : mg ("law" : PySem.Str) = some (.ref fa) := by
      have e : (HandSHeadRun.topDef (OpenLaw.row PySem.Challenge.rw_heldproofs_k76_seam_large_worlds).prog 30).name = ("law" : PySem.Str) := by kernel_rfl
      rw [← e]
      exact hmg0
    obtain ⟨A, T, hb⟩ := W76.top_of KX G c
    have e := hmg.symm.trans T.m_law
    cases e
    exact ⟨K, A.d_law, W76.f_law A, KX, hb, fun base _ _ => W76.law_is T, fun ns hl => W76.law_eq A ns⟩
