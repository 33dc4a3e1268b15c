import PyProof.Rows.All
import Wide.All
import OpenK.AllK
import Wide.FinOn
import HandS.ForMost
import HandS.ForExc
import HandS.Star
import HandS.TupAny
import KE.DataEq
import HandS.Deep
import HandS.Style
import HandS.IsInst
import HandS.SortInts
import HandS.Conv
import HandS.CallSlots
import HandS.Iter
import HandS.Zip
import HandS.Comp
import HandS.NoneIn
import KE.GoesEnum
import HandS.RevTup
import HandS.Rev
import HandS.SetFor
import HandS.Strs
import KE.DataMinMax
import KE.SortData
import HandS.Dict
import HandS.DictComp
import HandS.TupMul
import PySem.Challenge.RW_chipfloor_k81_whole_turned_clocks
set_option Elab.async false
set_option linter.all false
set_option maxRecDepth 100000
/-! L3, part 1: cells, worlds, what an expression's pure meaning says. -/
namespace L3
open PySem PySem.Spec PyProof.Rows L2

abbrev D := PyData
/-- what a slot holds: nothing, a value that stays, a list or dict of its own, one that is being walked (p: it came as a parameter) -/
inductive Cell where
  | no | val (d : D) | own (p : Bool) (d : D) | lck (p : Bool) (d : D)
abbrev Rho := List Cell
/-- an exception: its class by name, its fields -/
structure Xn where
  cls : Str
  fs : List (Str × D)
inductive Rs (α : Type) where
  | ok (a : α) (r : Rho) | err (x : Xn) (r : Rho) | bad
/-- a value, or what slot i holds just now -/
inductive Vl where
  | d (x : D) | bv (i : Nat)

def Rs.bind {α β : Type} (x : Rs α) (f : α → Rho → Rs β) : Rs β :=
  match x with
  | .ok a r => f a r
  | .err x r => .err x r
  | .bad => .bad
@[simp] theorem Rs.bind_ok {α β : Type} {a : α} {r : Rho} {f : α → Rho → Rs β} : (Rs.ok a r).bind f = f a r := rfl
@[simp] theorem Rs.bind_err {α β : Type} {x : Xn} {r : Rho} {f : α → Rho → Rs β} : (Rs.err x r : Rs α).bind f = .err x r := rfl
@[simp] theorem Rs.bind_bad {α β : Type} {f : α → Rho → Rs β} : (Rs.bad : Rs α).bind f = .bad := rfl

/-! ### how values lie -/
def kD : Key → D
  | .inl i => .int i
  | .inr s => .str s
/-- the script, which is read alone -/
def scrD (ns : List Int) : D := .dict [(.none, .list (ns.map .int))]
mutual
inductive Rp (K : PySem.W.Frag) (F : Hp) : V → D → Prop
  | non : Rp K F .non .none
  | bl (b : Bool) : Rp K F (.bl b) (.bool b)
  | int (i : Int) : Rp K F (.int i) (.int i)
  | str (x : Str) : Rp K F (.str x) (.str x)
  | lst {a : Addr} {vs : List V} {ds : List D} : F a = some (.lst vs) → RpL K F vs ds → Rp K F (.ref a) (.list ds)
  | scr {a : Addr} {ns : List Int} : SqL K F a (ns.map V.int) → Rp K F (.ref a) (scrD ns)
  | tup {a : Addr} {vs : List V} {ds : List D} : F a = some (.tup vs) → RpL K F vs ds → Rp K F (.ref a) (.tuple ds)
  | dK {a : Addr} {kvs : List (Key × V)} {ds : List (D × D)} : Rd F a (.dK kvs) → RpK K F kvs ds → Rp K F (.ref a) (.dict ds)
  | dT {a : Addr} {kvs : List (List Key × V)} {ds : List (D × D)} : kvs ≠ [] → Rd F a (.dT kvs) → RpT K F kvs ds → Rp K F (.ref a) (.dict ds)
inductive RpL (K : PySem.W.Frag) (F : Hp) : List V → List D → Prop
  | nil : RpL K F [] []
  | cons {v : V} {vs : List V} {d : D} {ds : List D} : Rp K F v d → RpL K F vs ds → RpL K F (v :: vs) (d :: ds)
inductive RpK (K : PySem.W.Frag) (F : Hp) : List (Key × V) → List (D × D) → Prop
  | nil : RpK K F [] []
  | cons {k : Key} {v : V} {r : List (Key × V)} {d : D} {s : List (D × D)} : Rp K F v d → RpK K F r s → RpK K F ((k, v) :: r) ((kD k, d) :: s)
inductive RpT (K : PySem.W.Frag) (F : Hp) : List (List Key × V) → List (D × D) → Prop
  | nil : RpT K F [] []
  | cons {k : List Key} {v : V} {r : List (List Key × V)} {d : D} {s : List (D × D)} : Rp K F v d → RpT K F r s → RpT K F ((k, v) :: r) ((.tuple (k.map kD), d) :: s)
end

/-- all stays; a dict may be locked -/
def isDk : HO → Bool
  | .dK _ => true
  | .dT _ => true
  | _ => false
def Sub (F H : Hp) : Prop := ∀ a o, F a = some o → H a = some o ∨ (isDk o = true ∧ ∃ ob, H a = some (.frz ob o))
def SubS (F H : Hp) : Prop := ∀ a o, F a = some o → H a = some o
theorem SubS.none {F H : Hp} (s : SubS F H) {a : Addr} (h : H a = none) : F a = none := by
  cases e : F a with
  | none => rfl
  | some o => rw [s a o e] at h; cases h
theorem SubS.refl (F : Hp) : SubS F F := fun _ _ h => h
theorem SubS.trans {F G H : Hp} (a : SubS F G) (b : SubS G H) : SubS F H := fun c o h => b c o (a c o h)
theorem SubS.sub {F H : Hp} (s : SubS F H) : Sub F H := fun a o h => .inl (s a o h)
theorem Sub.refl (F : Hp) : Sub F F := fun _ _ h => .inl h
theorem Sub.trans {F G H : Hp} (a : Sub F G) (b : Sub G H) : Sub F H := fun c o h => by
  rcases a c o h with h | ⟨d, ob, h⟩
  · exact b c o h
  · rcases b c _ h with h | ⟨d', _⟩
    · exact .inr ⟨d, ob, h⟩
    · cases d'
theorem Sub.none {F H : Hp} (s : Sub F H) {a : Addr} (h : H a = none) : F a = none := by
  cases e : F a with
  | none => rfl
  | some o => rcases s a o e with z | ⟨_, _, z⟩ <;> (rw [z] at h; cases h)
theorem Sub.eq {F H : Hp} (s : Sub F H) {a : Addr} {o : HO} (h : F a = some o) (d : isDk o = false := by rfl) : H a = some o := by
  rcases s a o h with z | ⟨z, _⟩
  · exact z
  · rw [d] at z; cases z
theorem Sub.rd {F H : Hp} (s : Sub F H) {a : Addr} {u : HO} (r : Rd F a u) : Rd H a u := by
  rcases r with r | ⟨o, r⟩
  · rcases s _ _ r with z | ⟨_, ob, z⟩
    · exact .inl z
    · exact .inr ⟨ob, z⟩
  · exact .inr ⟨o, s.eq r⟩
theorem Sub.sqL {K : PySem.W.Frag} {F H : Hp} (s : Sub F H) {a : Addr} {xs : List V} (r : SqL K F a xs) : SqL K H a xs := r.imp s.rd fun h => h
theorem Sub.sqT {K : PySem.W.Frag} {F H : Hp} (s : Sub F H) {a : Addr} {xs : List V} (r : SqT K F a xs) : SqT K H a xs := r.imp s.rd fun h => h
mutual
theorem Rp.mono {K : PySem.W.Frag} {F G : Hp} (s : Sub F G) : ∀ {v : V} {d : D}, Rp K F v d → Rp K G v d
  | _, _, .non => .non
  | _, _, .bl b => .bl b
  | _, _, .int i => .int i
  | _, _, .str x => .str x
  | _, _, .lst h r => .lst (s.eq h) (RpL.mono s r)
  | _, _, .scr h => .scr (s.sqL h)
  | _, _, .tup h r => .tup (s.eq h) (RpL.mono s r)
  | _, _, .dK h r => .dK (s.rd h) (RpK.mono s r)
  | _, _, .dT n h r => .dT n (s.rd h) (RpT.mono s r)
theorem RpL.mono {K : PySem.W.Frag} {F G : Hp} (s : Sub F G) : ∀ {v : List V} {d : List D}, RpL K F v d → RpL K G v d
  | _, _, .nil => .nil
  | _, _, .cons h r => .cons (Rp.mono s h) (RpL.mono s r)
theorem RpK.mono {K : PySem.W.Frag} {F G : Hp} (s : Sub F G) : ∀ {v : List (Key × V)} {d : List (D × D)}, RpK K F v d → RpK K G v d
  | _, _, .nil => .nil
  | _, _, .cons h r => .cons (Rp.mono s h) (RpK.mono s r)
theorem RpT.mono {K : PySem.W.Frag} {F G : Hp} (s : Sub F G) : ∀ {v : List (List Key × V)} {d : List (D × D)}, RpT K F v d → RpT K G v d
  | _, _, .nil => .nil
  | _, _, .cons h r => .cons (Rp.mono s h) (RpT.mono s r)
end

/-- a container at a that one slot owns -/
def OwnAt (K : PySem.W.Frag) (F H : Hp) (a : Addr) : D → Prop
  | .list ds => ∃ vs, H a = some (.lst vs) ∧ RpL K F vs ds
  | .dict ds => (∃ kvs, H a = some (.dK kvs) ∧ RpK K F kvs ds) ∨ ∃ kvs, kvs ≠ [] ∧ H a = some (.dT kvs) ∧ RpT K F kvs ds
  | _ => False
theorem OwnAt.mono {K : PySem.W.Frag} {F G H H' : Hp} (s : Sub F G) {a : Addr} (e : H' a = H a) : ∀ {d : D}, OwnAt K F H a d → OwnAt K G H' a d
  | .list _, ⟨vs, h, r⟩ => ⟨vs, e.trans h, RpL.mono s r⟩
  | .dict _, .inl ⟨vs, h, r⟩ => .inl ⟨vs, e.trans h, RpK.mono s r⟩
  | .dict _, .inr ⟨vs, n, h, r⟩ => .inr ⟨vs, n, e.trans h, RpT.mono s r⟩
theorem OwnAt.some {K : PySem.W.Frag} {F H : Hp} {a : Addr} : ∀ {d : D}, OwnAt K F H a d → ∃ o, H a = some o
  | .list _, ⟨_, h, _⟩ => ⟨_, h⟩
  | .dict _, .inl ⟨_, h, _⟩ => ⟨_, h⟩
  | .dict _, .inr ⟨_, _, h, _⟩ => ⟨_, h⟩
/-- once it is frozen it is a value -/
theorem OwnAt.froz {K : PySem.W.Frag} {F H : Hp} {a : Addr} {o : HO} (ho : H a = Option.some o) (s : Sub F (upd F a o)) : ∀ {d : D}, OwnAt K F H a d → Rp K (upd F a o) (.ref a) d
  | .list _, ⟨vs, h, r⟩ => by
    rw [ho] at h; cases h
    exact .lst upd_same (RpL.mono s r)
  | .dict _, .inl ⟨vs, h, r⟩ => by
    rw [ho] at h; cases h
    exact .dK (.inl upd_same) (RpK.mono s r)
  | .dict _, .inr ⟨vs, n, h, r⟩ => by
    rw [ho] at h; cases h
    exact .dT n (.inl upd_same) (RpT.mono s r)

def Cell.held : Cell → Option D
  | .own _ d => some d
  | .lck _ d => some d
  | _ => none
def Cell.par : Cell → Bool
  | .own p _ => p
  | .lck p _ => p
  | _ => false
def Cell.cont : Cell → Option D
  | .val d => some d
  | .own _ d => some d
  | .lck _ d => some d
  | .no => none
/-- what others own: their objects, and the parameters' slots with their addresses -/
structure Fm where
  o : Hp
  p : List (Nat × Addr)
  /-- what is being walked: slot, address, whether a parameter, content -/
  w : List (Nat × Addr × Bool × D)

structure Wd (K : PySem.W.Frag) (F : Hp) (O : Fm) (ρ : Rho) (σ : L2.St) (H : Hp) : Prop where
  len : ρ.length = σ.length
  f : Sub F H
  o : SubS O.o H
  fo : ∀ a o, O.o a = some o → F a = none
  val : ∀ (i : Nat) (d : D), ρ[i]? = some (Cell.val d) → ∃ v, σ[i]? = some (some v) ∧ Rp K F v d
  own : ∀ (i : Nat) (c : Cell) (d : D), ρ[i]? = some c → c.held = some d → ∃ a, σ[i]? = some (some (.ref a)) ∧ F a = none ∧ O.o a = none ∧ OwnAt K F H a d
  pr : ∀ (i : Nat) (c : Cell) (a : Addr), ρ[i]? = some c → c.par = true → σ[i]? = some (some (.ref a)) → (i, a) ∈ O.p
  wl : ∀ (i : Nat) (a : Addr) (p : Bool) (d : D), (i, a, p, d) ∈ O.w → ρ[i]? = some (Cell.lck p d) ∧ σ[i]? = some (some (.ref a))
  lk : ∀ (i : Nat) (p : Bool) (d : D), ρ[i]? = some (Cell.lck p d) → ∃ a, (i, a, p, d) ∈ O.w
  ap : ∀ (i j : Nat) (c c' : Cell) (d d' : D) (a : Addr), i ≠ j → ρ[i]? = some c → ρ[j]? = some c' → c.held = some d → c'.held = some d' → σ[i]? = some (some (.ref a)) → σ[j]? = some (some (.ref a)) → False

theorem sub_upd {F : Hp} {p : Addr} {o : HO} (h : F p = none) : Sub F (upd F p o) := fun b x e => by
  rw [upd_ne (ne_of_none e h)]; exact .inl e
theorem sub_upd2 {F H : Hp} {p : Addr} {o : HO} (s : Sub F H) : Sub (upd F p o) (upd H p o) := fun b x e => by
  by_cases hb : b = p
  · subst hb; rw [upd_same] at e ⊢; exact .inl e
  · rw [upd_ne hb] at e ⊢; exact s b x e
section
variable {K : PySem.W.Frag} {F F' : Hp} {O : Fm} {ρ : Rho} {σ : L2.St} {H : Hp} {p : Addr} {o : HO}
/-- a new object that stays -/
theorem Wd.alloc (w : Wd K F O ρ σ H) (hp : H p = none) : Wd K (upd F p o) O ρ σ (upd H p o) := by
  have fp : F p = none := w.f.none hp
  have op : O.o p = none := w.o.none hp
  refine ⟨w.len, sub_upd2 w.f, fun a x e => ?_, fun a x e => ?_, fun i d e => ?_, fun i c d e hc => ?_, w.pr, w.wl, w.lk, w.ap⟩
  · rw [upd_ne (ne_of_none e op)]; exact w.o a x e
  · rw [upd_ne (ne_of_none e op)]; exact w.fo a x e
  · obtain ⟨v, h1, h2⟩ := w.val i d e
    exact ⟨v, h1, h2.mono (sub_upd fp)⟩
  · obtain ⟨a, h1, h2, h3, h4⟩ := w.own i c d e hc
    obtain ⟨oa, ha⟩ := h4.some
    have ne : a ≠ p := ne_of_none ha hp
    exact ⟨a, h1, by rw [upd_ne ne]; exact h2, h3, h4.mono (sub_upd fp) (upd_ne ne)⟩
/-- a new object that nobody knows (garbage) -/
theorem Wd.lose (w : Wd K F O ρ σ H) (hp : H p = none) : Wd K F O ρ σ (upd H p o) := by
  refine ⟨w.len, fun a x e => ?_, fun a x e => ?_, w.fo, w.val, fun i c d e hc => ?_, w.pr, w.wl, w.lk, w.ap⟩
  · rw [upd_ne (ne_of_none e (w.f.none hp))]; exact w.f a x e
  · rw [upd_ne (ne_of_none e (w.o.none hp))]; exact w.o a x e
  · obtain ⟨a, h1, h2, h3, h4⟩ := w.own i c d e hc
    obtain ⟨oa, ha⟩ := h4.some
    exact ⟨a, h1, h2, h3, h4.mono (Sub.refl _) (upd_ne (ne_of_none ha hp))⟩
theorem get_set {ρ : Rho} {i j : Nat} {c c' : Cell} (h : (ρ.set i c)[j]? = some c') : (j = i ∧ c' = c) ∨ (j ≠ i ∧ ρ[j]? = some c') := by
  by_cases e : i = j
  · subst e
    rw [List.getElem?_set] at h
    split at h
    · split at h
      · cases h; exact .inl ⟨rfl, rfl⟩
      · cases h
    · exact absurd rfl ‹_›
  · rw [List.getElem?_set_ne e] at h
    exact .inr ⟨fun z => e z.symm, h⟩
/-- what slot i owned stays from now on as it is -/
theorem Wd.freeze (w : Wd K F O ρ σ H) {i : Nat} {p : Bool} {d : D} (e : ρ[i]? = some (Cell.own p d)) :
    ∃ F' v, Wd K F' O (ρ.set i (.val d)) σ H ∧ Sub F F' ∧ σ[i]? = some (some v) ∧ Rp K F' v d := by
  have hc : (Cell.own p d).held = some d := rfl
  obtain ⟨a, h1, h2, h3, h4⟩ := w.own i _ d e hc
  obtain ⟨oa, ha⟩ := h4.some
  have sF : Sub F (upd F a oa) := sub_upd h2
  refine ⟨upd F a oa, .ref a, ⟨by rw [List.length_set]; exact w.len, fun b x hb => ?_, w.o, fun b x hb => ?_, fun j d' hj => ?_, fun j c' d' hj hc' => ?_, fun j c' b hj hp hb => ?_, fun j b q y hy => ?_, fun j q y hj => ?_, fun j k c1 c2 d1 d2 b ne e1 e2 q1 q2 z1 z2 => ?_⟩, sF, h1, h4.froz ha sF⟩
  · by_cases z : b = a
    · subst z; rw [upd_same] at hb; cases hb; exact .inl ha
    · rw [upd_ne z] at hb; exact w.f b x hb
  · have z : b ≠ a := ne_of_none hb h3
    rw [upd_ne z]; exact w.fo b x hb
  · rcases get_set hj with ⟨rfl, z⟩ | ⟨_, hj⟩
    · cases z; exact ⟨_, h1, h4.froz ha sF⟩
    · obtain ⟨v, q1, q2⟩ := w.val j d' hj
      exact ⟨v, q1, q2.mono sF⟩
  · rcases get_set hj with ⟨rfl, z⟩ | ⟨ne, hj⟩
    · subst z; cases hc'
    · obtain ⟨b, q1, q2, q3, q4⟩ := w.own j c' d' hj hc'
      have nb : b ≠ a := fun z => w.ap i j _ c' d d' a (fun z => ne z.symm) e hj hc hc' h1 (z ▸ q1)
      exact ⟨b, q1, by rw [upd_ne nb]; exact q2, q3, q4.mono sF rfl⟩
  · rcases get_set hj with ⟨rfl, z⟩ | ⟨_, hj⟩
    · subst z; cases hp
    · exact w.pr j c' b hj hp hb
  · obtain ⟨q1, q2⟩ := w.wl j b q y hy
    refine ⟨?_, q2⟩
    rw [List.getElem?_set_ne (fun z => by subst z; rw [e] at q1; cases q1)]
    exact q1
  · rcases get_set hj with ⟨rfl, z⟩ | ⟨_, hj⟩
    · cases z
    · exact w.lk j q y hj
  · rcases get_set e1 with ⟨rfl, z⟩ | ⟨n1, e1⟩
    · subst z; cases q1
    · rcases get_set e2 with ⟨rfl, z⟩ | ⟨n2, e2⟩
      · subst z; cases q2
      · exact w.ap j k c1 c2 d1 d2 b ne e1 e2 q1 q2 z1 z2
end

/-! ### values of expressions -/
def RV (K : PySem.W.Frag) (F : Hp) (σ : L2.St) (v : V) : Vl → Prop
  | .d x => Rp K F v x
  | .bv i => σ[i]? = some (some v)
def Vl.cont (ρ : Rho) : Vl → Option D
  | .d x => some x
  | .bv i => ρ[i]?.bind Cell.cont
/-- d lies at v just now -/
def At (K : PySem.W.Frag) (F H : Hp) (v : V) (d : D) : Prop := Rp K F v d ∨ ∃ a, v = .ref a ∧ OwnAt K F H a d
theorem RV.mono {K : PySem.W.Frag} {F G : Hp} {σ : L2.St} {v : V} (s : Sub F G) : ∀ {x : Vl}, RV K F σ v x → RV K G σ v x
  | .d _, h => Rp.mono s h
  | .bv _, h => h
theorem Wd.at {K : PySem.W.Frag} {F : Hp} {O : Fm} {ρ : Rho} {σ : L2.St} {H : Hp} (w : Wd K F O ρ σ H) {v : V} : ∀ {x : Vl} {d : D}, RV K F σ v x → x.cont ρ = some d → At K F H v d
  | .d x, d, h, e => by cases e; exact .inl h
  | .bv i, d, h, e => by
    have h : σ[i]? = some (some v) := h
    have e : ρ[i]?.bind Cell.cont = some d := e
    cases q : ρ[i]? with
    | none => rw [q] at e; cases e
    | some c =>
      rw [q] at e
      cases c with
      | no => cases e
      | val y =>
        cases e
        obtain ⟨u, h1, h2⟩ := w.val i d q
        rw [h] at h1; cases h1
        exact .inl h2
      | own p y =>
        cases e
        obtain ⟨a, h1, _, _, h4⟩ := w.own i _ d q rfl
        rw [h] at h1; cases h1
        exact .inr ⟨a, rfl, h4⟩
      | lck p y =>
        cases e
        obtain ⟨a, h1, _, _, h4⟩ := w.own i _ d q rfl
        rw [h] at h1; cases h1
        exact .inr ⟨a, rfl, h4⟩
section
variable {K : PySem.W.Frag} {F H : Hp} {v : V} {ds : List D}
theorem At.list (s : Sub F H) (h : At K F H v (.list ds)) : ∃ a vs, v = .ref a ∧ H a = some (.lst vs) ∧ RpL K F vs ds := by
  rcases h with h | ⟨a, rfl, vs, e, r⟩
  · cases h with
    | lst h r => exact ⟨_, _, rfl, s.eq h, r⟩
  · exact ⟨a, vs, rfl, e, r⟩
theorem At.tuple (s : Sub F H) (h : At K F H v (.tuple ds)) : ∃ a vs, v = .ref a ∧ F a = some (.tup vs) ∧ SqT K H a vs ∧ RpL K F vs ds := by
  rcases h with h | ⟨a, _, h⟩
  · cases h with
    | tup h r => exact ⟨_, _, rfl, h, .inl (.inl (s.eq h)), r⟩
  · exact h.elim
theorem At.rp {d : D} (h : At K F H v d) (hd : ∀ a, ¬ OwnAt K F H a d) : Rp K F v d := by
  rcases h with h | ⟨a, _, h⟩
  · exact h
  · exact absurd h (hd a)
theorem At.int {i : Int} (h : At K F H v (.int i)) : v = .int i := by
  cases h.rp (fun _ z => z) with
  | int => rfl
theorem At.bool {i : Bool} (h : At K F H v (.bool i)) : v = .bl i := by
  cases h.rp (fun _ z => z) with
  | bl => rfl
theorem At.str {i : Str} (h : At K F H v (.str i)) : v = .str i := by
  cases h.rp (fun _ z => z) with
  | str => rfl
theorem At.non (h : At K F H v .none) : v = .non := by
  cases h.rp (fun _ z => z) with
  | non => rfl
end
theorem RpL.length {K : PySem.W.Frag} {F : Hp} : ∀ {vs : List V} {ds : List D}, RpL K F vs ds → vs.length = ds.length
  | _, _, .nil => rfl
  | _, _, .cons _ r => congrArg (· + 1) (RpL.length r)
theorem RpL.get {K : PySem.W.Frag} {F : Hp} : ∀ {vs : List V} {ds : List D} {i : Nat} {d : D}, RpL K F vs ds → ds[i]? = some d → ∃ v, vs[i]? = some v ∧ Rp K F v d
  | _, _, _, _, .nil, e => by simp at e
  | _, _, 0, _, .cons r _, e => by simp at e; subst e; exact ⟨_, rfl, r⟩
  | _, _, i + 1, _, .cons _ t, e => by
    obtain ⟨v, h1, h2⟩ := RpL.get (i := i) t (by simpa using e)
    exact ⟨v, by simpa using h1, h2⟩
theorem RpL.app {K : PySem.W.Frag} {F : Hp} : ∀ {vs us : List V} {ds es : List D}, RpL K F vs ds → RpL K F us es → RpL K F (vs ++ us) (ds ++ es)
  | _, _, _, _, .nil, s => s
  | _, _, _, _, .cons r t, s => .cons r (RpL.app t s)
theorem RpL.take {K : PySem.W.Frag} {F : Hp} : ∀ {vs : List V} {ds : List D} (n : Nat), RpL K F vs ds → RpL K F (vs.take n) (ds.take n)
  | _, _, 0, _ => .nil
  | _, _, _ + 1, .nil => .nil
  | _, _, n + 1, .cons r t => .cons r (RpL.take n t)
theorem RpL.drop {K : PySem.W.Frag} {F : Hp} : ∀ {vs : List V} {ds : List D} (n : Nat), RpL K F vs ds → RpL K F (vs.drop n) (ds.drop n)
  | _, _, 0, r => r
  | _, _, _ + 1, .nil => .nil
  | _, _, n + 1, .cons _ t => RpL.drop n t
theorem RpL.set {K : PySem.W.Frag} {F : Hp} {v : V} {d : D} (h : Rp K F v d) : ∀ {vs : List V} {ds : List D} (n : Nat), RpL K F vs ds → RpL K F (vs.set n v) (ds.set n d)
  | _, _, _, .nil => .nil
  | _, _, 0, .cons _ t => .cons h t
  | _, _, n + 1, .cons r t => .cons r (RpL.set h n t)

/-- an exception's object -/
def XAt (K : PySem.W.Frag) (F : Hp) (cn : Str → Option Addr) (c : Value) (dd : Option Addr) (x : Xn) : Prop :=
  ∃ C, cn x.cls = some C ∧ c = .ref C ∧ match x.fs with
    | [] => True
    | fs => ∃ d vs, dd = some d ∧ F d = some (.xd vs) ∧ ∀ f y, fs.lookup f = some y → ∃ v, vs.lookup f = some v ∧ Rp K F v y
end L3
/-! L3, part 2: expressions: names, constants, operators, comparisons, and, or, not, if, displays, items. -/
namespace L3
open PySem PySem.Spec PyProof.Rows L2

/-- what surrounds: the written part, classes by name, what is wanted of an exception -/
structure Gx where
  K : PySem.W.Frag
  cn : Str → Option Addr
  W : WX

/-- what is known behind a part: its pure result, the wish -/
def Fin (G : Gx) {α β : Type} (rel : PySem.W.Frag → Hp → L2.St → β → α → Prop) (F : Hp) (O : Fm) (σ : L2.St) (Q : β → Hp → Prop) : Rs α → Prop
  | .ok a ρ' => ∀ v H' F', Wd G.K F' O ρ' σ H' → Sub F F' → rel G.K F' σ v a → Q v H'
  | .err x ρ' => ∀ c dd H' F', Wd G.K F' O ρ' σ H' → Sub F F' → XAt G.K F' G.cn c dd x → G.W c dd σ H'
  | .bad => False
def tG (G : Gx) {α β : Type} (rel : PySem.W.Frag → Hp → L2.St → β → α → Prop) (s : Rho → Rs α) : L2.St → Hp → (β → Hp → Prop) → Prop :=
  fun σ H Q => ∃ ρ F O, Wd G.K F O ρ σ H ∧ Fin G rel F O σ Q (s ρ)
def RB (_ : PySem.W.Frag) (_ : Hp) (_ : L2.St) (b c : Bool) : Prop := b = c
def RVs (K : PySem.W.Frag) (F : Hp) (σ : L2.St) : List V → List Vl → Prop
  | [], [] => True
  | v :: vs, x :: xs => RV K F σ v x ∧ RVs K F σ vs xs
  | _, _ => False
theorem RVs.mono {K : PySem.W.Frag} {F G : Hp} {σ : L2.St} (s : Sub F G) : ∀ {vs : List V} {xs : List Vl}, RVs K F σ vs xs → RVs K G σ vs xs
  | [], [], _ => trivial
  | _ :: _, _ :: _, h => ⟨h.1.mono s, RVs.mono s h.2⟩
abbrev tE (G : Gx) (s : Rho → Rs Vl) : TE := tG G RV s
abbrev tT (G : Gx) (s : Rho → Rs Bool) : TT := tG G RB s
abbrev tA (G : Gx) (s : Rho → Rs (List Vl)) : TA := tG G RVs s

theorem PE.imp {X : Cx} {e : Expr} {t t' : TE} (h : PE X e t) (i : ∀ σ H Q, t' σ H Q → t σ H Q) : PE X e t' := ⟨fun pins s σ H Q I q => h.run pins s σ H Q I (i _ _ _ q)⟩
theorem PT.imp {X : Cx} {e : Expr} {t t' : TT} (h : PT X e t) (i : ∀ σ H Q, t' σ H Q → t σ H Q) : PT X e t' := ⟨fun pins s σ H Q I q => h.run pins s σ H Q I (i _ _ _ q)⟩
theorem PA.imp {X : Cx} {e : List Expr} {t t' : TA} (h : PA X e t) (i : ∀ σ H Q, t' σ H Q → t σ H Q) : PA X e t' := ⟨fun p pins s σ H Q I q => h.run p pins s σ H Q I (i _ _ _ q)⟩

section
variable {G : Gx} {α β α' β' : Type} {rel : PySem.W.Frag → Hp → L2.St → β → α → Prop} {rel' : PySem.W.Frag → Hp → L2.St → β' → α' → Prop} {σ : L2.St} {H : Hp} {F F1 : Hp} {O : Fm} {ρ : Rho} {Q : β → Hp → Prop} {Q' : β' → Hp → Prop}
theorem Fin.mono (s : Sub F F1) : ∀ {r : Rs α}, Fin G rel F O σ Q r → Fin G rel F1 O σ Q r
  | .ok _ _, h => fun v H' F' w z r => h v H' F' w (s.trans z) r
  | .err _ _, h => fun c dd H' F' w z x => h c dd H' F' w (s.trans z) x
  | .bad, h => h
theorem Fin.to {Q2 : β → Hp → Prop} (i : ∀ v H', Q v H' → Q2 v H') : ∀ {r : Rs α}, Fin G rel F O σ Q r → Fin G rel F O σ Q2 r
  | .ok _ _, h => fun v H' F' w z r => i _ _ (h v H' F' w z r)
  | .err _ _, h => h
  | .bad, h => h
/-- a part, then the rest -/
theorem tG.bind {s : Rho → Rs α} {f : α → Rho → Rs α'} (w : Wd G.K F O ρ σ H) (h : Fin G rel' F O σ Q' ((s ρ).bind f))
    (hQ : ∀ a ρ1 v H1 F1, s ρ = .ok a ρ1 → Wd G.K F1 O ρ1 σ H1 → Sub F F1 → rel G.K F1 σ v a → Fin G rel' F1 O σ Q' (f a ρ1) → Q v H1) : tG G rel s σ H Q := by
  refine ⟨ρ, F, O, w, ?_⟩
  cases e : s ρ with
  | ok a ρ1 =>
    rw [e] at h
    exact fun v H1 F1 w1 s1 r1 => hQ a ρ1 v H1 F1 e w1 s1 r1 (Fin.mono s1 h)
  | err x ρ1 => rw [e] at h; exact h
  | bad => rw [e] at h; exact h
end

/-- an operation of two values: what it asks when its result is z -/
def Post (G : Gx) (F : Hp) (O : Fm) (ρ : Rho) (σ : L2.St) (Q : VK) (z : D) : Prop := ∀ v H' F', Wd G.K F' O ρ σ H' → Sub F F' → Rp G.K F' v z → Q v H'
def ret (ρ : Rho) : Option D → Rs Vl
  | some z => .ok (.d z) ρ
  | none => .bad
def retO (ρ : Rho) (o : Option D) (f : D → Option D) : Rs Vl := ret ρ (o.bind f)
theorem ret_fin {G : Gx} {F : Hp} {O : Fm} {σ : L2.St} {Q : VK} {ρ : Rho} {o : Option D} (h : Fin G RV F O σ Q (ret ρ o)) : ∃ z, o = some z ∧ Post G F O ρ σ Q z := by
  cases o with
  | none => exact h.elim
  | some z => exact ⟨z, rfl, fun v H' F' w s r => h v H' F' w s r⟩
/-- two values' contents -/
def two (ρ : Rho) (a b : Vl) (f : D → D → Option D) : Rs Vl := ret ρ ((a.cont ρ).bind fun x => (b.cont ρ).bind fun y => f x y)
def one (ρ : Rho) (a : Vl) (f : D → Option D) : Rs Vl := ret ρ ((a.cont ρ).bind f)
def sBin (f : D → D → Option D) (a b : Rho → Rs Vl) : Rho → Rs Vl := fun ρ => (a ρ).bind fun x ρ => (b ρ).bind fun y ρ => two ρ x y f
def sUn (f : D → Option D) (a : Rho → Rs Vl) : Rho → Rs Vl := fun ρ => (a ρ).bind fun x ρ => one ρ x f
section
variable {G : Gx} {σ : L2.St} {H F : Hp} {O : Fm} {ρ : Rho} {Q : VK}
theorem two_fin {x y : Vl} {v u : V} {f : D → D → Option D} (w : Wd G.K F O ρ σ H) (rx : RV G.K F σ v x) (ry : RV G.K F σ u y) (h : Fin G RV F O σ Q (two ρ x y f)) :
    ∃ a b z, At G.K F H v a ∧ At G.K F H u b ∧ f a b = some z ∧ Post G F O ρ σ Q z := by
  obtain ⟨z, e, p⟩ := ret_fin h
  cases ea : x.cont ρ with
  | none => rw [ea] at e; cases e
  | some a =>
    cases eb : y.cont ρ with
    | none => rw [ea, eb] at e; cases e
    | some b =>
      rw [ea, eb] at e
      exact ⟨a, b, z, w.at rx ea, w.at ry eb, e, p⟩
theorem one_fin {x : Vl} {v : V} {f : D → Option D} (w : Wd G.K F O ρ σ H) (rx : RV G.K F σ v x) (h : Fin G RV F O σ Q (one ρ x f)) :
    ∃ a z, At G.K F H v a ∧ f a = some z ∧ Post G F O ρ σ Q z := by
  obtain ⟨z, e, p⟩ := ret_fin h
  cases ea : x.cont ρ with
  | none => rw [ea] at e; cases e
  | some a =>
    rw [ea] at e
    exact ⟨a, z, w.at rx ea, e, p⟩
/-- a result that needs no new object -/
theorem Post.now {z : D} {v : V} (p : Post G F O ρ σ Q z) (w : Wd G.K F O ρ σ H) (r : Rp G.K F v z) : Q v H := p v H F w (Sub.refl _) r
/-- a result at a new object -/
theorem Post.new {z : D} {o : HO} {a : Addr} (p : Post G F O ρ σ Q z) (w : Wd G.K F O ρ σ H) (ha : H a = none) (r : Rp G.K (upd F a o) (.ref a) z) : Q (.ref a) (upd H a o) :=
  p _ _ _ (w.alloc ha) (sub_upd (w.f.none ha)) r
end

section
variable {X : Cx} {G : Gx} {a b : Expr} {sa sb : Rho → Rs Vl} {pos : Pos}
/-- a binary operator by a rule of values -/
theorem de_bin {op : Operator} {r : R2} {f : D → D → Option D} (ho : OpR X (binaryOp op) r)
    (hr : ∀ {F : Hp} {O : Fm} {ρ : Rho} {σ : L2.St} {H : Hp} {v u : V} {x y z : D} {Q : VK}, Wd G.K F O ρ σ H → At G.K F H v x → At G.K F H u y → f x y = some z → Post G F O ρ σ Q z → r v u H Q)
    (ha : PE X a (tE G sa)) (hb : PE X b (tE G sb)) : PE X (.BinOp a op b pos) (tE G (sBin f sa sb)) := by
  refine PE.imp (pe_op ho ha hb) fun σ H Q h => ?_
  obtain ⟨ρ, F, O, w, h⟩ := h
  refine tG.bind w h fun x ρ1 v H1 F1 _ w1 s1 rx h1 => tG.bind w1 h1 fun y ρ2 u H2 F2 _ w2 s2 ry h2 => ?_
  obtain ⟨p, q, z, hp, hq, e, k⟩ := two_fin w2 (rx.mono s2) ry h2
  exact hr w2 hp hq e k
theorem de_cmp {op : CmpOp} {r : R2} {f : D → D → Option D} (ho : OpR X (compareOp op) r) (hm : behindInMarks op b = false)
    (hr : ∀ {F : Hp} {O : Fm} {ρ : Rho} {σ : L2.St} {H : Hp} {v u : V} {x y z : D} {Q : VK}, Wd G.K F O ρ σ H → At G.K F H v x → At G.K F H u y → f x y = some z → Post G F O ρ σ Q z → r v u H Q)
    (ha : PE X a (tE G sa)) (hb : PE X b (tE G sb)) : PE X (.Compare a [op] [b] pos) (tE G (sBin f sa sb)) := by
  refine PE.imp (pe_cmpR ho ha hb hm) fun σ H Q h => ?_
  obtain ⟨ρ, F, O, w, h⟩ := h
  refine tG.bind w h fun x ρ1 v H1 F1 _ w1 s1 rx h1 => tG.bind w1 h1 fun y ρ2 u H2 F2 _ w2 s2 ry h2 => ?_
  obtain ⟨p, q, z, hp, hq, e, k⟩ := two_fin w2 (rx.mono s2) ry h2
  exact hr w2 hp hq e k
theorem de_un {op : UnaryOp} {r : V → Hp → VK → Prop} {f : D → Option D} (ho : UnR X (unaryOp op) r)
    (hr : ∀ {F : Hp} {O : Fm} {ρ : Rho} {σ : L2.St} {H : Hp} {v : V} {x z : D} {Q : VK}, Wd G.K F O ρ σ H → At G.K F H v x → f x = some z → Post G F O ρ σ Q z → r v H Q)
    (ha : PE X a (tE G sa)) : PE X (.UnaryOp op a pos) (tE G (sUn f sa)) := by
  refine PE.imp (pe_un ho ha) fun σ H Q h => ?_
  obtain ⟨ρ, F, O, w, h⟩ := h
  refine tG.bind w h fun x ρ1 v H1 F1 _ w1 s1 rx h1 => ?_
  obtain ⟨p, z, hp, e, k⟩ := one_fin w1 rx h1
  exact hr w1 hp e k
end
end L3
/-! L3, part 3: the operators and comparisons over data. -/
namespace L3
open PySem PySem.Spec PyProof.Rows L2

/-! ### data as it is read -/
mutual
theorem Rp.dp {K : PySem.W.Frag} {F H : Hp} (s : Sub F H) : ∀ {d : D} {v : V}, Rp K F v d → d.plain = true → Dp K H v d
  | _, _, .non, _ => .non
  | _, _, .bl b, _ => .bl b
  | _, _, .int i, _ => .int i
  | _, _, .str x, _ => .str x
  | _, _, .lst h r, p => .lst (SqL.of (s.eq h)) (RpL.dp s r (by simpa only [PyData.plain] using p))
  | _, _, .tup h r, p => .tup (.inl (.inl (s.eq h))) (RpL.dp s r (by simpa only [PyData.plain] using p))
  | _, _, .scr h, p => by simp [scrD, PyData.plain] at p
  | _, _, .dK h r, p => by simp [PyData.plain] at p
  | _, _, .dT _ h r, p => by simp [PyData.plain] at p
theorem RpL.dp {K : PySem.W.Frag} {F H : Hp} (s : Sub F H) : ∀ {d : List D} {v : List V}, RpL K F v d → PyData.plainAll d = true → DpAll K H v d
  | _, _, .nil, _ => .nil
  | _, _, .cons h r, p => by
    simp only [PyData.plainAll, Bool.and_eq_true] at p
    exact .cons (Rp.dp s h p.1) (RpL.dp s r p.2)
end
theorem At.dp {K : PySem.W.Frag} {F H : Hp} {d : D} {v : V} (s : Sub F H) (h : At K F H v d) (p : d.plain = true) : Dp K H v d := by
  rcases h with h | ⟨a, rfl, h⟩
  · exact h.dp s p
  · cases d with
    | list ds =>
      obtain ⟨vs, e, r⟩ := h
      exact .lst (SqL.of e) (r.dp s (by simpa only [PyData.plain] using p))
    | _ => first | exact h.elim | (simp [PyData.plain] at p)

/-! ### arithmetic -/
def inW (i : Int) : Bool := decide (-(2 ^ 64) < i) && decide (i < 2 ^ 64)
theorem inW_iff {i : Int} : inW i = true ↔ -(2 ^ 64) < i ∧ i < 2 ^ 64 := by simp [inW]
@[irreducible] def szOk (n : Nat) : Bool := decide (n ≤ sizeLine)
theorem szOk_iff {n : Nat} : szOk n = true ↔ n ≤ sizeLine := by simp [szOk]
def addD : D → D → Option D
  | .int i, .int j => some (.int (i + j))
  | .str x, .str y => if szOk (x.length + y.length) then some (.str (x ++ y)) else none
  | .tuple xs, .tuple ys => if szOk (xs.length + ys.length) then some (.tuple (xs ++ ys)) else none
  | .list xs, .list ys => if szOk (xs.length + ys.length) then some (.list (xs ++ ys)) else none
  | _, _ => none
def onInts (f : Int → Int → Option D) : D → D → Option D
  | .int i, .int j => f i j
  | _, _ => none
def subD : D → D → Option D := onInts fun i j => some (.int (i - j))
def mulD : D → D → Option D := onInts fun i j => if inW i || inW j then some (.int (i * j)) else none
def divOk (j : Int) : Bool := j != 0 && decide (j.natAbs < 1073741824)
def fdivD : D → D → Option D := onInts fun i j => if divOk j then some (.int (i.fdiv j)) else none
def modD : D → D → Option D := onInts fun i j => if j != 0 then some (.int (i.fmod j)) else none
def powOk (i j : Int) : Bool := decide (0 ≤ j) && decide (j ≤ 1000000) && decide (i.natAbs < 2 ^ 64)
def powD : D → D → Option D := onInts fun i j => if powOk i j then some (.int (i ^ j.toNat)) else none
def shlD : D → D → Option D := onInts fun i j => if powOk i j then some (.int (i * 2 ^ j.toNat)) else none
def shrD : D → D → Option D := onInts fun i j => if decide (0 ≤ j) then some (.int (i / 2 ^ j.toNat)) else none
def andD : D → D → Option D := onInts fun i j => some (.int (Builtin.bitAnd i j))
def binD : Operator → D → D → Option D
  | .Add => addD
  | .Sub => subD
  | .Mult => mulD
  | .FloorDiv => fdivD
  | .Mod => modD
  | .Pow => powD
  | .LShift => shlD
  | .RShift => shrD
  | .BitAnd => andD
  | _ => fun _ _ => none

theorem ifs {α : Type} {c : Bool} {x z : α} (h : (if c = true then some x else none) = some z) : c = true ∧ x = z := by
  split at h
  · exact ⟨‹_›, Option.some.inj h⟩
  · cases h

section
variable {X : Cx} {G : Gx} {a b : Expr} {sa sb : Rho → Rs Vl} {pos : Pos}
section
variable {F : Hp} {O : Fm} {ρ : Rho} {σ : L2.St} {H : Hp} {v u : V} {x y z : D} {Q : VK}
theorem int2 {f : Int → Int → Option D} (ax : At G.K F H v x) (ay : At G.K F H u y)
    (e : onInts f x y = some z) : ∃ i j, v = .int i ∧ u = .int j ∧ x = .int i ∧ y = .int j ∧ f i j = some z := by
  cases x with
  | int i =>
    cases y with
    | int j => exact ⟨i, j, ax.int, ay.int, rfl, rfl, e⟩
    | _ => cases e
  | _ => cases e
end
theorem add_ok (hK : X.K = G.K) : ∃ r : R2, OpR X (binaryOp .Add) r ∧ ∀ {F : Hp} {O : Fm} {ρ : Rho} {σ : L2.St} {H : Hp} {v u : V} {x y z : D} {Q : VK}, Wd G.K F O ρ σ H → At G.K F H v x → At G.K F H u y → addD x y = some z → Post G F O ρ σ Q z → r v u H Q := by
  refine ⟨_, ((op_add.or op_add_str).or op_catA).or op_cat, ?_⟩
  intro F O ρ σ H v u x y z Q w ax ay e p
  cases x with
  | int i =>
    cases y with
    | int j =>
      have e : some (PyData.int (i + j)) = some z := e
      cases e
      rw [ax.int, ay.int]
      exact .inl (.inl (.inl ⟨i, j, rfl, rfl, p.now w (.int _)⟩))
    | _ => cases e
  | str i =>
    cases y with
    | str j =>
      obtain ⟨h1, rfl⟩ := ifs e
      rw [ax.str, ay.str]
      exact .inl (.inl (.inr ⟨i, j, rfl, rfl, szOk_iff.mp h1, p.now w (.str _)⟩))
    | _ => cases e
  | tuple xs =>
    cases y with
    | tuple ys =>
      obtain ⟨h1, rfl⟩ := ifs e
      obtain ⟨a, vs, rfl, f1, q1, r1⟩ := ax.tuple w.f
      obtain ⟨b, us, rfl, f2, q2, r2⟩ := ay.tuple w.f
      rw [hK]
      refine .inl (.inr ⟨a, b, vs, us, rfl, rfl, q1, q2, by rw [r1.length, r2.length]; exact szOk_iff.mp h1, fun h => ?_, fun _ h => ?_, fun _ _ q hq => ?_⟩)
      · subst h; cases r1; exact p.now w (.tup f2 r2)
      · subst h; cases r2; refine p.now w (.tup f1 ?_); rw [List.append_nil]; exact r1
      · exact p.new w hq (.tup upd_same ((r1.app r2).mono (sub_upd (w.f.none hq))))
    | _ => cases e
  | list xs =>
    cases y with
    | list ys =>
      obtain ⟨h1, rfl⟩ := ifs e
      obtain ⟨a, vs, rfl, q1, r1⟩ := ax.list w.f
      obtain ⟨b, us, rfl, q2, r2⟩ := ay.list w.f
      exact .inr ⟨a, b, vs, us, rfl, rfl, q1, q2, by rw [r1.length, r2.length]; exact szOk_iff.mp h1, fun q hq => p.new w hq (.lst upd_same ((r1.app r2).mono (sub_upd (w.f.none hq))))⟩
    | _ => cases e
  | _ => cases e
theorem de_binop {op : Operator} (hK : X.K = G.K) (hop : [Operator.Add, .Sub, .Mult, .FloorDiv, .Mod, .Pow, .LShift, .RShift, .BitAnd].contains op = true) (ha : PE X a (tE G sa)) (hb : PE X b (tE G sb)) : PE X (.BinOp a op b pos) (tE G (sBin (binD op) sa sb)) := by
  cases op with
  | Add =>
    obtain ⟨r, h1, h2⟩ := add_ok (X := X) (G := G) hK
    exact de_bin h1 h2 ha hb
  | Sub =>
    refine de_bin op_sub (fun {F O ρ σ H v u x y z Q} w ax ay e p => ?_) ha hb
    obtain ⟨i, j, rfl, rfl, rfl, rfl, e⟩ := int2 (f := fun i j => some (.int (i - j))) ax ay e
    cases e
    exact ⟨i, j, rfl, rfl, p.now w (.int _)⟩
  | Mult =>
    refine de_bin op_mul (fun {F O ρ σ H v u x y z Q} w ax ay e p => ?_) ha hb
    obtain ⟨i, j, rfl, rfl, rfl, rfl, e⟩ := int2 (f := fun i j => if inW i || inW j then some (.int (i * j)) else none) ax ay e
    obtain ⟨h1, rfl⟩ := ifs e
    rw [Bool.or_eq_true] at h1
    exact ⟨i, j, rfl, rfl, h1.imp inW_iff.mp inW_iff.mp, p.now w (.int _)⟩
  | FloorDiv =>
    refine de_bin op_fdivN (fun {F O ρ σ H v u x y z Q} w ax ay e p => ?_) ha hb
    obtain ⟨i, j, rfl, rfl, rfl, rfl, e⟩ := int2 (f := fun i j => if divOk j then some (.int (i.fdiv j)) else none) ax ay e
    obtain ⟨h1, rfl⟩ := ifs e
    exact ⟨i, j, rfl, rfl, by simpa [divOk, CDivN] using h1, p.now w (.int _)⟩
  | Mod =>
    refine de_bin op_modN (fun {F O ρ σ H v u x y z Q} w ax ay e p => ?_) ha hb
    obtain ⟨i, j, rfl, rfl, rfl, rfl, e⟩ := int2 (f := fun i j => if j != 0 then some (.int (i.fmod j)) else none) ax ay e
    obtain ⟨h1, rfl⟩ := ifs e
    exact ⟨i, j, rfl, rfl, by simpa using h1, p.now w (.int _)⟩
  | Pow =>
    refine de_bin op_pow (fun {F O ρ σ H v u x y z Q} w ax ay e p => ?_) ha hb
    obtain ⟨i, j, rfl, rfl, rfl, rfl, e⟩ := int2 (f := fun i j => if powOk i j then some (.int (i ^ j.toNat)) else none) ax ay e
    obtain ⟨h1, rfl⟩ := ifs e
    exact ⟨i, j, rfl, rfl, by simpa [powOk, CPow, and_assoc] using h1, p.now w (.int _)⟩
  | LShift =>
    refine de_bin op_shl (fun {F O ρ σ H v u x y z Q} w ax ay e p => ?_) ha hb
    obtain ⟨i, j, rfl, rfl, rfl, rfl, e⟩ := int2 (f := fun i j => if powOk i j then some (.int (i * 2 ^ j.toNat)) else none) ax ay e
    obtain ⟨h1, rfl⟩ := ifs e
    exact ⟨i, j, rfl, rfl, by simpa [powOk, CPow, and_assoc] using h1, p.now w (.int _)⟩
  | RShift =>
    refine de_bin op_shr (fun {F O ρ σ H v u x y z Q} w ax ay e p => ?_) ha hb
    obtain ⟨i, j, rfl, rfl, rfl, rfl, e⟩ := int2 (f := fun i j => if decide (0 ≤ j) then some (.int (i / 2 ^ j.toNat)) else none) ax ay e
    obtain ⟨h1, rfl⟩ := ifs e
    exact ⟨i, j, rfl, rfl, of_decide_eq_true h1, p.now w (.int _)⟩
  | BitAnd =>
    refine de_bin op_and (fun {F O ρ σ H v u x y z Q} w ax ay e p => ?_) ha hb
    obtain ⟨i, j, rfl, rfl, rfl, rfl, e⟩ := int2 (f := fun i j => some (.int (Builtin.bitAnd i j))) ax ay e
    cases e
    exact ⟨i, j, rfl, rfl, p.now w (.int _)⟩
  | _ => exact absurd hop (by decide)
def negD : D → Option D
  | .int i => some (.int (-i))
  | _ => none
theorem de_neg (ha : PE X a (tE G sa)) : PE X (.UnaryOp .USub a pos) (tE G (sUn negD sa)) := by
  refine de_un un_neg (fun {F O ρ σ H v x z Q} w ax e p => ?_) ha
  cases x with
  | int i => cases e; exact ⟨i, ax.int, p.now w (.int _)⟩
  | _ => cases e

/-! ### comparisons -/
def eqOk (x y : D) : Bool := x.plain && y.plain && decide (min x.depth y.depth ≤ 150)
def eqD (x y : D) : Option D := if eqOk x y then some (.bool (PyData.eqv x y)) else none
def neD (x y : D) : Option D := if eqOk x y then some (.bool (!PyData.eqv x y)) else none
def rEqA (K : PySem.W.Frag) : R2 := fun x y H Q => ∃ d e, Dp K H x d ∧ Dp K H y e ∧ d.plain = true ∧ e.plain = true ∧ min d.depth e.depth ≤ 150 ∧ Q (.bl (PyData.eqv d e)) H
def rNeA (K : PySem.W.Frag) : R2 := fun x y H Q => ∃ d e, Dp K H x d ∧ Dp K H y e ∧ d.plain = true ∧ e.plain = true ∧ min d.depth e.depth ≤ 150 ∧ Q (.bl (!PyData.eqv d e)) H
theorem op_eqA (hu : X.A.units + 200 < cLine) : OpR X (compareOp .Eq) (rEqA X.K) := by
  intro pins sh σ H x y v u Q I rx ry asks
  obtain ⟨d, e, hd, he, sd, se, hm, q⟩ := asks
  obtain ⟨fst, r1⟩ := Dp.reads I d x v hd rx
  obtain ⟨snd, r2⟩ := Dp.reads I e y u he ry
  exact SeqAt.eq_plain r1 r2 sd se (by omega) ⟨.bl _, H, I, rfl, q⟩
theorem op_neA (hu : X.A.units + 200 < cLine) : OpR X (compareOp .NotEq) (rNeA X.K) := by
  intro pins sh σ H x y v u Q I rx ry asks
  obtain ⟨d, e, hd, he, sd, se, hm, q⟩ := asks
  obtain ⟨fst, r1⟩ := Dp.reads I d x v hd rx
  obtain ⟨snd, r2⟩ := Dp.reads I e y u he ry
  exact SeqAt.ne_plain r1 r2 sd se (by omega) ⟨.bl _, H, I, rfl, q⟩
theorem eqOk_iff {x y : D} : eqOk x y = true ↔ x.plain = true ∧ y.plain = true ∧ min x.depth y.depth ≤ 150 := by simp only [eqOk, Bool.and_eq_true, decide_eq_true_eq, and_assoc]
theorem de_eq (hK : X.K = G.K) (hu : X.A.units + 200 < cLine) (ha : PE X a (tE G sa)) (hb : PE X b (tE G sb)) : PE X (.Compare a [.Eq] [b] pos) (tE G (sBin eqD sa sb)) := by
  refine de_cmp (op_eqA hu) (nomark _) (fun {F O ρ σ H v u x y z Q} w ax ay e p => ?_) ha hb
  obtain ⟨h1, rfl⟩ := ifs e
  obtain ⟨p1, p2, p3⟩ := eqOk_iff.mp h1
  rw [hK]
  exact ⟨x, y, ax.dp w.f p1, ay.dp w.f p2, p1, p2, p3, p.now w (.bl _)⟩
theorem de_ne (hK : X.K = G.K) (hu : X.A.units + 200 < cLine) (ha : PE X a (tE G sa)) (hb : PE X b (tE G sb)) : PE X (.Compare a [.NotEq] [b] pos) (tE G (sBin neD sa sb)) := by
  refine de_cmp (op_neA hu) (nomark _) (fun {F O ρ σ H v u x y z Q} w ax ay e p => ?_) ha hb
  obtain ⟨h1, rfl⟩ := ifs e
  obtain ⟨p1, p2, p3⟩ := eqOk_iff.mp h1
  rw [hK]
  exact ⟨x, y, ax.dp w.f p1, ay.dp w.f p2, p1, p2, p3, p.now w (.bl _)⟩
end
end L3
/-! L3, part 4: names, constants, tests, and, or, not, if, displays, items, slices. -/
namespace L3
open PySem PySem.Spec PyProof.Rows L2

/-! ### an expression, as a value and as a test -/
def boolOf (o : Option D) (ρ : Rho) : Rs Bool :=
  match o with
  | some (.bool b) => .ok b ρ
  | _ => .bad
def asB (s : Rho → Rs Vl) : Rho → Rs Bool := fun ρ => (s ρ).bind fun x ρ => boolOf (x.cont ρ) ρ
theorem boolOf_fin {G : Gx} {F H : Hp} {O : Fm} {σ : L2.St} {ρ : Rho} {Q : Bool → Hp → Prop} {x : Vl} {v : V} (w : Wd G.K F O ρ σ H) (rx : RV G.K F σ v x) (h : Fin G RB F O σ Q (boolOf (x.cont ρ) ρ)) : ∃ k, v = .bl k ∧ Q k H := by
  cases e : x.cont ρ with
  | none => rw [e] at h; exact h.elim
  | some d =>
    rw [e] at h
    cases d with
    | bool b => exact ⟨b, (w.at rx e).bool, h b H F w (Sub.refl _) rfl⟩
    | _ => exact h.elim
structure DE (X : Cx) (G : Gx) (e : Expr) (s : Rho → Rs Vl) : Prop where
  pe : PE X e (tE G s)
  pt : PT X e (tT G (asB s))
section
variable {X : Cx} {G : Gx} {e : Expr} {s : Rho → Rs Vl}
theorem asB_t {σ : L2.St} {H : Hp} {Q : Bool → Hp → Prop} (h : tT G (asB s) σ H Q) : tE G s σ H (fun v H' => ∃ k, v = .bl k ∧ Q k H') := by
  obtain ⟨ρ, F, O, w, h⟩ := h
  exact tG.bind w h fun x ρ1 v H1 F1 _ w1 s1 rx h1 => boolOf_fin w1 rx h1
/-- where isTrue has no arm of its own -/
theorem DE.val (h : PE X e (tE G s)) (he : ∀ whole, isTrue e X.env whole = (do let v ← whole; standAt e.pos; holding [v] (truthy v))) : DE X G e s :=
  ⟨h, PT.imp (pt_val h he) fun _ _ _ q => asB_t q⟩
end

/-! ### names and constants -/
def sVar (i : Nat) : Rho → Rs Vl := fun ρ =>
  match ρ[i]? with
  | some (Cell.val d) => .ok (.d d) ρ
  | some (Cell.own _ _) => .ok (.bv i) ρ
  | some (Cell.lck _ _) => .ok (.bv i) ρ
  | _ => .bad
def sC (d : D) : Rho → Rs Vl := fun ρ => .ok (.d d) ρ
section
variable {X : Cx} {G : Gx}
theorem de_var {i : Nat} {x : Str} {pos : Pos} (hN : X.N[i]? = some x) (hv : Vis X.env.scope x) (hd : (x == ("__debug__" : Str)) = false) (hcd : (x == ("__classdict__" : Str)) = false) : DE X G (.Name x pos) (sVar i) := by
  refine .val (PE.imp (pe_var hN hv hd hcd) fun σ H Q h => ?_) fun _ => rfl
  obtain ⟨ρ, F, O, w, h⟩ := h
  unfold sVar at h
  cases e : ρ[i]? with
  | none => rw [e] at h; exact h.elim
  | some c =>
    rw [e] at h
    cases c with
    | no => exact h.elim
    | val d =>
      obtain ⟨v, h1, h2⟩ := w.val i d e
      exact ⟨v, h1, h v H F w (Sub.refl _) h2⟩
    | own p d =>
      obtain ⟨a, h1, h2⟩ := w.own i _ d e rfl
      exact ⟨_, h1, h _ H F w (Sub.refl _) h1⟩
    | lck p d =>
      obtain ⟨a, h1, h2⟩ := w.own i _ d e rfl
      exact ⟨_, h1, h _ H F w (Sub.refl _) h1⟩
theorem de_c {e : Expr} {v : V} {d : D} (h : PE X e (tC v)) (r : ∀ F, Rp G.K F v d) (he : ∀ whole, isTrue e X.env whole = (do let v ← whole; standAt e.pos; holding [v] (truthy v))) : DE X G e (sC d) := by
  refine .val (PE.imp h fun σ H Q q => ?_) he
  obtain ⟨ρ, F, O, w, q⟩ := q
  exact q v H F w (Sub.refl _) (r F)
theorem de_int {i : Int} {j pos} : DE X G (.Constant (.int i) j pos) (sC (.int i)) := de_c pe_int (fun _ => .int i) fun _ => rfl
theorem de_bl {i : Bool} {j pos} : DE X G (.Constant (.bool i) j pos) (sC (.bool i)) := de_c pe_bl (fun _ => .bl i) fun _ => rfl
theorem de_non {j pos} : DE X G (.Constant .none j pos) (sC .none) := de_c pe_non (fun _ => .non) fun _ => rfl
theorem de_str {x : Str} {j pos} : DE X G (.Constant (.str x) j pos) (sC (.str x)) := de_c pe_str (fun _ => .str x) fun _ => rfl
/-- a module's constant -/
theorem de_glob {x : Str} {v : V} {u : Value} {d : D} {pos : Pos} (hg : Gl X x) (hm : X.mg x = some u) (r : RelV v u) (q : ∀ F, Rp G.K F v d) (hd : (x == ("__debug__" : Str)) = false) : DE X G (.Name x pos) (sC d) :=
  de_c (pe_glob hg hm r hd) q fun _ => rfl

/-! ### comparisons with tests -/
variable {a b c : Expr} {sa sb sc : Rho → Rs Vl} {pos : Pos}
theorem dd_cmp {op : CmpOp} {r : R2} {f : D → D → Option D} (ho : OpR X (compareOp op) r) (hm : behindInMarks op b = false)
    (hr : ∀ {F : Hp} {O : Fm} {ρ : Rho} {σ : L2.St} {H : Hp} {v u : V} {x y z : D} {Q : VK}, Wd G.K F O ρ σ H → At G.K F H v x → At G.K F H u y → f x y = some z → Post G F O ρ σ Q z → r v u H Q)
    (ha : DE X G a sa) (hb : DE X G b sb) : DE X G (.Compare a [op] [b] pos) (sBin f sa sb) := by
  have i : ∀ σ H Q, tE G (sBin f sa sb) σ H Q → tOp r (tE G sa) (tE G sb) σ H Q := fun σ H Q h => by
    obtain ⟨ρ, F, O, w, h⟩ := h
    refine tG.bind w h fun x ρ1 v H1 F1 _ w1 s1 rx h1 => tG.bind w1 h1 fun y ρ2 u H2 F2 _ w2 s2 ry h2 => ?_
    obtain ⟨p, q, z, hp, hq, e, k⟩ := two_fin w2 (rx.mono s2) ry h2
    exact hr w2 hp hq e k
  exact ⟨PE.imp (pe_cmpR ho ha.pe hb.pe hm) i, PT.imp (pt_cmpR ho ha.pe hb.pe hm) fun σ H Q h => i _ _ _ (asB_t h)⟩
/-- what a comparison of values asks, for chains -/
def CmpOk (X : Cx) (G : Gx) (op : CmpOp) (f : D → D → Option D) : Prop := ∃ r : R2, OpR X (compareOp op) r ∧
  ∀ {F : Hp} {O : Fm} {ρ : Rho} {σ : L2.St} {H : Hp} {v u : V} {x y z : D} {Q : VK}, Wd G.K F O ρ σ H → At G.K F H v x → At G.K F H u y → f x y = some z → Post G F O ρ σ Q z → r v u H Q
theorem CmpOk.de {op : CmpOp} {f : D → D → Option D} (h : CmpOk X G op f) (hm : behindInMarks op b = false) (ha : DE X G a sa) (hb : DE X G b sb) : DE X G (.Compare a [op] [b] pos) (sBin f sa sb) :=
  let ⟨_, ho, hr⟩ := h
  dd_cmp ho hm hr ha hb
theorem cmp_eq (hK : X.K = G.K) (hu : X.A.units + 200 < cLine) : CmpOk X G .Eq eqD := by
  refine ⟨_, op_eqA hu, fun {F O ρ σ H v u x y z Q} w ax ay e p => ?_⟩
  obtain ⟨h1, rfl⟩ := ifs e
  obtain ⟨p1, p2, p3⟩ := eqOk_iff.mp h1
  rw [hK]
  exact ⟨x, y, ax.dp w.f p1, ay.dp w.f p2, p1, p2, p3, p.now w (.bl _)⟩
theorem cmp_ne (hK : X.K = G.K) (hu : X.A.units + 200 < cLine) : CmpOk X G .NotEq neD := by
  refine ⟨_, op_neA hu, fun {F O ρ σ H v u x y z Q} w ax ay e p => ?_⟩
  obtain ⟨h1, rfl⟩ := ifs e
  obtain ⟨p1, p2, p3⟩ := eqOk_iff.mp h1
  rw [hK]
  exact ⟨x, y, ax.dp w.f p1, ay.dp w.f p2, p1, p2, p3, p.now w (.bl _)⟩
theorem cmp_int {op : CmpOp} {p : Int → Int → Bool} (ho : OpR X (compareOp op) (rI0 fun i j => .bl (p i j))) : CmpOk X G op (onInts fun i j => some (.bool (p i j))) := by
  refine ⟨_, ho, fun {F O ρ σ H v u x y z Q} w ax ay e k => ?_⟩
  obtain ⟨i, j, rfl, rfl, rfl, rfl, e⟩ := int2 (G := G) (f := fun i j => some (.bool (p i j))) ax ay e
  cases e
  exact ⟨i, j, rfl, rfl, k.now w (.bl _)⟩
/-- is None, is not None; is of two truth values -/
def isNon : D → Bool
  | .none => true
  | _ => false
def isD : D → D → Option D
  | x, .none => some (.bool (isNon x))
  | .bool a, .bool b => some (.bool (decide (a = b)))
  | _, _ => none
def isnD : D → D → Option D
  | x, .none => some (.bool (!isNon x))
  | .bool a, .bool b => some (.bool (!decide (a = b)))
  | _, _ => none
theorem At.isN {K : PySem.W.Frag} {F H : Hp} {v : V} {x : D} (h : At K F H v x) : decide (v = .non) = isNon x := by
  rcases h with h | ⟨a, rfl, h⟩
  · cases h <;> first | rfl | (simp [scrD, isNon])
  · cases x with
    | none => exact h.elim
    | _ => first | rfl | (simp [isNon])
theorem cmp_is : CmpOk X G .Is isD := by
  refine ⟨_, op_isN.or op_isBl, fun {F O ρ σ H v u x y z Q} w ax ay e k => ?_⟩
  cases y with
  | none =>
    have e : some (PyData.bool (isNon x)) = some z := by cases x <;> exact e
    cases e
    refine .inl ⟨ay.non, ?_⟩
    rw [ax.isN]
    exact k.now w (.bl _)
  | bool b =>
    cases x with
    | bool a =>
      have e : some (PyData.bool (decide (a = b))) = some z := e
      cases e
      exact .inr ⟨a, b, ax.bool, ay.bool, k.now w (.bl _)⟩
    | _ => cases e
  | _ => cases x <;> cases e
theorem cmp_isn : CmpOk X G .IsNot isnD := by
  refine ⟨_, op_notN.or op_notBl, fun {F O ρ σ H v u x y z Q} w ax ay e k => ?_⟩
  cases y with
  | none =>
    have e : some (PyData.bool (!isNon x)) = some z := by cases x <;> exact e
    cases e
    refine .inl ⟨ay.non, ?_⟩
    rw [ax.isN]
    exact k.now w (.bl _)
  | bool b =>
    cases x with
    | bool a =>
      have e : some (PyData.bool (!decide (a = b))) = some z := e
      cases e
      exact .inr ⟨a, b, ax.bool, ay.bool, k.now w (.bl _)⟩
    | _ => cases e
  | _ => cases x <;> cases e
/-- in a list or tuple -/
def inOk (x : D) (ys : List D) : Bool := x.plain && PyData.plainAll ys && decide (min (PyData.depthAll ys) x.depth ≤ 150)
theorem inOk_iff {x : D} {ys : List D} : inOk x ys = true ↔ x.plain = true ∧ PyData.plainAll ys = true ∧ min (PyData.depthAll ys) x.depth ≤ 150 := by simp only [inOk, Bool.and_eq_true, decide_eq_true_eq, and_assoc]
def inL (x : D) (ys : List D) : Bool := ys.any fun y => PyData.eqv y x
def inD (neg : Bool) : D → D → Option D
  | x, .list ys => if inOk x ys then some (.bool (inL x ys != neg)) else none
  | x, .tuple ys => if inOk x ys then some (.bool (inL x ys != neg)) else none
  | .str x, .str y => some (.bool ((!(Builtin.Str.occurrences y x 0 y.length 1).isEmpty) != neg))
  | _, _ => none
def rInA (K : PySem.W.Frag) (neg : Bool) : R2 := fun x y H Q => ∃ d e ys, Dp K H x d ∧ Dp K H y e ∧ (e = .list ys ∨ e = .tuple ys) ∧ d.plain = true ∧ PyData.plainAll ys = true ∧ min (PyData.depthAll ys) d.depth ≤ 150 ∧ Q (.bl (inL d ys != neg)) H
theorem op_inA (hu : X.A.units + 200 < cLine) : OpR X (compareOp .In) (rInA X.K false) := by
  intro pins sh σ H x y v u Q I rx ry asks
  obtain ⟨d, e, ys, hd, he, hy, sd, se, hm, q⟩ := asks
  obtain ⟨fst, r1⟩ := Dp.reads I d x v hd rx
  obtain ⟨snd, r2⟩ := Dp.reads I e y u he ry
  have q' : Q (.bl (ys.any fun y => PyData.eqv y d)) H := by simpa [inL] using q
  rcases hy with rfl | rfl
  · exact SeqAt.in_list_data r2 r1 se sd (by omega) ⟨.bl _, H, I, rfl, q'⟩
  · exact SeqAt.in_tuple_data r2 r1 se sd (by omega) ⟨.bl _, H, I, rfl, q'⟩
theorem op_notInA (hu : X.A.units + 200 < cLine) : OpR X (compareOp .NotIn) (rInA X.K true) := by
  intro pins sh σ H x y v u Q I rx ry asks
  obtain ⟨d, e, ys, hd, he, hy, sd, se, hm, q⟩ := asks
  obtain ⟨fst, r1⟩ := Dp.reads I d x v hd rx
  obtain ⟨snd, r2⟩ := Dp.reads I e y u he ry
  have q' : Q (.bl (!ys.any fun y => PyData.eqv y d)) H := by simpa [inL] using q
  rcases hy with rfl | rfl
  · exact SeqAt.notIn_list_data r2 r1 se sd (by omega) ⟨.bl _, H, I, rfl, q'⟩
  · exact SeqAt.notIn_tuple_data r2 r1 se sd (by omega) ⟨.bl _, H, I, rfl, q'⟩
theorem in_at {neg : Bool} (hK : X.K = G.K) {F : Hp} {O : Fm} {ρ : Rho} {σ : L2.St} {H : Hp} {v u : V} {x y z : D} {Q : VK} (w : Wd G.K F O ρ σ H) (ax : At G.K F H v x) (ay : At G.K F H u y) (e : inD neg x y = some z) (k : Post G F O ρ σ Q z) :
    rInA X.K neg v u H Q ∨ ∃ i j, v = .str i ∧ u = .str j ∧ Q (.bl ((!(Builtin.Str.occurrences j i 0 j.length 1).isEmpty) != neg)) H := by
  have seq : ∀ ys, (y = .list ys ∨ y = .tuple ys) → (if inOk x ys then some (PyData.bool (inL x ys != neg)) else none) = some z → rInA X.K neg v u H Q := fun ys hy e => by
    obtain ⟨h1, rfl⟩ := ifs e
    obtain ⟨p1, p2, p3⟩ := inOk_iff.mp h1
    rw [hK]
    exact ⟨x, y, ys, ax.dp w.f p1, ay.dp w.f (by rcases hy with rfl | rfl <;> simpa only [PyData.plain] using p2), hy, p1, p2, p3, k.now w (.bl _)⟩
  cases y with
  | list ys => exact .inl (seq ys (.inl rfl) (by cases x <;> exact e))
  | tuple ys => exact .inl (seq ys (.inr rfl) (by cases x <;> exact e))
  | str j =>
    cases x with
    | str i =>
      cases e
      exact .inr ⟨i, j, ax.str, ay.str, k.now w (.bl _)⟩
    | _ => cases e
  | _ => cases x <;> cases e
theorem cmp_in (hK : X.K = G.K) (hu : X.A.units + 200 < cLine) : CmpOk X G .In (inD false) := by
  refine ⟨_, (op_inA hu).or op_in_str, fun {F O ρ σ H v u x y z Q} w ax ay e k => ?_⟩
  rcases in_at hK w ax ay e k with h | ⟨i, j, h1, h2, h3⟩
  · exact .inl h
  · exact .inr ⟨i, j, h1, h2, by simpa using h3⟩
theorem cmp_notin (hK : X.K = G.K) (hu : X.A.units + 200 < cLine) : CmpOk X G .NotIn (inD true) := by
  refine ⟨_, (op_notInA hu).or op_notin_str, fun {F O ρ σ H v u x y z Q} w ax ay e k => ?_⟩
  rcases in_at hK w ax ay e k with h | ⟨i, j, h1, h2, h3⟩
  · exact .inl h
  · exact .inr ⟨i, j, h1, h2, by simpa using h3⟩
end
end L3
/-! L3, part 5: chains, and, or, not, if, arguments, displays, items, slices. -/
namespace L3
open PySem PySem.Spec PyProof.Rows L2

/-! ### freezing -/
def frz : Vl → Rho → Rs D
  | .d x, ρ => .ok x ρ
  | .bv i, ρ =>
    match ρ[i]? with
    | some (Cell.val d) => .ok d ρ
    | some (Cell.own _ d) => .ok d (ρ.set i (.val d))
    | _ => .bad
def frzs : List Vl → Rho → Rs (List D)
  | [], ρ => .ok [] ρ
  | x :: xs, ρ => (frz x ρ).bind fun d ρ => (frzs xs ρ).bind fun ds ρ => .ok (d :: ds) ρ
section
variable {K : PySem.W.Frag} {O : Fm} {σ : L2.St} {H : Hp}
theorem frz_ok {F : Hp} {ρ ρ' : Rho} {v : V} {x : Vl} {d : D} (w : Wd K F O ρ σ H) (r : RV K F σ v x) (e : frz x ρ = .ok d ρ') : ∃ F', Wd K F' O ρ' σ H ∧ Sub F F' ∧ Rp K F' v d := by
  cases x with
  | d x => cases e; exact ⟨F, w, Sub.refl _, r⟩
  | bv i =>
    have r : σ[i]? = some (some v) := r
    unfold frz at e
    dsimp only at e
    cases q : ρ[i]? with
    | none => rw [q] at e; cases e
    | some c =>
      rw [q] at e
      cases c with
      | no => cases e
      | lck p y => cases e
      | val y =>
        cases e
        obtain ⟨u, h1, h2⟩ := w.val i d q
        rw [r] at h1; cases h1
        exact ⟨F, w, Sub.refl _, h2⟩
      | own p y =>
        cases e
        obtain ⟨F', u, w', s, h1, h2⟩ := w.freeze q
        rw [r] at h1; cases h1
        exact ⟨F', w', s, h2⟩
theorem frz_noerr {x : Vl} {ρ ρ' : Rho} {y : Xn} : frz x ρ ≠ .err y ρ' := by
  intro e
  unfold frz at e
  split at e
  · cases e
  · split at e <;> cases e
theorem frzs_noerr : ∀ {xs : List Vl} {ρ ρ' : Rho} {y : Xn}, frzs xs ρ ≠ .err y ρ'
  | [], _, _, _, e => by cases e
  | x :: xs, ρ, ρ', y, e => by
    unfold frzs at e
    cases h : frz x ρ with
    | ok d ρ1 =>
      rw [h, Rs.bind_ok] at e
      cases h2 : frzs xs ρ1 with
      | ok ds ρ2 => rw [h2] at e; cases e
      | err z ρ2 => exact frzs_noerr h2
      | bad => rw [h2] at e; cases e
    | err z ρ1 => exact frz_noerr h
    | bad => rw [h] at e; cases e
theorem frzs_ok : ∀ {xs : List Vl} {vs : List V} {F : Hp} {ρ ρ' : Rho} {ds : List D}, Wd K F O ρ σ H → RVs K F σ vs xs → frzs xs ρ = .ok ds ρ' → ∃ F', Wd K F' O ρ' σ H ∧ Sub F F' ∧ RpL K F' vs ds
  | [], [], F, ρ, ρ', ds, w, _, e => by cases e; exact ⟨F, w, Sub.refl _, .nil⟩
  | x :: xs, v :: vs, F, ρ, ρ', ds, w, r, e => by
    unfold frzs at e
    cases h : frz x ρ with
    | ok d ρ1 =>
      rw [h, Rs.bind_ok] at e
      obtain ⟨F1, w1, s1, r1⟩ := frz_ok w r.1 h
      cases h2 : frzs xs ρ1 with
      | ok ds2 ρ2 =>
        rw [h2] at e; cases e
        obtain ⟨F2, w2, s2, r2⟩ := frzs_ok w1 (r.2.mono s1) h2
        exact ⟨F2, w2, s1.trans s2, .cons (r1.mono s2) r2⟩
      | err z ρ2 => exact absurd h2 frzs_noerr
      | bad => rw [h2] at e; cases e
    | err z ρ1 => exact absurd h frz_noerr
    | bad => rw [h] at e; cases e
theorem frzs_len : ∀ {xs : List Vl} {ρ ρ' : Rho} {ds : List D}, frzs xs ρ = .ok ds ρ' → ds.length = xs.length
  | [], _, _, _, e => by cases e; rfl
  | x :: xs, ρ, ρ', ds, e => by
    unfold frzs at e
    cases h : frz x ρ with
    | ok d ρ1 =>
      rw [h, Rs.bind_ok] at e
      cases h2 : frzs xs ρ1 with
      | ok ds2 ρ2 =>
        rw [h2] at e; cases e
        rw [List.length_cons, List.length_cons, frzs_len h2]
      | err z ρ2 => rw [h2] at e; cases e
      | bad => rw [h2] at e; cases e
    | err z ρ1 => rw [h] at e; cases e
    | bad => rw [h] at e; cases e
end
/-- behind freezing -/
theorem frz_fin {G : Gx} {α β : Type} {rel : PySem.W.Frag → Hp → L2.St → β → α → Prop} {F H : Hp} {O : Fm} {σ : L2.St} {ρ : Rho} {Q : β → Hp → Prop} {x : Vl} {v : V} {f : D → Rho → Rs α} (w : Wd G.K F O ρ σ H) (r : RV G.K F σ v x)
    (h : Fin G rel F O σ Q ((frz x ρ).bind f)) : ∃ d ρ' F', Wd G.K F' O ρ' σ H ∧ Sub F F' ∧ Rp G.K F' v d ∧ Fin G rel F' O σ Q (f d ρ') := by
  cases e : frz x ρ with
  | ok d ρ' =>
    rw [e] at h
    obtain ⟨F', w', s, r'⟩ := frz_ok w r e
    exact ⟨d, ρ', F', w', s, r', Fin.mono s h⟩
  | err z ρ' => exact absurd e frz_noerr
  | bad => rw [e] at h; exact h.elim
theorem frzs_fin {G : Gx} {α β : Type} {rel : PySem.W.Frag → Hp → L2.St → β → α → Prop} {F H : Hp} {O : Fm} {σ : L2.St} {ρ : Rho} {Q : β → Hp → Prop} {xs : List Vl} {vs : List V} {f : List D → Rho → Rs α} (w : Wd G.K F O ρ σ H) (r : RVs G.K F σ vs xs)
    (h : Fin G rel F O σ Q ((frzs xs ρ).bind f)) : ∃ ds ρ' F', Wd G.K F' O ρ' σ H ∧ Sub F F' ∧ RpL G.K F' vs ds ∧ Fin G rel F' O σ Q (f ds ρ') := by
  cases e : frzs xs ρ with
  | ok d ρ' =>
    rw [e] at h
    obtain ⟨F', w', s, r'⟩ := frzs_ok w r e
    exact ⟨d, ρ', F', w', s, r', Fin.mono s h⟩
  | err z ρ' => exact absurd e frzs_noerr
  | bad => rw [e] at h; exact h.elim

section
variable {X : Cx} {G : Gx} {a b c : Expr} {sa sb sc : Rho → Rs Vl} {pos : Pos}
/-! ### chains -/
def sChain (f g : D → D → Option D) (a b c : Rho → Rs Vl) : Rho → Rs Vl := fun ρ => (a ρ).bind fun x ρ => (b ρ).bind fun y ρ =>
  match (x.cont ρ).bind fun p => (y.cont ρ).bind fun q => f p q with
  | some (.bool true) => (c ρ).bind fun z ρ => two ρ y z g
  | some (.bool false) => .ok (.d (.bool false)) ρ
  | _ => .bad
theorem CmpOk.chain {op op' : CmpOp} {f g : D → D → Option D} (h : CmpOk X G op f) (h' : CmpOk X G op' g) (hm : lastMarks [op, op'] [b, c] = false) (ha : DE X G a sa) (hb : DE X G b sb) (hc : DE X G c sc) :
    DE X G (.Compare a [op, op'] [b, c] pos) (sChain f g sa sb sc) := by
  obtain ⟨r, ho, hr⟩ := h
  obtain ⟨r', ho', hr'⟩ := h'
  have i : ∀ σ H Q, tE G (sChain f g sa sb sc) σ H Q → tChain r r' (tE G sa) (tE G sb) (tE G sc) σ H Q := fun σ H Q h => by
    obtain ⟨ρ, F, O, w, h⟩ := h
    refine tG.bind w h fun x ρ1 v H1 F1 _ w1 s1 rx h1 => tG.bind w1 h1 fun y ρ2 u H2 F2 _ w2 s2 ry h2 => ?_
    cases ea : x.cont ρ2 with
    | none => rw [ea] at h2; exact h2.elim
    | some p =>
      cases eb : y.cont ρ2 with
      | none => rw [ea, eb] at h2; exact h2.elim
      | some q =>
        rw [ea, eb] at h2
        simp only [Option.bind_some] at h2
        cases ef : f p q with
        | none => rw [ef] at h2; exact h2.elim
        | some z =>
          rw [ef] at h2
          cases z with
          | bool k =>
            refine hr w2 (w2.at (rx.mono s2) ea) (w2.at ry eb) ef fun z3 H3 F3 w3 s3 r3 => ?_
            cases r3
            refine ⟨k, rfl, ?_⟩
            cases k with
            | true =>
              rw [if_pos rfl]
              have h3 := Fin.mono s3 h2
              refine tG.bind w3 h3 fun z ρ4 t H4 F4 _ w4 s4 rz h4 => ?_
              obtain ⟨p', q', z', hp, hq, e, k⟩ := two_fin w4 ((ry.mono s3).mono s4) rz h4
              exact hr' w4 hp hq e k
            | false =>
              rw [if_neg (by decide)]
              exact h2 (.bl false) H3 F3 w3 s3 (Rp.bl false)
          | _ => exact h2.elim
  exact ⟨PE.imp (pe_chain ho ho' ha.pe hb.pe hc.pe hm) i, PT.imp (pt_chain ho ho' ha.pe hb.pe hc.pe hm) fun σ H Q h => i _ _ _ (asB_t h)⟩

/-! ### not, and, or, if -/
def sNot (a : Rho → Rs Vl) : Rho → Rs Vl := fun ρ => (asB a ρ).bind fun k ρ => .ok (.d (.bool (!k))) ρ
def sAnd (a b : Rho → Rs Vl) : Rho → Rs Vl := fun ρ => (asB a ρ).bind fun k ρ => if k then b ρ else .ok (.d (.bool false)) ρ
def sOr (a b : Rho → Rs Vl) : Rho → Rs Vl := fun ρ => (asB a ρ).bind fun k ρ => if k then .ok (.d (.bool true)) ρ else b ρ
def sIf (c a b : Rho → Rs Vl) : Rho → Rs Vl := fun ρ => (asB c ρ).bind fun k ρ => if k then a ρ else b ρ
/-- a part as a truth value, then the rest -/
theorem asB_bind {α β : Type} {rel : PySem.W.Frag → Hp → L2.St → β → α → Prop} {F H : Hp} {O : Fm} {σ : L2.St} {ρ : Rho} {Q : β → Hp → Prop} {s : Rho → Rs Vl} {f : Bool → Rho → Rs α} (w : Wd G.K F O ρ σ H) (h : Fin G rel F O σ Q ((asB s ρ).bind f))
    {Q' : VK} (hQ : ∀ k ρ1 H1 F1, Wd G.K F1 O ρ1 σ H1 → Sub F F1 → Fin G rel F1 O σ Q (f k ρ1) → Q' (.bl k) H1) : tE G s σ H Q' := by
  refine ⟨ρ, F, O, w, ?_⟩
  unfold asB at h
  cases e : s ρ with
  | ok a ρ1 =>
    rw [e, Rs.bind_ok] at h
    intro v H1 F1 w1 s1 r1
    cases ec : a.cont ρ1 with
    | none => rw [ec] at h; exact h.elim
    | some d =>
      rw [ec] at h
      cases d with
      | bool k =>
        rw [(w1.at r1 ec).bool]
        exact hQ k ρ1 H1 F1 w1 s1 (Fin.mono s1 h)
      | _ => exact h.elim
  | err x ρ1 => rw [e] at h; exact h
  | bad => rw [e] at h; exact h
theorem asT_bind {α β : Type} {rel : PySem.W.Frag → Hp → L2.St → β → α → Prop} {F H : Hp} {O : Fm} {σ : L2.St} {ρ : Rho} {Q : β → Hp → Prop} {s : Rho → Rs Vl} {f : Bool → Rho → Rs α} (w : Wd G.K F O ρ σ H) (h : Fin G rel F O σ Q ((asB s ρ).bind f))
    {Q' : Bool → Hp → Prop} (hQ : ∀ k ρ1 H1 F1, Wd G.K F1 O ρ1 σ H1 → Sub F F1 → Fin G rel F1 O σ Q (f k ρ1) → Q' k H1) : tT G (asB s) σ H Q' :=
  tG.bind w h fun k ρ1 v H1 F1 _ w1 s1 r1 h1 => by
    have e : v = k := r1
    subst e
    exact hQ v ρ1 H1 F1 w1 s1 h1
theorem asB_assoc {s : Rho → Rs Vl} {f : Bool → Rho → Rs Vl} {ρ : Rho} : asB (fun ρ => (asB s ρ).bind f) ρ = (asB s ρ).bind fun k ρ => asB (f k) ρ := by
  unfold asB
  dsimp only
  cases (s ρ) with
  | ok a ρ1 =>
    simp only [Rs.bind_ok]
    cases boolOf (a.cont ρ1) ρ1 <;> rfl
  | err x ρ1 => rfl
  | bad => rfl
theorem asB_c {k : Bool} {ρ : Rho} : asB (fun ρ => Rs.ok (Vl.d (.bool k)) ρ) ρ = .ok k ρ := rfl
theorem de_not (ha : DE X G a sa) : DE X G (.UnaryOp .Not a pos) (sNot sa) := by
  refine ⟨PE.imp (pe_not ha.pe) fun σ H Q h => ?_, PT.imp (pt_not ha.pt) fun σ H Q h => ?_⟩
  · obtain ⟨ρ, F, O, w, h⟩ := h
    exact asB_bind w h fun k ρ1 H1 F1 w1 s1 h1 => ⟨k, rfl, h1 _ H1 F1 w1 (Sub.refl _) (Rp.bl _)⟩
  · obtain ⟨ρ, F, O, w, h⟩ := h
    have e : asB (sNot sa) ρ = (asB sa ρ).bind fun k ρ => .ok (!k) ρ := asB_assoc
    rw [e] at h
    exact asT_bind w h fun k ρ1 H1 F1 w1 s1 h1 => h1 _ H1 F1 w1 (Sub.refl _) rfl
/-- a row of and, or -/
structure DW (X : Cx) (G : Gx) (e : Expr) (s : Rho → Rs Vl) : Prop where
  pe : PE X e (tE G s)
  pw : PW X e (tT G (asB s))
theorem DW.de {e : Expr} {s : Rho → Rs Vl} (h : DW X G e s) : DE X G e s := ⟨h.pe, h.pw.pt⟩
theorem PW.imp {X : Cx} {e : Expr} {t t' : TT} (h : PW X e t) (i : ∀ σ H Q, t' σ H Q → t σ H Q) : PW X e t' := ⟨fun wh pins s σ H Q I q => h.run wh pins s σ H Q I (i _ _ _ q)⟩
variable {rest : List Expr}
theorem dw_and1 (ha : DE X G a sa) : DW X G (.BoolOp .And [a] pos) sa := ⟨pe_one ha.pe, pw_and1 ha.pt⟩
theorem dw_or1 (ha : DE X G a sa) : DW X G (.BoolOp .Or [a] pos) sa := ⟨pe_one ha.pe, pw_or1 ha.pt⟩
theorem dw_and (ha : DE X G a sa) (hb : DW X G (.BoolOp .And (b :: rest) pos) sb) : DW X G (.BoolOp .And (a :: b :: rest) pos) (sAnd sa sb) := by
  refine ⟨PE.imp (pe_and ha.pe hb.pe) fun σ H Q h => ?_, PW.imp (pw_and ha.pt hb.pw) fun σ H Q h => ?_⟩
  · obtain ⟨ρ, F, O, w, h⟩ := h
    refine asB_bind w h fun k ρ1 H1 F1 w1 s1 h1 => ⟨k, rfl, ?_⟩
    cases k with
    | true => rw [if_pos rfl]; exact ⟨ρ1, F1, O, w1, h1⟩
    | false => rw [if_neg (by decide)]; exact h1 _ H1 F1 w1 (Sub.refl _) (Rp.bl _)
  · obtain ⟨ρ, F, O, w, h⟩ := h
    have e : asB (sAnd sa sb) ρ = (asB sa ρ).bind fun k ρ => asB (fun ρ => if k then sb ρ else .ok (.d (.bool false)) ρ) ρ := asB_assoc
    rw [e] at h
    refine asT_bind w h fun k ρ1 H1 F1 w1 s1 h1 => ?_
    cases k with
    | true => rw [if_pos rfl]; exact ⟨ρ1, F1, O, w1, h1⟩
    | false => rw [if_neg (by decide)]; exact h1 _ H1 F1 w1 (Sub.refl _) rfl
theorem dw_or (ha : DE X G a sa) (hb : DW X G (.BoolOp .Or (b :: rest) pos) sb) : DW X G (.BoolOp .Or (a :: b :: rest) pos) (sOr sa sb) := by
  refine ⟨PE.imp (pe_or ha.pe hb.pe) fun σ H Q h => ?_, PW.imp (pw_or ha.pt hb.pw) fun σ H Q h => ?_⟩
  · obtain ⟨ρ, F, O, w, h⟩ := h
    refine asB_bind w h fun k ρ1 H1 F1 w1 s1 h1 => ⟨k, rfl, ?_⟩
    cases k with
    | true => rw [if_pos rfl]; exact h1 _ H1 F1 w1 (Sub.refl _) (Rp.bl _)
    | false => rw [if_neg (by decide)]; exact ⟨ρ1, F1, O, w1, h1⟩
  · obtain ⟨ρ, F, O, w, h⟩ := h
    have e : asB (sOr sa sb) ρ = (asB sa ρ).bind fun k ρ => asB (fun ρ => if k then .ok (.d (.bool true)) ρ else sb ρ) ρ := asB_assoc
    rw [e] at h
    refine asT_bind w h fun k ρ1 H1 F1 w1 s1 h1 => ?_
    cases k with
    | true => rw [if_pos rfl]; exact h1 _ H1 F1 w1 (Sub.refl _) rfl
    | false => rw [if_neg (by decide)]; exact ⟨ρ1, F1, O, w1, h1⟩
theorem pe_if (hc : DE X G c sc) (ha : PE X a (tE G sa)) (hb : PE X b (tE G sb)) : PE X (.IfExp c a b pos) (tE G (sIf sc sa sb)) := by
  refine PE.imp (pe_ifExp hc.pt ha hb) fun σ H Q h => ?_
  obtain ⟨ρ, F, O, w, h⟩ := h
  refine asT_bind w h fun k ρ1 H1 F1 w1 s1 h1 => ?_
  cases k with
  | true => rw [if_pos rfl]; exact ⟨ρ1, F1, O, w1, h1⟩
  | false => rw [if_neg (by decide)]; exact ⟨ρ1, F1, O, w1, h1⟩

/-! ### arguments, displays -/
def sNil : Rho → Rs (List Vl) := fun ρ => .ok [] ρ
def sCons (a : Rho → Rs Vl) (r : Rho → Rs (List Vl)) : Rho → Rs (List Vl) := fun ρ => (a ρ).bind fun x ρ => (r ρ).bind fun xs ρ => .ok (x :: xs) ρ
def itemsD : D → Option (List D)
  | .list xs => some xs
  | .tuple xs => some xs
  | _ => none
def sStar (a : Rho → Rs Vl) (r : Rho → Rs (List Vl)) : Rho → Rs (List Vl) := fun ρ => (a ρ).bind fun x ρ =>
  match (x.cont ρ).bind itemsD with
  | some ds => (r ρ).bind fun xs ρ => .ok (ds.map Vl.d ++ xs) ρ
  | none => .bad
theorem RVs.app {K : PySem.W.Frag} {F : Hp} {σ : L2.St} : ∀ {vs us : List V} {xs ys : List Vl}, RVs K F σ vs xs → RVs K F σ us ys → RVs K F σ (vs ++ us) (xs ++ ys)
  | [], _, [], _, _, h => h
  | _ :: _, _, _ :: _, _, h, h' => ⟨h.1, RVs.app h.2 h'⟩
theorem RVs.ofL {K : PySem.W.Frag} {F : Hp} {σ : L2.St} : ∀ {vs : List V} {ds : List D}, RpL K F vs ds → RVs K F σ vs (ds.map Vl.d)
  | _, _, .nil => trivial
  | _, _, .cons h r => ⟨h, RVs.ofL r⟩
variable {e : Expr} {es : List Expr} {se : Rho → Rs Vl} {ss : Rho → Rs (List Vl)}
theorem da_nil : PA X [] (tA G sNil) := PA.imp pa_nil fun σ H Q h => by
  obtain ⟨ρ, F, O, w, h⟩ := h
  exact h [] H F w (Sub.refl _) trivial
theorem da_cons (he : PE X e (tE G se)) (hr : PA X es (tA G ss)) (hs : starEach (e :: es) X.env = (false, eval e X.env) :: starEach es X.env) : PA X (e :: es) (tA G (sCons se ss)) := by
  refine PA.imp (pa_cons he hr hs) fun σ H Q h => ?_
  obtain ⟨ρ, F, O, w, h⟩ := h
  refine tG.bind w h fun x ρ1 v H1 F1 _ w1 s1 rx h1 => tG.bind w1 h1 fun xs ρ2 vs H2 F2 _ w2 s2 rs h2 => ?_
  exact h2 _ H2 F2 w2 (Sub.refl _) ⟨rx.mono s2, rs⟩
theorem da_star {p : Pos} (hK : X.K = G.K) (he : PE X e (tE G se)) (hr : PA X es (tA G ss)) : PA X (.Starred e p :: es) (tA G (sStar se ss)) := by
  refine PA.imp (StX.pa_star he hr) fun σ H Q h => ?_
  obtain ⟨ρ, F, O, w, h⟩ := h
  refine tG.bind w h fun x ρ1 v H1 F1 _ w1 s1 rx h1 => ?_
  cases ec : (x.cont ρ1).bind itemsD with
  | none => rw [ec] at h1; exact h1.elim
  | some ds =>
    rw [ec] at h1
    obtain ⟨d, e1, e2⟩ := Option.bind_eq_some_iff.mp ec
    have at1 := w1.at rx e1
    have fin : ∀ a vs, v = .ref a → (SqT G.K H1 a vs ∨ SqL G.K H1 a vs) → RpL G.K F1 vs ds → ∃ p xs, v = V.ref p ∧ (SqT X.K H1 p xs ∨ SqL X.K H1 p xs) ∧ tA G ss σ H1 fun ys H2 => Q (xs ++ ys) H2 := fun a vs ev hs r =>
      ⟨a, vs, ev, by rw [hK]; exact hs, tG.bind w1 h1 fun xs ρ2 us H2 F2 _ w2 s2 rs h2 => h2 _ H2 F2 w2 (Sub.refl _) (RVs.app (RVs.ofL (r.mono s2)) rs)⟩
    cases d with
    | list xs =>
      cases e2
      obtain ⟨a, vs, ev, q, r⟩ := at1.list w1.f
      exact fin a vs ev (.inr (SqL.of q)) r
    | tuple xs =>
      cases e2
      obtain ⟨a, vs, ev, _, q, r⟩ := at1.tuple w1.f
      exact fin a vs ev (.inl q) r
    | _ => cases e2
def sTup (s : Rho → Rs (List Vl)) : Rho → Rs Vl := fun ρ => (s ρ).bind fun xs ρ => (frzs xs ρ).bind fun ds ρ => if szOk ds.length then .ok (.d (.tuple ds)) ρ else .bad
theorem pe_tupD {x1} (h : PA X es (tA G ss)) : PE X (.Tuple es x1 pos) (tE G (sTup ss)) := by
  refine PE.imp (pe_tup h) fun σ H Q h => ?_
  obtain ⟨ρ, F, O, w, h⟩ := h
  refine tG.bind w h fun xs ρ1 vs H1 F1 _ w1 s1 rs h1 => ?_
  obtain ⟨ds, ρ2, F2, w2, s2, r2, h2⟩ := frzs_fin w1 rs h1
  split at h2
  · refine ⟨by rw [r2.length]; exact szOk_iff.mp ‹_›, fun p hp => ?_⟩
    exact h2 _ _ _ (w2.alloc hp) (sub_upd (w2.f.none hp)) (Rp.tup upd_same (r2.mono (sub_upd (w2.f.none hp))))
  · exact h2.elim

/-! ### items -/
theorem RpL.ints {K : PySem.W.Frag} {F : Hp} : ∀ ns : List Int, RpL K F (ns.map V.int) (ns.map PyData.int)
  | [] => .nil
  | n :: r => .cons (.int n) (RpL.ints r)
theorem kD_none {k : Key} : kD k ≠ PyData.none := by cases k <;> exact fun z => nomatch z
theorem rp_scr {K : PySem.W.Frag} {F : Hp} {v : V} {d : D} (h : Rp K F v d) : ∀ {xs : List D}, d = .dict [(.none, .list xs)] → ∃ (a : Addr) (ns : List Int), v = .ref a ∧ SqL K F a (ns.map V.int) ∧ xs = ns.map PyData.int := by
  intro xs e
  cases h with
  | @scr a ns q1 =>
    have e : PyData.dict [(PyData.none, PyData.list (ns.map .int))] = .dict [(.none, .list xs)] := e
    injection e with e
    injection e with e _
    injection e with _ e
    injection e with e
    exact ⟨a, ns, rfl, q1, e.symm⟩
  | dK q1 r =>
    injection e with e
    cases r with
    | nil => cases e
    | cons r1 r2 =>
      injection e with e _
      injection e with e _
      exact absurd e kD_none
  | dT _ q1 r =>
    injection e with e
    cases r with
    | nil => cases e
    | cons r1 r2 =>
      injection e with e _
      injection e with e _
      cases e
  | _ => cases e
theorem At.scr {K : PySem.W.Frag} {F H : Hp} {v : V} {xs : List D} (s : Sub F H) (h : At K F H v (.dict [(.none, .list xs)])) : ∃ (a : Addr) (ns : List Int), v = .ref a ∧ SqL K H a (ns.map V.int) ∧ xs = ns.map PyData.int := by
  rcases h with h | ⟨a, rfl, h⟩
  · obtain ⟨a, ns, h1, h2, h3⟩ := rp_scr h rfl
    exact ⟨a, ns, h1, s.sqL h2, h3⟩
  · rcases h with ⟨kvs, _, r⟩ | ⟨kvs, _, _, r⟩
    · generalize e : [(PyData.none, PyData.list xs)] = l at r
      cases r with
      | nil => cases e
      | cons r1 r2 =>
        injection e with e _
        injection e with e _
        exact absurd e.symm kD_none
    · generalize e : [(PyData.none, PyData.list xs)] = l at r
      cases r with
      | nil => cases e
      | cons r1 r2 =>
        injection e with e _
        injection e with e _
        cases e
def ixD : D → D → Option D
  | .list xs, .int i => atI xs i
  | .tuple xs, .int i => atI xs i
  | .str z, .int i => if szOk z.length then (atI z.cps.toList i).map fun c => .str ⟨#[c]⟩ else none
  | .dict [(.none, .list xs)], .int i => atI xs i
  | _, _ => none
theorem atI_rel {K : PySem.W.Frag} {F : Hp} {vs : List V} {ds : List D} {i : Int} {z : D} (r : RpL K F vs ds) (e : atI ds i = some z) : ∃ v, atI vs i = some v ∧ Rp K F v z := by
  unfold atI at e ⊢
  obtain ⟨j, e1, e2⟩ := Option.bind_eq_some_iff.mp e
  rw [r.length, e1]
  exact r.get e2
theorem notSlice (hb : ∀ lo hi st p, b ≠ .Slice lo hi st p) : PlainIx b := fun o i => by
  cases b <;> first | rfl | exact absurd rfl (hb _ _ _ _)
theorem pe_ixD (hK : X.K = G.K) (hb' : ∀ lo hi st p, b ≠ .Slice lo hi st p) (ha : PE X a (tE G sa)) (hb : PE X b (tE G sb)) : PE X (.Subscript a b pos) (tE G (sBin ixD sa sb)) := by
  refine PE.imp (pe_ix ((ix_list.or ix_tup).or ix_str) ha hb (notSlice hb')) fun σ H Q h => ?_
  obtain ⟨ρ, F, O, w, h⟩ := h
  refine tG.bind w h fun x ρ1 v H1 F1 _ w1 s1 rx h1 => tG.bind w1 h1 fun y ρ2 u H2 F2 _ w2 s2 ry h2 => ?_
  obtain ⟨p, q, z, hp, hq, e, k⟩ := two_fin w2 (rx.mono s2) ry h2
  unfold ixD at e
  split at e
  · obtain ⟨a, vs, rfl, q1, r1⟩ := hp.list w2.f
    obtain ⟨t, e1, rt⟩ := atI_rel r1 e
    exact .inl (.inl ⟨a, vs, _, t, rfl, hq.int, SqL.of q1, e1, k.now w2 rt⟩)
  · obtain ⟨a, vs, rfl, _, q1, r1⟩ := hp.tuple w2.f
    obtain ⟨t, e1, rt⟩ := atI_rel r1 e
    exact .inl (.inr ⟨a, vs, _, t, rfl, hq.int, by rw [hK]; exact q1, e1, k.now w2 rt⟩)
  · split at e
    · obtain ⟨c, e1, e2⟩ := Option.map_eq_some_iff.mp e
      exact .inr ⟨_, _, c, hp.str, hq.int, szOk_iff.mp ‹_›, e1, k.now w2 (e2 ▸ Rp.str _)⟩
    · cases e
  · rename_i xs i
    obtain ⟨a, ns, rfl, q1, rfl⟩ := hp.scr w2.f
    obtain ⟨t, e1, rt⟩ := atI_rel (RpL.ints ns) e
    exact .inl (.inl ⟨a, _, _, t, rfl, hq.int, by rw [hK]; exact q1, e1, k.now w2 rt⟩)
  · cases e
end
end L3
/-! L3, part 6: fresh containers, slices, isinstance, built-in functions. -/
namespace L3
open PySem PySem.Spec PyProof.Rows L2

/-! ### any goal -/
/-- what is wanted of a pure result, in the world F: it grows with F, an exception goes to G.W, bad is false -/
structure Tgt (G : Gx) (O : Fm) (σ : L2.St) {α : Type} (P : Hp → Rs α → Prop) : Prop where
  mono : ∀ {F F1 r}, Sub F F1 → P F r → P F1 r
  err : ∀ {F x ρ}, P F (.err x ρ) → ∀ c dd H' F', Wd G.K F' O ρ σ H' → Sub F F' → XAt G.K F' G.cn c dd x → G.W c dd σ H'
  bad : ∀ {F}, ¬ P F .bad
section
variable {G : Gx} {α β α' : Type} {rel : PySem.W.Frag → Hp → L2.St → β → α → Prop} {σ : L2.St} {H F : Hp} {O : Fm} {ρ : Rho}
theorem Tgt.fin {Q : β → Hp → Prop} : Tgt G O σ (fun F r => Fin G rel F O σ Q r) := ⟨fun s h => Fin.mono s h, fun h => h, fun h => h⟩
theorem Tgt.bind {P : Hp → Rs α' → Prop} (T : Tgt G O σ P) {s : Rho → Rs α} {f : α → Rho → Rs α'} {Q : β → Hp → Prop} (w : Wd G.K F O ρ σ H) (h : P F ((s ρ).bind f))
    (hQ : ∀ a ρ1 v H1 F1, Wd G.K F1 O ρ1 σ H1 → Sub F F1 → rel G.K F1 σ v a → P F1 (f a ρ1) → Q v H1) : tG G rel s σ H Q := by
  refine ⟨ρ, F, O, w, ?_⟩
  cases e : s ρ with
  | ok a ρ1 =>
    rw [e] at h
    exact fun v H1 F1 w1 s1 r1 => hQ a ρ1 v H1 F1 w1 s1 r1 (T.mono s1 h)
  | err x ρ1 => rw [e] at h; exact T.err h
  | bad => rw [e] at h; exact (T.bad h).elim
theorem Tgt.test {P : Hp → Rs α' → Prop} (T : Tgt G O σ P) {s : Rho → Rs Vl} {f : Bool → Rho → Rs α'} {Q : Bool → Hp → Prop} (w : Wd G.K F O ρ σ H) (h : P F ((asB s ρ).bind f))
    (hQ : ∀ k ρ1 H1 F1, Wd G.K F1 O ρ1 σ H1 → Sub F F1 → P F1 (f k ρ1) → Q k H1) : tT G (asB s) σ H Q :=
  T.bind (rel := RB) w h fun k ρ1 v H1 F1 w1 s1 r1 h1 => by
    have e : v = k := r1
    subst e
    exact hQ v ρ1 H1 F1 w1 s1 h1
theorem Tgt.frz {P : Hp → Rs α' → Prop} (T : Tgt G O σ P) {x : Vl} {v : V} {f : D → Rho → Rs α'} (w : Wd G.K F O ρ σ H) (r : RV G.K F σ v x) (h : P F ((frz x ρ).bind f)) :
    ∃ d ρ' F', Wd G.K F' O ρ' σ H ∧ Sub F F' ∧ Rp G.K F' v d ∧ P F' (f d ρ') := by
  cases e : L3.frz x ρ with
  | ok d ρ' =>
    rw [e] at h
    obtain ⟨F', w', s, r'⟩ := frz_ok w r e
    exact ⟨d, ρ', F', w', s, r', T.mono s h⟩
  | err z ρ' => exact absurd e frz_noerr
  | bad => rw [e] at h; exact (T.bad h).elim
theorem Tgt.frzs {P : Hp → Rs α' → Prop} (T : Tgt G O σ P) {xs : List Vl} {vs : List V} {f : List D → Rho → Rs α'} (w : Wd G.K F O ρ σ H) (r : RVs G.K F σ vs xs) (h : P F ((frzs xs ρ).bind f)) :
    ∃ ds ρ' F', Wd G.K F' O ρ' σ H ∧ Sub F F' ∧ RpL G.K F' vs ds ∧ P F' (f ds ρ') := by
  cases e : L3.frzs xs ρ with
  | ok d ρ' =>
    rw [e] at h
    obtain ⟨F', w', s, r'⟩ := frzs_ok w r e
    exact ⟨d, ρ', F', w', s, r', T.mono s h⟩
  | err z ρ' => exact absurd e frzs_noerr
  | bad => rw [e] at h; exact (T.bad h).elim
end

/-! ### fresh containers -/
/-- a value, or a new list or dict that nobody else knows -/
inductive Vf where
  | v (x : Vl) | fr (d : D)
structure FreshAt (K : PySem.W.Frag) (F : Hp) (O : Fm) (ρ : Rho) (σ : L2.St) (H : Hp) (a : Addr) (d : D) : Prop where
  f : F a = none
  o : O.o a = none
  at_ : OwnAt K F H a d
  ap : ∀ (i : Nat) (c : Cell) (e : D), ρ[i]? = some c → c.held = some e → σ[i]? ≠ some (some (.ref a))
def FinF (G : Gx) (F : Hp) (O : Fm) (σ : L2.St) (Q : VK) : Rs Vf → Prop
  | .ok (.v x) ρ' => ∀ v H' F', Wd G.K F' O ρ' σ H' → Sub F F' → RV G.K F' σ v x → Q v H'
  | .ok (.fr d) ρ' => ∀ a H' F', Wd G.K F' O ρ' σ H' → Sub F F' → FreshAt G.K F' O ρ' σ H' a d → Q (.ref a) H'
  | .err x ρ' => ∀ c dd H' F', Wd G.K F' O ρ' σ H' → Sub F F' → XAt G.K F' G.cn c dd x → G.W c dd σ H'
  | .bad => False
def tF (G : Gx) (s : Rho → Rs Vf) : TE := fun σ H Q => ∃ ρ F O, Wd G.K F O ρ σ H ∧ FinF G F O σ Q (s ρ)
theorem Tgt.finF {G : Gx} {O : Fm} {σ : L2.St} {Q : VK} : Tgt G O σ (fun F r => FinF G F O σ Q r) := by
  refine ⟨fun {F F1 r} s h => ?_, fun h => h, fun h => h⟩
  cases r with
  | ok a ρ =>
    cases a with
    | v x => exact fun v H' F' w z r => h v H' F' w (s.trans z) r
    | fr d => exact fun v H' F' w z r => h v H' F' w (s.trans z) r
  | err x ρ => exact fun c dd H' F' w z x => h c dd H' F' w (s.trans z) x
  | bad => exact h
section
variable {K : PySem.W.Frag} {F : Hp} {O : Fm} {ρ : Rho} {σ : L2.St} {H : Hp} {a : Addr} {d : D}
/-- a fresh one becomes a value -/
theorem FreshAt.stay (x : FreshAt K F O ρ σ H a d) (w : Wd K F O ρ σ H) : ∃ F', Wd K F' O ρ σ H ∧ Sub F F' ∧ Rp K F' (.ref a) d := by
  obtain ⟨oa, ha⟩ := x.at_.some
  have sF : Sub F (upd F a oa) := sub_upd x.f
  refine ⟨upd F a oa, ⟨w.len, fun b y hb => ?_, w.o, fun b y hb => ?_, fun i e hi => ?_, fun i c e hi hc => ?_, w.pr, w.wl, w.lk, w.ap⟩, sF, x.at_.froz ha sF⟩
  · by_cases z : b = a
    · subst z; rw [upd_same] at hb; cases hb; exact .inl ha
    · rw [upd_ne z] at hb; exact w.f b y hb
  · rw [upd_ne (ne_of_none hb x.o)]; exact w.fo b y hb
  · obtain ⟨v, q1, q2⟩ := w.val i e hi
    exact ⟨v, q1, q2.mono sF⟩
  · obtain ⟨b, q1, q2, q3, q4⟩ := w.own i c e hi hc
    have nb : b ≠ a := fun z => x.ap i c e hi hc (z ▸ q1)
    exact ⟨b, q1, by rw [upd_ne nb]; exact q2, q3, q4.mono sF rfl⟩
/-- a new list is fresh -/
theorem Wd.fresh (w : Wd K F O ρ σ H) {vs : List V} {ds : List D} (ha : H a = none) (r : RpL K F vs ds) : FreshAt K F O ρ σ (upd H a (.lst vs)) a (.list ds) := by
  refine ⟨w.f.none ha, w.o.none ha, ⟨vs, upd_same, r⟩, fun i c e hi hc h => ?_⟩
  obtain ⟨b, q1, q2, q3, q4⟩ := w.own i c e hi hc
  rw [h] at q1; cases q1
  obtain ⟨oa, h2⟩ := q4.some
  rw [ha] at h2; cases h2
/-- the new list is laid, nobody knows it -/
theorem Wd.laidF {G : Gx} {F : Hp} {O : Fm} {ρ : Rho} {σ : L2.St} {H : Hp} {a : Addr} {vs : List V} {ds : List D} {Q : VK} (w : Wd G.K F O ρ σ H) (h : FinF G F O σ Q (.ok (.fr (.list ds)) ρ)) (ha : H a = none) (r : RpL G.K F vs ds) : Q (.ref a) (upd H a (.lst vs)) :=
  h a _ F (w.lose ha) (Sub.refl _) (w.fresh ha r)
end
/-- a fresh one used as a value -/
def unF (s : Rho → Rs Vf) : Rho → Rs Vl := fun ρ => (s ρ).bind fun r ρ => match r with
  | .v x => .ok x ρ
  | .fr d => .ok (.d d) ρ
def liF (s : Rho → Rs Vl) : Rho → Rs Vf := fun ρ => (s ρ).bind fun r ρ => .ok (.v r) ρ
theorem unF_t {G : Gx} {s : Rho → Rs Vf} {σ : L2.St} {H : Hp} {Q : VK} (h : tE G (unF s) σ H Q) : tF G s σ H Q := by
  obtain ⟨ρ, F, O, w, h⟩ := h
  refine ⟨ρ, F, O, w, ?_⟩
  unfold unF at h
  cases e : s ρ with
  | ok r ρ1 =>
    rw [e, Rs.bind_ok] at h
    cases r with
    | v x => exact h
    | fr d =>
      intro a H' F' w' s' x
      obtain ⟨F2, w2, s2, r2⟩ := x.stay w'
      exact h (.ref a) H' F2 w2 (s'.trans s2) r2
  | err x ρ1 => rw [e] at h; exact h
  | bad => rw [e] at h; exact h
theorem liF_t {G : Gx} {s : Rho → Rs Vl} {σ : L2.St} {H : Hp} {Q : VK} (h : tF G (liF s) σ H Q) : tE G s σ H Q := by
  obtain ⟨ρ, F, O, w, h⟩ := h
  refine ⟨ρ, F, O, w, ?_⟩
  unfold liF at h
  cases e : s ρ with
  | ok r ρ1 => rw [e] at h; exact h
  | err x ρ1 => rw [e] at h; exact h
  | bad => rw [e] at h; exact h
/-- an expression by its fresh meaning: as a value, as a test, at an assignment -/
structure DF (X : Cx) (G : Gx) (e : Expr) (s : Rho → Rs Vf) : Prop where
  pf : PE X e (tF G s)
  he : ∀ whole, isTrue e X.env whole = (do let v ← whole; standAt e.pos; holding [v] (truthy v))
section
variable {X : Cx} {G : Gx} {e : Expr}
theorem DF.de {s : Rho → Rs Vf} (h : DF X G e s) : DE X G e (unF s) := .val (PE.imp h.pf fun _ _ _ q => unF_t q) h.he
theorem DE.pf {s : Rho → Rs Vl} (h : DE X G e s) : PE X e (tF G (liF s)) := PE.imp h.pe fun _ _ _ q => liF_t q
end

/-! ### arguments' contents -/
def conts (ρ : Rho) : List Vl → Option (List D)
  | [] => some []
  | x :: xs => (x.cont ρ).bind fun d => (conts ρ xs).map fun ds => d :: ds
def Ats (K : PySem.W.Frag) (F H : Hp) : List V → List D → Prop
  | [], [] => True
  | v :: vs, d :: ds => At K F H v d ∧ Ats K F H vs ds
  | _, _ => False
theorem Wd.ats {K : PySem.W.Frag} {F : Hp} {O : Fm} {ρ : Rho} {σ : L2.St} {H : Hp} (w : Wd K F O ρ σ H) : ∀ {vs : List V} {xs : List Vl} {ds : List D}, RVs K F σ vs xs → conts ρ xs = some ds → Ats K F H vs ds
  | [], [], ds, _, e => by cases e; trivial
  | v :: vs, x :: xs, ds, r, e => by
    unfold conts at e
    obtain ⟨d, e1, e2⟩ := Option.bind_eq_some_iff.mp e
    obtain ⟨ds2, e3, rfl⟩ := Option.map_eq_some_iff.mp e2
    exact ⟨w.at r.1 e1, w.ats r.2 e3⟩
theorem Ats.one {K : PySem.W.Frag} {F H : Hp} {vs : List V} {d : D} (h : Ats K F H vs [d]) : ∃ v, vs = [v] ∧ At K F H v d := by
  match vs, h with
  | [v], h => exact ⟨v, rfl, h.1⟩
theorem Ats.two {K : PySem.W.Frag} {F H : Hp} {vs : List V} {d e : D} (h : Ats K F H vs [d, e]) : ∃ v u, vs = [v, u] ∧ At K F H v d ∧ At K F H u e := by
  match vs, h with
  | [v, u], h => exact ⟨v, u, rfl, h.1, h.2.1⟩
/-- a built-in function of the arguments' contents -/
def sFun (f : List D → Option D) (a : Rho → Rs (List Vl)) : Rho → Rs Vl := fun ρ => (a ρ).bind fun xs ρ => ret ρ ((conts ρ xs).bind f)
def retF (ρ : Rho) : Option D → Rs Vf
  | some z => .ok (.fr z) ρ
  | none => .bad
def sFunF (f : List D → Option D) (a : Rho → Rs (List Vl)) : Rho → Rs Vf := fun ρ => (a ρ).bind fun xs ρ => retF ρ ((conts ρ xs).bind f)
section
variable {X : Cx} {G : Gx} {e : Expr} {es : List Expr} {ss : Rho → Rs (List Vl)} {x : Str} {p pos : Pos}
/-- what a built-in's rule asks, of contents -/
def FunOk (G : Gx) (r : List V → Hp → VK → Prop) (f : List D → Option D) : Prop :=
  ∀ {F : Hp} {O : Fm} {ρ : Rho} {σ : L2.St} {H : Hp} {vs : List V} {ds : List D} {z : D} {Q : VK}, Wd G.K F O ρ σ H → Ats G.K F H vs ds → f ds = some z → Post G F O ρ σ Q z → r vs H Q
def FunOkF (G : Gx) (r : List V → Hp → VK → Prop) (f : List D → Option D) : Prop :=
  ∀ {F : Hp} {O : Fm} {ρ : Rho} {σ : L2.St} {H : Hp} {vs : List V} {ds : List D} {z : D} {Q : VK}, Wd G.K F O ρ σ H → Ats G.K F H vs ds → f ds = some z → FinF G F O σ Q (.ok (.fr z) ρ) → r vs H Q
theorem sFun_t {r : List V → Hp → VK → Prop} {f : List D → Option D} (ok : FunOk G r f) {σ : L2.St} {H : Hp} {Q : VK} (h : tE G (sFun f ss) σ H Q) : tCB r (tA G ss) σ H Q := by
  obtain ⟨ρ, F, O, w, h⟩ := h
  refine tG.bind w h fun xs ρ1 vs H1 F1 _ w1 s1 rs h1 => ?_
  obtain ⟨z, e, p⟩ := ret_fin h1
  obtain ⟨ds, e1, e2⟩ := Option.bind_eq_some_iff.mp e
  exact ok w1 (w1.ats rs e1) e2 p
theorem sFunF_t {r : List V → Hp → VK → Prop} {f : List D → Option D} (ok : FunOkF G r f) {σ : L2.St} {H : Hp} {Q : VK} (h : tF G (sFunF f ss) σ H Q) : tCB r (tA G ss) σ H Q := by
  obtain ⟨ρ, F, O, w, h⟩ := h
  refine Tgt.finF.bind w h fun xs ρ1 vs H1 F1 w1 s1 rs h1 => ?_
  cases e : (conts ρ1 xs).bind f with
  | none => rw [e] at h1; exact h1.elim
  | some z =>
    rw [e] at h1
    obtain ⟨ds, e1, e2⟩ := Option.bind_eq_some_iff.mp e
    exact ok w1 (w1.ats rs e1) e2 h1
def notStar : Expr → Bool
  | .Starred _ _ => false
  | _ => true
theorem star_plain (h : notStar e = true) : ∀ env, starEach (e :: es) env = (false, eval e env) :: starEach es env := fun env => by
  cases e <;> first | rfl | cases h
def plainArgs (es : List Expr) : Bool := es.all notStar
theorem any_plain : ∀ {es : List Expr}, plainArgs es = true → ∀ env pos, (backTo pos (starEach es env)).any (·.1) = false
  | [], _, _, _ => rfl
  | e :: es, h, env, pos => by
    have h' : notStar e = true ∧ plainArgs es = true := by simpa [plainArgs] using h
    rw [star_plain h'.1]
    show ((false : Bool) || (backTo pos (starEach es env)).any (·.1)) = false
    rw [any_plain h'.2]
    rfl
theorem de_callB {id : String} {r : List V → Hp → VK → Prop} {f : List D → Option D} (hc : CallR X (.builtin id) r) (ok : FunOk G r f) (hg : Gl X x) (hm : X.mg x = none) (hv : bootBuiltins x = some (.builtin id)) (ha : PA X (e :: es) (tA G ss)) (hp : plainArgs (e :: es) = true)
    (hn : x ≠ "__name__") (hd : (x == ("__debug__" : Str)) = false) : DE X G (.Call (.Name x p) (e :: es) [] pos) (sFun f ss) := by
  have h' : notStar e = true ∧ plainArgs es = true := by simpa [plainArgs] using hp
  exact .val (PE.imp (pe_callB hc hg hm hv ha hn hd (star_plain h'.1 _) (any_plain h'.2 _ _)) fun _ _ _ q => sFun_t ok q) fun _ => rfl
theorem de_callT {T : String} {r : List V → Hp → VK → Prop} {f : List D → Option D} (hc : CallR X (.type T) r) (ok : FunOk G r f) (hg : Gl X x) (hm : X.mg x = none) (hv : bootBuiltins x = some (.type T)) (ha : PA X (e :: es) (tA G ss)) (hp : plainArgs (e :: es) = true)
    (hn : x ≠ "__name__") (hd : (x == ("__debug__" : Str)) = false) : DE X G (.Call (.Name x p) (e :: es) [] pos) (sFun f ss) := by
  have h' : notStar e = true ∧ plainArgs es = true := by simpa [plainArgs] using hp
  exact .val (PE.imp (pe_callTy hc hg hm hv ha hn hd (star_plain h'.1 _) (any_plain h'.2 _ _)) fun _ _ _ q => sFun_t ok q) fun _ => rfl
theorem df_callB {id : String} {r : List V → Hp → VK → Prop} {f : List D → Option D} (hc : CallR X (.builtin id) r) (ok : FunOkF G r f) (hg : Gl X x) (hm : X.mg x = none) (hv : bootBuiltins x = some (.builtin id)) (ha : PA X (e :: es) (tA G ss)) (hp : plainArgs (e :: es) = true)
    (hn : x ≠ "__name__") (hd : (x == ("__debug__" : Str)) = false) : DF X G (.Call (.Name x p) (e :: es) [] pos) (sFunF f ss) := by
  have h' : notStar e = true ∧ plainArgs es = true := by simpa [plainArgs] using hp
  exact ⟨PE.imp (pe_callB hc hg hm hv ha hn hd (star_plain h'.1 _) (any_plain h'.2 _ _)) fun _ _ _ q => sFunF_t ok q, fun _ => rfl⟩
theorem df_callT {T : String} {r : List V → Hp → VK → Prop} {f : List D → Option D} (hc : CallR X (.type T) r) (ok : FunOkF G r f) (hg : Gl X x) (hm : X.mg x = none) (hv : bootBuiltins x = some (.type T)) (ha : PA X (e :: es) (tA G ss)) (hp : plainArgs (e :: es) = true)
    (hn : x ≠ "__name__") (hd : (x == ("__debug__" : Str)) = false) : DF X G (.Call (.Name x p) (e :: es) [] pos) (sFunF f ss) := by
  have h' : notStar e = true ∧ plainArgs es = true := by simpa [plainArgs] using hp
  exact ⟨PE.imp (pe_callTy hc hg hm hv ha hn hd (star_plain h'.1 _) (any_plain h'.2 _ _)) fun _ _ _ q => sFunF_t ok q, fun _ => rfl⟩
end

/-! ### the functions -/
def lenD : List D → Option D
  | [.list xs] => some (.int xs.length)
  | [.tuple xs] => some (.int xs.length)
  | [.str x] => if szOk x.length then some (.int x.length) else none
  | [.dict [(.none, .list xs)]] => some (.int xs.length)
  | _ => none
def intsD : List D → Option (List Int)
  | [] => some []
  | .int i :: r => (intsD r).map fun ns => i :: ns
  | _ => none
def boolsD : List D → Option (List Bool)
  | [] => some []
  | .bool i :: r => (boolsD r).map fun ns => i :: ns
  | _ => none
theorem intsD_rel {K : PySem.W.Frag} {F : Hp} : ∀ {vs : List V} {ds : List D} {ns : List Int}, RpL K F vs ds → intsD ds = some ns → vs = ns.map V.int ∧ ds = ns.map PyData.int
  | _, _, ns, .nil, e => by cases e; exact ⟨rfl, rfl⟩
  | _, _, ns, .cons (d := d) h r, e => by
    cases d with
    | int i =>
      obtain ⟨m, e1, rfl⟩ := Option.map_eq_some_iff.mp (show (intsD _).map _ = some ns from e)
      obtain ⟨rfl, rfl⟩ := intsD_rel r e1
      cases h
      exact ⟨rfl, rfl⟩
    | _ => cases e
theorem boolsD_rel {K : PySem.W.Frag} {F : Hp} : ∀ {vs : List V} {ds : List D} {ns : List Bool}, RpL K F vs ds → boolsD ds = some ns → vs = ns.map V.bl ∧ ds = ns.map PyData.bool
  | _, _, ns, .nil, e => by cases e; exact ⟨rfl, rfl⟩
  | _, _, ns, .cons (d := d) h r, e => by
    cases d with
    | bool i =>
      obtain ⟨m, e1, rfl⟩ := Option.map_eq_some_iff.mp (show (boolsD _).map _ = some ns from e)
      obtain ⟨rfl, rfl⟩ := boolsD_rel r e1
      cases h
      exact ⟨rfl, rfl⟩
    | _ => cases e
theorem seqAt {K : PySem.W.Frag} {F H : Hp} {v : V} {d : D} {ds : List D} (s : Sub F H) (h : At K F H v d) (e : itemsD d = some ds) : ∃ a vs, v = .ref a ∧ ((d = .list ds ∧ H a = some (.lst vs)) ∨ (d = .tuple ds ∧ F a = some (.tup vs) ∧ SqT K H a vs)) ∧ RpL K F vs ds := by
  cases d with
  | list xs => cases e; obtain ⟨a, vs, h1, h2, h3⟩ := h.list s; exact ⟨a, vs, h1, .inl ⟨rfl, h2⟩, h3⟩
  | tuple xs => cases e; obtain ⟨a, vs, h1, h2, h3, h4⟩ := h.tuple s; exact ⟨a, vs, h1, .inr ⟨rfl, h2, h3⟩, h4⟩
  | _ => cases e
section
variable {X : Cx} {G : Gx}
def rLen (K : PySem.W.Frag) : List V → Hp → VK → Prop := fun xs H Q => ∃ x n, xs = [x] ∧ LenV K x H n ∧ Q (.int n) H
theorem ok_len : FunOk G (rLen G.K) lenD := by
  intro F O ρ σ H vs ds z Q w at_ e p
  unfold lenD at e
  split at e
  · cases e
    obtain ⟨v, rfl, ha⟩ := at_.one
    obtain ⟨a, us, rfl, q, r⟩ := ha.list w.f
    exact ⟨_, us.length, rfl, .inl ⟨us, SqL.of q, rfl⟩, by rw [r.length]; exact p.now w (.int _)⟩
  · cases e
    obtain ⟨v, rfl, ha⟩ := at_.one
    obtain ⟨a, us, rfl, _, q, r⟩ := ha.tuple w.f
    exact ⟨_, us.length, rfl, .inr ⟨us, q, rfl⟩, by rw [r.length]; exact p.now w (.int _)⟩
  · obtain ⟨h1, rfl⟩ := ifs e
    obtain ⟨v, rfl, ha⟩ := at_.one
    rw [ha.str]
    exact ⟨_, _, rfl, ⟨szOk_iff.mp h1, rfl⟩, p.now w (.int _)⟩
  · cases e
    obtain ⟨v, rfl, ha⟩ := at_.one
    obtain ⟨a, ns, rfl, q, rfl⟩ := ha.scr w.f
    rw [List.length_map] at p
    exact ⟨_, ns.length, rfl, .inl ⟨_, q, by rw [List.length_map]⟩, p.now w (.int _)⟩
  · cases e
end
end L3
/-! L3, part 7: more built-in functions, isinstance, slices. -/
namespace L3
open PySem PySem.Spec PyProof.Rows L2

/-! ### the mathematics of the built-ins -/
def insI (x : Int) : List Int → List Int
  | [] => [x]
  | y :: r => if x ≤ y then x :: y :: r else y :: insI x r
def sortI : List Int → List Int
  | [] => []
  | x :: r => insI x (sortI r)
theorem insI_perm (x : Int) : ∀ l, (insI x l).Perm (x :: l)
  | [] => .refl _
  | y :: r => by
    unfold insI
    split
    · exact .refl _
    · exact ((insI_perm x r).cons y).trans (.swap x y r)
theorem sortI_perm : ∀ l, (sortI l).Perm l
  | [] => .refl _
  | x :: r => (insI_perm x _).trans ((sortI_perm r).cons x)
theorem insI_sorted (x : Int) : ∀ l : List Int, l.Pairwise (· ≤ ·) → (insI x l).Pairwise (· ≤ ·)
  | [], _ => List.pairwise_singleton _ _
  | y :: r, h => by
    unfold insI
    have h' := List.pairwise_cons.mp h
    split
    · refine List.pairwise_cons.mpr ⟨fun z hz => ?_, h⟩
      rcases List.mem_cons.mp hz with rfl | hz
      · assumption
      · exact Int.le_trans ‹_› (h'.1 z hz)
    · refine List.pairwise_cons.mpr ⟨fun z hz => ?_, insI_sorted x r h'.2⟩
      rcases List.mem_cons.mp ((insI_perm x r).mem_iff.mp hz) with rfl | hz
      · omega
      · exact h'.1 z hz
theorem sortI_sorted : ∀ l, (sortI l).Pairwise (· ≤ ·)
  | [] => .nil
  | x :: r => insI_sorted x _ (sortI_sorted r)
theorem sorted_unique : ∀ {l m : List Int}, l.Perm m → l.Pairwise (· ≤ ·) → m.Pairwise (· ≤ ·) → l = m
  | [], m, p, _, _ => (List.nil_perm.mp p).symm
  | x :: l, [], p, _, _ => by simp at p
  | x :: l, y :: m, p, hl, hm => by
    have h1 := List.pairwise_cons.mp hl
    have h2 := List.pairwise_cons.mp hm
    have e : x = y := by
      have a : y ≤ x := by
        rcases List.mem_cons.mp (p.mem_iff.mp List.mem_cons_self) with e | e
        · omega
        · exact h2.1 x e
      have b : x ≤ y := by
        rcases List.mem_cons.mp (p.mem_iff.mpr List.mem_cons_self) with e | e
        · omega
        · exact h1.1 y e
      omega
    subst e
    rw [sorted_unique (List.Perm.cons_inv p) h1.2 h2.2]
theorem sortI_eq {l m : List Int} (p : l.Perm m) (h : l.Pairwise (· ≤ ·)) : l = sortI m := sorted_unique (p.trans (sortI_perm m).symm) h (sortI_sorted m)
def minI : Int → List Int → Int
  | m, [] => m
  | m, x :: r => minI (if x < m then x else m) r
def maxI : Int → List Int → Int
  | m, [] => m
  | m, x :: r => maxI (if m < x then x else m) r
theorem minI_mem : ∀ (m : Int) (l : List Int), minI m l ∈ m :: l
  | m, [] => List.mem_cons_self
  | m, x :: r => by
    have h := minI_mem (if x < m then x else m) r
    unfold minI
    rcases List.mem_cons.mp h with e | e
    · rw [e]; split <;> simp
    · simp [e]
theorem minI_le : ∀ (m : Int) (l : List Int), ∀ y ∈ m :: l, minI m l ≤ y
  | m, [], y, h => by simp at h; subst h; exact Int.le_refl _
  | m, x :: r, y, h => by
    unfold minI
    have q := minI_le (if x < m then x else m) r
    have q0 := q _ List.mem_cons_self
    have le1 : (if x < m then x else m) ≤ m ∧ (if x < m then x else m) ≤ x := by split <;> omega
    rcases List.mem_cons.mp h with e | e
    · subst e; omega
    · rcases List.mem_cons.mp e with e | e
      · subst e; omega
      · exact q y (List.mem_cons_of_mem _ e)
theorem maxI_mem : ∀ (m : Int) (l : List Int), maxI m l ∈ m :: l
  | m, [] => List.mem_cons_self
  | m, x :: r => by
    have h := maxI_mem (if m < x then x else m) r
    unfold maxI
    rcases List.mem_cons.mp h with e | e
    · rw [e]; split <;> simp
    · simp [e]
theorem maxI_le : ∀ (m : Int) (l : List Int), ∀ y ∈ m :: l, y ≤ maxI m l
  | m, [], y, h => by simp at h; subst h; exact Int.le_refl _
  | m, x :: r, y, h => by
    unfold maxI
    have q := maxI_le (if m < x then x else m) r
    have q0 := q _ List.mem_cons_self
    have le1 : m ≤ (if m < x then x else m) ∧ x ≤ (if m < x then x else m) := by split <;> omega
    rcases List.mem_cons.mp h with e | e
    · subst e; omega
    · rcases List.mem_cons.mp e with e | e
      · subst e; omega
      · exact q y (List.mem_cons_of_mem _ e)

/-! ### the functions -/
def absD : List D → Option D
  | [.int i] => some (.int (if i < 0 then -i else i))
  | _ => none
def intD : List D → Option D
  | [.int i] => some (.int i)
  | [.bool k] => some (.int (if k then 1 else 0))
  | _ => none
def minD : List D → Option D
  | [.int i, .int j] => some (.int (if j < i then j else i))
  | [.list xs] => (intsD xs).bind fun
    | [] => none
    | n :: ns => some (.int (minI n ns))
  | _ => none
def maxD : List D → Option D
  | [.int i, .int j] => some (.int (if j > i then j else i))
  | [.list xs] => (intsD xs).bind fun
    | [] => none
    | n :: ns => some (.int (maxI n ns))
  | _ => none
def sumD : List D → Option D
  | [.list xs] => (intsD xs).map fun ns => .int ns.sum
  | _ => none
def anyD : List D → Option D
  | [.list xs] => (boolsD xs).map fun ns => .bool (ns.any id)
  | _ => none
def allD : List D → Option D
  | [.list xs] => (boolsD xs).map fun ns => .bool (ns.all id)
  | _ => none
def tupleD : List D → Option D
  | [.list xs] => some (.tuple xs)
  | [.tuple xs] => some (.tuple xs)
  | _ => none
def listD : List D → Option D
  | [.list xs] => some (.list xs)
  | [.tuple xs] => some (.list xs)
  | _ => none
def sortedD : List D → Option D
  | [.list xs] => (intsD xs).map fun ns => .list ((sortI ns).map .int)
  | _ => none
section
variable {X : Cx} {G : Gx}
theorem ok_abs : FunOk G (fun xs H Q => ∃ i, xs = [.int i] ∧ Q (.int (if i < 0 then -i else i)) H) absD := by
  intro F O ρ σ H vs ds z Q w at_ e p
  unfold absD at e
  split at e
  · cases e
    obtain ⟨v, rfl, ha⟩ := at_.one
    rw [ha.int]
    exact ⟨_, rfl, p.now w (.int _)⟩
  · cases e
theorem ok_int : FunOk G (fun xs H Q => (∃ i, xs = [.int i] ∧ Q (.int i) H) ∨ ∃ k, xs = [.bl k] ∧ Q (.int (if k then 1 else 0)) H) intD := by
  intro F O ρ σ H vs ds z Q w at_ e p
  unfold intD at e
  split at e
  · cases e
    obtain ⟨v, rfl, ha⟩ := at_.one
    rw [ha.int]
    exact .inl ⟨_, rfl, p.now w (.int _)⟩
  · cases e
    obtain ⟨v, rfl, ha⟩ := at_.one
    rw [ha.bool]
    exact .inr ⟨_, rfl, p.now w (.int _)⟩
  · cases e
def rMin2 (K : PySem.W.Frag) : List V → Hp → VK → Prop := fun xs H Q => (∃ i j, xs = [.int i, .int j] ∧ Q (.int (if j < i then j else i)) H) ∨ rMin K xs H Q
def rMax2 (K : PySem.W.Frag) : List V → Hp → VK → Prop := fun xs H Q => (∃ i j, xs = [.int i, .int j] ∧ Q (.int (if j > i then j else i)) H) ∨ rMax K xs H Q
theorem ok_min : FunOk G (rMin2 G.K) minD := by
  intro F O ρ σ H vs ds z Q w at_ e p
  unfold minD at e
  split at e
  · cases e
    obtain ⟨v, u, rfl, ha, hb⟩ := at_.two
    rw [ha.int, hb.int]
    exact .inl ⟨_, _, rfl, p.now w (.int _)⟩
  · obtain ⟨ns, e1, e2⟩ := Option.bind_eq_some_iff.mp e
    obtain ⟨v, rfl, ha⟩ := at_.one
    obtain ⟨a, us, rfl, q, r⟩ := ha.list w.f
    obtain ⟨rfl, rfl⟩ := intsD_rel r e1
    cases ns with
    | nil => cases e2
    | cons n ns =>
      cases e2
      refine .inr ⟨a, _, rfl, SqL.of q, by simp, fun m h1 h2 => ?_⟩
      have : m = minI n ns := Int.le_antisymm (h2 _ (minI_mem n ns)) (minI_le n ns m h1)
      subst this
      exact p.now w (.int _)
  · cases e
theorem ok_max : FunOk G (rMax2 G.K) maxD := by
  intro F O ρ σ H vs ds z Q w at_ e p
  unfold maxD at e
  split at e
  · cases e
    obtain ⟨v, u, rfl, ha, hb⟩ := at_.two
    rw [ha.int, hb.int]
    exact .inl ⟨_, _, rfl, p.now w (.int _)⟩
  · obtain ⟨ns, e1, e2⟩ := Option.bind_eq_some_iff.mp e
    obtain ⟨v, rfl, ha⟩ := at_.one
    obtain ⟨a, us, rfl, q, r⟩ := ha.list w.f
    obtain ⟨rfl, rfl⟩ := intsD_rel r e1
    cases ns with
    | nil => cases e2
    | cons n ns =>
      cases e2
      refine .inr ⟨a, _, rfl, SqL.of q, by simp, fun m h1 h2 => ?_⟩
      have : m = maxI n ns := Int.le_antisymm (maxI_le n ns m h1) (h2 _ (maxI_mem n ns))
      subst this
      exact p.now w (.int _)
  · cases e
theorem ok_sum : FunOk G (rSum G.K) sumD := by
  intro F O ρ σ H vs ds z Q w at_ e p
  unfold sumD at e
  split at e
  · obtain ⟨ns, e1, rfl⟩ := Option.map_eq_some_iff.mp e
    obtain ⟨v, rfl, ha⟩ := at_.one
    obtain ⟨a, us, rfl, q, r⟩ := ha.list w.f
    obtain ⟨rfl, rfl⟩ := intsD_rel r e1
    exact ⟨a, ns, rfl, SqL.of q, p.now w (.int _)⟩
  · cases e
theorem ok_any : FunOk G (rAny G.K) anyD := by
  intro F O ρ σ H vs ds z Q w at_ e p
  unfold anyD at e
  split at e
  · obtain ⟨ns, e1, rfl⟩ := Option.map_eq_some_iff.mp e
    obtain ⟨v, rfl, ha⟩ := at_.one
    obtain ⟨a, us, rfl, q, r⟩ := ha.list w.f
    obtain ⟨rfl, rfl⟩ := boolsD_rel r e1
    exact ⟨a, ns, rfl, SqL.of q, p.now w (.bl _)⟩
  · cases e
theorem ok_all : FunOk G (rAll G.K) allD := by
  intro F O ρ σ H vs ds z Q w at_ e p
  unfold allD at e
  split at e
  · obtain ⟨ns, e1, rfl⟩ := Option.map_eq_some_iff.mp e
    obtain ⟨v, rfl, ha⟩ := at_.one
    obtain ⟨a, us, rfl, q, r⟩ := ha.list w.f
    obtain ⟨rfl, rfl⟩ := boolsD_rel r e1
    exact ⟨a, ns, rfl, SqL.of q, p.now w (.bl _)⟩
  · cases e
theorem ok_tuple : FunOk G (fun xs H Q => ∃ p ys, xs = [.ref p] ∧ ((SqL G.K H p ys ∧ ∀ l, H l = none → Q (.ref l) (upd H l (.tup ys))) ∨ (SqT G.K H p ys ∧ Q (.ref p) H))) tupleD := by
  intro F O ρ σ H vs ds z Q w at_ e p
  unfold tupleD at e
  split at e
  · cases e
    obtain ⟨v, rfl, ha⟩ := at_.one
    obtain ⟨a, us, rfl, q, r⟩ := ha.list w.f
    exact ⟨a, us, rfl, .inl ⟨SqL.of q, fun l hl => p.new w hl (.tup upd_same (r.mono (sub_upd (w.f.none hl))))⟩⟩
  · cases e
    obtain ⟨v, rfl, ha⟩ := at_.one
    obtain ⟨a, us, rfl, q0, q, r⟩ := ha.tuple w.f
    exact ⟨a, us, rfl, .inr ⟨q, p.now w (.tup q0 r)⟩⟩
  · cases e
theorem ok_list : FunOkF G (fun xs H Q => ∃ p ys, xs = [.ref p] ∧ (SqL G.K H p ys ∨ SqT G.K H p ys) ∧ ∀ l, H l = none → Q (.ref l) (upd H l (.lst ys))) listD := by
  intro F O ρ σ H vs ds z Q w at_ e p
  unfold listD at e
  split at e
  · cases e
    obtain ⟨v, rfl, ha⟩ := at_.one
    obtain ⟨a, us, rfl, q, r⟩ := ha.list w.f
    exact ⟨a, us, rfl, .inl (SqL.of q), fun l hl => w.laidF p hl r⟩
  · cases e
    obtain ⟨v, rfl, ha⟩ := at_.one
    obtain ⟨a, us, rfl, q0, q, r⟩ := ha.tuple w.f
    exact ⟨a, us, rfl, .inr q, fun l hl => w.laidF p hl r⟩
  · cases e
theorem ok_sorted : FunOkF G (rSortedI G.K) sortedD := by
  intro F O ρ σ H vs ds z Q w at_ e p
  unfold sortedD at e
  split at e
  · obtain ⟨ns, e1, rfl⟩ := Option.map_eq_some_iff.mp e
    obtain ⟨v, rfl, ha⟩ := at_.one
    obtain ⟨a, us, rfl, q, r⟩ := ha.list w.f
    obtain ⟨rfl, rfl⟩ := intsD_rel r e1
    refine ⟨a, ns, rfl, SqL.of q, fun ns' l hp hs hl => ?_⟩
    have := sortI_eq hp hs
    subst this
    exact w.laidF p hl (RpL.ints _)
  · cases e

/-! ### isinstance -/
inductive Ty where
  | int | bool | str | tuple | list | dict
  deriving DecidableEq
def Ty.nm : Ty → String
  | .int => "int"
  | .bool => "bool"
  | .str => "str"
  | .tuple => "tuple"
  | .list => "list"
  | .dict => "dict"
def Ty.of : Ty → D → Bool
  | .int, .int _ => true
  | .int, .bool _ => true
  | .bool, .bool _ => true
  | .str, .str _ => true
  | .tuple, .tuple _ => true
  | .list, .list _ => true
  | .dict, .dict _ => true
  | _, _ => false
def isScr : D → Bool
  | .dict _ => true
  | _ => false
/-- whether a value is of a type; none for the script -/
def isT (t : Ty) (d : D) : Option Bool := if isScr d then none else some (t.of d)
def dTy : D → String
  | .none => "NoneType"
  | .bool _ => "bool"
  | .int _ => "int"
  | .str _ => "str"
  | .list _ => "list"
  | .tuple _ => "tuple"
  | .dict _ => "dict"
inductive Kd where
  | non | bl | int | str | lst | tup | dic
def Kd.nm : Kd → String
  | .non => "NoneType"
  | .bl => "bool"
  | .int => "int"
  | .str => "str"
  | .lst => "list"
  | .tup => "tuple"
  | .dic => "dict"
def Kd.isT : Kd → Ty → Bool
  | .int, .int => true
  | .bl, .int => true
  | .bl, .bool => true
  | .str, .str => true
  | .tup, .tuple => true
  | .lst, .list => true
  | .dic, .dict => true
  | _, _ => false
theorem kd_kit (k : Kd) (t : Ty) : kitB k.nm t.nm = some (k.isT t) := by cases k <;> cases t <;> decide +kernel
theorem kd_of (t : Ty) (d : D) : ∃ k : Kd, dTy d = k.nm ∧ t.of d = k.isT t := by
  cases d with
  | none => exact ⟨.non, rfl, by cases t <;> rfl⟩
  | bool b => exact ⟨.bl, rfl, by cases t <;> rfl⟩
  | int b => exact ⟨.int, rfl, by cases t <;> rfl⟩
  | str b => exact ⟨.str, rfl, by cases t <;> rfl⟩
  | list b => exact ⟨.lst, rfl, by cases t <;> rfl⟩
  | tuple b => exact ⟨.tup, rfl, by cases t <;> rfl⟩
  | dict b => exact ⟨.dic, rfl, by cases t <;> rfl⟩
theorem isT_kit {K : PySem.W.Frag} {t : Ty} {d : D} {b : Bool} (e : isT t d = some b) : PySem.W.kitOne K (.type (dTy d)) (.type t.nm) = some b := by
  unfold isT at e
  split at e
  · cases e
  · cases e
    obtain ⟨k, e1, e2⟩ := kd_of t d
    rw [e1, e2]
    exact kit_ty (kd_kit k t)
theorem At.ty {K : PySem.W.Frag} {F H : Hp} {v : V} {d : D} (s : Sub F H) (h : At K F H v d) (ns : ∀ x, d ≠ .dict x) : TyX K H v (.type (dTy d)) := by
  have tupT : ∀ {a : Addr} {vs : List V}, SqT K H a vs → TyX K H (.ref a) (.type "tuple") := fun {a vs} q => by
    rcases q with (q | ⟨o, q⟩) | ⟨o, its, n, q, hc, _⟩
    · exact .base (.tup q)
    · exact .fTuple q
    · exact .kTuple q hc
  rcases h with h | ⟨a, rfl, h⟩
  · cases h with
    | non => exact .base .non
    | bl b => exact .base (.bl b)
    | int b => exact .base (.int b)
    | str b => exact .base (.str b)
    | lst q r => exact .base (.lst (s.eq q))
    | scr q => exact absurd rfl (ns _)
    | tup q r => exact tupT (.inl (.inl (s.eq q)))
    | dK q r => exact absurd rfl (ns _)
    | dT _ q r => exact absurd rfl (ns _)
  · cases d with
    | list ds => obtain ⟨vs, e, r⟩ := h; exact .base (.lst e)
    | dict ds =>
      rcases h with ⟨vs, e, r⟩ | ⟨vs, _, e, r⟩
      · exact .base (.dK e)
      · exact .base (.dT e)
    | _ => exact h.elim
theorem isT_ns {t : Ty} {d : D} {b : Bool} (e : isT t d = some b) : ∀ x, d ≠ .dict x := fun x z => by
  subst z; simp [isT, isScr] at e
def isiD (ts : List Ty) (d : D) : Option D :=
  match ts with
  | [] => if (isT .int d).isSome then some (.bool false) else none
  | [t] => (isT t d).map .bool
  | t :: r => match isT t d with
    | some true => some (.bool true)
    | some false => isiD r d
    | none => none
variable {a : Expr} {sa : Rho → Rs Vl} {p p1 p2 pos : Pos}
theorem boot_ty (t : Ty) : bootBuiltins t.nm = some (.type t.nm) := by cases t <;> decide +kernel
/-- isinstance(x, T) -/
theorem de_isi (hK : X.K = G.K) {t : Ty} (hg : Gl X "isinstance") (hm : X.mg "isinstance" = none) (hg2 : Gl X t.nm) (hm2 : X.mg t.nm = none) (hn : notStar a = true) (ha : PE X a (tE G sa)) :
    DE X G (.Call (.Name "isinstance" p1) [a, .Name t.nm p2] [] pos) (sUn (isiD [t]) sa) := by
  have hT : PE X (.Name t.nm p2) (tC (.ty t.nm)) := pe_bltn hg2 hm2 (boot_ty t) rfl (by cases t <;> decide) (by cases t <;> decide)
  refine .val (PE.imp (pe_callB call_isi hg hm (by decide +kernel) (pa_cons ha (pa_cons hT pa_nil) (star_plain hn _)) (by decide) (by decide) (star_plain hn _) (any_plain (by rfl) _ _)) fun σ H Q h => ?_) fun _ => rfl
  obtain ⟨ρ, F, O, w, h⟩ := h
  refine tG.bind w h fun x ρ1 v H1 F1 _ w1 s1 rx h1 => ?_
  obtain ⟨d, z, hd, e, k⟩ := one_fin w1 rx h1
  obtain ⟨b, e1, rfl⟩ := Option.map_eq_some_iff.mp (show (isT t d).map PyData.bool = some z from e)
  rw [hK]
  exact ⟨v, .ty t.nm, _, _, b, rfl, .ty _, hd.ty w1.f (isT_ns e1), isT_kit e1, k.now w1 (.bl _)⟩
end
end L3
/-! L3, part 8: slices, isinstance of several types, displays of lists. -/
namespace L3
open PySem PySem.Spec PyProof.Rows L2

/-! ### slices -/
def cutL {α : Type} (xs : List α) (lo hi : Option Int) : List α := (xs.drop (HT.sIx xs.length 0 lo)).take (HT.sIx xs.length xs.length hi - HT.sIx xs.length 0 lo)
def sPart : Option (Rho → Rs Vl) → Rho → Rs (Option Int)
  | none, ρ => .ok none ρ
  | some s, ρ => (s ρ).bind fun x ρ => match x.cont ρ with
    | some (.int i) => .ok (some i) ρ
    | _ => .bad
def slOf (ρ : Rho) (o : Option D) (lo hi : Option Int) : Rs Vf :=
  match o with
  | some (.list xs) => .ok (.fr (.list (cutL xs lo hi))) ρ
  | some (.tuple xs) => .ok (.v (.d (.tuple (cutL xs lo hi)))) ρ
  | _ => .bad
def sSl (a : Rho → Rs Vl) (lo hi : Option (Rho → Rs Vl)) : Rho → Rs Vf := fun ρ => (a ρ).bind fun x ρ => (sPart lo ρ).bind fun l ρ => (sPart hi ρ).bind fun h ρ => slOf ρ (x.cont ρ) l h
def RO (_ : PySem.W.Frag) (_ : Hp) (_ : L2.St) (b c : Option Int) : Prop := b = c
/-- a part of a slice -/
structure DO (X : Cx) (G : Gx) (o : Option Expr) (s : Option (Rho → Rs Vl)) : Prop where
  ex : ∃ t, PO X o t ∧ ∀ σ H Q, tG G RO (sPart s) σ H Q → t σ H Q
section
variable {X : Cx} {G : Gx} {a : Expr} {sa : Rho → Rs Vl} {lo hi : Option Expr} {sl sh : Option (Rho → Rs Vl)} {pos p2 : Pos}
theorem do_none : DO X G none none := ⟨tNoPart, po_none, fun σ H Q h => by
  obtain ⟨ρ, F, O, w, h⟩ := h
  exact h none H F w (Sub.refl _) rfl⟩
theorem do_some {e : Expr} {s : Rho → Rs Vl} (h : PE X e (tE G s)) : DO X G (some e) (some s) := ⟨tPart (tE G s), po_some h, fun σ H Q h => by
  obtain ⟨ρ, F, O, w, h⟩ := h
  refine Tgt.fin.bind w h fun x ρ1 v H1 F1 w1 s1 rx h1 => ?_
  cases e : x.cont ρ1 with
  | none => rw [e] at h1; exact h1.elim
  | some d =>
    rw [e] at h1
    cases d with
    | int i => exact ⟨i, (w1.at rx e).int, h1 _ _ _ w1 (Sub.refl _) rfl⟩
    | _ => exact h1.elim⟩
theorem RpL.cut {K : PySem.W.Frag} {F : Hp} {vs : List V} {ds : List D} (r : RpL K F vs ds) (lo hi : Option Int) : RpL K F (cutV vs lo hi) (cutL ds lo hi) := by
  unfold cutV cutL
  rw [r.length]
  exact (r.drop _).take _
theorem df_slice (hK : X.K = G.K) (ha : PE X a (tE G sa)) (hl : DO X G lo sl) (hh : DO X G hi sh) : DF X G (.Subscript a (.Slice lo hi none p2) pos) (sSl sa sl sh) := by
  obtain ⟨tl, pl, il⟩ := hl.ex
  obtain ⟨th, ph, ih⟩ := hh.ex
  refine ⟨PE.imp (pe_slice (sl_list.or sl_tupA) ha pl ph) fun σ H Q h => ?_, fun _ => rfl⟩
  obtain ⟨ρ, F, O, w, h⟩ := h
  refine Tgt.finF.bind w h fun x ρ1 v H1 F1 w1 s1 rx h1 => il _ _ _ (Tgt.finF.bind w1 h1 fun l ρ2 l' H2 F2 w2 s2 el h2 => ih _ _ _ (Tgt.finF.bind w2 h2 fun u ρ3 u' H3 F3 w3 s3 eu h3 => ?_))
  have el : l' = l := el
  have eu : u' = u := eu
  subst el eu
  have rx3 : RV G.K F3 σ v x := (rx.mono s2).mono s3
  unfold slOf at h3
  split at h3
  · rename_i xs e
    obtain ⟨b, us, rfl, q, r⟩ := (w3.at rx3 e).list w3.f
    exact .inl ⟨b, us, rfl, SqL.of q, fun p hp => w3.laidF h3 hp (r.cut _ _)⟩
  · rename_i xs e
    obtain ⟨b, us, rfl, q0, q, r⟩ := (w3.at rx3 e).tuple w3.f
    rw [hK]
    refine .inr ⟨b, us, rfl, q, fun hw => ?_, fun _ p hp => ?_⟩
    · have : cutL xs l' u' = xs := by
        unfold cutL
        rw [← r.length, hw.1, hw.2, List.drop_zero, Nat.sub_zero]
        exact List.take_of_length_le (by rw [r.length]; exact Nat.le_refl _)
      rw [this] at h3
      exact h3 _ _ _ w3 (Sub.refl _) (Rp.tup q0 r)
    · exact h3 _ _ _ (w3.alloc hp) (sub_upd (w3.f.none hp)) (Rp.tup upd_same ((r.cut _ _).mono (sub_upd (w3.f.none hp))))
  · exact h3.elim
end

/-! ### lists written out -/
def sLst (s : Rho → Rs (List Vl)) : Rho → Rs Vf := fun ρ => (s ρ).bind fun xs ρ => (frzs xs ρ).bind fun ds ρ => if szOk ds.length then .ok (.fr (.list ds)) ρ else .bad
section
variable {X : Cx} {G : Gx} {a b : Expr} {sa sb : Rho → Rs Vl} {es : List Expr} {ss : Rho → Rs (List Vl)} {pos p1 p2 p3 p4 : Pos}
theorem df_lst (h : PA X es (tA G ss)) : DF X G (.List es pos) (sLst ss) := by
  refine ⟨PE.imp (pe_lst h) fun σ H Q h => ?_, fun _ => rfl⟩
  obtain ⟨ρ, F, O, w, h⟩ := h
  refine Tgt.finF.bind w h fun xs ρ1 vs H1 F1 w1 s1 rs h1 => ?_
  obtain ⟨ds, ρ2, F2, w2, s2, r2, h2⟩ := Tgt.finF.frzs w1 rs h1
  split at h2
  · exact ⟨by rw [r2.length]; exact szOk_iff.mp ‹_›, fun p hp => w2.laidF h2 hp r2⟩
  · exact h2.elim

/-! ### list + list, at an assignment -/
def addF (ρ : Rho) (a b : Vl) : Rs Vf :=
  match a.cont ρ, b.cont ρ with
  | some (.list xs), some (.list ys) => if szOk (xs.length + ys.length) then .ok (.fr (.list (xs ++ ys))) ρ else .bad
  | _, _ => (two ρ a b addD).bind fun r ρ => .ok (.v r) ρ
def sAddF (a b : Rho → Rs Vl) : Rho → Rs Vf := fun ρ => (a ρ).bind fun x ρ => (b ρ).bind fun y ρ => addF ρ x y
theorem df_add (hK : X.K = G.K) (ha : PE X a (tE G sa)) (hb : PE X b (tE G sb)) : PE X (.BinOp a .Add b pos) (tF G (sAddF sa sb)) := by
  obtain ⟨r, ho, hr⟩ := add_ok (X := X) (G := G) hK
  refine PE.imp (pe_op (ho.or op_cat) ha hb) fun σ H Q h => ?_
  obtain ⟨ρ, F, O, w, h⟩ := h
  refine Tgt.finF.bind w h fun x ρ1 v H1 F1 w1 s1 rx h1 => Tgt.finF.bind w1 h1 fun y ρ2 u H2 F2 w2 s2 ry h2 => ?_
  have rx2 := rx.mono s2
  unfold addF at h2
  split at h2
  · rename_i xs ys e1 e2
    split at h2
    · obtain ⟨b, us, rfl, q, r⟩ := (w2.at rx2 e1).list w2.f
      obtain ⟨b', us', rfl, q', r'⟩ := (w2.at ry e2).list w2.f
      exact .inr ⟨b, b', us, us', rfl, rfl, q, q', by rw [r.length, r'.length]; exact szOk_iff.mp ‹_›, fun p hp => w2.laidF h2 hp (r.app r')⟩
    · exact h2.elim
  · have h3 : Fin G RV F2 O σ Q (two ρ2 x y addD) := by
      cases e : two ρ2 x y addD with
      | ok r ρ3 => rw [e] at h2; exact h2
      | err z ρ3 => rw [e] at h2; exact h2
      | bad => rw [e] at h2; exact h2
    obtain ⟨p, q, z, hp, hq, e, k⟩ := two_fin w2 rx2 ry h3
    exact .inl (hr w2 hp hq e k)

theorem At.upd {K : PySem.W.Frag} {F H : Hp} {v : V} {d : D} {p : Addr} {o : HO} (h : At K F H v d) (hp : H p = none) : At K F (upd H p o) v d := by
  rcases h with h | ⟨b, rfl, h⟩
  · exact .inl h
  · obtain ⟨ob, hb⟩ := h.some
    exact .inr ⟨b, rfl, h.mono (Sub.refl _) (upd_ne (ne_of_none hb hp))⟩
/-- isinstance(x, (T, U)) -/
theorem de_isi2 (hK : X.K = G.K) {t t' : Ty} {kk : Nat} (hg : Gl X "isinstance") (hm : X.mg "isinstance" = none) (hg2 : Gl X t.nm) (hm2 : X.mg t.nm = none) (hg3 : Gl X t'.nm) (hm3 : X.mg t'.nm = none) (hn : notStar a = true) (ha : PE X a (tE G sa)) :
    DE X G (.Call (.Name "isinstance" p1) [a, .Tuple [.Name t.nm p2, .Name t'.nm p3] kk p4] [] pos) (sUn (isiD [t, t']) sa) := by
  have hT : ∀ {t : Ty} {p2}, Gl X t.nm → X.mg t.nm = none → PE X (.Name t.nm p2) (tC (.ty t.nm)) := fun {t p2} hg hm => pe_bltn hg hm (boot_ty t) rfl (by cases t <;> decide) (by cases t <;> decide)
  refine .val (PE.imp (pe_callB call_isiT hg hm (by decide +kernel) (pa_cons ha (pa_cons (pe_tup (pa_cons (hT hg2 hm2) (pa_cons (hT hg3 hm3) pa_nil))) pa_nil) (star_plain hn _)) (by decide) (by decide) (star_plain hn _) (any_plain (by rfl) _ _)) fun σ H Q h => ?_) fun _ => rfl
  obtain ⟨ρ, F, O, w, h⟩ := h
  refine tG.bind w h fun x ρ1 v H1 F1 _ w1 s1 rx h1 => ?_
  obtain ⟨d, z, hd, e, k⟩ := one_fin w1 rx h1
  have fin : ∀ b, PySem.W.kitAny G.K (.type (dTy d)) [.type t.nm, .type t'.nm] = some b → z = .bool b → (∀ y, d ≠ .dict y) → [V.ty t.nm, V.ty t'.nm].length ≤ sizeLine ∧ ∀ p, H1 p = none → rIsiT X.K [v, .ref p] (upd H1 p (.tup [V.ty t.nm, V.ty t'.nm])) Q := fun b kb ez ns => by
    subst ez
    refine ⟨by show 2 ≤ sizeLine; decide, fun p hp => ?_⟩
    rw [hK]
    refine ⟨v, p, _, _, _, b, rfl, upd_same, .cons (.ty _) (.cons (.ty _) .nil), ?_, kb, k.now (w1.lose hp) (.bl _)⟩
    exact (hd.upd hp).ty (w1.lose hp).f ns
  have e : (match isT t d with
    | some true => some (PyData.bool true)
    | some false => (isT t' d).map PyData.bool
    | none => none) = some z := e
  cases h1 : isT t d with
  | none => rw [h1] at e; cases e
  | some b =>
    rw [h1] at e
    have k1 := isT_kit (K := G.K) h1
    cases b with
    | true =>
      cases e
      exact fin true (by unfold PySem.W.kitAny; rw [k1]) rfl (isT_ns h1)
    | false =>
      obtain ⟨b, h2, rfl⟩ := Option.map_eq_some_iff.mp (show (isT t' d).map PyData.bool = some z from e)
      have k2 := isT_kit (K := G.K) h2
      refine fin b ?_ rfl (isT_ns h1)
      unfold PySem.W.kitAny
      rw [k1]
      show PySem.W.kitAny G.K (.type (dTy d)) [.type t'.nm] = some b
      unfold PySem.W.kitAny
      rw [k2]
      cases b <;> rfl
end
end L3
/-! L3, part 9: statements. -/
namespace L3
open PySem PySem.Spec PyProof.Rows L2

inductive Fl where
  | nx | bk | ct | rt (d : D)
def FinS (G : Gx) (F : Hp) (O : Fm) (N : Ends) : Rs Fl → Prop
  | .ok .nx ρ' => ∀ σ' H' F', Wd G.K F' O ρ' σ' H' → Sub F F' → N.nx σ' H'
  | .ok .bk ρ' => ∀ σ' H' F', Wd G.K F' O ρ' σ' H' → Sub F F' → N.bk σ' H'
  | .ok .ct ρ' => ∀ σ' H' F', Wd G.K F' O ρ' σ' H' → Sub F F' → N.ct σ' H'
  | .ok (.rt d) ρ' => ∀ v σ' H' F', Wd G.K F' O ρ' σ' H' → Sub F F' → Rp G.K F' v d → N.rt v H'
  | .err x ρ' => ∀ c dd σ' H' F', Wd G.K F' O ρ' σ' H' → Sub F F' → XAt G.K F' G.cn c dd x → G.W c dd σ' H'
  | .bad => False
def tS (G : Gx) (s : Rho → Rs Fl) : TS := fun N σ H => ∃ ρ F O, Wd G.K F O ρ σ H ∧ FinS G F O N (s ρ)
theorem FinS.mono {G : Gx} {F F1 : Hp} {O : Fm} {N : Ends} (s : Sub F F1) : ∀ {r : Rs Fl}, FinS G F O N r → FinS G F1 O N r
  | .ok .nx _, h => fun σ H' F' w z => h σ H' F' w (s.trans z)
  | .ok .bk _, h => fun σ H' F' w z => h σ H' F' w (s.trans z)
  | .ok .ct _, h => fun σ H' F' w z => h σ H' F' w (s.trans z)
  | .ok (.rt _) _, h => fun v σ H' F' w z => h v σ H' F' w (s.trans z)
  | .err _ _, h => fun c dd σ H' F' w z => h c dd σ H' F' w (s.trans z)
  | .bad, h => h
theorem Tgt.finS {G : Gx} {O : Fm} {σ : L2.St} {N : Ends} : Tgt G O σ (fun F r => FinS G F O N r) := ⟨fun s h => FinS.mono s h, fun h c dd H' F' w s x => h c dd σ H' F' w s x, fun h => h⟩
theorem PS.imp {X : Cx} {st : Stmt} {t t' : TS} (h : PS X st t) (i : ∀ N σ H, t' N σ H → t N σ H) : PS X st t' := ⟨fun pins s σ H N I q => h.run pins s σ H N I (i _ _ _ q)⟩
theorem PSs.imp {X : Cx} {st : List Stmt} {t t' : TS} (h : PSs X st t) (i : ∀ N σ H, t' N σ H → t N σ H) : PSs X st t' := ⟨fun pins s σ H N I q => h.run pins s σ H N I (i _ _ _ q)⟩

def sNx : Rho → Rs Fl := fun ρ => .ok .nx ρ
def sSeq (a b : Rho → Rs Fl) : Rho → Rs Fl := fun ρ => (a ρ).bind fun f ρ => match f with
  | .nx => b ρ
  | f => .ok f ρ
def sIfS (c : Rho → Rs Vl) (a b : Rho → Rs Fl) : Rho → Rs Fl := fun ρ => (asB c ρ).bind fun k ρ => if k then a ρ else b ρ
def sRet (e : Rho → Rs Vl) : Rho → Rs Fl := fun ρ => (e ρ).bind fun x ρ => (frz x ρ).bind fun d ρ => .ok (.rt d) ρ
def sExp (e : Rho → Rs Vl) : Rho → Rs Fl := fun ρ => (e ρ).bind fun _ ρ => .ok .nx ρ
/-- storing at slot i: what it owned is lost; a parameter's or walked container is not stored over -/
def put (i : Nat) (c : Cell) (ρ : Rho) : Rs Fl :=
  match ρ[i]? with
  | some (Cell.own true _) => .bad
  | some (Cell.lck _ _) => .bad
  | some _ => .ok .nx (ρ.set i c)
  | none => .bad
def sAsg (i : Nat) (e : Rho → Rs Vf) : Rho → Rs Fl := fun ρ => (e ρ).bind fun r ρ => match r with
  | .v x => (frz x ρ).bind fun d ρ => put i (.val d) ρ
  | .fr d => put i (.own false d) ρ
def sWhile (c : Rho → Rs Vl) (b : Rho → Rs Fl) : Nat → Rho → Rs Fl
  | 0, _ => .bad
  | n + 1, ρ => (asB c ρ).bind fun k ρ => if k then (b ρ).bind fun f ρ => match f with
      | .nx => sWhile c b n ρ
      | .ct => sWhile c b n ρ
      | .bk => .ok .nx ρ
      | .rt d => .ok (.rt d) ρ
    else .ok .nx ρ

section
variable {K : PySem.W.Frag} {F : Hp} {O : Fm} {ρ ρ' : Rho} {σ : L2.St} {H : Hp}
theorem put_inv {i : Nat} {c : Cell} {f : Fl} (e : put i c ρ = .ok f ρ') : f = .nx ∧ ρ' = ρ.set i c ∧ i < ρ.length ∧ ∀ p d, ρ[i]? ≠ some (Cell.lck p d) := by
  unfold put at e
  have hi : ∀ {x}, ρ[i]? = some x → i < ρ.length := fun {x} h => (List.getElem?_eq_some_iff.mp h).1
  split at e
  · cases e
  · cases e
  · rename_i h1 h2 h3
    cases e
    exact ⟨rfl, rfl, hi h3, fun p d z => h2 p d (Option.some.inj (h3.symm.trans z))⟩
  · cases e
theorem put_nerr {i : Nat} {c : Cell} {x : Xn} : put i c ρ ≠ .err x ρ' := by
  intro e
  unfold put at e
  split at e <;> cases e
/-- a value is stored -/
theorem Wd.put (w : Wd K F O ρ σ H) {i : Nat} {d : D} {v : V} (hi : i < ρ.length) (nl : ∀ p d, ρ[i]? ≠ some (Cell.lck p d)) (r : Rp K F v d) : Wd K F O (ρ.set i (.val d)) (σ.set i (some v)) H := by
  have hσ : i < σ.length := w.len ▸ hi
  refine ⟨by rw [List.length_set, List.length_set]; exact w.len, w.f, w.o, w.fo, fun j e hj => ?_, fun j c e hj hc => ?_, fun j c a hj hp ha => ?_, fun j b q y hy => ?_, fun j q y hj => ?_, fun j k c1 c2 d1 d2 a ne e1 e2 q1 q2 z1 z2 => ?_⟩
  · rcases get_set hj with ⟨rfl, z⟩ | ⟨ne, hj⟩
    · cases z; exact ⟨v, List.getElem?_set_self hσ, r⟩
    · obtain ⟨u, q1, q2⟩ := w.val j e hj
      exact ⟨u, by rw [List.getElem?_set_ne (Ne.symm ne)]; exact q1, q2⟩
  · rcases get_set hj with ⟨rfl, z⟩ | ⟨ne, hj⟩
    · subst z; cases hc
    · obtain ⟨a, q1, q2⟩ := w.own j c e hj hc
      exact ⟨a, by rw [List.getElem?_set_ne (Ne.symm ne)]; exact q1, q2⟩
  · rcases get_set hj with ⟨rfl, z⟩ | ⟨ne, hj⟩
    · subst z; cases hp
    · rw [List.getElem?_set_ne (Ne.symm ne)] at ha
      exact w.pr j c a hj hp ha
  · obtain ⟨q1, q2⟩ := w.wl j b q y hy
    have ne : i ≠ j := fun z => by subst z; exact nl _ _ q1
    exact ⟨by rw [List.getElem?_set_ne ne]; exact q1, by rw [List.getElem?_set_ne ne]; exact q2⟩
  · rcases get_set hj with ⟨rfl, z⟩ | ⟨_, hj⟩
    · cases z
    · exact w.lk j q y hj
  · rcases get_set e1 with ⟨rfl, z⟩ | ⟨n1, e1⟩
    · subst z; cases q1
    · rcases get_set e2 with ⟨rfl, z⟩ | ⟨n2, e2⟩
      · subst z; cases q2
      · rw [List.getElem?_set_ne (Ne.symm n1)] at z1
        rw [List.getElem?_set_ne (Ne.symm n2)] at z2
        exact w.ap j k c1 c2 d1 d2 a ne e1 e2 q1 q2 z1 z2
/-- a fresh container is stored -/
theorem Wd.putF (w : Wd K F O ρ σ H) {i : Nat} {d : D} {a : Addr} (hi : i < ρ.length) (nl : ∀ p d, ρ[i]? ≠ some (Cell.lck p d)) (x : FreshAt K F O ρ σ H a d) : Wd K F O (ρ.set i (.own false d)) (σ.set i (some (.ref a))) H := by
  have hσ : i < σ.length := w.len ▸ hi
  refine ⟨by rw [List.length_set, List.length_set]; exact w.len, w.f, w.o, w.fo, fun j e hj => ?_, fun j c e hj hc => ?_, fun j c b hj hp ha => ?_, fun j b q y hy => ?_, fun j q y hj => ?_, fun j k c1 c2 d1 d2 b ne e1 e2 q1 q2 z1 z2 => ?_⟩
  · rcases get_set hj with ⟨rfl, z⟩ | ⟨ne, hj⟩
    · cases z
    · obtain ⟨u, q1, q2⟩ := w.val j e hj
      exact ⟨u, by rw [List.getElem?_set_ne (Ne.symm ne)]; exact q1, q2⟩
  · rcases get_set hj with ⟨rfl, z⟩ | ⟨ne, hj⟩
    · subst z; cases hc; exact ⟨a, List.getElem?_set_self hσ, x.f, x.o, x.at_⟩
    · obtain ⟨b, q1, q2⟩ := w.own j c e hj hc
      exact ⟨b, by rw [List.getElem?_set_ne (Ne.symm ne)]; exact q1, q2⟩
  · rcases get_set hj with ⟨rfl, z⟩ | ⟨ne, hj⟩
    · subst z; cases hp
    · rw [List.getElem?_set_ne (Ne.symm ne)] at ha
      exact w.pr j c b hj hp ha
  · obtain ⟨q1, q2⟩ := w.wl j b q y hy
    have ne : i ≠ j := fun z => by subst z; exact nl _ _ q1
    exact ⟨by rw [List.getElem?_set_ne ne]; exact q1, by rw [List.getElem?_set_ne ne]; exact q2⟩
  · rcases get_set hj with ⟨rfl, z⟩ | ⟨_, hj⟩
    · cases z
    · exact w.lk j q y hj
  · rcases get_set e1 with ⟨rfl, y1⟩ | ⟨n1, e1⟩
    · rcases get_set e2 with ⟨rfl, y2⟩ | ⟨n2, e2⟩
      · exact ne rfl
      · rw [List.getElem?_set_self hσ] at z1
        cases z1
        rw [List.getElem?_set_ne (Ne.symm n2)] at z2
        exact x.ap k c2 d2 e2 q2 z2
    · rcases get_set e2 with ⟨y0, y2⟩ | ⟨n2, e2⟩
      · rw [y0, List.getElem?_set_self hσ] at z2
        cases z2
        rw [List.getElem?_set_ne (Ne.symm n1)] at z1
        exact (x.ap j c1 d1 e1 q1 z1).elim
      · rw [List.getElem?_set_ne (Ne.symm n1)] at z1
        rw [List.getElem?_set_ne (Ne.symm n2)] at z2
        exact w.ap j k c1 c2 d1 d2 b ne e1 e2 q1 q2 z1 z2
end

section
variable {X : Cx} {G : Gx} {st : Stmt} {rest : List Stmt} {e c : Expr} {se sc : Rho → Rs Vl} {sf : Rho → Rs Vf} {s s' : Rho → Rs Fl} {pos pos' : Pos} {body orelse : List Stmt}
theorem ds_nil : PSs X [] (tS G sNx) := PSs.imp pss_nil fun N σ H h => by
  obtain ⟨ρ, F, O, w, h⟩ := h
  exact h σ H F w (Sub.refl _)
theorem ds_pass : PS X (.Pass pos) (tS G sNx) := PS.imp ps_pass fun N σ H h => by
  obtain ⟨ρ, F, O, w, h⟩ := h
  exact h σ H F w (Sub.refl _)
theorem ds_break : PS X (.Break pos) (tS G fun ρ => .ok .bk ρ) := PS.imp ps_break fun N σ H h => by
  obtain ⟨ρ, F, O, w, h⟩ := h
  exact h σ H F w (Sub.refl _)
theorem ds_cont : PS X (.Continue pos) (tS G fun ρ => .ok .ct ρ) := PS.imp ps_continue fun N σ H h => by
  obtain ⟨ρ, F, O, w, h⟩ := h
  exact h σ H F w (Sub.refl _)
theorem FinS.seq {F : Hp} {O : Fm} {N : Ends} {r : Rs Fl} {k : Rho → Rs Fl} (h : FinS G F O N (r.bind fun f ρ => match f with | .nx => k ρ | f => .ok f ρ)) :
    FinS G F O { N with nx := fun σ H => ∃ ρ F' , Wd G.K F' O ρ σ H ∧ FinS G F' O N (k ρ) } r := by
  cases r with
  | ok f ρ =>
    cases f with
    | nx => exact fun σ' H' F' w z => ⟨ρ, F', w, FinS.mono z h⟩
    | bk => exact h
    | ct => exact h
    | rt d => exact h
  | err x ρ => exact h
  | bad => exact h
theorem ds_cons (h1 : PS X st (tS G s)) (h2 : PSs X rest (tS G s')) : PSs X (st :: rest) (tS G (sSeq s s')) := by
  refine PSs.imp (pss_cons h1 h2) fun N σ H h => ?_
  obtain ⟨ρ, F, O, w, h⟩ := h
  refine ⟨ρ, F, O, w, ?_⟩
  have h' := FinS.seq h
  cases e : s ρ with
  | ok f ρ1 =>
    rw [e] at h'
    cases f with
    | nx =>
      intro σ' H' F' w' z
      obtain ⟨ρ2, F2, w2, h2⟩ := h' σ' H' F' w' z
      exact ⟨ρ2, F2, O, w2, h2⟩
    | bk => exact h'
    | ct => exact h'
    | rt d => exact h'
  | err x ρ1 => rw [e] at h'; exact h'
  | bad => rw [e] at h'; exact h'
theorem ds_one (h1 : PS X st (tS G s)) : PSs X [st] (tS G s) := PSs.imp (pss_one h1) fun _ _ _ h => h
theorem ds_if (hc : DE X G c sc) (h1 : PSs X body (tS G s)) (h2 : PSs X orelse (tS G s')) : PS X (.If c body orelse pos) (tS G (sIfS sc s s')) := by
  refine PS.imp (ps_if hc.pt h1 h2) fun N σ H h => ?_
  obtain ⟨ρ, F, O, w, h⟩ := h
  refine Tgt.finS.test w h fun k ρ1 H1 F1 w1 s1 h1 => ?_
  cases k with
  | true => rw [if_pos rfl]; exact ⟨ρ1, F1, O, w1, h1⟩
  | false => rw [if_neg (by decide)]; exact ⟨ρ1, F1, O, w1, h1⟩
theorem ds_ret (he : PE X e (tE G se)) : PS X (.Return (some e) pos) (tS G (sRet se)) := by
  refine PS.imp (ps_ret he) fun N σ H h => ?_
  obtain ⟨ρ, F, O, w, h⟩ := h
  refine Tgt.finS.bind w h fun x ρ1 v H1 F1 w1 s1 rx h1 => ?_
  obtain ⟨d, ρ2, F2, w2, s2, r2, h2⟩ := Tgt.finS.frz w1 rx h1
  exact h2 v σ H1 F2 w2 (Sub.refl _) r2
theorem ds_retN : PS X (.Return none pos) (tS G fun ρ => .ok (.rt .none) ρ) := PS.imp ps_retN fun N σ H h => by
  obtain ⟨ρ, F, O, w, h⟩ := h
  exact h .non σ H F w (Sub.refl _) .non
theorem ds_expr (he : PE X e (tE G se)) (hs : swapsWith e none pos.line X.env = pure false) : PS X (.Expr e pos) (tS G (sExp se)) := by
  refine PS.imp (ps_expr he hs) fun N σ H h => ?_
  obtain ⟨ρ, F, O, w, h⟩ := h
  refine Tgt.finS.bind w h fun x ρ1 v H1 F1 w1 s1 rx h1 => h1 σ H1 F1 w1 (Sub.refl _)
theorem put_fin {F H : Hp} {O : Fm} {N : Ends} {ρ : Rho} {i : Nat} {c : Cell} (h : FinS G F O N (put i c ρ)) : i < ρ.length ∧ (∀ p d, ρ[i]? ≠ some (Cell.lck p d)) ∧ ∀ σ' H' F', Wd G.K F' O (ρ.set i c) σ' H' → Sub F F' → N.nx σ' H' := by
  cases e : put i c ρ with
  | ok f ρ' =>
    obtain ⟨rfl, rfl, hi, nl⟩ := put_inv e
    rw [e] at h
    exact ⟨hi, nl, h⟩
  | err x ρ' => exact absurd e put_nerr
  | bad => rw [e] at h; exact h.elim
/-- what a fresh or other value becomes at slot i -/
theorem asg_step {F H : Hp} {O : Fm} {ρ : Rho} {σ : L2.St} {N : Ends} {i : Nat} (w : Wd G.K F O ρ σ H) (h : FinS G F O N (sAsg i sf ρ)) : FinF G F O σ (fun v H1 => N.nx (σ.set i (some v)) H1) (sf ρ) := by
  unfold sAsg at h
  cases e : sf ρ with
  | ok r ρ1 =>
    rw [e, Rs.bind_ok] at h
    cases r with
    | v x =>
      intro v H' F' w' z r'
      obtain ⟨d, ρ2, F2, w2, s2, r2, h2⟩ := Tgt.finS.frz w' r' (FinS.mono z h)
      obtain ⟨hi, nl, k⟩ := put_fin (H := H') h2
      exact k _ _ _ (w2.put hi nl r2) (Sub.refl _)
    | fr d =>
      intro a H' F' w' z x
      obtain ⟨hi, nl, k⟩ := put_fin (H := H') (FinS.mono z h)
      exact k _ _ _ (w'.putF hi nl x) (Sub.refl _)
  | err x ρ1 =>
    rw [e] at h
    exact fun c dd H' F' w' z x => h c dd σ H' F' w' z x
  | bad => rw [e] at h; exact h
theorem ds_asg {i : Nat} {x : Str} (hN : X.N.Nodup) (hi : X.N[i]? = some x) (hx : Loc X.env.scope x) (he : PE X e (tF G sf)) (hf : X.fn x = true ∨ X.env.scope.names.lookup x = some .local) (hs : swapsWithSole [.Name x pos'] e pos.line X.env = pure false) : PS X (.Assign [.Name x pos'] e pos) (tS G (sAsg i sf)) := by
  refine PS.imp (ps_asg he (pg_name hN hi hx hf) hs) fun N σ H h => ?_
  obtain ⟨ρ, F, O, w, h⟩ := h
  exact ⟨ρ, F, O, w, asg_step w h⟩
theorem ds_while {n : Nat} (hp : PassesOwn (model X.prog X.w) X.A X.env X.xe) (hc : DE X G c sc) (hb : PSs X body (tS G s)) : PS X (.While c body [] pos) (tS G (sWhile sc s n)) := by
  refine PS.imp (ps_while hp hc.pt hb) fun N σ H h => ?_
  obtain ⟨ρ, F, O, w, h⟩ := h
  refine ⟨fun m σ H => ∃ ρ F O, Wd G.K F O ρ σ H ∧ FinS G F O N (sWhile sc s m ρ), ⟨n, ρ, F, O, w, h⟩, fun m σ H h => ?_⟩
  obtain ⟨ρ, F, O, w, h⟩ := h
  cases m with
  | zero => exact h.elim
  | succ m =>
    refine Tgt.finS.test w h fun k ρ1 H1 F1 w1 s1 h1 => ?_
    cases k with
    | false => rw [if_neg (by decide)]; exact h1 σ H1 F1 w1 (Sub.refl _)
    | true =>
      rw [if_pos rfl]
      rw [if_pos rfl] at h1
      refine ⟨fun σ' H' => ∃ ρ F O, Wd G.K F O ρ σ' H' ∧ FinS G F O N (sWhile sc s m ρ), fun σ' H' q => ⟨m, Nat.lt_succ_self m, q⟩, ρ1, F1, O, w1, ?_⟩
      cases e : s ρ1 with
      | ok f ρ2 =>
        rw [e, Rs.bind_ok] at h1
        cases f with
        | nx => exact fun σ' H' F' w' z => ⟨ρ2, F', O, w', FinS.mono z h1⟩
        | ct => exact fun σ' H' F' w' z => ⟨ρ2, F', O, w', FinS.mono z h1⟩
        | bk => exact h1
        | rt d => exact h1
      | err x ρ2 => rw [e] at h1; exact h1
      | bad => rw [e] at h1; exact h1
end
end L3
/-! L3, part 10: defs: what one promises, its call, its body. -/
namespace L3
open PySem PySem.Spec PyProof.Rows L2

/-- what a def gives: a value and what became of the containers handed over (outs, by parameter), or an exception -/
inductive FR where
  | ok (d : D) (outs : List Cell) | err (x : Xn) | bad
abbrev Fn := List D → FR

/-- the frozen part and others' objects -/
structure W0 (F Oo H : Hp) : Prop where
  f : Sub F H
  o : SubS Oo H
  fo : ∀ a o, Oo a = some o → F a = none
/-- the arguments: ms tells which are handed over -/
def ArgsAt (K : PySem.W.Frag) (F Oo H : Hp) : List Bool → List V → List D → Prop
  | [], [], [] => True
  | m :: ms, v :: vs, d :: ds => (if m then ∃ a, v = .ref a ∧ F a = none ∧ Oo a = none ∧ OwnAt K F H a d else Rp K F v d) ∧ ArgsAt K F Oo H ms vs ds
  | _, _, _ => False
/-- the containers handed over, by the addresses of the arguments -/
def ownV : List Bool → List V → List V
  | true :: ms, v :: vs => v :: ownV ms vs
  | false :: ms, _ :: vs => ownV ms vs
  | _, _ => []
def OutsAt (K : PySem.W.Frag) (F Oo H : Hp) : List Bool → List V → List Cell → Prop
  | true :: ms, v :: vs, c :: cs => (∀ p d, c = .own p d → ∃ a, v = .ref a ∧ F a = none ∧ Oo a = none ∧ OwnAt K F H a d) ∧ OutsAt K F Oo H ms vs cs
  | false :: ms, _ :: vs, _ :: cs => OutsAt K F Oo H ms vs cs
  | _, _, _ => True
def FinR (K : PySem.W.Frag) (cn : Str → Option Addr) (F Oo : Hp) (ms : List Bool) (vs : List V) (Q : VK) (E : XK) : FR → Prop
  | .ok d outs => ∀ v H' F', Sub F F' → W0 F' Oo H' → Rp K F' v d → OutsAt K F' Oo H' ms vs outs → Q v H'
  | .err x => ∀ c dd H' F', Sub F F' → W0 F' Oo H' → XAt K F' cn c dd x → E c dd H'
  | .bad => False
/-- the promise of a def whose pure meaning is φ -/
def spD (K : PySem.W.Frag) (cn : Str → Option Addr) (ms : List Bool) (φ : Fn) : Sp := fun vs H Q E => ∃ F Oo ds, W0 F Oo H ∧ ArgsAt K F Oo H ms vs ds ∧ (ownV ms vs).Nodup ∧ FinR K cn F Oo ms vs Q E (φ ds)
theorem ArgsAt.length {K : PySem.W.Frag} {F Oo H : Hp} : ∀ {ms : List Bool} {vs : List V} {ds : List D}, ArgsAt K F Oo H ms vs ds → vs.length = ms.length ∧ ds.length = ms.length
  | [], [], [], _ => ⟨rfl, rfl⟩
  | _ :: _, _ :: _, _ :: _, h => by
    obtain ⟨h1, h2⟩ := ArgsAt.length h.2
    exact ⟨congrArg (· + 1) h1, congrArg (· + 1) h2⟩

/-! ### a call that hands over nothing -/
/-- others' objects, for a callee: all that is held but the slots of I -/
noncomputable def others (O : Fm) (ρ : Rho) (σ : L2.St) (H : Hp) (I : List Nat) : Hp := fun a =>
  open Classical in if (∃ o, O.o a = some o) ∨ ∃ (i : Nat) (c : Cell) (d : D), i ∉ I ∧ ρ[i]? = some c ∧ c.held = some d ∧ σ[i]? = some (some (.ref a)) then H a else none
section
variable {K : PySem.W.Frag} {F F' : Hp} {O : Fm} {ρ ρ' : Rho} {σ : L2.St} {H H' : Hp} {I : List Nat}
theorem others_some {a : Addr} {o : HO} (h : others O ρ σ H I a = some o) : H a = some o ∧ ((∃ o, O.o a = some o) ∨ ∃ (i : Nat) (c : Cell) (d : D), i ∉ I ∧ ρ[i]? = some c ∧ c.held = some d ∧ σ[i]? = some (some (.ref a))) := by
  unfold others at h
  split at h
  · exact ⟨h, ‹_›⟩
  · cases h
theorem others_o {a : Addr} {o : HO} (w : Wd K F O ρ σ H) (h : O.o a = some o) : others O ρ σ H I a = some o := by
  unfold others
  rw [if_pos (.inl ⟨o, h⟩)]
  exact w.o a o h
theorem others_h {a : Addr} {i : Nat} {c : Cell} {d : D} (hi : i ∉ I) (h1 : ρ[i]? = some c) (h2 : c.held = some d) (h3 : σ[i]? = some (some (.ref a))) : others O ρ σ H I a = H a := by
  unfold others
  exact if_pos (.inr ⟨i, c, d, hi, h1, h2, h3⟩)
theorem Wd.w0 (w : Wd K F O ρ σ H) : W0 F (others O ρ σ H I) H := ⟨w.f, fun a o h => (others_some h).1, fun a o h => by
  rcases (others_some h).2 with ⟨o', h'⟩ | ⟨i, c, d, _, h1, h2, h3⟩
  · exact w.fo a o' h'
  · obtain ⟨b, q1, q2, _⟩ := w.own i c d h1 h2
    rw [h3] at q1; cases q1
    exact q2⟩
/-- back from a call: the slots of I hold what came back -/
theorem Wd.back (w : Wd K F O ρ σ H) (s : Sub F F') (x : W0 F' (others O ρ σ H I) H') (hl : ρ'.length = ρ.length) (same : ∀ j, j ∉ I → ρ'[j]? = ρ[j]?) (nl : ∀ i, i ∈ I → ∀ p d, ρ[i]? ≠ some (Cell.lck p d))
    (back : ∀ i c, i ∈ I → ρ'[i]? = some c → c = .no ∨ ∃ p d d0 a, ρ[i]? = some (Cell.own p d0) ∧ c = .own p d ∧ σ[i]? = some (some (.ref a)) ∧ F' a = none ∧ OwnAt K F' H' a d) : Wd K F' O ρ' σ H' := by
  have heldOf : ∀ (i : Nat) (c : Cell) (d : D), ρ'[i]? = some c → c.held = some d → ∃ (c0 : Cell) (d0 : D), ρ[i]? = some c0 ∧ c0.held = some d0 ∧ c0.par = c.par := fun i c d h1 h2 => by
    by_cases hi : i ∈ I
    · rcases back i c hi h1 with rfl | ⟨p, d1, d0, a, q1, rfl, q3, q4, q5⟩
      · cases h2
      · exact ⟨_, _, q1, rfl, rfl⟩
    · exact ⟨c, d, by rw [← same i hi]; exact h1, h2, rfl⟩
  refine ⟨hl.trans w.len, x.f, fun a o h => x.o a o (others_o w h), fun a o h => x.fo a o (others_o w h), fun i d h => ?_, fun i c d h1 h2 => ?_, fun i c a h1 h2 h3 => ?_, fun i a p d h => ?_, fun i p d h => ?_, fun i j c c' d d' a ne h1 h2 q1 q2 z1 z2 => ?_⟩
  · by_cases hi : i ∈ I
    · rcases back i _ hi h with z | ⟨p, d1, d0, a, q1, z, _⟩ <;> cases z
    · obtain ⟨v, q1, q2⟩ := w.val i d (by rw [← same i hi]; exact h)
      exact ⟨v, q1, q2.mono s⟩
  · by_cases hi : i ∈ I
    · rcases back i c hi h1 with rfl | ⟨p, d1, d0, a, q1, rfl, q3, q4, q5⟩
      · cases h2
      · cases h2
        obtain ⟨b, e1, _, e3, _⟩ := w.own i _ d0 q1 rfl
        rw [q3] at e1; cases e1
        exact ⟨a, q3, q4, e3, q5⟩
    · rw [same i hi] at h1
      obtain ⟨a, e1, e2, e3, e4⟩ := w.own i c d h1 h2
      obtain ⟨o, ho⟩ := e4.some
      have q : others O ρ σ H I a = H a := others_h hi h1 h2 e1
      have h' : H' a = H a := by rw [ho]; exact x.o a o (q.trans ho)
      exact ⟨a, e1, x.fo a o (q.trans ho), e3, e4.mono s h'⟩
  · cases hc : c.held with
    | none =>
      cases c with
      | own p y => cases hc
      | lck p y => cases hc
      | _ => cases h2
    | some d =>
      obtain ⟨c0, d0, e1, e2, e3⟩ := heldOf i c d h1 hc
      exact w.pr i c0 a e1 (e3.trans h2) h3
  · obtain ⟨q1, q2⟩ := w.wl i a p d h
    refine ⟨?_, q2⟩
    have hi : i ∉ I := fun hi => nl i hi p d q1
    rw [same i hi]; exact q1
  · by_cases hi : i ∈ I
    · rcases back i _ hi h with z | ⟨_, _, _, _, _, z, _⟩ <;> cases z
    · rw [same i hi] at h; exact w.lk i p d h
  · obtain ⟨c0, d0, e1, e2, _⟩ := heldOf i c d h1 q1
    obtain ⟨c1, d1, e3, e4, _⟩ := heldOf j c' d' h2 q2
    exact w.ap i j c0 c1 d0 d1 a ne e1 e3 e2 e4 z1 z2
end
def callR (φ : Fn) (ds : List D) (ρ : Rho) : Rs Vl :=
  match φ ds with
  | .ok d _ => .ok (.d d) ρ
  | .err x => .err x ρ
  | .bad => .bad
def sCall (φ : Fn) (a : Rho → Rs (List Vl)) : Rho → Rs Vl := fun ρ => (a ρ).bind fun xs ρ => (frzs xs ρ).bind fun ds ρ => callR φ ds ρ
theorem argsV {K : PySem.W.Frag} {F Oo H : Hp} : ∀ {vs : List V} {ds : List D} (n : Nat), vs.length = n → RpL K F vs ds → ArgsAt K F Oo H (List.replicate n false) vs ds ∧ ownV (List.replicate n false) vs = []
  | [], _, n, e, .nil => by subst e; exact ⟨trivial, rfl⟩
  | v :: vs, _, n, e, .cons h r => by
    cases n with
    | zero => cases e
    | succ n =>
      obtain ⟨h1, h2⟩ := argsV (Oo := Oo) (H := H) n (by simpa using e) r
      exact ⟨⟨h, h1⟩, h2⟩
/-- where exceptions go, at the slots -/
def GoesW (G : Gx) (σ : L2.St) : XK := fun c dd H => G.W c dd σ H
section
variable {X : Cx} {G : Gx} {k : Nat} {f : Addr} {fd : FuncData} {ps : List Str} {φ : Fn} {x : Str} {p pos : Pos} {e : Expr} {es : List Expr} {ss : Rho → Rs (List Vl)}
theorem passW (tk : Takes X G.W) (σ : L2.St) : PassesAt (L2.CX X.prog X.w) X σ (GoesW G σ) := passAt tk σ
theorem sCall_t (hK : X.K = G.K) {n : Nat} (hn : ∀ ρ xs ρ', ss ρ = .ok xs ρ' → xs.length = n) {σ : L2.St} {H : Hp} {Q : VK} (h : tE G (sCall φ ss) σ H Q) : tCallSD (spD X.K G.cn (List.replicate n false) φ) [] (GoesW G) (tA G ss) σ H Q := by
  obtain ⟨ρ, F, O, w, h⟩ := h
  unfold sCall at h
  refine ⟨ρ, F, O, w, ?_⟩
  cases e : ss ρ with
  | err y ρ1 => rw [e] at h; exact h
  | bad => rw [e] at h; exact h
  | ok xs ρ1 =>
    rw [e, Rs.bind_ok] at h
    intro vs H1 F1 w1 s1 rs
    obtain ⟨ds, ρ2, F2, w2, s2, r2, h2⟩ := Tgt.fin.frzs w1 rs (Fin.mono s1 h)
    have hl : vs.length = n := by
      rw [← hn _ _ _ e]
      clear h h2
      revert rs
      generalize vs = a
      generalize xs = b
      intro rs
      induction a generalizing b with
      | nil => cases b with | nil => rfl | cons => exact rs.elim
      | cons v a ih => cases b with | nil => exact rs.elim | cons y b => exact congrArg (· + 1) (ih b rs.2)
    obtain ⟨q1, q2⟩ := argsV (K := G.K) (F := F2) (Oo := others O ρ2 σ H1 []) (H := H1) n hl r2
    rw [List.append_nil, hK]
    refine ⟨F2, others O ρ2 σ H1 [], ds, w2.w0, q1, by rw [q2]; exact .nil, ?_⟩
    unfold callR at h2
    have bk : ∀ {F3 H3 : Hp}, Sub F2 F3 → W0 F3 (others O ρ2 σ H1 []) H3 → Wd G.K F3 O ρ2 σ H3 := fun s3 x => w2.back s3 x rfl (fun _ _ => rfl) (fun i hi => absurd hi (by simp)) fun i c hi => absurd hi (by simp)
    cases ef : φ ds with
    | ok d outs =>
      rw [ef] at h2
      exact fun v H3 F3 s3 x3 r3 _ => h2 v H3 F3 (bk s3 x3) s3 r3
    | err y =>
      rw [ef] at h2
      exact fun c dd H3 F3 s3 x3 r3 => h2 c dd H3 F3 (bk s3 x3) s3 r3
    | bad => rw [ef] at h2; exact h2
theorem de_call (F : FnOk X.prog X.w X.K X.mg X.base (L2.CX X.prog X.w) k f fd ps (spD X.K G.cn (List.replicate n false) φ)) (hr : Room k X.A) (hg : Gl X x) (hm : X.mg x = some (.ref f)) (hk : PySem.W.keepIn X.K (.ref f) = true) (hb : Binds X.K fd ps [])
    (tk : Takes X G.W) (hK : X.K = G.K) (hn : ∀ ρ xs ρ', ss ρ = .ok xs ρ' → xs.length = n) (ha : PA X (e :: es) (tA G ss)) (hp : plainArgs (e :: es) = true) (hd : (x == ("__debug__" : Str)) = false) :
    DE X G (.Call (.Name x p) (e :: es) [] pos) (sCall φ ss) := by
  have h' : notStar e = true ∧ plainArgs es = true := by simpa [plainArgs] using hp
  exact .val (PE.imp (pe_callSD F hr hg hm hk hb .nil (passW tk) ha hd (star_plain h'.1 _) (any_plain h'.2 _ _)) fun σ H Q h => sCall_t hK hn h) fun _ => rfl
end
end L3
/-! L3, part 11: a def's body keeps its promise. -/
namespace L3
open PySem PySem.Spec PyProof.Rows L2

def initC : List Bool → List D → Rho
  | m :: ms, d :: ds => (if m then Cell.own true d else .val d) :: initC ms ds
  | _, _ => []
def initR (n : Nat) (ms : List Bool) (ds : List D) : Rho := initC ms ds ++ List.replicate (n - ms.length) .no
def outC : Cell → Cell
  | .own true d => .own true d
  | _ => .no
/-- the pure meaning of a def: n slots, the parameters first -/
def defR (n : Nat) (ms : List Bool) (s : Rho → Rs Fl) : Fn := fun ds =>
  if ds.length = ms.length then
    match s (initR n ms ds) with
    | .ok (.rt d) ρ => .ok d ((ρ.take ms.length).map outC)
    | .ok .nx ρ => .ok .none ((ρ.take ms.length).map outC)
    | .err x _ => .err x
    | _ => .bad
  else .bad
def ownP : Nat → List Bool → List V → List (Nat × Addr)
  | i, true :: ms, .ref a :: vs => (i, a) :: ownP (i + 1) ms vs
  | i, _ :: ms, _ :: vs => ownP (i + 1) ms vs
  | _, _, _ => []
theorem mem_ownP : ∀ {ms : List Bool} {vs : List V} {i j : Nat} {a : Addr}, (j, a) ∈ ownP i ms vs → ∃ k, j = i + k ∧ vs[k]? = some (.ref a)
  | [], _, _, _, _, h => by simp [ownP] at h
  | m :: ms, [], _, _, _, h => by simp [ownP] at h
  | m :: ms, v :: vs, i, j, a, h => by
    have step : (j, a) ∈ ownP (i + 1) ms vs → ∃ k, j = i + k ∧ (v :: vs)[k]? = some (.ref a) := fun h => by
      obtain ⟨k, h1, h2⟩ := mem_ownP h
      exact ⟨k + 1, by omega, by simpa using h2⟩
    cases m with
    | false => exact step (by simpa only [ownP] using h)
    | true =>
      cases v with
      | ref b =>
        have h : (j, a) ∈ (i, b) :: ownP (i + 1) ms vs := by simpa only [ownP] using h
        rcases List.mem_cons.mp h with e | h
        · cases e; exact ⟨0, rfl, rfl⟩
        · exact step h
      | _ => exact step (by simpa only [ownP] using h)
theorem ownP_mem : ∀ {ms : List Bool} {vs : List V} {i k : Nat} {a : Addr}, ms[k]? = some true → vs[k]? = some (.ref a) → (i + k, a) ∈ ownP i ms vs
  | [], _, _, _, _, h, _ => by simp at h
  | m :: ms, [], _, _, _, _, h => by simp at h
  | m :: ms, v :: vs, i, 0, a, h1, h2 => by
    simp at h1 h2
    subst h1 h2
    simp [ownP]
  | m :: ms, v :: vs, i, k + 1, a, h1, h2 => by
    have h := ownP_mem (i := i + 1) (k := k) (ms := ms) (vs := vs) (a := a) (by simpa using h1) (by simpa using h2)
    have e : i + (k + 1) = i + 1 + k := by omega
    rw [e]
    cases m with
    | false => simpa only [ownP] using h
    | true =>
      cases v with
      | ref b => exact List.mem_cons_of_mem _ h
      | _ => simpa only [ownP] using h
theorem ArgsAt.get {K : PySem.W.Frag} {F Oo H : Hp} : ∀ {ms : List Bool} {vs : List V} {ds : List D} {i : Nat} {m : Bool}, ArgsAt K F Oo H ms vs ds → ms[i]? = some m →
    ∃ v d, vs[i]? = some v ∧ ds[i]? = some d ∧ if m then ∃ a, v = .ref a ∧ F a = none ∧ Oo a = none ∧ OwnAt K F H a d else Rp K F v d
  | [], _, _, _, _, _, h => by simp at h
  | m :: ms, v :: vs, d :: ds, 0, m', h, e => by
    simp at e; subst e
    exact ⟨v, d, rfl, rfl, h.1⟩
  | m :: ms, v :: vs, d :: ds, i + 1, m', h, e => by
    obtain ⟨v', d', h1, h2, h3⟩ := ArgsAt.get (i := i) h.2 (by simpa using e)
    exact ⟨v', d', by simpa using h1, by simpa using h2, h3⟩
theorem mem_ownV : ∀ {ms : List Bool} {vs : List V} {i : Nat} {v : V}, ms[i]? = some true → vs[i]? = some v → v ∈ ownV ms vs
  | [], _, _, _, h, _ => by simp at h
  | m :: ms, [], _, _, _, h => by simp at h
  | m :: ms, v :: vs, 0, u, h1, h2 => by
    simp at h1 h2; subst h1 h2
    simp [ownV]
  | m :: ms, v :: vs, i + 1, u, h1, h2 => by
    have h := mem_ownV (i := i) (ms := ms) (vs := vs) (v := u) (by simpa using h1) (by simpa using h2)
    cases m
    · exact h
    · exact List.mem_cons_of_mem _ h
theorem ownV_apart : ∀ {ms : List Bool} {vs : List V} {i j : Nat} {v : V}, (ownV ms vs).Nodup → i ≠ j → ms[i]? = some true → ms[j]? = some true → vs[i]? = some v → vs[j]? = some v → False
  | [], _, _, _, _, _, _, h, _, _, _ => by simp at h
  | m :: ms, [], _, _, _, _, _, _, _, h, _ => by simp at h
  | m :: ms, v :: vs, 0, 0, u, n, ne, _, _, _, _ => ne rfl
  | m :: ms, v :: vs, 0, j + 1, u, n, ne, h1, h2, h3, h4 => by
    simp at h1 h3; subst h1 h3
    exact (List.nodup_cons.mp (show (v :: ownV ms vs).Nodup from n)).1 (mem_ownV (i := j) (by simpa using h2) (by simpa using h4))
  | m :: ms, v :: vs, i + 1, 0, u, n, ne, h1, h2, h3, h4 => by
    simp at h2 h4; subst h2 h4
    exact (List.nodup_cons.mp (show (v :: ownV ms vs).Nodup from n)).1 (mem_ownV (i := i) (by simpa using h1) (by simpa using h3))
  | m :: ms, v :: vs, i + 1, j + 1, u, n, ne, h1, h2, h3, h4 => by
    have n' : (ownV ms vs).Nodup := by
      cases m
      · exact n
      · exact (List.nodup_cons.mp (show (v :: ownV ms vs).Nodup from n)).2
    exact ownV_apart n' (fun z => ne (congrArg (· + 1) z)) (by simpa using h1) (by simpa using h2) (by simpa using h3) (by simpa using h4)
theorem initC_get : ∀ {ms : List Bool} {ds : List D} {i : Nat} {c : Cell}, (initC ms ds)[i]? = some c → ∃ m d, ms[i]? = some m ∧ ds[i]? = some d ∧ c = if m then Cell.own true d else .val d
  | [], ds, i, c, h => by simp [initC] at h
  | m :: ms, [], i, c, h => by simp [initC] at h
  | m :: ms, d :: ds, 0, c, h => by
    simp [initC] at h
    exact ⟨m, d, rfl, rfl, h.symm⟩
  | m :: ms, d :: ds, i + 1, c, h => by
    obtain ⟨m', d', h1, h2, h3⟩ := initC_get (i := i) (ms := ms) (ds := ds) (c := c) (by simpa [initC] using h)
    exact ⟨m', d', by simpa using h1, by simpa using h2, h3⟩
theorem initC_len : ∀ {ms : List Bool} {ds : List D}, ds.length = ms.length → (initC ms ds).length = ms.length
  | [], ds, h => rfl
  | m :: ms, [], h => by simp at h
  | m :: ms, d :: ds, h => by simp [initC, initC_len (ms := ms) (ds := ds) (by simpa using h)]
theorem initR_get {n : Nat} {ms : List Bool} {ds : List D} {i : Nat} {c : Cell} (h : (initR n ms ds)[i]? = some c) : c = .no ∨ ∃ m d, ms[i]? = some m ∧ ds[i]? = some d ∧ c = if m then Cell.own true d else .val d := by
  unfold initR at h
  by_cases hi : i < (initC ms ds).length
  · rw [List.getElem?_append_left hi] at h
    exact .inr (initC_get h)
  · rw [List.getElem?_append_right (by omega), List.getElem?_replicate] at h
    split at h
    · cases h; exact .inl rfl
    · cases h
theorem start_get {N : List Str} {vs : List V} {i : Nat} {v : V} (h : vs[i]? = some v) : (L2.start N vs)[i]? = some (some v) := by
  have hi : i < vs.length := (List.getElem?_eq_some_iff.mp h).1
  unfold L2.start
  rw [List.getElem?_append_left (by simpa using hi), List.getElem?_map, h]
  rfl
section
variable {K : PySem.W.Frag} {cn : Str → Option Addr}
theorem wd_init {F Oo H : Hp} {N : List Str} {ms : List Bool} {vs : List V} {ds : List D} (w : W0 F Oo H) (ha : ArgsAt K F Oo H ms vs ds) (nd : (ownV ms vs).Nodup) :
    Wd K F ⟨Oo, ownP 0 ms vs, []⟩ (initR N.length ms ds) (L2.start N vs) H := by
  obtain ⟨l1, l2⟩ := ha.length
  have held : ∀ (i : Nat) (c : Cell) (d : D), (initR N.length ms ds)[i]? = some c → c.held = some d → ms[i]? = some true ∧ c = Cell.own true d ∧ ∃ a, vs[i]? = some (V.ref a) ∧ F a = none ∧ Oo a = none ∧ OwnAt K F H a d := fun i c d h1 h2 => by
    rcases initR_get h1 with rfl | ⟨m, e, h3, h4, rfl⟩
    · cases h2
    · cases m with
      | false => cases h2
      | true =>
        cases h2
        obtain ⟨v, d', q1, q2, a, rfl, q3⟩ := ha.get h3
        rw [h4] at q2; cases q2
        exact ⟨h3, rfl, a, q1, q3⟩
  refine ⟨?_, w.f, w.o, w.fo, fun i d h => ?_, fun i c d h1 h2 => ?_, fun i c a h1 h2 h3 => ?_, fun i a p d h => absurd h (by simp), fun i p d h => ?_, fun i j c c' d d' a ne h1 h2 q1 q2 z1 z2 => ?_⟩
  · unfold initR L2.start
    rw [List.length_append, List.length_append, List.length_map, List.length_replicate, List.length_replicate, initC_len l2, l1]
  · rcases initR_get h with z | ⟨m, e, h3, h4, z⟩
    · cases z
    · cases m with
      | true => cases z
      | false =>
        cases z
        obtain ⟨v, d', q1, q2, q3⟩ := ha.get h3
        rw [h4] at q2; cases q2
        exact ⟨v, start_get q1, q3⟩
  · obtain ⟨_, _, a, q1, q2, q3, q4⟩ := held i c d h1 h2
    exact ⟨a, start_get q1, q2, q3, q4⟩
  · cases c with
    | own p d =>
      obtain ⟨h4, _, b, q1, _⟩ := held i _ d h1 rfl
      rw [start_get q1] at h3
      cases h3
      have := ownP_mem (i := 0) h4 q1
      rwa [Nat.zero_add] at this
    | lck p d =>
      obtain ⟨_, z, _⟩ := held i _ d h1 rfl
      cases z
    | _ => cases h2
  · obtain ⟨_, z, _⟩ := held i _ d h rfl
    cases z
  · obtain ⟨m1, _, b1, e1, _⟩ := held i c d h1 q1
    obtain ⟨m2, _, b2, e2, _⟩ := held j c' d' h2 q2
    rw [start_get e1] at z1
    rw [start_get e2] at z2
    cases z1
    cases z2
    exact ownV_apart nd ne m1 m2 e1 e2
theorem outs_at {F' H' : Hp} {Oo : Hp} {ms0 : List Bool} {vs0 : List V} {ρ : Rho} {σ : L2.St} (w : Wd K F' ⟨Oo, ownP 0 ms0 vs0, []⟩ ρ σ H') : ∀ (ms : List Bool) (vs : List V) (i : Nat), (∀ j v, vs[j]? = some v → vs0[i + j]? = some v) →
    OutsAt K F' Oo H' ms vs (((ρ.drop i).take ms.length).map outC)
  | [], vs, i, _ => by cases vs <;> trivial
  | m :: ms, [], i, _ => by cases m <;> trivial
  | m :: ms, v :: vs, i, h => by
    cases e : ρ.drop i with
    | nil => cases m <;> exact trivial
    | cons c r =>
      have ec : ρ[i]? = some c := by
        have : (ρ.drop i)[0]? = some c := by rw [e]; rfl
        rwa [List.getElem?_drop, Nat.add_zero] at this
      have er : ρ.drop (i + 1) = r := by
        have : (ρ.drop i).drop 1 = r := by rw [e]; rfl
        rwa [List.drop_drop] at this
      have rest : OutsAt K F' Oo H' ms vs ((r.take ms.length).map outC) := by
        rw [← er]
        exact outs_at w ms vs (i + 1) fun j u hj => by
          have := h (j + 1) u (by simpa using hj)
          have e2 : i + 1 + j = i + (j + 1) := by omega
          rw [e2]; exact this
      cases m with
      | false => exact rest
      | true =>
        refine ⟨fun p d hc => ?_, rest⟩
        cases c with
        | own p' d' =>
          cases p' with
          | false => cases hc
          | true =>
            cases hc
            obtain ⟨a, q1, q2, q3, q4⟩ := w.own i _ d ec rfl
            have hm := w.pr i _ a ec rfl q1
            obtain ⟨k, hk, hv⟩ := mem_ownP hm
            have h0 := h 0 v rfl
            have : k = i := by omega
            subst this
            rw [Nat.add_zero, hv] at h0
            cases h0
            exact ⟨a, rfl, q2, q3, q4⟩
        | _ => cases hc
/-- THE RULE: a def of the text, by its body's pure meaning -/
theorem fnD {P : Program} {w : World} {mg : Str → Option Value} {base : Heap} {x qual : Str} {st : Stmt} {f : Addr} {fd : FuncData} {N ps : List Str} {k : Nat} {ms : List Bool} {s : Rho → Rs Fl} (F : Fun K x qual st f fd) (S : FnScope N ps (defScope st)) (hm : ms.length = ps.length)
    (hbody : ∀ (cdv : Value) (A : Around) (outer : List Env) (s0 : Shared) (H : Hp) (E : XK), Room k (A.deeper (envOfC qual (defScope st) s0.heap.objs.size f cdv)) →
      PSs (cxOf (L2.CX P w) P w K mg base N qual (defScope st) f cdv A outer s0 H E) (defBody st) (tS ⟨K, cn, fun c dd _ H => E c dd H⟩ s)) :
    FnOk P w K mg base (L2.CX P w) (k + 1) f fd ps (spD K cn ms (defR N.length ms s)) := by
  have fewer : ps.length ≤ N.length := by
    have q := congrArg List.length S.pre
    rw [List.length_take] at q; omega
  refine F.okX S (fun vs H Q E h => ?_) (fun cdv A outer s0 H vs Q E hr h => ?_)
  · obtain ⟨F, Oo, ds, _, ha, _, _⟩ := h
    rw [ha.length.1, hm]
  · obtain ⟨F, Oo, ds, w0, ha, nd, hf⟩ := h
    refine ⟨_, hbody cdv A outer s0 H E hr, initR N.length ms ds, F, ⟨Oo, ownP 0 ms vs, []⟩, wd_init w0 ha nd, ?_⟩
    unfold defR at hf
    rw [if_pos ha.length.2] at hf
    have outs : ∀ {ρ σ H' F'}, Wd K F' ⟨Oo, ownP 0 ms vs, []⟩ ρ σ H' → OutsAt K F' Oo H' ms vs ((ρ.take ms.length).map outC) := fun {ρ σ H' F'} w' => by
      have := outs_at w' ms vs 0 fun j v hj => by rw [Nat.zero_add]; exact hj
      rwa [List.drop_zero] at this
    cases e : s (initR N.length ms ds) with
    | ok fl ρ =>
      rw [e] at hf
      cases fl with
      | nx => exact fun σ' H' F' w' z => hf .non H' F' z ⟨w'.f, w'.o, w'.fo⟩ .non (outs w')
      | rt d => exact fun v σ' H' F' w' z r => hf v H' F' z ⟨w'.f, w'.o, w'.fo⟩ r (outs w')
      | bk => exact hf.elim
      | ct => exact hf.elim
    | err y ρ =>
      rw [e] at hf
      exact fun c dd σ' H' F' w' z x => hf c dd H' F' z ⟨w'.f, w'.o, w'.fo⟩ x
    | bad => rw [e] at hf; exact hf
end
end L3
/-! L3, part 12: a call that hands over containers. -/
namespace L3
open PySem PySem.Spec PyProof.Rows L2

def prep : List Bool → List Vl → Rho → Rs (List (D ⊕ Nat))
  | [], [], ρ => .ok [] ρ
  | false :: ms, x :: xs, ρ => (frz x ρ).bind fun d ρ => (prep ms xs ρ).bind fun r ρ => .ok (.inl d :: r) ρ
  | true :: ms, .bv i :: xs, ρ => (prep ms xs ρ).bind fun r ρ => .ok (.inr i :: r) ρ
  | _, _, _ => .bad
def ph2 (ρ : Rho) : List (D ⊕ Nat) → Option (List D)
  | [] => some []
  | .inl d :: r => (ph2 ρ r).map (d :: ·)
  | .inr i :: r => match ρ[i]? with
    | some (Cell.own _ d) => (ph2 ρ r).map (d :: ·)
    | _ => none
def idx : List (D ⊕ Nat) → List Nat
  | [] => []
  | .inl _ :: r => idx r
  | .inr i :: r => i :: idx r
def backC : Option Cell → Option Cell → Cell
  | some (.own _ d), some (.own p _) => .own p d
  | _, _ => .no
def setOuts : List (D ⊕ Nat) → List Cell → Rho → Rho
  | [], _, ρ => ρ
  | .inl _ :: r, cs, ρ => setOuts r cs.tail ρ
  | .inr i :: r, cs, ρ => (setOuts r cs.tail ρ).set i (backC cs.head? ρ[i]?)
def callRO (φ : Fn) (pr : List (D ⊕ Nat)) (ρ : Rho) : Rs Vl :=
  if (idx pr).Nodup then
    match ph2 ρ pr with
    | some ds => match φ ds with
      | .ok d outs => .ok (.d d) (setOuts pr outs ρ)
      | _ => .bad
    | none => .bad
  else .bad
def sCallO (ms : List Bool) (φ : Fn) (a : Rho → Rs (List Vl)) : Rho → Rs Vl := fun ρ => (a ρ).bind fun xs ρ => (prep ms xs ρ).bind fun pr ρ => callRO φ pr ρ

def PrepAt (K : PySem.W.Frag) (F : Hp) (σ : L2.St) : List Bool → List V → List (D ⊕ Nat) → Prop
  | [], [], [] => True
  | false :: ms, v :: vs, .inl d :: r => Rp K F v d ∧ PrepAt K F σ ms vs r
  | true :: ms, v :: vs, .inr i :: r => σ[i]? = some (some v) ∧ PrepAt K F σ ms vs r
  | _, _, _ => False
theorem PrepAt.mono {K : PySem.W.Frag} {F F' : Hp} {σ : L2.St} (s : Sub F F') : ∀ {ms : List Bool} {vs : List V} {pr : List (D ⊕ Nat)}, PrepAt K F σ ms vs pr → PrepAt K F' σ ms vs pr
  | [], [], [], _ => trivial
  | false :: _, _ :: _, .inl _ :: _, h => ⟨h.1.mono s, PrepAt.mono s h.2⟩
  | true :: _, _ :: _, .inr _ :: _, h => ⟨h.1, PrepAt.mono s h.2⟩
theorem prep_noerr : ∀ {ms : List Bool} {xs : List Vl} {ρ ρ' : Rho} {y : Xn}, prep ms xs ρ ≠ .err y ρ'
  | [], [], _, _, _, e => by cases e
  | [], _ :: _, _, _, _, e => by cases e
  | false :: ms, [], _, _, _, e => by cases e
  | true :: ms, [], _, _, _, e => by cases e
  | true :: ms, .d _ :: _, _, _, _, e => by cases e
  | false :: ms, x :: xs, ρ, ρ', y, e => by
    unfold prep at e
    cases h : frz x ρ with
    | ok d ρ1 =>
      rw [h, Rs.bind_ok] at e
      cases h2 : prep ms xs ρ1 with
      | ok ds ρ2 => rw [h2] at e; cases e
      | err z ρ2 => exact prep_noerr h2
      | bad => rw [h2] at e; cases e
    | err z ρ1 => exact frz_noerr h
    | bad => rw [h] at e; cases e
  | true :: ms, .bv i :: xs, ρ, ρ', y, e => by
    unfold prep at e
    cases h2 : prep ms xs ρ with
    | ok ds ρ2 => rw [h2] at e; cases e
    | err z ρ2 => exact prep_noerr h2
    | bad => rw [h2] at e; cases e
section
variable {K : PySem.W.Frag} {O : Fm} {σ : L2.St} {H : Hp}
theorem prep_ok : ∀ {ms : List Bool} {xs : List Vl} {vs : List V} {F : Hp} {ρ ρ' : Rho} {pr : List (D ⊕ Nat)}, Wd K F O ρ σ H → RVs K F σ vs xs → prep ms xs ρ = .ok pr ρ' → ∃ F', Wd K F' O ρ' σ H ∧ Sub F F' ∧ PrepAt K F' σ ms vs pr
  | [], [], [], F, ρ, ρ', pr, w, _, e => by cases e; exact ⟨F, w, Sub.refl _, trivial⟩
  | [], _ :: _, _, _, _, _, _, _, _, e => by cases e
  | false :: ms, [], _, _, _, _, _, _, _, e => by cases e
  | true :: ms, [], _, _, _, _, _, _, _, e => by cases e
  | true :: ms, .d _ :: _, _, _, _, _, _, _, _, e => by cases e
  | false :: ms, x :: xs, v :: vs, F, ρ, ρ', pr, w, r, e => by
    unfold prep at e
    cases h : frz x ρ with
    | ok d ρ1 =>
      rw [h, Rs.bind_ok] at e
      obtain ⟨F1, w1, s1, r1⟩ := frz_ok w r.1 h
      cases h2 : prep ms xs ρ1 with
      | ok ds ρ2 =>
        rw [h2] at e; cases e
        obtain ⟨F2, w2, s2, r2⟩ := prep_ok w1 (r.2.mono s1) h2
        exact ⟨F2, w2, s1.trans s2, r1.mono s2, r2⟩
      | err z ρ2 => exact absurd h2 prep_noerr
      | bad => rw [h2] at e; cases e
    | err z ρ1 => exact absurd h frz_noerr
    | bad => rw [h] at e; cases e
  | true :: ms, .bv i :: xs, v :: vs, F, ρ, ρ', pr, w, r, e => by
    unfold prep at e
    cases h2 : prep ms xs ρ with
    | ok ds ρ2 =>
      rw [h2] at e; cases e
      obtain ⟨F2, w2, s2, r2⟩ := prep_ok w r.2 h2
      exact ⟨F2, w2, s2, r.1, r2⟩
    | err z ρ2 => exact absurd h2 prep_noerr
    | bad => rw [h2] at e; cases e
theorem mem_idx {i : Nat} : ∀ {pr : List (D ⊕ Nat)}, i ∈ idx pr → ∃ k : Nat, pr[k]? = some (Sum.inr i)
  | .inl _ :: r, h => let ⟨k, e⟩ := mem_idx (pr := r) h; ⟨k + 1, by simpa using e⟩
  | .inr j :: r, h => by
    rcases List.mem_cons.mp h with rfl | h
    · exact ⟨0, rfl⟩
    · obtain ⟨k, e⟩ := mem_idx (pr := r) h
      exact ⟨k + 1, by simpa using e⟩
theorem idx_mem {i : Nat} : ∀ {pr : List (D ⊕ Nat)} {k : Nat}, pr[k]? = some (Sum.inr i) → i ∈ idx pr
  | [], k, h => by simp at h
  | .inl _ :: r, 0, h => by simp at h
  | .inr j :: r, 0, h => by simp at h; subst h; exact List.mem_cons_self
  | .inl _ :: r, k + 1, h => idx_mem (pr := r) (k := k) (by simpa using h)
  | .inr j :: r, k + 1, h => List.mem_cons_of_mem _ (idx_mem (pr := r) (k := k) (by simpa using h))
theorem ph2_own {ρ : Rho} : ∀ {pr : List (D ⊕ Nat)} {ds : List D} {i : Nat}, ph2 ρ pr = some ds → i ∈ idx pr → ∃ p d, ρ[i]? = some (Cell.own p d)
  | .inl d :: r, ds, i, e, h => by
    obtain ⟨ds', e', _⟩ := Option.map_eq_some_iff.mp (show (ph2 ρ r).map _ = some ds from e)
    exact ph2_own e' h
  | .inr j :: r, ds, i, e, h => by
    unfold ph2 at e
    split at e
    · rename_i p d hj
      obtain ⟨ds', e', _⟩ := Option.map_eq_some_iff.mp e
      rcases List.mem_cons.mp h with rfl | h
      · exact ⟨p, d, hj⟩
      · exact ph2_own e' h
    · cases e
theorem args_prep {F : Hp} {ρ : Rho} {I : List Nat} (w : Wd K F O ρ σ H) : ∀ {ms : List Bool} {vs : List V} {pr : List (D ⊕ Nat)} {ds : List D}, PrepAt K F σ ms vs pr → ph2 ρ pr = some ds → (∀ i ∈ idx pr, i ∈ I) → ArgsAt K F (others O ρ σ H I) H ms vs ds
  | [], [], [], ds, _, e, _ => by cases e; trivial
  | false :: ms, v :: vs, .inl d :: r, ds, h, e, hI => by
    obtain ⟨ds', e', rfl⟩ := Option.map_eq_some_iff.mp (show (ph2 ρ r).map _ = some ds from e)
    exact ⟨h.1, args_prep w h.2 e' hI⟩
  | true :: ms, v :: vs, .inr i :: r, ds, h, e, hI => by
    unfold ph2 at e
    split at e
    · rename_i p d hi
      obtain ⟨ds', e', rfl⟩ := Option.map_eq_some_iff.mp e
      obtain ⟨a, q1, q2, q3, q4⟩ := w.own i _ d hi rfl
      rw [h.1] at q1; cases q1
      refine ⟨⟨a, rfl, q2, ?_, q4⟩, args_prep w h.2 e' fun j hj => hI j (List.mem_cons_of_mem _ hj)⟩
      cases ho : others O ρ σ H I a with
      | none => rfl
      | some o =>
        rcases (others_some ho).2 with ⟨o', h'⟩ | ⟨j, c, d', hj, h1, h2, h3⟩
        · rw [q3] at h'; cases h'
        · have ne : i ≠ j := fun z => hj (z ▸ hI i List.mem_cons_self)
          exact (w.ap i j _ c d d' a ne hi h1 rfl h2 h.1 h3).elim
    · cases e
theorem ownV_idx {F : Hp} : ∀ {ms : List Bool} {vs : List V} {pr : List (D ⊕ Nat)} {v : V}, PrepAt K F σ ms vs pr → v ∈ ownV ms vs → ∃ i ∈ idx pr, σ[i]? = some (some v)
  | [], [], [], v, _, h => by simp [ownV] at h
  | false :: ms, u :: vs, .inl d :: r, v, h, hv => ownV_idx (ms := ms) (vs := vs) (pr := r) h.2 hv
  | true :: ms, u :: vs, .inr i :: r, v, h, hv => by
    rcases List.mem_cons.mp (show v ∈ u :: ownV ms vs from hv) with rfl | hv
    · exact ⟨i, List.mem_cons_self, h.1⟩
    · obtain ⟨j, h1, h2⟩ := ownV_idx (ms := ms) (vs := vs) (pr := r) h.2 hv
      exact ⟨j, List.mem_cons_of_mem _ h1, h2⟩
theorem nodup_prep {F : Hp} {ρ : Rho} (w : Wd K F O ρ σ H) : ∀ {ms : List Bool} {vs : List V} {pr : List (D ⊕ Nat)} {ds : List D}, PrepAt K F σ ms vs pr → ph2 ρ pr = some ds → (idx pr).Nodup → (ownV ms vs).Nodup
  | [], [], [], ds, _, e, _ => .nil
  | false :: ms, v :: vs, .inl d :: r, ds, h, e, n => by
    obtain ⟨ds', e', rfl⟩ := Option.map_eq_some_iff.mp (show (ph2 ρ r).map _ = some ds from e)
    exact nodup_prep (ms := ms) (vs := vs) w h.2 e' n
  | true :: ms, v :: vs, .inr i :: r, ds, h, e, n => by
    have n' := List.nodup_cons.mp (show (i :: idx r).Nodup from n)
    unfold ph2 at e
    split at e
    · rename_i p d hi
      obtain ⟨ds', e', rfl⟩ := Option.map_eq_some_iff.mp e
      refine List.nodup_cons.mpr ⟨fun hv => ?_, nodup_prep (ms := ms) (vs := vs) w h.2 e' n'.2⟩
      obtain ⟨j, h1, h2⟩ := ownV_idx h.2 hv
      obtain ⟨p', d', hj⟩ := ph2_own e' h1
      have ne : i ≠ j := fun z => n'.1 (z ▸ h1)
      obtain ⟨a, q1, _⟩ := w.own i _ d hi rfl
      rw [h.1] at q1; cases q1
      exact w.ap i j _ _ d d' a ne hi hj rfl rfl h.1 h2
    · cases e
theorem setOuts_len : ∀ (pr : List (D ⊕ Nat)) (cs : List Cell) (ρ : Rho), (setOuts pr cs ρ).length = ρ.length
  | [], _, _ => rfl
  | .inl _ :: r, cs, ρ => setOuts_len r cs.tail ρ
  | .inr i :: r, cs, ρ => by unfold setOuts; rw [List.length_set]; exact setOuts_len r cs.tail ρ
theorem setOuts_same : ∀ (pr : List (D ⊕ Nat)) (cs : List Cell) (ρ : Rho) (j : Nat), j ∉ idx pr → (setOuts pr cs ρ)[j]? = ρ[j]?
  | [], _, _, _, _ => rfl
  | .inl _ :: r, cs, ρ, j, h => setOuts_same r cs.tail ρ j h
  | .inr i :: r, cs, ρ, j, h => by
    have h0 : j ∉ i :: idx r := h
    unfold setOuts
    rw [List.getElem?_set_ne (fun z : i = j => h0 (by rw [z]; exact List.mem_cons_self))]
    exact setOuts_same r cs.tail ρ j fun z => h0 (List.mem_cons_of_mem _ z)
theorem setOuts_at : ∀ {ms : List Bool} {vs : List V} {pr : List (D ⊕ Nat)} {cs : List Cell} {ρ : Rho} {F F' Oo H' : Hp} {i : Nat} {c : Cell}, PrepAt K F σ ms vs pr → OutsAt K F' Oo H' ms vs cs → i ∈ idx pr → (idx pr).Nodup → (setOuts pr cs ρ)[i]? = some c →
    c = .no ∨ ∃ p d d0 a, ρ[i]? = some (Cell.own p d0) ∧ c = .own p d ∧ σ[i]? = some (some (.ref a)) ∧ F' a = none ∧ OwnAt K F' H' a d
  | [], [], [], _, _, _, _, _, _, _, _, _, _, h, _, _ => by simp [idx] at h
  | false :: ms, v :: vs, .inl d :: r, cs, ρ, F, F', Oo, H', i, c, h, o, hi, n, e => by
    have o' : OutsAt K F' Oo H' ms vs cs.tail := by
      cases cs with
      | nil => cases ms <;> first | trivial | (rename_i b l; cases b <;> cases vs <;> trivial)
      | cons c cs => exact o
    exact setOuts_at h.2 o' hi n e
  | true :: ms, v :: vs, .inr j :: r, cs, ρ, F, F', Oo, H', i, c, h, o, hi, n, e => by
    have n' := List.nodup_cons.mp (show (j :: idx r).Nodup from n)
    have o' : OutsAt K F' Oo H' ms vs cs.tail := by
      cases cs with
      | nil => cases ms <;> first | trivial | (rename_i b l; cases b <;> cases vs <;> trivial)
      | cons c cs => exact o.2
    unfold setOuts at e
    rcases get_set e with ⟨rfl, z⟩ | ⟨ne, e⟩
    · cases cs with
      | nil => left; rw [z]; cases ρ[i]? <;> rfl
      | cons c0 cs =>
        subst z
        cases hρ : ρ[i]? with
        | none => left; cases c0 <;> rfl
        | some c1 =>
          cases c0 with
          | own p0 d =>
            cases c1 with
            | own p d0 =>
              right
              obtain ⟨a, rfl, f1, _, f3⟩ := o.1 p0 d rfl
              exact ⟨p, d, d0, a, rfl, rfl, h.1, f1, f3⟩
            | _ => left; rfl
          | _ => left; cases c1 <;> rfl
    · rcases List.mem_cons.mp (show i ∈ j :: idx r from hi) with rfl | hi
      · exact absurd rfl ne
      · exact setOuts_at h.2 o' hi n'.2 e
end
section
variable {X : Cx} {G : Gx} {k : Nat} {f : Addr} {fd : FuncData} {ps : List Str} {φ : Fn} {x : Str} {p pos : Pos} {e : Expr} {es : List Expr} {ss : Rho → Rs (List Vl)} {ms : List Bool}
theorem sCallO_t (hK : X.K = G.K) {σ : L2.St} {H : Hp} {Q : VK} (h : tE G (sCallO ms φ ss) σ H Q) : tCallSD (spD X.K G.cn ms φ) [] (GoesW G) (tA G ss) σ H Q := by
  obtain ⟨ρ, F, O, w, h⟩ := h
  refine tG.bind w h fun xs ρ1 vs H1 F1 _ w1 s1 rs h1 => ?_
  cases e : prep ms xs ρ1 with
  | err y ρ2 => exact absurd e prep_noerr
  | bad => rw [e] at h1; exact h1.elim
  | ok pr ρ2 =>
    rw [e, Rs.bind_ok] at h1
    obtain ⟨F2, w2, s2, r2⟩ := prep_ok w1 rs e
    have h2 := Fin.mono s2 h1
    unfold callRO at h2
    split at h2
    · rename_i nd
      cases ep : ph2 ρ2 pr with
      | none => rw [ep] at h2; exact h2.elim
      | some ds =>
        rw [ep] at h2
        dsimp only at h2
        rw [List.append_nil, hK]
        refine ⟨F2, others O ρ2 σ H1 (idx pr), ds, w2.w0, args_prep w2 r2 ep (fun _ hi => hi), nodup_prep w2 r2 ep nd, ?_⟩
        cases ef : φ ds with
        | ok d outs =>
          rw [ef] at h2
          intro v H3 F3 s3 x3 r3 o3
          refine h2 v H3 F3 (w2.back s3 x3 (setOuts_len _ _ _) (fun j hj => setOuts_same _ _ _ j hj) (fun i hi p d z => ?_) fun i c hi hc => setOuts_at r2 o3 hi nd hc) s3 r3
          obtain ⟨p', d', z'⟩ := ph2_own ep hi
          rw [z] at z'; cases z'
        | err y => rw [ef] at h2; exact h2.elim
        | bad => rw [ef] at h2; exact h2.elim
    · exact h2.elim
theorem de_callO (F : FnOk X.prog X.w X.K X.mg X.base (L2.CX X.prog X.w) k f fd ps (spD X.K G.cn ms φ)) (hr : Room k X.A) (hg : Gl X x) (hm : X.mg x = some (.ref f)) (hk : PySem.W.keepIn X.K (.ref f) = true) (hb : Binds X.K fd ps [])
    (tk : Takes X G.W) (hK : X.K = G.K) (ha : PA X (e :: es) (tA G ss)) (hp : plainArgs (e :: es) = true) (hd : (x == ("__debug__" : Str)) = false) :
    DE X G (.Call (.Name x p) (e :: es) [] pos) (sCallO ms φ ss) := by
  have h' : notStar e = true ∧ plainArgs es = true := by simpa [plainArgs] using hp
  exact .val (PE.imp (pe_callSD F hr hg hm hk hb .nil (passW tk) ha hd (star_plain h'.1 _) (any_plain h'.2 _ _)) fun σ H Q h => sCallO_t hK h) fun _ => rfl
end
end L3
/-! L3, part 13: targets, what is walked, for. -/
namespace L3
open PySem PySem.Spec PyProof.Rows L2

/-! ### targets -/
def OnlyAt (js : List Nat) (σ σ' : L2.St) : Prop := σ'.length = σ.length ∧ ∀ j, j ∉ js → σ'[j]? = σ[j]?
theorem OnlyAt.refl (js : List Nat) (σ : L2.St) : OnlyAt js σ σ := ⟨rfl, fun _ _ => rfl⟩
theorem OnlyAt.trans {js : List Nat} {σ σ' σ'' : L2.St} (a : OnlyAt js σ σ') (b : OnlyAt js σ' σ'') : OnlyAt js σ σ'' := ⟨b.1.trans a.1, fun j h => (b.2 j h).trans (a.2 j h)⟩
theorem OnlyAt.sub {js is : List Nat} {σ σ' : L2.St} (a : OnlyAt js σ σ') (h : ∀ j ∈ js, j ∈ is) : OnlyAt is σ σ' := ⟨a.1, fun j q => a.2 j fun z => q (h j z)⟩
/-- a target's meaning, for a value that stays -/
def gT (G : Gx) (js : List Nat) (f : D → Rho → Rs Fl) : TG := fun v σ H Q => ∃ ρ F O d ρ', Wd G.K F O ρ σ H ∧ Rp G.K F v d ∧ f d ρ = .ok .nx ρ' ∧ ∀ σ', Wd G.K F O ρ' σ' H → OnlyAt js σ σ' → Q σ' H
def gTs (G : Gx) (js : List Nat) (f : List D → Rho → Rs Fl) : TGs := fun vs σ H Q => ∃ ρ F O ds ρ', Wd G.K F O ρ σ H ∧ RpL G.K F vs ds ∧ f ds ρ = .ok .nx ρ' ∧ ∀ σ', Wd G.K F O ρ' σ' H → OnlyAt js σ σ' → Q σ' H
abbrev DG (X : Cx) (G : Gx) (tg : Expr) (js : List Nat) (f : D → Rho → Rs Fl) : Prop := PG X tg (gT G js f)
abbrev DGs (X : Cx) (G : Gx) (tg : List Expr) (js : List Nat) (f : List D → Rho → Rs Fl) : Prop := PGs X tg (gTs G js f)
theorem PG.imp {X : Cx} {tg : Expr} {t t' : TG} (h : PG X tg t) (i : ∀ v σ H Q, t' v σ H Q → t v σ H Q) : PG X tg t' := ⟨fun pins s σ H v u Q I r q => h.run pins s σ H v u Q I r (i _ _ _ _ q)⟩
theorem PGs.imp {X : Cx} {tg : List Expr} {t t' : TGs} (h : PGs X tg t) (i : ∀ v σ H Q, t' v σ H Q → t v σ H Q) : PGs X tg t' := ⟨fun pins s σ H v u Q I r q => h.run pins s σ H v u Q I r (i _ _ _ _ q)⟩
def gN (i : Nat) : D → Rho → Rs Fl := fun d ρ => put i (.val d) ρ
def gsN : List D → Rho → Rs Fl
  | [], ρ => .ok .nx ρ
  | _ :: _, _ => .bad
def thenG (r : Rs Fl) (k : Rho → Rs Fl) : Rs Fl :=
  match r with
  | .ok .nx ρ => k ρ
  | _ => .bad
def gsC (f : D → Rho → Rs Fl) (fs : List D → Rho → Rs Fl) : List D → Rho → Rs Fl
  | [], _ => .bad
  | d :: ds, ρ => thenG (f d ρ) fun ρ => fs ds ρ
def gTp (n : Nat) (fs : List D → Rho → Rs Fl) : D → Rho → Rs Fl := fun d ρ =>
  match itemsD d with
  | some ds => if ds.length = n then fs ds ρ else .bad
  | none => .bad
section
variable {X : Cx} {G : Gx} {e : Expr} {es : List Expr} {js is : List Nat} {f : D → Rho → Rs Fl} {fs : List D → Rho → Rs Fl} {pos : Pos}
theorem set_only (i : Nat) (σ : L2.St) (v : Option V) : OnlyAt [i] σ (σ.set i v) := ⟨List.length_set, fun j h => List.getElem?_set_ne fun z => h (by simp [z])⟩
theorem dg_name {i : Nat} {x : Str} (hN : X.N.Nodup) (hi : X.N[i]? = some x) (hx : Loc X.env.scope x) (hf : X.fn x = true ∨ X.env.scope.names.lookup x = some .local) : DG X G (.Name x pos) [i] (gN i) := by
  refine PG.imp (pg_name hN hi hx hf) fun v σ H Q h => ?_
  obtain ⟨ρ, F, O, d, ρ', w, r, e, k⟩ := h
  obtain ⟨_, rfl, hi, nl⟩ := put_inv e
  exact k _ (w.put hi nl r) (set_only _ _ _)
theorem dgs_nil : DGs X G [] js gsN := by
  refine PGs.imp pgs_nil fun vs σ H Q h => ?_
  obtain ⟨ρ, F, O, ds, ρ', w, r, e, k⟩ := h
  cases r with
  | nil => cases e; exact ⟨rfl, k σ w (OnlyAt.refl _ _)⟩
  | cons => cases e
theorem thenG_ok {r : Rs Fl} {k : Rho → Rs Fl} {ρ' : Rho} (h : thenG r k = .ok .nx ρ') : ∃ ρ, r = .ok .nx ρ ∧ k ρ = .ok .nx ρ' := by
  unfold thenG at h
  split at h
  · exact ⟨_, rfl, h⟩
  · cases h
theorem dgs_cons (h1 : DG X G e js f) (h2 : DGs X G es is fs) (hs : (assignEach (e :: es) X.env).map (·.2) = assign e X.env :: (assignEach es X.env).map (·.2)) : DGs X G (e :: es) (js ++ is) (gsC f fs) := by
  refine PGs.imp (pgs_cons h1 h2 hs) fun vs σ H Q h => ?_
  obtain ⟨ρ, F, O, ds, ρ', w, r, e, k⟩ := h
  cases r with
  | nil => cases e
  | cons r rr =>
    obtain ⟨ρ1, e1, e2⟩ := thenG_ok e
    exact ⟨_, _, rfl, ρ, F, O, _, ρ1, w, r, e1, fun σ1 w1 o1 => ⟨ρ1, F, O, _, ρ', w1, rr, e2, fun σ2 w2 o2 => k σ2 w2 ((o1.sub fun _ h => List.mem_append_left _ h).trans (o2.sub fun _ h => List.mem_append_right _ h))⟩⟩
theorem PG.or {tg : Expr} {t u : TG} (h : PG X tg t) (h' : PG X tg u) : PG X tg fun v σ H Q => t v σ H Q ∨ u v σ H Q :=
  ⟨fun pins s σ H v y Q I r q => q.elim (h.run pins s σ H v y Q I r) (h'.run pins s σ H v y Q I r)⟩
theorem dg_tup {k n : Nat} (hK : X.K = G.K) (hc : X.calm = true) (h : DGs X G es js fs) (hn : (assignEach es X.env).length = n) (hst : (assignEach es X.env).findIdx? (·.1) = none) : DG X G (.Tuple es k pos) js (gTp n fs) := by
  refine PG.imp (PG.or (pg_tup hc h hn hst) (pg_unl hc h hn hst)) fun v σ H Q h => ?_
  obtain ⟨ρ, F, O, d, ρ', w, r, e, k⟩ := h
  unfold gTp at e
  cases d with
  | list ds =>
    have e : (if ds.length = n then fs ds ρ else .bad) = .ok .nx ρ' := e
    split at e
    · obtain ⟨a, vs, rfl, q, r⟩ := At.list w.f (.inl r)
      exact .inr ⟨a, vs, rfl, SqL.of q, r.length.trans ‹_›, ρ, F, O, ds, ρ', w, r, e, k⟩
    · cases e
  | tuple ds =>
    have e : (if ds.length = n then fs ds ρ else .bad) = .ok .nx ρ' := e
    split at e
    · obtain ⟨a, vs, rfl, _, q, r⟩ := At.tuple w.f (.inl r)
      exact .inl ⟨a, vs, rfl, by rw [hK]; exact q, r.length.trans ‹_›, ρ, F, O, ds, ρ', w, r, e, k⟩
    · cases e
  | _ => cases e
end

/-! ### what is walked -/
/-- the iterator yields ds, one after another -/
def Feed (K : PySem.W.Frag) (F0 : Hp) (J : It) (ds : List D) : Prop := ∀ {F O ρ σ H}, Wd K F O ρ σ H → Sub F0 F → ∀ i,
  (∀ d, ds[i]? = some d → J.go i H ∧ ∀ x H', J.yld i H x H' → ∃ F', Wd K F' O ρ σ H' ∧ Sub F F' ∧ Rp K F' x d ∧ ∀ a, H a ≠ none → H' a = H a) ∧ (i = ds.length → J.stop i H)
theorem Feed.mono {K : PySem.W.Frag} {F F' : Hp} {J : It} {ds : List D} (h : Feed K F J ds) (s : Sub F F') : Feed K F' J ds := fun w z i => h w (s.trans z) i
def FinI (G : Gx) (F : Hp) (O : Fm) (σ : L2.St) (R : It → Hp → Prop) : Rs (List D) → Prop
  | .ok ds ρ' => ∀ J H' F', Wd G.K F' O ρ' σ H' → Sub F F' → Feed G.K F' J ds → R J H'
  | .err x ρ' => ∀ c dd H' F', Wd G.K F' O ρ' σ H' → Sub F F' → XAt G.K F' G.cn c dd x → G.W c dd σ H'
  | .bad => False
def tI (G : Gx) (s : Rho → Rs (List D)) : TI := fun σ H R => ∃ ρ F O, Wd G.K F O ρ σ H ∧ FinI G F O σ R (s ρ)
abbrev DI (X : Cx) (G : Gx) (tg it : Expr) (s : Rho → Rs (List D)) : Prop := PI X tg it (tI G s)
theorem FinI.mono {G : Gx} {F F1 : Hp} {O : Fm} {σ : L2.St} {R : It → Hp → Prop} (s : Sub F F1) : ∀ {r : Rs (List D)}, FinI G F O σ R r → FinI G F1 O σ R r
  | .ok _ _, h => fun J H' F' w z => h J H' F' w (s.trans z)
  | .err _ _, h => fun c dd H' F' w z x => h c dd H' F' w (s.trans z) x
  | .bad, h => h
theorem Tgt.finI {G : Gx} {O : Fm} {σ : L2.St} {R : It → Hp → Prop} : Tgt G O σ (fun F r => FinI G F O σ R r) := ⟨fun s h => FinI.mono s h, fun h => h, fun h => h⟩
theorem PI.imp {X : Cx} {tg it : Expr} {t t' : TI} (h : PI X tg it t) (i : ∀ σ H R, t' σ H R → t σ H R) : PI X tg it t' := ⟨fun pins s σ H R I q => h.run pins s σ H R I (i _ _ _ q)⟩
theorem PI.or {X : Cx} {tg it : Expr} {t u : TI} (h : PI X tg it t) (h' : PI X tg it u) : PI X tg it fun σ H R => t σ H R ∨ u σ H R :=
  ⟨fun pins s σ H R I q => q.elim (h.run pins s σ H R I) (h'.run pins s σ H R I)⟩
theorem same_get {K : PySem.W.Frag} {F H : Hp} {vs : List V} {ds : List D} (r : RpL K F vs ds) {i : Nat} {d : D} (e : ds[i]? = some d) {x : V} (h : vs[i]? = some x) : Rp K F x d := by
  obtain ⟨v, e1, r1⟩ := r.get e
  rw [h] at e1; cases e1
  exact r1
theorem feed_list {K : PySem.W.Frag} {F : Hp} {a : Addr} {vs : List V} {ds : List D} (h : SqL K F a vs) (r : RpL K F vs ds) : Feed K F (Itl K a) ds := by
  intro F' O ρ σ H w s i
  have q : SqL K H a vs := (s.trans w.f).sqL h
  refine ⟨fun d e => ?_, fun hi => ⟨vs, q, by rw [r.length]; exact Nat.le_of_eq hi.symm⟩⟩
  obtain ⟨v, e1, r1⟩ := r.get e
  refine ⟨⟨vs, v, q, e1⟩, fun x H' y => ?_⟩
  obtain ⟨rfl, y⟩ := y
  have := y vs q
  rw [e1] at this; cases this
  exact ⟨F', w, Sub.refl _, r1.mono s, fun _ _ => rfl⟩
theorem feed_tup {K : PySem.W.Frag} {F : Hp} {a : Addr} {vs : List V} {ds : List D} (h : SqT K F a vs) (r : RpL K F vs ds) : Feed K F (Itt K a) ds := by
  intro F' O ρ σ H w s i
  have q : SqT K H a vs := (s.trans w.f).sqT h
  refine ⟨fun d e => ?_, fun hi => ⟨vs, q, by rw [r.length]; exact Nat.le_of_eq hi.symm⟩⟩
  obtain ⟨v, e1, r1⟩ := r.get e
  refine ⟨⟨vs, v, q, e1⟩, fun x H' y => ?_⟩
  obtain ⟨rfl, y⟩ := y
  have := y vs q
  rw [e1] at this; cases this
  exact ⟨F', w, Sub.refl _, r1.mono s, fun _ _ => rfl⟩
def rngD (lo c : Int) (n : Nat) : List D := (List.range n).map fun i : Nat => PyData.int (lo + (i : Int) * c)
theorem rngD_get {lo c : Int} {n i : Nat} {d : D} (e : (rngD lo c n)[i]? = some d) : i < n ∧ d = .int (lo + (i : Int) * c) := by
  unfold rngD at e
  rw [List.getElem?_map] at e
  obtain ⟨j, e1, rfl⟩ := Option.map_eq_some_iff.mp e
  obtain ⟨h1, h2⟩ := List.getElem?_eq_some_iff.mp e1
  rw [List.getElem_range] at h2
  subst h2
  exact ⟨by simpa using h1, rfl⟩
theorem rngD_len {lo c : Int} {n : Nat} : (rngD lo c n).length = n := by simp [rngD]
theorem feed_rng {K : PySem.W.Frag} {F : Hp} {lo : Int} {n : Nat} : Feed K F (Itr lo n) (rngD lo 1 n) := by
  intro F' O ρ σ H w s i
  refine ⟨fun d e => ?_, fun hi => by rw [rngD_len] at hi; exact Nat.le_of_eq hi.symm⟩
  obtain ⟨h1, rfl⟩ := rngD_get e
  refine ⟨h1, fun x H' y => ?_⟩
  obtain ⟨rfl, rfl⟩ := y
  rw [Int.mul_one]
  exact ⟨F', w, Sub.refl _, .int _, fun _ _ => rfl⟩
theorem feed_rngC {K : PySem.W.Frag} {F : Hp} {lo c : Int} {n : Nat} : Feed K F (Itc lo c n) (rngD lo c n) := by
  intro F' O ρ σ H w s i
  refine ⟨fun d e => ?_, fun hi => by rw [rngD_len] at hi; exact Nat.le_of_eq hi.symm⟩
  obtain ⟨h1, rfl⟩ := rngD_get e
  refine ⟨h1, fun x H' y => ?_⟩
  obtain ⟨rfl, rfl⟩ := y
  exact ⟨F', w, Sub.refl _, .int _, fun _ _ => rfl⟩
def chrD (x : Str) : List D := x.cps.toList.map fun c => PyData.str ⟨#[c]⟩
theorem feed_str {K : PySem.W.Frag} {F : Hp} {x : Str} : Feed K F (Its x) (chrD x) := by
  intro F' O ρ σ H w s i
  refine ⟨fun d e => ?_, fun hi => by show x.cps.size ≤ i; rw [hi]; simp [chrD]⟩
  unfold chrD at e
  rw [List.getElem?_map] at e
  obtain ⟨c, e1, rfl⟩ := Option.map_eq_some_iff.mp e
  have e1 : x.cps[i]? = some c := by simpa using e1
  refine ⟨(Array.getElem?_eq_some_iff.mp e1).1, fun y H' z => ?_⟩
  obtain ⟨rfl, c', e2, rfl⟩ := z
  rw [e1] at e2; cases e2
  exact ⟨F', w, Sub.refl _, .str _, fun _ _ => rfl⟩
/-- an item in a new pair -/
theorem pair_new {K : PySem.W.Frag} {F H : Hp} {O : Fm} {ρ : Rho} {σ : L2.St} {T : Addr} {vs : List V} {ds : List D} (w : Wd K F O ρ σ H) (hT : H T = none) (r : RpL K F vs ds) :
    ∃ F', Wd K F' O ρ σ (upd H T (.tup vs)) ∧ Sub F F' ∧ Rp K F' (.ref T) (.tuple ds) ∧ ∀ a, H a ≠ none → upd H T (.tup vs) a = H a :=
  have s : Sub F (upd F T (.tup vs)) := sub_upd (w.f.none hT)
  ⟨_, w.alloc hT, s, .tup upd_same (r.mono s), fun a ha => upd_ne fun z => ha (z ▸ hT)⟩
def enumD (ds : List D) : List D := (List.range ds.length).map fun i : Nat => PyData.tuple [.int i, ds.getD i .none]
theorem enumD_get {ds : List D} {i : Nat} {d : D} (e : (enumD ds)[i]? = some d) : ∃ y, ds[i]? = some y ∧ d = .tuple [.int i, y] := by
  unfold enumD at e
  rw [List.getElem?_map] at e
  obtain ⟨j, e1, rfl⟩ := Option.map_eq_some_iff.mp e
  obtain ⟨h1, h2⟩ := List.getElem?_eq_some_iff.mp e1
  rw [List.getElem_range] at h2
  subst h2
  have h1 : i < ds.length := by simpa using h1
  exact ⟨ds[i], by simp [h1], by simp [h1]⟩
theorem feed_enum {K : PySem.W.Frag} {F : Hp} {a : Addr} {vs : List V} {ds : List D} (h : SqL K F a vs) (r : RpL K F vs ds) : Feed K F (Ite K a) (enumD ds) := by
  intro F' O ρ σ H w s i
  have q : SqL K H a vs := (s.trans w.f).sqL h
  refine ⟨fun d e => ?_, fun hi => ⟨vs, q, by rw [r.length, hi]; simp [enumD]⟩⟩
  obtain ⟨y, e0, rfl⟩ := enumD_get e
  obtain ⟨v, e1, r1⟩ := r.get e0
  refine ⟨⟨vs, v, q, e1⟩, fun x H' y => ?_⟩
  obtain ⟨T, x, rfl, hT, rfl, y⟩ := y
  have := y vs q
  rw [e1] at this; cases this
  exact pair_new w hT (.cons (.int _) (.cons (r1.mono s) .nil))
def zipD (ds es : List D) : List D := (ds.zip es).map fun p => PyData.tuple [p.1, p.2]
theorem zipD_get {ds es : List D} {i : Nat} {d : D} (e : (zipD ds es)[i]? = some d) : ∃ x y, ds[i]? = some x ∧ es[i]? = some y ∧ d = .tuple [x, y] := by
  unfold zipD at e
  rw [List.getElem?_map] at e
  obtain ⟨p, e1, rfl⟩ := Option.map_eq_some_iff.mp e
  obtain ⟨q1, q2⟩ := List.getElem?_zip_eq_some.mp e1
  exact ⟨_, _, q1, q2, rfl⟩
theorem zipD_len {ds es : List D} : (zipD ds es).length = min ds.length es.length := by simp [zipD]
theorem feed_zip {K : PySem.W.Frag} {F : Hp} {a b : Addr} {vs us : List V} {ds es : List D} (h : SqL K F a vs) (r : RpL K F vs ds) (h' : SqL K F b us) (r' : RpL K F us es) : Feed K F (Itz K a b) (zipD ds es) := by
  intro F' O ρ σ H w s i
  have q : SqL K H a vs := (s.trans w.f).sqL h
  have q' : SqL K H b us := (s.trans w.f).sqL h'
  refine ⟨fun d e => ?_, fun hi => ⟨vs, us, q, q', by rw [r.length, r'.length]; rw [zipD_len] at hi; omega⟩⟩
  obtain ⟨x, y, e0, e0', rfl⟩ := zipD_get e
  obtain ⟨v, e1, r1⟩ := r.get e0
  obtain ⟨u, e2, r2⟩ := r'.get e0'
  refine ⟨⟨vs, us, v, u, q, q', e1, e2⟩, fun x H' y => ?_⟩
  obtain ⟨T, x, y, rfl, hT, rfl, y1, y2⟩ := y
  have y1 := y1 vs q
  have y2 := y2 us q'
  rw [e1] at y1; cases y1
  rw [e2] at y2; cases y2
  exact pair_new w hT (.cons (r1.mono s) (.cons (r2.mono s) .nil))
theorem feed_zipT {K : PySem.W.Frag} {F : Hp} {a b : Addr} {vs us : List V} {ds es : List D} (h : SqT K F a vs) (r : RpL K F vs ds) (h' : SqT K F b us) (r' : RpL K F us es) : Feed K F (RZ.ItzT K a b) (zipD ds es) := by
  intro F' O ρ σ H w s i
  have q : SqT K H a vs := (s.trans w.f).sqT h
  have q' : SqT K H b us := (s.trans w.f).sqT h'
  refine ⟨fun d e => ?_, fun hi => ⟨vs, us, q, q', by rw [r.length, r'.length]; rw [zipD_len] at hi; omega⟩⟩
  obtain ⟨x, y, e0, e0', rfl⟩ := zipD_get e
  obtain ⟨v, e1, r1⟩ := r.get e0
  obtain ⟨u, e2, r2⟩ := r'.get e0'
  refine ⟨⟨vs, us, v, u, q, q', e1, e2⟩, fun x H' y => ?_⟩
  obtain ⟨T, x, y, rfl, hT, rfl, y1, y2⟩ := y
  have y1 := y1 vs q
  have y2 := y2 us q'
  rw [e1] at y1; cases y1
  rw [e2] at y2; cases y2
  exact pair_new w hT (.cons (r1.mono s) (.cons (r2.mono s) .nil))

/-! ### sources -/
def walkD : D → Option (List D)
  | .list xs => some xs
  | .tuple xs => some xs
  | .str x => some (chrD x)
  | _ => none
def ofO {α : Type} (o : Option α) (ρ : Rho) : Rs α :=
  match o with
  | some a => .ok a ρ
  | none => .bad
def sIt (e : Rho → Rs Vl) : Rho → Rs (List D) := fun ρ => (e ρ).bind fun x ρ => (frz x ρ).bind fun d ρ => ofO (walkD d) ρ
def intsV (ρ : Rho) (xs : List Vl) : Option (List Int) := (conts ρ xs).bind intsD
def in62 (i : Int) : Bool := decide (-(2 ^ 62) ≤ i) && decide (i < 2 ^ 62)
theorem in62_iff {i : Int} : in62 i = true ↔ -(2 ^ 62) ≤ i ∧ i < 2 ^ 62 := by simp [in62]
def rg3Ok (i j c : Int) : Bool := c != 0 && decide (c.natAbs < 1073741824) && Builtin.Range.small i j c && decide (0 ≤ Builtin.Range.rangeSize i j c)
def rngOf : List Int → Option (List D)
  | [j] => if in62 j then some (rngD 0 1 j.toNat) else none
  | [i, j] => if in62 i && in62 j then some (rngD i 1 (j - i).toNat) else none
  | [i, j, c] => if rg3Ok i j c then some (rngD i c (Builtin.Range.rangeSize i j c).toNat) else none
  | _ => none
def sRng (a : Rho → Rs (List Vl)) : Rho → Rs (List D) := fun ρ => (a ρ).bind fun xs ρ => ofO ((intsV ρ xs).bind rngOf) ρ
theorem Ats.ints {K : PySem.W.Frag} {F H : Hp} : ∀ {vs : List V} {ds : List D} {ns : List Int}, Ats K F H vs ds → intsD ds = some ns → vs = ns.map V.int
  | [], [], ns, _, e => by cases e; rfl
  | v :: vs, d :: ds, ns, h, e => by
    cases d with
    | int i =>
      obtain ⟨m, e1, rfl⟩ := Option.map_eq_some_iff.mp (show (intsD ds).map _ = some ns from e)
      rw [h.1.int, Ats.ints h.2 e1]
      rfl
    | _ => cases e
section
variable {X : Cx} {G : Gx} {tg e a b c : Expr} {es : List Expr} {s : Rho → Rs Vl} {ss : Rho → Rs (List Vl)} {pos p : Pos}
theorem ofO_fin {α : Type} {P : Hp → Rs α → Prop} {O : Fm} {σ : L2.St} (T : Tgt G O σ P) {F : Hp} {o : Option α} {ρ : Rho} (h : P F (ofO o ρ)) : ∃ a, o = some a ∧ P F (.ok a ρ) := by
  cases o with
  | none => exact (T.bad h).elim
  | some a => exact ⟨a, rfl, h⟩
theorem di_val (hK : X.K = G.K) (he : PE X e (tE G s)) : DI X G tg e (sIt s) := by
  refine PI.imp (PI.or (PI.or (pi_list he) (pi_tup he)) (pi_str he)) fun σ H R h => ?_
  obtain ⟨ρ, F, O, w, h⟩ := h
  -- the kind is known from the pure result
  cases e0 : s ρ with
  | err x ρ1 => unfold sIt at h; rw [e0] at h; exact .inl (.inl ⟨ρ, F, O, w, by rw [e0]; exact h⟩)
  | bad => unfold sIt at h; rw [e0] at h; exact h.elim
  | ok x ρ1 =>
    unfold sIt at h
    rw [e0, Rs.bind_ok] at h
    cases e1 : frz x ρ1 with
    | err x ρ1 => exact absurd e1 frz_noerr
    | bad => rw [e1] at h; exact h.elim
    | ok d ρ2 =>
      rw [e1, Rs.bind_ok] at h
      obtain ⟨ds, e2, h⟩ := ofO_fin Tgt.finI h
      have go : ∀ {Q : VK}, (∀ v H1 F1, Wd G.K F1 O ρ2 σ H1 → Sub F F1 → Rp G.K F1 v d → Q v H1) → tE G s σ H Q := fun {Q} k => ⟨ρ, F, O, w, by
        rw [e0]
        intro v H1 F1 w1 s1 r1
        obtain ⟨F2, w2, s2, r2⟩ := frz_ok w1 r1 e1
        exact k v H1 F2 w2 (s1.trans s2) r2⟩
      cases d with
      | list xs =>
        cases e2
        refine .inl (.inl (go fun v H1 F1 w1 s1 r1 => ?_))
        obtain ⟨a, vs, rfl, q, r⟩ := At.list w1.f (.inl r1)
        cases r1 with
        | lst q0 r0 => exact ⟨_, rfl, ⟨vs, SqL.of q⟩, hK ▸ h _ H1 F1 w1 s1 (feed_list (SqL.of q0) r0)⟩
      | tuple xs =>
        cases e2
        refine .inl (.inr (go fun v H1 F1 w1 s1 r1 => ?_))
        cases r1 with
        | tup q0 r0 => rw [hK]; exact ⟨_, rfl, ⟨_, .inl (.inl (w1.f.eq q0))⟩, h _ H1 F1 w1 s1 (feed_tup (.inl (.inl q0)) r0)⟩
      | str x =>
        cases e2
        refine .inr (go fun v H1 F1 w1 s1 r1 => ?_)
        cases r1
        exact ⟨x, rfl, h _ H1 F1 w1 s1 feed_str⟩
      | _ => cases e2
theorem tA.to {σ : L2.St} {H : Hp} {Q Q' : List V → Hp → Prop} (h : tA G ss σ H Q) (i : ∀ v H', Q v H' → Q' v H') : tA G ss σ H Q' := by
  obtain ⟨ρ, F, O, w, h⟩ := h
  exact ⟨ρ, F, O, w, Fin.to i h⟩
theorem RVs.len {K : PySem.W.Frag} {F : Hp} {σ : L2.St} : ∀ {vs : List V} {xs : List Vl}, RVs K F σ vs xs → vs.length = xs.length
  | [], [], _ => rfl
  | _ :: _, _ :: _, h => congrArg (· + 1) (RVs.len h.2)
theorem map1 {ns : List Int} {a : V} (h : ns.map V.int = [a]) : ∃ i, ns = [i] ∧ a = .int i := by
  match ns, h with
  | [i], h => simp at h; exact ⟨i, rfl, h.symm⟩
theorem di_rng1 (hg : Gl X "range") (hm : X.mg "range" = none) (hl : ∀ ρ xs ρ', ss ρ = .ok xs ρ' → xs.length = 1) (ha : PA X [a] (tA G ss)) (hs : starEach [a] X.env = [(false, eval a X.env)]) : DI X G tg (.Call (.Name "range" p) [a] [] pos) (sRng ss) := by
  refine PI.imp (pi_range1 hg hm ha hs) fun σ H R h => ?_
  obtain ⟨ρ, F, O, w, h⟩ := h
  refine ⟨ρ, F, O, w, ?_⟩
  unfold sRng at h
  cases e0 : ss ρ with
  | err x ρ1 => rw [e0] at h; exact h
  | bad => rw [e0] at h; exact h
  | ok xs ρ1 =>
    rw [e0, Rs.bind_ok] at h
    intro vs H1 F1 w1 s1 rs
    obtain ⟨ds, e1, h2⟩ := ofO_fin Tgt.finI (FinI.mono s1 h)
    obtain ⟨ns, e2, e3⟩ := Option.bind_eq_some_iff.mp e1
    obtain ⟨cs, e4, e5⟩ := Option.bind_eq_some_iff.mp e2
    have ev := (w1.ats rs e4).ints e5
    have l := hl _ _ _ e0
    have ll : vs.length = 1 := (RVs.len rs).trans l
    subst ev
    rw [List.length_map] at ll
    match ns, ll with
    | [j], _ =>
      obtain ⟨q, rfl⟩ := ifs e3
      obtain ⟨q1, q2⟩ := in62_iff.mp q
      exact ⟨j, rfl, q1, q2, h2 _ H1 F1 w1 (Sub.refl _) feed_rng⟩
theorem di_rng2 (hg : Gl X "range") (hm : X.mg "range" = none) (hl : ∀ ρ xs ρ', ss ρ = .ok xs ρ' → xs.length = 2) (ha : PA X [a, b] (tA G ss)) (hs : starEach [a, b] X.env = [(false, eval a X.env), (false, eval b X.env)]) (hs2 : starEach [b] X.env = [(false, eval b X.env)]) : DI X G tg (.Call (.Name "range" p) [a, b] [] pos) (sRng ss) := by
  refine PI.imp (pi_range2 hg hm ha hs hs2) fun σ H R h => ?_
  obtain ⟨ρ, F, O, w, h⟩ := h
  refine ⟨ρ, F, O, w, ?_⟩
  unfold sRng at h
  cases e0 : ss ρ with
  | err x ρ1 => rw [e0] at h; exact h
  | bad => rw [e0] at h; exact h
  | ok xs ρ1 =>
    rw [e0, Rs.bind_ok] at h
    intro vs H1 F1 w1 s1 rs
    obtain ⟨ds, e1, h2⟩ := ofO_fin Tgt.finI (FinI.mono s1 h)
    obtain ⟨ns, e2, e3⟩ := Option.bind_eq_some_iff.mp e1
    obtain ⟨cs, e4, e5⟩ := Option.bind_eq_some_iff.mp e2
    have ev := (w1.ats rs e4).ints e5
    have l := hl _ _ _ e0
    have ll : vs.length = 2 := (RVs.len rs).trans l
    subst ev
    rw [List.length_map] at ll
    match ns, ll with
    | [i, j], _ =>
      obtain ⟨q, rfl⟩ := ifs e3
      rw [Bool.and_eq_true] at q
      obtain ⟨q1, q2⟩ := in62_iff.mp q.1
      obtain ⟨q3, q4⟩ := in62_iff.mp q.2
      exact ⟨i, j, rfl, ⟨q1, q2, q3, q4⟩, h2 _ H1 F1 w1 (Sub.refl _) feed_rng⟩
theorem di_rng3 (hg : Gl X "range") (hm : X.mg "range" = none) (hl : ∀ ρ xs ρ', ss ρ = .ok xs ρ' → xs.length = 3) (ha : PA X [a, b, c] (tA G ss)) (hs : starEach [a, b, c] X.env = (false, eval a X.env) :: starEach [b, c] X.env) (hp : (backTo pos (starEach [b, c] X.env)).any (·.1) = false) : DI X G tg (.Call (.Name "range" p) [a, b, c] [] pos) (sRng ss) := by
  refine PI.imp (pi_range3 hg hm ha hs hp) fun σ H R h => ?_
  obtain ⟨ρ, F, O, w, h⟩ := h
  refine ⟨ρ, F, O, w, ?_⟩
  unfold sRng at h
  cases e0 : ss ρ with
  | err x ρ1 => rw [e0] at h; exact h
  | bad => rw [e0] at h; exact h
  | ok xs ρ1 =>
    rw [e0, Rs.bind_ok] at h
    intro vs H1 F1 w1 s1 rs
    obtain ⟨ds, e1, h2⟩ := ofO_fin Tgt.finI (FinI.mono s1 h)
    obtain ⟨ns, e2, e3⟩ := Option.bind_eq_some_iff.mp e1
    obtain ⟨cs, e4, e5⟩ := Option.bind_eq_some_iff.mp e2
    have ev := (w1.ats rs e4).ints e5
    have l := hl _ _ _ e0
    have ll : vs.length = 3 := (RVs.len rs).trans l
    subst ev
    rw [List.length_map] at ll
    match ns, ll with
    | [i, j, c], _ =>
      obtain ⟨q, rfl⟩ := ifs e3
      simp only [rg3Ok, Bool.and_eq_true, decide_eq_true_eq, bne_iff_ne] at q
      obtain ⟨⟨⟨q1, q2⟩, q3⟩, q4⟩ := q
      exact ⟨i, j, c, _, rfl, ⟨q1, q2, q3, (Int.toNat_of_nonneg q4).symm⟩, h2 _ H1 F1 w1 (Sub.refl _) feed_rngC⟩
end
end L3
/-! L3, part 14: enumerate of a tuple. -/
namespace L3
open PySem PySem.Spec PyProof.Rows L2
open Sem (wp)

set_option maxHeartbeats 1200000 in
theorem meets_enum1 {v : Value} {o : Obj} {H : Heap → Prop} (B : Begins v o H) :
    Meets (Builtin.«enumerate.__new__» ⟨[.type "enumerate", v], []⟩) (fun _ R s => H s.heap ∧
      R (.ok (.ret (.ref (s.heap.push o).objs.size))) { s with heap := (s.heap.push o).push { cls := .type "enumerate", data := .fields #[.none, .bool false, .ref s.heap.objs.size, rawInt 0, .none, .none] } }) :=
  .of_wp fun prog w Ar Rr sh hh => by
    obtain ⟨h00, g, d, tok, osv⟩ := sh; obtain ⟨hB, h⟩ := hh
    have isE := sub_enumerate
    have stp : ∀ {A' : Around} {E : Value → Shared → Prop} {Q : Value → Shared → Prop}, Q (.ref h00.objs.size) ⟨h00.push o, g, d, tok, osv⟩ → wpAny (model prog w) A' (pyIter v) Q E ⟨h00, g, d, tok, osv⟩ :=
      fun q => B.iter prog w _ _ ⟨h00, g, d, tok, osv⟩ _ hB q
    wp_walk using stp
    refine wpAny_stack_any fun tn0 => wpAny_pure ?_
    split
    · rename_i c _ _ _ _ _
      cases (c == (Value.type "enumerate"))
      · wp_walk using stp
        exact ⟨_, rfl, h⟩
      · wp_walk using stp
        exact ⟨_, rfl, h⟩
    · wp_walk using stp
      exact ⟨_, rfl, h⟩
section
variable {prog : Program} {w : World} {A : Around}
  {E : Value → Shared → Prop} {s : Shared}
theorem call_enum1 {v : Value} {o : Obj} {H : Heap → Prop} {Q : Value → Shared → Prop} (B : Begins v o H) (hB : H s.heap)
    (h : ∀ h', IsEnum h' (s.heap.objs.size + 1) s.heap.objs.size 0 .none → h'.get? s.heap.objs.size = some o → h'.objs.size = s.heap.objs.size + 2 →
      (∀ c u, s.heap.get? c = some u → h'.get? c = some u) → Q (.ref (s.heap.objs.size + 1)) { s with heap := h' }) :
    wpAny (model prog w) A (call (.type "enumerate") [v]) Q E s := by
  refine callType_new F.called_enumerate (by decide) (F.typeCall_enumerate_1 _) (F.newCall_enumerate_1 _) (fun ob => F.args_object_init_2 ob _) F.entry_enumerate_new
    (meets_enum1 B) ⟨hB, ?_⟩
  have siz : (s.heap.push o).objs.size = s.heap.objs.size + 1 := Heap.size_push ..
  show _ ∧ _
  rw [siz]
  have isEn : IsEnum ((s.heap.push o).push { cls := .type "enumerate", data := .fields #[.none, .bool false, .ref s.heap.objs.size, rawInt 0, .none, .none] }) (s.heap.objs.size + 1) s.heap.objs.size 0 .none := by
    have := Heap.get?_push_size (s.heap.push o) (o := { cls := .type "enumerate", data := .fields #[.none, .bool false, .ref s.heap.objs.size, rawInt 0, .none, .none] }) rfl
    rw [siz] at this; exact this
  refine ⟨⟨_, isEn, rfl⟩, h _ isEn (Heap.get?_push_of_some _ (Heap.get?_push_size _ B.free)) (by rw [Heap.size_push, siz]) fun b o x => Heap.get?_push_of_some _ (Heap.get?_push_of_some _ x)⟩
end

/-- the tuple at a, each item in a fresh pair -/
def IteT (K : PySem.W.Frag) (a : Addr) : It :=
  ⟨fun i H => ∃ (xs : List V) (x : V), SqT K H a xs ∧ xs[i]? = some x, fun i H v H' => ∃ T x, v = .ref T ∧ H T = none ∧ H' = upd H T (.tup [.int (i : Nat), x]) ∧ ∀ xs, SqT K H a xs → xs[i]? = some x, fun i H => ∃ xs : List V, SqT K H a xs ∧ xs.length = i⟩
theorem turn_enumT {P : Program} {w : World} {K : PySem.W.Frag} {elts : List Expr} {kk : Nat} {tpos : Pos} (a e it : Addr) (nI : a ≠ it) (nE : a ≠ e) :
    Turn P w K (.Tuple elts kk tpos) (IteT K a) [e, it] e (fun i h => (∃ prev, IsEnum h e it ((i : Nat) : Int) prev) ∧ h.IsTupleIter it a i ∧ e ≠ it) where
  mem := by simp
  obj := fun i h tn0 b bIn => by
    obtain ⟨⟨prev, isEn⟩, ⟨o, oAt, clsE, datE⟩, _⟩ := tn0
    have bb : b = e ∨ b = it := by simpa using bIn
    rcases bb with z | z
    · rw [z]; exact ⟨_, isEn, fun v q => nomatch q⟩
    · rw [z]; exact ⟨o, oAt, fun v q => by rw [datE] at q; cases q⟩
  keep := fun i h h' tn0 k => let ⟨⟨prev, isEn⟩, cur0, apart⟩ := tn0; ⟨⟨prev, k e (by simp) _ isEn⟩, cur0.at fun o q => k it (by simp) o q, apart⟩
  item := by
    intro X eP eW eK clsE i ps s σ H E I far tn0 ahead
    subst eP eW eK
    obtain ⟨⟨prev, isEn⟩, cur, apart⟩ := tn0
    obtain ⟨xs, x, seq0, xAt⟩ := ahead
    obtain ⟨items0, vals, p, siz⟩ := I.tuple seq0
    obtain ⟨u, uAt, uRel⟩ := vals.get xAt
    have ltE : e < s.heap.objs.size := Heap.lt_size isEn
    have ltI : it < s.heap.objs.size := by obtain ⟨_, q, _⟩ := cur; exact Heap.lt_size q
    have ltN : i < items0.toArray.size := by
      have := (List.getElem?_eq_some_iff.mp uAt).1
      simpa using this
    refine wpAny_pyNext_enum_itemD (D := Draws.tuple (A := X.A.in1) (prog := X.prog) (w := X.w) (I.ok.hd clsE) it a nI items0.toArray) isEn ⟨cur, p⟩ ltN apart (by simp [apart, nE.symm]) fun u' h' tok hP' oAt hit' newT size1 kept => ?_
    have sameU : u' = u := by
      have : items0.toArray[i]? = some u' := hP'
      rw [show items0.toArray[i]? = some u by simpa using uAt] at this
      exact Eq.symm (Option.some.inj this)
    subst sameU
    refine ⟨_, rfl, wpAny_letOwnedTupleGo_enum (s := { s with heap := h', toks := tok + 1 }) oAt fun h2 isEn2 but => ?_⟩
    have newT2 : h2.get? s.heap.objs.size = some { cls := .type "tuple", data := .seq #[.int i tok, u'] } := (but.2 _ (Nat.ne_of_gt ltE)).trans newT
    have fresh : ObjOk X.prog X.w (upd H s.heap.objs.size (.tup [.int (i : Nat), x])) h2 s.heap.objs.size (.tup [.int (i : Nat), x]) :=
      ⟨by show 2 ≤ sizeLine; decide, [.int i tok, u'], .cons ⟨_, rfl⟩ (.cons uRel .nil), ⟨_, newT2, rfl, _, rfl⟩⟩
    have Inv1 : Inv X ps σ (upd H s.heap.objs.size (.tup [.int (i : Nat), x])) { s with heap := h2, toks := tok + 1 } :=
      I.turnedNew (ch := [e, it]) (fun b ob bIn q => (but.2 b (fun z => bIn (by simp [z]))).trans (kept b ob (fun z => bIn (by simp [z])) (fun z => bIn (by simp [z])) q)) far (Nat.le_refl _) fresh
    refine ⟨.ref s.heap.objs.size, _, Inv1, rfl, ⟨_, x, rfl, I.hok.fresh (Nat.le_refl _), rfl, fun ys hy => by rw [I.tuple_inj hy seq0]; exact xAt⟩, ⟨⟨u', ?_⟩, hit'.1.at fun o q => (but.2 it (Ne.symm apart)).trans q, apart⟩, fun b bIn => ?_⟩
    · have e1 : (((i + 1 : Nat)) : Int) = (i : Int) + 1 := by omega
      rw [e1]; exact isEn2
    · have bLt : b < s.heap.objs.size := by
        have bb : b = e ∨ b = it := by simpa using bIn
        rcases bb with z | z
        · rw [z]; exact ltE
        · rw [z]; exact ltI
      rw [upd_ne (Nat.ne_of_lt bLt)]
      exact (far b bIn).1
  done := by
    intro X eP eW eK clsE i ps s σ H E I far tn0 ahead
    subst eP eW eK
    obtain ⟨⟨prev, isEn⟩, cur, apart⟩ := tn0
    obtain ⟨xs, seq0, xAt⟩ := ahead
    obtain ⟨items0, vals, p, siz⟩ := I.tuple seq0
    obtain ⟨g0, g1, g2, g3, g4, g5⟩ := far it (by simp)
    have lenV := vals.length
    have atEnd : i = items0.toArray.size := by rw [← xAt, lenV]; simp
    exact wpAny_pyNext_enum_endD (D := Draws.tuple (A := X.A.in1) (prog := X.prog) (w := X.w) (I.ok.hd clsE) it a nI items0.toArray) isEn (by rw [← atEnd]; exact ⟨cur, p⟩) fun h' eb => ⟨rfl, I.turned (t' := s.toks) (fun b o bIn q => eb b o bIn q) g0 g1 g3 g4 g5⟩
  self := fun A i s Q E tn0 h => let ⟨⟨_, isEn⟩, _⟩ := tn0; wpAny_pyIter_enum isEn h
theorem feed_enumT {K : PySem.W.Frag} {F : Hp} {a : Addr} {vs : List V} {ds : List D} (h : SqT K F a vs) (r : RpL K F vs ds) : Feed K F (IteT K a) (enumD ds) := by
  intro F' O ρ σ H w s i
  have q : SqT K H a vs := (s.trans w.f).sqT h
  refine ⟨fun d e => ?_, fun cur0 => ⟨vs, q, by rw [r.length, cur0]; simp [enumD]⟩⟩
  obtain ⟨y, e0, rfl⟩ := enumD_get e
  obtain ⟨v, e1, r1⟩ := r.get e0
  refine ⟨⟨vs, v, q, e1⟩, fun x H' y => ?_⟩
  obtain ⟨T, x, rfl, newT, rfl, y⟩ := y
  have := y vs q
  rw [e1] at this; cases this
  exact pair_new w newT (.cons (.int _) (.cons (r1.mono s) .nil))
def iEnumT (K : PySem.W.Frag) (ta : TA) : TI := fun σ H R => ta σ H fun vs H1 => ∃ a xs, vs = [.ref a] ∧ SqT K H1 a xs ∧ R (IteT K a) H1
theorem pi_enumT {X : Cx} {e : Expr} {ta : TA} {p pos tpos : Pos} {elts : List Expr} {kk : Nat} (ahead : Gl X "enumerate") (mod0 : X.mg "enumerate" = none) (arg0 : PA X [e] ta) (st0 : starEach [e] X.env = [(false, eval e X.env)]) :
    PI X (.Tuple elts kk tpos) (.Call (.Name "enumerate" p) [e] [] pos) (iEnumT X.K ta) := by
  refine ⟨fun ps s σ H R I h => ?_⟩
  refine Call_ (ld_blt I ahead mod0 boot_enumerate (PyProof.Rows.callWith_type1 (thn (arg0.run pos ps s σ H _ I h) fun args s1 ⟨vs, H1, Inv1, r1, stp⟩ => ?_) st0 rfl))
  obtain ⟨a, xs, one, seq0, q⟩ := stp
  subst one
  cases r1 with
  | cons r more =>
    cases more
    cases r
    obtain ⟨items0, vals, isT, siz⟩ := Inv1.tuple seq0
    have isT0 : s1.heap.IsTuple a items0.toArray := isT
    have ltA : a < s1.heap.objs.size := by obtain ⟨o, e, _⟩ := isT0; exact Heap.lt_size e
    refine call_enum1 (begins_tuple a items0.toArray) isT0 fun h' isEn cur size1 kept => wpAny_pyIter_enum isEn ?_
    have Inv2 : Inv X ps σ H1 { s1 with heap := h' } := Inv1.kept (t' := s1.toks) kept
    refine ⟨s1.heap.objs.size + 1, [s1.heap.objs.size + 1, s1.heap.objs.size], _, _, H1, rfl, Inv2, turn_enumT a (s1.heap.objs.size + 1) s1.heap.objs.size (Nat.ne_of_lt ltA) (Nat.ne_of_lt (Nat.lt_succ_of_lt ltA)), ⟨⟨.none, isEn⟩, ⟨_, cur, rfl, rfl⟩, Nat.succ_ne_self _⟩, fun b bIn => ?_, q⟩
    have bb : b = s1.heap.objs.size + 1 ∨ b = s1.heap.objs.size := by simpa using bIn
    have geB : s1.heap.objs.size ≤ b := by
      rcases bb with z | z
      · rw [z]; exact Nat.le_succ _
      · rw [z]; exact Nat.le_refl _
    exact Inv1.fpOk geB (Inv1.hok.fresh geB)

/-! ### enumerate, zip, reversed as sources -/
def one1 (f : List D → List D) (a : Rho → Rs (List Vl)) : Rho → Rs (List D) := fun ρ => (a ρ).bind fun xs ρ => (frzs xs ρ).bind fun ds ρ =>
  match ds with
  | [d] => ofO ((itemsD d).map f) ρ
  | _ => .bad
def sZip (a : Rho → Rs (List Vl)) : Rho → Rs (List D) := fun ρ => (a ρ).bind fun xs ρ => (frzs xs ρ).bind fun ds ρ =>
  match ds with
  | [.list x, .list y] => .ok (zipD x y) ρ
  | [.tuple x, .tuple y] => .ok (zipD x y) ρ
  | _ => .bad
section
variable {X : Cx} {G : Gx} {tg a b : Expr} {es : List Expr} {ss : Rho → Rs (List Vl)} {pos p tpos : Pos} {elts : List Expr} {kk : Nat}
/-- the arguments' pure result decides -/
theorem di_args {wi : TI} {s : Rho → Rs (List D)} {f : List D → Rho → Rs (List D)} (hs : ∀ ρ, s ρ = (ss ρ).bind fun xs ρ => (frzs xs ρ).bind fun ds ρ => f ds ρ) {σ : L2.St} {H : Hp} {R : It → Hp → Prop} (h : tI G s σ H R)
    (k : ∀ ds, (∀ Q : List V → Hp → Prop, (∀ vs H1 F1 O ρ1, Wd G.K F1 O ρ1 σ H1 → RpL G.K F1 vs ds → FinI G F1 O σ R (f ds ρ1) → Q vs H1) → tA G ss σ H Q) → (∃ F O ρ, FinI G F O σ R (f ds ρ)) → wi σ H R)
    (kb : (∀ Q : List V → Hp → Prop, tA G ss σ H Q) → wi σ H R) : wi σ H R := by
  obtain ⟨ρ, F, O, w, h⟩ := h
  rw [hs] at h
  cases e0 : ss ρ with
  | err x ρ1 => rw [e0] at h; exact kb fun Q => ⟨ρ, F, O, w, by rw [e0]; exact h⟩
  | bad => rw [e0] at h; exact h.elim
  | ok xs ρ1 =>
    rw [e0, Rs.bind_ok] at h
    cases e1 : frzs xs ρ1 with
    | err x ρ1 => exact absurd e1 frzs_noerr
    | bad => rw [e1] at h; exact h.elim
    | ok ds ρ2 =>
      rw [e1, Rs.bind_ok] at h
      refine k ds (fun Q q => ⟨ρ, F, O, w, ?_⟩) ⟨F, O, ρ2, h⟩
      rw [e0]
      intro vs H1 F1 w1 s1 r1
      obtain ⟨F2, w2, s2, r2⟩ := frzs_ok w1 r1 e1
      exact q vs H1 F2 O ρ2 w2 r2 (FinI.mono (s1.trans s2) h)
theorem di_enum (hK : X.K = G.K) (hg : Gl X "enumerate") (hm : X.mg "enumerate" = none) (ha : PA X [a] (tA G ss)) (hs : starEach [a] X.env = [(false, eval a X.env)]) : DI X G (.Tuple elts kk tpos) (.Call (.Name "enumerate" p) [a] [] pos) (one1 enumD ss) := by
  refine PI.imp (PI.or (pi_enum hg hm ha hs) (pi_enumT hg hm ha hs)) fun σ H R h => ?_
  refine di_args (wi := fun σ H R => iEnum X.K (tA G ss) σ H R ∨ iEnumT X.K (tA G ss) σ H R) (fun _ => rfl) h (fun ds q hf => ?_) fun q => .inl (q _)
  obtain ⟨F, O, ρ, hf⟩ := hf
  rw [hK]
  match ds, hf, q with
  | [.list xs], hf, q =>
    refine .inl (q _ fun vs H1 F1 O ρ1 w1 r1 h1 => ?_)
    cases r1 with
    | cons r1 rr =>
      cases rr
      cases r1 with
      | lst q0 r0 => exact ⟨_, _, rfl, SqL.of (w1.f.eq q0), h1 _ H1 F1 w1 (Sub.refl _) (feed_enum (SqL.of q0) r0)⟩
  | [.tuple xs], hf, q =>
    refine .inr (q _ fun vs H1 F1 O ρ1 w1 r1 h1 => ?_)
    cases r1 with
    | cons r1 rr =>
      cases rr
      cases r1 with
      | tup q0 r0 => exact ⟨_, _, rfl, .inl (.inl (w1.f.eq q0)), h1 _ H1 F1 w1 (Sub.refl _) (feed_enumT (.inl (.inl q0)) r0)⟩
  | [], hf, _ => exact hf.elim
  | _ :: _ :: _, hf, _ => exact hf.elim
  | [.none], hf, _ => exact hf.elim
  | [.bool _], hf, _ => exact hf.elim
  | [.int _], hf, _ => exact hf.elim
  | [.str _], hf, _ => exact hf.elim
  | [.dict _], hf, _ => exact hf.elim
theorem di_zip (hK : X.K = G.K) (hg : Gl X "zip") (hm : X.mg "zip" = none) (ha : PA X [a, b] (tA G ss)) (hs : starEach [a, b] X.env = (false, eval a X.env) :: starEach [b] X.env) (hp : (backTo pos (starEach [b] X.env)).any (·.1) = false) : DI X G (.Tuple elts kk tpos) (.Call (.Name "zip" p) [a, b] [] pos) (sZip ss) := by
  refine PI.imp (RZ.pi_zipA hg hm ha hs hp) fun σ H R h => ?_
  refine di_args (wi := RZ.iZipA X.K (tA G ss)) (fun _ => rfl) h (fun ds q hf => q _ fun vs H1 F1 O ρ1 w1 r1 h1 => ?_) fun q => q _
  rw [hK]
  match ds, h1, r1 with
  | [.list xs, .list ys], h1, .cons (.lst q0 r0) (.cons (.lst q0' r0') .nil) =>
    exact ⟨_, _, _, _, rfl, .inl ⟨SqL.of (w1.f.eq q0), SqL.of (w1.f.eq q0'), h1 _ H1 F1 w1 (Sub.refl _) (feed_zip (SqL.of q0) r0 (SqL.of q0') r0')⟩⟩
  | [.tuple xs, .tuple ys], h1, .cons (.tup q0 r0) (.cons (.tup q0' r0') .nil) =>
    exact ⟨_, _, _, _, rfl, .inr ⟨.inl (.inl (w1.f.eq q0)), .inl (.inl (w1.f.eq q0')), h1 _ H1 F1 w1 (Sub.refl _) (feed_zipT (.inl (.inl q0)) r0 (.inl (.inl q0')) r0')⟩⟩
end
end L3
/-! L3, part 15: for. -/
namespace L3
open PySem PySem.Spec PyProof.Rows L2

def sLoop (tg : D → Rho → Rs Fl) (b : Rho → Rs Fl) : List D → Rho → Rs Fl
  | [], ρ => .ok .nx ρ
  | d :: ds, ρ => thenG (tg d ρ) fun ρ => (b ρ).bind fun f ρ => match f with
    | .nx => sLoop tg b ds ρ
    | .ct => sLoop tg b ds ρ
    | .bk => .ok .nx ρ
    | .rt d => .ok (.rt d) ρ
def sFor (it : Rho → Rs (List D)) (tg : D → Rho → Rs Fl) (b : Rho → Rs Fl) : Rho → Rs Fl := fun ρ => (it ρ).bind fun ds ρ => sLoop tg b ds ρ
theorem Tgt.then {G : Gx} {O : Fm} {σ : L2.St} {α : Type} {N : Ends} {F : Hp} {r : Rs Fl} {k : Rho → Rs Fl} (h : FinS G F O N (thenG r k)) : ∃ ρ, r = .ok .nx ρ ∧ FinS G F O N (k ρ) := by
  unfold thenG at h
  split at h
  · exact ⟨_, rfl, h⟩
  · exact h.elim
section
variable {X : Cx} {G : Gx} {tg it : Expr} {body : List Stmt} {js : List Nat} {si : Rho → Rs (List D)} {st : D → Rho → Rs Fl} {sb : Rho → Rs Fl} {pos : Pos}
theorem tI_bind {G : Gx} {σ : L2.St} {H F : Hp} {O : Fm} {ρ : Rho} {R : It → Hp → Prop} {α : Type} {P : Hp → Rs α → Prop} (T : Tgt G O σ P) {s : Rho → Rs (List D)} {f : List D → Rho → Rs α} (w : Wd G.K F O ρ σ H) (h : P F ((s ρ).bind f))
    (hQ : ∀ ds ρ1 J H1 F1, Wd G.K F1 O ρ1 σ H1 → Sub F F1 → Feed G.K F1 J ds → P F1 (f ds ρ1) → R J H1) : tI G s σ H R := by
  refine ⟨ρ, F, O, w, ?_⟩
  cases e : s ρ with
  | ok a ρ1 =>
    rw [e] at h
    exact fun J H1 F1 w1 s1 r1 => hQ a ρ1 J H1 F1 w1 s1 r1 (T.mono s1 h)
  | err x ρ1 => rw [e] at h; exact T.err h
  | bad => rw [e] at h; exact (T.bad h).elim
theorem drop_at {α : Type} {ds : List α} {i : Nat} {d : α} (e : ds[i]? = some d) : ds.drop i = d :: ds.drop (i + 1) := by
  obtain ⟨h1, h2⟩ := List.getElem?_eq_some_iff.mp e
  rw [List.drop_eq_getElem_cons h1, h2]
theorem ds_for (hp : PassesOwn (model X.prog X.w) X.A X.env X.xe) (hc : X.calm = true) (hi : DI X G tg it si) (hg : DG X G tg js st) (hb : PSs X body (tS G sb)) (hs : ∀ x, foldedSetIterable it X.env x = pure x) : PS X (.For tg it body [] pos) (tS G (sFor si st sb)) := by
  refine PS.imp (ps_for hp hc hi hg hb hs) fun N σ H h => ?_
  obtain ⟨ρ, F, O, w, h⟩ := h
  refine tI_bind Tgt.finS w h fun ds ρ1 J H1 F1 w1 s1 feed h1 => ?_
  refine ⟨fun i m σ H => m = ds.length - i ∧ i ≤ ds.length ∧ ∃ ρ F, Wd G.K F O ρ σ H ∧ Sub F1 F ∧ FinS G F O N (sLoop st sb (ds.drop i) ρ), ⟨ds.length, by simp, Nat.zero_le _, ρ1, F1, w1, Sub.refl _, h1⟩, ?_⟩
  rintro i m σ2 H2 ⟨rfl, hi, ρ2, F2, w2, s2, h2⟩
  obtain ⟨go, stop⟩ := feed w2 s2 i
  by_cases hlt : i < ds.length
  · have e : ds[i]? = some ds[i] := by simp
    obtain ⟨g1, g2⟩ := go _ e
    rw [drop_at e] at h2
    obtain ⟨ρ3, e3, h3⟩ := Tgt.then (G := G) (σ := σ2) (α := Unit) h2
    refine .inr ⟨g1, fun σ' H' => ∃ ρ F, Wd G.K F O ρ σ' H' ∧ Sub F1 F ∧ FinS G F O N (sLoop st sb (ds.drop (i + 1)) ρ), fun σ' H' q => ⟨_, by omega, rfl, hlt, q⟩, fun x H' y => ?_⟩
    obtain ⟨F', w', s', r', _⟩ := g2 x H' y
    refine ⟨ρ2, F', O, _, ρ3, w', r', e3, fun σ' w3 _ => ⟨ρ3, F', O, w3, ?_⟩⟩
    have h3 := FinS.mono s' h3
    cases eb : sb ρ3 with
    | ok f ρ4 =>
      rw [eb, Rs.bind_ok] at h3
      cases f with
      | nx => exact fun σ4 H4 F4 w4 s4 => ⟨ρ4, F4, w4, (s2.trans s').trans s4, FinS.mono s4 h3⟩
      | ct => exact fun σ4 H4 F4 w4 s4 => ⟨ρ4, F4, w4, (s2.trans s').trans s4, FinS.mono s4 h3⟩
      | bk => exact h3
      | rt d => exact h3
    | err x ρ4 => rw [eb] at h3; exact h3
    | bad => rw [eb] at h3; exact h3
  · have e : i = ds.length := by omega
    subst e
    rw [List.drop_length] at h2
    exact .inl ⟨stop rfl, h2 σ2 H2 F2 w2 (Sub.refl _)⟩
end

/-! ### list comprehensions -/
/-- inside a comprehension nothing may be raised -/
def Gx.q (G : Gx) : Gx := { G with W := fun _ _ _ _ => False }
def wipeR (ρ : Rho) : List Nat → Rho
  | [] => ρ
  | i :: r => (wipeR ρ r).set i .no
def isNo (c : Option Cell) : Bool :=
  match c with
  | some .no => true
  | none => true
  | _ => false
def isVal (c : Option Cell) : Bool :=
  match c with
  | some .no => true
  | some (.val _) => true
  | none => true
  | _ => false
/-- the comprehension's own slots are empty -/
def allNo (ρ : Rho) (vs : List Nat) : Bool := vs.all fun i => isNo ρ[i]?
def allVal (ρ : Rho) (vs : List Nat) : Bool := vs.all fun i => isVal ρ[i]?
def okB {α β : Type} (r : Rs α) (k : α → Rho → Rs β) : Rs β :=
  match r with
  | .ok a ρ => k a ρ
  | _ => .bad
/-- one clause; acc is what was gathered -/
def sGather (tg : D → Rho → Rs Fl) (tt : Rho → Rs Bool) (te : Rho → Rs Vl) (vs : List Nat) : List D → List D → Rho → Rs (List D)
  | [], acc, ρ => .ok acc ρ
  | d :: ds, acc, ρ => thenG' (tg d ρ) fun ρ => okB (tt ρ) fun k ρ => if k then okB (te ρ) fun x ρ => okB (frz x ρ) fun y ρ => if allVal ρ vs && decide (acc.length < sizeLine) then sGather tg tt te vs ds (acc ++ [y]) (wipeR ρ vs) else .bad
      else if allVal ρ vs then sGather tg tt te vs ds acc (wipeR ρ vs) else .bad
where
  thenG' (r : Rs Fl) (k : Rho → Rs (List D)) : Rs (List D) :=
    match r with
    | .ok .nx ρ => k ρ
    | _ => .bad
/-- what was hidden is seen again -/
def backR (ρ : Rho) : List Nat → Rho → Rho
  | [], ρ' => ρ'
  | i :: r, ρ' => match ρ[i]? with
    | some c => (backR ρ r ρ').set i c
    | none => backR ρ r ρ'
def sLc (it : Rho → Rs (List D)) (tg : D → Rho → Rs Fl) (tt : Rho → Rs Bool) (te : Rho → Rs Vl) (vs : List Nat) : Rho → Rs Vf := fun ρ =>
  (it ρ).bind fun ds ρ => if allVal ρ vs then okB (sGather tg tt te vs ds [] (wipeR ρ vs)) fun ys ρ' => .ok (.fr (.list ys)) (backR ρ vs ρ') else .bad
def sYes : Rho → Rs Bool := fun ρ => .ok true ρ

section
variable {K : PySem.W.Frag} {F : Hp} {O : Fm} {ρ : Rho} {σ σ' : L2.St} {H : Hp} {vs : List Nat}
/-- another store that agrees where something is held -/
theorem Wd.sig (w : Wd K F O ρ σ H) (hl : σ'.length = σ.length) (h : ∀ (i : Nat) (c : Cell), ρ[i]? = some c → c ≠ .no → σ'[i]? = σ[i]?) : Wd K F O ρ σ' H := by
  have hd : ∀ (i : Nat) (c : Cell) (d : D), ρ[i]? = some c → c.held = some d → σ'[i]? = σ[i]? := fun i c d e q => h i c e fun z => by subst z; cases q
  refine ⟨w.len.trans hl.symm, w.f, w.o, w.fo, fun i d e => ?_, fun i c d e q => ?_, fun i c a e q z => ?_, fun i a p d e => ?_, w.lk, fun i j c c' d d' a ne e1 e2 q1 q2 z1 z2 => ?_⟩
  · rw [h i _ e (fun z => nomatch z)]; exact w.val i d e
  · rw [hd i c d e q]; exact w.own i c d e q
  · rw [h i c e (fun y => by subst y; cases q)] at z; exact w.pr i c a e q z
  · obtain ⟨q1, q2⟩ := w.wl i a p d e
    exact ⟨q1, by rw [h i _ q1 (fun z => nomatch z)]; exact q2⟩
  · rw [hd i c d e1 q1] at z1
    rw [hd j c' d' e2 q2] at z2
    exact w.ap i j c c' d d' a ne e1 e2 q1 q2 z1 z2
theorem allNo_at (h : allNo ρ vs = true) {i : Nat} (hi : i ∈ vs) {c : Cell} (e : ρ[i]? = some c) : c = .no := by
  have := List.all_eq_true.mp h i hi
  rw [e] at this
  cases c <;> first | rfl | cases this
theorem allVal_at (h : allVal ρ vs = true) {i : Nat} (hi : i ∈ vs) {c : Cell} (e : ρ[i]? = some c) : c.held = none := by
  have := List.all_eq_true.mp h i hi
  rw [e] at this
  cases c <;> first | rfl | cases this
theorem Wd.wiped (w : Wd K F O ρ σ H) (h : allNo ρ vs = true) : Wd K F O ρ (wipe σ vs) H :=
  w.sig (wipe_length σ vs) fun i c e ne => wipe_out fun hi => ne (allNo_at h hi e)
theorem Wd.unwiped (w : Wd K F O ρ (wipe σ vs) H) (h : allNo ρ vs = true) : Wd K F O ρ σ H :=
  w.sig (wipe_length σ vs).symm fun i c e ne => (wipe_out fun hi => ne (allNo_at h hi e)).symm
theorem wipeR_len : ∀ (vs : List Nat), (wipeR ρ vs).length = ρ.length
  | [] => rfl
  | i :: r => by unfold wipeR; rw [List.length_set, wipeR_len r]
theorem wipeR_get : ∀ {vs : List Nat} {i : Nat} {c : Cell}, (wipeR ρ vs)[i]? = some c → c = .no ∨ (i ∉ vs ∧ ρ[i]? = some c)
  | [], i, c, e => .inr ⟨by simp, e⟩
  | j :: r, i, c, e => by
    unfold wipeR at e
    rcases get_set e with ⟨rfl, z⟩ | ⟨ne, e⟩
    · exact .inl z
    · rcases wipeR_get e with z | ⟨z, q⟩
      · exact .inl z
      · exact .inr ⟨fun hm => by rcases List.mem_cons.mp hm with e | e; exact ne e; exact z e, q⟩
theorem wipeR_out : ∀ {vs : List Nat} {i : Nat}, i ∉ vs → (wipeR ρ vs)[i]? = ρ[i]?
  | [], i, h => rfl
  | j :: r, i, h => by
    unfold wipeR
    rw [List.getElem?_set_ne (fun z => h (by simp [z]))]
    exact wipeR_out fun z => h (List.mem_cons_of_mem _ z)
theorem wipeR_in : ∀ {vs : List Nat} {i : Nat}, i ∈ vs → isNo (wipeR ρ vs)[i]? = true
  | j :: r, i, h => by
    unfold wipeR
    by_cases e : j = i
    · subst e
      by_cases hl : j < (wipeR ρ r).length
      · rw [List.getElem?_set_self hl]; rfl
      · rw [List.getElem?_eq_none (by simpa using hl)]; rfl
    · rw [List.getElem?_set_ne e]
      rcases List.mem_cons.mp h with z | z
      · exact absurd z.symm e
      · exact wipeR_in z
theorem wipeR_no : allNo (wipeR ρ vs) vs = true := List.all_eq_true.mpr fun _ hi => wipeR_in hi
/-- empty cells in place of values -/
theorem Wd.empty (w : Wd K F O ρ σ H) (h : allVal ρ vs = true) : Wd K F O (wipeR ρ vs) σ H := by
  have back : ∀ (i : Nat) (c : Cell), (wipeR ρ vs)[i]? = some c → c ≠ .no → ρ[i]? = some c := fun i c e ne => by
    rcases wipeR_get e with z | ⟨_, z⟩
    · exact absurd z ne
    · exact z
  have hd : ∀ (i : Nat) (c : Cell) (d : D), (wipeR ρ vs)[i]? = some c → c.held = some d → ρ[i]? = some c := fun i c d e q => back i c e fun z => by subst z; cases q
  refine ⟨(wipeR_len vs).trans w.len, w.f, w.o, w.fo, fun i d e => w.val i d (back i _ e fun z => nomatch z), fun i c d e q => w.own i c d (hd i c d e q) q, fun i c a e q z => w.pr i c a (back i c e fun y => by subst y; cases q) q z, fun i a p d e => ?_, fun i p d e => w.lk i p d (back i _ e fun z => nomatch z), fun i j c c' d d' a ne e1 e2 q1 q2 z1 z2 => w.ap i j c c' d d' a ne (hd i c d e1 q1) (hd j c' d' e2 q2) q1 q2 z1 z2⟩
  obtain ⟨q1, q2⟩ := w.wl i a p d e
  refine ⟨?_, q2⟩
  have : i ∉ vs := fun hi => by have := allVal_at h hi q1; cases this
  rw [wipeR_out this]; exact q1
/-- a list being gathered, kept with what others own -/
def Fm.add (O : Fm) (a : Addr) (u : HO) : Fm := { O with o := upd O.o a u }
theorem Wd.addO (w : Wd K F O ρ σ H) {a : Addr} {u : HO} (hn : H a = none) : Wd K F (O.add a u) ρ σ (upd H a u) := by
  have w' := w.lose (o := u) hn
  have fa : F a = none := w.f.none hn
  refine ⟨w'.len, w'.f, fun b x e => ?_, fun b x e => ?_, w'.val, fun i c d e q => ?_, w'.pr, w'.wl, w'.lk, w'.ap⟩
  · by_cases z : b = a
    · subst z
      rw [show (O.add b u).o b = some u from upd_same] at e; cases e
      exact upd_same
    · rw [show (O.add a u).o b = O.o b from upd_ne z] at e
      exact w'.o b x e
  · by_cases z : b = a
    · subst z; exact fa
    · rw [show (O.add a u).o b = O.o b from upd_ne z] at e
      exact w.fo b x e
  · obtain ⟨b, q1, q2, q3, q4⟩ := w.own i c d e q
    obtain ⟨ob, hb⟩ := q4.some
    have ne : b ≠ a := ne_of_none hb hn
    exact ⟨b, q1, q2, by rw [show (O.add a u).o b = O.o b from upd_ne ne]; exact q3, q4.mono (Sub.refl _) (upd_ne ne)⟩
theorem Wd.modO (w : Wd K F (O.add a u) ρ σ H) {u' : HO} : Wd K F (O.add a u') ρ σ (upd H a u') := by
  have ha : (O.add a u).o a = some u := upd_same
  have fa : F a = none := w.fo a u ha
  refine ⟨w.len, fun b x e => ?_, fun b x e => ?_, fun b x e => ?_, w.val, fun i c d e q => ?_, w.pr, w.wl, w.lk, w.ap⟩
  · have ne : b ≠ a := fun z => by subst z; rw [fa] at e; cases e
    rw [upd_ne ne]; exact w.f b x e
  · by_cases z : b = a
    · subst z
      rw [show (O.add b u').o b = some u' from upd_same] at e; cases e
      exact upd_same
    · rw [show (O.add a u').o b = O.o b from upd_ne z] at e
      rw [upd_ne z]
      exact w.o b x (by rw [show (O.add a u).o b = O.o b from upd_ne z]; exact e)
  · by_cases z : b = a
    · subst z; exact fa
    · rw [show (O.add a u').o b = O.o b from upd_ne z] at e
      exact w.fo b x (by rw [show (O.add a u).o b = O.o b from upd_ne z]; exact e)
  · obtain ⟨b, q1, q2, q3, q4⟩ := w.own i c d e q
    have ne : b ≠ a := fun z => by subst z; rw [ha] at q3; cases q3
    rw [show (O.add a u).o b = O.o b from upd_ne ne] at q3
    exact ⟨b, q1, q2, by rw [show (O.add a u').o b = O.o b from upd_ne ne]; exact q3, q4.mono (Sub.refl _) (upd_ne ne)⟩
theorem Wd.unO (w : Wd K F (O.add a u) ρ σ H) (hn : O.o a = none) : Wd K F O ρ σ H := by
  have up : ∀ {b x}, O.o b = some x → (O.add a u).o b = some x := fun {b x} e => by
    have ne : b ≠ a := ne_of_none e hn
    rw [show (O.add a u).o b = O.o b from upd_ne ne]; exact e
  refine ⟨w.len, w.f, fun b x e => w.o b x (up e), fun b x e => w.fo b x (up e), w.val, fun i c d e q => ?_, w.pr, w.wl, w.lk, w.ap⟩
  obtain ⟨b, q1, q2, q3, q4⟩ := w.own i c d e q
  refine ⟨b, q1, q2, ?_, q4⟩
  cases z : O.o b with
  | none => rfl
  | some x => rw [up z] at q3; cases q3
theorem backR_len : ∀ (vs : List Nat) (ρ' : Rho), (backR ρ vs ρ').length = ρ'.length
  | [], _ => rfl
  | i :: r, ρ' => by unfold backR; split <;> simp [backR_len r ρ']
theorem backR_get : ∀ {vs : List Nat} {ρ' : Rho} {i : Nat} {c : Cell}, (backR ρ vs ρ')[i]? = some c → (i ∈ vs ∧ ρ[i]? = some c) ∨ (ρ'[i]? = some c ∧ (i ∈ vs → ρ[i]? = none))
  | [], ρ', i, c, e => .inr ⟨e, by simp⟩
  | j :: r, ρ', i, c, e => by
    unfold backR at e
    split at e
    · rename_i c0 h0
      rcases get_set e with ⟨rfl, rfl⟩ | ⟨ne, e⟩
      · exact .inl ⟨List.mem_cons_self, h0⟩
      · rcases backR_get e with ⟨a, b⟩ | ⟨a, b⟩
        · exact .inl ⟨List.mem_cons_of_mem _ a, b⟩
        · exact .inr ⟨a, fun h => by rcases List.mem_cons.mp h with z | z; exact absurd z ne; exact b z⟩
    · rename_i h0
      rcases backR_get e with ⟨a, b⟩ | ⟨a, b⟩
      · exact .inl ⟨List.mem_cons_of_mem _ a, b⟩
      · exact .inr ⟨a, fun h => by rcases List.mem_cons.mp h with z | z; exact z ▸ h0; exact b z⟩
/-- what was hidden is seen again -/
theorem Wd.restore {F' : Hp} {ρ' : Rho} {H' : Hp} (w : Wd K F' O ρ' σ H') (h : allVal ρ vs = true) (hv : ∀ (i : Nat) (d : D), ρ[i]? = some (Cell.val d) → ∃ v, σ[i]? = some (some v) ∧ Rp K F' v d) (hn : allNo ρ' vs = true) : Wd K F' O (backR ρ vs ρ') σ H' := by
  have hd : ∀ {i : Nat} {c : Cell} {d : D}, (backR ρ vs ρ')[i]? = some c → c.held = some d → ρ'[i]? = some c := fun {i c d} e q => by
    rcases backR_get e with ⟨a, b⟩ | ⟨a, _⟩
    · have := allVal_at h a b; rw [this] at q; cases q
    · exact a
  refine ⟨(backR_len vs ρ').trans w.len, w.f, w.o, w.fo, fun i d e => ?_, fun i c d e q => w.own i c d (hd e q) q, fun i c a e q z => ?_, fun i a p d e => ?_, fun i p d e => w.lk i p d (hd e rfl), fun i j c c' d d' a ne e1 e2 q1 q2 z1 z2 => w.ap i j c c' d d' a ne (hd e1 q1) (hd e2 q2) q1 q2 z1 z2⟩
  · rcases backR_get e with ⟨_, b⟩ | ⟨a, _⟩
    · exact hv i d b
    · exact w.val i d a
  · have : ∃ d, c.held = some d := by cases c <;> first | exact ⟨_, rfl⟩ | cases q
    obtain ⟨d, hh⟩ := this
    exact w.pr i c a (hd e hh) q z
  · obtain ⟨q1, q2⟩ := w.wl i a p d e
    refine ⟨?_, q2⟩
    have ni : i ∉ vs := fun hi => by have := allNo_at hn hi q1; cases this
    have : ∀ (vs : List Nat), i ∉ vs → (backR ρ vs ρ')[i]? = ρ'[i]? := fun vs => by
      induction vs with
      | nil => intro _; rfl
      | cons j r ih =>
        intro n
        unfold backR
        split
        · rw [List.getElem?_set_ne (fun z => n (by rw [z]; exact List.mem_cons_self))]
          exact ih fun z => n (List.mem_cons_of_mem _ z)
        · exact ih fun z => n (List.mem_cons_of_mem _ z)
    rw [this vs ni]; exact q1
/-- what was gathered is fresh -/
theorem Wd.gathered {avs : List V} {acc : List D} (w : Wd K F (O.add a (.lst avs)) ρ σ H) (hn : O.o a = none) (r : RpL K F avs acc) : FreshAt K F O ρ σ H a (.list acc) := by
  have ha : (O.add a (.lst avs)).o a = some (.lst avs) := upd_same
  refine ⟨w.fo a _ ha, hn, ⟨avs, w.o a _ ha, r⟩, fun i c e q z h => ?_⟩
  obtain ⟨b, q1, q2, q3, q4⟩ := w.own i c e q z
  rw [h] at q1; cases q1
  rw [ha] at q3; cases q3
end
theorem wipe_only {σ σ' : L2.St} {js vs : List Nat} (o : OnlyAt js (wipe σ vs) σ') (h : ∀ j ∈ js, j ∈ vs) : wipe σ' vs = wipe σ vs := by
  have idem : ∀ (τ : L2.St) (vs : List Nat) (i : Nat), i ∈ vs → i < τ.length → (wipe τ vs)[i]? = some none := fun τ vs i hi hl => by
    induction vs with
    | nil => simp at hi
    | cons v vs ih =>
      unfold wipe
      by_cases e : v = i
      · subst e; rw [List.getElem?_set_self (by rw [wipe_length]; exact hl)]
      · rw [List.getElem?_set_ne e]
        exact ih (by rcases List.mem_cons.mp hi with z | z; exact absurd z.symm e; exact z)
  have hl : σ'.length = σ.length := o.1.trans (wipe_length σ vs)
  refine List.ext_getElem? fun i => ?_
  by_cases hi : i ∈ vs
  · by_cases hlt : i < σ.length
    · rw [idem σ' vs i hi (hl ▸ hlt), idem σ vs i hi hlt]
    · rw [List.getElem?_eq_none (by rw [wipe_length, hl]; omega), List.getElem?_eq_none (by rw [wipe_length]; omega)]
  · rw [wipe_out hi]
    exact o.2 i fun z => hi (h i z)
theorem okB_fin {G : Gx} {α β : Type} {P : Hp → Rs β → Prop} {O : Fm} {σ : L2.St} (T : Tgt G O σ P) {F : Hp} {r : Rs α} {k : α → Rho → Rs β} (h : P F (okB r k)) : ∃ a ρ, r = .ok a ρ ∧ P F (k a ρ) := by
  cases r with
  | ok a ρ => exact ⟨a, ρ, rfl, h⟩
  | err x ρ => exact (T.bad h).elim
  | bad => exact (T.bad h).elim
section
variable {X : Cx} {G : Gx} {tg iter elt : Expr} {ifs : List Expr} {js : List Nat} {si : Rho → Rs (List D)} {st : D → Rho → Rs Fl} {tt : Rho → Rs Bool} {te : Rho → Rs Vl} {vs : List Nat}
def endLc (ρ0 : Rho) (vs : List Nat) (r : Rs (List D)) : Rs Vf := okB r fun ys ρ => .ok (.fr (.list ys)) (backR ρ0 vs ρ)
theorem lc_t (hj : ∀ j ∈ js, j ∈ vs) {σ : L2.St} {H : Hp} {Q : VK} (h : tF G (sLc si st tt te vs) σ H Q) : tLc (tI G si) (gT G.q js st) (tT G.q tt) (tE G.q te) vs σ H Q := by
  obtain ⟨ρ, F, O, w, h⟩ := h
  refine tI_bind Tgt.finF w h fun ds ρ1 J H1 F1 w1 s1 feed h1 Dl hD => ?_
  have oD : O.o Dl = none := w1.o.none hD
  split at h1
  · rename_i an
    refine ⟨fun i m H => m = ds.length - i ∧ i ≤ ds.length ∧ ∃ ρ F acc avs, Wd G.K F (O.add Dl (.lst avs)) ρ (wipe σ vs) H ∧ Sub F1 F ∧ RpL G.K F avs acc ∧ allNo ρ vs = true ∧ FinF G F O σ Q (endLc ρ1 vs (sGather st tt te vs (ds.drop i) acc ρ)),
      ⟨ds.length, by simp, Nat.zero_le _, wipeR ρ1 vs, F1, [], [], ((w1.empty an).wiped wipeR_no).addO hD, Sub.refl _, .nil, wipeR_no, h1⟩, ?_⟩
    rintro i m H2 ⟨rfl, hi, ρ2, F2, acc, avs, w2, s2, r2, an2, h2⟩
    obtain ⟨go, stop⟩ := feed w2 s2 i
    by_cases hlt : i < ds.length
    · have e : ds[i]? = some ds[i] := by simp
      obtain ⟨g1, g2⟩ := go _ e
      rw [drop_at e] at h2
      -- the pure turn
      unfold endLc sGather at h2
      cases e3 : st ds[i] ρ2 with
      | err x ρ => rw [e3] at h2; exact h2.elim
      | bad => rw [e3] at h2; exact h2.elim
      | ok f ρ3 =>
        rw [e3] at h2
        cases f with
        | nx =>
          refine .inr ⟨g1, fun H' => ∃ ρ F acc avs, Wd G.K F (O.add Dl (.lst avs)) ρ (wipe σ vs) H' ∧ Sub F1 F ∧ RpL G.K F avs acc ∧ allNo ρ vs = true ∧ FinF G F O σ Q (endLc ρ1 vs (sGather st tt te vs (ds.drop (i + 1)) acc ρ)), fun H' q => ⟨_, by omega, rfl, hlt, q⟩, fun x H' y => ?_⟩
          obtain ⟨F', w', s', r', _⟩ := g2 x H' y
          refine ⟨ρ2, F', _, _, ρ3, w', r', e3, fun σ' w3 o3 => ⟨wipe_only o3 hj, ρ3, F', _, w3, ?_⟩⟩
          have h3 := Tgt.finF.mono s' h2
          have h3 : FinF G F' O σ Q (okB (okB (tt ρ3) _) _) := h3
          have wsig : wipe σ' vs = wipe σ vs := wipe_only o3 hj
          cases et : tt ρ3 with
          | err x ρ => rw [et] at h3; exact h3.elim
          | bad => rw [et] at h3; exact h3.elim
          | ok k ρ4 =>
            rw [et] at h3
            intro b H4 F4 w4 s4 eb
            have eb : b = k := eb
            subst eb
            have h4 := Tgt.finF.mono s4 h3
            cases b with
            | false =>
              rw [if_neg (by decide)]
              have h4 : FinF G F4 O σ Q (endLc ρ1 vs (if allVal ρ4 vs then sGather st tt te vs (ds.drop (i + 1)) acc (wipeR ρ4 vs) else .bad)) := h4
              split at h4
              · rename_i av
                have := (w4.empty av).wiped wipeR_no
                rw [wsig] at this
                exact ⟨_, F4, acc, avs, this, (s2.trans s').trans s4, (r2.mono s').mono s4, wipeR_no, h4⟩
              · exact h4.elim
            | true =>
              rw [if_pos rfl]
              have h4 : FinF G F4 O σ Q (endLc ρ1 vs (okB (te ρ4) fun x ρ => okB (frz x ρ) fun y ρ => if allVal ρ vs && decide (acc.length < sizeLine) then sGather st tt te vs (ds.drop (i + 1)) (acc ++ [y]) (wipeR ρ vs) else .bad)) := h4
              refine ⟨ρ4, F4, _, w4, ?_⟩
              cases ee : te ρ4 with
              | err x ρ => rw [ee] at h4; exact h4.elim
              | bad => rw [ee] at h4; exact h4.elim
              | ok x ρ5 =>
                rw [ee] at h4
                intro v H5 F5 w5 s5 r5
                cases ef : frz x ρ5 with
                | err y ρ => exact absurd ef frz_noerr
                | bad =>
                  have h4 : FinF G F4 O σ Q (endLc ρ1 vs (okB (frz x ρ5) fun y ρ => if allVal ρ vs && decide (acc.length < sizeLine) then sGather st tt te vs (ds.drop (i + 1)) (acc ++ [y]) (wipeR ρ vs) else .bad)) := h4
                  rw [ef] at h4; exact h4.elim
                | ok y ρ6 =>
                  have h4 : FinF G F4 O σ Q (endLc ρ1 vs (okB (frz x ρ5) fun y ρ => if allVal ρ vs && decide (acc.length < sizeLine) then sGather st tt te vs (ds.drop (i + 1)) (acc ++ [y]) (wipeR ρ vs) else .bad)) := h4
                  rw [ef] at h4
                  obtain ⟨F6, w6, s6, r6⟩ := frz_ok w5 r5 ef
                  have h6 : FinF G F6 O σ Q (endLc ρ1 vs (if allVal ρ6 vs && decide (acc.length < sizeLine) then sGather st tt te vs (ds.drop (i + 1)) (acc ++ [y]) (wipeR ρ6 vs) else .bad)) := Tgt.finF.mono (s5.trans s6) h4
                  split at h6
                  · rename_i av
                    rw [Bool.and_eq_true, decide_eq_true_eq] at av
                    have ss : Sub F2 F6 := ((s'.trans s4).trans s5).trans s6
                    refine ⟨avs, w6.o Dl _ upd_same, by rw [r2.length]; exact av.2, _, F6, acc ++ [y], avs ++ [v], ?_, s2.trans ss, (r2.mono ss).app (.cons r6 .nil), wipeR_no, h6⟩
                    have := ((w6.modO (u' := .lst (avs ++ [v]))).empty av.1).wiped wipeR_no
                    rwa [wsig] at this
                  · exact h6.elim
        | _ => exact h2.elim
    · have e : i = ds.length := by omega
      subst e
      rw [List.drop_length] at h2
      refine .inl ⟨stop rfl, h2 Dl H2 F2 (((w2.unO oD).unwiped an2).restore an (fun i d e => let ⟨v, q1, q2⟩ := w1.val i d e; ⟨v, q1, q2.mono s2⟩) an2) (Sub.refl _) ?_⟩
      have g := w2.gathered oD r2
      refine ⟨g.f, g.o, g.at_, fun i c e q z h => ?_⟩
      rcases backR_get q with ⟨a, b⟩ | ⟨a, _⟩
      · have := allVal_at an a b; rw [this] at z; cases z
      have hi : i ∉ vs := fun hi => by have := allNo_at an2 hi a; subst this; cases z
      exact g.ap i c e a z (by rw [wipe_out hi]; exact h)
  · exact h1.elim
end
end L3
/-! L3, part 16: comprehensions as values and at an assignment, own lists changed, assignments. -/
namespace L3
open PySem PySem.Spec PyProof.Rows L2

section
variable {X : Cx} {G : Gx} {tg iter elt : Expr} {ifs : List Expr} {js : List Nat} {si : Rho → Rs (List D)} {st : D → Rho → Rs Fl} {tt : Rho → Rs Bool} {te : Rho → Rs Vl} {sf : Rho → Rs Vf} {scope : Scope} {own : List (Str × Nat)} {pos spos : Pos}
/-- what a comprehension's parts mean, in every block of its form -/
structure LcOk (X : Cx) (G : Gx) (tg elt : Expr) (ifs : List Expr) (scope : Scope) (js : List Nat) (st : D → Rho → Rs Fl) (tt : Rho → Rs Bool) (te : Rho → Rs Vl) : Prop where
  g : ∀ (s : Shared) (H : Hp) (C : Addr) (cl : List (Str × Addr)) (fp : List Addr), DG (X.blk s H scope (compEnvC scope cl C X.env) fp) G.q tg js st
  t : ∀ (s : Shared) (H : Hp) (C : Addr) (cl : List (Str × Addr)) (fp : List Addr), PTs (X.blk s H scope (compEnvC scope cl C X.env) fp) ifs (tT G.q tt)
  e : ∀ (s : Shared) (H : Hp) (C : Addr) (cl : List (Str × Addr)) (fp : List Addr), PE (X.blk s H scope (compEnvC scope cl C X.env) fp) elt (tE G.q te)
theorem LcOk.by {js : List Nat} (h : ∀ (s : Shared) (H : Hp) (C : Addr) (cl : List (Str × Addr)) (fp : List Addr), DG (X.blk s H scope (compEnvC scope cl C X.env) fp) G.q tg js st ∧ PTs (X.blk s H scope (compEnvC scope cl C X.env) fp) ifs (tT G.q tt) ∧ PE (X.blk s H scope (compEnvC scope cl C X.env) fp) elt (tE G.q te)) : LcOk X G tg elt ifs scope js st tt te :=
  ⟨fun s H C cl fp => (h s H C cl fp).1, fun s H C cl fp => (h s H C cl fp).2.1, fun s H C cl fp => (h s H C cl fp).2.2⟩
theorem dts_nil : PTs X [] (tT G sYes) := by
  refine ⟨fun pins s σ H Q I h => pts_nil.run pins s σ H Q I ?_⟩
  obtain ⟨ρ, F, O, w, h⟩ := h
  exact h true H F w (Sub.refl _) rfl
theorem dts_one {c : Expr} {sc : Rho → Rs Vl} (h : DE X G c sc) : PTs X [c] (tT G (asB sc)) := pts_one h.pt
theorem df_lc (hc : X.calm = true) (hN : X.N.Nodup) (hi : DI X G tg iter si) (ok : BlkOk X.N X.env.scope scope own) (h : LcOk X G tg elt ifs scope js st tt te) (hj : ∀ j ∈ js, j ∈ own.map (·.2)) (hs : ∀ x, foldedSetIterable iter X.env x = pure x) :
    DF X G (.ListComp elt [⟨tg, iter, ifs, 0⟩] scope pos) (sLc si st tt te (own.map (·.2))) :=
  ⟨PE.imp (pe_lc hc hN hi ok h.g h.t h.e hs) fun _ _ _ q => lc_t hj q, fun _ => rfl⟩
theorem asg_t {i : Nat} {N : Ends} {σ : L2.St} {H : Hp} (h : tS G (sAsg i sf) N σ H) : tAsg (tF G sf) (gName i) N σ H := by
  obtain ⟨ρ, F, O, w, h⟩ := h
  exact ⟨ρ, F, O, w, asg_step w h⟩
theorem ds_setLc {i : Nat} {y : Str} {py : Pos} (hc : X.calm = true) (hN : X.N.Nodup) (hy : X.N[i]? = some y) (hyl : X.env.scope.names.lookup y = some .local) (hsw : swapsWith (.ListComp elt [⟨tg, iter, ifs, 0⟩] scope pos) (some (.Name y py)) spos.line X.env = pure true)
    (hi : DI X G tg iter si) (ok : BlkOk X.N X.env.scope scope own) (h : LcOk X G tg elt ifs scope js st tt te) (hj : ∀ j ∈ js, j ∈ own.map (·.2)) (hs : ∀ x, foldedSetIterable iter X.env x = pure x) :
    PS X (.Assign [.Name y py] (.ListComp elt [⟨tg, iter, ifs, 0⟩] scope pos) spos) (tS G (sAsg i (sLc si st tt te (own.map (·.2))))) := by
  refine PS.imp (ps_setLc hc hN hy hyl hsw hi ok h.g h.t h.e hs) fun N σ H q => ?_
  exact lc_t hj (asg_t q)
end

/-! ### an own container changed -/
section
variable {K : PySem.W.Frag} {F : Hp} {O : Fm} {ρ : Rho} {σ : L2.St} {H : Hp}
theorem Wd.write (w : Wd K F O ρ σ H) {i : Nat} {p : Bool} {d d' : D} {a : Addr} {u : HO} (e : ρ[i]? = some (Cell.own p d)) (ha : σ[i]? = some (some (.ref a))) (n : OwnAt K F (upd H a u) a d') : Wd K F O (ρ.set i (.own p d')) σ (upd H a u) := by
  obtain ⟨b, q1, q2, q3, q4⟩ := w.own i _ d e rfl
  rw [ha] at q1; cases q1
  have back : ∀ {j : Nat} {c : Cell} {y : D}, (ρ.set i (.own p d'))[j]? = some c → c.held = some y → j = i ∨ (j ≠ i ∧ ρ[j]? = some c) := fun {j c y} hj hc => by
    rcases get_set hj with ⟨rfl, _⟩ | ⟨ne, hj⟩
    · exact .inl rfl
    · exact .inr ⟨ne, hj⟩
  refine ⟨by rw [List.length_set]; exact w.len, fun b x hb => ?_, fun b x hb => ?_, w.fo, fun j y hj => ?_, fun j c y hj hc => ?_, fun j c b hj hp hb => ?_, fun j b q y hy => ?_, fun j q y hj => ?_, fun j k c1 c2 d1 d2 b ne e1 e2 y1 y2 z1 z2 => ?_⟩
  · rw [upd_ne (ne_of_none hb q2)]; exact w.f b x hb
  · rw [upd_ne (ne_of_none hb q3)]; exact w.o b x hb
  · rcases get_set hj with ⟨rfl, z⟩ | ⟨_, hj⟩
    · cases z
    · exact w.val j y hj
  · rcases get_set hj with ⟨rfl, z⟩ | ⟨ne, hj⟩
    · subst z; cases hc; exact ⟨_, ha, q2, q3, n⟩
    · obtain ⟨b, r1, r2, r3, r4⟩ := w.own j c y hj hc
      refine ⟨b, r1, r2, r3, r4.mono (Sub.refl _) (upd_ne fun z => ?_)⟩
      subst z
      exact w.ap i j _ c d y _ (Ne.symm ne) e hj rfl hc ha r1
  · rcases get_set hj with ⟨rfl, z⟩ | ⟨_, hj⟩
    · subst z; exact w.pr j _ b e hp hb
    · exact w.pr j c b hj hp hb
  · obtain ⟨r1, r2⟩ := w.wl j b q y hy
    have ne : i ≠ j := fun z => by subst z; rw [e] at r1; cases r1
    exact ⟨by rw [List.getElem?_set_ne ne]; exact r1, r2⟩
  · rcases get_set hj with ⟨rfl, z⟩ | ⟨_, hj⟩
    · cases z
    · exact w.lk j q y hj
  · have f : ∀ {j : Nat} {c : Cell} {y : D}, (ρ.set i (.own p d'))[j]? = some c → c.held = some y → ∃ c' y', ρ[j]? = some c' ∧ c'.held = some y' := fun {j c y} hj hc => by
      rcases back hj hc with rfl | ⟨_, hj⟩
      · exact ⟨_, _, e, rfl⟩
      · exact ⟨_, _, hj, hc⟩
    obtain ⟨c1', d1', a1, a2⟩ := f e1 y1
    obtain ⟨c2', d2', a3, a4⟩ := f e2 y2
    exact w.ap j k c1' c2' d1' d2' b ne a1 a3 a2 a4 z1 z2
theorem Wd.ownL (w : Wd K F O ρ σ H) {i : Nat} {p : Bool} {ds : List D} (e : ρ[i]? = some (Cell.own p (.list ds))) : ∃ a vs, σ[i]? = some (some (.ref a)) ∧ H a = some (.lst vs) ∧ RpL K F vs ds := by
  obtain ⟨a, h1, _, _, vs, h2, h3⟩ := w.own i _ _ e rfl
  exact ⟨a, vs, h1, h2, h3⟩
end
def ownList (ρ : Rho) (i : Nat) : Option (Bool × List D) :=
  match ρ[i]? with
  | some (Cell.own p (.list ds)) => some (p, ds)
  | _ => none
theorem ownList_iff {ρ : Rho} {i : Nat} {p : Bool} {ds : List D} (h : ownList ρ i = some (p, ds)) : ρ[i]? = some (Cell.own p (.list ds)) := by
  unfold ownList at h
  split at h
  · cases h; assumption
  · cases h
/-- xs.append(..) and so on, xs a list of slot i's own -/
def sMut (i : Nat) (f : List D → List D → Option (List D × D)) (a : Rho → Rs (List Vl)) : Rho → Rs Vl := fun ρ =>
  if (ownList ρ i).isSome then (a ρ).bind fun xs ρ => (frzs xs ρ).bind fun ds ρ => mutNow ρ i (f · ds) else .bad
where
  mutNow (ρ : Rho) (i : Nat) (f : List D → Option (List D × D)) : Rs Vl :=
    match ownList ρ i with
    | some (p, ys) => match f ys with
      | some (zs, z) => .ok (.d z) (ρ.set i (.own p (.list zs)))
      | none => .bad
    | none => .bad
def MutOk (K : PySem.W.Frag) (r : V → List V → Hp → VK → Prop) (f : List D → List D → Option (List D × D)) : Prop :=
  ∀ {F H : Hp} {a : Addr} {vs us : List V} {ys ds zs : List D} {z : D} {Q : VK}, Sub F H → H a = some (.lst vs) → RpL K F vs ys → RpL K F us ds → f ys ds = some (zs, z) → (∀ ws v, RpL K F ws zs → Rp K F v z → Q v (upd H a (.lst ws))) → r (.ref a) us H Q
section
variable {X : Cx} {G : Gx} {i : Nat} {f : List D → List D → Option (List D × D)} {ss : Rho → Rs (List Vl)} {r : V → List V → Hp → VK → Prop}
theorem mut_now {F H : Hp} {O : Fm} {ρ : Rho} {σ : L2.St} {Q : VK} {g : List D → Option (List D × D)} (w : Wd G.K F O ρ σ H) (h : Fin G RV F O σ Q (sMut.mutNow ρ i g)) :
    ∃ p ys zs z a vs, ρ[i]? = some (Cell.own p (.list ys)) ∧ g ys = some (zs, z) ∧ σ[i]? = some (some (.ref a)) ∧ H a = some (.lst vs) ∧ RpL G.K F vs ys ∧ ∀ ws v, RpL G.K F ws zs → Rp G.K F v z → Q v (upd H a (.lst ws)) := by
  unfold sMut.mutNow at h
  cases e : ownList ρ i with
  | none => rw [e] at h; exact h.elim
  | some q =>
    obtain ⟨p, ys⟩ := q
    rw [e] at h
    dsimp only at h
    have e' := ownList_iff e
    cases eg : g ys with
    | none => rw [eg] at h; exact h.elim
    | some q =>
      obtain ⟨zs, z⟩ := q
      rw [eg] at h
      obtain ⟨a, vs, h1, h2, h3⟩ := w.ownL e'
      exact ⟨p, ys, zs, z, a, vs, e', eg, h1, h2, h3, fun ws v r1 r2 => h v _ F (w.write e' h1 ⟨ws, upd_same, r1⟩) (Sub.refl _) r2⟩
theorem sMut_t (hK : X.K = G.K) (ok : MutOk G.K r f) {σ : L2.St} {H : Hp} {Q : VK} (h : tE G (sMut i f ss) σ H Q) : tBM X.K "list" r (tVar i) (tA G ss) σ H Q := by
  obtain ⟨ρ, F, O, w, h⟩ := h
  unfold sMut at h
  split at h
  · rename_i hi
    obtain ⟨q, hq⟩ := Option.isSome_iff_exists.mp hi
    obtain ⟨p, ds0⟩ := q
    obtain ⟨a, vs0, h1, h2, h3⟩ := w.ownL (ownList_iff hq)
    refine ⟨.ref a, h1, .inl ⟨rfl, vs0, SqL.of h2⟩, ?_⟩
    refine Tgt.fin.bind w h fun xs ρ1 us H1 F1 w1 s1 rs k1 => ?_
    obtain ⟨ds, ρ2, F2, w2, s2, r2, k2⟩ := Tgt.fin.frzs w1 rs k1
    obtain ⟨p, ys, zs, z, b, vs, e1, e2, e3, e4, e5, e6⟩ := mut_now w2 k2
    rw [h1] at e3; cases e3
    exact ok w2.f e4 e5 r2 e2 e6
  · exact h.elim
theorem sMut0_t (hK : X.K = G.K) (ok : MutOk G.K r f) {σ : L2.St} {H : Hp} {Q : VK} (h : tE G (sMut i f sNil) σ H Q) : tBM0 X.K "list" r (tVar i) σ H Q := by
  obtain ⟨ρ, F, O, w, h⟩ := h
  unfold sMut at h
  split at h
  · rename_i hi
    obtain ⟨q, hq⟩ := Option.isSome_iff_exists.mp hi
    obtain ⟨p, ds0⟩ := q
    obtain ⟨a, vs0, h1, h2, h3⟩ := w.ownL (ownList_iff hq)
    refine ⟨.ref a, h1, .inl ⟨rfl, vs0, SqL.of h2⟩, ?_⟩
    obtain ⟨p, ys, zs, z, b, vs, e1, e2, e3, e4, e5, e6⟩ := mut_now w h
    rw [h1] at e3; cases e3
    exact ok w.f e4 e5 .nil e2 e6
  · exact h.elim
/-! the methods -/
def appF : List D → List D → Option (List D × D)
  | ys, [d] => if decide (ys.length < sizeLine) then some (ys ++ [d], .none) else none
  | _, _ => none
def extF : List D → List D → Option (List D × D)
  | ys, [.list zs] => if szOk (ys.length + zs.length) then some (ys ++ zs, .none) else none
  | _, _ => none
def popF : List D → List D → Option (List D × D)
  | ys, [] => (ys[ys.length - 1]?).map fun z => (ys.dropLast, z)
  | _, _ => none
def popAtF : List D → List D → Option (List D × D)
  | ys, [.int i] => if decide (-(2 ^ 63) ≤ i) && decide (i < 2 ^ 63) then (ixN ys.length i).bind fun k => (ys[k]?).map fun z => (ys.eraseIdx k, z) else none
  | _, _ => none
def revF : List D → List D → Option (List D × D)
  | ys, [] => some (ys.reverse, .none)
  | _, _ => none
theorem RpL.dropLast {K : PySem.W.Frag} {F : Hp} {vs : List V} {ds : List D} (r : RpL K F vs ds) : RpL K F vs.dropLast ds.dropLast := by
  rw [List.dropLast_eq_take, List.dropLast_eq_take, r.length]
  exact r.take _
theorem RpL.erase {K : PySem.W.Frag} {F : Hp} : ∀ {vs : List V} {ds : List D} (i : Nat), RpL K F vs ds → RpL K F (vs.eraseIdx i) (ds.eraseIdx i)
  | _, _, _, .nil => .nil
  | _, _, 0, .cons _ t => t
  | _, _, i + 1, .cons r t => .cons r (RpL.erase i t)
theorem RpL.reverse {K : PySem.W.Frag} {F : Hp} : ∀ {vs : List V} {ds : List D}, RpL K F vs ds → RpL K F vs.reverse ds.reverse
  | _, _, .nil => .nil
  | _, _, .cons r t => by
    rw [List.reverse_cons, List.reverse_cons]
    exact (RpL.reverse t).app (.cons r .nil)
theorem mut_app : MutOk G.K rAppend appF := by
  intro F H a vs us ys ds zs z Q s ha r1 r2 e k
  match ds, r2, e with
  | [d], .cons r2 .nil, e =>
    obtain ⟨h1, h2⟩ := ifs e
    cases h2
    exact ⟨a, vs, _, rfl, rfl, ha, by rw [r1.length]; exact of_decide_eq_true h1, k _ _ (r1.app (.cons r2 .nil)) .non⟩
theorem mut_ext : MutOk G.K rExtend extF := by
  intro F H a vs us ys ds zs z Q s ha r1 r2 e k
  match ds, r2, e with
  | [.list ws], .cons (.lst q r2) .nil, e =>
    obtain ⟨h1, h2⟩ := ifs e
    cases h2
    exact ⟨a, _, vs, _, rfl, rfl, ha, s.eq q, by rw [r1.length, r2.length]; exact szOk_iff.mp h1, k _ _ (r1.app r2) .non⟩
theorem mut_pop : MutOk G.K rPop popF := by
  intro F H a vs us ys ds zs z Q s ha r1 r2 e k
  match ds, r2, e with
  | [], .nil, e =>
    obtain ⟨y, e1, e2⟩ := Option.map_eq_some_iff.mp (show (ys[ys.length - 1]?).map (fun z => (ys.dropLast, z)) = some (zs, z) from e)
    cases e2
    obtain ⟨v, h1, h2⟩ := r1.get e1
    exact ⟨a, vs, v, rfl, rfl, ha, by rw [r1.length]; exact h1, k _ _ r1.dropLast h2⟩
theorem mut_popAt : MutOk G.K rPopAt popAtF := by
  intro F H a vs us ys ds zs z Q s ha r1 r2 e k
  match ds, r2, e with
  | [.int i], .cons (.int _) .nil, e =>
    have e : (if (decide (-(2 ^ 63) ≤ i) && decide (i < 2 ^ 63)) = true then (ixN ys.length i).bind fun k => (ys[k]?).map fun z => (ys.eraseIdx k, z) else none) = some (zs, z) := e
    split at e
    · rename_i hb
      rw [Bool.and_eq_true, decide_eq_true_eq, decide_eq_true_eq] at hb
      obtain ⟨j, e1, e2⟩ := Option.bind_eq_some_iff.mp e
      obtain ⟨y, e3, e4⟩ := Option.map_eq_some_iff.mp e2
      cases e4
      obtain ⟨v, h1, h2⟩ := r1.get e3
      refine ⟨a, vs, i, j, v, rfl, rfl, ha, hb.1, hb.2, ?_, h1, k _ _ (r1.erase _) h2⟩
      rw [r1.length]
      exact (ixN_seq e1).1
    · cases e
theorem mut_rev : MutOk G.K rReverse revF := by
  intro F H a vs us ys ds zs z Q s ha r1 r2 e k
  match ds, r2, e with
  | [], .nil, e =>
    cases e
    exact ⟨a, vs, rfl, rfl, ha, k _ _ r1.reverse .non⟩
section
variable {e : Expr} {es : List Expr} {x : Str} {p apos cpos : Pos}
/-- what a method's rule asks of its place in the text -/
structure MtdOk (X : Cx) (o : Expr) (name : Str) (es : List Expr) (apos cpos : Pos) : Prop where
  base : attributeBase o name X.env (eval o X.env) = eval o X.env
  few : ((backTo cpos (starEach es X.env)).all (fun x => !x.1) && (backToKw cpos (keywordEach [] X.env)).all (fun x => x.1.isSome) && decide (es.length + ([] : List Keyword).length + (if ([] : List Keyword).isEmpty then 0 else 1) < 30)) = true
  line : (apos.endLine == cpos.line) = true
theorem de_mut {name : Str} {id : String} (slot : Slot "list" name id) (hty : typeOf (.builtin id) = pure (.type "method_descriptor")) (hm : MtR X id r) (ok : MutOk G.K r f) (hK : X.K = G.K) (hN : X.N[i]? = some x) (hv : Vis X.env.scope x) (hd : (x == ("__debug__" : Str)) = false) (hcd : (x == ("__classdict__" : Str)) = false)
    (ha : PA X (e :: es) (tA G ss)) (hp : plainArgs (e :: es) = true) (ho : MtdOk X (.Name x p) name (e :: es) apos cpos) : DE X G (.Call (.Attribute (.Name x p) name apos) (e :: es) [] cpos) (sMut i f ss) := by
  have h' : notStar e = true ∧ plainArgs es = true := by simpa [plainArgs] using hp
  exact .val (PE.imp (pe_bm PySem.F.plainAttrs_list slot hty hm (pe_var hN hv hd hcd) ha ho.base ho.few ho.line (star_plain h'.1 _) (any_plain h'.2 _ _)) fun _ _ _ q => sMut_t hK ok q) fun _ => rfl
theorem de_mut0 {name : Str} {id : String} (slot : Slot "list" name id) (hty : typeOf (.builtin id) = pure (.type "method_descriptor")) (hm : MtR X id r) (ok : MutOk G.K r f) (hK : X.K = G.K) (hN : X.N[i]? = some x) (hv : Vis X.env.scope x) (hd : (x == ("__debug__" : Str)) = false) (hcd : (x == ("__classdict__" : Str)) = false)
    (hbase : attributeBase (.Name x p) name X.env (eval (.Name x p) X.env) = eval (.Name x p) X.env) (hline : (apos.endLine == cpos.line) = true) : DE X G (.Call (.Attribute (.Name x p) name apos) [] [] cpos) (sMut i f sNil) :=
  .val (PE.imp (pe_bm0 PySem.F.plainAttrs_list slot hty hm (pe_var hN hv hd hcd) hbase hline) fun _ _ _ q => sMut0_t hK ok q) fun _ => rfl
end
end
end L3
/-! L3, part 17: more assignments, what is never reached. -/
namespace L3
open PySem PySem.Spec PyProof.Rows L2

section
variable {X : Cx} {G : Gx} {e a b c : Expr} {es : List Expr} {tg : Expr} {js : List Nat} {se : Rho → Rs Vl} {ss : Rho → Rs (List Vl)} {st : D → Rho → Rs Fl} {pos : Pos}
def sBad : Rho → Rs Fl := fun _ => .bad
def sBadE : Rho → Rs Vl := fun _ => .bad
theorem ds_never {s : Stmt} : PS X s (tS G sBad) := PS.imp ps_never fun N σ H h => by
  obtain ⟨ρ, F, O, w, h⟩ := h
  exact h.elim
theorem dss_never {s : List Stmt} : PSs X s (tS G sBad) := PSs.imp pss_never fun N σ H h => by
  obtain ⟨ρ, F, O, w, h⟩ := h
  exact h.elim
/-- target = value, the value stays -/
def sAsgT (st : D → Rho → Rs Fl) (e : Rho → Rs Vl) : Rho → Rs Fl := fun ρ => (e ρ).bind fun x ρ => (frz x ρ).bind fun d ρ => thenG (st d ρ) fun ρ => .ok .nx ρ
theorem ds_asgT (he : PE X e (tE G se)) (hg : DG X G tg js st) (hs : swapsWithSole [tg] e pos.line X.env = pure false) (hw : swappedStores [tg] e X.env = pure none) (h1 : (assignEach [tg] X.env).map (·.2) = [assign tg X.env]) : PS X (.Assign [tg] e pos) (tS G (sAsgT st se)) := by
  refine PS.imp (ps_asg he hg hs hw h1) fun N σ H h => ?_
  obtain ⟨ρ, F, O, w, h⟩ := h
  refine Tgt.finS.bind w h fun x ρ1 v H1 F1 w1 s1 rx h1 => ?_
  obtain ⟨d, ρ2, F2, w2, s2, r2, h2⟩ := Tgt.finS.frz w1 rx h1
  obtain ⟨ρ3, e3, h3⟩ := Tgt.then (G := G) (σ := σ) (α := Unit) h2
  exact ⟨ρ2, F2, O, d, ρ3, w2, r2, e3, fun σ' w' _ => h3 σ' H1 F2 w' (Sub.refl _)⟩
/-- a, b = x, y -/
def put2 (i j : Nat) (ds : List D) (ρ : Rho) : Rs Fl :=
  match ds with
  | [x, y] => thenG (put i (.val x) ρ) fun ρ => put j (.val y) ρ
  | _ => .bad
def sPar (i j : Nat) (a : Rho → Rs (List Vl)) : Rho → Rs Fl := fun ρ => (a ρ).bind fun xs ρ => (frzs xs ρ).bind fun ds ρ => put2 i j ds ρ
def put3 (i j k : Nat) (ds : List D) (ρ : Rho) : Rs Fl :=
  match ds with
  | [x, y, z] => thenG (put i (.val x) ρ) fun ρ => thenG (put j (.val y) ρ) fun ρ => put k (.val z) ρ
  | _ => .bad
def sPar3 (i j k : Nat) (a : Rho → Rs (List Vl)) : Rho → Rs Fl := fun ρ => (a ρ).bind fun xs ρ => (frzs xs ρ).bind fun ds ρ => put3 i j k ds ρ
theorem then_fin {F : Hp} {O : Fm} {N : Ends} {r : Rs Fl} {k : Rho → Rs Fl} (h : FinS G F O N (thenG r k)) : ∃ ρ, r = .ok .nx ρ ∧ FinS G F O N (k ρ) := by
  unfold thenG at h
  split at h
  · exact ⟨_, rfl, h⟩
  · exact h.elim
theorem ds_par {i j : Nat} {x y : Str} {px py pt : Pos} {kt k2 pt2} (hc : X.calm = true) (hN : X.N.Nodup) (hi : X.N[i]? = some x) (hj : X.N[j]? = some y) (hij : i ≠ j)
    (hx : X.env.scope.names.lookup x = some .local) (hy : X.env.scope.names.lookup y = some .local) (ha : PA X [a, b] (tA G ss))
    (hw : swappedStores [.Tuple [.Name x px, .Name y py] kt pt] (.Tuple [a, b] k2 pt2) X.env = pure (some [x, y]))
    (hs : swapsWithSole [.Tuple [.Name x px, .Name y py] kt pt] (.Tuple [a, b] k2 pt2) pos.line X.env = pure false) :
    PS X (.Assign [.Tuple [.Name x px, .Name y py] kt pt] (.Tuple [a, b] k2 pt2) pos) (tS G (sPar i j ss)) := by
  refine PS.imp (ps_par hc hN hi hj hij hx hy ha hw hs) fun N σ H h => ?_
  obtain ⟨ρ, F, O, w, h⟩ := h
  refine Tgt.finS.bind w h fun xs ρ1 vs H1 F1 w1 s1 rs h1 => ?_
  obtain ⟨ds, ρ2, F2, w2, s2, r2, h2⟩ := Tgt.finS.frzs w1 rs h1
  match ds, r2, h2 with
  | [d1, d2], .cons (v := v1) q1 (.cons (v := v2) q2 .nil), h2 =>
    obtain ⟨ρ3, e3, h3⟩ := then_fin h2
    obtain ⟨_, rfl, hi', nl⟩ := put_inv e3
    obtain ⟨hj', nl2, k⟩ := put_fin (H := H1) h3
    exact ⟨v1, v2, rfl, k _ H1 F2 ((w2.put hi' nl q1).put hj' nl2 q2) (Sub.refl _)⟩
  | [], _, h2 => exact h2.elim
  | [_], _, h2 => exact h2.elim
  | _ :: _ :: _ :: _, _, h2 => exact h2.elim
theorem ds_par3 {i j l : Nat} {x y z : Str} {px py pz pt : Pos} {kt k2 pt2} (hc : X.calm = true) (hN : X.N.Nodup) (hi : X.N[i]? = some x) (hj : X.N[j]? = some y) (hl : X.N[l]? = some z) (hij : i ≠ j) (hil : i ≠ l) (hjl : j ≠ l)
    (hx : X.env.scope.names.lookup x = some .local) (hy : X.env.scope.names.lookup y = some .local) (hz : X.env.scope.names.lookup z = some .local) (ha : PA X [a, b, c] (tA G ss))
    (hw : swappedStores [.Tuple [.Name x px, .Name y py, .Name z pz] kt pt] (.Tuple [a, b, c] k2 pt2) X.env = pure (some [x, y, z]))
    (hs : swapsWithSole [.Tuple [.Name x px, .Name y py, .Name z pz] kt pt] (.Tuple [a, b, c] k2 pt2) pos.line X.env = pure false) :
    PS X (.Assign [.Tuple [.Name x px, .Name y py, .Name z pz] kt pt] (.Tuple [a, b, c] k2 pt2) pos) (tS G (sPar3 i j l ss)) := by
  refine PS.imp (ps_par3 hc hN hi hj hl hij hil hjl hx hy hz ha hw hs) fun N σ H h => ?_
  obtain ⟨ρ, F, O, w, h⟩ := h
  refine Tgt.finS.bind w h fun xs ρ1 vs H1 F1 w1 s1 rs h1 => ?_
  obtain ⟨ds, ρ2, F2, w2, s2, r2, h2⟩ := Tgt.finS.frzs w1 rs h1
  match ds, r2, h2 with
  | [d1, d2, d3], .cons (v := v1) q1 (.cons (v := v2) q2 (.cons (v := v3) q3 .nil)), h2 =>
    obtain ⟨ρ3, e3, h3⟩ := then_fin h2
    obtain ⟨_, rfl, hi', nl⟩ := put_inv e3
    obtain ⟨ρ4, e4, h4⟩ := then_fin h3
    obtain ⟨_, rfl, hj', nl2⟩ := put_inv e4
    obtain ⟨hl', nl3, k⟩ := put_fin (H := H1) h4
    exact ⟨v1, v2, v3, rfl, k _ H1 F2 (((w2.put hi' nl q1).put hj' nl2 q2).put hl' nl3 q3) (Sub.refl _)⟩
  | [], _, h2 => exact h2.elim
  | [_], _, h2 => exact h2.elim
  | [_, _], _, h2 => exact h2.elim
  | _ :: _ :: _ :: _ :: _, _, h2 => exact h2.elim
/-- x op= e, whole numbers -/
def augD (op : Operator) : D → D → Option D :=
  match op with
  | .Add => onInts fun i j => some (.int (i + j))
  | .Sub => onInts fun i j => some (.int (i - j))
  | _ => fun _ _ => none
def sAug (i : Nat) (op : Operator) (e : Rho → Rs Vl) : Rho → Rs Fl := fun ρ =>
  match ρ[i]? with
  | some (Cell.val x) => (e ρ).bind fun y ρ => match (y.cont ρ).bind fun y => augD op x y with
    | some z => put i (.val z) ρ
    | none => .bad
  | _ => .bad
theorem aug_ok {op : Operator} (hop : op = .Add ∨ op = .Sub) : ∃ r : TIp, PIp X op r ∧ ∀ {F : Hp} {O : Fm} {ρ : Rho} {σ : L2.St} {H : Hp} {v u : V} {x y z : D} {Q : VK}, Wd G.K F O ρ σ H → At G.K F H v x → At G.K F H u y → augD op x y = some z → Post G F O ρ σ Q z → r v u H Q := by
  rcases hop with rfl | rfl
  · refine ⟨_, ip_add, fun {F O ρ σ H v u x y z Q} w ax ay e p => ?_⟩
    obtain ⟨i, j, rfl, rfl, rfl, rfl, e⟩ := int2 (G := G) (f := fun i j => some (.int (i + j))) ax ay e
    cases e
    exact ⟨i, j, rfl, rfl, p.now w (.int _)⟩
  · refine ⟨_, ip_sub, fun {F O ρ σ H v u x y z Q} w ax ay e p => ?_⟩
    obtain ⟨i, j, rfl, rfl, rfl, rfl, e⟩ := int2 (G := G) (f := fun i j => some (.int (i - j))) ax ay e
    cases e
    exact ⟨i, j, rfl, rfl, p.now w (.int _)⟩
theorem ds_aug {i : Nat} {x : Str} {op : Operator} {pos' : Pos} (hop : op = .Add ∨ op = .Sub) (hN : X.N.Nodup) (hi : X.N[i]? = some x) (hx : Loc X.env.scope x) (he : PE X e (tE G se)) (hf : X.fn x = true ∨ X.env.scope.names.lookup x = some .local) :
    PS X (.AugAssign (.Name x pos') op e pos) (tS G (sAug i op se)) := by
  obtain ⟨r, ho, hr⟩ := aug_ok (X := X) (G := G) hop
  refine PS.imp (ps_aug hN hi hx he ho hf) fun N σ H h => ?_
  obtain ⟨ρ, F, O, w, h⟩ := h
  unfold sAug at h
  split at h
  · rename_i x0 e0
    obtain ⟨v, h1, h2⟩ := w.val i x0 e0
    refine ⟨v, h1, Tgt.finS.bind w h fun y ρ1 u H1 F1 w1 s1 ry h1' => ?_⟩
    split at h1'
    · rename_i z ez
      obtain ⟨d, e1, e2⟩ := Option.bind_eq_some_iff.mp ez
      refine hr w1 (.inl (h2.mono s1)) (w1.at ry e1) e2 fun v' H' F' w' s' r' => ?_
      obtain ⟨hi', nl, k⟩ := put_fin (H := H') (FinS.mono s' h1')
      exact k _ _ _ (w'.put hi' nl r') (Sub.refl _)
    · exact h1'.elim
  · exact h.elim
/-- xs[i] = e, xs an own list of slot i -/
def setAt (ρ : Rho) (i : Nat) (k : Int) (d : D) : Rs Fl :=
  match ownList ρ i with
  | some (p, ys) => match ixN ys.length k with
    | some j => .ok .nx (ρ.set i (.own p (.list (ys.set j d))))
    | none => .bad
  | none => .bad
def sSetIx (i : Nat) (ix e : Rho → Rs Vl) : Rho → Rs Fl := fun ρ => (e ρ).bind fun x ρ => (frz x ρ).bind fun d ρ => if (ownList ρ i).isSome then (ix ρ).bind fun y ρ => match y.cont ρ with
  | some (.int k) => setAt ρ i k d
  | _ => .bad
  else .bad
theorem ds_setIx {i : Nat} {x : Str} {ie : Expr} {sx : Rho → Rs Vl} {p p2 : Pos} (hN : X.N[i]? = some x) (hv : Vis X.env.scope x) (hd : (x == ("__debug__" : Str)) = false) (hcd : (x == ("__classdict__" : Str)) = false) (hi : PE X ie (tE G sx)) (he : PE X e (tE G se))
    (has : ∀ v, assign (.Subscript (.Name x p) ie p2) X.env v = (do
      let ov ← holding [v] (eval (.Name x p) X.env)
      let iv ← holding [v, ov] (eval ie X.env)
      standAt p2
      holding [v, ov, iv] (setItem ov iv v)
      release [v, ov, iv] [])) (hs : swapsWithSole [.Subscript (.Name x p) ie p2] e pos.line X.env = pure false) (hw : swappedStores [.Subscript (.Name x p) ie p2] e X.env = pure none) (h1 : (assignEach [.Subscript (.Name x p) ie p2] X.env).map (·.2) = [assign (.Subscript (.Name x p) ie p2) X.env]) :
    PS X (.Assign [.Subscript (.Name x p) ie p2] e pos) (tS G (sSetIx i sx se)) := by
  refine PS.imp (ps_asg he (pg_sub (pe_var hN hv hd hcd) hi set_list has) hs hw h1) fun N σ H h => ?_
  obtain ⟨ρ, F, O, w, h⟩ := h
  refine Tgt.finS.bind w h fun x ρ1 v H1 F1 w1 s1 rx h1 => ?_
  obtain ⟨d, ρ2, F2, w2, s2, r2, h2⟩ := Tgt.finS.frz w1 rx h1
  split at h2
  · rename_i hs
    obtain ⟨⟨q, ds0⟩, hq⟩ := Option.isSome_iff_exists.mp hs
    obtain ⟨a, vs0, g1, g2, g3⟩ := w2.ownL (ownList_iff hq)
    refine ⟨.ref a, g1, Tgt.finS.bind w2 h2 fun y ρ3 u H3 F3 w3 s3 ry h3 => ?_⟩
    split at h3
    · rename_i k ek
      have eu := (w3.at ry ek).int
      subst eu
      unfold setAt at h3
      split at h3
      · rename_i p ys ey
        have ey' := ownList_iff ey
        obtain ⟨b, vs, q1, q2, q3⟩ := w3.ownL ey'
        rw [g1] at q1; cases q1
        split at h3
        · rename_i j ej
          refine ⟨a, vs, k, j, rfl, rfl, q2, by rw [q3.length]; exact ej, ?_⟩
          exact h3 _ _ F3 (w3.write ey' g1 ⟨_, upd_same, RpL.set (r2.mono s3) j q3⟩) (Sub.refl _)
        · exact h3.elim
      · exact h3.elim
    · exact h3.elim
  · exact h2.elim
end
end L3
/-! L3, part 18: the words in which a def's walk is written. -/
namespace L3
open PySem PySem.Spec PyProof.Rows L2

/-- what the surroundings give -/
structure Cok (X : Cx) (G : Gx) (k : Nat) : Prop where
  K : X.K = G.K
  c : X.calm = true
  N : X.N.Nodup
  r : Room k X.A
  t : Takes X G.W
  p : PassesOwn (model X.prog X.w) X.A X.env X.xe
theorem Cok.u {X : Cx} {G : Gx} {k : Nat} (C : Cok X G k) : X.A.units + 200 < cLine := by have := C.r.un; omega
theorem Cok.blk {X : Cx} {G : Gx} {k : Nat} (C : Cok X G k) {s : Shared} {H : Hp} {scope : Scope} {ce : Env} {fp : List Addr} : Cok (X.blk s H scope ce fp) G.q k :=
  ⟨C.K, C.c, C.N, C.r, (fun _ _ ⟨_, _, _, _, _, _, _, _, _, _, _, _, _, _, _, _, w⟩ => w.elim), PassesOwn.never⟩
theorem Cok.of {P : Program} {w : World} {K : PySem.W.Frag} {mg : Str → Option Value} {base : Heap} {N : List Str} {qual : Str} {scope : Scope} {f : Addr} {cd : Value} {A : Around} {outer : List Env} {s : Shared} {H : Hp} {E : XK} {cn : Str → Option Addr} {k : Nat} (hN : N.Nodup)
    (hr : Room k (A.deeper (envOfC qual scope s.heap.objs.size f cd))) : Cok (cxOf (L2.CX P w) P w K mg base N qual scope f cd A outer s H E) ⟨K, cn, fun c dd _ H => E c dd H⟩ k :=
  ⟨rfl, rfl, hN, hr, takes_of rfl rfl rfl rfl, passes_of rfl⟩
/-- the arguments: their meaning, how many -/
structure DA (X : Cx) (G : Gx) (es : List Expr) (s : Rho → Rs (List Vl)) (n : Nat) : Prop where
  pa : PA X es (tA G s)
  len : ∀ ρ xs ρ', s ρ = .ok xs ρ' → xs.length = n
  pl : plainArgs es = true
section
variable {X : Cx} {G : Gx} {k : Nat} {a b c e : Expr} {es : List Expr} {sa sb sc se : Rho → Rs Vl} {ss : Rho → Rs (List Vl)} {sf : Rho → Rs Vf} {pos p p1 p2 p3 p4 : Pos} {n : Nat}
theorem wNil : DA X G [] sNil 0 := ⟨da_nil, fun ρ xs ρ' h => by cases h; rfl, rfl⟩
theorem wC (h : PE X e (tE G se)) (r : DA X G es ss n) (hn : notStar e = true := by rfl) : DA X G (e :: es) (sCons se ss) (n + 1) := by
  refine ⟨da_cons h r.pa (star_plain hn _), fun ρ xs ρ' q => ?_, by simp [plainArgs, hn]; simpa [plainArgs] using r.pl⟩
  unfold sCons at q
  cases e1 : se ρ with
  | ok x ρ1 =>
    rw [e1, Rs.bind_ok] at q
    cases e2 : ss ρ1 with
    | ok xs2 ρ2 => rw [e2] at q; cases q; rw [List.length_cons, r.len _ _ _ e2]
    | err _ _ => rw [e2] at q; cases q
    | bad => rw [e2] at q; cases q
  | err _ _ => rw [e1] at q; cases q
  | bad => rw [e1] at q; cases q
theorem DA.st (r : DA X G (e :: es) ss n) : starEach (e :: es) X.env = (false, eval e X.env) :: starEach es X.env := star_plain (by have := r.pl; simp [plainArgs] at this; exact this.1) _
theorem DE.f {se : Rho → Rs Vl} (h : DE X G e se) : PE X e (tF G (liF se)) := h.pf
theorem pf_of (h : PE X e (tE G se)) : PE X e (tF G (liF se)) := PE.imp h fun _ _ _ q => liF_t q
/-! values -/
theorem v (i : Nat) {x : Str} (hi : X.N[i]? = some x := by rfl) (hv : Vis X.env.scope x := by first | exact Or.inl rfl | exact Or.inr (Or.inl rfl) | exact Or.inr (Or.inr rfl)) (hd : (x == ("__debug__" : Str)) = false := by decide) (hcd : (x == ("__classdict__" : Str)) = false := by decide) : DE X G (.Name x pos) (sVar i) := de_var hi hv hd hcd
theorem wB (C : Cok X G k) {op : Operator} (ha : PE X a (tE G sa)) (hb : PE X b (tE G sb)) (hop : [Operator.Add, .Sub, .Mult, .FloorDiv, .Mod, .Pow, .LShift, .RShift, .BitAnd].contains op = true := by decide) : DE X G (.BinOp a op b pos) (sBin (binD op) sa sb) :=
  .val (de_binop C.K hop ha hb) fun _ => rfl
theorem wNeg (ha : PE X a (tE G sa)) : DE X G (.UnaryOp .USub a pos) (sUn negD sa) := .val (de_neg ha) fun _ => rfl
def ltD : D → D → Option D := onInts fun i j => some (.bool (decide (i < j)))
def leD : D → D → Option D := onInts fun i j => some (.bool (decide (i ≤ j)))
def gtD : D → D → Option D := onInts fun i j => some (.bool (decide (j < i)))
def geD : D → D → Option D := onInts fun i j => some (.bool (decide (j ≤ i)))
theorem cLt : CmpOk X G .Lt ltD := cmp_int (p := fun i j => decide (i < j)) op_lt
theorem cLe : CmpOk X G .LtE leD := cmp_int (p := fun i j => decide (i ≤ j)) op_le
theorem cGt : CmpOk X G .Gt gtD := cmp_int (p := fun i j => decide (j < i)) op_gt
theorem cGe : CmpOk X G .GtE geD := cmp_int (p := fun i j => decide (j ≤ i)) op_ge
theorem cEq (C : Cok X G k) : CmpOk X G .Eq eqD := cmp_eq C.K C.u
theorem cNe (C : Cok X G k) : CmpOk X G .NotEq neD := cmp_ne C.K C.u
theorem cIn (C : Cok X G k) : CmpOk X G .In (inD false) := cmp_in C.K C.u
theorem cNi (C : Cok X G k) : CmpOk X G .NotIn (inD true) := cmp_notin C.K C.u
theorem wCmp {op : CmpOp} {f : D → D → Option D} (h : CmpOk X G op f) (ha : DE X G a sa) (hb : DE X G b sb) (hm : behindInMarks op b = false := by first | exact nomark _ (by decide) (by decide) | rfl) : DE X G (.Compare a [op] [b] pos) (sBin f sa sb) := h.de hm ha hb
theorem wCh {op op' : CmpOp} {f g : D → D → Option D} (h : CmpOk X G op f) (h' : CmpOk X G op' g) (ha : DE X G a sa) (hb : DE X G b sb) (hc : DE X G c sc) (hm : lastMarks [op, op'] [b, c] = false := by rfl) : DE X G (.Compare a [op, op'] [b, c] pos) (sChain f g sa sb sc) := h.chain h' hm ha hb hc
theorem wIfE (hc : DE X G c sc) (ha : PE X a (tE G sa)) (hb : PE X b (tE G sb)) : PE X (.IfExp c a b pos) (tE G (sIf sc sa sb)) := pe_if hc ha hb
theorem wTup {x1 : Nat} (h : DA X G es ss n) : DE X G (.Tuple es x1 pos) (sTup ss) := .val (pe_tupD h.pa) fun _ => rfl
theorem wTupS {x1 : Nat} (h : PA X es (tA G ss)) : DE X G (.Tuple es x1 pos) (sTup ss) := .val (pe_tupD h) fun _ => rfl
theorem wLst (h : DA X G es ss n) : DF X G (.List es pos) (sLst ss) := df_lst h.pa
theorem wLstS (h : PA X es (tA G ss)) : DF X G (.List es pos) (sLst ss) := df_lst h
theorem wIx (C : Cok X G k) (ha : PE X a (tE G sa)) (hb : PE X b (tE G sb)) (hs : ∀ lo hi st p, b ≠ .Slice lo hi st p := by intro _ _ _ _ h; cases h) : DE X G (.Subscript a b pos) (sBin ixD sa sb) := .val (pe_ixD C.K hs ha hb) fun _ => rfl
theorem wSl (C : Cok X G k) {lo hi : Option Expr} {sl sh : Option (Rho → Rs Vl)} (ha : PE X a (tE G sa)) (hl : DO X G lo sl) (hh : DO X G hi sh) : DF X G (.Subscript a (.Slice lo hi none p2) pos) (sSl sa sl sh) := df_slice C.K ha hl hh
/-! built-ins -/
theorem wLen (C : Cok X G k) (hm : X.mg "len" = none) (h : DA X G [a] ss n) (hg : Gl X "len" := by rfl) : DE X G (.Call (.Name "len" p) [a] [] pos) (sFun lenD ss) :=
  de_callB (C.K ▸ call_len) ok_len hg hm PySem.boot_len h.pa h.pl (by decide) (by decide)
theorem wAbs (hm : X.mg "abs" = none) (h : DA X G [a] ss n) (hg : Gl X "abs" := by rfl) : DE X G (.Call (.Name "abs" p) [a] [] pos) (sFun absD ss) :=
  de_callB call_abs ok_abs hg hm (by decide +kernel) h.pa h.pl (by decide) (by decide)
theorem wInt (hm : X.mg "int" = none) (h : DA X G [a] ss n) (hg : Gl X "int" := by rfl) : DE X G (.Call (.Name "int" p) [a] [] pos) (sFun intD ss) :=
  de_callT call_int1 ok_int hg hm (by decide +kernel) h.pa h.pl (by decide) (by decide)
theorem wMin (C : Cok X G k) (hm : X.mg "min" = none) (h : DA X G (a :: es) ss n) (hg : Gl X "min" := by rfl) : DE X G (.Call (.Name "min" p) (a :: es) [] pos) (sFun minD ss) :=
  de_callB ((call_min2 C.c).or (C.K ▸ cr_min C.c)) ok_min hg hm (by decide +kernel) h.pa h.pl (by decide) (by decide)
theorem wMax (C : Cok X G k) (hm : X.mg "max" = none) (h : DA X G (a :: es) ss n) (hg : Gl X "max" := by rfl) : DE X G (.Call (.Name "max" p) (a :: es) [] pos) (sFun maxD ss) :=
  de_callB ((call_max2 C.c).or (C.K ▸ cr_max C.c)) ok_max hg hm (by decide +kernel) h.pa h.pl (by decide) (by decide)
theorem wSum (C : Cok X G k) (hm : X.mg "sum" = none) (h : DA X G [a] ss n) (hg : Gl X "sum" := by rfl) : DE X G (.Call (.Name "sum" p) [a] [] pos) (sFun sumD ss) :=
  de_callB (C.K ▸ cr_sum C.c) ok_sum hg hm (by decide +kernel) h.pa h.pl (by decide) (by decide)
theorem wAny (C : Cok X G k) (hm : X.mg "any" = none) (h : DA X G [a] ss n) (hg : Gl X "any" := by rfl) : DE X G (.Call (.Name "any" p) [a] [] pos) (sFun anyD ss) :=
  de_callB (C.K ▸ cr_any C.c) ok_any hg hm (by decide +kernel) h.pa h.pl (by decide) (by decide)
theorem wAll (C : Cok X G k) (hm : X.mg "all" = none) (h : DA X G [a] ss n) (hg : Gl X "all" := by rfl) : DE X G (.Call (.Name "all" p) [a] [] pos) (sFun allD ss) :=
  de_callB (C.K ▸ cr_all C.c) ok_all hg hm (by decide +kernel) h.pa h.pl (by decide) (by decide)
theorem wTuple (C : Cok X G k) (hm : X.mg "tuple" = none) (h : DA X G [a] ss n) (hg : Gl X "tuple" := by rfl) : DE X G (.Call (.Name "tuple" p) [a] [] pos) (sFun tupleD ss) :=
  de_callT (C.K ▸ call_tuple_of) ok_tuple hg hm (by decide +kernel) h.pa h.pl (by decide) (by decide)
theorem wList (C : Cok X G k) (hm : X.mg "list" = none) (h : DA X G [a] ss n) (hg : Gl X "list" := by rfl) : DF X G (.Call (.Name "list" p) [a] [] pos) (sFunF listD ss) :=
  df_callT (C.K ▸ call_list_of) ok_list hg hm (by decide +kernel) h.pa h.pl (by decide) (by decide)
theorem wSorted (C : Cok X G k) (hm : X.mg "sorted" = none) (h : DA X G [a] ss n) (hg : Gl X "sorted" := by rfl) : DF X G (.Call (.Name "sorted" p) [a] [] pos) (sFunF sortedD ss) :=
  df_callB (C.K ▸ cr_sortedI) ok_sorted hg hm (by decide +kernel) h.pa h.pl (by decide) (by decide)
theorem wIsi (C : Cok X G k) (t : Ty) (hm : X.mg "isinstance" = none) (hm2 : X.mg t.nm = none) (ha : PE X a (tE G sa)) (hg : Gl X "isinstance" := by rfl) (hg2 : Gl X t.nm := by rfl) (hn : notStar a = true := by rfl) : DE X G (.Call (.Name "isinstance" p1) [a, .Name t.nm p2] [] pos) (sUn (isiD [t]) sa) := de_isi C.K hg hm hg2 hm2 hn ha
theorem wIsi2 (C : Cok X G k) (t t' : Ty) {kk : Nat} (hm : X.mg "isinstance" = none) (hm2 : X.mg t.nm = none) (hm3 : X.mg t'.nm = none) (ha : PE X a (tE G sa)) (hg : Gl X "isinstance" := by rfl) (hg2 : Gl X t.nm := by rfl) (hg3 : Gl X t'.nm := by rfl) (hn : notStar a = true := by rfl) : DE X G (.Call (.Name "isinstance" p1) [a, .Tuple [.Name t.nm p2, .Name t'.nm p3] kk p4] [] pos) (sUn (isiD [t, t']) sa) := de_isi2 C.K hg hm hg2 hm2 hg3 hm3 hn ha
end
/-! ### the program's functions -/
/-- a def that keeps its promise, known by name -/
structure Kn (P : Program) (w : World) (K : PySem.W.Frag) (mg : Str → Option Value) (base : Heap) (cn : Str → Option Addr) (j : Nat) (x : Str) (ms : List Bool) (φ : Fn) : Prop where
  ex : ∃ f fd ps, FnOk P w K mg base (L2.CX P w) j f fd ps (spD K cn ms φ) ∧ mg x = some (.ref f) ∧ PySem.W.keepIn K (.ref f) = true ∧ Binds K fd ps []
section
variable {P : Program} {w : World} {K : PySem.W.Frag} {mg : Str → Option Value} {base : Heap} {cn : Str → Option Addr} {x qual : Str} {st : Stmt} {f : Addr} {fd : FuncData} {N ps : List Str} {k : Nat} {ms : List Bool} {s : Rho → Rs Fl}
theorem Kn.mk' (F : Fun K x qual st f fd) (S : FnScope N ps (defScope st)) (hm : ms.length = ps.length) (hx : mg x = some (.ref f)) (hb : Binds K fd ps [])
    (h : ∀ (cdv : Value) (A : Around) (outer : List Env) (s0 : Shared) (H : Hp) (E : XK), Cok (cxOf (L2.CX P w) P w K mg base N qual (defScope st) f cdv A outer s0 H E) ⟨K, cn, fun c dd _ H => E c dd H⟩ k →
      PSs (cxOf (L2.CX P w) P w K mg base N qual (defScope st) f cdv A outer s0 H E) (defBody st) (tS ⟨K, cn, fun c dd _ H => E c dd H⟩ s)) : Kn P w K mg base cn (k + 1) x ms (defR N.length ms s) :=
  ⟨⟨f, fd, ps, fnD F S hm fun cdv A outer s0 H E hr => h cdv A outer s0 H E (Cok.of S.nd hr), hx, F.kp, hb⟩⟩
/-- with no call left -/
theorem Kn.none (F : Fun K x qual st f fd) (hx : mg x = some (.ref f)) (hb : Binds K fd ps []) : Kn P w K mg base cn 0 x ms (fun _ => .bad) :=
  ⟨⟨f, fd, ps, ⟨fun vs H Q E h => by obtain ⟨_, _, _, _, _, _, h⟩ := h; exact h.elim, fun A outer s H args us vs Q E _ _ _ _ h => by obtain ⟨_, _, _, _, _, _, h⟩ := h; exact h.elim⟩, hx, F.kp, hb⟩⟩
end
section
variable {X : Cx} {G : Gx} {k j : Nat} {e : Expr} {es : List Expr} {ss : Rho → Rs (List Vl)} {x : Str} {n : Nat} {φ : Fn} {ms : List Bool} {p pos : Pos}
theorem wCall (C : Cok X G k) (F : Kn X.prog X.w G.K X.mg X.base G.cn j x (List.replicate n false) φ) (h : DA X G (e :: es) ss n) (hj : j ≤ k) (hg : Gl X x := by rfl) (hd : (x == ("__debug__" : Str)) = false := by decide) : DE X G (.Call (.Name x p) (e :: es) [] pos) (sCall φ ss) := by
  obtain ⟨f, fd, ps, F, hx, hk, hb⟩ := F.ex
  rw [← C.K] at F hk hb
  exact de_call F (C.r.mono hj) hg hx hk hb C.t C.K h.len h.pa h.pl hd
theorem wCallO (C : Cok X G k) (F : Kn X.prog X.w G.K X.mg X.base G.cn j x ms φ) (h : DA X G (e :: es) ss n) (hj : j ≤ k) (hg : Gl X x := by rfl) (hd : (x == ("__debug__" : Str)) = false := by decide) : DE X G (.Call (.Name x p) (e :: es) [] pos) (sCallO ms φ ss) := by
  obtain ⟨f, fd, ps, F, hx, hk, hb⟩ := F.ex
  rw [← C.K] at F hk hb
  exact de_callO F (C.r.mono hj) hg hx hk hb C.t C.K h.pa h.pl hd
end
section
variable {X : Cx} {G : Gx} {k : Nat} {a b c e : Expr} {es : List Expr} {tg it elt : Expr} {ifs : List Expr} {js : List Nat} {sa sb sc se : Rho → Rs Vl} {ss : Rho → Rs (List Vl)} {sf : Rho → Rs Vf} {si : Rho → Rs (List D)} {st : D → Rho → Rs Fl} {s s' : Rho → Rs Fl} {tt : Rho → Rs Bool} {pos p p1 p2 p3 apos cpos : Pos} {n : Nat} {body orelse : List Stmt} {scope : Scope}
/-! targets, sources -/
theorem gv (C : Cok X G k) (i : Nat) {x : Str} (hi : X.N[i]? = some x := by rfl) (hx : Loc X.env.scope x := by first | exact Or.inl rfl | exact Or.inr rfl) (hf : X.fn x = true ∨ X.env.scope.names.lookup x = some .local := by first | exact Or.inl rfl | exact Or.inr rfl) : DG X G (.Name x pos) [i] (gN i) := dg_name C.N hi hx hf
theorem gc {is : List Nat} {fs : List D → Rho → Rs Fl} (h1 : DG X G e js st) (h2 : DGs X G es is fs) (hs : (assignEach (e :: es) X.env).map (·.2) = assign e X.env :: (assignEach es X.env).map (·.2) := by rfl) : DGs X G (e :: es) (js ++ is) (gsC st fs) := dgs_cons h1 h2 hs
theorem gn : DGs X G [] [] gsN := dgs_nil
theorem gt (C : Cok X G k) {kk : Nat} {fs : List D → Rho → Rs Fl} (h : DGs X G es js fs) (hn : (assignEach es X.env).length = n := by rfl) (hst : (assignEach es X.env).findIdx? (·.1) = none := by rfl) : DG X G (.Tuple es kk pos) js (gTp n fs) := dg_tup C.K C.c h hn hst
theorem iv (C : Cok X G k) (he : PE X e (tE G se)) : DI X G tg e (sIt se) := di_val C.K he
theorem ir1 (hm : X.mg "range" = none) (h : DA X G [a] ss 1) (hg : Gl X "range" := by rfl) : DI X G tg (.Call (.Name "range" p) [a] [] pos) (sRng ss) := di_rng1 hg hm h.len h.pa h.st
theorem ir2 (hm : X.mg "range" = none) (h : DA X G [a, b] ss 2) (hg : Gl X "range" := by rfl) (hs : starEach [a, b] X.env = [(false, eval a X.env), (false, eval b X.env)] := by rfl) (hs2 : starEach [b] X.env = [(false, eval b X.env)] := by rfl) : DI X G tg (.Call (.Name "range" p) [a, b] [] pos) (sRng ss) := di_rng2 hg hm h.len h.pa hs hs2
theorem ir3 (hm : X.mg "range" = none) (h : DA X G [a, b, c] ss 3) (hg : Gl X "range" := by rfl) (hs : starEach [a, b, c] X.env = (false, eval a X.env) :: starEach [b, c] X.env := by rfl) (hp : (backTo pos (starEach [b, c] X.env)).any (·.1) = false := by rfl) : DI X G tg (.Call (.Name "range" p) [a, b, c] [] pos) (sRng ss) := di_rng3 hg hm h.len h.pa hs hp
theorem ie (C : Cok X G k) {elts : List Expr} {kk : Nat} (hm : X.mg "enumerate" = none) (h : DA X G [a] ss 1) (hg : Gl X "enumerate" := by rfl) : DI X G (.Tuple elts kk p3) (.Call (.Name "enumerate" p) [a] [] pos) (one1 enumD ss) := di_enum C.K hg hm h.pa h.st
theorem iz (C : Cok X G k) {elts : List Expr} {kk : Nat} (hm : X.mg "zip" = none) (h : DA X G [a, b] ss 2) (hg : Gl X "zip" := by rfl) (hs : starEach [a, b] X.env = (false, eval a X.env) :: starEach [b] X.env := by rfl) (hp : (backTo pos (starEach [b] X.env)).any (·.1) = false := by rfl) : DI X G (.Tuple elts kk p3) (.Call (.Name "zip" p) [a, b] [] pos) (sZip ss) := di_zip C.K hg hm h.pa hs hp
/-! comprehensions -/
theorem wLc (C : Cok X G k) (own : List (Str × Nat)) (hi : DI X G tg it si) (h : LcOk X G tg elt ifs scope js st tt se) (ok : BlkOk X.N X.env.scope scope own := by exact blkOk_by rfl) (hj : ∀ j ∈ js, j ∈ own.map (·.2) := by decide) (hs : ∀ x, foldedSetIterable it X.env x = pure x := by intro _; rfl) :
    DF X G (.ListComp elt [⟨tg, it, ifs, 0⟩] scope pos) (sLc si st tt se (own.map (·.2))) := df_lc C.c C.N hi ok h hj hs
/-! statements -/
theorem kSetLc (C : Cok X G k) (own : List (Str × Nat)) (i : Nat) {y : Str} {py spos : Pos} (hi : DI X G tg it si) (h : LcOk X G tg elt ifs scope js st tt se) (hy : X.N[i]? = some y := by rfl) (hyl : X.env.scope.names.lookup y = some .local := by rfl) (hsw : swapsWith (.ListComp elt [⟨tg, it, ifs, 0⟩] scope pos) (some (.Name y py)) spos.line X.env = pure true := by exact sw_true rfl rfl rfl rfl)
    (ok : BlkOk X.N X.env.scope scope own := by exact blkOk_by rfl) (hj : ∀ j ∈ js, j ∈ own.map (·.2) := by decide) (hs : ∀ x, foldedSetIterable it X.env x = pure x := by intro _; rfl) :
    PS X (.Assign [.Name y py] (.ListComp elt [⟨tg, it, ifs, 0⟩] scope pos) spos) (tS G (sAsg i (sLc si st tt se (own.map (·.2))))) := ds_setLc C.c C.N hy hyl hsw hi ok h hj hs
theorem kAsg (C : Cok X G k) (i : Nat) {x : Str} (he : PE X e (tF G sf)) (hi : X.N[i]? = some x := by rfl) (hx : Loc X.env.scope x := by first | exact Or.inl rfl | exact Or.inr rfl) (hf : X.fn x = true ∨ X.env.scope.names.lookup x = some .local := by first | exact Or.inl rfl | exact Or.inr rfl) (hs : swapsWithSole [.Name x p] e pos.line X.env = pure false := by rfl) : PS X (.Assign [.Name x p] e pos) (tS G (sAsg i sf)) := ds_asg C.N hi hx he hf hs
theorem kAsgT (he : PE X e (tE G se)) (hg : DG X G tg js st) (hs : swapsWithSole [tg] e pos.line X.env = pure false := by rfl) (hw : swappedStores [tg] e X.env = pure none := by rfl) (h1 : (assignEach [tg] X.env).map (·.2) = [assign tg X.env] := by rfl) : PS X (.Assign [tg] e pos) (tS G (sAsgT st se)) := ds_asgT he hg hs hw h1
theorem kPar (C : Cok X G k) (i j : Nat) {x y : Str} {px py pt : Pos} {kt k2 pt2} (h : DA X G [a, b] ss 2) (hi : X.N[i]? = some x := by rfl) (hj : X.N[j]? = some y := by rfl) (hij : i ≠ j := by decide) (hx : X.env.scope.names.lookup x = some .local := by rfl) (hy : X.env.scope.names.lookup y = some .local := by rfl)
    (hw : swappedStores [.Tuple [.Name x px, .Name y py] kt pt] (.Tuple [a, b] k2 pt2) X.env = pure (some [x, y]) := by rfl) (hs : swapsWithSole [.Tuple [.Name x px, .Name y py] kt pt] (.Tuple [a, b] k2 pt2) pos.line X.env = pure false := by rfl) : PS X (.Assign [.Tuple [.Name x px, .Name y py] kt pt] (.Tuple [a, b] k2 pt2) pos) (tS G (sPar i j ss)) := ds_par C.c C.N hi hj hij hx hy h.pa hw hs
theorem kPar3 (C : Cok X G k) (i j l : Nat) {x y z : Str} {px py pz pt : Pos} {kt k2 pt2} (h : DA X G [a, b, c] ss 3) (hi : X.N[i]? = some x := by rfl) (hj : X.N[j]? = some y := by rfl) (hl : X.N[l]? = some z := by rfl) (hij : i ≠ j := by decide) (hil : i ≠ l := by decide) (hjl : j ≠ l := by decide) (hx : X.env.scope.names.lookup x = some .local := by rfl) (hy : X.env.scope.names.lookup y = some .local := by rfl) (hz : X.env.scope.names.lookup z = some .local := by rfl)
    (hw : swappedStores [.Tuple [.Name x px, .Name y py, .Name z pz] kt pt] (.Tuple [a, b, c] k2 pt2) X.env = pure (some [x, y, z]) := by rfl) (hs : swapsWithSole [.Tuple [.Name x px, .Name y py, .Name z pz] kt pt] (.Tuple [a, b, c] k2 pt2) pos.line X.env = pure false := by rfl) : PS X (.Assign [.Tuple [.Name x px, .Name y py, .Name z pz] kt pt] (.Tuple [a, b, c] k2 pt2) pos) (tS G (sPar3 i j l ss)) := ds_par3 C.c C.N hi hj hl hij hil hjl hx hy hz h.pa hw hs
theorem kAug (C : Cok X G k) (i : Nat) {op : Operator} {x : Str} (he : PE X e (tE G se)) (hop : op = .Add ∨ op = .Sub := by first | exact Or.inl rfl | exact Or.inr rfl) (hi : X.N[i]? = some x := by rfl) (hx : Loc X.env.scope x := by first | exact Or.inl rfl | exact Or.inr rfl) (hf : X.fn x = true ∨ X.env.scope.names.lookup x = some .local := by first | exact Or.inl rfl | exact Or.inr rfl) : PS X (.AugAssign (.Name x p) op e pos) (tS G (sAug i op se)) := ds_aug hop C.N hi hx he hf
theorem kSet (i : Nat) {x : Str} {ie : Expr} {sx : Rho → Rs Vl} (hi : PE X ie (tE G sx)) (he : PE X e (tE G se)) (hN : X.N[i]? = some x := by rfl) (hv : Vis X.env.scope x := by first | exact Or.inl rfl | exact Or.inr (Or.inl rfl) | exact Or.inr (Or.inr rfl)) (hd : (x == ("__debug__" : Str)) = false := by decide) (hcd : (x == ("__classdict__" : Str)) = false := by decide)
    (has : ∀ v, assign (.Subscript (.Name x p) ie p2) X.env v = (do
      let ov ← holding [v] (eval (.Name x p) X.env)
      let iv ← holding [v, ov] (eval ie X.env)
      standAt p2
      holding [v, ov, iv] (setItem ov iv v)
      release [v, ov, iv] []) := by intro _; rfl) (hs : swapsWithSole [.Subscript (.Name x p) ie p2] e pos.line X.env = pure false := by rfl) (hw : swappedStores [.Subscript (.Name x p) ie p2] e X.env = pure none := by rfl) (h1 : (assignEach [.Subscript (.Name x p) ie p2] X.env).map (·.2) = [assign (.Subscript (.Name x p) ie p2) X.env] := by rfl) :
    PS X (.Assign [.Subscript (.Name x p) ie p2] e pos) (tS G (sSetIx i sx se)) := ds_setIx hN hv hd hcd hi he has hs hw h1
theorem kFor (C : Cok X G k) (hi : DI X G tg it si) (hg : DG X G tg js st) (hb : PSs X body (tS G s)) (hs : ∀ x, foldedSetIterable it X.env x = pure x := by intro _; rfl) : PS X (.For tg it body [] pos) (tS G (sFor si st s)) := ds_for C.p C.c hi hg hb hs
theorem kWhile (C : Cok X G k) (n : Nat) (hc : DE X G c sc) (hb : PSs X body (tS G s)) : PS X (.While c body [] pos) (tS G (sWhile sc s n)) := ds_while C.p hc hb
theorem kExp (he : PE X e (tE G se)) (hs : swapsWith e none pos.line X.env = pure false := by rfl) : PS X (.Expr e pos) (tS G (sExp se)) := ds_expr he hs
/-! an own list's methods -/
theorem mApp (C : Cok X G k) (i : Nat) {x : Str} (h : DA X G [e] ss n) (ho : MtdOk X (.Name x p) "append" [e] apos cpos := by exact ⟨rfl, rfl, rfl⟩) (hN : X.N[i]? = some x := by rfl) (hv : Vis X.env.scope x := by first | exact Or.inl rfl | exact Or.inr (Or.inl rfl) | exact Or.inr (Or.inr rfl)) (hd : (x == ("__debug__" : Str)) = false := by decide) (hcd : (x == ("__classdict__" : Str)) = false := by decide) : DE X G (.Call (.Attribute (.Name x p) "append" apos) [e] [] cpos) (sMut i appF ss) := de_mut PySem.F.slot_list_append PySem.F.type_list_append mt_append mut_app C.K hN hv hd hcd h.pa h.pl ho
theorem mExt (C : Cok X G k) (i : Nat) {x : Str} (h : DA X G [e] ss n) (ho : MtdOk X (.Name x p) "extend" [e] apos cpos := by exact ⟨rfl, rfl, rfl⟩) (hN : X.N[i]? = some x := by rfl) (hv : Vis X.env.scope x := by first | exact Or.inl rfl | exact Or.inr (Or.inl rfl) | exact Or.inr (Or.inr rfl)) (hd : (x == ("__debug__" : Str)) = false := by decide) (hcd : (x == ("__classdict__" : Str)) = false := by decide) : DE X G (.Call (.Attribute (.Name x p) "extend" apos) [e] [] cpos) (sMut i extF ss) := de_mut PySem.F.slot_list_extend PySem.F.type_list_extend mt_extend mut_ext C.K hN hv hd hcd h.pa h.pl ho
theorem mPopAt (C : Cok X G k) (i : Nat) {x : Str} (h : DA X G [e] ss n) (ho : MtdOk X (.Name x p) "pop" [e] apos cpos := by exact ⟨rfl, rfl, rfl⟩) (hN : X.N[i]? = some x := by rfl) (hv : Vis X.env.scope x := by first | exact Or.inl rfl | exact Or.inr (Or.inl rfl) | exact Or.inr (Or.inr rfl)) (hd : (x == ("__debug__" : Str)) = false := by decide) (hcd : (x == ("__classdict__" : Str)) = false := by decide) : DE X G (.Call (.Attribute (.Name x p) "pop" apos) [e] [] cpos) (sMut i popAtF ss) := de_mut PySem.F.slot_list_pop PySem.F.type_list_pop mt_popAt mut_popAt C.K hN hv hd hcd h.pa h.pl ho
theorem mPop (C : Cok X G k) (i : Nat) {x : Str} (hbase : attributeBase (.Name x p) "pop" X.env (eval (.Name x p) X.env) = eval (.Name x p) X.env := by rfl) (hline : (apos.endLine == cpos.line) = true := by rfl) (hN : X.N[i]? = some x := by rfl) (hv : Vis X.env.scope x := by first | exact Or.inl rfl | exact Or.inr (Or.inl rfl) | exact Or.inr (Or.inr rfl)) (hd : (x == ("__debug__" : Str)) = false := by decide) (hcd : (x == ("__classdict__" : Str)) = false := by decide) : DE X G (.Call (.Attribute (.Name x p) "pop" apos) [] [] cpos) (sMut i popF sNil) := de_mut0 PySem.F.slot_list_pop PySem.F.type_list_pop mt_pop mut_pop C.K hN hv hd hcd hbase hline
end
end L3
/-! L3, part 19: constants, levels, the law's end. -/
namespace L3
open PySem PySem.Spec PyProof.Rows L2
structure Kc (mg : Str → Option Value) (x : Str) (d : D) : Prop where
  ex : ∃ v u, mg x = some u ∧ RelV v u ∧ ∀ K F, Rp K F v d
theorem wGlob {X : Cx} {G : Gx} {x : Str} {d : D} {pos : Pos} (h : Kc X.mg x d) (hg : Gl X x := by rfl) (hd : (x == ("__debug__" : Str)) = false := by decide) : DE X G (.Name x pos) (sC d) := by
  obtain ⟨v, u, h1, h2, h3⟩ := h.ex
  exact de_glob hg h1 h2 (fun F => h3 _ F) hd
theorem Kn.up {P : Program} {w : World} {K : PySem.W.Frag} {mg : Str → Option Value} {base : Heap} {cn : Str → Option Addr} {j k : Nat} {x : Str} {ms : List Bool} (h : Kn P w K mg base cn j x ms fun _ => .bad) (_ : j ≤ k) : Kn P w K mg base cn k x ms fun _ => .bad := by
  obtain ⟨f, fd, ps, F, hx, hk, hb⟩ := h.ex
  exact ⟨⟨f, fd, ps, ⟨fun vs H Q E h => by obtain ⟨_, _, _, _, _, _, h⟩ := h; exact h.elim, fun A outer s H args us vs Q E _ _ _ _ h => by obtain ⟨_, _, _, _, _, _, h⟩ := h; exact h.elim⟩, hx, hk, hb⟩⟩
/-- the script, as the law gets it -/
theorem law_sp {K : PySem.W.Frag} {cn : Str → Option Addr} {φ : Fn} {H : Hp} {a : Addr} {ns : List Int} (hS : SqL K H a (ns.map V.int)) (h : ∃ outs, φ [scrD ns] = .ok (.bool true) outs) : spD K cn [false] φ [.ref a] H (fun v _ => v = .bl true) fun _ _ _ => False := by
  obtain ⟨outs, e⟩ := h
  refine ⟨H, fun _ => none, [scrD ns], ⟨Sub.refl _, (fun _ _ h => by cases h), (fun _ _ h => by cases h)⟩, ⟨.scr hS, trivial⟩, .nil, ?_⟩
  rw [e]
  intro v H' F' _ _ r _
  cases r
  rfl
theorem cx_false {P : Program} {w : World} {H : Hp} {s : Shared} {e : Value} {s' : Shared} (h : L2.CX P w [] H s (fun _ _ _ => False) e s') : False := by
  obtain ⟨_, _, _, _, _, _, _, _, _, _, _, _, h⟩ := h
  exact h
end L3
/-! L3, part 20: a tuple or list from its end, [::-1]. -/
namespace L3
open PySem PySem.Spec PyProof.Rows L2
section
variable {prog : Program} {w : World} {A : Around} {E : Value → Shared → Prop} {s : Shared}
theorem applied_back {sl : Addr} {t : Tok} {n : Nat} {Q : Int × Int × Nat → Shared → Prop} (hs : s.heap.IsSliceOf sl .none .none (.int (-1) t))
    (h : Q ((n : Int) - 1, -1, n) s) : wpAny (model prog w) A (Builtin.Slice.sliceApplied (.ref sl) (pure (n : Int))) Q E s := by
  obtain ⟨osl, at_, cl, dat⟩ := id hs
  unfold Builtin.Slice.sliceApplied Builtin.Slice.sliceFields
  refine wpAny_bind (wpAny_bind (wpAny_field at_ dat (x := .none) rfl (wpAny_bind (wpAny_field at_ dat (x := .none) rfl (wpAny_bind (wpAny_field at_ dat (x := .int (-1) t) rfl (wpAny_pure ?_)))))))
  refine wpAny_bind (slicePart_int ?_)
  show wpAny _ _ (if ((-1 : Int) == 0) = true then _ else _) _ _ s
  rw [if_neg (by decide)]
  refine wpAny_bind (slicePart_none (wpAny_bind (slicePart_none (wpAny_bind (wpAny_pure ?_)))))
  show wpAny _ _ (match Builtin.Slice.sliceAdjust none none (-1) (n : Int) with | (lo, hi) => pure (lo, (-1 : Int), Builtin.Slice.slicePlaces lo hi (-1))) _ _ s
  have e : Builtin.Slice.sliceAdjust none none (-1) (n : Int) = ((n : Int) - 1, -1) := by
    unfold Builtin.Slice.sliceAdjust
    simp
  rw [e]
  have e2 : Builtin.Slice.slicePlaces ((n : Int) - 1) (-1) (-1) = n := by
    unfold Builtin.Slice.slicePlaces
    simp
    omega
  show wpAny _ _ (pure (((n : Int) - 1, (-1 : Int), Builtin.Slice.slicePlaces ((n : Int) - 1) (-1) (-1)))) _ _ s
  rw [e2]
  exact wpAny_pure h
end
end L3
namespace L3
open PySem PySem.Spec PyProof.Rows L2
theorem fm_map {α β : Type} {f : α → Option β} {g : α → β} : ∀ {l : List α}, (∀ m ∈ l, f m = some (g m)) → l.filterMap f = l.map g
  | [], _ => rfl
  | x :: r, h => by
    rw [List.filterMap_cons, h x List.mem_cons_self, List.map_cons, fm_map fun m hm => h m (List.mem_cons_of_mem _ hm)]
theorem pick_back (xs : Array Value) : ((List.range xs.size).filterMap fun (m : Nat) => xs[(((xs.size : Int) - 1) + (m : Int) * (-1)).toNat]?).toArray = xs.toList.reverse.toArray := by
  congr 1
  apply List.ext_getElem?
  intro i
  have e : ((List.range xs.size).filterMap fun (m : Nat) => xs[(((xs.size : Int) - 1) + (m : Int) * (-1)).toNat]?) = (List.range xs.size).map fun m => xs[xs.size - 1 - m]! := by
    apply fm_map
    intro m hm
    rw [List.mem_range] at hm
    rw [show ((xs.size : Int) - 1 + (m : Int) * (-1)).toNat = xs.size - 1 - m by omega]
    have hlt : xs.size - 1 - m < xs.size := by omega
    rw [Array.getElem?_eq_getElem hlt]
    simp [hlt]
  rw [e]
  by_cases hi : i < xs.size
  · rw [List.getElem?_map, List.getElem?_range hi]
    have hlt : xs.size - 1 - i < xs.size := by omega
    rw [List.getElem?_reverse (by simpa using hi)]
    simp [hlt]
  · rw [List.getElem?_eq_none (by simpa using hi), List.getElem?_eq_none (by simpa using hi)]
section
variable {prog : Program} {w : World} {A : Around} {E : Value → Shared → Prop} {s : Shared}
theorem item_back {t sl : Addr} {items : Array Value} {tk : Tok} {Q : Value → Shared → Prop} (ht : IsTup s.heap t items) (hs : s.heap.IsSliceOf sl .none .none (.int (-1) tk))
    (h : Q (.ref s.heap.objs.size) { s with heap := s.heap.push { cls := .type "tuple", data := .seq items.toList.reverse.toArray } }) (hsz : items.size ≤ sizeLine) : wpAny (model prog w) A (getItem (.ref t) (.ref sl)) Q E s := by
  have fits : sizeOk (.seq items.toList.reverse.toArray) := by
    show items.toList.reverse.toArray.size ≤ sizeLine
    simpa using hsz
  obtain ⟨osl, at_, cl, dat⟩ := id hs
  have tyS : s.TypeIs (.ref sl) "slice" := ⟨osl, at_, cl⟩
  unfold getItem
  try with_reducible refine wpAny_holding ?_
  first | refine wpAny_bind (wpAny_pure ?_) | skip
  refine wpAny_bind (wpAny_sequenceKey ht.typeIs (by decide) ?_)
  refine wpAny_bind (wpAny_callSpecial?_slot (name := Str.ofString "__getitem__") ht.typeIs PyProof.Rows.slot_tuple_getitem
    (wpAny_call_entry PyProof.Rows.slot_tuple_getitem ht.typeIs entry_tuple_getitem ?_ (args_tuple_getitem _ _)))
  show wpAny _ _ (Builtin.Tuple.tupleItemsOf (.ref t) >>= _) _ _ s
  refine wpAny_bind (tupleItemsOf_ ht ?_)
  refine wpAny_bind (wpAny_typeOf tyS ?_)
  rw [if_pos (by decide)]
  refine wpAny_bind (applied_back hs ?_)
  have no : ¬ ((((items.size : Int) - 1) == 0 && (-1 : Int) == 1 && items.size == items.size) = true) := by
    intro q
    rw [Bool.and_eq_true, Bool.and_eq_true] at q
    exact absurd q.1.2 (by decide)
  show wpAny _ _ (if (((items.size : Int) - 1) == 0 && (-1 : Int) == 1 && items.size == items.size) = true then _ else _) _ _ s
  rw [if_neg no, pick_back]
  first
    | exact wpAny_bind (m := Builtin.Tuple.tupleExact _) (wpAny_newObj_type (wpAny_pure ⟨_, rfl, wpAny_pure h⟩) fits)
    | exact wpAny_bind (m := Builtin.Tuple.tupleExact _) (wpAny_newObj_type (wpAny_bind (wpAny_pure (wpAny_pure ⟨_, rfl, wpAny_pure h⟩))) fits)
    | exact wpAny_bind (wpAny_bind (m := Builtin.Tuple.tupleExact _) (wpAny_newObj_type (wpAny_pure (wpAny_pure ⟨_, rfl, wpAny_pure h⟩)) fits))
    | exact wpAny_bind (wpAny_bind (m := Builtin.Tuple.tupleExact _) (wpAny_newObj_type (wpAny_pure ⟨_, rfl, wpAny_pure h⟩) fits))
end
end L3
namespace L3
open PySem PySem.Spec PyProof.Rows L2
def rBack (K : PySem.W.Frag) (x : V) (H : Hp) (Q : VK) : Prop := (∃ a xs, x = .ref a ∧ SqL K H a xs ∧ ∀ p, H p = none → Q (.ref p) (upd H p (.lst xs.reverse))) ∨ ∃ a xs, x = .ref a ∧ SqT K H a xs ∧ ∀ p, H p = none → Q (.ref p) (upd H p (.tup xs.reverse))
theorem pe_back {X : Cx} {e : Expr} {te : TE} {k : Nat} {p1 p2 p3 pos : Pos} (he : PE X e te) : PE X (.Subscript e (.Slice none none (some (.UnaryOp .USub (.Constant (.int 1) k p1) p2)) p3) pos) (fun σ H Q => te σ H fun x H1 => rBack X.K x H1 Q) := by
  refine ⟨fun pins s σ H Q I asks => ?_⟩
  refine Subscript_ (thn (he.run pins s σ H _ I asks) fun v s1 ⟨x, H1, I1, r1, q1⟩ => ?_)
  have minus : PO X (some (.UnaryOp .USub (.Constant (.int 1) k p1) p2)) (tPart (tUn (rU fun i => .int (-i)) (tC (.int 1)))) := po_some (pe_un un_neg pe_int)
  refine wpAny_Slice (thn (po_none.run pins s1 σ H1 (fun o H2 => o = none ∧ H2 = H1) I1 ⟨rfl, rfl⟩) fun vl s2 ⟨l, H2, I2, pl, el, e2⟩ => ?_)
  subst el e2
  refine thn (po_none.run pins s2 σ H2 (fun o H3 => o = none ∧ H3 = H2) I2 ⟨rfl, rfl⟩) fun vu s3 ⟨u, H3, I3, pu, eu, e3⟩ => ?_
  subst eu e3
  refine thn (minus.run pins s3 σ H3 (fun o H4 => o = some (-1) ∧ H4 = H3) I3 ⟨1, rfl, -1, rfl, rfl, rfl⟩) fun vs s4 ⟨o, H4, I4, ps, eo, e4⟩ => ?_
  subst eo e4
  have I5 : Inv X pins σ H4 { s4 with heap := s4.heap.push { cls := .type "slice", data := .fields #[vl, vu, vs] } } := I4.kept (t' := s4.toks) fun b ob q => Heap.get?_push_of_some _ q
  rcases q1 with ⟨a, xs, ex, hx, q⟩ | ⟨a, xs, ex, hx, q⟩
  · subst ex
    cases r1
    obtain ⟨its, r, ht, hz⟩ := I5.list hx
    have same := r.length
    show wpAny (model X.prog X.w) X.A (subscriptTail e (.Slice none none (some (.UnaryOp .USub (.Constant (.int 1) k p1) p2)) p3) (.ref a) (.ref s4.heap.objs.size)) (EP X pins σ Q) X.xe { s4 with heap := s4.heap.push { cls := .type "slice", data := .fields #[vl, vu, vs] } }
    refine tail_any (ops := [.ref a, .ref s4.heap.objs.size]) ht.isList.typeIs (PySem.slot_list_getitem.lookup) ?_ (by with_unfolding_all rfl)
    refine wpAny_getItem_list_slice ht.isList (Heap.IsSliceOf.new _ vl vu vs) pl pu ps (by decide) ?_ (by rw [List.size_toArray]; omega)
    rw [PySem.W.krv_pick]
    refine ⟨.ref _, _, I5.laid (t' := s4.toks) (o := .lst xs.reverse) (fun b ob q => Heap.get?_push_of_some _ q) (Nat.le_refl _) ?_, rfl, q _ (I5.hok.fresh (Nat.le_refl _))⟩
    exact ⟨by rw [List.length_reverse]; exact hz, _, 0, r.reverse, Heap.get?_push_size _ rfl⟩
  · subst ex
    cases r1
    cases pl
    cases pu
    obtain ⟨tk, rfl⟩ : ∃ tk, vs = .int (-1) tk := by cases ps; exact ⟨_, rfl⟩
    obtain ⟨its, r, ht, hz⟩ := I5.tuple hx
    have same : its.toArray.size = xs.length := by rw [List.size_toArray]; exact r.length.symm
    show wpAny (model X.prog X.w) X.A (subscriptTail e (.Slice none none (some (.UnaryOp .USub (.Constant (.int 1) k p1) p2)) p3) (.ref a) (.ref s4.heap.objs.size)) (EP X pins σ Q) X.xe { s4 with heap := s4.heap.push { cls := .type "slice", data := .fields #[.none, .none, .int (-1) tk] } }
    refine tail_any (ops := [.ref a, .ref s4.heap.objs.size]) ht.typeIs (PyProof.Rows.slot_tuple_getitem.lookup) ?_ (by with_unfolding_all rfl)
    refine item_back ht (Heap.IsSliceOf.new ..) ?_ (by rw [same]; exact hz)
    refine ⟨.ref _, _, I5.laid (t' := s4.toks) (o := .tup xs.reverse) (fun b ob q => Heap.get?_push_of_some _ q) (Nat.le_refl _) ?_, rfl, q _ (I5.hok.fresh (Nat.le_refl _))⟩
    exact ⟨by rw [List.length_reverse]; exact hz, _, r.reverse, IsTup.new _ _⟩
/-- xs[::-1]: a new list; a new tuple -/
def backOf (ρ : Rho) (o : Option D) : Rs Vf :=
  match o with
  | some (.list xs) => .ok (.fr (.list xs.reverse)) ρ
  | some (.tuple xs) => .ok (.v (.d (.tuple xs.reverse))) ρ
  | _ => .bad
def sBack (a : Rho → Rs Vl) : Rho → Rs Vf := fun ρ => (a ρ).bind fun x ρ => backOf ρ (x.cont ρ)
theorem wBack {X : Cx} {G : Gx} {k0 : Nat} (C : Cok X G k0) {e : Expr} {se : Rho → Rs Vl} {k : Nat} {p1 p2 p3 pos : Pos} (he : PE X e (tE G se)) : DF X G (.Subscript e (.Slice none none (some (.UnaryOp .USub (.Constant (.int 1) k p1) p2)) p3) pos) (sBack se) := by
  refine ⟨PE.imp (pe_back he) fun σ H Q asks => ?_, fun _ => rfl⟩
  obtain ⟨ρ, F, O, w, asks⟩ := asks
  refine Tgt.finF.bind w asks fun x ρ1 v H1 F1 w1 s1 rx h1 => ?_
  unfold backOf at h1
  split at h1
  · rename_i xs e1
    obtain ⟨b, us, rfl, q, r⟩ := (w1.at rx e1).list w1.f
    exact .inl ⟨b, us, rfl, SqL.of q, fun p hp => w1.laidF h1 hp r.reverse⟩
  · rename_i xs e1
    obtain ⟨b, us, rfl, _, q, r⟩ := (w1.at rx e1).tuple w1.f
    exact .inr ⟨b, us, rfl, by rw [C.K]; exact q, fun p hp => h1 _ _ _ (w1.alloc hp) (sub_upd (w1.f.none hp)) (Rp.tup upd_same (r.reverse.mono (sub_upd (w1.f.none hp))))⟩
  · exact h1.elim
end L3
/-! L3, part 21: list(range(..)), tuple(range(..)), reversed. -/
namespace L3
open PySem PySem.Spec PyProof.Rows L2
theorem Rs.bind_assoc {α β γ : Type} {r : Rs α} {f : α → Rho → Rs β} {g : β → Rho → Rs γ} : (r.bind f).bind g = r.bind fun a ρ => (f a ρ).bind g := by cases r <;> rfl
def rgOk (a b : Int) : Bool := in62 a && in62 b && decide ((b - a).toNat ≤ 2 ^ 24)
theorem rgOk_iff {a b : Int} (h : rgOk a b = true) : RgOk a b := by
  simp only [rgOk, Bool.and_eq_true, decide_eq_true_eq] at h
  obtain ⟨⟨h1, h2⟩, h3⟩ := h
  obtain ⟨a1, a2⟩ := in62_iff.mp h1
  obtain ⟨b1, b2⟩ := in62_iff.mp h2
  exact ⟨a1, a2, b1, b2, h3⟩
/-- the ends of a range, written out -/
inductive REnds where
  | one (a : Rho → Rs Vl) | two (a b : Rho → Rs Vl)
def ends2 (x y : Option D) (ρ : Rho) : Rs (Int × Int) :=
  match x, y with
  | some (.int i), some (.int j) => if rgOk i j then .ok (i, j) ρ else .bad
  | _, _ => .bad
def sEnds : REnds → Rho → Rs (Int × Int)
  | .one a, ρ => (a ρ).bind fun x ρ => ends2 (some (.int 0)) (x.cont ρ) ρ
  | .two a b, ρ => (a ρ).bind fun x ρ => (b ρ).bind fun y ρ => ends2 (x.cont ρ) (y.cont ρ) ρ
def rgD (p : Int × Int) : List D := rngD p.1 1 (p.2 - p.1).toNat
def sLrg (r : REnds) : Rho → Rs Vf := fun ρ => (sEnds r ρ).bind fun p ρ => .ok (.fr (.list (rgD p))) ρ
def sTrg (r : REnds) : Rho → Rs Vl := fun ρ => (sEnds r ρ).bind fun p ρ => .ok (.d (.tuple (rgD p))) ρ
theorem rg_rel {K : PySem.W.Frag} {F : Hp} {a b : Int} : RpL K F (rgV a b) (rngD a 1 (b - a).toNat) := by
  unfold rgV rngD
  generalize (b - a).toNat = n
  induction (List.range n) with
  | nil => exact .nil
  | cons i r ih =>
    simp only [List.map_cons]
    refine .cons ?_ ih
    rw [Int.mul_one]
    exact .int _
/-- what a range written out asks -/
structure DRg (X : Cx) (G : Gx) (e : Expr) (r : REnds) : Prop where
  ex : ∃ t, PRg X e t ∧ ∀ {α : Type} {P : Hp → Rs α → Prop} {O : Fm} {σ : L2.St} {H F : Hp} {ρ : Rho} {f : Int × Int → Rho → Rs α} {Q : Int → Int → Hp → Prop}, Tgt G O σ P → Wd G.K F O ρ σ H → P F ((sEnds r ρ).bind f) →
    (∀ i j ρ1 H1 F1, Wd G.K F1 O ρ1 σ H1 → Sub F F1 → rgOk i j = true → P F1 (f (i, j) ρ1) → Q i j H1) → t σ H Q
section
variable {X : Cx} {G : Gx} {k : Nat} {a b : Expr} {sa sb : Rho → Rs Vl} {p pos : Pos}
theorem ends_at {P : Hp → Rs α → Prop} {O : Fm} {σ : L2.St} {F : Hp} {ρ : Rho} {f : Int × Int → Rho → Rs α} {x y : Option D} (T : Tgt G O σ P) (h : P F ((ends2 x y ρ).bind f)) : ∃ i j, x = some (.int i) ∧ y = some (.int j) ∧ rgOk i j = true ∧ P F (f (i, j) ρ) := by
  unfold ends2 at h
  split at h
  · rename_i i j
    split at h
    · exact ⟨i, j, rfl, rfl, ‹_›, h⟩
    · exact (T.bad h).elim
  · exact (T.bad h).elim
theorem rg1 (hm : X.mg "range" = none) (ha : PE X a (tE G sa)) (hg : Gl X "range" := by rfl) (na : starEach [a] X.env = (false, eval a X.env) :: starEach [] X.env := by rfl) : DRg X G (.Call (.Name "range" p) [a] [] pos) (.one sa) := by
  refine ⟨_, prg_1 hg hm ha na, fun {α P O σ H F ρ f Q} T w h k => ?_⟩
  rw [show sEnds (.one sa) ρ = (sa ρ).bind fun x ρ => ends2 (some (.int 0)) (x.cont ρ) ρ from rfl, Rs.bind_assoc] at h
  refine T.bind w h fun x ρ1 v H1 F1 w1 s1 rx h1 => ?_
  obtain ⟨i, j, e1, e2, ok, h2⟩ := ends_at T h1
  cases e1
  exact ⟨j, (w1.at rx e2).int, k 0 j ρ1 H1 F1 w1 s1 ok h2⟩
theorem rg2 (hm : X.mg "range" = none) (ha : PE X a (tE G sa)) (hb : PE X b (tE G sb)) (hg : Gl X "range" := by rfl) (na : starEach [a, b] X.env = (false, eval a X.env) :: starEach [b] X.env := by rfl) (nb : starEach [b] X.env = (false, eval b X.env) :: starEach [] X.env := by rfl) (np : (backTo pos (starEach [b] X.env)).any (·.1) = false := by rfl) : DRg X G (.Call (.Name "range" p) [a, b] [] pos) (.two sa sb) := by
  refine ⟨_, prg_2 hg hm ha hb na nb np, fun {α P O σ H F ρ f Q} T w h k => ?_⟩
  rw [show sEnds (.two sa sb) ρ = (sa ρ).bind fun x ρ => (sb ρ).bind fun y ρ => ends2 (x.cont ρ) (y.cont ρ) ρ from rfl] at h
  simp only [Rs.bind_assoc] at h
  refine T.bind w h fun x ρ1 v H1 F1 w1 s1 rx h1 => T.bind w1 h1 fun y ρ2 u H2 F2 w2 s2 ry h2 => ?_
  obtain ⟨i, j, e1, e2, ok, h3⟩ := ends_at T h2
  exact ⟨i, j, (w2.at (rx.mono s2) e1).int, (w2.at ry e2).int, k i j ρ2 H2 F2 w2 (s1.trans s2) ok h3⟩
theorem wLrg {e : Expr} {r : REnds} (C : Cok X G k) (hm : X.mg "list" = none) (h : DRg X G e r) (hg : Gl X "list" := by rfl) (na : starEach [e] X.env = (false, eval e X.env) :: starEach [] X.env := by rfl) : DF X G (.Call (.Name "list" p) [e] [] pos) (sLrg r) := by
  obtain ⟨t, h1, h2⟩ := h.ex
  refine ⟨PE.imp (pe_listRg C.c hg hm h1 na) fun σ H Q asks => ?_, fun _ => rfl⟩
  obtain ⟨ρ, F, O, w, asks⟩ := asks
  exact h2 Tgt.finF w asks fun i j ρ1 H1 F1 w1 s1 ok k1 => ⟨rgOk_iff ok, fun q hq => w1.laidF k1 hq rg_rel⟩
theorem wTrg {e : Expr} {r : REnds} (C : Cok X G k) (hm : X.mg "tuple" = none) (h : DRg X G e r) (hg : Gl X "tuple" := by rfl) (na : starEach [e] X.env = (false, eval e X.env) :: starEach [] X.env := by rfl) : DE X G (.Call (.Name "tuple" p) [e] [] pos) (sTrg r) := by
  obtain ⟨t, h1, h2⟩ := h.ex
  refine .val (PE.imp (pe_tupRg C.c hg hm h1 na) fun σ H Q asks => ?_) fun _ => rfl
  obtain ⟨ρ, F, O, w, asks⟩ := asks
  exact h2 Tgt.fin w asks fun i j ρ1 H1 F1 w1 s1 ok k1 => ⟨rgOk_iff ok, fun q hq => k1 _ _ _ (w1.alloc hq) (sub_upd (w1.f.none hq)) (Rp.tup upd_same rg_rel)⟩
end
end L3
/-! L3, part 22: reversed(..) as what is walked. -/
namespace L3
open PySem PySem.Spec PyProof.Rows L2
theorem rev_at {ds : List D} {i : Nat} {d : D} (e : ds.reverse[i]? = some d) : i < ds.length ∧ ds[ds.length - 1 - i]? = some d := by
  have hi : i < ds.length := by simpa using (List.getElem?_eq_some_iff.mp e).1
  rw [List.getElem?_reverse hi] at e
  exact ⟨hi, e⟩
theorem feed_rev {K : PySem.W.Frag} {F : Hp} {a : Addr} {vs : List V} {ds : List D} (h : SqL K F a vs) (r : RpL K F vs ds) : Feed K F (Itv K a vs.length) ds.reverse := by
  intro F' O ρ σ H w s i
  have q : SqL K H a vs := (s.trans w.f).sqL h
  refine ⟨fun d e => ?_, fun hi => by rw [List.length_reverse, ← r.length] at hi; exact Nat.le_of_eq hi.symm⟩
  obtain ⟨hi, e0⟩ := rev_at e
  rw [← r.length] at hi e0
  obtain ⟨v, e1, r1⟩ := r.get e0
  refine ⟨⟨hi, vs, v, q, e1⟩, fun x H' y => ?_⟩
  obtain ⟨rfl, y⟩ := y
  have := y vs q
  rw [e1] at this; cases this
  exact ⟨F', w, Sub.refl _, r1.mono s, fun _ _ => rfl⟩
theorem feed_revT {K : PySem.W.Frag} {F : Hp} {a : Addr} {vs : List V} {ds : List D} (h : SqT K F a vs) (r : RpL K F vs ds) : Feed K F (RT.ItvT K a vs.length) ds.reverse := by
  intro F' O ρ σ H w s i
  have q : SqT K H a vs := (s.trans w.f).sqT h
  refine ⟨fun d e => ?_, fun hi => by rw [List.length_reverse, ← r.length] at hi; exact Nat.le_of_eq hi.symm⟩
  obtain ⟨hi, e0⟩ := rev_at e
  rw [← r.length] at hi e0
  obtain ⟨v, e1, r1⟩ := r.get e0
  refine ⟨⟨hi, vs, v, q, e1⟩, fun x H' y => ?_⟩
  obtain ⟨rfl, y⟩ := y
  have := y vs q
  rw [e1] at this; cases this
  exact ⟨F', w, Sub.refl _, r1.mono s, fun _ _ => rfl⟩
/-- reversed(x) -/
def sRev (e : Rho → Rs Vl) : Rho → Rs (List D) := fun ρ => (e ρ).bind fun x ρ => (frz x ρ).bind fun d ρ => ofO ((itemsD d).map List.reverse) ρ
theorem irv {X : Cx} {G : Gx} {k : Nat} {tg e : Expr} {s : Rho → Rs Vl} {p pos : Pos} (C : Cok X G k) (hm : X.mg "reversed" = none) (he : PE X e (tE G s)) (hg : Gl X "reversed" := by rfl) (hs : starEach [e] X.env = (false, eval e X.env) :: starEach [] X.env := by rfl) : DI X G tg (.Call (.Name "reversed" p) [e] [] pos) (sRev s) := by
  refine PI.imp (RT.pi_revA hg hm he hs) fun σ H R asks => ?_
  obtain ⟨ρ, F, O, w, asks⟩ := asks
  refine Tgt.finI.bind w asks fun x ρ1 v H1 F1 w1 s1 rx h1 => ?_
  obtain ⟨d, ρ2, F2, w2, s2, r2, h2⟩ := Tgt.finI.frz w1 rx h1
  obtain ⟨ds, e1, h3⟩ := ofO_fin Tgt.finI h2
  rw [C.K]
  cases d with
  | list xs =>
    cases e1
    cases r2 with
    | lst q0 r0 => exact ⟨_, _, rfl, .inl ⟨SqL.of (w2.f.eq q0), h3 _ H1 F2 w2 (Sub.refl _) (feed_rev (SqL.of q0) r0)⟩⟩
  | tuple xs =>
    cases e1
    cases r2 with
    | tup q0 r0 => exact ⟨_, _, rfl, .inr ⟨.inl (.inl (w2.f.eq q0)), h3 _ H1 F2 w2 (Sub.refl _) (feed_revT (.inl (.inl q0)) r0)⟩⟩
  | _ => cases e1
end L3
/-! L3, part 23: sorted(set(t)) of a tuple of whole numbers. -/
namespace L3
open PySem PySem.Spec PyProof.Rows L2
/-- rising, each once -/
def insU (x : Int) : List Int → List Int
  | [] => [x]
  | y :: r => if x < y then x :: y :: r else if x = y then y :: r else y :: insU x r
def sortU : List Int → List Int
  | [] => []
  | x :: r => insU x (sortU r)
theorem insU_mem {x y : Int} : ∀ {l : List Int}, y ∈ insU x l ↔ y = x ∨ y ∈ l
  | [] => by simp [insU]
  | z :: r => by
    unfold insU
    split
    · simp
    · split
      · rename_i h; subst h; simp
      · rw [List.mem_cons, insU_mem, List.mem_cons]
        exact ⟨fun h => by rcases h with h | h | h <;> simp [h], fun h => by rcases h with h | h | h <;> simp [h]⟩
theorem sortU_mem {y : Int} : ∀ {l : List Int}, y ∈ sortU l ↔ y ∈ l
  | [] => by simp [sortU]
  | x :: r => by unfold sortU; rw [insU_mem, sortU_mem, List.mem_cons]
theorem insU_rise {x : Int} : ∀ {l : List Int}, l.Pairwise (· < ·) → (insU x l).Pairwise (· < ·)
  | [], _ => List.pairwise_singleton _ _
  | y :: r, h => by
    have h' := List.pairwise_cons.mp h
    unfold insU
    split
    · rename_i hxy
      exact List.pairwise_cons.mpr ⟨fun z hz => by rcases List.mem_cons.mp hz with e | e; exact e ▸ hxy; have := h'.1 z e; omega, h⟩
    · split
      · exact h
      · exact List.pairwise_cons.mpr ⟨fun z hz => by rcases insU_mem.mp hz with e | e; omega; exact h'.1 z e, insU_rise h'.2⟩
theorem sortU_rise : ∀ l : List Int, (sortU l).Pairwise (· < ·)
  | [] => .nil
  | _ :: r => insU_rise (sortU_rise r)
theorem rise_unique : ∀ {l m : List Int}, l.Pairwise (· < ·) → m.Pairwise (· < ·) → (∀ k, k ∈ l ↔ k ∈ m) → l = m
  | [], [], _, _, _ => rfl
  | [], y :: m, _, _, h => absurd ((h y).mpr List.mem_cons_self) (by simp)
  | x :: l, [], _, _, h => absurd ((h x).mp List.mem_cons_self) (by simp)
  | x :: l, y :: m, hl, hm, h => by
    have h1 := List.pairwise_cons.mp hl
    have h2 := List.pairwise_cons.mp hm
    have e : x = y := by
      rcases List.mem_cons.mp ((h x).mp List.mem_cons_self) with e | e
      · exact e
      · rcases List.mem_cons.mp ((h y).mpr List.mem_cons_self) with e' | e'
        · exact e'.symm
        · have a := h2.1 x e; have b := h1.1 y e'; omega
    subst e
    rw [rise_unique h1.2 h2.2 fun k => ⟨fun hk => by
      rcases List.mem_cons.mp ((h k).mp (List.mem_cons_of_mem _ hk)) with e | e
      · have := h1.1 k hk; omega
      · exact e, fun hk => by
      rcases List.mem_cons.mp ((h k).mpr (List.mem_cons_of_mem _ hk)) with e | e
      · have := h2.1 k hk; omega
      · exact e⟩]
def tSortSet (K : PySem.W.Frag) (ta : TE) : TE := fun σ H Q => ta σ H fun x H1 => ∃ (l : Addr) (ns : List Int), x = .ref l ∧ SqT K H1 l (ns.map V.int) ∧ ns.length < 64 ∧
  ∀ (ms : List Int) (p : Addr), ms.Pairwise (· < ·) → (∀ k, k ∈ ms ↔ k ∈ ns) → H1 p = none → Q (.ref p) (upd H1 p (.lst (ms.map V.int)))
theorem pe_sortSet {X : Cx} {a : Expr} {ta : TE} {p p2 q pos : Pos} (gs : Gl X "sorted") (ms : X.mg "sorted" = none) (gt : Gl X "set") (mt : X.mg "set" = none) (ha : PE X a ta) (hc : X.calm = true)
    (na : starEach [a] X.env = (false, eval a X.env) :: starEach [] X.env) : PE X (.Call (.Name "sorted" p) [.Call (.Name "set" p2) [a] [] q] [] pos) (tSortSet X.K ta) := by
  refine ⟨fun ps s σ H Q I asks => ?_⟩
  refine Call_ (ld_blt I gs ms (show bootBuiltins "sorted" = some (.builtin "sorted") by decide +kernel) ?_)
  refine PyProof.Rows.callWith_builtin1 (PyProof.Rows.args_cons ?_ rfl) rfl rfl
  refine Call_ (ld_blt I gt mt boot_set ?_)
  refine PyProof.Rows.callWith_type1 (PyProof.Rows.args_cons (thn (ha.run ps s σ H _ I asks) fun v s1 ⟨x, H1, J1, r1, q1⟩ => PyProof.Rows.args_nil ?_) na) na rfl
  obtain ⟨l, ns, rfl, sq, l64, q1⟩ := q1
  cases r1
  obtain ⟨its, rv, pt, _⟩ := J1.tuple sq
  have cold := J1.ok.hd hc
  refine call_set_tupI ns cold (show s1.heap.IsTuple l its.toArray from pt) (by simpa using ints_of_vals rv) (by unfold scanBound; omega) fun h2 tk c R2 cle kept => ?_
  refine PyProof.Rows.args_nil ?_
  have J2 : Inv X ps σ H1 { s1 with heap := h2, toks := tk } := J1.kept fun b o e => kept b o e
  refine sorted_set (s := { s1 with heap := h2, toks := tk }) R2 cold (by omega) fun s3 t out n3 ms k3 g3 o3 fresh at3 iv rise mem len => ?_
  have small : (ms.map V.int).length ≤ sizeLine := by rw [List.length_map, len, sizeLine_eq]; omega
  have new3 : H1 t = none := J2.hok.fresh fresh
  have J3 : Inv X ps σ (upd H1 t (.lst (ms.map V.int))) { s1 with heap := s3.heap, gens := s3.gens, drawn := s3.drawn, toks := s3.toks } :=
    Inv.call (s := { s1 with heap := h2, toks := tk }) J2 (ch := []) (Un.laid k3 fresh new3) (J2.hok.laid k3 fresh ⟨small, out.toList, n3, vals_of_ints iv, at3⟩) (by rw [g3]; exact J2.bare) (fun _ z => nomatch z)
  have e3 : s3 = { s1 with heap := s3.heap, gens := s3.gens, drawn := s3.drawn, toks := s3.toks } := by
    cases s3
    cases s1
    cases o3
    rfl
  rw [e3]
  exact ⟨.ref t, _, J3, rfl, q1 ms t rise (fun k => by rw [mem k, decide_eq_true_eq]) new3⟩
/-- sorted(set(t)) -/
def sortSetD : D → Option D
  | .tuple xs => (intsD xs).bind fun ns => if ns.length < 64 then some (.list ((sortU ns).map .int)) else none
  | _ => none
def sSortSet (a : Rho → Rs Vl) : Rho → Rs Vf := fun ρ => (a ρ).bind fun x ρ => retF ρ ((x.cont ρ).bind sortSetD)
theorem wSortSet {X : Cx} {G : Gx} {k : Nat} {a : Expr} {sa : Rho → Rs Vl} {p p2 q pos : Pos} (C : Cok X G k) (ms : X.mg "sorted" = none) (mt : X.mg "set" = none) (ha : PE X a (tE G sa)) (gs : Gl X "sorted" := by rfl) (gt : Gl X "set" := by rfl) (na : starEach [a] X.env = (false, eval a X.env) :: starEach [] X.env := by rfl) :
    DF X G (.Call (.Name "sorted" p) [.Call (.Name "set" p2) [a] [] q] [] pos) (sSortSet sa) := by
  refine ⟨PE.imp (pe_sortSet gs ms gt mt ha C.c na) fun σ H Q asks => ?_, fun _ => rfl⟩
  obtain ⟨ρ, F, O, w, asks⟩ := asks
  refine Tgt.finF.bind w asks fun x ρ1 v H1 F1 w1 s1 rx h1 => ?_
  cases e : (x.cont ρ1).bind sortSetD with
  | none => rw [e] at h1; exact h1.elim
  | some z =>
    rw [e] at h1
    obtain ⟨d, e1, e2⟩ := Option.bind_eq_some_iff.mp e
    cases d with
    | tuple xs =>
      obtain ⟨ns, e3, e4⟩ := Option.bind_eq_some_iff.mp (show (intsD xs).bind _ = some z from e2)
      split at e4
      · rename_i l64
        cases e4
        obtain ⟨b, us, rfl, _, sq, r⟩ := (w1.at rx e1).tuple w1.f
        obtain ⟨rfl, rfl⟩ := intsD_rel r e3
        refine ⟨b, ns, rfl, by rw [C.K]; exact sq, l64, fun ms t rise mem new => ?_⟩
        have : ms = sortU ns := rise_unique rise (sortU_rise ns) fun k => (mem k).trans sortU_mem.symm
        subst this
        exact w1.laidF h1 new (RpL.ints _)
      · cases e4
    | _ => cases e2
end L3
/-! L3, part 24: a, b = x, y where new lists stay owned. -/
namespace L3
open PySem PySem.Spec PyProof.Rows L2
def freshOf : List V → List Vf → List V
  | v :: vs, .fr _ :: xs => v :: freshOf vs xs
  | _ :: vs, .v _ :: xs => freshOf vs xs
  | _, _ => []
inductive Items (K : PySem.W.Frag) (F : Hp) (O : Fm) (ρ : Rho) (σ : L2.St) (H : Hp) : List V → List Vf → Prop
  | nil : Items K F O ρ σ H [] []
  | v {v : V} {x : Vl} {vs : List V} {xs : List Vf} : RV K F σ v x → Items K F O ρ σ H vs xs → Items K F O ρ σ H (v :: vs) (.v x :: xs)
  | fr {a : Addr} {d : D} {vs : List V} {xs : List Vf} : FreshAt K F O ρ σ H a d → V.ref a ∉ freshOf vs xs → Items K F O ρ σ H vs xs → Items K F O ρ σ H (.ref a :: vs) (.fr d :: xs)
def FinFs (G : Gx) (F : Hp) (O : Fm) (σ : L2.St) (Q : List V → Hp → Prop) : Rs (List Vf) → Prop
  | .ok xs ρ' => ∀ vs H' F', Wd G.K F' O ρ' σ H' → Sub F F' → Items G.K F' O ρ' σ H' vs xs → Q vs H'
  | .err x ρ' => ∀ c dd H' F', Wd G.K F' O ρ' σ H' → Sub F F' → XAt G.K F' G.cn c dd x → G.W c dd σ H'
  | .bad => False
def tFs (G : Gx) (s : Rho → Rs (List Vf)) : TA := fun σ H Q => ∃ ρ F O, Wd G.K F O ρ σ H ∧ FinFs G F O σ Q (s ρ)
theorem FinFs.mono {G : Gx} {F F1 : Hp} {O : Fm} {σ : L2.St} {Q : List V → Hp → Prop} (s : Sub F F1) : ∀ {r : Rs (List Vf)}, FinFs G F O σ Q r → FinFs G F1 O σ Q r
  | .ok _ _, h => fun vs H' F' w z => h vs H' F' w (s.trans z)
  | .err _ _, h => fun c dd H' F' w z x => h c dd H' F' w (s.trans z) x
  | .bad, h => h
def fNil : Rho → Rs (List Vf) := fun ρ => .ok [] ρ
def fCons (a : Rho → Rs Vf) (r : Rho → Rs (List Vf)) : Rho → Rs (List Vf) := fun ρ => (a ρ).bind fun x ρ => (r ρ).bind fun xs ρ => .ok (x :: xs) ρ
section
variable {K : PySem.W.Frag} {F : Hp} {O : Fm} {ρ : Rho} {σ : L2.St} {H : Hp} {a : Addr} {d : D} {u : HO}
/-- a fresh one is kept aside -/
theorem Wd.hold (w : Wd K F O ρ σ H) (x : FreshAt K F O ρ σ H a d) (hu : H a = some u) : Wd K F (O.add a u) ρ σ H := by
  refine ⟨w.len, w.f, fun b y e => ?_, fun b y e => ?_, w.val, fun i c e hi hc => ?_, w.pr, w.wl, w.lk, w.ap⟩
  · by_cases z : b = a
    · subst z
      rw [show (O.add b u).o b = some u from upd_same] at e; cases e
      exact hu
    · rw [show (O.add a u).o b = O.o b from upd_ne z] at e
      exact w.o b y e
  · by_cases z : b = a
    · subst z; exact x.f
    · rw [show (O.add a u).o b = O.o b from upd_ne z] at e
      exact w.fo b y e
  · obtain ⟨b, q1, q2, q3, q4⟩ := w.own i c e hi hc
    have ne : b ≠ a := fun z => x.ap i c e hi hc (z ▸ q1)
    exact ⟨b, q1, q2, by rw [show (O.add a u).o b = O.o b from upd_ne ne]; exact q3, q4⟩
/-- it is there as it was -/
theorem Wd.held {F' : Hp} {ρ' : Rho} {H' : Hp} (w : Wd K F' (O.add a u) ρ' σ H') (n : O.o a = none) (hu : H a = some u) (at_ : OwnAt K F H a d) (s : Sub F F') : FreshAt K F' O ρ' σ H' a d := by
  have ha : (O.add a u).o a = some u := upd_same
  refine ⟨w.fo a _ ha, n, at_.mono s ((w.o a _ ha).trans hu.symm), fun i c e hi hc h => ?_⟩
  obtain ⟨b, q1, q2, q3, q4⟩ := w.own i c e hi hc
  rw [h] at q1; cases q1
  rw [ha] at q3; cases q3
theorem Items.unO {vs : List V} {xs : List Vf} (n : O.o a = none) (h : Items K F (O.add a u) ρ σ H vs xs) : Items K F O ρ σ H vs xs ∧ V.ref a ∉ freshOf vs xs := by
  induction h with
  | nil => exact ⟨.nil, by simp [freshOf]⟩
  | v r _ ih => exact ⟨.v r ih.1, ih.2⟩
  | @fr b e vs xs x nb _ ih =>
    have hb : (O.add a u).o b = none := x.o
    have ne : b ≠ a := fun z => by subst z; rw [show (O.add b u).o b = some u from upd_same] at hb; cases hb
    refine ⟨.fr ⟨x.f, by rw [show (O.add a u).o b = O.o b from upd_ne ne] at hb; exact hb, x.at_, x.ap⟩ nb ih.1, fun hm => ?_⟩
    rcases List.mem_cons.mp (show V.ref a ∈ V.ref b :: freshOf vs xs from hm) with e | e
    · cases e; exact ne rfl
    · exact ih.2 e
end
section
variable {X : Cx} {G : Gx} {k : Nat} {e : Expr} {es : List Expr} {sf : Rho → Rs Vf} {ss : Rho → Rs (List Vf)}
theorem daf_nil : PA X [] (tFs G fNil) := PA.imp pa_nil fun σ H Q asks => by
  obtain ⟨ρ, F, O, w, asks⟩ := asks
  exact asks [] H F w (Sub.refl _) .nil
theorem daf_cons (he : PE X e (tF G sf)) (hr : PA X es (tFs G ss)) (hs : starEach (e :: es) X.env = (false, eval e X.env) :: starEach es X.env) : PA X (e :: es) (tFs G (fCons sf ss)) := by
  refine PA.imp (pa_cons he hr hs) fun σ H Q asks => ?_
  obtain ⟨ρ, F, O, w, asks⟩ := asks
  refine ⟨ρ, F, O, w, ?_⟩
  unfold fCons at asks
  cases e1 : sf ρ with
  | err x ρ1 => rw [e1] at asks; exact asks
  | bad => rw [e1] at asks; exact asks
  | ok x ρ1 =>
    rw [e1, Rs.bind_ok] at asks
    cases x with
    | v x =>
      intro v H1 F1 w1 s1 r1
      refine ⟨ρ1, F1, O, w1, ?_⟩
      have asks := FinFs.mono s1 asks
      cases e2 : ss ρ1 with
      | err y ρ2 => rw [e2] at asks; exact asks
      | bad => rw [e2] at asks; exact asks
      | ok xs ρ2 =>
        rw [e2, Rs.bind_ok] at asks
        intro vs H2 F2 w2 s2 r2
        exact asks _ H2 F2 w2 s2 (.v (r1.mono s2) r2)
    | fr d =>
      intro a H1 F1 w1 s1 x1
      obtain ⟨u, hu⟩ := x1.at_.some
      refine ⟨ρ1, F1, O.add a u, w1.hold x1 hu, ?_⟩
      have asks := FinFs.mono s1 asks
      cases e2 : ss ρ1 with
      | err y ρ2 => rw [e2] at asks; exact fun c dd H2 F2 w2 s2 z => asks c dd H2 F2 (w2.unO x1.o) s2 z
      | bad => rw [e2] at asks; exact asks
      | ok xs ρ2 =>
        rw [e2, Rs.bind_ok] at asks
        intro vs H2 F2 w2 s2 r2
        obtain ⟨r3, nb⟩ := r2.unO x1.o
        exact asks _ H2 F2 (w2.unO x1.o) s2 (.fr (w2.held x1.o hu x1.at_ s2) nb r3)
end
/-- what is stored -/
def cellF : Vf → Option Cell
  | .v (.d x) => some (.val x)
  | .v (.bv _) => none
  | .fr d => some (.own false d)
def putF2 (i j : Nat) (xs : List Vf) (ρ : Rho) : Rs Fl :=
  match xs with
  | [x, y] => match cellF x, cellF y with
    | some c, some e => thenG (put i c ρ) fun ρ => put j e ρ
    | _, _ => .bad
  | _ => .bad
def putF3 (i j l : Nat) (xs : List Vf) (ρ : Rho) : Rs Fl :=
  match xs with
  | [x, y, z] => match cellF x, cellF y, cellF z with
    | some c, some e, some f => thenG (put i c ρ) fun ρ => thenG (put j e ρ) fun ρ => put l f ρ
    | _, _, _ => .bad
  | _ => .bad
def sParF (i j : Nat) (a : Rho → Rs (List Vf)) : Rho → Rs Fl := fun ρ => (a ρ).bind fun xs ρ => putF2 i j xs ρ
def sParF3 (i j l : Nat) (a : Rho → Rs (List Vf)) : Rho → Rs Fl := fun ρ => (a ρ).bind fun xs ρ => putF3 i j l xs ρ
section
variable {K : PySem.W.Frag} {F : Hp} {O : Fm} {ρ : Rho} {σ : L2.St} {H : Hp} {a b : Addr} {d : D} {i : Nat}
theorem FreshAt.put (x : FreshAt K F O ρ σ H a d) {y : D} {v : V} : FreshAt K F O (ρ.set i (.val y)) (σ.set i (some v)) H a d :=
  ⟨x.f, x.o, x.at_, fun j c e hj hc h => by
    rcases get_set hj with ⟨rfl, z⟩ | ⟨ne, hj⟩
    · subst z; cases hc
    · rw [List.getElem?_set_ne (Ne.symm ne)] at h
      exact x.ap j c e hj hc h⟩
theorem FreshAt.putF (x : FreshAt K F O ρ σ H a d) {y : D} (ne : a ≠ b) : FreshAt K F O (ρ.set i (.own false y)) (σ.set i (some (.ref b))) H a d :=
  ⟨x.f, x.o, x.at_, fun j c e hj hc h => by
    by_cases q : i = j
    · subst q
      rw [List.getElem?_set] at h
      split at h
      · split at h
        · cases h; exact ne rfl
        · cases h
      · exact absurd rfl ‹_›
    · rw [List.getElem?_set_ne q] at h hj
      exact x.ap j c e hj hc h⟩
theorem Items.putV {us : List V} {ys : List Vf} {y : D} {v : V} (it : Items K F O ρ σ H us ys) (ok : ∀ y ∈ ys, (cellF y).isSome = true) : Items K F O (ρ.set i (.val y)) (σ.set i (some v)) H us ys := by
  induction it with
  | nil => exact .nil
  | @v u z us ys r2 _ ih =>
    refine .v ?_ (ih fun y hy => ok y (List.mem_cons_of_mem _ hy))
    cases z with
    | d z => exact r2
    | bv n => have := ok (.v (.bv n)) List.mem_cons_self; cases this
  | fr z nb _ ih => exact .fr z.put nb (ih fun y hy => ok y (List.mem_cons_of_mem _ hy))
theorem Items.putR {us : List V} {ys : List Vf} {y : D} (it : Items K F O ρ σ H us ys) (ok : ∀ y ∈ ys, (cellF y).isSome = true) (nb : V.ref b ∉ freshOf us ys) : Items K F O (ρ.set i (.own false y)) (σ.set i (some (.ref b))) H us ys := by
  induction it with
  | nil => exact .nil
  | @v u z us ys r2 _ ih =>
    refine .v ?_ (ih (fun y hy => ok y (List.mem_cons_of_mem _ hy)) nb)
    cases z with
    | d z => exact r2
    | bv n => have := ok (.v (.bv n)) List.mem_cons_self; cases this
  | @fr a e us ys z nb2 _ ih =>
    have nb : V.ref b ∉ V.ref a :: freshOf us ys := nb
    exact .fr (z.putF fun q => nb (by rw [q]; exact List.mem_cons_self)) nb2 (ih (fun y hy => ok y (List.mem_cons_of_mem _ hy)) fun q => nb (List.mem_cons_of_mem _ q))
/-- the first item is stored -/
theorem Items.put {v : V} {vs : List V} {x : Vf} {xs : List Vf} {c : Cell} (w : Wd K F O ρ σ H) (it : Items K F O ρ σ H (v :: vs) (x :: xs)) (hc : cellF x = some c) (ok : ∀ y ∈ xs, (cellF y).isSome = true) (hi : i < ρ.length) (nl : ∀ p d, ρ[i]? ≠ some (Cell.lck p d)) :
    Wd K F O (ρ.set i c) (σ.set i (some v)) H ∧ Items K F O (ρ.set i c) (σ.set i (some v)) H vs xs := by
  cases it with
  | @v _ x _ _ r it =>
    cases x with
    | bv n => cases hc
    | d y => cases hc; exact ⟨w.put hi nl r, it.putV ok⟩
  | @fr a e _ _ x nb it => cases hc; exact ⟨w.putF hi nl x, it.putR ok nb⟩
end
section
variable {X : Cx} {G : Gx} {a b c : Expr} {ss : Rho → Rs (List Vf)} {pos : Pos}
theorem fs_bind {N : Ends} {σ : L2.St} {H F : Hp} {O : Fm} {ρ : Rho} {f : List Vf → Rho → Rs Fl} {Q : List V → Hp → Prop} (w : Wd G.K F O ρ σ H) (h : FinS G F O N ((ss ρ).bind f))
    (hQ : ∀ xs ρ1 vs H1 F1, Wd G.K F1 O ρ1 σ H1 → Items G.K F1 O ρ1 σ H1 vs xs → FinS G F1 O N (f xs ρ1) → Q vs H1) : tFs G ss σ H Q := by
  refine ⟨ρ, F, O, w, ?_⟩
  cases e : ss ρ with
  | ok xs ρ1 =>
    rw [e, Rs.bind_ok] at h
    exact fun vs H1 F1 w1 s1 r1 => hQ xs ρ1 vs H1 F1 w1 r1 (FinS.mono s1 h)
  | err x ρ1 => rw [e] at h; exact fun c dd H' F' w' s x => h c dd σ H' F' w' s x
  | bad => rw [e] at h; exact h
theorem ds_parF {i j : Nat} {x y : Str} {px py pt : Pos} {kt k2 pt2} (hc : X.calm = true) (hN : X.N.Nodup) (hi : X.N[i]? = some x) (hj : X.N[j]? = some y) (hij : i ≠ j)
    (hx : X.env.scope.names.lookup x = some .local) (hy : X.env.scope.names.lookup y = some .local) (ha : PA X [a, b] (tFs G ss))
    (hw : swappedStores [.Tuple [.Name x px, .Name y py] kt pt] (.Tuple [a, b] k2 pt2) X.env = pure (some [x, y]))
    (hs : swapsWithSole [.Tuple [.Name x px, .Name y py] kt pt] (.Tuple [a, b] k2 pt2) pos.line X.env = pure false) :
    PS X (.Assign [.Tuple [.Name x px, .Name y py] kt pt] (.Tuple [a, b] k2 pt2) pos) (tS G (sParF i j ss)) := by
  refine PS.imp (ps_par hc hN hi hj hij hx hy ha hw hs) fun N σ H asks => ?_
  obtain ⟨ρ, F, O, w, asks⟩ := asks
  refine fs_bind w asks fun xs ρ1 vs H1 F1 w1 it h1 => ?_
  unfold putF2 at h1
  split at h1
  · rename_i x y
    split at h1
    · rename_i c e hcx hcy
      obtain ⟨ρ3, e3, h3⟩ := then_fin h1
      obtain ⟨_, rfl, hi', nl⟩ := put_inv e3
      match vs, it with
      | [v1, v2], it =>
        obtain ⟨w2, it2⟩ := it.put w1 hcx (fun z hz => by simp at hz; subst hz; rw [hcy]; rfl) hi' nl
        obtain ⟨hj', nl2, k⟩ := put_fin (H := H1) h3
        obtain ⟨w3, _⟩ := it2.put w2 hcy (fun z hz => by simp at hz) hj' nl2
        exact ⟨v1, v2, rfl, k _ H1 F1 w3 (Sub.refl _)⟩
    · exact h1.elim
  · exact h1.elim
theorem ds_parF3 {i j l : Nat} {x y z : Str} {px py pz pt : Pos} {kt k2 pt2} (hc : X.calm = true) (hN : X.N.Nodup) (hi : X.N[i]? = some x) (hj : X.N[j]? = some y) (hl : X.N[l]? = some z) (hij : i ≠ j) (hil : i ≠ l) (hjl : j ≠ l)
    (hx : X.env.scope.names.lookup x = some .local) (hy : X.env.scope.names.lookup y = some .local) (hz : X.env.scope.names.lookup z = some .local) (ha : PA X [a, b, c] (tFs G ss))
    (hw : swappedStores [.Tuple [.Name x px, .Name y py, .Name z pz] kt pt] (.Tuple [a, b, c] k2 pt2) X.env = pure (some [x, y, z]))
    (hs : swapsWithSole [.Tuple [.Name x px, .Name y py, .Name z pz] kt pt] (.Tuple [a, b, c] k2 pt2) pos.line X.env = pure false) :
    PS X (.Assign [.Tuple [.Name x px, .Name y py, .Name z pz] kt pt] (.Tuple [a, b, c] k2 pt2) pos) (tS G (sParF3 i j l ss)) := by
  refine PS.imp (ps_par3 hc hN hi hj hl hij hil hjl hx hy hz ha hw hs) fun N σ H asks => ?_
  obtain ⟨ρ, F, O, w, asks⟩ := asks
  refine fs_bind w asks fun xs ρ1 vs H1 F1 w1 it h1 => ?_
  unfold putF3 at h1
  split at h1
  · rename_i x y z
    split at h1
    · rename_i c e f hcx hcy hcz
      obtain ⟨ρ3, e3, h3⟩ := then_fin h1
      obtain ⟨_, rfl, hi', nl⟩ := put_inv e3
      obtain ⟨ρ4, e4, h4⟩ := then_fin h3
      obtain ⟨_, rfl, hj', nl2⟩ := put_inv e4
      match vs, it with
      | [v1, v2, v3], it =>
        obtain ⟨w2, it2⟩ := it.put w1 hcx (fun q hq => by simp at hq; rcases hq with rfl | rfl; rw [hcy]; rfl; rw [hcz]; rfl) hi' nl
        obtain ⟨w3, it3⟩ := it2.put w2 hcy (fun q hq => by simp at hq; subst hq; rw [hcz]; rfl) hj' nl2
        obtain ⟨hl', nl3, k⟩ := put_fin (H := H1) h4
        obtain ⟨w4, _⟩ := it3.put w3 hcz (fun q hq => by simp at hq) hl' nl3
        exact ⟨v1, v2, v3, rfl, k _ H1 F1 w4 (Sub.refl _)⟩
    · exact h1.elim
  · exact h1.elim
/-- the words -/
structure DAF (X : Cx) (G : Gx) (es : List Expr) (s : Rho → Rs (List Vf)) : Prop where
  pa : PA X es (tFs G s)
theorem fN : DAF X G [] fNil := ⟨daf_nil⟩
theorem fC {e : Expr} {es : List Expr} {sf : Rho → Rs Vf} (h : PE X e (tF G sf)) (r : DAF X G es ss) (hn : notStar e = true := by rfl) : DAF X G (e :: es) (fCons sf ss) := ⟨daf_cons h r.pa (star_plain hn _)⟩
theorem kParF {k : Nat} (C : Cok X G k) (i j : Nat) {x y : Str} {px py pt : Pos} {kt k2 pt2} (h : DAF X G [a, b] ss) (hi : X.N[i]? = some x := by rfl) (hj : X.N[j]? = some y := by rfl) (hij : i ≠ j := by decide) (hx : X.env.scope.names.lookup x = some .local := by rfl) (hy : X.env.scope.names.lookup y = some .local := by rfl)
    (hw : swappedStores [.Tuple [.Name x px, .Name y py] kt pt] (.Tuple [a, b] k2 pt2) X.env = pure (some [x, y]) := by rfl) (hs : swapsWithSole [.Tuple [.Name x px, .Name y py] kt pt] (.Tuple [a, b] k2 pt2) pos.line X.env = pure false := by rfl) : PS X (.Assign [.Tuple [.Name x px, .Name y py] kt pt] (.Tuple [a, b] k2 pt2) pos) (tS G (sParF i j ss)) := ds_parF C.c C.N hi hj hij hx hy h.pa hw hs
theorem kParF3 {k : Nat} (C : Cok X G k) (i j l : Nat) {x y z : Str} {px py pz pt : Pos} {kt k2 pt2} (h : DAF X G [a, b, c] ss) (hi : X.N[i]? = some x := by rfl) (hj : X.N[j]? = some y := by rfl) (hl : X.N[l]? = some z := by rfl) (hij : i ≠ j := by decide) (hil : i ≠ l := by decide) (hjl : j ≠ l := by decide) (hx : X.env.scope.names.lookup x = some .local := by rfl) (hy : X.env.scope.names.lookup y = some .local := by rfl) (hz : X.env.scope.names.lookup z = some .local := by rfl)
    (hw : swappedStores [.Tuple [.Name x px, .Name y py, .Name z pz] kt pt] (.Tuple [a, b, c] k2 pt2) X.env = pure (some [x, y, z]) := by rfl) (hs : swapsWithSole [.Tuple [.Name x px, .Name y py, .Name z pz] kt pt] (.Tuple [a, b, c] k2 pt2) pos.line X.env = pure false := by rfl) : PS X (.Assign [.Tuple [.Name x px, .Name y py, .Name z pz] kt pt] (.Tuple [a, b, c] k2 pt2) pos) (tS G (sParF3 i j l ss)) := ds_parF3 C.c C.N hi hj hl hij hil hjl hx hy hz h.pa hw hs
end
end L3
/-! L3, part 25: xs[i], y = values: targets that write a list. -/
namespace L3
open PySem PySem.Spec PyProof.Rows L2
/-- a target's meaning where the heap may change -/
def gW (G : Gx) (f : D → Rho → Rs Fl) : TG := fun v σ H Q => ∃ ρ F O d ρ', Wd G.K F O ρ σ H ∧ Rp G.K F v d ∧ f d ρ = .ok .nx ρ' ∧ ∀ σ' H' F', Wd G.K F' O ρ' σ' H' → Sub F F' → Q σ' H'
def gWs (G : Gx) (f : List D → Rho → Rs Fl) : TGs := fun vs σ H Q => ∃ ρ F O ds ρ', Wd G.K F O ρ σ H ∧ RpL G.K F vs ds ∧ f ds ρ = .ok .nx ρ' ∧ ∀ σ' H' F', Wd G.K F' O ρ' σ' H' → Sub F F' → Q σ' H'
def gIx (i : Nat) (ix : Rho → Rs Vl) : D → Rho → Rs Fl := fun d ρ => if (ownList ρ i).isSome then (ix ρ).bind fun y ρ => match y.cont ρ with
  | some (.int k) => setAt ρ i k d
  | _ => .bad
  else .bad
section
variable {X : Cx} {G : Gx} {e : Expr} {es : List Expr} {js : List Nat} {f : D → Rho → Rs Fl} {fs : List D → Rho → Rs Fl} {pos : Pos}
theorem gw_of (h : DG X G e js f) : PG X e (gW G f) := PG.imp h fun v σ H Q h => by
  obtain ⟨ρ, F, O, d, ρ', w, r, e, k⟩ := h
  exact ⟨ρ, F, O, d, ρ', w, r, e, fun σ' w' _ => k σ' H F w' (Sub.refl _)⟩
theorem gws_nil : PGs X [] (gWs G gsN) := by
  refine PGs.imp pgs_nil fun vs σ H Q h => ?_
  obtain ⟨ρ, F, O, ds, ρ', w, r, e, k⟩ := h
  cases r with
  | nil => cases e; exact ⟨rfl, k σ H F w (Sub.refl _)⟩
  | cons => cases e
theorem gws_cons (h1 : PG X e (gW G f)) (h2 : PGs X es (gWs G fs)) (hs : (assignEach (e :: es) X.env).map (·.2) = assign e X.env :: (assignEach es X.env).map (·.2)) : PGs X (e :: es) (gWs G (gsC f fs)) := by
  refine PGs.imp (pgs_cons h1 h2 hs) fun vs σ H Q h => ?_
  obtain ⟨ρ, F, O, ds, ρ', w, r, e, k⟩ := h
  cases r with
  | nil => cases e
  | cons r rr =>
    obtain ⟨ρ1, e1, e2⟩ := thenG_ok e
    exact ⟨_, _, rfl, ρ, F, O, _, ρ1, w, r, e1, fun σ1 H1 F1 w1 s1 => ⟨ρ1, F1, O, _, ρ', w1, rr.mono s1, e2, fun σ2 H2 F2 w2 s2 => k σ2 H2 F2 w2 (s1.trans s2)⟩⟩
theorem gw_tup {k n : Nat} (hK : X.K = G.K) (hc : X.calm = true) (h : PGs X es (gWs G fs)) (hn : (assignEach es X.env).length = n) (hst : (assignEach es X.env).findIdx? (·.1) = none) : PG X (.Tuple es k pos) (gW G (gTp n fs)) := by
  refine PG.imp (PG.or (pg_tup hc h hn hst) (pg_unl hc h hn hst)) fun v σ H Q h => ?_
  obtain ⟨ρ, F, O, d, ρ', w, r, e, k⟩ := h
  unfold gTp at e
  cases d with
  | list ds =>
    have e : (if ds.length = n then fs ds ρ else .bad) = .ok .nx ρ' := e
    split at e
    · obtain ⟨a, vs, rfl, q, r⟩ := At.list w.f (.inl r)
      exact .inr ⟨a, vs, rfl, SqL.of q, r.length.trans ‹_›, ρ, F, O, ds, ρ', w, r, e, k⟩
    · cases e
  | tuple ds =>
    have e : (if ds.length = n then fs ds ρ else .bad) = .ok .nx ρ' := e
    split at e
    · obtain ⟨a, vs, rfl, _, q, r⟩ := At.tuple w.f (.inl r)
      exact .inl ⟨a, vs, rfl, by rw [hK]; exact q, r.length.trans ‹_›, ρ, F, O, ds, ρ', w, r, e, k⟩
    · cases e
  | _ => cases e
theorem gw_ix {i : Nat} {x : Str} {ie : Expr} {sx : Rho → Rs Vl} {p p2 : Pos} (hN : X.N[i]? = some x) (hv : Vis X.env.scope x) (hd : (x == ("__debug__" : Str)) = false) (hcd : (x == ("__classdict__" : Str)) = false) (hi : PE X ie (tE G sx))
    (has : ∀ v, assign (.Subscript (.Name x p) ie p2) X.env v = (do
      let ov ← holding [v] (eval (.Name x p) X.env)
      let iv ← holding [v, ov] (eval ie X.env)
      standAt p2
      holding [v, ov, iv] (setItem ov iv v)
      release [v, ov, iv] [])) : PG X (.Subscript (.Name x p) ie p2) (gW G (gIx i sx)) := by
  refine PG.imp (pg_sub (pe_var hN hv hd hcd) hi set_list has) fun v σ H Q h => ?_
  obtain ⟨ρ, F, O, d, ρ', w, r, e, k⟩ := h
  unfold gIx at e
  split at e
  · rename_i hs
    obtain ⟨⟨q, ds0⟩, hq⟩ := Option.isSome_iff_exists.mp hs
    obtain ⟨a, vs0, g1, g2, g3⟩ := w.ownL (ownList_iff hq)
    refine ⟨.ref a, g1, ρ, F, O, w, ?_⟩
    cases e1 : sx ρ with
    | ok y ρ1 =>
      rw [e1, Rs.bind_ok] at e
      intro u H3 F3 w3 s3 ry
      split at e
      · rename_i n ek
        have eu := (w3.at ry ek).int
        subst eu
        unfold setAt at e
        split at e
        · rename_i p ys ey
          have ey' := ownList_iff ey
          obtain ⟨b, vs, q1, q2, q3⟩ := w3.ownL ey'
          rw [g1] at q1; cases q1
          split at e
          · rename_i j ej
            cases e
            refine ⟨a, vs, n, j, rfl, rfl, q2, by rw [q3.length]; exact ej, ?_⟩
            exact k _ _ F3 (w3.write ey' g1 ⟨_, upd_same, RpL.set (r.mono s3) j q3⟩) s3
          · cases e
        · cases e
      · cases e
    | err => rw [e1] at e; cases e
    | bad => rw [e1] at e; cases e
  · cases e
theorem ds_asgW {tg ex : Expr} {se : Rho → Rs Vl} (he : PE X ex (tE G se)) (hg : PG X tg (gW G f)) (hs : swapsWithSole [tg] ex pos.line X.env = pure false) (hw : swappedStores [tg] ex X.env = pure none) (h1 : (assignEach [tg] X.env).map (·.2) = [assign tg X.env]) : PS X (.Assign [tg] ex pos) (tS G (sAsgT f se)) := by
  refine PS.imp (ps_asg he hg hs hw h1) fun N σ H h => ?_
  obtain ⟨ρ, F, O, w, h⟩ := h
  refine Tgt.finS.bind w h fun x ρ1 v H1 F1 w1 s1 rx h1 => ?_
  obtain ⟨d, ρ2, F2, w2, s2, r2, h2⟩ := Tgt.finS.frz w1 rx h1
  obtain ⟨ρ3, e3, h3⟩ := Tgt.then (G := G) (σ := σ) (α := Unit) h2
  exact ⟨ρ2, F2, O, d, ρ3, w2, r2, e3, fun σ' H' F' w' s' => h3 σ' H' F' w' s'⟩
/-! the words -/
theorem zV {i : Nat} (h : DG X G e [i] f) : PG X e (gW G f) := gw_of h
theorem zN : PGs X [] (gWs G gsN) := gws_nil
theorem zC (h1 : PG X e (gW G f)) (h2 : PGs X es (gWs G fs)) (hs : (assignEach (e :: es) X.env).map (·.2) = assign e X.env :: (assignEach es X.env).map (·.2) := by rfl) : PGs X (e :: es) (gWs G (gsC f fs)) := gws_cons h1 h2 hs
theorem zT {k : Nat} (C : Cok X G k) {kk n : Nat} (h : PGs X es (gWs G fs)) (hn : (assignEach es X.env).length = n := by rfl) (hst : (assignEach es X.env).findIdx? (·.1) = none := by rfl) : PG X (.Tuple es kk pos) (gW G (gTp n fs)) := gw_tup C.K C.c h hn hst
theorem zIx (i : Nat) {x : Str} {ie : Expr} {sx : Rho → Rs Vl} {p p2 : Pos} (hi : PE X ie (tE G sx)) (hN : X.N[i]? = some x := by rfl) (hv : Vis X.env.scope x := by first | exact Or.inl rfl | exact Or.inr (Or.inl rfl) | exact Or.inr (Or.inr rfl)) (hd : (x == ("__debug__" : Str)) = false := by decide) (hcd : (x == ("__classdict__" : Str)) = false := by decide)
    (has : ∀ v, assign (.Subscript (.Name x p) ie p2) X.env v = (do
      let ov ← holding [v] (eval (.Name x p) X.env)
      let iv ← holding [v, ov] (eval ie X.env)
      standAt p2
      holding [v, ov, iv] (setItem ov iv v)
      release [v, ov, iv] []) := by intro _; rfl) : PG X (.Subscript (.Name x p) ie p2) (gW G (gIx i sx)) := gw_ix hN hv hd hcd hi has
theorem kAsgW {tg ex : Expr} {se : Rho → Rs Vl} (he : PE X ex (tE G se)) (hg : PG X tg (gW G f)) (hs : swapsWithSole [tg] ex pos.line X.env = pure false := by rfl) (hw : swappedStores [tg] ex X.env = pure none := by rfl) (h1 : (assignEach [tg] X.env).map (·.2) = [assign tg X.env] := by rfl) : PS X (.Assign [tg] ex pos) (tS G (sAsgT f se)) := ds_asgW he hg hs hw h1
end
end L3
/-! L3, part 26: a list many times. -/
namespace L3
open PySem PySem.Spec PyProof.Rows L2
@[irreducible] def repOk (n : Nat) (k : Int) : Bool := decide (-(2 ^ 63) ≤ k) && decide (k < 2 ^ 63) && decide (n * k.toNat ≤ sizeLine)
theorem repOk_iff {n : Nat} {k : Int} : repOk n k = true ↔ (-(2 ^ 63) ≤ k ∧ k < 2 ^ 63) ∧ n * k.toNat ≤ sizeLine := by unfold repOk; simp
def mulL (ρ : Rho) (a b : Vl) : Rs Vf :=
  match a.cont ρ, b.cont ρ with
  | some (.list xs), some (.int k) => if repOk xs.length k then .ok (.fr (.list (List.replicate k.toNat xs).flatten)) ρ else .bad
  | _, _ => .bad
def sMulL (a b : Rho → Rs Vl) : Rho → Rs Vf := fun ρ => (a ρ).bind fun x ρ => (b ρ).bind fun y ρ => mulL ρ x y
theorem RpL.rep {K : PySem.W.Frag} {F : Hp} {vs : List V} {ds : List D} (h : RpL K F vs ds) : ∀ n : Nat, RpL K F (List.replicate n vs).flatten (List.replicate n ds).flatten
  | 0 => .nil
  | n + 1 => by
    rw [List.replicate_succ, List.replicate_succ, List.flatten_cons, List.flatten_cons]
    exact h.app (RpL.rep h n)
theorem df_mulL {X : Cx} {G : Gx} {a b : Expr} {sa sb : Rho → Rs Vl} {pos : Pos} (ha : PE X a (tE G sa)) (hb : PE X b (tE G sb)) : DF X G (.BinOp a .Mult b pos) (sMulL sa sb) := by
  refine ⟨PE.imp (pe_op op_rep ha hb) fun σ H Q h => ?_, fun _ => rfl⟩
  obtain ⟨ρ, F, O, w, h⟩ := h
  refine Tgt.finF.bind w h fun x ρ1 v H1 F1 w1 s1 rx h1 => Tgt.finF.bind w1 h1 fun y ρ2 u H2 F2 w2 s2 ry h2 => ?_
  have rx2 := rx.mono s2
  unfold mulL at h2
  split at h2
  · rename_i xs k e1 e2
    split at h2
    · rename_i hk
      obtain ⟨⟨k1, k2⟩, k3⟩ := repOk_iff.mp hk
      obtain ⟨b, us, rfl, q, r⟩ := (w2.at rx2 e1).list w2.f
      have eu := (w2.at ry e2).int
      subst eu
      exact ⟨b, k, us, rfl, rfl, q, k1, k2, by rw [r.length]; exact k3, fun p hp => w2.laidF h2 hp (r.rep _)⟩
    · exact h2.elim
  · exact h2.elim
end L3
/-! L3, part 27: data that has an order: min, max, <, sorted. -/
namespace L3
open PySem PySem.Spec PyProof.Rows L2
@[irreducible] def ordOk (ds : List D) : Bool := (ds.all fun x => ds.all fun y => PySem.W.alike x y) && (ds.all fun x => !isNon x) && PyData.plainAll ds && decide (PyData.depthAll ds ≤ 150)
theorem isNon_iff {x : D} : isNon x = false ↔ x ≠ .none := by cases x <;> simp [isNon]
theorem ordOk_iff {ds : List D} : ordOk ds = true ↔ PySem.W.AlikeAll ds ∧ PyData.plainAll ds = true ∧ PyData.depthAll ds ≤ 150 := by
  unfold ordOk PySem.W.AlikeAll
  simp only [Bool.and_eq_true, List.all_eq_true, Bool.not_eq_true', isNon_iff, decide_eq_true_eq, and_assoc]
section
variable {X : Cx} {G : Gx}
theorem best_mem {f : D → D → Bool} : ∀ (x : D) (ds : List D), ds.foldl (fun a y => if f y a then y else a) x ∈ x :: ds
  | x, [] => List.mem_cons_self
  | x, y :: ds => by
    have h := best_mem (f := f) (if f y x then y else x) ds
    rw [List.foldl_cons]
    rcases List.mem_cons.mp h with e | e
    · rw [e]; split <;> simp
    · simp [e]
theorem minD_mem (x : D) (ds : List D) : PySem.W.minD x ds ∈ x :: ds := best_mem (f := fun y a => PySem.W.dataLt y a) x ds
theorem maxD_mem (x : D) (ds : List D) : PySem.W.maxD x ds ∈ x :: ds := best_mem (f := fun y a => PySem.W.dataLt a y) x ds
/-- min, max of a list or tuple of data -/
def rOrd (f : D → List D → D) (K : PySem.W.Frag) : List V → Hp → VK → Prop := fun vs H Q => ∃ (a : Addr) (xs : List V) (x : D) (ds : List D), vs = [V.ref a] ∧ (SqL K H a xs ∨ SqT K H a xs) ∧ DpAll K H xs (x :: ds) ∧ ordOk (x :: ds) = true ∧
  ∀ (i : Nat) v, xs[i]? = some v → (x :: ds)[i]? = some (f x ds) → Q v H
theorem ord_end {pins : List (Addr × Obj)} {σ : L2.St} {H : Hp} {s : Shared} {xs : List V} {its : List Value} {x m : D} {ds : List D} {as bs : List Addr} {Q : VK} {i : Nat} {v : Value} {h' : Heap} {tk : Tok} (I : Inv X pins σ H s) (rv : Vals xs its) (hr : ReadsAll s.heap its.toArray.toList (x :: ds) as) (ho : PySem.W.AlikeAll (x :: ds)) (hm : m ∈ x :: ds) (hi : its.toArray[i]? = some v) (r : Reads h' v m bs) (hk : ∀ b o, s.heap.get? b = some o → h'.get? b = some o)
    (q : ∀ (i : Nat) v, xs[i]? = some v → (x :: ds)[i]? = some m → Q v H) : EP X pins σ Q v { s with heap := h', toks := tk } := by
  obtain ⟨cs, r2, hl, hmem, _⟩ := PySem.W.readsAll_atA hr i v hi
  have e : (x :: ds).getD i .none = m := PySem.W.alike_unique _ _ _ _ _ (ho.1 _ hmem _ hm) (PySem.W.reads_keeps hk r2) r
  have e2 : (x :: ds)[i]? = some m := by
    rw [List.getElem?_eq_getElem hl, ← e, List.getD_eq_getElem?_getD, List.getElem?_eq_getElem hl]; rfl
  have hi' : its[i]? = some v := by simpa using hi
  have hlt : i < its.length := by
    rcases Nat.lt_or_ge i its.length with h | h
    · exact h
    · rw [List.getElem?_eq_none h] at hi'; cases hi'
  have hx : i < xs.length := by rw [rv.length]; exact hlt
  obtain ⟨u, e3, rel⟩ := rv.get (List.getElem?_eq_getElem hx)
  rw [hi'] at e3
  cases e3
  exact ⟨_, H, I.kept hk, rel, q i _ (List.getElem?_eq_getElem hx) e2⟩
theorem cr_minX (hc : X.calm = true) (hu : X.A.units + 200 < cLine) : CallR X (.builtin "min") (rOrd PySem.W.minD X.K) := by
  intro pins s σ H vs us Q I r h
  obtain ⟨a, xs, x, ds, rfl, hs, hd, ho, q⟩ := h
  obtain ⟨h1, h2, h3⟩ := ordOk_iff.mp ho
  rw [Vals.ref1 r]
  rcases hs with hs | hs
  · obtain ⟨its, rv, hl, _⟩ := I.list hs
    obtain ⟨as, hr⟩ := Dp.readsAll I _ _ _ hd rv
    exact PySem.W.min_list_data (I.ok.hd hc) hl.isList hr h1 (by omega) fun i v h' tk bs hi r hk => ord_end I rv hr h1 (minD_mem x ds) hi r hk q
  · obtain ⟨its, rv, hl, _⟩ := I.tuple hs
    obtain ⟨as, hr⟩ := Dp.readsAll I _ _ _ hd rv
    exact PySem.W.min_tuple_data (I.ok.hd hc) hl hr h1 (by omega) fun i v h' tk bs hi r hk => ord_end I rv hr h1 (minD_mem x ds) hi r hk q
theorem cr_maxX (hc : X.calm = true) (hu : X.A.units + 200 < cLine) : CallR X (.builtin "max") (rOrd PySem.W.maxD X.K) := by
  intro pins s σ H vs us Q I r h
  obtain ⟨a, xs, x, ds, rfl, hs, hd, ho, q⟩ := h
  obtain ⟨h1, h2, h3⟩ := ordOk_iff.mp ho
  rw [Vals.ref1 r]
  rcases hs with hs | hs
  · obtain ⟨its, rv, hl, _⟩ := I.list hs
    obtain ⟨as, hr⟩ := Dp.readsAll I _ _ _ hd rv
    exact PySem.W.max_list_data (I.ok.hd hc) hl.isList hr h1 (by omega) fun i v h' tk bs hi r hk => ord_end I rv hr h1 (maxD_mem x ds) hi r hk q
  · obtain ⟨its, rv, hl, _⟩ := I.tuple hs
    obtain ⟨as, hr⟩ := Dp.readsAll I _ _ _ hd rv
    exact PySem.W.max_tuple_data (I.ok.hd hc) hl hr h1 (by omega) fun i v h' tk bs hi r hk => ord_end I rv hr h1 (maxD_mem x ds) hi r hk q
def ordD (f : D → List D → D) : List D → Option D
  | [.list (x :: r)] => if ordOk (x :: r) then some (f x r) else none
  | [.tuple (x :: r)] => if ordOk (x :: r) then some (f x r) else none
  | _ => none
def orD (o p : Option D) : Option D :=
  match o with
  | some z => some z
  | none => p
theorem orD_some {o p : Option D} {z : D} (h : o = some z) : orD o p = some z := by rw [h]; rfl
def minX (ds : List D) : Option D := orD (ordD PySem.W.minD ds) (minD ds)
def maxX (ds : List D) : Option D := orD (ordD PySem.W.maxD ds) (maxD ds)
theorem ok_ord {f : D → List D → D} : FunOk G (rOrd f G.K) (ordD f) := by
  intro F O ρ σ H vs ds z Q w at_ e p
  unfold ordD at e
  split at e
  · rename_i x r
    obtain ⟨ho, rfl⟩ := ifs e
    obtain ⟨h1, h2, h3⟩ := ordOk_iff.mp ho
    obtain ⟨v, rfl, ha⟩ := at_.one
    obtain ⟨a, us, rfl, q, rr⟩ := ha.list w.f
    refine ⟨a, us, x, r, rfl, .inl (SqL.of q), rr.dp w.f h2, ho, fun i v hv hd => ?_⟩
    obtain ⟨v', e1, e2⟩ := rr.get hd
    rw [hv] at e1; cases e1
    exact p.now w e2
  · rename_i x r
    obtain ⟨ho, rfl⟩ := ifs e
    obtain ⟨h1, h2, h3⟩ := ordOk_iff.mp ho
    obtain ⟨v, rfl, ha⟩ := at_.one
    obtain ⟨a, us, rfl, q0, q, rr⟩ := ha.tuple w.f
    refine ⟨a, us, x, r, rfl, .inr q, rr.dp w.f h2, ho, fun i v hv hd => ?_⟩
    obtain ⟨v', e1, e2⟩ := rr.get hd
    rw [hv] at e1; cases e1
    exact p.now w e2
  · cases e
theorem ok_orD {r r' : List V → Hp → VK → Prop} {f g : List D → Option D} (h : FunOk G r f) (h' : FunOk G r' g) : FunOk G (fun xs H Q => r xs H Q ∨ r' xs H Q) (fun ds => orD (f ds) (g ds)) := by
  intro F O ρ σ H vs ds z Q w at_ e p
  have e : orD (f ds) (g ds) = some z := e
  cases e1 : f ds with
  | some y => rw [e1] at e; cases e; exact .inl (h w at_ e1 p)
  | none => rw [e1] at e; exact .inr (h' w at_ e p)
/-! orders -/
def rCmpD (K : PySem.W.Frag) (f : D → D → Bool) : R2 := fun x y H Q => ∃ d e, Dp K H x d ∧ Dp K H y e ∧ ordOk [d, e] = true ∧ Q (.bl (f d e)) H
theorem ord2 {d e : D} (h : ordOk [d, e] = true) : PySem.W.alike d e = true ∧ d ≠ .none ∧ d.plain = true ∧ e.plain = true ∧ d.depth ≤ 150 := by
  obtain ⟨h1, h2, h3⟩ := ordOk_iff.mp h
  simp only [PyData.plainAll, Bool.and_eq_true, PyData.depthAll] at h2 h3
  exact ⟨h1.1 _ (by simp) _ (by simp), h1.2 _ (by simp), h2.1, h2.2.1, by omega⟩
theorem op_ltX (hu : X.A.units + 200 < cLine) : OpR X (compareOp .Lt) (rCmpD X.K fun d e => PySem.W.dataLt d e) := by
  intro pins s σ H x y v u Q I rx ry h
  obtain ⟨d, e, hd, he, ho, q⟩ := h
  obtain ⟨a1, a2, a3, a4, a5⟩ := ord2 ho
  obtain ⟨as, r1⟩ := Dp.reads I d x v hd rx
  obtain ⟨bs, r2⟩ := Dp.reads I e y u he ry
  exact PySem.W.lt_data r1 r2 a1 a2 (by have := Nat.min_le_left d.depth e.depth; omega) ⟨.bl _, H, I, rfl, q⟩
theorem op_gtX (hu : X.A.units + 200 < cLine) : OpR X (compareOp .Gt) (rCmpD X.K fun d e => PySem.W.dataLt e d) := by
  intro pins s σ H x y v u Q I rx ry h
  obtain ⟨d, e, hd, he, ho, q⟩ := h
  obtain ⟨a1, a2, a3, a4, a5⟩ := ord2 ho
  obtain ⟨as, r1⟩ := Dp.reads I d x v hd rx
  obtain ⟨bs, r2⟩ := Dp.reads I e y u he ry
  exact PySem.W.gt_data r1 r2 a1 a2 (by have := Nat.min_le_left d.depth e.depth; omega) ⟨.bl _, H, I, rfl, q⟩
theorem op_leX (hu : X.A.units + 200 < cLine) : OpR X (compareOp .LtE) (rCmpD X.K fun d e => !PySem.W.dataLt e d) := by
  intro pins s σ H x y v u Q I rx ry h
  obtain ⟨d, e, hd, he, ho, q⟩ := h
  obtain ⟨a1, a2, a3, a4, a5⟩ := ord2 ho
  obtain ⟨as, r1⟩ := Dp.reads I d x v hd rx
  obtain ⟨bs, r2⟩ := Dp.reads I e y u he ry
  exact PySem.W.le_data r1 r2 a1 a2 (by have := Nat.min_le_left d.depth e.depth; omega) ⟨.bl _, H, I, rfl, q⟩
theorem op_geX (hu : X.A.units + 200 < cLine) : OpR X (compareOp .GtE) (rCmpD X.K fun d e => !PySem.W.dataLt d e) := by
  intro pins s σ H x y v u Q I rx ry h
  obtain ⟨d, e, hd, he, ho, q⟩ := h
  obtain ⟨a1, a2, a3, a4, a5⟩ := ord2 ho
  obtain ⟨as, r1⟩ := Dp.reads I d x v hd rx
  obtain ⟨bs, r2⟩ := Dp.reads I e y u he ry
  exact PySem.W.ge_data r1 r2 a1 a2 (by have := Nat.min_le_left d.depth e.depth; omega) ⟨.bl _, H, I, rfl, q⟩
def cmpD (f : D → D → Bool) : D → D → Option D := fun d e => if ordOk [d, e] then some (.bool (f d e)) else none
theorem cmp_ord {op : CmpOp} {f : D → D → Bool} (hK : X.K = G.K) (h : OpR X (compareOp op) (rCmpD X.K f)) : CmpOk X G op (cmpD f) := by
  refine ⟨_, h, fun {F O ρ σ H v u x y z Q} w ax ay e p => ?_⟩
  obtain ⟨h1, rfl⟩ := ifs e
  obtain ⟨a1, a2, a3, a4, a5⟩ := ord2 h1
  rw [hK]
  exact ⟨x, y, ax.dp w.f a3, ay.dp w.f a4, h1, p.now w (.bl _)⟩
theorem cmp_or {op : CmpOp} {f g : D → D → Option D} (h : CmpOk X G op f) (h' : CmpOk X G op g) : CmpOk X G op fun d e => orD (f d e) (g d e) := by
  obtain ⟨r, o, k⟩ := h
  obtain ⟨r', o', k'⟩ := h'
  refine ⟨_, o.or o', fun {F O ρ σ H v u x y z Q} w ax ay e p => ?_⟩
  have e : orD (f x y) (g x y) = some z := e
  cases e1 : f x y with
  | some t => rw [e1] at e; cases e; exact .inl (k w ax ay e1 p)
  | none => rw [e1] at e; exact .inr (k' w ax ay e p)
def ltX (d e : D) : Option D := orD (cmpD (fun d e => PySem.W.dataLt d e) d e) (ltD d e)
def gtX (d e : D) : Option D := orD (cmpD (fun d e => PySem.W.dataLt e d) d e) (gtD d e)
def leX (d e : D) : Option D := orD (cmpD (fun d e => !PySem.W.dataLt e d) d e) (leD d e)
def geX (d e : D) : Option D := orD (cmpD (fun d e => !PySem.W.dataLt d e) d e) (geD d e)
/-! sorted -/
@[irreducible] def srtOk (ds : List D) : Bool := (ds.all fun d => match d with | .tuple (_ :: _) => true | _ => false) || (ds.all fun d => match d with | .tuple _ => false | .none => false | _ => true)
theorem srtOk_iff {ds : List D} (h : srtOk ds = true) : PySem.W.Sortable ds := by
  unfold srtOk at h
  rcases Bool.or_eq_true_iff.mp h with h | h
  · refine .inl fun d hd => ?_
    have := List.all_eq_true.mp h d hd
    split at this
    · exact ⟨_, _, rfl⟩
    · cases this
  · refine .inr fun d hd => ?_
    have := List.all_eq_true.mp h d hd
    split at this
    · cases this
    · cases this
    · rename_i h1 h2
      exact ⟨fun e => h2 e, fun xs e => h1 xs e⟩
def srtV (xs : List V) (ds : List D) : List (V × D) := (xs.zip ds).mergeSort (PySem.W.dataLe false Prod.snd)
def rSortX (K : PySem.W.Frag) : List V → Hp → VK → Prop := fun vs H Q => ∃ (a : Addr) (xs : List V) (ds : List D), vs = [V.ref a] ∧ SqL K H a xs ∧ DpAll K H xs ds ∧ ordOk ds = true ∧ srtOk ds = true ∧
  ∀ p, H p = none → Q (.ref p) (upd H p (.lst ((srtV xs ds).map Prod.fst)))
theorem zip_snd : ∀ {xs : List V} {ds : List D}, xs.length = ds.length → (xs.zip ds).map Prod.snd = ds
  | [], [], _ => rfl
  | x :: xs, d :: ds, h => by
    rw [List.zip_cons_cons, List.map_cons, zip_snd (Nat.succ.inj h)]
theorem dpLen {K : PySem.W.Frag} {H : Hp} : ∀ {xs : List V} {ds : List D}, DpAll K H xs ds → xs.length = ds.length
  | _, _, .nil => rfl
  | _, _, .cons _ r => congrArg (· + 1) (dpLen r)
theorem zip_each {h : Heap} : ∀ {xs : List V} {its : List Value} {ds : List D} {as : List Addr}, Vals xs its → ReadsAll h its ds as → PySem.W.EachIs (fun v (b : V × D) => RelV b.1 v ∧ ∃ as, Reads h v b.2 as) its (xs.zip ds)
  | _, _, _, _, .nil, .nil => .nil
  | _, _, _, _, .cons r rv, .cons h1 h2 => .cons ⟨r, _, h1⟩ (zip_each rv h2)
theorem each_vals {R : Value → V × D → Prop} (i : ∀ v b, R v b → RelV b.1 v) : ∀ {vs : List Value} {bs : List (V × D)}, PySem.W.EachIs R vs bs → Vals (bs.map Prod.fst) vs
  | _, _, .nil => .nil
  | _, _, .cons h r => .cons (i _ _ h) (each_vals i r)
theorem cr_sortX (hu : X.A.units + 200 < cLine) : CallR X (.builtin "sorted") (rSortX X.K) := by
  intro pins s σ H vs us Q I r h
  obtain ⟨a, xs, ds, rfl, hs, hd, ho, hsr, q⟩ := h
  obtain ⟨h1, h2, h3⟩ := ordOk_iff.mp ho
  rw [Vals.ref1 r]
  obtain ⟨its, rv, hl, hz⟩ := I.list hs
  obtain ⟨as, hr⟩ := Dp.readsAll I _ _ _ hd rv
  have hsn : (xs.zip ds).map Prod.snd = ds := zip_snd (dpLen hd)
  have hlen : (xs.zip ds).length = xs.length := by rw [List.length_zip, dpLen hd, Nat.min_self]
  refine PySem.W.sorted_data (enc := Prod.snd) (bs := xs.zip ds) (R := fun v b => RelV b.1 v) hl.isList ((zip_each rv hr).mono fun _ _ h => h.1) ((zip_each rv hr).mono fun _ _ h => h.2) (by rw [hsn]; exact h1.1) (by rw [hsn]; exact srtOk_iff hsr) (by rw [hlen]; exact hz) (fun b hb => ?_) fun out ho he => ?_
  · have hb2 : b.2 ∈ ds := by rw [← hsn]; exact List.mem_map.mpr ⟨b, hb, rfl⟩
    have : b.2.depth ≤ PyData.depthAll ds := depth_mem hb2
    omega
  · obtain ⟨ep, he'⟩ := PyProof.Rows.sortedAll_at s.heap its out.toArray
    have hv := each_vals (fun _ _ h => h) he
    have hlen2 : ((srtV xs ds).map Prod.fst).length ≤ sizeLine := by
      unfold srtV
      rw [List.length_map, List.length_mergeSort, hlen]
      exact hz
    exact ⟨.ref _, upd H (s.heap.objs.size + 1) (.lst ((srtV xs ds).map Prod.fst)), I.laid (t' := s.toks) (fun _ _ => PyProof.Rows.sortedAll_old) (Nat.le_succ _) ⟨hlen2, out, ep, hv, he'⟩, rfl, q _ (I.hok.fresh (Nat.le_succ _))⟩
where
  depth_mem : ∀ {ds : List D} {x : D}, x ∈ ds → x.depth ≤ PyData.depthAll ds
    | y :: r, x, hx => by
      simp only [PyData.depthAll]
      rcases List.mem_cons.mp hx with rfl | hx
      · omega
      · have := depth_mem hx; omega
def srtD : List D → Option D
  | [.list ds] => if ordOk ds && srtOk ds then some (.list (ds.mergeSort (PySem.W.dataLe false id))) else none
  | _ => none
theorem RpL.of_mem {K : PySem.W.Frag} {F : Hp} : ∀ {bs : List (V × D)}, (∀ b ∈ bs, Rp K F b.1 b.2) → RpL K F (bs.map Prod.fst) (bs.map Prod.snd)
  | [], _ => .nil
  | b :: bs, h => .cons (h b List.mem_cons_self) (RpL.of_mem fun c hc => h c (List.mem_cons_of_mem _ hc))
theorem RpL.zip {K : PySem.W.Frag} {F : Hp} : ∀ {vs : List V} {ds : List D}, RpL K F vs ds → ∀ b ∈ vs.zip ds, Rp K F b.1 b.2
  | _, _, .nil, b, h => by simp at h
  | _, _, .cons r rr, b, h => by
    rw [List.zip_cons_cons] at h
    rcases List.mem_cons.mp h with rfl | h
    · exact r
    · exact RpL.zip rr b h
theorem ok_srt : FunOkF G (rSortX G.K) srtD := by
  intro F O ρ σ H vs ds z Q w at_ e p
  unfold srtD at e
  split at e
  · rename_i xs
    obtain ⟨ho, rfl⟩ := ifs e
    rw [Bool.and_eq_true] at ho
    obtain ⟨v, rfl, ha⟩ := at_.one
    obtain ⟨a, us, rfl, q, r⟩ := ha.list w.f
    refine ⟨a, us, xs, rfl, SqL.of q, r.dp w.f (ordOk_iff.mp ho.1).2.1, ho.1, ho.2, fun l hl => w.laidF p hl ?_⟩
    have e : xs.mergeSort (PySem.W.dataLe false id) = (srtV us xs).map Prod.snd := by
      have h := List.map_mergeSort (r := PySem.W.dataLe false Prod.snd) (s := PySem.W.dataLe false id) (f := Prod.snd) (l := us.zip xs) fun _ _ _ _ => rfl
      rw [zip_snd r.length] at h
      exact h.symm
    rw [e]
    exact RpL.of_mem fun b hb => RpL.zip r b ((List.mergeSort_perm _ _).mem_iff.mp hb)
  · cases e
theorem ok_orF {r r' : List V → Hp → VK → Prop} {f g : List D → Option D} (h : FunOkF G r f) (h' : FunOkF G r' g) : FunOkF G (fun xs H Q => r xs H Q ∨ r' xs H Q) (fun ds => orD (f ds) (g ds)) := by
  intro F O ρ σ H vs ds z Q w at_ e p
  have e : orD (f ds) (g ds) = some z := e
  cases e1 : f ds with
  | some y => rw [e1] at e; cases e; exact .inl (h w at_ e1 p)
  | none => rw [e1] at e; exact .inr (h' w at_ e p)
def srtX (ds : List D) : Option D := orD (srtD ds) (sortedD ds)
end
section
variable {X : Cx} {G : Gx} {k n : Nat} {a b : Expr} {es : List Expr} {ss : Rho → Rs (List Vl)} {p pos : Pos}
theorem wMinX (C : Cok X G k) (hm : X.mg "min" = none) (h : DA X G (a :: es) ss n) (hg : Gl X "min" := by rfl) : DE X G (.Call (.Name "min" p) (a :: es) [] pos) (sFun minX ss) :=
  de_callB ((C.K ▸ cr_minX C.c C.u).or ((call_min2 C.c).or (C.K ▸ cr_min C.c))) (ok_orD ok_ord ok_min) hg hm (by decide +kernel) h.pa h.pl (by decide) (by decide)
theorem wMaxX (C : Cok X G k) (hm : X.mg "max" = none) (h : DA X G (a :: es) ss n) (hg : Gl X "max" := by rfl) : DE X G (.Call (.Name "max" p) (a :: es) [] pos) (sFun maxX ss) :=
  de_callB ((C.K ▸ cr_maxX C.c C.u).or ((call_max2 C.c).or (C.K ▸ cr_max C.c))) (ok_orD ok_ord ok_max) hg hm (by decide +kernel) h.pa h.pl (by decide) (by decide)
theorem wSortedX (C : Cok X G k) (hm : X.mg "sorted" = none) (h : DA X G [a] ss n) (hg : Gl X "sorted" := by rfl) : DF X G (.Call (.Name "sorted" p) [a] [] pos) (sFunF srtX ss) :=
  df_callB ((C.K ▸ cr_sortX C.u).or (C.K ▸ cr_sortedI)) (ok_orF ok_srt ok_sorted) hg hm (by decide +kernel) h.pa h.pl (by decide) (by decide)
theorem cLtX (C : Cok X G k) : CmpOk X G .Lt ltX := cmp_or (cmp_ord C.K (op_ltX C.u)) cLt
theorem cGtX (C : Cok X G k) : CmpOk X G .Gt gtX := cmp_or (cmp_ord C.K (op_gtX C.u)) cGt
theorem cLeX (C : Cok X G k) : CmpOk X G .LtE leX := cmp_or (cmp_ord C.K (op_leX C.u)) cLe
theorem cGeX (C : Cok X G k) : CmpOk X G .GtE geX := cmp_or (cmp_ord C.K (op_geX C.u)) cGe
end
end L3
/-! L3, part 28: comprehensions of two clauses. -/
namespace L3
open PySem PySem.Spec PyProof.Rows L2
/-- two clauses; acc is what was gathered -/
def sGather2 (st : D → Rho → Rs Fl) (tt : Rho → Rs Bool) (si1 : Rho → Rs (List D)) (st1 : D → Rho → Rs Fl) (tt1 : Rho → Rs Bool) (te : Rho → Rs Vl) (vs vs1 : List Nat) : List D → List D → Rho → Rs (List D)
  | [], acc, ρ => .ok acc ρ
  | d :: ds, acc, ρ => sGather.thenG' (st d ρ) fun ρ => okB (tt ρ) fun k ρ => if k then okB (si1 ρ) fun es ρ => if allVal ρ vs1 then okB (sGather st1 tt1 te vs1 es acc (wipeR ρ vs1)) fun acc ρ => if allVal ρ vs then sGather2 st tt si1 st1 tt1 te vs vs1 ds acc (wipeR ρ vs) else .bad else .bad
      else if allVal ρ vs then sGather2 st tt si1 st1 tt1 te vs vs1 ds acc (wipeR ρ vs) else .bad
def sLc2 (it : Rho → Rs (List D)) (st : D → Rho → Rs Fl) (tt : Rho → Rs Bool) (si1 : Rho → Rs (List D)) (st1 : D → Rho → Rs Fl) (tt1 : Rho → Rs Bool) (te : Rho → Rs Vl) (vs vs1 : List Nat) : Rho → Rs Vf := fun ρ =>
  (it ρ).bind fun ds ρ => if allVal ρ vs then endLc ρ vs (sGather2 st tt si1 st1 tt1 te vs vs1 ds [] (wipeR ρ vs)) else .bad
theorem wipe_in (σ : L2.St) : ∀ {vs : List Nat} {i : Nat}, i ∈ vs → i < σ.length → (wipe σ vs)[i]? = some none
  | v :: vs, i, hi, hl => by
    unfold wipe
    by_cases e : v = i
    · subst e; rw [List.getElem?_set_self (by rw [wipe_length]; exact hl)]
    · rw [List.getElem?_set_ne e]
      exact wipe_in σ (by rcases List.mem_cons.mp hi with z | z; exact absurd z.symm e; exact z) hl
theorem wipe_sub (σ : L2.St) {vs vs1 : List Nat} (h : ∀ i ∈ vs1, i ∈ vs) : wipe (wipe σ vs1) vs = wipe σ vs := by
  refine List.ext_getElem? fun i => ?_
  by_cases hi : i ∈ vs
  · by_cases hl : i < σ.length
    · rw [wipe_in _ hi (by rw [wipe_length]; exact hl), wipe_in _ hi hl]
    · rw [List.getElem?_eq_none (by rw [wipe_length, wipe_length]; omega), List.getElem?_eq_none (by rw [wipe_length]; omega)]
  · rw [wipe_out hi, wipe_out hi, wipe_out fun z => hi (h i z)]
section
variable {X : Cx} {G : Gx} {js js1 : List Nat} {si si1 : Rho → Rs (List D)} {st st1 : D → Rho → Rs Fl} {tt tt1 : Rho → Rs Bool} {te : Rho → Rs Vl} {vs vs1 : List Nat}
theorem lc2_t (hj : ∀ j ∈ js, j ∈ vs) (hj1 : ∀ j ∈ js1, j ∈ vs1) (hv : ∀ j ∈ vs1, j ∈ vs) {σ : L2.St} {H : Hp} {Q : VK} (h : tF G (sLc2 si st tt si1 st1 tt1 te vs vs1) σ H Q) : tLc2 (tI G si) (gT G.q js st) (tT G.q tt) (tI G.q si1) (gT G.q js1 st1) (tT G.q tt1) (tE G.q te) vs vs1 σ H Q := by
  obtain ⟨ρ, F, O, w, h⟩ := h
  refine tI_bind Tgt.finF w h fun ds ρ1 J H1 F1 w1 s1 feed h1 Dl hD => ?_
  have oD : O.o Dl = none := w1.o.none hD
  split at h1
  · rename_i an
    refine ⟨fun i m H => m = ds.length - i ∧ i ≤ ds.length ∧ ∃ ρ F acc avs, Wd G.K F (O.add Dl (.lst avs)) ρ (wipe σ vs) H ∧ Sub F1 F ∧ RpL G.K F avs acc ∧ allNo ρ vs = true ∧ FinF G F O σ Q (endLc ρ1 vs (sGather2 st tt si1 st1 tt1 te vs vs1 (ds.drop i) acc ρ)),
      ⟨ds.length, by simp, Nat.zero_le _, wipeR ρ1 vs, F1, [], [], ((w1.empty an).wiped wipeR_no).addO hD, Sub.refl _, .nil, wipeR_no, h1⟩, ?_⟩
    rintro i m H2 ⟨rfl, hi, ρ2, F2, acc, avs, w2, s2, r2, an2, h2⟩
    obtain ⟨go, stop⟩ := feed w2 s2 i
    by_cases hlt : i < ds.length
    · have e : ds[i]? = some ds[i] := by simp
      obtain ⟨g1, g2⟩ := go _ e
      rw [drop_at e] at h2
      unfold endLc sGather2 at h2
      cases e3 : st ds[i] ρ2 with
      | err x ρ => rw [e3] at h2; exact h2.elim
      | bad => rw [e3] at h2; exact h2.elim
      | ok f ρ3 =>
        rw [e3] at h2
        cases f with
        | nx =>
          refine .inr ⟨g1, fun H' => ∃ ρ F acc avs, Wd G.K F (O.add Dl (.lst avs)) ρ (wipe σ vs) H' ∧ Sub F1 F ∧ RpL G.K F avs acc ∧ allNo ρ vs = true ∧ FinF G F O σ Q (endLc ρ1 vs (sGather2 st tt si1 st1 tt1 te vs vs1 (ds.drop (i + 1)) acc ρ)), fun H' q => ⟨_, by omega, rfl, hlt, q⟩, fun x H' y => ?_⟩
          obtain ⟨F', w', s', r', _⟩ := g2 x H' y
          refine ⟨ρ2, F', _, _, ρ3, w', r', e3, fun σ' w3 o3 => ⟨wipe_only o3 hj, ρ3, F', _, w3, ?_⟩⟩
          have h3 := Tgt.finF.mono s' h2
          have h3 : FinF G F' O σ Q (okB (okB (tt ρ3) _) _) := h3
          have wsig : wipe σ' vs = wipe σ vs := wipe_only o3 hj
          cases et : tt ρ3 with
          | err x ρ => rw [et] at h3; exact h3.elim
          | bad => rw [et] at h3; exact h3.elim
          | ok k ρ4 =>
            rw [et] at h3
            intro b H4 F4 w4 s4 eb
            have eb : b = k := eb
            subst eb
            have h4 := Tgt.finF.mono s4 h3
            cases b with
            | false =>
              rw [if_neg (by decide)]
              have h4 : FinF G F4 O σ Q (endLc ρ1 vs (if allVal ρ4 vs then sGather2 st tt si1 st1 tt1 te vs vs1 (ds.drop (i + 1)) acc (wipeR ρ4 vs) else .bad)) := h4
              split at h4
              · rename_i av
                have := (w4.empty av).wiped wipeR_no
                rw [wsig] at this
                exact ⟨_, F4, acc, avs, this, (s2.trans s').trans s4, (r2.mono s').mono s4, wipeR_no, h4⟩
              · exact h4.elim
            | true =>
              rw [if_pos rfl]
              have h4 : FinF G F4 O σ Q (endLc ρ1 vs (okB (si1 ρ4) fun es ρ => if allVal ρ vs1 then okB (sGather st1 tt1 te vs1 es acc (wipeR ρ vs1)) fun acc ρ => if allVal ρ vs then sGather2 st tt si1 st1 tt1 te vs vs1 (ds.drop (i + 1)) acc (wipeR ρ vs) else .bad else .bad)) := h4
              refine ⟨ρ4, F4, _, w4, ?_⟩
              cases ei : si1 ρ4 with
              | err x ρ => rw [ei] at h4; exact h4.elim
              | bad => rw [ei] at h4; exact h4.elim
              | ok es ρ5 =>
                rw [ei] at h4
                intro J1 H5 F5 w5 s5 feed1
                have h5 : FinF G F5 O σ Q (endLc ρ1 vs (if allVal ρ5 vs1 then okB (sGather st1 tt1 te vs1 es acc (wipeR ρ5 vs1)) fun acc ρ => if allVal ρ vs then sGather2 st tt si1 st1 tt1 te vs vs1 (ds.drop (i + 1)) acc (wipeR ρ vs) else .bad else .bad)) := Tgt.finF.mono s5 h4
                split at h5
                · rename_i an1
                  have ss5 : Sub F2 F5 := (s'.trans s4).trans s5
                  -- the second clause's own loop
                  refine ⟨fun j n H => n = es.length - j ∧ j ≤ es.length ∧ ∃ ρ F acc avs, Wd G.K F (O.add Dl (.lst avs)) ρ (wipe σ' vs1) H ∧ Sub F5 F ∧ RpL G.K F avs acc ∧ allNo ρ vs1 = true ∧ FinF G F O σ Q (endLc ρ1 vs (okB (sGather st1 tt1 te vs1 (es.drop j) acc ρ) fun acc ρ => if allVal ρ vs then sGather2 st tt si1 st1 tt1 te vs vs1 (ds.drop (i + 1)) acc (wipeR ρ vs) else .bad)),
                    ⟨es.length, by simp, Nat.zero_le _, wipeR ρ5 vs1, F5, acc, avs, (w5.empty an1).wiped wipeR_no, Sub.refl _, r2.mono ss5, wipeR_no, h5⟩, ?_⟩
                  rintro j n H6 ⟨rfl, hjl, ρ6, F6, acc6, avs6, w6, s6, r6, an6, h6⟩
                  obtain ⟨go1, stop1⟩ := feed1 w6 s6 j
                  by_cases hlt1 : j < es.length
                  · have e1 : es[j]? = some es[j] := by simp
                    obtain ⟨gg1, gg2⟩ := go1 _ e1
                    rw [drop_at e1] at h6
                    unfold sGather at h6
                    cases e7 : st1 es[j] ρ6 with
                    | err x ρ => rw [e7] at h6; exact h6.elim
                    | bad => rw [e7] at h6; exact h6.elim
                    | ok f ρ7 =>
                      rw [e7] at h6
                      cases f with
                      | nx =>
                        refine .inr ⟨gg1, fun H' => ∃ ρ F acc avs, Wd G.K F (O.add Dl (.lst avs)) ρ (wipe σ' vs1) H' ∧ Sub F5 F ∧ RpL G.K F avs acc ∧ allNo ρ vs1 = true ∧ FinF G F O σ Q (endLc ρ1 vs (okB (sGather st1 tt1 te vs1 (es.drop (j + 1)) acc ρ) fun acc ρ => if allVal ρ vs then sGather2 st tt si1 st1 tt1 te vs vs1 (ds.drop (i + 1)) acc (wipeR ρ vs) else .bad)), fun H' q => ⟨_, by omega, rfl, hlt1, q⟩, fun x1 H7 y1 => ?_⟩
                        obtain ⟨F7, w7, s7, r7, _⟩ := gg2 x1 H7 y1
                        refine ⟨ρ6, F7, _, _, ρ7, w7, r7, e7, fun σ2 w8 o8 => ⟨wipe_only o8 hj1, ρ7, F7, _, w8, ?_⟩⟩
                        have h7 := Tgt.finF.mono s7 h6
                        have h7 : FinF G F7 O σ Q (okB (okB (okB (tt1 ρ7) _) _) _) := h7
                        have wsig1 : wipe σ2 vs1 = wipe σ' vs1 := wipe_only o8 hj1
                        cases et1 : tt1 ρ7 with
                        | err x ρ => rw [et1] at h7; exact h7.elim
                        | bad => rw [et1] at h7; exact h7.elim
                        | ok k ρ8 =>
                          rw [et1] at h7
                          intro b H8 F8 w9 s8 eb
                          have eb : b = k := eb
                          subst eb
                          have h8 := Tgt.finF.mono s8 h7
                          cases b with
                          | false =>
                            rw [if_neg (by decide)]
                            have h8 : FinF G F8 O σ Q (endLc ρ1 vs (okB (if allVal ρ8 vs1 then sGather st1 tt1 te vs1 (es.drop (j + 1)) acc6 (wipeR ρ8 vs1) else .bad) fun acc ρ => if allVal ρ vs then sGather2 st tt si1 st1 tt1 te vs vs1 (ds.drop (i + 1)) acc (wipeR ρ vs) else .bad)) := h8
                            split at h8
                            · rename_i av
                              have := (w9.empty av).wiped wipeR_no
                              rw [wsig1] at this
                              exact ⟨_, F8, acc6, avs6, this, (s6.trans s7).trans s8, (r6.mono s7).mono s8, wipeR_no, h8⟩
                            · exact h8.elim
                          | true =>
                            rw [if_pos rfl]
                            have h8 : FinF G F8 O σ Q (endLc ρ1 vs (okB (okB (te ρ8) fun x ρ => okB (frz x ρ) fun y ρ => if allVal ρ vs1 && decide (acc6.length < sizeLine) then sGather st1 tt1 te vs1 (es.drop (j + 1)) (acc6 ++ [y]) (wipeR ρ vs1) else .bad) fun acc ρ => if allVal ρ vs then sGather2 st tt si1 st1 tt1 te vs vs1 (ds.drop (i + 1)) acc (wipeR ρ vs) else .bad)) := h8
                            refine ⟨ρ8, F8, _, w9, ?_⟩
                            cases ee : te ρ8 with
                            | err x ρ => rw [ee] at h8; exact h8.elim
                            | bad => rw [ee] at h8; exact h8.elim
                            | ok x ρ9 =>
                              rw [ee] at h8
                              intro v H9 F9 w10 s9 r9
                              have h8 : FinF G F8 O σ Q (endLc ρ1 vs (okB (okB (frz x ρ9) fun y ρ => if allVal ρ vs1 && decide (acc6.length < sizeLine) then sGather st1 tt1 te vs1 (es.drop (j + 1)) (acc6 ++ [y]) (wipeR ρ vs1) else .bad) fun acc ρ => if allVal ρ vs then sGather2 st tt si1 st1 tt1 te vs vs1 (ds.drop (i + 1)) acc (wipeR ρ vs) else .bad)) := h8
                              cases ef : frz x ρ9 with
                              | err y ρ => exact absurd ef frz_noerr
                              | bad => rw [ef] at h8; exact h8.elim
                              | ok y ρ10 =>
                                rw [ef] at h8
                                obtain ⟨F10, w11, s10, r10⟩ := frz_ok w10 r9 ef
                                have h9 : FinF G F10 O σ Q (endLc ρ1 vs (okB (if allVal ρ10 vs1 && decide (acc6.length < sizeLine) then sGather st1 tt1 te vs1 (es.drop (j + 1)) (acc6 ++ [y]) (wipeR ρ10 vs1) else .bad) fun acc ρ => if allVal ρ vs then sGather2 st tt si1 st1 tt1 te vs vs1 (ds.drop (i + 1)) acc (wipeR ρ vs) else .bad)) := Tgt.finF.mono (s9.trans s10) h8
                                split at h9
                                · rename_i av
                                  rw [Bool.and_eq_true, decide_eq_true_eq] at av
                                  have ss : Sub F6 F10 := ((s7.trans s8).trans s9).trans s10
                                  refine ⟨avs6, w11.o Dl _ upd_same, by rw [r6.length]; exact av.2, _, F10, acc6 ++ [y], avs6 ++ [v], ?_, s6.trans ss, (r6.mono ss).app (.cons r10 .nil), wipeR_no, h9⟩
                                  have := ((w11.modO (u' := .lst (avs6 ++ [v]))).empty av.1).wiped wipeR_no
                                  rwa [wsig1] at this
                                · exact h9.elim
                      | _ => exact h6.elim
                  · have e1 : j = es.length := by omega
                    subst e1
                    rw [List.drop_length] at h6
                    refine .inl ⟨stop1 rfl, ?_⟩
                    have h6 : FinF G F6 O σ Q (endLc ρ1 vs (if allVal ρ6 vs then sGather2 st tt si1 st1 tt1 te vs vs1 (ds.drop (i + 1)) acc6 (wipeR ρ6 vs) else .bad)) := h6
                    split at h6
                    · rename_i av
                      have := (w6.empty av).wiped wipeR_no
                      rw [wipe_sub σ' hv, wsig] at this
                      exact ⟨_, F6, acc6, avs6, this, (s2.trans ss5).trans s6, r6, wipeR_no, h6⟩
                    · exact h6.elim
                · exact h5.elim
        | _ => exact h2.elim
    · have e : i = ds.length := by omega
      subst e
      rw [List.drop_length] at h2
      refine .inl ⟨stop rfl, h2 Dl H2 F2 (((w2.unO oD).unwiped an2).restore an (fun i d e => let ⟨v, q1, q2⟩ := w1.val i d e; ⟨v, q1, q2.mono s2⟩) an2) (Sub.refl _) ?_⟩
      have g := w2.gathered oD r2
      refine ⟨g.f, g.o, g.at_, fun i c e q z h => ?_⟩
      rcases backR_get q with ⟨a, b⟩ | ⟨a, _⟩
      · have := allVal_at an a b; rw [this] at z; cases z
      have hi : i ∉ vs := fun hi => by have := allNo_at an2 hi a; subst this; cases z
      exact g.ap i c e a z (by rw [wipe_out hi]; exact h)
  · exact h1.elim
variable {tg iter tg1 iter1 elt : Expr} {ifs ifs1 : List Expr} {scope : Scope} {own : List (Str × Nat)} {pos spos : Pos} {k : Nat}
/-- what the parts mean, in every block of this form -/
structure Lc2Ok (X : Cx) (G : Gx) (tg tg1 iter1 elt : Expr) (ifs ifs1 : List Expr) (scope : Scope) (js js1 : List Nat) (st : D → Rho → Rs Fl) (tt : Rho → Rs Bool) (si1 : Rho → Rs (List D)) (st1 : D → Rho → Rs Fl) (tt1 : Rho → Rs Bool) (te : Rho → Rs Vl) : Prop where
  g : ∀ (s : Shared) (H : Hp) (C : Addr) (cl : List (Str × Addr)) (fp : List Addr), DG (X.blk s H scope (compEnvC scope cl C X.env) fp) G.q tg js st
  t : ∀ (s : Shared) (H : Hp) (C : Addr) (cl : List (Str × Addr)) (fp : List Addr), PTs (X.blk s H scope (compEnvC scope cl C X.env) fp) ifs (tT G.q tt)
  i1 : ∀ (s : Shared) (H : Hp) (C : Addr) (cl : List (Str × Addr)) (fp : List Addr), PI (X.blk s H scope (compEnvC scope cl C X.env) fp) tg1 iter1 (tI G.q si1)
  g1 : ∀ (s : Shared) (H : Hp) (C : Addr) (cl : List (Str × Addr)) (fp : List Addr), DG (X.blk s H scope (compEnvC scope cl C X.env) fp) G.q tg1 js1 st1
  t1 : ∀ (s : Shared) (H : Hp) (C : Addr) (cl : List (Str × Addr)) (fp : List Addr), PTs (X.blk s H scope (compEnvC scope cl C X.env) fp) ifs1 (tT G.q tt1)
  e : ∀ (s : Shared) (H : Hp) (C : Addr) (cl : List (Str × Addr)) (fp : List Addr), PE (X.blk s H scope (compEnvC scope cl C X.env) fp) elt (tE G.q te)
theorem Lc2Ok.by (h : ∀ (s : Shared) (H : Hp) (C : Addr) (cl : List (Str × Addr)) (fp : List Addr), DG (X.blk s H scope (compEnvC scope cl C X.env) fp) G.q tg js st ∧ PTs (X.blk s H scope (compEnvC scope cl C X.env) fp) ifs (tT G.q tt) ∧ PI (X.blk s H scope (compEnvC scope cl C X.env) fp) tg1 iter1 (tI G.q si1) ∧ DG (X.blk s H scope (compEnvC scope cl C X.env) fp) G.q tg1 js1 st1 ∧ PTs (X.blk s H scope (compEnvC scope cl C X.env) fp) ifs1 (tT G.q tt1) ∧ PE (X.blk s H scope (compEnvC scope cl C X.env) fp) elt (tE G.q te)) : Lc2Ok X G tg tg1 iter1 elt ifs ifs1 scope js js1 st tt si1 st1 tt1 te :=
  ⟨fun s H C cl fp => (h s H C cl fp).1, fun s H C cl fp => (h s H C cl fp).2.1, fun s H C cl fp => (h s H C cl fp).2.2.1, fun s H C cl fp => (h s H C cl fp).2.2.2.1, fun s H C cl fp => (h s H C cl fp).2.2.2.2.1, fun s H C cl fp => (h s H C cl fp).2.2.2.2.2⟩
theorem wLc2 (C : Cok X G k) (own : List (Str × Nat)) (vs1 : List Nat) (hi : DI X G tg iter si) (h : Lc2Ok X G tg tg1 iter1 elt ifs ifs1 scope js js1 st tt si1 st1 tt1 te) (ok : BlkOk X.N X.env.scope scope own := by exact blkOk_by rfl) (hj : ∀ j ∈ js, j ∈ own.map (·.2) := by decide) (hj1 : ∀ j ∈ js1, j ∈ vs1 := by decide) (hv : ∀ j ∈ vs1, j ∈ own.map (·.2) := by decide) (hs : ∀ x, foldedSetIterable iter X.env x = pure x := by intro _; rfl) (hs1 : ∀ env x, foldedSetIterable iter1 env x = pure x := by intro _ _; rfl) :
    DF X G (.ListComp elt [⟨tg, iter, ifs, 0⟩, ⟨tg1, iter1, ifs1, 0⟩] scope pos) (sLc2 si st tt si1 st1 tt1 te (own.map (·.2)) vs1) :=
  ⟨PE.imp (pe_lc2 C.c C.N hi ok hv h.g h.t h.i1 h.g1 h.t1 h.e hs hs1) fun _ _ _ q => lc2_t hj hj1 hv q, fun _ => rfl⟩
theorem kSetLc2 (C : Cok X G k) (own : List (Str × Nat)) (vs1 : List Nat) (i : Nat) {y : Str} {py : Pos} (hi : DI X G tg iter si) (h : Lc2Ok X G tg tg1 iter1 elt ifs ifs1 scope js js1 st tt si1 st1 tt1 te) (hy : X.N[i]? = some y := by rfl) (hyl : X.env.scope.names.lookup y = some .local := by rfl) (hsw : swapsWith (.ListComp elt [⟨tg, iter, ifs, 0⟩, ⟨tg1, iter1, ifs1, 0⟩] scope pos) (some (.Name y py)) spos.line X.env = pure true := by exact sw_true rfl rfl rfl rfl)
    (ok : BlkOk X.N X.env.scope scope own := by exact blkOk_by rfl) (hj : ∀ j ∈ js, j ∈ own.map (·.2) := by decide) (hj1 : ∀ j ∈ js1, j ∈ vs1 := by decide) (hv : ∀ j ∈ vs1, j ∈ own.map (·.2) := by decide) (hs : ∀ x, foldedSetIterable iter X.env x = pure x := by intro _; rfl) (hs1 : ∀ env x, foldedSetIterable iter1 env x = pure x := by intro _ _; rfl) :
    PS X (.Assign [.Name y py] (.ListComp elt [⟨tg, iter, ifs, 0⟩, ⟨tg1, iter1, ifs1, 0⟩] scope pos) spos) (tS G (sAsg i (sLc2 si st tt si1 st1 tt1 te (own.map (·.2)) vs1))) := by
  refine PS.imp (ps_setLc2 C.c C.N hy hyl hsw hi ok hv h.g h.t h.i1 h.g1 h.t1 h.e hs hs1) fun N σ H q => ?_
  exact lc2_t hj hj1 hv (asg_t q)
end
end L3
/-! L3, part 29: max and min of three to five numbers. -/
namespace L3
open PySem PySem.Spec PyProof.Rows L2
theorem ats_ints {K : PySem.W.Frag} {F H : Hp} : ∀ {vs : List V} {ds : List D} {ns : List Int}, Ats K F H vs ds → intsD ds = some ns → vs = ns.map V.int ∧ ds = ns.map PyData.int
  | [], [], ns, _, e => by cases e; exact ⟨rfl, rfl⟩
  | v :: vs, d :: ds, ns, h, e => by
    cases d with
    | int i =>
      obtain ⟨ns', e', rfl⟩ := Option.map_eq_some_iff.mp (show (intsD ds).map (i :: ·) = some ns from e)
      obtain ⟨rfl, rfl⟩ := ats_ints h.2 e'
      rw [h.1.int]; exact ⟨rfl, rfl⟩
    | _ => cases e

section
variable {prog : Program} {w : World} {A : Around} {E : Value → Shared → Prop} {s : Shared}
theorem max_many {a b : Value} {r : List Value} {Q : Value → Shared → Prop} (ha : argsOk "max" ⟨a :: b :: r, []⟩) (hz : sizeOk (Data.seq (a :: b :: r).toArray))
    (h : wpAny (model prog w) A.in1 (pyIter (.ref s.heap.objs.size)) (fun it s₂ => ∃ I fp wr n P St bt, it = .ref I ∧ Walks prog w A.in1 I fp wr n P St ∧ St 0 s₂.heap ∧ (∀ b ∈ fp, b < s₂.heap.objs.size) ∧ 0 < n ∧ CmpOf prog w A.in1 .Gt P bt ∧
      ∀ v h' tk, P (argBest bt (n - 1)) v → (∀ b o, b ∉ wr → s₂.heap.get? b = some o → h'.get? b = some o) → Q v { s₂ with heap := h', toks := tk }) E
      { s with heap := s.heap.push { cls := .type "tuple", data := .seq (a :: b :: r).toArray } }) :
    wpAny (model prog w) A (call (.builtin "max") (a :: b :: r)) Q E s := by
  have hname : (toString "max" ++ toString ".loop" : String) = "max.loop" := by decide
  refine call_function_tree F.kind_max F.plain_max F.entry_max ha ?_
  show wpAny _ A.in1 (Builtin.Builtins.bindParams "max" ["key", "default"] 0 ⟨[], []⟩ >>= _) _ _ s
  refine wpAny_bind (wpAny_of_eq (show Builtin.Builtins.bindParams "max" ["key", "default"] 0 ⟨[], []⟩ = pure [none, none] from rfl) ?_)
  show wpAny _ A.in1 (newTuple (a :: b :: r) >>= _) _ _ s
  refine wpAny_bind (wpAny_newObj_type (hd := hz) ?_)
  refine wpAny_bind (wpAny_mono h (fun it s₂ h₂ => ?_) fun _ _ e => e)
  obtain ⟨I, fp, wr, n, P, St, bt, rfl, W, hst, hfp, hn, hcmp, hQ⟩ := h₂
  refine wpAny_bind (wpAny_newObj_type ?_)
  have hSf : s₂.heap.objs.size ∉ fp := fun hm => Nat.lt_irrefl _ (hfp _ hm)
  rw [hname]
  refine wpAny_pure ⟨plainId_quiet F.plain_max_loop _, codeAny_max_loop_first W bt hcmp s₂.heap.objs.size hSf hn (W.frame _ _ _ hst fun b _ o e => Heap.get?_push_of_some _ e) (Heap.get?_push_size _ rfl) fun v h' tk hP hk => ?_⟩
  exact hQ v h' tk hP fun b o hbw e => hk b o hbw (Nat.ne_of_lt (Heap.lt_size e)) (Heap.get?_push_of_some _ e)
theorem max_many_ints {vs : List Value} {ns : List Int} {Q : Value → Shared → Prop} (hh : A.handled = none) (hi : IntsAre vs ns) (h2 : 2 ≤ vs.length) (ha : argsOk "max" ⟨vs, []⟩) (hz : sizeOk (Data.seq vs.toArray))
    (h : ∀ h' tk M t', (∀ d o, s.heap.get? d = some o → h'.get? d = some o) → M ∈ ns → (∀ a, a ∈ ns → a ≤ M) → Q (.int M t') { s with heap := h', toks := tk }) :
    wpAny (model prog w) A (call (.builtin "max") vs) Q E s := by
  obtain ⟨xs, e⟩ := hi.allInts.items
  have hn : numsOf (intItems xs).toList = ns := by rw [← e]; exact hi.numsOf
  rw [nums_intItems] at hn
  subst hn
  have hsz : xs.size = vs.length := by
    have h := congrArg Array.size e
    have h1 : (intItems xs).size = xs.size := by simp [intItems]
    rw [h1] at h
    simpa using h.symm
  match vs, h2, ha, hz, e, hsz with
  | a :: b :: r, _, ha, hz, e, hsz =>
  have hT : (s.heap.push { cls := .type "tuple", data := .seq (a :: b :: r).toArray }).IsTuple s.heap.objs.size (intItems xs) := ⟨_, Heap.get?_push_size _ rfl, rfl, 0, by rw [e]⟩
  refine max_many ha hz (wpAny_pyIter_tuple hT ?_)
  have hs1 : (s.heap.push { cls := .type "tuple", data := .seq (a :: b :: r).toArray }).objs.size = s.heap.objs.size + 1 := Heap.size_push ..
  refine ⟨_, [_, s.heap.objs.size], [_], _, _, _, _, rfl, Walks.tuple (A := A.in1) hh _ s.heap.objs.size (by rw [hs1]; exact Nat.ne_of_lt (Nat.lt_succ_self _)) (intItems xs),
    ⟨⟨_, Heap.get?_push_size _ rfl, rfl, rfl⟩, hT.push _⟩, fun d hd => ?_, by simp [intItems]; rw [hsz]; simp, CmpOf.ints_gt (numAt xs) (fun _ _ => intItems_at), fun v h' tk hP hk => ?_⟩
  · show d < ((s.heap.push _).push _).objs.size
    rw [Heap.size_push, hs1]
    rcases List.mem_cons.mp hd with rfl | hd
    · rw [hs1]; exact Nat.lt_succ_self _
    · rcases List.mem_cons.mp hd with rfl | hd
      · exact Nat.lt_succ_of_lt (Nat.lt_succ_self _)
      · cases hd
  · have hold : ∀ d o, s.heap.get? d = some o → h'.get? d = some o := fun d o e => by
      refine hk d o (fun hm => ?_) (Heap.get?_push_of_some _ (Heap.get?_push_of_some _ e))
      rcases List.mem_cons.mp hm with e1 | hm
      · have := Heap.lt_size e; rw [e1, hs1] at this; exact Nat.lt_irrefl _ (Nat.lt_of_succ_lt this)
      · cases hm
    have hz : (intItems xs).size = xs.size := by simp [intItems]
    rw [hz] at hP
    obtain ⟨t, rfl⟩ := intItems_at hP
    obtain ⟨h1, h2⟩ := argBest_gt (numAt xs) (xs.size - 1)
    refine h h' tk _ t hold ?_ fun a ha => ?_
    · rw [numAt_eq]; exact PySem.getD_mem (by rw [List.length_map, Array.length_toList]; omega)
    · obtain ⟨j, hj, rfl⟩ := mem_getD ha
      rw [List.length_map, Array.length_toList] at hj
      rw [← numAt_eq]; exact h2 j (by omega)
end
theorem max_args : ∀ {vs : List Value}, 3 ≤ vs.length → vs.length ≤ 5 → argsOk "max" ⟨vs, []⟩
  | [a, b, c], _, _ => by unfold argsOk; kernel_rfl
  | [a, b, c, d], _, _ => by unfold argsOk; kernel_rfl
  | [a, b, c, d, e], _, _ => by unfold argsOk; kernel_rfl
  | [], h, _ => absurd h (by simp)
  | [_], h, _ => absurd h (by simp)
  | [_, _], h, _ => absurd h (by simp)
  | _ :: _ :: _ :: _ :: _ :: _ :: r, _, h => absurd h (by simp)
theorem max_sizes {vs : List Value} (h : vs.length ≤ 5) : sizeOk (Data.seq vs.toArray) := by
  show vs.toArray.size ≤ sizeLine
  rw [sizeLine_eq, List.size_toArray]
  omega
def rMaxN : List V → Hp → VK → Prop := fun xs H Q => ∃ ns : List Int, xs = ns.map V.int ∧ 3 ≤ ns.length ∧ ns.length ≤ 5 ∧ ∀ m, m ∈ ns → (∀ y, y ∈ ns → y ≤ m) → Q (.int m) H
theorem call_maxN {X : Cx} (hc : X.calm = true) : CallR X (.builtin "max") rMaxN := by
  intro pins s σ H xs us Q I r h
  obtain ⟨ns, rfl, h3, h5, q⟩ := h
  have hi := Vals.ints r
  have hl : us.length = ns.length := hi.length
  exact max_many_ints (I.ok.hd hc) hi (by omega) (max_args (by omega) (by omega)) (max_sizes (by omega)) fun h' tk m t' hk h1 h2 => ⟨.int _, H, I.kept hk, ⟨_, rfl⟩, q m h1 h2⟩
def maxND (ds : List D) : Option D := if 3 ≤ ds.length ∧ ds.length ≤ 5 then (intsD ds).bind fun
    | [] => none
    | n :: ns => some (.int (maxI n ns))
  else none
theorem ok_maxN {G : Gx} : FunOk G rMaxN maxND := by
  intro F O ρ σ H vs ds z Q w at_ e p
  unfold maxND at e
  split at e
  · rename_i hl
    obtain ⟨ns, e1, e2⟩ := Option.bind_eq_some_iff.mp e
    obtain ⟨rfl, rfl⟩ := ats_ints at_ e1
    cases ns with
    | nil => cases e2
    | cons n ns =>
      cases e2
      rw [List.length_map] at hl
      refine ⟨n :: ns, rfl, hl.1, hl.2, fun m h1 h2 => ?_⟩
      have : m = maxI n ns := Int.le_antisymm (maxI_le n ns m h1) (h2 _ (maxI_mem n ns))
      subst this
      exact p.now w (.int _)
  · cases e
section
variable {X : Cx} {G : Gx} {k n : Nat} {a b : Expr} {es : List Expr} {ss : Rho → Rs (List Vl)} {p pos : Pos}
theorem wMaxN (C : Cok X G k) (hm : X.mg "max" = none) (h : DA X G (a :: es) ss n) (hg : Gl X "max" := by rfl) : DE X G (.Call (.Name "max" p) (a :: es) [] pos) (sFun maxND ss) :=
  de_callB (call_maxN C.c) ok_maxN hg hm (by decide +kernel) h.pa h.pl (by decide) (by decide)
end
section
variable {prog : Program} {w : World} {A : Around} {E : Value → Shared → Prop} {s : Shared}
theorem min_many {a b : Value} {r : List Value} {Q : Value → Shared → Prop} (ha : argsOk "min" ⟨a :: b :: r, []⟩) (hz : sizeOk (Data.seq (a :: b :: r).toArray))
    (h : wpAny (model prog w) A.in1 (pyIter (.ref s.heap.objs.size)) (fun it s₂ => ∃ I fp wr n P St bt, it = .ref I ∧ Walks prog w A.in1 I fp wr n P St ∧ St 0 s₂.heap ∧ (∀ b ∈ fp, b < s₂.heap.objs.size) ∧ 0 < n ∧ CmpOf prog w A.in1 .Lt P bt ∧
      ∀ v h' tk, P (argBest bt (n - 1)) v → (∀ b o, b ∉ wr → s₂.heap.get? b = some o → h'.get? b = some o) → Q v { s₂ with heap := h', toks := tk }) E
      { s with heap := s.heap.push { cls := .type "tuple", data := .seq (a :: b :: r).toArray } }) :
    wpAny (model prog w) A (call (.builtin "min") (a :: b :: r)) Q E s := by
  have hname : (toString "min" ++ toString ".loop" : String) = "min.loop" := by decide
  refine call_function_tree F.kind_min F.plain_min F.entry_min ha ?_
  show wpAny _ A.in1 (Builtin.Builtins.bindParams "min" ["key", "default"] 0 ⟨[], []⟩ >>= _) _ _ s
  refine wpAny_bind (wpAny_of_eq (show Builtin.Builtins.bindParams "min" ["key", "default"] 0 ⟨[], []⟩ = pure [none, none] from rfl) ?_)
  show wpAny _ A.in1 (newTuple (a :: b :: r) >>= _) _ _ s
  refine wpAny_bind (wpAny_newObj_type (hd := hz) ?_)
  refine wpAny_bind (wpAny_mono h (fun it s₂ h₂ => ?_) fun _ _ e => e)
  obtain ⟨I, fp, wr, n, P, St, bt, rfl, W, hst, hfp, hn, hcmp, hQ⟩ := h₂
  refine wpAny_bind (wpAny_newObj_type ?_)
  have hSf : s₂.heap.objs.size ∉ fp := fun hm => Nat.lt_irrefl _ (hfp _ hm)
  rw [hname]
  refine wpAny_pure ⟨plainId_quiet F.plain_min_loop _, codeAny_min_loop_first W bt hcmp s₂.heap.objs.size hSf hn (W.frame _ _ _ hst fun b _ o e => Heap.get?_push_of_some _ e) (Heap.get?_push_size _ rfl) fun v h' tk hP hk => ?_⟩
  exact hQ v h' tk hP fun b o hbw e => hk b o hbw (Nat.ne_of_lt (Heap.lt_size e)) (Heap.get?_push_of_some _ e)
theorem min_many_ints {vs : List Value} {ns : List Int} {Q : Value → Shared → Prop} (hh : A.handled = none) (hi : IntsAre vs ns) (h2 : 2 ≤ vs.length) (ha : argsOk "min" ⟨vs, []⟩) (hz : sizeOk (Data.seq vs.toArray))
    (h : ∀ h' tk M t', (∀ d o, s.heap.get? d = some o → h'.get? d = some o) → M ∈ ns → (∀ a, a ∈ ns → M ≤ a) → Q (.int M t') { s with heap := h', toks := tk }) :
    wpAny (model prog w) A (call (.builtin "min") vs) Q E s := by
  obtain ⟨xs, e⟩ := hi.allInts.items
  have hn : numsOf (intItems xs).toList = ns := by rw [← e]; exact hi.numsOf
  rw [nums_intItems] at hn
  subst hn
  have hsz : xs.size = vs.length := by
    have h := congrArg Array.size e
    have h1 : (intItems xs).size = xs.size := by simp [intItems]
    rw [h1] at h
    simpa using h.symm
  match vs, h2, ha, hz, e, hsz with
  | a :: b :: r, _, ha, hz, e, hsz =>
  have hT : (s.heap.push { cls := .type "tuple", data := .seq (a :: b :: r).toArray }).IsTuple s.heap.objs.size (intItems xs) := ⟨_, Heap.get?_push_size _ rfl, rfl, 0, by rw [e]⟩
  refine min_many ha hz (wpAny_pyIter_tuple hT ?_)
  have hs1 : (s.heap.push { cls := .type "tuple", data := .seq (a :: b :: r).toArray }).objs.size = s.heap.objs.size + 1 := Heap.size_push ..
  refine ⟨_, [_, s.heap.objs.size], [_], _, _, _, _, rfl, Walks.tuple (A := A.in1) hh _ s.heap.objs.size (by rw [hs1]; exact Nat.ne_of_lt (Nat.lt_succ_self _)) (intItems xs),
    ⟨⟨_, Heap.get?_push_size _ rfl, rfl, rfl⟩, hT.push _⟩, fun d hd => ?_, by simp [intItems]; rw [hsz]; simp, CmpOf.ints_lt (numAt xs) (fun _ _ => intItems_at), fun v h' tk hP hk => ?_⟩
  · show d < ((s.heap.push _).push _).objs.size
    rw [Heap.size_push, hs1]
    rcases List.mem_cons.mp hd with rfl | hd
    · rw [hs1]; exact Nat.lt_succ_self _
    · rcases List.mem_cons.mp hd with rfl | hd
      · exact Nat.lt_succ_of_lt (Nat.lt_succ_self _)
      · cases hd
  · have hold : ∀ d o, s.heap.get? d = some o → h'.get? d = some o := fun d o e => by
      refine hk d o (fun hm => ?_) (Heap.get?_push_of_some _ (Heap.get?_push_of_some _ e))
      rcases List.mem_cons.mp hm with e1 | hm
      · have := Heap.lt_size e; rw [e1, hs1] at this; exact Nat.lt_irrefl _ (Nat.lt_of_succ_lt this)
      · cases hm
    have hz : (intItems xs).size = xs.size := by simp [intItems]
    rw [hz] at hP
    obtain ⟨t, rfl⟩ := intItems_at hP
    obtain ⟨h1, h2⟩ := argBest_lt (numAt xs) (xs.size - 1)
    refine h h' tk _ t hold ?_ fun a ha => ?_
    · rw [numAt_eq]; exact PySem.getD_mem (by rw [List.length_map, Array.length_toList]; omega)
    · obtain ⟨j, hj, rfl⟩ := mem_getD ha
      rw [List.length_map, Array.length_toList] at hj
      rw [← numAt_eq]; exact h2 j (by omega)
end
theorem min_args : ∀ {vs : List Value}, 3 ≤ vs.length → vs.length ≤ 5 → argsOk "min" ⟨vs, []⟩
  | [a, b, c], _, _ => by unfold argsOk; kernel_rfl
  | [a, b, c, d], _, _ => by unfold argsOk; kernel_rfl
  | [a, b, c, d, e], _, _ => by unfold argsOk; kernel_rfl
  | [], h, _ => absurd h (by simp)
  | [_], h, _ => absurd h (by simp)
  | [_, _], h, _ => absurd h (by simp)
  | _ :: _ :: _ :: _ :: _ :: _ :: r, _, h => absurd h (by simp)
theorem min_sizes {vs : List Value} (h : vs.length ≤ 5) : sizeOk (Data.seq vs.toArray) := by
  show vs.toArray.size ≤ sizeLine
  rw [sizeLine_eq, List.size_toArray]
  omega
def rMinN : List V → Hp → VK → Prop := fun xs H Q => ∃ ns : List Int, xs = ns.map V.int ∧ 3 ≤ ns.length ∧ ns.length ≤ 5 ∧ ∀ m, m ∈ ns → (∀ y, y ∈ ns → m ≤ y) → Q (.int m) H
theorem call_minN {X : Cx} (hc : X.calm = true) : CallR X (.builtin "min") rMinN := by
  intro pins s σ H xs us Q I r h
  obtain ⟨ns, rfl, h3, h5, q⟩ := h
  have hi := Vals.ints r
  have hl : us.length = ns.length := hi.length
  exact min_many_ints (I.ok.hd hc) hi (by omega) (min_args (by omega) (by omega)) (min_sizes (by omega)) fun h' tk m t' hk h1 h2 => ⟨.int _, H, I.kept hk, ⟨_, rfl⟩, q m h1 h2⟩
def minND (ds : List D) : Option D := if 3 ≤ ds.length ∧ ds.length ≤ 5 then (intsD ds).bind fun
    | [] => none
    | n :: ns => some (.int (minI n ns))
  else none
theorem ok_minN {G : Gx} : FunOk G rMinN minND := by
  intro F O ρ σ H vs ds z Q w at_ e p
  unfold minND at e
  split at e
  · rename_i hl
    obtain ⟨ns, e1, e2⟩ := Option.bind_eq_some_iff.mp e
    obtain ⟨rfl, rfl⟩ := ats_ints at_ e1
    cases ns with
    | nil => cases e2
    | cons n ns =>
      cases e2
      rw [List.length_map] at hl
      refine ⟨n :: ns, rfl, hl.1, hl.2, fun m h1 h2 => ?_⟩
      have : m = minI n ns := Int.le_antisymm (h2 _ (minI_mem n ns)) (minI_le n ns m h1)
      subst this
      exact p.now w (.int _)
  · cases e
section
variable {X : Cx} {G : Gx} {k n : Nat} {a b : Expr} {es : List Expr} {ss : Rho → Rs (List Vl)} {p pos : Pos}
theorem wMinN (C : Cok X G k) (hm : X.mg "min" = none) (h : DA X G (a :: es) ss n) (hg : Gl X "min" := by rfl) : DE X G (.Call (.Name "min" p) (a :: es) [] pos) (sFun minND ss) :=
  de_callB (call_minN C.c) ok_minN hg hm (by decide +kernel) h.pa h.pl (by decide) (by decide)
end
end L3
/-! L3, part 30: a, b, c, d, .. = values by a tuple, where new lists stay owned. -/
namespace L3
open PySem PySem.Spec PyProof.Rows L2
def putEv : List Nat → List Vf → Rho → Rs Fl
  | [], [], ρ => .ok .nx ρ
  | i :: js, x :: xs, ρ => match cellF x with
    | some c => thenG (put i c ρ) fun ρ => putEv js xs ρ
    | none => .bad
  | _, _, _ => .bad
def sParN (js : List Nat) (a : Rho → Rs (List Vf)) : Rho → Rs Fl := fun ρ => (a ρ).bind fun xs ρ => if xs.length = js.length ∧ js.length ≤ 16777216 then thenG (putEv js xs ρ) fun ρ => .ok .nx ρ else .bad
def gAll (G : Gx) (js : List Nat) : TGs := fun vs σ H Q => ∃ ρ F O xs ρ', Wd G.K F O ρ σ H ∧ Items G.K F O ρ σ H vs xs ∧ putEv js xs ρ = .ok .nx ρ' ∧ ∀ σ', Wd G.K F O ρ' σ' H → Q σ' H
theorem putEv_ok : ∀ {js : List Nat} {xs : List Vf} {ρ ρ' : Rho}, putEv js xs ρ = .ok .nx ρ' → ∀ y ∈ xs, (cellF y).isSome = true
  | [], [], _, _, _, y, hy => by cases hy
  | i :: js, x :: xs, ρ, ρ', e, y, hy => by
    unfold putEv at e
    split at e
    · rename_i c hc
      obtain ⟨ρ1, e1, e2⟩ := thenG_ok e
      rcases List.mem_cons.mp hy with rfl | hy
      · rw [hc]; rfl
      · exact putEv_ok e2 y hy
    · cases e
  | [], _ :: _, _, _, e, _, _ => by cases e
  | _ :: _, [], _, _, e, _, _ => by cases e
section
variable {X : Cx} {G : Gx} {e : Expr} {es vs : List Expr} {js : List Nat} {ss : Rho → Rs (List Vf)} {pos : Pos}
structure DGA (X : Cx) (G : Gx) (es : List Expr) (js : List Nat) : Prop where
  g : PGs X es (gAll G js)
theorem aN : DGA X G [] [] := ⟨PGs.imp pgs_nil fun vs σ H Q h => by
  obtain ⟨ρ, F, O, xs, ρ', w, it, e, k⟩ := h
  cases it with
  | nil => cases e; exact ⟨rfl, k σ w⟩
  | _ => cases e⟩
theorem aC {k : Nat} (C : Cok X G k) (i : Nat) {x : Str} {p : Pos} (r : DGA X G es js) (hi : X.N[i]? = some x := by rfl) (hx : Loc X.env.scope x := by first | exact Or.inl rfl | exact Or.inr rfl) (hf : X.fn x = true ∨ X.env.scope.names.lookup x = some .local := by first | exact Or.inl rfl | exact Or.inr rfl)
    (hs : (assignEach (.Name x p :: es) X.env).map (·.2) = assign (.Name x p) X.env :: (assignEach es X.env).map (·.2) := by rfl) : DGA X G (.Name x p :: es) (i :: js) :=
  ⟨PGs.imp (pgs_cons (pg_name C.N hi hx hf) r.g hs) fun vs σ H Q h => by
    obtain ⟨ρ, F, O, xs, ρ', w, it, e, k⟩ := h
    match vs, xs, it, e with
    | [], [], _, e => cases e
    | v :: vs, x :: xs, it, e =>
      unfold putEv at e
      split at e
      · rename_i c hc
        obtain ⟨ρ1, e1, e2⟩ := thenG_ok e
        obtain ⟨_, rfl, hi', nl⟩ := put_inv e1
        obtain ⟨w2, it2⟩ := it.put w hc (putEv_ok e2) hi' nl
        exact ⟨v, vs, rfl, _, F, O, xs, ρ', w2, it2, e2, k⟩
      · cases e⟩
theorem kParN {k : Nat} (C : Cok X G k) {pt pt2 : Pos} {kt k2 : Nat} (hv : DAF X G vs ss) (hg : DGA X G es js) (hn : (assignEach es X.env).length = js.length := by rfl) (hst : (assignEach es X.env).findIdx? (·.1) = none := by rfl)
    (hs : swapsWithSole [.Tuple es kt pt] (.Tuple vs k2 pt2) pos.line X.env = pure false := by rfl) (hw : swappedStores [.Tuple es kt pt] (.Tuple vs k2 pt2) X.env = pure none := by rfl) (h1 : (assignEach [.Tuple es kt pt] X.env).map (·.2) = [assign (.Tuple es kt pt) X.env] := by rfl) :
    PS X (.Assign [.Tuple es kt pt] (.Tuple vs k2 pt2) pos) (tS G (sParN js ss)) := by
  refine PS.imp (ps_asg (pe_tup hv.pa) (pg_tup C.c hg.g hn hst) hs hw h1) fun N σ H asks => ?_
  obtain ⟨ρ, F, O, w, asks⟩ := asks
  refine fs_bind w asks fun xs ρ1 vs H1 F1 w1 it h1 => ?_
  split at h1
  · rename_i hl
    obtain ⟨ρ3, e3, h3⟩ := then_fin h1
    have hlen : vs.length = xs.length := items_len it
    refine ⟨by rw [hlen, hl.1, sizeLine_eq]; omega, fun p hp => ⟨p, vs, rfl, .inl (.inl upd_same), by rw [hlen, hl.1], ρ1, F1, O, xs, ρ3, w1.lose hp, items_lose it hp, e3, fun σ' w' => h3 σ' _ F1 w' (Sub.refl _)⟩⟩
  · exact h1.elim
where
  items_len {K : PySem.W.Frag} {F : Hp} {O : Fm} {ρ : Rho} {σ : L2.St} {H : Hp} : ∀ {vs : List V} {xs : List Vf}, Items K F O ρ σ H vs xs → vs.length = xs.length
    | _, _, .nil => rfl
    | _, _, .v _ r => congrArg (· + 1) (items_len r)
    | _, _, .fr _ _ r => congrArg (· + 1) (items_len r)
  items_lose {K : PySem.W.Frag} {F : Hp} {O : Fm} {ρ : Rho} {σ : L2.St} {H : Hp} {p : Addr} {o : HO} : ∀ {vs : List V} {xs : List Vf}, Items K F O ρ σ H vs xs → H p = none → Items K F O ρ σ (upd H p o) vs xs
    | _, _, .nil, _ => .nil
    | _, _, .v h r, hp => .v h (items_lose r hp)
    | _, _, .fr (a := a) x nb r, hp => .fr ⟨x.f, x.o, by
        obtain ⟨u, hu⟩ := x.at_.some
        exact x.at_.mono (Sub.refl _) (upd_ne (ne_of_none hu hp)), x.ap⟩ nb (items_lose r hp)
end
end L3
/-! L3, part 31: dicts whose keys are numbers and texts, or tuples of these. -/
namespace L3
open PySem PySem.Spec PyProof.Rows L2
/-! ### keys -/
abbrev KF := Key ⊕ List Key
def keyF : D → Option Key
  | .int i => some (.inl i)
  | .str s => some (.inr s)
  | _ => none
def keysF : List D → Option (List Key)
  | [] => some []
  | d :: ds => (keyF d).bind fun k => (keysF ds).map (k :: ·)
def kOf : D → Option KF
  | .tuple ds => (keysF ds).map .inr
  | d => (keyF d).map .inl
theorem keyF_kD (k : Key) : keyF (kD k) = some k := by cases k <;> rfl
theorem keyF_inv {d : D} {k : Key} (h : keyF d = some k) : d = kD k := by cases d <;> simp [keyF] at h <;> (subst h; rfl)
theorem keysF_kD : ∀ ks : List Key, keysF (ks.map kD) = some ks
  | [] => rfl
  | k :: ks => by simp [keysF, keyF_kD, keysF_kD ks]
theorem keysF_inv : ∀ {ds : List D} {ks : List Key}, keysF ds = some ks → ds = ks.map kD
  | [], ks, h => by cases h; rfl
  | d :: ds, ks, h => by
    obtain ⟨k, e1, h⟩ := Option.bind_eq_some_iff.mp (show (keyF d).bind _ = some ks from h)
    obtain ⟨r, e2, rfl⟩ := Option.map_eq_some_iff.mp h
    rw [keyF_inv e1, keysF_inv e2]; rfl
theorem kOf_kD (k : Key) : kOf (kD k) = some (.inl k) := by cases k <;> rfl
theorem kOf_tup (ks : List Key) : kOf (.tuple (ks.map kD)) = some (.inr ks) := by show (keysF _).map _ = _; rw [keysF_kD]; rfl
theorem kOf_inl {d : D} {k : Key} (h : kOf d = some (.inl k)) : d = kD k := by
  cases d with
  | tuple ds => obtain ⟨x, _, e⟩ := Option.map_eq_some_iff.mp (show (keysF ds).map _ = _ from h); cases e
  | int i => cases h; rfl
  | str i => cases h; rfl
  | _ => cases h
theorem kOf_inr {d : D} {ks : List Key} (h : kOf d = some (.inr ks)) : d = .tuple (ks.map kD) := by
  cases d with
  | tuple ds =>
    obtain ⟨x, e1, e⟩ := Option.map_eq_some_iff.mp (show (keysF ds).map _ = _ from h)
    cases e
    rw [keysF_inv e1]
  | _ => first | cases h | (obtain ⟨x, _, e⟩ := Option.map_eq_some_iff.mp h; cases e)
def sameK : Option KF → KF → Bool
  | some (.inl _), .inl _ => true
  | some (.inr _), .inr _ => true
  | _, _ => false
/-! ### tables -/
def dFind (ds : List (D × D)) (q : KF) : Option D := (ds.find? fun p => decide (kOf p.1 = some q)).map (·.2)
def dAll (ds : List (D × D)) (q : KF) : Bool := ds.all fun p => sameK (kOf p.1) q
def dLook (d k : D) : Option (Option D) :=
  match d, kOf k with
  | .dict ds, some q => if dAll ds q then some (dFind ds q) else none
  | _, _ => none
def dPutL (ds : List (D × D)) (q : KF) (k v : D) : List (D × D) := if (dFind ds q).isSome then ds.map (fun p => if kOf p.1 = some q then (p.1, v) else p) else ds ++ [(k, v)]
def dPut (d k v : D) : Option D :=
  match d, kOf k with
  | .dict ds, some q => if dAll ds q && decide (ds.length < sizeLine) then some (.dict (dPutL ds q k v)) else none
  | _, _ => none
theorem sameK_l {x : Option KF} {k : Key} (h : sameK x (.inl k) = true) : ∃ j, x = some (.inl j) := by
  match x, h with
  | some (.inl j), _ => exact ⟨j, rfl⟩
theorem sameK_r {x : Option KF} {k : List Key} (h : sameK x (.inr k) = true) : ∃ j, x = some (.inr j) := by
  match x, h with
  | some (.inr j), _ => exact ⟨j, rfl⟩
inductive RelRp (K : PySem.W.Frag) (F : Hp) : Option V → Option D → Prop
  | none : RelRp K F none none
  | some {v : V} {d : D} : Rp K F v d → RelRp K F (some v) (some d)
section
variable {K : PySem.W.Frag} {F H : Hp}
theorem dFind_cons {p : D × D} {ds : List (D × D)} {q : KF} : dFind (p :: ds) q = if kOf p.1 = some q then some p.2 else dFind ds q := by
  unfold dFind
  rw [List.find?_cons]
  by_cases e : kOf p.1 = some q <;> simp [e]
theorem rpK_find (k : Key) : ∀ {kvs : List (Key × V)} {ds : List (D × D)}, RpK K F kvs ds → RelRp K F (valV kvs k) (dFind ds (.inl k))
  | _, _, .nil => .none
  | _, _, .cons (k := j) r t => by
    rw [dFind_cons, kOf_kD]
    by_cases e : j = k
    · subst e
      rw [valV_pos rfl, if_pos rfl]
      exact .some r
    · rw [valV_neg (by exact e), if_neg (fun z => by cases z; exact e rfl)]
      exact rpK_find k t
theorem rpT_find (k : List Key) : ∀ {kvs : List (List Key × V)} {ds : List (D × D)}, RpT K F kvs ds → RelRp K F (valV kvs k) (dFind ds (.inr k))
  | _, _, .nil => .none
  | _, _, .cons (k := j) r t => by
    rw [dFind_cons, kOf_tup]
    by_cases e : j = k
    · subst e
      rw [valV_pos rfl, if_pos rfl]
      exact .some r
    · rw [valV_neg (by exact e), if_neg (fun z => by cases z; exact e rfl)]
      exact rpT_find k t
theorem RelRp.isSome {a : Option V} {b : Option D} (h : RelRp K F a b) : a.isSome = b.isSome := by cases h <;> rfl
theorem rpK_len : ∀ {kvs : List (Key × V)} {ds : List (D × D)}, RpK K F kvs ds → kvs.length = ds.length
  | _, _, .nil => rfl
  | _, _, .cons _ t => congrArg (· + 1) (rpK_len t)
theorem rpT_len : ∀ {kvs : List (List Key × V)} {ds : List (D × D)}, RpT K F kvs ds → kvs.length = ds.length
  | _, _, .nil => rfl
  | _, _, .cons _ t => congrArg (· + 1) (rpT_len t)
theorem rpK_map (k : Key) {v : V} {d : D} (rv : Rp K F v d) : ∀ {kvs : List (Key × V)} {ds : List (D × D)}, RpK K F kvs ds → RpK K F (kvs.map fun kv => if kv.1 = k then (kv.1, v) else kv) (ds.map fun p => if kOf p.1 = some (.inl k) then (p.1, d) else p)
  | _, _, .nil => .nil
  | _, _, .cons (k := j) r t => by
    rw [List.map_cons, List.map_cons, kOf_kD]
    by_cases e : j = k
    · subst e
      rw [if_pos rfl, if_pos rfl]
      exact .cons rv (rpK_map _ rv t)
    · rw [if_neg e, if_neg (fun z => by cases z; exact e rfl)]
      exact .cons r (rpK_map _ rv t)
theorem rpT_map (k : List Key) {v : V} {d : D} (rv : Rp K F v d) : ∀ {kvs : List (List Key × V)} {ds : List (D × D)}, RpT K F kvs ds → RpT K F (kvs.map fun kv => if kv.1 = k then (kv.1, v) else kv) (ds.map fun p => if kOf p.1 = some (.inr k) then (p.1, d) else p)
  | _, _, .nil => .nil
  | _, _, .cons (k := j) r t => by
    rw [List.map_cons, List.map_cons, kOf_tup]
    by_cases e : j = k
    · subst e
      rw [if_pos rfl, if_pos rfl]
      exact .cons rv (rpT_map _ rv t)
    · rw [if_neg e, if_neg (fun z => by cases z; exact e rfl)]
      exact .cons r (rpT_map _ rv t)
theorem rpK_app {v : V} {d : D} {k : Key} (rv : Rp K F v d) : ∀ {kvs : List (Key × V)} {ds : List (D × D)}, RpK K F kvs ds → RpK K F (kvs ++ [(k, v)]) (ds ++ [(kD k, d)])
  | _, _, .nil => .cons rv .nil
  | _, _, .cons r t => .cons r (rpK_app rv t)
theorem rpT_app {v : V} {d : D} {k : List Key} (rv : Rp K F v d) : ∀ {kvs : List (List Key × V)} {ds : List (D × D)}, RpT K F kvs ds → RpT K F (kvs ++ [(k, v)]) (ds ++ [(.tuple (k.map kD), d)])
  | _, _, .nil => .cons rv .nil
  | _, _, .cons r t => .cons r (rpT_app rv t)
theorem putK_ne {κ : Type} [DecidableEq κ] {kvs : List (κ × V)} {k : κ} {v : V} : putK kvs k v ≠ [] := by
  unfold putK
  split
  · rename_i h
    cases kvs with
    | nil => simp at h
    | cons => simp
  · simp
theorem rpK_put {v : V} {d : D} {k : Key} (rv : Rp K F v d) {kvs : List (Key × V)} {ds : List (D × D)} (r : RpK K F kvs ds) : RpK K F (putK kvs k v) (dPutL ds (.inl k) (kD k) d) := by
  unfold putK dPutL
  rw [valV_any, (rpK_find k r).isSome]
  split
  · exact rpK_map k rv r
  · exact rpK_app rv r
theorem rpT_put {v : V} {d : D} {k : List Key} (rv : Rp K F v d) {kvs : List (List Key × V)} {ds : List (D × D)} (r : RpT K F kvs ds) : RpT K F (putK kvs k v) (dPutL ds (.inr k) (.tuple (k.map kD)) d) := by
  unfold putK dPutL
  rw [valV_any, (rpT_find k r).isSome]
  split
  · exact rpT_map k rv r
  · exact rpT_app rv r
/-- where a key lies -/
inductive KeyAt (H : Hp) : V → KF → Prop
  | k (k : Key) : KeyAt H (kV k) (.inl k)
  | t {b : Addr} {ks : List Key} : H b = some (.tup (ks.map kV)) → KeyAt H (.ref b) (.inr ks)
theorem rpL_keys : ∀ {ks : List Key} {vs : List V}, RpL K F vs (ks.map kD) → vs = ks.map kV
  | [], _, .nil => rfl
  | k :: ks, _, .cons r t => by
    rw [List.map_cons, ← rpL_keys t]
    cases k <;> (cases r; rfl)
theorem At.key (s : Sub F H) {v : V} {d : D} {q : KF} (h : At K F H v d) (e : kOf d = some q) : KeyAt H v q := by
  cases q with
  | inl k =>
    have e := kOf_inl e
    subst e
    cases k with
    | inl i => have h : At K F H v (.int i) := h; rw [h.int]; exact .k (.inl i)
    | inr x => have h : At K F H v (.str x) := h; rw [h.str]; exact .k (.inr x)
  | inr ks =>
    have e := kOf_inr e
    subst e
    rcases h with h | ⟨a, _, h⟩
    · cases h with
      | tup h r => rw [rpL_keys r] at h; exact .t (s.eq h)
    · exact h.elim
/-- a dict -/
theorem At.dict (s : Sub F H) {v : V} {ds : List (D × D)} {q : KF} (h : At K F H v (.dict ds)) (e : dAll ds q = true) : ∃ a, v = .ref a ∧ ((∃ kvs, Rd H a (.dK kvs) ∧ RpK K F kvs ds) ∨ ∃ kvs, kvs ≠ [] ∧ Rd H a (.dT kvs) ∧ RpT K F kvs ds) := by
  rcases h with h | ⟨a, rfl, h⟩
  · generalize hd : PyData.dict ds = d at h
    cases h with
    | scr h =>
      cases hd
      simp [dAll, kOf, keyF, sameK] at e
    | dK h r => cases hd; exact ⟨_, rfl, .inl ⟨_, s.rd h, r⟩⟩
    | dT n h r => cases hd; exact ⟨_, rfl, .inr ⟨_, n, s.rd h, r⟩⟩
    | _ => cases hd
  · rcases h with ⟨kvs, h, r⟩ | ⟨kvs, n, h, r⟩
    · exact ⟨a, rfl, .inl ⟨kvs, .inl h, r⟩⟩
    · exact ⟨a, rfl, .inr ⟨kvs, n, .inl h, r⟩⟩
/-- the dict's kind fits the key, or it is empty -/
inductive DFit (H : Hp) (a : Addr) (y : V) (o : Option V) : Prop
  | g (h : DGet H a y o) : DFit H a y o
  | e (h : Rd H a (.dK []) ∨ Rd H a (.dT [])) (ho : o = none) : DFit H a y o
theorem look_at (s : Sub F H) {v y : V} {d k : D} {o : Option D} (hd : At K F H v d) (hk : At K F H y k) (e : dLook d k = some o) : ∃ a q ov, v = .ref a ∧ KeyAt H y q ∧ DFit H a y ov ∧ RelRp K F ov o := by
  unfold dLook at e
  split at e
  · rename_i ds q eq
    split at e
    · rename_i ha
      cases e
      have kq := hk.key s eq
      obtain ⟨a, rfl, h⟩ := hd.dict s ha
      rcases h with ⟨kvs, h, r⟩ | ⟨kvs, n, h, r⟩
      · cases q with
        | inl k =>
          refine ⟨a, _, _, rfl, kq, .g ?_, rpK_find k r⟩
          cases kq
          exact .inl ⟨kvs, k, h, rfl, rfl⟩
        | inr ks =>
          have : kvs = [] := by
            cases r with
            | nil => rfl
            | cons => simp [dAll, kOf_kD, sameK] at ha
          subst this
          cases r
          exact ⟨a, _, none, rfl, kq, .e (.inl h) rfl, .none⟩
      · cases q with
        | inl k =>
          have : kvs = [] := by
            cases r with
            | nil => rfl
            | cons => simp [dAll, kOf_tup, sameK] at ha
          exact absurd this n
        | inr ks =>
          refine ⟨a, _, _, rfl, kq, .g ?_, rpT_find ks r⟩
          cases kq with
          | t hb => exact .inr ⟨kvs, ks, _, h, rfl, hb, rfl⟩
    · cases e
  · cases e
end
/-! ### an empty dict is of either kind -/
section
variable {X : Cx} {pins : List (Addr × Obj)} {σ : L2.St} {H : Hp} {s : Shared} {a : Addr} {A : Around} {E : Value → Shared → Prop}
theorem ok_kt {P : Program} {w : World} {H : Hp} {h : Heap} (x : ObjOk P w H h a (.dK [])) : ObjOk P w H h a (.dT []) := by
  obtain ⟨z, hd, vs, r, o, es, ep, e1, e2, e3, e4, e5, _⟩ := x
  cases r
  have e6 : es.toList = [] := by
    cases h : es.toList with
    | nil => rfl
    | cons => rw [h] at e5; cases e5
  exact ⟨z, hd, [], .nil, o, es, ep, e1, e2, e3, e6, List.nodup_nil⟩
theorem ok_tk {P : Program} {w : World} {H : Hp} {h : Heap} (x : ObjOk P w H h a (.dT [])) : ObjOk P w H h a (.dK []) := by
  obtain ⟨z, hd, vs, r, o, es, ep, e1, e2, e3, e4, _⟩ := x
  cases r
  have e5 : es = #[] := by
    obtain ⟨l⟩ := es
    have e4 : l = [] := e4
    subst e4; rfl
  subst e5
  exact ⟨z, hd, [], .nil, o, #[], ep, e1, e2, e3, (fun e he => by simp at he), PySem.Pairs.nil, List.nodup_nil⟩
theorem upd_back {H : Hp} {a : Addr} {o u : HO} (e : H a = some o) : upd (upd H a u) a o = H := by
  rw [upd_upd]
  funext b
  by_cases h : b = a
  · subst h; rw [upd_same, e]
  · rw [upd_ne h]
theorem objok_upd {P : Program} {w : World} {h : Heap} {o u v : HO} (e : H a = some o) (x : ObjOk P w H h a u) (no : ∀ ys, o ≠ .tup ys) (nw : ∀ y, o ≠ .own y) : ObjOk P w (upd H a v) h a u :=
  x.stay (fun _ _ _ q => q) (fun b q => by rw [upd_ne (fun z => by subst z; rw [e] at q; cases q; exact nw _ rfl)]; exact q) fun b xs q => by rw [upd_ne (fun z => by subst z; rw [e] at q; cases q; exact no _ rfl)]; exact q
theorem inv_kt (I : Inv X pins σ H s) (e : H a = some (.dK [])) : Inv X pins σ (upd H a (.dT [])) s := by
  have x := I.hok a _ e
  have ex : ∃ q, s.heap.get? a = some q := let ⟨_, _, _, _, o, _, _, e1, _⟩ := x; ⟨o, e1⟩
  exact d_write (t' := s.toks) I (by rw [e]; exact True.intro) ⟨rfl, fun _ _ => rfl⟩ ex (objok_upd e (ok_kt x) (fun _ z => nomatch z) fun _ z => nomatch z)
theorem inv_tk (I : Inv X pins σ H s) (e : H a = some (.dT [])) : Inv X pins σ (upd H a (.dK [])) s := by
  have x := I.hok a _ e
  have ex : ∃ q, s.heap.get? a = some q := let ⟨_, _, _, _, o, _, _, e1, _⟩ := x; ⟨o, e1⟩
  exact d_write (t' := s.toks) I (by rw [e]; exact True.intro) ⟨rfl, fun _ _ => rfl⟩ ex (objok_upd e (ok_tk x) (fun _ z => nomatch z) fun _ z => nomatch z)
/-- y in d, whatever the kinds -/
theorem d_inF {Q : Value → Shared → Prop} {y : V} {u : Value} {q : KF} {o : Option V} (hu : A.units + 1 < cLine) (I : Inv X pins σ H s) (k : KeyAt H y q) (g : DFit H a y o) (ry : RelV y u) (h : ∀ s', Inv X pins σ H s' → Q (.bool o.isSome) s') :
    wpAny (model X.prog X.w) A (compareOp .In u (.ref a)) Q E s := by
  cases g with
  | g g => exact d_in hu I g ry h
  | e he ho =>
    subst ho
    cases k with
    | k k =>
      rcases he with he | he
      · exact d_in (o := none) hu I (.inl ⟨[], k, he, rfl, rfl⟩) ry h
      · obtain ⟨z, hd, xs, rel, dd⟩ := dt_rd I.hok he
        have hx : ObjOk X.prog X.w H s.heap a (.dK []) := ok_tk (he.ok I.hok)
        obtain ⟨_, _, vs, r, dk⟩ := hx
        cases r
        exact wpAny_in_of (kV_is ry) hd dk.mapOf (h _ (I.tok _))
    | @t b ks hb =>
      rcases he with he | he
      · obtain ⟨z, hd, vs, rel, dd⟩ := dk_rd I.hok he
        have hx : ObjOk X.prog X.w H s.heap a (.dT []) := ok_kt (he.ok I.hok)
        obtain ⟨_, _, xs, r, o', es, ep, e1, e2, e3, e4, e5⟩ := hx
        cases r
        cases (show u = Value.ref b from ry)
        have dd' : s.heap.DictOfH (tupleKind (mixKind X.prog X.w)) a ([] : List (List Key × Addr × Value)) := ⟨o', es, ep, e1, e2, e3, e4, (fun _ hx => nomatch hx), e5⟩
        exact wpAny_in_heap (tupleKind_room_in1 hu) (key_of I.hok hb) hd dd' (h _ (I.tok _))
      · exact d_in (o := none) hu I (.inr ⟨[], ks, b, he, rfl, hb, rfl⟩) ry h
theorem d_notInF {Q : Value → Shared → Prop} {y : V} {u : Value} {q : KF} {o : Option V} (hu : A.units + 1 < cLine) (I : Inv X pins σ H s) (k : KeyAt H y q) (g : DFit H a y o) (ry : RelV y u) (h : ∀ s', Inv X pins σ H s' → Q (.bool (!o.isSome)) s') :
    wpAny (model X.prog X.w) A (compareOp .NotIn u (.ref a)) Q E s := by
  cases g with
  | g g => exact d_notIn hu I g ry h
  | e he ho =>
    subst ho
    cases k with
    | k k =>
      rcases he with he | he
      · exact d_notIn (o := none) hu I (.inl ⟨[], k, he, rfl, rfl⟩) ry h
      · obtain ⟨z, hd, xs, rel, dd⟩ := dt_rd I.hok he
        have hx : ObjOk X.prog X.w H s.heap a (.dK []) := ok_tk (he.ok I.hok)
        obtain ⟨_, _, vs, r, dk⟩ := hx
        cases r
        exact wpAny_notIn_of (kV_is ry) hd dk.mapOf (h _ (I.tok _))
    | @t b ks hb =>
      rcases he with he | he
      · obtain ⟨z, hd, vs, rel, dd⟩ := dk_rd I.hok he
        have hx : ObjOk X.prog X.w H s.heap a (.dT []) := ok_kt (he.ok I.hok)
        obtain ⟨_, _, xs, r, o', es, ep, e1, e2, e3, e4, e5⟩ := hx
        cases r
        cases (show u = Value.ref b from ry)
        have dd' : s.heap.DictOfH (tupleKind (mixKind X.prog X.w)) a ([] : List (List Key × Addr × Value)) := ⟨o', es, ep, e1, e2, e3, e4, (fun _ hx => nomatch hx), e5⟩
        exact wpAny_notIn_heap (tupleKind_room_in1 hu) (key_of I.hok hb) hd dd' (h _ (I.tok _))
      · exact d_notIn (o := none) hu I (.inr ⟨[], ks, b, he, rfl, hb, rfl⟩) ry h
end
def rDIn (neg : Bool) : R2 := fun y x H Q => ∃ a q o, x = .ref a ∧ KeyAt H y q ∧ DFit H a y o ∧ Q (.bl (o.isSome != neg)) H
theorem op_din {X : Cx} (hu : X.A.units + 1 < cLine) : OpR X (compareOp .In) (rDIn false) := by
  intro pins s σ H x y v u Q I rx ry h
  obtain ⟨a, q, o, rfl, k, g, h⟩ := h
  obtain rfl : u = Value.ref a := ry
  refine d_inF hu I k g rx fun s' I' => ⟨.bl o.isSome, H, I', rfl, ?_⟩
  simpa using h
theorem op_dni {X : Cx} (hu : X.A.units + 1 < cLine) : OpR X (compareOp .NotIn) (rDIn true) := by
  intro pins s σ H x y v u Q I rx ry h
  obtain ⟨a, q, o, rfl, k, g, h⟩ := h
  obtain rfl : u = Value.ref a := ry
  refine d_notInF hu I k g rx fun s' I' => ⟨.bl (!o.isSome), H, I', rfl, ?_⟩
  simpa using h
def inDD (neg : Bool) (k d : D) : Option D := (dLook d k).map fun o => .bool (o.isSome != neg)
section
variable {X : Cx} {G : Gx} {k : Nat}
theorem cInD (C : Cok X G k) : CmpOk X G .In (inDD false) := by
  refine ⟨_, op_din (by have := C.u; omega), fun {F O ρ σ H v u x y z Q} w ax ay e p => ?_⟩
  obtain ⟨o, eo, rfl⟩ := Option.map_eq_some_iff.mp (show (dLook y x).map _ = _ from e)
  obtain ⟨a, q, ov, rfl, kq, g, r⟩ := look_at w.f ay ax eo
  exact ⟨a, q, ov, rfl, kq, g, by rw [r.isSome]; exact p.now w (.bl _)⟩
theorem cNiD (C : Cok X G k) : CmpOk X G .NotIn (inDD true) := by
  refine ⟨_, op_dni (by have := C.u; omega), fun {F O ρ σ H v u x y z Q} w ax ay e p => ?_⟩
  obtain ⟨o, eo, rfl⟩ := Option.map_eq_some_iff.mp (show (dLook y x).map _ = _ from e)
  obtain ⟨a, q, ov, rfl, kq, g, r⟩ := look_at w.f ay ax eo
  exact ⟨a, q, ov, rfl, kq, g, by rw [r.isSome]; exact p.now w (.bl _)⟩
/-! ### d[k] -/
def getDD (d k : D) : Option D := (dLook d k).bind id
variable {a b e : Expr} {sa sb se : Rho → Rs Vl} {pos p p2 apos cpos : Pos}
theorem wGetD (C : Cok X G k) (ha : PE X a (tE G sa)) (hb : PE X b (tE G sb)) (hs : NoSl b := by intro _ _; rfl) : DE X G (.Subscript a b pos) (sBin getDD sa sb) := by
  refine .val (PE.imp (pe_dget (by have := C.u; omega) ha hb hs) fun σ H Q h => ?_) fun _ => rfl
  obtain ⟨ρ, F, O, w, h⟩ := h
  refine tG.bind w h fun x ρ1 v H1 F1 _ w1 s1 rx h1 => tG.bind w1 h1 fun y ρ2 u H2 F2 _ w2 s2 ry h2 => ?_
  obtain ⟨d, kk, z, hp, hq, e, kz⟩ := two_fin w2 (rx.mono s2) ry h2
  obtain ⟨o, eo, e⟩ := Option.bind_eq_some_iff.mp (show (dLook d kk).bind id = some z from e)
  have e : o = some z := e
  subst e
  obtain ⟨c, q, ov, rfl, kq, g, r⟩ := look_at w2.f hp hq eo
  cases r with
  | some r =>
    cases g with
    | g g => exact ⟨c, _, rfl, g, kz.now w2 r⟩
    | e _ ho => cases ho
/-! ### {} -/
def sNewD : Rho → Rs Vf := fun ρ => .ok (.fr (.dict [])) ρ
theorem wNewD : DF X G (.Dict [] [] pos) sNewD := .mk (PE.imp pe_dnewK fun σ H Q h => by
  obtain ⟨ρ, F, O, w, h⟩ := h
  intro p hp
  refine h p (upd H p (.dK [])) F (w.lose hp) (Sub.refl _) ⟨w.f.none hp, w.o.none hp, .inl ⟨[], upd_same, .nil⟩, fun i c e hi hc hs => ?_⟩
  obtain ⟨b, h1, _, _, h4⟩ := w.own i c e hi hc
  rw [hs] at h1; cases h1
  obtain ⟨o, ho⟩ := h4.some
  rw [hp] at ho; cases ho) fun _ => rfl
/-! ### d[k] = v -/
def setDD (ρ : Rho) (i : Nat) (kk v : D) : Rs Fl :=
  match ρ[i]? with
  | some (Cell.own p d) => match dPut d kk v with
    | some d' => .ok .nx (ρ.set i (.own p d'))
    | none => .bad
  | _ => .bad
def isOwnD (ρ : Rho) (i : Nat) : Bool :=
  match ρ[i]? with
  | some (Cell.own _ (.dict _)) => true
  | _ => false
def sSetD (i : Nat) (ix e : Rho → Rs Vl) : Rho → Rs Fl := fun ρ => (e ρ).bind fun x ρ => (frz x ρ).bind fun d ρ => if isOwnD ρ i then (ix ρ).bind fun y ρ => (frz y ρ).bind fun kk ρ => setDD ρ i kk d else .bad
def rSetD : TSet := fun x y v H Q => ∃ a q, x = .ref a ∧ KeyAt H y q ∧ ((∃ kvs k, q = .inl k ∧ H a = some (.dK kvs) ∧ kvs.length < sizeLine ∧ Q (upd H a (.dK (putK kvs k v)))) ∨ (∃ kvs ks, q = .inr ks ∧ H a = some (.dT kvs) ∧ kvs.length < sizeLine ∧ Q (upd H a (.dT (putK kvs ks v)))) ∨
  (∃ k, q = .inl k ∧ H a = some (.dT []) ∧ Q (upd H a (.dK (putK [] k v)))) ∨ ∃ ks, q = .inr ks ∧ H a = some (.dK []) ∧ Q (upd H a (.dT (putK [] ks v))))
theorem set_dict (hu : X.A.units + 1 < cLine) : PSet X rSetD := by
  intro pins s σ H o i v ov iv u Q I ro ri rv h
  obtain ⟨a, q, rfl, kq, h⟩ := h
  obtain rfl : ov = Value.ref a := ro
  have z0 : ([] : List (Key × V)).length < sizeLine := by rw [sizeLine_eq]; decide
  have z1 : ([] : List (List Key × V)).length < sizeLine := by rw [sizeLine_eq]; decide
  rcases h with ⟨kvs, k, rfl, e, hl, h⟩ | ⟨kvs, ks, rfl, e, hl, h⟩ | ⟨k, rfl, e, h⟩ | ⟨ks, rfl, e, h⟩
  · cases kq
    exact d_setItem hu I (DPut.k e hl) ri rv fun s' I' => ⟨_, I', h⟩
  · cases kq with
    | t hb => exact d_setItem hu I (DPut.t e hb hl) ri rv fun s' I' => ⟨_, I', h⟩
  · cases kq
    refine d_setItem hu (inv_tk I e) (DPut.k (kvs := []) upd_same z0) ri rv fun s' I' => ⟨_, I', ?_⟩
    rw [upd_upd]; exact h
  · cases kq with
    | t hb =>
      refine d_setItem hu (inv_kt I e) (DPut.t (kvs := []) upd_same (by rw [upd_ne (fun z => by rw [z, e] at hb; cases hb)]; exact hb) z1) ri rv fun s' I' => ⟨_, I', ?_⟩
      rw [upd_upd]; exact h
theorem kSetD (C : Cok X G k) (i : Nat) {x : Str} {ie : Expr} {sx : Rho → Rs Vl} (hi : PE X ie (tE G sx)) (he : PE X e (tE G se)) (hN : X.N[i]? = some x := by rfl) (hv : Vis X.env.scope x := by first | exact Or.inl rfl | exact Or.inr (Or.inl rfl) | exact Or.inr (Or.inr rfl)) (hd : (x == ("__debug__" : Str)) = false := by decide) (hcd : (x == ("__classdict__" : Str)) = false := by decide)
    (has : ∀ v, assign (.Subscript (.Name x p) ie p2) X.env v = (do
      let ov ← holding [v] (eval (.Name x p) X.env)
      let iv ← holding [v, ov] (eval ie X.env)
      standAt p2
      holding [v, ov, iv] (setItem ov iv v)
      release [v, ov, iv] []) := by intro _; rfl) (hs : swapsWithSole [.Subscript (.Name x p) ie p2] e pos.line X.env = pure false := by rfl) (hw : swappedStores [.Subscript (.Name x p) ie p2] e X.env = pure none := by rfl) (h1 : (assignEach [.Subscript (.Name x p) ie p2] X.env).map (·.2) = [assign (.Subscript (.Name x p) ie p2) X.env] := by rfl) :
    PS X (.Assign [.Subscript (.Name x p) ie p2] e pos) (tS G (sSetD i sx se)) := by
  refine PS.imp (ps_asg he (pg_sub (pe_var hN hv hd hcd) hi (set_dict (by have := C.u; omega)) has) hs hw h1) fun N σ H h => ?_
  obtain ⟨ρ, F, O, w, h⟩ := h
  refine Tgt.finS.bind w h fun x ρ1 v H1 F1 w1 s1 rx h1 => ?_
  obtain ⟨d, ρ2, F2, w2, s2, r2, h2⟩ := Tgt.finS.frz w1 rx h1
  split at h2
  · rename_i hs
    unfold isOwnD at hs
    split at hs
    · rename_i pp ds0 hq
      obtain ⟨a, g1, _, _, g4⟩ := w2.own i _ _ hq rfl
      refine ⟨.ref a, g1, Tgt.finS.bind w2 h2 fun y ρ3 u H3 F3 w3 s3 ry h3 => ?_⟩
      obtain ⟨kk, ρ4, F4, w4, s4, r4, h4⟩ := Tgt.finS.frz w3 ry h3
      unfold setDD at h4
      split at h4
      · rename_i p0 d0 hq4
        split at h4
        · rename_i d' ed
          obtain ⟨b, q1, _, _, q4⟩ := w4.own i _ _ hq4 rfl
          rw [g1] at q1; cases q1
          have r2' : Rp G.K F4 v d := (r2.mono s3).mono s4
          unfold dPut at ed
          split at ed
          · rename_i ds q eq
            split at ed
            · rename_i hc
              cases ed
              rw [Bool.and_eq_true, decide_eq_true_eq] at hc
              have kq := At.key (K := G.K) w4.f (.inl r4) eq
              have fin : ∀ u' : HO, OwnAt G.K F4 (upd H3 a u') a (.dict (dPutL ds q kk d)) → N.nx σ (upd H3 a u') := fun u' n => h4 σ _ F4 (w4.write hq4 g1 n) (Sub.refl _)
              refine ⟨a, q, rfl, kq, ?_⟩
              rcases q4 with ⟨kvs, hh, rr⟩ | ⟨kvs, nn, hh, rr⟩
              · cases q with
                | inl k =>
                  have ek := kOf_inl eq
                  subst ek
                  exact .inl ⟨kvs, k, rfl, hh, by rw [rpK_len rr]; exact hc.2, fin _ (.inl ⟨_, upd_same, rpK_put r2' rr⟩)⟩
                | inr ks =>
                  have ek := kOf_inr eq
                  subst ek
                  have : kvs = [] := by
                    cases rr with
                    | nil => rfl
                    | cons => simp [dAll, kOf_kD, sameK] at hc
                  subst this
                  cases rr
                  exact .inr (.inr (.inr ⟨ks, rfl, hh, fin _ (.inr ⟨_, putK_ne, upd_same, rpT_put r2' .nil⟩)⟩))
              · cases q with
                | inl k =>
                  have ek := kOf_inl eq
                  subst ek
                  have : kvs = [] := by
                    cases rr with
                    | nil => rfl
                    | cons => simp [dAll, kOf_tup, sameK] at hc
                  exact absurd this nn
                | inr ks =>
                  have ek := kOf_inr eq
                  subst ek
                  exact .inr (.inl ⟨kvs, ks, rfl, hh, by rw [rpT_len rr]; exact hc.2, fin _ (.inr ⟨_, putK_ne, upd_same, rpT_put r2' rr⟩)⟩)
            · cases ed
          · cases ed
        · exact h4.elim
      · exact h4.elim
    · cases hs
  · exact h2.elim
end
end L3
/-! L3, part 32: dicts walked: keys, values, items; d.get. -/
namespace L3
open PySem PySem.Spec PyProof.Rows L2
/-! ### locking -/
def LkAt (H : Hp) (a : Addr) (u : HO) (o : Obj) (H2 : Hp) : Prop := (H a = some (.frz o u) ∨ H a = some u) ∧ H2 = upd H a (.frz o u)
theorem upd_id {H : Hp} {a : Addr} {o : HO} (e : H a = some o) : upd H a o = H := by
  funext b
  by_cases h : b = a
  · subst h; rw [upd_same, e]
  · rw [upd_ne h]
def tLk (t : TE) : TE := fun σ H Q => t σ H fun x H1 => ∃ a u, x = .ref a ∧ Rd H1 a u ∧ isDk u = true ∧ ∀ o H2, LkAt H1 a u o H2 → Q x H2
theorem pe_lk {X : Cx} {e : Expr} {t : TE} (h : PE X e t) : PE X e (tLk t) := by
  refine ⟨fun pins s σ H Q I hw => ?_⟩
  refine thn (h.run pins s σ _ _ I hw) fun v s1 ⟨x, H1, I1, r, a, u, ex, rd, d, q⟩ => ?_
  rcases rd with rd | ⟨o, rd⟩
  · have mu : Mut (some u) := by cases u <;> first | exact True.intro | cases d
    obtain ⟨o, I2⟩ := I1.lock rd mu
    exact ⟨x, _, I2, r, q o _ ⟨.inr rd, rfl⟩⟩
  · exact ⟨x, H1, I1, r, q o _ ⟨.inl rd, (upd_id rd).symm⟩⟩
section
variable {K : PySem.W.Frag} {F H H2 : Hp} {O : Fm} {ρ : Rho} {σ : L2.St} {a : Addr} {u : HO} {o : Obj}
theorem Wd.lock (w : Wd K F O ρ σ H) (hF : Rd F a u) (d : isDk u = true) (l : LkAt H a u o H2) : ∃ F2, Wd K F2 O ρ σ H2 ∧ Sub F F2 ∧ F2 a = some (.frz o u) := by
  obtain ⟨hH, rfl⟩ := l
  have hF' : F a = some u ∨ F a = some (.frz o u) := by
    rcases hF with e | ⟨o', e⟩
    · exact .inl e
    · have := w.f.eq e
      rcases hH with h | h
      · rw [this] at h; cases h; exact .inr e
      · rw [this] at h; cases h
  have neN : ∀ b, F b = none → b ≠ a := fun b e z => by subst z; rcases hF' with h | h <;> (rw [h] at e; cases e)
  have sF : Sub F (upd F a (.frz o u)) := fun b x e => by
    by_cases z : b = a
    · subst z
      rcases hF' with h | h
      · rw [h] at e; cases e; exact .inr ⟨d, o, upd_same⟩
      · rw [h] at e; cases e; exact .inl upd_same
    · rw [upd_ne z]; exact .inl e
  refine ⟨upd F a (.frz o u), ⟨w.len, fun b x e => ?_, fun b x e => ?_, fun b x e => ?_, fun i y hi => ?_, fun i c y hi hc => ?_, w.pr, w.wl, w.lk, w.ap⟩, sF, upd_same⟩
  · by_cases z : b = a
    · subst z; rw [upd_same] at e ⊢; exact .inl e
    · rw [upd_ne z] at e ⊢; exact w.f b x e
  · rw [upd_ne (neN b (w.fo b x e))]; exact w.o b x e
  · rw [upd_ne (neN b (w.fo b x e))]; exact w.fo b x e
  · obtain ⟨v, q1, q2⟩ := w.val i y hi
    exact ⟨v, q1, q2.mono sF⟩
  · obtain ⟨b, q1, q2, q3, q4⟩ := w.own i c y hi hc
    exact ⟨b, q1, by rw [upd_ne (neN b q2)]; exact q2, q3, q4.mono sF (upd_ne (neN b q2))⟩
theorem rpK_get : ∀ {kvs : List (Key × V)} {ds : List (D × D)} {i : Nat} {k : Key} {v : V}, RpK K F kvs ds → kvs[i]? = some (k, v) → ∃ d, ds[i]? = some (kD k, d) ∧ Rp K F v d
  | _, _, i, _, _, .nil, e => by simp at e
  | _, _, 0, _, _, .cons r t, e => by simp at e; obtain ⟨rfl, rfl⟩ := e; exact ⟨_, rfl, r⟩
  | _, _, i + 1, _, _, .cons r t, e => by
    obtain ⟨d, h1, h2⟩ := rpK_get (i := i) t (by simpa using e)
    exact ⟨d, by simpa using h1, h2⟩
theorem rpT_get : ∀ {kvs : List (List Key × V)} {ds : List (D × D)} {i : Nat} {k : List Key} {v : V}, RpT K F kvs ds → kvs[i]? = some (k, v) → ∃ d, ds[i]? = some (.tuple (k.map kD), d) ∧ Rp K F v d
  | _, _, i, _, _, .nil, e => by simp at e
  | _, _, 0, _, _, .cons r t, e => by simp at e; obtain ⟨rfl, rfl⟩ := e; exact ⟨_, rfl, r⟩
  | _, _, i + 1, _, _, .cons r t, e => by
    obtain ⟨d, h1, h2⟩ := rpT_get (i := i) t (by simpa using e)
    exact ⟨d, by simpa using h1, h2⟩
theorem rp_key {k : Key} : Rp K F (kV k) (kD k) := by cases k <;> constructor
theorem rpL_keysK : ∀ {ks : List Key}, RpL K F (ks.map kV) (ks.map kD)
  | [] => .nil
  | _ :: _ => .cons rp_key rpL_keysK
theorem rpK_keys : ∀ {kvs : List (Key × V)} {ds : List (D × D)}, RpK K F kvs ds → ∀ i : Nat, (ds.map (·.1))[i]? = (kvs[i]?).map fun p => kD p.1
  | _, _, .nil, i => by simp
  | _, _, .cons r t, 0 => by simp
  | _, _, .cons r t, i + 1 => by simpa using rpK_keys t i
theorem feed_keys {kvs : List (Key × V)} {ds : List (D × D)} (h : F a = some (.frz o (.dK kvs))) (r : RpK K F kvs ds) : Feed K F (Itk a o kvs) (ds.map (·.1)) := by
  intro F' O ρ σ H w s i
  have hH : H a = some (.frz o (.dK kvs)) := (s.trans w.f).eq h
  have hl := rpK_len r
  refine ⟨fun d e => ?_, fun hi => ⟨hH, by rw [List.length_map] at hi; omega⟩⟩
  have hi : i < kvs.length := by
    have := (List.getElem?_eq_some_iff.mp e).1
    rw [List.length_map] at this
    omega
  refine ⟨⟨hH, hi⟩, fun x H' y => ?_⟩
  obtain ⟨rfl, k, v, e1, rfl⟩ := y
  obtain ⟨d', e2, _⟩ := rpK_get r e1
  rw [List.getElem?_map, e2] at e
  cases e
  exact ⟨F', w, Sub.refl _, rp_key, fun _ _ => rfl⟩
theorem feed_vals {kvs : List (Key × V)} {ds : List (D × D)} (h : F a = some (.frz o (.dK kvs))) (r : RpK K F kvs ds) : Feed K F (Itd a o kvs) (ds.map (·.2)) := by
  intro F' O ρ σ H w s i
  have hH : H a = some (.frz o (.dK kvs)) := (s.trans w.f).eq h
  have hl := rpK_len r
  refine ⟨fun d e => ?_, fun hi => ⟨hH, by rw [List.length_map] at hi; omega⟩⟩
  have hi : i < kvs.length := by
    have := (List.getElem?_eq_some_iff.mp e).1
    rw [List.length_map] at this
    omega
  refine ⟨⟨hH, hi⟩, fun x H' y => ?_⟩
  obtain ⟨rfl, k, e1⟩ := y
  obtain ⟨d', e2, r2⟩ := rpK_get r e1
  rw [List.getElem?_map, e2] at e
  cases e
  exact ⟨F', w, Sub.refl _, r2.mono s, fun _ _ => rfl⟩
theorem feed_items {kvs : List (Key × V)} {ds : List (D × D)} (h : F a = some (.frz o (.dK kvs))) (r : RpK K F kvs ds) : Feed K F (Iti a o kvs) (ds.map fun p => .tuple [p.1, p.2]) := by
  intro F' O ρ σ H w s i
  have hH : H a = some (.frz o (.dK kvs)) := (s.trans w.f).eq h
  have hl := rpK_len r
  refine ⟨fun d e => ?_, fun hi => ⟨hH, by rw [List.length_map] at hi; omega⟩⟩
  have hi : i < kvs.length := by
    have := (List.getElem?_eq_some_iff.mp e).1
    rw [List.length_map] at this
    omega
  refine ⟨⟨hH, hi⟩, fun x H' y => ?_⟩
  obtain ⟨T, k, v, e1, rfl, hT, rfl⟩ := y
  obtain ⟨d', e2, r2⟩ := rpK_get r e1
  rw [List.getElem?_map, e2] at e
  cases e
  have sT : Sub F' (upd F' T (.tup [kV k, v])) := sub_upd (w.f.none hT)
  exact ⟨_, w.alloc hT, sT, .tup upd_same (.cons rp_key (.cons ((r2.mono s).mono sT) .nil)), fun b hb => upd_ne fun z => hb (z ▸ hT)⟩
end
/-! ### what is walked -/
def kindK (ds : List (D × D)) : Bool := dAll ds (.inl (.inl 0))
def itemsOf (f : D × D → D) : D → Option (List D)
  | .dict ds => if kindK ds then some (ds.map f) else none
  | _ => none
def sItD (f : D × D → D) (e : Rho → Rs Vl) : Rho → Rs (List D) := fun ρ => (e ρ).bind fun x ρ => (frz x ρ).bind fun d ρ => ofO (itemsOf f d) ρ
theorem dAll_K {K : PySem.W.Frag} {F : Hp} {kvs : List (List Key × V)} {ds : List (D × D)} (r : RpT K F kvs ds) (n : kvs ≠ []) (h : kindK ds = true) : False := by
  cases r with
  | nil => exact n rfl
  | cons r t => simp [kindK, dAll, kOf_tup, sameK] at h
section
variable {X : Cx} {G : Gx} {k : Nat} {e tg : Expr} {se : Rho → Rs Vl} {apos cpos : Pos}
/-- the dict is evaluated, locked -/
theorem itD_go {f : D × D → D} {mk : Addr → Obj → List (Key × V) → It} (feed : ∀ {F : Hp} {a : Addr} {o : Obj} {kvs : List (Key × V)} {ds : List (D × D)}, F a = some (.frz o (.dK kvs)) → RpK G.K F kvs ds → Feed G.K F (mk a o kvs) (ds.map f))
    {σ : L2.St} {H : Hp} {R : It → Hp → Prop} (h : tI G (sItD f se) σ H R) : tLk (tE G se) σ H fun x H2 => ∃ a o kvs, x = .ref a ∧ H2 a = some (.frz o (.dK kvs)) ∧ R (mk a o kvs) H2 := by
  obtain ⟨ρ, F, O, w, h⟩ := h
  unfold sItD at h
  refine ⟨ρ, F, O, w, ?_⟩
  cases e0 : se ρ with
  | err x ρ1 => rw [e0] at h; exact h
  | bad => rw [e0] at h; exact h.elim
  | ok x ρ1 =>
    rw [e0, Rs.bind_ok] at h
    intro v H1 F1 w1 s1 rx
    have h := FinI.mono s1 h
    cases e1 : frz x ρ1 with
    | err y ρ2 => exact absurd e1 frz_noerr
    | bad => rw [e1] at h; exact h.elim
    | ok d ρ2 =>
      rw [e1, Rs.bind_ok] at h
      obtain ⟨F2, w2, s2, r2⟩ := frz_ok w1 rx e1
      obtain ⟨its, ei, h⟩ := ofO_fin Tgt.finI h
      unfold itemsOf at ei
      split at ei
      · rename_i ds
        split at ei
        · rename_i hk
          cases ei
          obtain ⟨a, rfl, hd⟩ := At.dict (K := G.K) (H := H1) w2.f (.inl r2) hk
          -- where it lies among the values
          have hF : ∃ kvs, Rd F2 a (.dK kvs) ∧ RpK G.K F2 kvs ds := by
            generalize hz : PyData.dict ds = z at r2
            cases r2 with
            | scr h => cases hz; simp [kindK, dAll, kOf, keyF, sameK] at hk
            | dK h r => cases hz; exact ⟨_, h, r⟩
            | dT n h r => cases hz; exact (dAll_K r n hk).elim
            | _ => cases hz
          obtain ⟨kvs, hR, rK⟩ := hF
          refine ⟨a, .dK kvs, rfl, w2.f.rd hR, rfl, fun o H2 l => ?_⟩
          obtain ⟨F3, w3, s3, e3⟩ := w2.lock hR rfl l
          have e4 : H2 a = some (.frz o (.dK kvs)) := w3.f.eq e3
          exact ⟨a, o, kvs, rfl, e4, h (mk a o kvs) H2 F3 w3 (s2.trans s3) (feed e3 (RpK.mono s3 rK))⟩
        · cases ei
      · cases ei
theorem iKeysD (C : Cok X G k) (he : PE X e (tE G se)) : DI X G tg e (sItD (·.1) se) :=
  PI.imp (pi_keys (pe_lk he)) fun σ H R h => by
    obtain ⟨ρ, F, O, w, g⟩ := itD_go (f := (·.1)) (mk := Itk) feed_keys h
    refine ⟨ρ, F, O, w, Fin.to (fun x H1 q => ?_) g⟩
    obtain ⟨a, u, rfl, rd, d, q⟩ := q
    refine ⟨a, u, rfl, rd, d, fun o H2 l => ?_⟩
    obtain ⟨b, o', kvs, e1, e2, e3⟩ := q o H2 l
    cases e1
    exact ⟨a, o', rfl, .inl ⟨kvs, e2, e3⟩⟩
theorem iValsD (C : Cok X G k) (he : PE X e (tE G se)) (hbase : attributeBase e "values" X.env (eval e X.env) = eval e X.env := by rfl) (hline : (apos.endLine == cpos.line) = true := by rfl) : DI X G tg (.Call (.Attribute e "values" apos) [] [] cpos) (sItD (·.2) se) :=
  PI.imp (pi_values (pe_lk he) hbase hline) fun σ H R h => by
    obtain ⟨ρ, F, O, w, g⟩ := itD_go (f := (·.2)) (mk := Itd) feed_vals h
    refine ⟨ρ, F, O, w, Fin.to (fun x H1 q => ?_) g⟩
    obtain ⟨a, u, rfl, rd, d, q⟩ := q
    refine ⟨a, u, rfl, rd, d, fun o H2 l => ?_⟩
    obtain ⟨b, o', kvs, e1, e2, e3⟩ := q o H2 l
    cases e1
    exact ⟨a, o', kvs, rfl, e2, e3⟩
theorem iItemsD (C : Cok X G k) {elts : List Expr} {kk : Nat} {tpos : Pos} (he : PE X e (tE G se)) (hbase : attributeBase e "items" X.env (eval e X.env) = eval e X.env := by rfl) (hline : (apos.endLine == cpos.line) = true := by rfl) : DI X G (.Tuple elts kk tpos) (.Call (.Attribute e "items" apos) [] [] cpos) (sItD (fun p => .tuple [p.1, p.2]) se) :=
  PI.imp (pi_items (pe_lk he) hbase hline) fun σ H R h => by
    obtain ⟨ρ, F, O, w, g⟩ := itD_go (f := fun p => .tuple [p.1, p.2]) (mk := Iti) feed_items h
    refine ⟨ρ, F, O, w, Fin.to (fun x H1 q => ?_) g⟩
    obtain ⟨a, u, rfl, rd, d, q⟩ := q
    refine ⟨a, u, rfl, rd, d, fun o H2 l => ?_⟩
    obtain ⟨b, o', kvs, e1, e2, e3⟩ := q o H2 l
    cases e1
    exact ⟨a, o', kvs, rfl, e2, e3⟩
end
end L3
/-! L3, part 33: d.get, dict displays, dict comprehensions (keys: numbers and texts). -/
namespace L3
open PySem PySem.Spec PyProof.Rows L2
section
variable {X : Cx} {pins : List (Addr × Obj)} {σ : L2.St} {H : Hp} {s : Shared} {a : Addr} {A : Around} {E : Value → Shared → Prop}
theorem d_get1F {Q : Value → Shared → Prop} {y : V} {u : Value} {q : KF} {o : Option V} (hu : A.units + 1 < cLine) (I : Inv X pins σ H s) (k : KeyAt H y q) (g : DFit H a y o) (ry : RelV y u) (h : ∀ w' s', Inv X pins σ H s' → RelV (o.getD .non) w' → Q w' s') :
    wpAny (model X.prog X.w) A (call (.builtin "dict.get") [.ref a, u]) Q E s := by
  cases g with
  | g g => exact d_get1 hu I g ry h
  | e he ho =>
    subst ho
    cases k with
    | k k =>
      rcases he with he | he
      · exact d_get1 (o := none) hu I (.inl ⟨[], k, he, rfl, rfl⟩) ry h
      · obtain ⟨z, hd, xs, rel, dd⟩ := dt_rd I.hok he
        have hx : ObjOk X.prog X.w H s.heap a (.dK []) := ok_tk (he.ok I.hok)
        obtain ⟨_, _, vs, r, dk⟩ := hx
        cases r
        exact call_meetsIn PySem.F.slot_dict_get dk.typeIs PySem.F.entry_dict_get (PySem.F.args_dict_get_2 _ _) (meets_dict_get (mixKind X.prog X.w) a (kV_is ry) hd) ⟨_, dk.mapOf, h _ _ (I.tok _) rfl⟩
    | @t b ks hb =>
      rcases he with he | he
      · obtain ⟨z, hd, vs, rel, dd⟩ := dk_rd I.hok he
        have hx : ObjOk X.prog X.w H s.heap a (.dT []) := ok_kt (he.ok I.hok)
        obtain ⟨_, _, xs, r, o', es, ep, e1, e2, e3, e4, e5⟩ := hx
        cases r
        cases (show u = Value.ref b from ry)
        have dd' : s.heap.DictOfH (tupleKind (mixKind X.prog X.w)) a ([] : List (List Key × Addr × Value)) := ⟨o', es, ep, e1, e2, e3, e4, (fun _ hx => nomatch hx), e5⟩
        exact call_meetsIn PySem.F.slot_dict_get dd'.typeIs PySem.F.entry_dict_get (PySem.F.args_dict_get_2 _ _) (meetsH_dict_get (tupleKind (mixKind X.prog X.w)) a b hd) ⟨tupleKind_room_in1 hu, ks, [], key_of I.hok hb, dd', h _ _ (I.tok _) rfl⟩
      · exact d_get1 (o := none) hu I (.inr ⟨[], ks, b, he, rfl, hb, rfl⟩) ry h
theorem d_get2F {Q : Value → Shared → Prop} {y d : V} {u r : Value} {q : KF} {o : Option V} (hu : A.units + 1 < cLine) (I : Inv X pins σ H s) (k : KeyAt H y q) (g : DFit H a y o) (ry : RelV y u) (rd : RelV d r) (h : ∀ w' s', Inv X pins σ H s' → RelV (o.getD d) w' → Q w' s') :
    wpAny (model X.prog X.w) A (call (.builtin "dict.get") [.ref a, u, r]) Q E s := by
  cases g with
  | g g => exact d_get2 hu I g ry rd h
  | e he ho =>
    subst ho
    cases k with
    | k k =>
      rcases he with he | he
      · exact d_get2 (o := none) hu I (.inl ⟨[], k, he, rfl, rfl⟩) ry rd h
      · obtain ⟨z, hd, xs, rel, dd⟩ := dt_rd I.hok he
        have hx : ObjOk X.prog X.w H s.heap a (.dK []) := ok_tk (he.ok I.hok)
        obtain ⟨_, _, vs, r', dk⟩ := hx
        cases r'
        exact call_meetsIn PySem.F.slot_dict_get dk.typeIs PySem.F.entry_dict_get (PySem.F.args_dict_get_3 _ _ _) (meets_dict_get_default (mixKind X.prog X.w) a (kV_is ry) hd r) ⟨_, dk.mapOf, h _ _ (I.tok _) rd⟩
    | @t b ks hb =>
      rcases he with he | he
      · obtain ⟨z, hd, vs, rel, dd⟩ := dk_rd I.hok he
        have hx : ObjOk X.prog X.w H s.heap a (.dT []) := ok_kt (he.ok I.hok)
        obtain ⟨_, _, xs, r', o', es, ep, e1, e2, e3, e4, e5⟩ := hx
        cases r'
        cases (show u = Value.ref b from ry)
        have dd' : s.heap.DictOfH (tupleKind (mixKind X.prog X.w)) a ([] : List (List Key × Addr × Value)) := ⟨o', es, ep, e1, e2, e3, e4, (fun _ hx => nomatch hx), e5⟩
        exact call_meetsIn PySem.F.slot_dict_get dd'.typeIs PySem.F.entry_dict_get (PySem.F.args_dict_get_3 _ _ _) (meetsH_dict_get_default (tupleKind (mixKind X.prog X.w)) a b hd r) ⟨tupleKind_room_in1 hu, ks, [], key_of I.hok hb, dd', h _ _ (I.tok _) rd⟩
      · exact d_get2 (o := none) hu I (.inr ⟨[], ks, b, he, rfl, hb, rfl⟩) ry rd h
end
def tGet1F (td ty : TE) : TE := fun σ H Q => td σ H fun x H1 => ∃ a, x = .ref a ∧ IsD H1 a ∧ ty σ H1 fun y H2 => ∃ q o, KeyAt H2 y q ∧ DFit H2 a y o ∧ Q (o.getD .non) H2
def tGet2F (td ty tx : TE) : TE := fun σ H Q => td σ H fun x H1 => ∃ a, x = .ref a ∧ IsD H1 a ∧ ty σ H1 fun y H2 => tx σ H2 fun z H3 => ∃ q o, KeyAt H3 y q ∧ DFit H3 a y o ∧ Q (o.getD z) H3
section
variable {X : Cx} {o e f : Expr} {apos cpos : Pos} {td ty tx : TE}
theorem pe_get1F (hu : X.A.units + 1 < cLine) (ho : PE X o td) (he : PE X e ty) (m : M1 X o "get" apos e cpos) : PE X (.Call (.Attribute o "get" apos) [e] [] cpos) (tGet1F td ty) := by
  refine ⟨fun pins s σ H Q I h => ?_⟩
  refine wpAny_Call_method m.base m.few m.line PySem.F.plainAttrs_dict PySem.F.slot_dict_get PySem.F.type_dict_get (thn (ho.run pins s σ H _ I h) fun u s1 ⟨x, H1, I1, rx, a, ex, d, q1⟩ => ?_)
  subst ex
  obtain rfl : u = Value.ref a := rx
  obtain ⟨t1, t2, _⟩ := isD_at I1 d
  refine ⟨t1, t2, ?_⟩
  rw [m.trees]
  refine Calls.callWith_builtin rfl (Calls.evalArgs_plain (Calls.spliced_cons (thn (he.run pins s1 σ H1 _ I1 q1) fun iv s2 ⟨y, H2, I2, ry, q, ov, kq, g, q2⟩ => Calls.spliced_nil ?_)))
  exact d_get1F hu I2 kq g ry fun w' s3 I3 rw' => ⟨_, H2, I3, rw', q2⟩
theorem pe_get2F (hu : X.A.units + 1 < cLine) (ho : PE X o td) (he : PE X e ty) (hf : PE X f tx) (m : M2 X o "get" apos e f cpos) : PE X (.Call (.Attribute o "get" apos) [e, f] [] cpos) (tGet2F td ty tx) := by
  refine ⟨fun pins s σ H Q I h => ?_⟩
  refine wpAny_Call_method m.base m.few m.line PySem.F.plainAttrs_dict PySem.F.slot_dict_get PySem.F.type_dict_get (thn (ho.run pins s σ H _ I h) fun u s1 ⟨x, H1, I1, rx, a, ex, d, q1⟩ => ?_)
  subst ex
  obtain rfl : u = Value.ref a := rx
  obtain ⟨t1, t2, _⟩ := isD_at I1 d
  refine ⟨t1, t2, ?_⟩
  rw [m.trees]
  refine Calls.callWith_builtin rfl (Calls.evalArgs_plain (Calls.spliced_cons (thn (he.run pins s1 σ H1 _ I1 q1) fun iv s2 ⟨y, H2, I2, ry, q2⟩ =>
    Calls.spliced_cons (thn (hf.run pins s2 σ H2 _ I2 q2) fun fv s3 ⟨z, H3, I3, rz, q, ov, kq, g, q3⟩ => Calls.spliced_nil ?_))))
  exact d_get2F hu I3 kq g ry rz fun w' s4 I4 rw' => ⟨_, H3, I4, rw', q3⟩
end
/-! the meanings -/
def isDictD : D → Bool
  | .dict ds => kindK ds || dAll ds (.inr [])
  | _ => false
def sGet1 (a b : Rho → Rs Vl) : Rho → Rs Vl := fun ρ => (a ρ).bind fun x ρ => match x.cont ρ with
  | some (.dict ds) => if isDictD (.dict ds) then (b ρ).bind fun y ρ => two ρ x y fun d k => (dLook d k).map fun o => o.getD .none else .bad
  | _ => .bad
def sGet2 (a b c : Rho → Rs Vl) : Rho → Rs Vl := fun ρ => (a ρ).bind fun x ρ => match x.cont ρ with
  | some (.dict ds) => if isDictD (.dict ds) then (b ρ).bind fun y ρ => (frz y ρ).bind fun k ρ => (c ρ).bind fun z ρ => (frz z ρ).bind fun e ρ => one ρ x fun d => (dLook d k).map fun o => o.getD e else .bad
  | _ => .bad
section
variable {X : Cx} {G : Gx} {k : Nat} {a b c : Expr} {sa sb sc : Rho → Rs Vl} {apos cpos : Pos}
theorem isD_of {K : PySem.W.Frag} {F H : Hp} {v : V} {ds : List (D × D)} (s : Sub F H) (h : At K F H v (.dict ds)) (e : isDictD (.dict ds) = true) : ∃ a, v = .ref a ∧ IsD H a := by
  have : ∃ q, dAll ds q = true := by
    rcases Bool.or_eq_true_iff.mp e with h | h
    · exact ⟨_, h⟩
    · exact ⟨_, h⟩
  obtain ⟨q, hq⟩ := this
  obtain ⟨a, e, h'⟩ := h.dict s hq
  rcases h' with ⟨kvs, h', _⟩ | ⟨kvs, _, h', _⟩
  · exact ⟨a, e, .inl ⟨kvs, h'⟩⟩
  · exact ⟨a, e, .inr ⟨kvs, h'⟩⟩
theorem wGet1 (C : Cok X G k) (ha : PE X a (tE G sa)) (hb : PE X b (tE G sb)) (m : M1 X a "get" apos b cpos := by exact ⟨rfl, rfl, rfl, rfl⟩) : DE X G (.Call (.Attribute a "get" apos) [b] [] cpos) (sGet1 sa sb) := by
  refine .val (PE.imp (pe_get1F (by have := C.u; omega) ha hb m) fun σ H Q h => ?_) fun _ => rfl
  obtain ⟨ρ, F, O, w, h⟩ := h
  refine tG.bind w h fun x ρ1 v H1 F1 _ w1 s1 rx h1 => ?_
  split at h1
  · rename_i ds ex
    split at h1
    · rename_i hd
      obtain ⟨a, rfl, isd⟩ := isD_of w1.f (w1.at rx ex) hd
      refine ⟨a, rfl, isd, tG.bind w1 h1 fun y ρ2 u H2 F2 _ w2 s2 ry h2 => ?_⟩
      obtain ⟨d, kk, z, hp, hq, e, kz⟩ := two_fin w2 (rx.mono s2) ry h2
      obtain ⟨o, eo, rfl⟩ := Option.map_eq_some_iff.mp (show (dLook d kk).map _ = some z from e)
      obtain ⟨c', q, ov, e1, kq, g, r⟩ := look_at w2.f hp hq eo
      cases e1
      refine ⟨q, ov, kq, g, ?_⟩
      cases r with
      | none => exact kz.now w2 .non
      | some r => exact kz.now w2 r
    · exact h1.elim
  · exact h1.elim
theorem wGet2 (C : Cok X G k) (ha : PE X a (tE G sa)) (hb : PE X b (tE G sb)) (hc : PE X c (tE G sc)) (m : M2 X a "get" apos b c cpos := by exact ⟨rfl, rfl, rfl, rfl⟩) : DE X G (.Call (.Attribute a "get" apos) [b, c] [] cpos) (sGet2 sa sb sc) := by
  refine .val (PE.imp (pe_get2F (by have := C.u; omega) ha hb hc m) fun σ H Q h => ?_) fun _ => rfl
  obtain ⟨ρ, F, O, w, h⟩ := h
  refine tG.bind w h fun x ρ1 v H1 F1 _ w1 s1 rx h1 => ?_
  split at h1
  · rename_i ds ex
    split at h1
    · rename_i hd
      obtain ⟨a, rfl, isd⟩ := isD_of w1.f (w1.at rx ex) hd
      refine ⟨a, rfl, isd, tG.bind w1 h1 fun y ρ2 u H2 F2 _ w2 s2 ry h2 => ?_⟩
      obtain ⟨kk, ρ3, F3, w3, s3, r3, h3⟩ := Tgt.fin.frz w2 ry h2
      refine tG.bind w3 h3 fun z ρ4 t H4 F4 _ w4 s4 rz h4 => ?_
      obtain ⟨ee, ρ5, F5, w5, s5, r5, h5⟩ := Tgt.fin.frz w4 rz h4
      obtain ⟨d, z', hp, e, kz⟩ := one_fin w5 ((((rx.mono s2).mono s3).mono s4).mono s5) h5
      obtain ⟨o, eo, rfl⟩ := Option.map_eq_some_iff.mp (show (dLook d kk).map _ = some z' from e)
      obtain ⟨c', q, ov, e1, kq, g, r⟩ := look_at w5.f hp (.inl ((r3.mono s4).mono s5)) eo
      cases e1
      refine ⟨q, ov, kq, g, ?_⟩
      cases r with
      | none => exact kz.now w5 r5
      | some r => exact kz.now w5 r
    · exact h1.elim
  · exact h1.elim
end
end L3
/-! L3, part 34: {k: v for .. in ..}, {k: v, ..} with keys numbers and texts. -/
namespace L3
open PySem PySem.Spec PyProof.Rows L2
/-- one clause; acc is what was gathered -/
def sDg (tg : D → Rho → Rs Fl) (tt : Rho → Rs Bool) (tk te : Rho → Rs Vl) (vs : List Nat) : List D → List (D × D) → Rho → Rs (List (D × D))
  | [], acc, ρ => .ok acc ρ
  | d :: ds, acc, ρ => thenD (tg d ρ) fun ρ => okB (tt ρ) fun k ρ => if k then okB (tk ρ) fun x ρ => okB (frz x ρ) fun kk ρ => okB (te ρ) fun x ρ => okB (frz x ρ) fun y ρ => stepD (kOf kk) fun q => if allVal ρ vs && decide (acc.length < sizeLine) then sDg tg tt tk te vs ds (dPutL acc (.inl q) kk y) (wipeR ρ vs) else .bad
      else if allVal ρ vs then sDg tg tt tk te vs ds acc (wipeR ρ vs) else .bad
where
  thenD (r : Rs Fl) (k : Rho → Rs (List (D × D))) : Rs (List (D × D)) :=
    match r with
    | .ok .nx ρ => k ρ
    | _ => .bad
  stepD (q : Option KF) (k : Key → Rs (List (D × D))) : Rs (List (D × D)) :=
    match q with
    | some (.inl q) => k q
    | _ => .bad
def endDc (ρ0 : Rho) (vs : List Nat) (r : Rs (List (D × D))) : Rs Vf := okB r fun ys ρ => .ok (.fr (.dict ys)) (backR ρ0 vs ρ)
def sDc (it : Rho → Rs (List D)) (tg : D → Rho → Rs Fl) (tt : Rho → Rs Bool) (tk te : Rho → Rs Vl) (vs : List Nat) : Rho → Rs Vf := fun ρ =>
  (it ρ).bind fun ds ρ => if allVal ρ vs then endDc ρ vs (sDg tg tt tk te vs ds [] (wipeR ρ vs)) else .bad
theorem Wd.gatheredD {K : PySem.W.Frag} {F H : Hp} {O : Fm} {ρ : Rho} {σ : L2.St} {a : Addr} {avs : List (Key × V)} {acc : List (D × D)} (w : Wd K F (O.add a (.dK avs)) ρ σ H) (hn : O.o a = none) (r : RpK K F avs acc) : FreshAt K F O ρ σ H a (.dict acc) := by
  have ha : (O.add a (.dK avs)).o a = some (.dK avs) := upd_same
  refine ⟨w.fo a _ ha, hn, .inl ⟨avs, w.o a _ ha, r⟩, fun i c e q z h => ?_⟩
  obtain ⟨b, q1, q2, q3, q4⟩ := w.own i c e q z
  rw [h] at q1; cases q1
  rw [ha] at q3; cases q3
section
variable {X : Cx} {G : Gx} {js : List Nat} {si : Rho → Rs (List D)} {st : D → Rho → Rs Fl} {tt : Rho → Rs Bool} {tk te : Rho → Rs Vl} {vs : List Nat}
theorem dc_t (hj : ∀ j ∈ js, j ∈ vs) {σ : L2.St} {H : Hp} {Q : VK} (h : tF G (sDc si st tt tk te vs) σ H Q) : tDc (tI G si) (gT G.q js st) (tT G.q tt) (tE G.q tk) (tE G.q te) vs σ H Q := by
  obtain ⟨ρ, F, O, w, h⟩ := h
  refine tI_bind Tgt.finF w h fun ds ρ1 J H1 F1 w1 s1 feed h1 Dl hD => ?_
  have oD : O.o Dl = none := w1.o.none hD
  split at h1
  · rename_i an
    refine ⟨fun i m H => m = ds.length - i ∧ i ≤ ds.length ∧ ∃ ρ F acc avs, Wd G.K F (O.add Dl (.dK avs)) ρ (wipe σ vs) H ∧ Sub F1 F ∧ RpK G.K F avs acc ∧ allNo ρ vs = true ∧ FinF G F O σ Q (endDc ρ1 vs (sDg st tt tk te vs (ds.drop i) acc ρ)),
      ⟨ds.length, by simp, Nat.zero_le _, wipeR ρ1 vs, F1, [], [], ((w1.empty an).wiped wipeR_no).addO hD, Sub.refl _, .nil, wipeR_no, h1⟩, ?_⟩
    rintro i m H2 ⟨rfl, hi, ρ2, F2, acc, avs, w2, s2, r2, an2, h2⟩
    obtain ⟨go, stop⟩ := feed w2 s2 i
    by_cases hlt : i < ds.length
    · have e : ds[i]? = some ds[i] := by simp
      obtain ⟨g1, g2⟩ := go _ e
      rw [drop_at e] at h2
      unfold endDc sDg at h2
      cases e3 : st ds[i] ρ2 with
      | err x ρ => rw [e3] at h2; exact h2.elim
      | bad => rw [e3] at h2; exact h2.elim
      | ok f ρ3 =>
        rw [e3] at h2
        cases f with
        | nx =>
          refine .inr ⟨g1, fun H' => ∃ ρ F acc avs, Wd G.K F (O.add Dl (.dK avs)) ρ (wipe σ vs) H' ∧ Sub F1 F ∧ RpK G.K F avs acc ∧ allNo ρ vs = true ∧ FinF G F O σ Q (endDc ρ1 vs (sDg st tt tk te vs (ds.drop (i + 1)) acc ρ)), fun H' q => ⟨_, by omega, rfl, hlt, q⟩, fun x H' y => ?_⟩
          obtain ⟨F', w', s', r', _⟩ := g2 x H' y
          refine ⟨ρ2, F', _, _, ρ3, w', r', e3, fun σ' w3 o3 => ⟨wipe_only o3 hj, ρ3, F', _, w3, ?_⟩⟩
          have h3 := Tgt.finF.mono s' h2
          have h3 : FinF G F' O σ Q (okB (okB (tt ρ3) _) _) := h3
          have wsig : wipe σ' vs = wipe σ vs := wipe_only o3 hj
          cases et : tt ρ3 with
          | err x ρ => rw [et] at h3; exact h3.elim
          | bad => rw [et] at h3; exact h3.elim
          | ok k ρ4 =>
            rw [et] at h3
            intro b H4 F4 w4 s4 eb
            have eb : b = k := eb
            subst eb
            have h4 := Tgt.finF.mono s4 h3
            cases b with
            | false =>
              rw [if_neg (by decide)]
              have h4 : FinF G F4 O σ Q (endDc ρ1 vs (if allVal ρ4 vs then sDg st tt tk te vs (ds.drop (i + 1)) acc (wipeR ρ4 vs) else .bad)) := h4
              split at h4
              · rename_i av
                have := (w4.empty av).wiped wipeR_no
                rw [wsig] at this
                exact ⟨_, F4, acc, avs, this, (s2.trans s').trans s4, RpK.mono s4 (RpK.mono s' r2), wipeR_no, h4⟩
              · exact h4.elim
            | true =>
              rw [if_pos rfl]
              have h4 : FinF G F4 O σ Q (endDc ρ1 vs (okB (tk ρ4) fun x ρ => okB (frz x ρ) fun kk ρ => okB (te ρ) fun x ρ => okB (frz x ρ) fun y ρ => sDg.stepD (kOf kk) fun q => if allVal ρ vs && decide (acc.length < sizeLine) then sDg st tt tk te vs (ds.drop (i + 1)) (dPutL acc (.inl q) kk y) (wipeR ρ vs) else .bad)) := h4
              refine ⟨ρ4, F4, _, w4, ?_⟩
              cases ek : tk ρ4 with
              | err x ρ => rw [ek] at h4; exact h4.elim
              | bad => rw [ek] at h4; exact h4.elim
              | ok x ρ5 =>
                rw [ek] at h4
                intro v H5 F5 w5 s5 r5
                have h4 : FinF G F4 O σ Q (endDc ρ1 vs (okB (frz x ρ5) fun kk ρ => okB (te ρ) fun x ρ => okB (frz x ρ) fun y ρ => sDg.stepD (kOf kk) fun q => if allVal ρ vs && decide (acc.length < sizeLine) then sDg st tt tk te vs (ds.drop (i + 1)) (dPutL acc (.inl q) kk y) (wipeR ρ vs) else .bad)) := h4
                cases ef : frz x ρ5 with
                | err y ρ => exact absurd ef frz_noerr
                | bad => rw [ef] at h4; exact h4.elim
                | ok kk ρ6 =>
                  rw [ef] at h4
                  obtain ⟨F6, w6, s6, r6⟩ := frz_ok w5 r5 ef
                  have h6 : FinF G F6 O σ Q (endDc ρ1 vs (okB (te ρ6) fun x ρ => okB (frz x ρ) fun y ρ => sDg.stepD (kOf kk) fun q => if allVal ρ vs && decide (acc.length < sizeLine) then sDg st tt tk te vs (ds.drop (i + 1)) (dPutL acc (.inl q) kk y) (wipeR ρ vs) else .bad)) := Tgt.finF.mono (s5.trans s6) h4
                  refine ⟨ρ6, F6, _, w6, ?_⟩
                  cases ee : te ρ6 with
                  | err x ρ => rw [ee] at h6; exact h6.elim
                  | bad => rw [ee] at h6; exact h6.elim
                  | ok x2 ρ7 =>
                    rw [ee] at h6
                    intro v2 H7 F7 w7 s7 r7
                    have h6 : FinF G F6 O σ Q (endDc ρ1 vs (okB (frz x2 ρ7) fun y ρ => sDg.stepD (kOf kk) fun q => if allVal ρ vs && decide (acc.length < sizeLine) then sDg st tt tk te vs (ds.drop (i + 1)) (dPutL acc (.inl q) kk y) (wipeR ρ vs) else .bad)) := h6
                    cases eg : frz x2 ρ7 with
                    | err y ρ => exact absurd eg frz_noerr
                    | bad => rw [eg] at h6; exact h6.elim
                    | ok y ρ8 =>
                      rw [eg] at h6
                      obtain ⟨F8, w8, s8, r8⟩ := frz_ok w7 r7 eg
                      have h8 : FinF G F8 O σ Q (endDc ρ1 vs (sDg.stepD (kOf kk) fun q => if allVal ρ8 vs && decide (acc.length < sizeLine) then sDg st tt tk te vs (ds.drop (i + 1)) (dPutL acc (.inl q) kk y) (wipeR ρ8 vs) else .bad)) := Tgt.finF.mono (s7.trans s8) h6
                      cases eq : kOf kk with
                      | none => rw [eq] at h8; exact h8.elim
                      | some q =>
                        rw [eq] at h8
                        cases q with
                        | inr q => exact h8.elim
                        | inl q =>
                          have h8 : FinF G F8 O σ Q (endDc ρ1 vs (if allVal ρ8 vs && decide (acc.length < sizeLine) then sDg st tt tk te vs (ds.drop (i + 1)) (dPutL acc (.inl q) kk y) (wipeR ρ8 vs) else .bad)) := h8
                          split at h8
                          · rename_i av
                            rw [Bool.and_eq_true, decide_eq_true_eq] at av
                            have ss : Sub F2 F8 := ((((s'.trans s4).trans s5).trans s6).trans s7).trans s8
                            have ekk := kOf_inl eq
                            subst ekk
                            have ev : v = kV q := by
                              cases q with
                              | inl i => cases r6; rfl
                              | inr i => cases r6; rfl
                            refine ⟨avs, q, ev, w8.o Dl _ upd_same, by rw [rpK_len r2]; exact av.2, _, F8, dPutL acc (.inl q) (kD q) y, putK avs q v2, ?_, s2.trans ss, rpK_put r8 (RpK.mono ss r2), wipeR_no, h8⟩
                            have := ((w8.modO (u' := .dK (putK avs q v2))).empty av.1).wiped wipeR_no
                            rwa [wsig] at this
                          · exact h8.elim
        | _ => exact h2.elim
    · have e : i = ds.length := by omega
      subst e
      rw [List.drop_length] at h2
      refine .inl ⟨stop rfl, h2 Dl H2 F2 (((w2.unO oD).unwiped an2).restore an (fun i d e => let ⟨v, q1, q2⟩ := w1.val i d e; ⟨v, q1, q2.mono s2⟩) an2) (Sub.refl _) ?_⟩
      have g := w2.gatheredD oD r2
      refine ⟨g.f, g.o, g.at_, fun i c e q z h => ?_⟩
      rcases backR_get q with ⟨a, b⟩ | ⟨a, _⟩
      · have := allVal_at an a b; rw [this] at z; cases z
      have hi : i ∉ vs := fun hi => by have := allNo_at an2 hi a; subst this; cases z
      exact g.ap i c e a z (by rw [wipe_out hi]; exact h)
  · exact h1.elim
variable {tg iter kx vx : Expr} {ifs : List Expr} {scope : Scope} {own : List (Str × Nat)} {pos spos : Pos} {k : Nat}
structure DcOk (X : Cx) (G : Gx) (tg kx vx : Expr) (ifs : List Expr) (scope : Scope) (js : List Nat) (st : D → Rho → Rs Fl) (tt : Rho → Rs Bool) (tk te : Rho → Rs Vl) : Prop where
  g : ∀ (s : Shared) (H : Hp) (C : Addr) (cl : List (Str × Addr)) (fp : List Addr), DG (X.blk s H scope (compEnvC scope cl C X.env) fp) G.q tg js st
  t : ∀ (s : Shared) (H : Hp) (C : Addr) (cl : List (Str × Addr)) (fp : List Addr), PTs (X.blk s H scope (compEnvC scope cl C X.env) fp) ifs (tT G.q tt)
  k : ∀ (s : Shared) (H : Hp) (C : Addr) (cl : List (Str × Addr)) (fp : List Addr), PE (X.blk s H scope (compEnvC scope cl C X.env) fp) kx (tE G.q tk)
  e : ∀ (s : Shared) (H : Hp) (C : Addr) (cl : List (Str × Addr)) (fp : List Addr), PE (X.blk s H scope (compEnvC scope cl C X.env) fp) vx (tE G.q te)
theorem DcOk.by (h : ∀ (s : Shared) (H : Hp) (C : Addr) (cl : List (Str × Addr)) (fp : List Addr), DG (X.blk s H scope (compEnvC scope cl C X.env) fp) G.q tg js st ∧ PTs (X.blk s H scope (compEnvC scope cl C X.env) fp) ifs (tT G.q tt) ∧ PE (X.blk s H scope (compEnvC scope cl C X.env) fp) kx (tE G.q tk) ∧ PE (X.blk s H scope (compEnvC scope cl C X.env) fp) vx (tE G.q te)) : DcOk X G tg kx vx ifs scope js st tt tk te :=
  ⟨fun s H C cl fp => (h s H C cl fp).1, fun s H C cl fp => (h s H C cl fp).2.1, fun s H C cl fp => (h s H C cl fp).2.2.1, fun s H C cl fp => (h s H C cl fp).2.2.2⟩
theorem wDc (C : Cok X G k) (own : List (Str × Nat)) (hi : DI X G tg iter si) (h : DcOk X G tg kx vx ifs scope js st tt tk te) (ok : BlkOk X.N X.env.scope scope own := by exact blkOk_by rfl) (hj : ∀ j ∈ js, j ∈ own.map (·.2) := by decide) (hs : ∀ x, foldedSetIterable iter X.env x = pure x := by intro _; rfl) :
    DF X G (.DictComp kx vx [⟨tg, iter, ifs, 0⟩] scope pos) (sDc si st tt tk te (own.map (·.2))) :=
  .mk (PE.imp (pe_dc C.c C.N hi ok h.g h.t h.k h.e hs) fun _ _ _ q => dc_t hj q) fun _ => rfl
end
/-! ### displays -/
def sPnil : Rho → Rs (List (D × D)) := fun ρ => .ok [] ρ
def sPcons (a b : Rho → Rs Vl) (r : Rho → Rs (List (D × D))) : Rho → Rs (List (D × D)) := fun ρ => okB (a ρ) fun x ρ => okB (frz x ρ) fun k ρ => okB (b ρ) fun y ρ => okB (frz y ρ) fun v ρ => okB (r ρ) fun ps ρ => .ok ((k, v) :: ps) ρ
def dMerge : List (D × D) → List (D × D) → Option (List (D × D))
  | acc, [] => some acc
  | acc, (k, v) :: r => match kOf k with
    | some (.inl q) => dMerge (dPutL acc (.inl q) k v) r
    | _ => none
def sDisp (r : Rho → Rs (List (D × D))) : Rho → Rs Vf := fun ρ => okB (r ρ) fun ps ρ => match dMerge [] ps with
  | some ds => if ps.length ≤ 15 then .ok (.fr (.dict ds)) ρ else .bad
  | none => .bad
def RPs (K : PySem.W.Frag) (F : Hp) : List (V × V) → List (D × D) → Prop
  | [], [] => True
  | (x, y) :: ps, (k, v) :: ds => Rp K F x k ∧ Rp K F y v ∧ RPs K F ps ds
  | _, _ => False
theorem RPs.mono {K : PySem.W.Frag} {F F2 : Hp} (s : Sub F F2) : ∀ {ps : List (V × V)} {ds : List (D × D)}, RPs K F ps ds → RPs K F2 ps ds
  | [], [], _ => trivial
  | (_, _) :: _, (_, _) :: _, h => ⟨h.1.mono s, h.2.1.mono s, RPs.mono s h.2.2⟩
structure DP (X : Cx) (G : Gx) (pos : Pos) (keys : List (Option Expr)) (values : List Expr) (s : Rho → Rs (List (D × D))) : Prop where
  ex : ∃ trs : List (TE × TE), PPs X pos keys values trs ∧ keys.length = trs.length ∧ keys.all (·.isSome) = true ∧ keys.length = values.length ∧ ∀ {F : Hp} {O : Fm} {ρ : Rho} {σ : L2.St} {H : Hp} {Q : List (V × V) → Hp → Prop} {ps : List (D × D)} {ρ' : Rho}, Wd G.K F O ρ σ H → s ρ = .ok ps ρ' →
    (∀ vs H' F', Wd G.K F' O ρ' σ H' → Sub F F' → RPs G.K F' vs ps → Q vs H') → tPairs trs σ H Q
section
variable {X : Cx} {G : Gx} {k : Nat} {pos : Pos} {a b : Expr} {keys : List (Option Expr)} {values : List Expr} {sa sb : Rho → Rs Vl} {s : Rho → Rs (List (D × D))}
theorem pN : DP X G pos [] [] sPnil := ⟨[], pps_nil, rfl, rfl, rfl, fun {F O ρ σ H Q ps ρ'} w e h => by
  cases e
  exact h [] H F w (Sub.refl _) trivial⟩
theorem pC (ha : PE X a (tE G sa)) (hb : PE X b (tE G sb)) (r : DP X G pos keys values s) : DP X G pos (some a :: keys) (b :: values) (sPcons sa sb s) := by
  obtain ⟨trs, h1, h2, h3, h4, h5⟩ := r.ex
  refine ⟨(tE G sa, tE G sb) :: trs, pps_cons ha hb h1, by rw [List.length_cons, List.length_cons, h2], by rw [List.all_cons, h3]; rfl, by rw [List.length_cons, List.length_cons, h4], fun {F O ρ σ H Q ps ρ'} w e h => ?_⟩
  unfold sPcons at e
  have ob : ∀ {α β : Type} {r : Rs α} {k : α → Rho → Rs β} {z : β} {ρ' : Rho}, okB r k = .ok z ρ' → ∃ x ρ1, r = .ok x ρ1 ∧ k x ρ1 = .ok z ρ' := fun {α β r k z ρ'} e => by
    cases r with
    | ok x ρ1 => exact ⟨x, ρ1, rfl, e⟩
    | err => cases e
    | bad => cases e
  obtain ⟨x, ρ1, e1, e⟩ := ob e
  obtain ⟨kk, ρ2, e2, e⟩ := ob e
  obtain ⟨y, ρ3, e3, e⟩ := ob e
  obtain ⟨vv, ρ4, e4, e⟩ := ob e
  obtain ⟨qs, ρ5, e5, e⟩ := ob e
  cases e
  refine ⟨ρ, F, O, w, ?_⟩
  rw [e1]
  intro v H1 F1 w1 s1 rx
  obtain ⟨F2, w2, s2, r2⟩ := frz_ok w1 rx e2
  refine ⟨ρ2, F2, O, w2, ?_⟩
  rw [e3]
  intro u H3 F3 w3 s3 ry
  obtain ⟨F4, w4, s4, r4⟩ := frz_ok w3 ry e4
  refine h5 w4 e5 fun vs H5 F5 w5 s5 r5 => h _ H5 F5 w5 ((((s1.trans s2).trans s3).trans s4).trans s5) ⟨((r2.mono s3).mono s4).mono s5, r4.mono s5, r5⟩
theorem merge_ok {K : PySem.W.Frag} {F : Hp} : ∀ {ps : List (D × D)} {vs : List (V × V)} {acc ds : List (D × D)} {avs : List (Key × V)}, RPs K F vs ps → RpK K F avs acc → dMerge acc ps = some ds → ∃ kvs : List (Key × V), vs = kvs.map (fun kv => (kV kv.1, kv.2)) ∧ kvs.length = ps.length ∧ RpK K F (mergeK avs kvs) ds
  | [], [], acc, ds, avs, _, r, e => by cases e; exact ⟨[], rfl, rfl, r⟩
  | (k, v) :: ps, (x, y) :: vs, acc, ds, avs, h, r, e => by
    unfold dMerge at e
    split at e
    · rename_i q eq
      have ek := kOf_inl eq
      subst ek
      obtain ⟨kvs, h1, h2, h3⟩ := merge_ok h.2.2 (rpK_put h.2.1 r) e
      refine ⟨(q, y) :: kvs, ?_, by rw [List.length_cons, List.length_cons, h2], h3⟩
      have : x = kV q := by
        have h0 := h.1
        cases q with
        | inl i => cases h0; rfl
        | inr i => cases h0; rfl
      rw [this, h1]; rfl
    · cases e
  | [], (_, _) :: _, _, _, _, h, _, _ => h.elim
  | (_, _) :: _, [], _, _, _, h, _, _ => h.elim
theorem wDisp (r : DP X G pos keys values s) (h0 : keys ≠ [] := by exact fun z => nomatch z) (h15 : keys.length ≤ 15 := by decide) : DF X G (.Dict keys values pos) (sDisp s) := by
  obtain ⟨trs, h1, h2, h3, h4, h5⟩ := r.ex
  refine .mk (PE.imp (pe_disp h1 h3 h4 h0 h15) fun σ H Q h => ?_) fun _ => rfl
  obtain ⟨ρ, F, O, w, h⟩ := h
  intro p hp
  unfold sDisp at h
  cases e : s ρ with
  | err x ρ1 => rw [e] at h; exact h.elim
  | bad => rw [e] at h; exact h.elim
  | ok ps ρ1 =>
    rw [e] at h
    have h : FinF G F O σ Q (match dMerge [] ps with | some ds => if ps.length ≤ 15 then .ok (.fr (.dict ds)) ρ1 else .bad | none => .bad) := h
    have op : O.o p = none := w.o.none hp
    refine h5 (w.addO hp) e fun vs H' F' w' s' r' => ?_
    have hH : H' p = some (.dK []) := w'.o p _ upd_same
    cases em : dMerge [] ps with
    | none => rw [em] at h; exact h.elim
    | some ds =>
      rw [em] at h
      have h : FinF G F O σ Q (if ps.length ≤ 15 then .ok (.fr (.dict ds)) ρ1 else .bad) := h
      split at h
      · rename_i hl
        obtain ⟨kvs, e1, e2, rm⟩ := merge_ok r' .nil em
        refine ⟨hH, kvs, e1, by omega, ?_⟩
        have w2 := w'.modO (u' := .dK (mergeK [] kvs))
        exact h p _ F' (w2.unO op) s' (w2.gatheredD op rm)
      · exact h.elim
end
end L3
/-! L3, part 35: sorted of a list of tuples whose first one is empty. -/
namespace PySem.W
open PySem PySem.Calls PyProof.Rows PySem.SeqAt
section
variable {prog : Program} {w : World} {A : Around} {s : Shared} {E : Value → Shared → Prop}
theorem callE_tuple_lt {Q : Value → Shared → Prop} {l b : Addr} {items items2 : Array Value} {e r : Nat → Bool} (hl : s.heap.IsTuple l items) (hb : s.heap.IsTuple b items2)
    (he : ∀ j (h1 : j < items.size) (h2 : j < items2.size), EqAt A.in1 s items[j] items2[j] (e j)) (hr : ∀ j (h1 : j < items.size) (h2 : j < items2.size), e j = false → RcLt A.in1 s items[j] items2[j] (r j))
    (h : Q (.bool (firstLt e r (decide (items.size < items2.size)) (List.range (min items.size items2.size)))) s) : wpAny (model prog w) A (call (.builtin "tuple.__lt__") [.ref l, .ref b]) Q E s := by
  obtain ⟨⟨cls, dd, data, sl⟩, ho, hc, n, hd⟩ := id hl
  obtain ⟨⟨cls2, dd2, data2, sl2⟩, ho2, hc2, n2, hd2⟩ := id hb
  simp only at hc hd hc2 hd2
  subst hc hd hc2 hd2
  exact call_meets F.slot_tuple_lt ⟨_, ho, rfl⟩ F.entry_tuple_lt (F.args_tuple_lt_2 _ _) (tuple_ltAt l b items items2 n n2 dd dd2 sl sl2 e r) ⟨ho, ho2, he, hr, h⟩
theorem oneLtE_alike {xs ys : List PyData} {a b : Value} {as bs : List Addr} {Q : Bool → Shared → Prop} (ra : Reads s.heap a (.tuple xs) as) (rb : Reads s.heap b (.tuple ys) bs) (h : alike (.tuple xs) (.tuple ys) = true)
    (hu : A.units + min (PyData.tuple xs).depth (PyData.tuple ys).depth < cLine) (hq : Q (dataLt (.tuple xs) (.tuple ys)) s) : wpAny (model prog w) A (oneLt' true a b) Q E s := by
  have hal : alikeAll xs ys = true := by simpa [alike] using h
  cases ra with
  | @tuple l o vs n _ as₁ h1 h2 h3 h4 =>
    cases rb with
    | @tuple l' o' vs' n' _ bs₁ k1 k2 k3 k4 =>
      have n1 : vs.size = xs.length := by simpa using ReadsAll.length _ _ _ h4
      have n2 : vs'.size = ys.length := by simpa using ReadsAll.length _ _ _ k4
      rw [dataLt_tuple, ← firstLt_toks xs ys hal, ← n1, ← n2] at hq
      rw [oneLt'_eq]
      simp only [if_true]
      refine wpAny_bind (wpAny_cRoomFor (room_here hu) ?_)
      refine wpAny_bind (wpAny_callSpecialIfBound?_slot (T := "tuple") ⟨_, h1, h2⟩ F.slot_tuple_lt (callE_tuple_lt (e := pairEq xs ys) (r := fun j => dataLt (xs.getD j .none) (ys.getD j .none)) ⟨_, h1, h2, _, h3⟩ ⟨_, k1, k2, _, k3⟩ (fun j j1 j2 => ?_) (fun j j1 j2 hj => ?_) ?_))
      · have := eqAt_alikeAll xs ys A.in1 s vs.toList vs'.toList _ _ h4 k4 hal (room_in hu) j (by simpa using j1) (by simpa using j2)
        simpa using this
      · have := rcLt_alikeAll xs ys A.in1 s vs.toList vs'.toList _ _ h4 k4 hal (room_in hu) j (by simpa using j1) (by simpa using j2) hj
        simpa using this
      · exact wpAny_truthy_bool hq
theorem firstE {M : Model} {v : Value} {xs : List PyData} {as : List Addr} (r : Reads s.heap v (.tuple xs) as) : ∃ o : Option Value, (xs = [] → o = none) ∧ ∀ (Q : Option Value → Shared → Prop), Q o s → wpAny M A (firstOfTuple' v) Q E s := by
  cases r with
  | @tuple l o vs n _ as₁ h1 h2 h3 h4 =>
    refine ⟨vs[0]?, fun e => ?_, fun Q q => ?_⟩
    · subst e
      have : vs.toList.length = 0 := by simpa using ReadsAll.length _ _ _ h4
      have : vs.size = 0 := by simpa using this
      rw [Array.getElem?_eq_none (by omega)]
    · rw [kas_first_eq]
      refine wpAny_bind ((show Looks M s.heap (typeOf (Value.ref l)) (Value.type "tuple") from h2 ▸ (Looks.ld h1).andThen .now).here ?_)
      rw [if_neg (by decide)]
      exact wpAny_bind (listItems_at h1 h3 (wpAny_pure q))
theorem firstsE {M : Model} : ∀ {vs : List Value} {ds : List PyData}, EachIs (fun v d => ∃ as, Reads s.heap v d as) vs ds → (∀ d, d ∈ ds → ∃ xs, d = .tuple xs) → ∃ fs : List (Option Value), (ds.head? = some (.tuple []) → fs.head? = some none) ∧ ∀ (Q : List (Option Value) → Shared → Prop), Q fs s → wpAny M A (vs.mapM firstOfTuple') Q E s
  | _, _, .nil, _ => ⟨[], fun h => (by cases h), fun Q q => by rw [List.mapM_nil]; exact wpAny_pure q⟩
  | _, _, .cons (a := v) (b := d) ⟨as, r⟩ t, ht => by
    obtain ⟨fs, h1, h2⟩ := firstsE (M := M) t fun d hd => ht d (List.mem_cons_of_mem _ hd)
    obtain ⟨xs, rfl⟩ := ht d (List.mem_cons_self ..)
    obtain ⟨o, o1, o2⟩ := firstE (M := M) (A := A) (E := E) r
    refine ⟨o :: fs, fun h => ?_, fun Q q => ?_⟩
    · rw [List.head?_cons, Option.some.injEq, PyData.tuple.injEq] at h
      rw [List.head?_cons, o1 h]
    · rw [List.mapM_cons]
      exact wpAny_bind (o2 _ (wpAny_bind (h2 _ (wpAny_pure q))))
/-- tuples, the first one empty -/
def SortableE (ds : List PyData) : Prop := ds.head? = some (.tuple []) ∧ ∀ d, d ∈ ds → ∃ xs, d = .tuple xs
theorem SortsAt.dataE {vs : List Value} {ds : List PyData} (e : EachIs (fun v d => ∃ as, Reads s.heap v d as) vs ds) (hal : AllAlike ds) (hk : SortableE ds) (hu : ∀ d, d ∈ ds → A.units + d.depth < cLine) : SortsAt prog w A s (dataKind s.heap ds) vs := by
  have room : ∀ {d d' : PyData}, d ∈ ds → A.units + min d.depth d'.depth < cLine := fun {d d'} hd => Nat.lt_of_le_of_lt (Nat.add_le_add_left (Nat.min_le_left _ _) _) (hu d hd)
  refine ⟨fun v hv => ?_, oneType', ?_, fun h2 E Q hq => ?_⟩
  · obtain ⟨d, hd, as, r⟩ := e.left v hv
    exact ⟨_, dataKind_some hal hd r⟩
  · intro E x y a b Q ha hb hq
    obtain ⟨d, as, hd, ra, rfl⟩ := dataKind_inv ha
    obtain ⟨d', as', hd', rb, rfl⟩ := dataKind_inv hb
    rw [keyLt'_oneType]
    obtain ⟨xs, rfl⟩ := hk.2 d hd
    obtain ⟨ys, rfl⟩ := hk.2 d' hd'
    exact oneLtE_alike ra rb (hal _ hd _ hd') (room hd) hq
  · obtain ⟨fs, f1, f2⟩ := firstsE (M := model prog w) (A := A) (E := E) e hk.2
    have f1 := f1 hk.1
    cases fs with
    | nil => cases f1
    | cons o fs =>
      rw [List.head?_cons, Option.some.injEq] at f1
      subst f1
      rw [keyKind'_eq, List.mapM_toArray, map_eq_pure_bind]
      refine wpAny_bind (wpAny_bind (f2 _ (wpAny_pure ?_)))
      rw [if_neg (by simp), if_neg (by simp)]
      rw [oneTypeOnly'_eq, List.mapM_toArray, map_eq_pure_bind]
      refine wpAny_bind (wpAny_bind (wpAny_bind (kas_mapM (r := Value.type "tuple") _ (fun v hv Q' hq => ?_) (wpAny_pure ?_))))
      · obtain ⟨d, hd, as, r⟩ := e.left v hv
        obtain ⟨xs, rfl⟩ := hk.2 d hd
        exact (looks_reads r).here hq
      · have hall : ((List.map (fun _ => Value.type "tuple") vs).toArray.all fun x => x == Value.type "tuple") = true := by
          simp only [List.all_toArray, List.all_map, List.all_eq_true]
          intro _ _
          show (Value.type "tuple" == Value.type "tuple") = true
          decide
        have h0 : (List.map (fun _ => Value.type "tuple") vs).toArray[0]? = some (Value.type "tuple") := by
          cases vs with
          | nil => simp at h2
          | cons => simp
        rw [h0]
        simp only [hall, if_true]
        exact wpAny_pure (wpAny_pure hq)
theorem sorted_dataE {β : Type} {vs : List Value} {bs : List β} {enc : β → PyData} {R : Value → β → Prop} {l : Addr} {Q : Value → Shared → Prop} (hl : s.heap.IsList l vs.toArray) (e : EachIs R vs bs) (er : EachIs (fun v b => ∃ as, Reads s.heap v (enc b) as) vs bs) (hal : AllAlike (bs.map enc)) (hk : SortableE (bs.map enc)) (hL : bs.length ≤ sizeLine)
    (hu : ∀ b, b ∈ bs → A.units + 2 + (enc b).depth < cLine) (h : ∀ out, out.length = bs.length → EachIs R out (bs.mergeSort (dataLe false enc)) → Q (.ref (s.heap.objs.size + 1)) { s with heap := sortedAll s.heap vs (List.toArray out) }) :
    wpAny (model prog w) A (call (.builtin "sorted") [.ref l]) Q E s := by
  have er' : EachIs (fun v b => ∃ as, Reads (sortingHeap (copyHeap s.heap vs) (s.heap.objs.size + 1) vs) v (enc b) as) vs bs := er.mono fun _ _ ⟨as, r⟩ => ⟨as, PyProof.Rows.Reads.keeps (fun _ _ => sorting_copy_old) r⟩
  exact sorted_vals hl (SortsAt.dataE (s := { s with heap := sortingHeap (copyHeap s.heap vs) (s.heap.objs.size + 1) vs }) (each_map (R := fun v d => ∃ as, Reads (sortingHeap (copyHeap s.heap vs) (s.heap.objs.size + 1) vs) v d as) enc er') hal hk (bound_map hu)) (by rw [e.length]; exact hL)
    (h _ (by rw [sortVals_length false rfl]; exact e.length) (sortVals_data false e er' hal))
end
end PySem.W
namespace L3
open PySem PySem.Spec PyProof.Rows L2
section
variable {X : Cx} {G : Gx} {k n : Nat} {a : Expr} {ss : Rho → Rs (List Vl)} {p pos : Pos}
@[irreducible] def srtOkE (ds : List D) : Bool := (match ds with | .tuple [] :: _ => true | _ => false) && (ds.all fun d => match d with | .tuple _ => true | _ => false)
theorem srtOkE_iff {ds : List D} (h : srtOkE ds = true) : PySem.W.SortableE ds := by
  unfold srtOkE at h
  rw [Bool.and_eq_true] at h
  refine ⟨?_, fun d hd => ?_⟩
  · have h1 := h.1
    split at h1
    · rfl
    · cases h1
  · have := List.all_eq_true.mp h.2 d hd
    split at this
    · exact ⟨_, rfl⟩
    · cases this
def rSortE (K : PySem.W.Frag) : List V → Hp → VK → Prop := fun vs H Q => ∃ (a : Addr) (xs : List V) (ds : List D), vs = [V.ref a] ∧ SqL K H a xs ∧ DpAll K H xs ds ∧ ordOk ds = true ∧ srtOkE ds = true ∧
  ∀ p, H p = none → Q (.ref p) (upd H p (.lst ((srtV xs ds).map Prod.fst)))
theorem cr_sortE (hu : X.A.units + 200 < cLine) : CallR X (.builtin "sorted") (rSortE X.K) := by
  intro pins s σ H vs us Q I r h
  obtain ⟨a, xs, ds, rfl, hs, hd, ho, hsr, q⟩ := h
  obtain ⟨h1, h2, h3⟩ := ordOk_iff.mp ho
  rw [Vals.ref1 r]
  obtain ⟨its, rv, hl, hz⟩ := I.list hs
  obtain ⟨as, hr⟩ := Dp.readsAll I _ _ _ hd rv
  have hsn : (xs.zip ds).map Prod.snd = ds := zip_snd (dpLen hd)
  have hlen : (xs.zip ds).length = xs.length := by rw [List.length_zip, dpLen hd, Nat.min_self]
  refine PySem.W.sorted_dataE (enc := Prod.snd) (bs := xs.zip ds) (R := fun v b => RelV b.1 v) hl.isList ((zip_each rv hr).mono fun _ _ h => h.1) ((zip_each rv hr).mono fun _ _ h => h.2) (by rw [hsn]; exact h1.1) (by rw [hsn]; exact srtOkE_iff hsr) (by rw [hlen]; exact hz) (fun b hb => ?_) fun out ho he => ?_
  · have hb2 : b.2 ∈ ds := by rw [← hsn]; exact List.mem_map.mpr ⟨b, hb, rfl⟩
    have : b.2.depth ≤ PyData.depthAll ds := cr_sortX.depth_mem (X := X) hb2
    omega
  · obtain ⟨ep, he'⟩ := PyProof.Rows.sortedAll_at s.heap its out.toArray
    have hv := each_vals (fun _ _ h => h) he
    have hlen2 : ((srtV xs ds).map Prod.fst).length ≤ sizeLine := by
      unfold srtV
      rw [List.length_map, List.length_mergeSort, hlen]
      exact hz
    exact ⟨.ref _, upd H (s.heap.objs.size + 1) (.lst ((srtV xs ds).map Prod.fst)), I.laid (t' := s.toks) (fun _ _ => PyProof.Rows.sortedAll_old) (Nat.le_succ _) ⟨hlen2, out, ep, hv, he'⟩, rfl, q _ (I.hok.fresh (Nat.le_succ _))⟩
def srtE : List D → Option D
  | [.list ds] => if ordOk ds && srtOkE ds then some (.list (ds.mergeSort (PySem.W.dataLe false id))) else none
  | _ => none
theorem ok_srtE : FunOkF G (rSortE G.K) srtE := by
  intro F O ρ σ H vs ds z Q w at_ e p
  unfold srtE at e
  split at e
  · rename_i xs
    obtain ⟨ho, rfl⟩ := ifs e
    rw [Bool.and_eq_true] at ho
    obtain ⟨v, rfl, ha⟩ := at_.one
    obtain ⟨a, us, rfl, q, r⟩ := ha.list w.f
    refine ⟨a, us, xs, rfl, SqL.of q, r.dp w.f (ordOk_iff.mp ho.1).2.1, ho.1, ho.2, fun l hl => w.laidF p hl ?_⟩
    have e : xs.mergeSort (PySem.W.dataLe false id) = (srtV us xs).map Prod.snd := by
      have h := List.map_mergeSort (r := PySem.W.dataLe false Prod.snd) (s := PySem.W.dataLe false id) (f := Prod.snd) (l := us.zip xs) fun _ _ _ _ => rfl
      rw [zip_snd r.length] at h
      exact h.symm
    rw [e]
    exact RpL.of_mem fun b hb => RpL.zip r b ((List.mergeSort_perm _ _).mem_iff.mp hb)
  · cases e
def srtY (ds : List D) : Option D := orD (srtX ds) (srtE ds)
theorem wSortedY (C : Cok X G k) (hm : X.mg "sorted" = none) (h : DA X G [a] ss n) (hg : Gl X "sorted" := by rfl) : DF X G (.Call (.Name "sorted" p) [a] [] pos) (sFunF srtY ss) :=
  df_callB (((C.K ▸ cr_sortX C.u).or (C.K ▸ cr_sortedI)).or (C.K ▸ cr_sortE C.u)) (ok_orF (ok_orF ok_srt ok_sorted) ok_srtE) hg hm (by decide +kernel) h.pa h.pl (by decide) (by decide)
end
end L3
/-! L3, part 36: len(set(t)), t a tuple of whole numbers. -/
namespace L3
open PySem PySem.Spec PyProof.Rows L2
theorem insU_len {x : Int} : ∀ {l : List Int}, (insU x l).length ≤ l.length + 1
  | [] => Nat.le_refl _
  | y :: r => by
    unfold insU
    split
    · exact Nat.le_refl _
    · split
      · exact Nat.le_succ _
      · rw [List.length_cons, List.length_cons]; exact Nat.succ_le_succ insU_len
theorem nodup_perm {l m : List Int} (hl : l.Nodup) (hm : m.Nodup) (h : ∀ k, k ∈ l ↔ k ∈ m) : l.Perm m := by
  refine List.perm_iff_count.mpr fun a => ?_
  rw [List.Nodup.count hl, List.Nodup.count hm]
  simp only [h a]
theorem nodup_len {l m : List Int} (hl : l.Nodup) (hm : m.Nodup) (h : ∀ k, k ∈ l ↔ k ∈ m) : l.length = m.length := (nodup_perm hl hm h).length_eq
def tLenSetU (K : PySem.W.Frag) (ta : TE) : TE := fun σ H Q => ta σ H fun x H1 => ∃ (l : Addr) (ns : List Int), x = .ref l ∧ SqT K H1 l (ns.map V.int) ∧ ns.length < 64 ∧ Q (.int (sortU ns).length) H1
theorem pe_lenSetU {X : Cx} {a : Expr} {ta : TE} {p p2 q pos : Pos} (gs : Gl X "len") (ms : X.mg "len" = none) (gt : Gl X "set") (mt : X.mg "set" = none) (ha : PE X a ta) (hc : X.calm = true)
    (na : starEach [a] X.env = (false, eval a X.env) :: starEach [] X.env) : PE X (.Call (.Name "len" p) [.Call (.Name "set" p2) [a] [] q] [] pos) (tLenSetU X.K ta) := by
  refine ⟨fun ps s σ H Q I asks => ?_⟩
  refine Call_ (ld_blt I gs ms PySem.boot_len ?_)
  refine PyProof.Rows.callWith_builtin1 (PyProof.Rows.args_cons ?_ rfl) rfl rfl
  refine Call_ (ld_blt I gt mt boot_set ?_)
  refine PyProof.Rows.callWith_type1 (PyProof.Rows.args_cons (thn (ha.run ps s σ H _ I asks) fun v s1 ⟨x, H1, J1, r1, q1⟩ => PyProof.Rows.args_nil ?_) na) na rfl
  obtain ⟨l, ns, rfl, sq, l64, q1⟩ := q1
  cases r1
  obtain ⟨its, rv, pt, _⟩ := J1.tuple sq
  have cold := J1.ok.hd hc
  refine call_set_tupI ns cold (show s1.heap.IsTuple l its.toArray from pt) (by simpa using ints_of_vals rv) (by unfold scanBound; omega) fun h2 tk c R2 cle kept => ?_
  refine PyProof.Rows.args_nil ?_
  have J2 : Inv X ps σ H1 { s1 with heap := h2, toks := tk } := J1.kept fun b o e => kept b o e
  obtain ⟨o, es, ep, t, ho, hex, hd, g, nd, hm, hb, hf, hn, hr, hl⟩ := R2
  have hlen : es.size = (sortU ns).length := by
    have h1 : (es.toList.map keyOf).length = (sortU ns).length := nodup_len nd ((sortU_rise ns).imp fun h => Int.ne_of_lt h) fun k => by
      rw [← hm k, decide_eq_true_iff, sortU_mem]
    rw [List.length_map, Array.length_toList] at h1
    exact h1
  refine call_len_set ho hex hd hf (by omega) ⟨.int (sortU ns).length, H1, J2.tok _, ⟨_, by rw [hlen]⟩, q1⟩
def lenSetD : D → Option D
  | .tuple xs => (intsD xs).bind fun ns => if ns.length < 64 then some (.int (sortU ns).length) else none
  | _ => none
def sLenSet (a : Rho → Rs Vl) : Rho → Rs Vl := fun ρ => (a ρ).bind fun x ρ => one ρ x lenSetD
theorem wLenSet {X : Cx} {G : Gx} {k : Nat} {a : Expr} {sa : Rho → Rs Vl} {p p2 q pos : Pos} (C : Cok X G k) (ms : X.mg "len" = none) (mt : X.mg "set" = none) (ha : PE X a (tE G sa)) (gs : Gl X "len" := by rfl) (gt : Gl X "set" := by rfl) (na : starEach [a] X.env = (false, eval a X.env) :: starEach [] X.env := by rfl) :
    DE X G (.Call (.Name "len" p) [.Call (.Name "set" p2) [a] [] q] [] pos) (sLenSet sa) := by
  refine .val (PE.imp (pe_lenSetU gs ms gt mt ha C.c na) fun σ H Q h => ?_) fun _ => rfl
  obtain ⟨ρ, F, O, w, h⟩ := h
  refine tG.bind w h fun x ρ1 v H1 F1 _ w1 s1 rx h1 => ?_
  obtain ⟨d, z, hx, e, kz⟩ := one_fin w1 rx h1
  cases d with
  | tuple xs =>
    obtain ⟨ns, e3, e4⟩ := Option.bind_eq_some_iff.mp (show (intsD xs).bind _ = some z from e)
    split at e4
    · rename_i l64
      cases e4
      obtain ⟨b, us, rfl, _, sq, r⟩ := hx.tuple w1.f
      obtain ⟨rfl, rfl⟩ := intsD_rel r e3
      refine ⟨b, ns, rfl, by rw [C.K]; exact sq, l64, kz.now w1 (.int _)⟩
    · cases e4
  | _ => cases e
end L3
/-! L3, part 37: a tuple many times. -/
namespace L2
open PySem PySem.Spec PyProof.Rows
theorem tuple_mul1 (l : Addr) (items : Array Value) (n : Nat) (sl : Array (Option Value)) (dd : Option Addr) (x : Int) (u : Tok) (c0 : (decide (x < -(2 ^ 63)) || decide (x ≥ 2 ^ 63)) = false) (c1 : (items.isEmpty || x == 1) = true) :
    Meets (Builtin.«tuple.__mul__» ⟨[.ref l, .int x u], []⟩) (fun _ R s => s.heap.get? l = some { cls := .type "tuple", dict := dd, data := .seq items n, slots := sl } ∧
      R (.ok (.ret (Value.ref l))) s) :=
  .of_wp fun prog w A R s h => by
    obtain ⟨hp, g, d, tk, os⟩ := s
    obtain ⟨hl, h⟩ := h
    have f1 := AutoSeq1.idx_int
    wp_walk using wpAny_loadPart' hl
    repeat (first
      | (refine wpAny_ite_false (decide_eq_false (by rw [c0]; exact Bool.false_ne_true)) ?_; wp_walk using wpAny_loadPart' hl)
      | (refine wpAny_ite_true (decide_eq_true c1) ?_; wp_walk using wpAny_loadPart' hl))
    all_goals exact ⟨_, rfl, h⟩
def rRep1 (K : PySem.W.Frag) : R2 := fun x y H Q => ∃ l k xs, x = .ref l ∧ y = .int k ∧ SqT K H l xs ∧ k = 1 ∧ Q (.ref l) H
theorem op_rep1 {X : Cx} : OpR X (binaryOp .Mult) (rRep1 X.K) := by
  intro pins s σ H x y v u Q I rx ry h
  obtain ⟨l, k, xs, rfl, rfl, hT, rfl, q⟩ := h
  cases rx
  obtain ⟨t, rfl⟩ := ry
  obtain ⟨its, r, ⟨⟨cls, dd, data, sl⟩, ho, hc, n, hd⟩, hs⟩ := I.tuple hT
  simp only at hc hd
  subst hc hd
  have c0 : (decide ((1 : Int) < -(2 ^ 63)) || decide ((1 : Int) ≥ 2 ^ 63)) = false := by decide
  have c1 : (its.toArray.isEmpty || (1 : Int) == 1) = true := by simp
  refine wpAny_binaryOp_repeat_ref (T := "tuple") (U := "int") (by decide) ⟨_, ho, rfl⟩ (fun s' => typeIs_int s' 1 t) noFill_tuple_mul PySem.F.fills_int_mul PySem.F.slot_int_rmul repeat_tuple PySem.F.slot_int_index.lookup
    (call_meets PySem.F.slot_int_rmul (typeIs_int s 1 t) PySem.F.entry_int_rmul (PySem.F.args_int_rmul_2 _ _) (int_rmul_tuple 1 t l its.toArray n dd sl)
      ⟨ho, rfl, ⟨_, ho, rfl⟩, call_meets PySem.F.slot_tuple_mul ⟨_, ho, rfl⟩ PySem.F.entry_tuple_mul (PySem.F.args_tuple_mul_2 _ _) (tuple_mul1 l its.toArray n sl dd 1 t c0 c1) ⟨ho, ?_⟩⟩)
  exact ⟨.ref l, H, I, rfl, q⟩
end L2
namespace L3
open PySem PySem.Spec PyProof.Rows L2
def mulT : D → D → Option D
  | .tuple (x :: xs), .int k => if 1 ≤ k ∧ k ≤ 1000 ∧ (x :: xs).length ≤ 1000 then some (.tuple (List.replicate k.toNat (x :: xs)).flatten) else none
  | _, _ => none
theorem de_mulT {X : Cx} {G : Gx} {k0 : Nat} {a b : Expr} {sa sb : Rho → Rs Vl} {pos : Pos} (C : Cok X G k0) (ha : PE X a (tE G sa)) (hb : PE X b (tE G sb)) : DE X G (.BinOp a .Mult b pos) (sBin mulT sa sb) := by
  refine .val (de_bin (op_rep1.or op_repT) (fun {F O ρ σ H v u x y z Q} w ax ay e p => ?_) ha hb) fun _ => rfl
  unfold mulT at e
  split at e
  · rename_i d ds k
    split at e
    · rename_i hk
      cases e
      obtain ⟨l, us, rfl, fl, q, r⟩ := ax.tuple w.f
      have eu := ay.int
      subst eu
      by_cases h1 : k = 1
      · subst h1
        refine .inl ⟨l, 1, us, rfl, rfl, by rw [C.K]; exact q, rfl, p.now w ?_⟩
        have : (List.replicate (1 : Int).toNat (d :: ds)).flatten = d :: ds := by
          show (List.replicate 1 (d :: ds)).flatten = d :: ds
          simp
        rw [this]
        exact .tup fl r
      · refine .inr ⟨l, k, us, rfl, rfl, by rw [C.K]; exact q, fun e => ?_, by omega, hk.2.1, by rw [r.length]; exact hk.2.2, fun t ht => p.new w ht (.tup upd_same ((r.rep _).mono (sub_upd (w.f.none ht))))⟩
        rw [e] at r
        cases r
    · cases e
  · cases e
end L3
/-! L3P: reading pure meanings. -/
namespace L3
open PySem PySem.Spec PyProof.Rows L2

/-- the result is fine and Q holds of it -/
def Wp {α : Type} (r : Rs α) (Q : α → Rho → Prop) : Prop :=
  match r with
  | .ok a ρ => Q a ρ
  | _ => False
def WpF (r : FR) (Q : D → List Cell → Prop) : Prop :=
  match r with
  | .ok d o => Q d o
  | _ => False
def WpO {α : Type} (o : Option α) (Q : α → Prop) : Prop :=
  match o with
  | some a => Q a
  | none => False
section
variable {α β : Type} {Q : α → Rho → Prop} {ρ : Rho}
theorem Wp.to {r : Rs α} {Q' : α → Rho → Prop} (h : Wp r Q) (i : ∀ a ρ, Q a ρ → Q' a ρ) : Wp r Q' := by
  cases r with
  | ok a ρ => exact i a ρ h
  | err => exact h.elim
  | bad => exact h.elim
theorem Wp.ex {r : Rs α} (h : Wp r Q) : ∃ a ρ, r = .ok a ρ ∧ Q a ρ := by
  cases r with
  | ok a ρ => exact ⟨a, ρ, rfl, h⟩
  | err => exact h.elim
  | bad => exact h.elim
theorem WpF.ex {r : FR} {Q : D → List Cell → Prop} (h : WpF r Q) : ∃ a ρ, r = .ok a ρ ∧ Q a ρ := by
  cases r with
  | ok a ρ => exact ⟨a, ρ, rfl, h⟩
  | err => exact h.elim
  | bad => exact h.elim
theorem WpF.to {r : FR} {Q Q' : D → List Cell → Prop} (h : WpF r Q) (i : ∀ a ρ, Q a ρ → Q' a ρ) : WpF r Q' := by
  cases r with
  | ok a ρ => exact i a ρ h
  | err => exact h.elim
  | bad => exact h.elim
theorem wp_ok {a : α} : Wp (.ok a ρ) Q = Q a ρ := (rfl)
theorem wp_bad : Wp (.bad : Rs α) Q = False := (rfl)
theorem wp_bind {r : Rs β} {f : β → Rho → Rs α} : Wp (r.bind f) Q = Wp r fun b ρ => Wp (f b ρ) Q := by cases r <;> rfl
theorem wp_okB {r : Rs β} {f : β → Rho → Rs α} : Wp (okB r f) Q = Wp r fun b ρ => Wp (f b ρ) Q := by cases r <;> rfl
theorem wp_ite {c : Bool} {x y : Rs α} : Wp (if c = true then x else y) Q = if c = true then Wp x Q else Wp y Q := by cases c <;> rfl
theorem wp_iteP {c : Prop} [Decidable c] {x y : Rs α} : Wp (if c then x else y) Q = if c then Wp x Q else Wp y Q := by split <;> rfl
theorem wpo_some {a : α} {Q : α → Prop} : WpO (some a) Q = Q a := (rfl)
theorem wpo_none {Q : α → Prop} : WpO (none : Option α) Q = False := (rfl)
theorem wp_ofO {o : Option α} : Wp (ofO o ρ) Q = WpO o fun a => Q a ρ := by cases o <;> rfl
end
section
variable {ρ : Rho} {Q : Vl → Rho → Prop} {QF : Vf → Rho → Prop} {QA : List Vl → Rho → Prop} {QB : Bool → Rho → Prop} {QS : Fl → Rho → Prop} {QD : List D → Rho → Prop} {a b c e : Rho → Rs Vl} {ss : Rho → Rs (List Vl)} {sf : Rho → Rs Vf} {s t : Rho → Rs Fl} {f g : D → D → Option D} {i : Nat} {d : D}
/-! names, constants, operators -/
def atCell (c : Option Cell) (i : Nat) (Q : Vl → Prop) : Prop :=
  match c with
  | some (.val d) => Q (.d d)
  | some (.own _ _) => Q (.bv i)
  | some (.lck _ _) => Q (.bv i)
  | _ => False
theorem wp_var : Wp (sVar i ρ) Q = atCell ρ[i]? i fun x => Q x ρ := by
  unfold sVar atCell
  cases ρ[i]? with
  | none => rfl
  | some c => cases c <;> rfl
theorem at_val {Q : Vl → Prop} : atCell (some (.val d)) i Q = Q (.d d) := (rfl)
theorem at_own {Q : Vl → Prop} {p : Bool} : atCell (some (.own p d)) i Q = Q (.bv i) := (rfl)
theorem wp_c : Wp (sC d ρ) Q = Q (.d d) ρ := (rfl)
theorem wp_bin : Wp (sBin f a b ρ) Q = Wp (a ρ) fun x ρ => Wp (b ρ) fun y ρ => WpO ((x.cont ρ).bind fun p => (y.cont ρ).bind fun q => f p q) fun z => Q (.d z) ρ := by
  unfold sBin
  rw [wp_bind]
  simp only [wp_bind]
  congr 1; funext x ρ1; congr 1; funext y ρ2
  unfold two ret
  cases ((x.cont ρ2).bind fun p => (y.cont ρ2).bind fun q => f p q) <;> rfl
theorem wp_un {f : D → Option D} : Wp (sUn f a ρ) Q = Wp (a ρ) fun x ρ => WpO ((x.cont ρ).bind f) fun z => Q (.d z) ρ := by
  unfold sUn
  rw [wp_bind]
  congr 1; funext x ρ1
  unfold one ret
  cases ((x.cont ρ1).bind f) <;> rfl
theorem cont_d {x : D} : (Vl.d x).cont ρ = some x := (rfl)
theorem cont_bv : (Vl.bv i).cont ρ = ρ[i]?.bind Cell.cont := (rfl)
theorem cont_val : (Cell.val d).cont = some d := (rfl)
theorem cont_own {p : Bool} : (Cell.own p d).cont = some d := (rfl)
theorem wp_asB : Wp (asB a ρ) QB = Wp (a ρ) fun x ρ => WpO (x.cont ρ) fun z => match z with | .bool k => QB k ρ | _ => False := by
  unfold asB
  rw [wp_bind]
  congr 1; funext x ρ1
  cases x.cont ρ1 with
  | none => rfl
  | some z => cases z <;> rfl
theorem wp_not : Wp (sNot a ρ) Q = Wp (asB a ρ) fun k ρ => Q (.d (.bool (!k))) ρ := by unfold sNot; rw [wp_bind]; rfl
theorem wp_and : Wp (sAnd a b ρ) Q = Wp (asB a ρ) fun k ρ => if k = true then Wp (b ρ) Q else Q (.d (.bool false)) ρ := by
  unfold sAnd; rw [wp_bind]; congr 1; funext k ρ1; cases k <;> rfl
theorem wp_or : Wp (sOr a b ρ) Q = Wp (asB a ρ) fun k ρ => if k = true then Q (.d (.bool true)) ρ else Wp (b ρ) Q := by
  unfold sOr; rw [wp_bind]; congr 1; funext k ρ1; cases k <;> rfl
theorem wp_ifE : Wp (sIf c a b ρ) Q = Wp (asB c ρ) fun k ρ => if k = true then Wp (a ρ) Q else Wp (b ρ) Q := by
  unfold sIf; rw [wp_bind]; congr 1; funext k ρ1; cases k <;> rfl
theorem wp_chain : Wp (sChain f g a b c ρ) Q = Wp (a ρ) fun x ρ => Wp (b ρ) fun y ρ => WpO ((x.cont ρ).bind fun p => (y.cont ρ).bind fun q => f p q) fun k => match k with
    | .bool true => Wp (c ρ) fun z ρ => WpO ((y.cont ρ).bind fun p => (z.cont ρ).bind fun q => g p q) fun w => Q (.d w) ρ
    | .bool false => Q (.d (.bool false)) ρ
    | _ => False := by
  unfold sChain
  rw [wp_bind]
  congr 1; funext x ρ1
  rw [wp_bind]
  congr 1; funext y ρ2
  cases ((x.cont ρ2).bind fun p => (y.cont ρ2).bind fun q => f p q) with
  | none => rfl
  | some k =>
    cases k with
    | bool k =>
      cases k with
      | false => rfl
      | true =>
        show Wp ((c ρ2).bind _) Q = _
        rw [wp_bind]
        show _ = Wp (c ρ2) _
        congr 1; funext z ρ3
        unfold two ret
        cases ((y.cont ρ3).bind fun p => (z.cont ρ3).bind fun q => g p q) <;> rfl
    | _ => rfl
/-! arguments, displays -/
theorem wp_nil : Wp (sNil ρ) QA = QA [] ρ := (rfl)
theorem wp_cons : Wp (sCons a ss ρ) QA = Wp (a ρ) fun x ρ => Wp (ss ρ) fun xs ρ => QA (x :: xs) ρ := by
  unfold sCons; rw [wp_bind]; congr 1; funext x ρ1; rw [wp_bind]; rfl
theorem wp_frz_d {x : D} {QD : D → Rho → Prop} : Wp (frz (.d x) ρ) QD = QD x ρ := (rfl)
def frzAt (c : Option Cell) (i : Nat) (ρ : Rho) (Q : D → Rho → Prop) : Prop :=
  match c with
  | some (.val d) => Q d ρ
  | some (.own _ d) => Q d (ρ.set i (.val d))
  | _ => False
theorem wp_frz_bv {QD : D → Rho → Prop} : Wp (frz (.bv i) ρ) QD = frzAt ρ[i]? i ρ QD := by
  unfold frz frzAt
  dsimp only
  cases ρ[i]? with
  | none => rfl
  | some c => cases c <;> rfl
theorem fa_val {Q : D → Rho → Prop} : frzAt (some (.val d)) i ρ Q = Q d ρ := (rfl)
theorem fa_own {Q : D → Rho → Prop} {p : Bool} : frzAt (some (.own p d)) i ρ Q = Q d (ρ.set i (.val d)) := (rfl)
theorem wp_frzs_nil : Wp (frzs [] ρ) QD = QD [] ρ := (rfl)
theorem wp_frzs_cons {x : Vl} {xs : List Vl} : Wp (frzs (x :: xs) ρ) QD = Wp (frz x ρ) fun d ρ => Wp (frzs xs ρ) fun ds ρ => QD (d :: ds) ρ := by
  show Wp ((frz x ρ).bind _) QD = _
  rw [wp_bind]; congr 1; funext d ρ1; rw [wp_bind]; rfl
theorem wp_tup : Wp (sTup ss ρ) Q = Wp (ss ρ) fun xs ρ => Wp (frzs xs ρ) fun ds ρ => if szOk ds.length = true then Q (.d (.tuple ds)) ρ else False := by
  unfold sTup; rw [wp_bind]; congr 1; funext xs ρ1; rw [wp_bind]; congr 1; funext ds ρ2; rw [wp_ite]; rfl
theorem wp_lst : Wp (sLst ss ρ) QF = Wp (ss ρ) fun xs ρ => Wp (frzs xs ρ) fun ds ρ => if szOk ds.length = true then QF (.fr (.list ds)) ρ else False := by
  unfold sLst; rw [wp_bind]; congr 1; funext xs ρ1; rw [wp_bind]; congr 1; funext ds ρ2; rw [wp_ite]; rfl
theorem wp_fun {f : List D → Option D} : Wp (sFun f ss ρ) Q = Wp (ss ρ) fun xs ρ => WpO ((conts ρ xs).bind f) fun z => Q (.d z) ρ := by
  unfold sFun; rw [wp_bind]; congr 1; funext xs ρ1
  cases (conts ρ1 xs).bind f <;> rfl
theorem wp_funF {f : List D → Option D} : Wp (sFunF f ss ρ) QF = Wp (ss ρ) fun xs ρ => WpO ((conts ρ xs).bind f) fun z => QF (.fr z) ρ := by
  unfold sFunF; rw [wp_bind]; congr 1; funext xs ρ1
  cases (conts ρ1 xs).bind f <;> rfl
theorem conts_nil : conts ρ [] = some [] := (rfl)
theorem conts_cons {x : Vl} {xs : List Vl} : conts ρ (x :: xs) = (x.cont ρ).bind fun d => (conts ρ xs).map fun ds => d :: ds := (rfl)
theorem wp_unF : Wp (unF sf ρ) Q = Wp (sf ρ) fun r ρ => match r with | .v x => Q x ρ | .fr d => Q (.d d) ρ := by
  unfold unF; rw [wp_bind]; congr 1; funext r ρ1; cases r <;> rfl
theorem wp_liF : Wp (liF a ρ) QF = Wp (a ρ) fun x ρ => QF (.v x) ρ := by unfold liF; rw [wp_bind]; rfl
/-! statements -/
theorem wp_nx : Wp (sNx ρ) QS = QS .nx ρ := (rfl)
theorem wp_sbad : Wp (sBad ρ) QS = False := (rfl)
theorem wp_seq : Wp (sSeq s t ρ) QS = Wp (s ρ) fun f ρ => match f with | .nx => Wp (t ρ) QS | f => QS f ρ := by
  unfold sSeq; rw [wp_bind]; congr 1; funext f ρ1; cases f <;> rfl
theorem wp_ifS : Wp (sIfS c s t ρ) QS = Wp (asB c ρ) fun k ρ => if k = true then Wp (s ρ) QS else Wp (t ρ) QS := by
  unfold sIfS; rw [wp_bind]; congr 1; funext k ρ1; cases k <;> rfl
theorem wp_ret : Wp (sRet a ρ) QS = Wp (a ρ) fun x ρ => Wp (frz x ρ) fun d ρ => QS (.rt d) ρ := by
  unfold sRet; rw [wp_bind]; congr 1; funext x ρ1; rw [wp_bind]; rfl
theorem wp_exp : Wp (sExp a ρ) QS = Wp (a ρ) fun _ ρ => QS .nx ρ := by unfold sExp; rw [wp_bind]; rfl
def putOk (c : Option Cell) : Bool :=
  match c with
  | some (Cell.own true _) => false
  | some (Cell.lck _ _) => false
  | some _ => true
  | none => false
theorem wp_put {x : Cell} : Wp (put i x ρ) QS = if putOk ρ[i]? = true then QS .nx (ρ.set i x) else False := by
  unfold put putOk
  cases ρ[i]? with
  | none => rfl
  | some c =>
    cases c with
    | own p d => cases p <;> rfl
    | _ => rfl
theorem wp_asg : Wp (sAsg i sf ρ) QS = Wp (sf ρ) fun r ρ => match r with | .v x => Wp (frz x ρ) fun d ρ => Wp (put i (.val d) ρ) QS | .fr d => Wp (put i (.own false d) ρ) QS := by
  unfold sAsg; rw [wp_bind]; congr 1; funext r ρ1
  cases r with
  | v x => exact wp_bind
  | fr d => rfl
theorem wp_thenG {r : Rs Fl} {k : Rho → Rs Fl} : Wp (thenG r k) QS = Wp r fun f ρ => match f with | .nx => Wp (k ρ) QS | _ => False := by
  cases r with
  | ok f ρ => cases f <;> rfl
  | _ => rfl
theorem wp_asgT {st : D → Rho → Rs Fl} : Wp (sAsgT st a ρ) QS = Wp (a ρ) fun x ρ => Wp (frz x ρ) fun d ρ => Wp (st d ρ) fun f ρ => match f with | .nx => QS .nx ρ | _ => False := by
  unfold sAsgT; rw [wp_bind]; congr 1; funext x ρ1; rw [wp_bind]; congr 1; funext d ρ2; rw [wp_thenG]; congr 1
theorem wp_gN : Wp (gN i d ρ) QS = Wp (put i (.val d) ρ) QS := (rfl)
theorem wp_gsN : Wp (gsN [] ρ) QS = QS .nx ρ := (rfl)
theorem wp_gsC {f : D → Rho → Rs Fl} {fs : List D → Rho → Rs Fl} {ds : List D} : Wp (gsC f fs (d :: ds) ρ) QS = Wp (f d ρ) fun r ρ => match r with | .nx => Wp (fs ds ρ) QS | _ => False := by
  unfold gsC; exact wp_thenG
theorem wp_gTpT {n : Nat} {fs : List D → Rho → Rs Fl} {ds : List D} : Wp (gTp n fs (.tuple ds) ρ) QS = if ds.length = n then Wp (fs ds ρ) QS else False := by
  unfold gTp; show Wp (if ds.length = n then fs ds ρ else .bad) QS = _; rw [wp_iteP]; rfl
theorem wp_gTpL {n : Nat} {fs : List D → Rho → Rs Fl} {ds : List D} : Wp (gTp n fs (.list ds) ρ) QS = if ds.length = n then Wp (fs ds ρ) QS else False := by
  unfold gTp; show Wp (if ds.length = n then fs ds ρ else .bad) QS = _; rw [wp_iteP]; rfl
theorem wp_par {j : Nat} : Wp (sPar i j ss ρ) QS = Wp (ss ρ) fun xs ρ => Wp (frzs xs ρ) fun ds ρ => Wp (put2 i j ds ρ) QS := by
  unfold sPar; rw [wp_bind]; congr 1; funext x ρ1; rw [wp_bind]
theorem wp_put2 {j : Nat} {x y : D} : Wp (put2 i j [x, y] ρ) QS = Wp (put i (.val x) ρ) fun f ρ => match f with | .nx => Wp (put j (.val y) ρ) QS | _ => False := by
  unfold put2; exact wp_thenG
theorem wp_for {it : Rho → Rs (List D)} {st : D → Rho → Rs Fl} : Wp (sFor it st s ρ) QS = Wp (it ρ) fun ds ρ => Wp (sLoop st s ds ρ) QS := by unfold sFor; rw [wp_bind]
theorem wp_loop_nil {st : D → Rho → Rs Fl} : Wp (sLoop st s [] ρ) QS = QS .nx ρ := (rfl)
theorem wp_loop_cons {st : D → Rho → Rs Fl} {ds : List D} : Wp (sLoop st s (d :: ds) ρ) QS = Wp (st d ρ) fun r ρ => match r with
    | .nx => Wp (s ρ) fun f ρ => match f with
      | .nx => Wp (sLoop st s ds ρ) QS
      | .ct => Wp (sLoop st s ds ρ) QS
      | .bk => QS .nx ρ
      | .rt d => QS (.rt d) ρ
    | _ => False := by
  show Wp (thenG (st d ρ) _) QS = _
  rw [wp_thenG]; congr 1; funext r ρ1
  cases r with
  | nx =>
    show Wp ((s ρ1).bind _) QS = Wp (s ρ1) _
    rw [wp_bind]; congr 1; funext f ρ2; cases f <;> rfl
  | _ => rfl
def augAt (c : Option Cell) (Q : D → Prop) : Prop :=
  match c with
  | some (Cell.val x) => Q x
  | _ => False
theorem aa_val {Q : D → Prop} : augAt (some (.val d)) Q = Q d := (rfl)
theorem wp_aug {op : Operator} : Wp (sAug i op e ρ) QS = augAt ρ[i]? fun x => Wp (e ρ) fun y ρ => WpO ((y.cont ρ).bind fun y => augD op x y) fun z => Wp (put i (.val z) ρ) QS := by
  unfold sAug augAt
  cases ρ[i]? with
  | none => rfl
  | some c =>
    cases c with
    | val x =>
      show Wp ((e ρ).bind _) QS = Wp (e ρ) _
      rw [wp_bind]; congr 1; funext y ρ1
      cases (y.cont ρ1).bind fun y => augD op x y <;> rfl
    | _ => rfl
theorem wp_setIx {ix : Rho → Rs Vl} : Wp (sSetIx i ix e ρ) QS = Wp (e ρ) fun x ρ => Wp (frz x ρ) fun d ρ => if (ownList ρ i).isSome = true then Wp (ix ρ) fun y ρ => WpO (y.cont ρ) fun k => match k with | .int k => Wp (setAt ρ i k d) QS | _ => False else False := by
  unfold sSetIx
  rw [wp_bind]; congr 1; funext x ρ1
  rw [wp_bind]; congr 1; funext d ρ2
  rw [wp_ite]
  congr 1
  rw [wp_bind]; congr 1; funext y ρ3
  cases y.cont ρ3 with
  | none => rfl
  | some z => cases z <;> rfl
theorem wp_setAt {k : Int} : Wp (setAt ρ i k d) QS = WpO (ownList ρ i) fun q => WpO (ixN q.2.length k) fun j => QS .nx (ρ.set i (.own q.1 (.list (q.2.set j d)))) := by
  unfold setAt
  cases ownList ρ i with
  | none => rfl
  | some q =>
    obtain ⟨p, ys⟩ := q
    show Wp (match ixN ys.length k with | some j => _ | none => _) QS = WpO (ixN ys.length k) _
    cases ixN ys.length k <;> rfl
theorem wp_mut {f : List D → List D → Option (List D × D)} : Wp (sMut i f ss ρ) Q = if (ownList ρ i).isSome = true then Wp (ss ρ) fun xs ρ => Wp (frzs xs ρ) fun ds ρ => WpO (ownList ρ i) fun q => WpO (f q.2 ds) fun r => Q (.d r.2) (ρ.set i (.own q.1 (.list r.1))) else False := by
  unfold sMut
  rw [wp_ite]
  congr 1
  rw [wp_bind]; congr 1; funext x ρ1
  rw [wp_bind]; congr 1; funext d ρ2
  unfold sMut.mutNow
  cases ownList ρ2 i with
  | none => rfl
  | some q =>
    obtain ⟨p, ys⟩ := q
    show Wp (match f ys d with | some (zs, z) => _ | none => _) Q = WpO (f ys d) _
    cases f ys d <;> rfl
/-! what is walked; comprehensions -/
theorem wp_it : Wp (sIt a ρ) QD = Wp (a ρ) fun x ρ => Wp (frz x ρ) fun d ρ => WpO (walkD d) fun ds => QD ds ρ := by
  unfold sIt; rw [wp_bind]; congr 1; funext x ρ1; rw [wp_bind]; congr 1; funext d ρ2; exact wp_ofO
theorem wp_rng : Wp (sRng ss ρ) QD = Wp (ss ρ) fun xs ρ => WpO ((intsV ρ xs).bind rngOf) fun ds => QD ds ρ := by
  unfold sRng; rw [wp_bind]; congr 1; funext x ρ1; exact wp_ofO
theorem wp_enum : Wp (one1 enumD ss ρ) QD = Wp (ss ρ) fun xs ρ => Wp (frzs xs ρ) fun ds ρ => match ds with | [d] => WpO ((itemsD d).map enumD) fun ds => QD ds ρ | _ => False := by
  unfold one1; rw [wp_bind]; congr 1; funext x ρ1; rw [wp_bind]; congr 1; funext ds ρ2
  match ds with
  | [] => rfl
  | [d] => exact wp_ofO
  | _ :: _ :: _ => rfl
theorem wp_lc {it : Rho → Rs (List D)} {st : D → Rho → Rs Fl} {tt : Rho → Rs Bool} {vs : List Nat} : Wp (sLc it st tt e vs ρ) QF = Wp (it ρ) fun ds ρ => if allVal ρ vs = true then Wp (sGather st tt e vs ds [] (wipeR ρ vs)) fun ys ρ' => QF (.fr (.list ys)) (backR ρ vs ρ') else False := by
  unfold sLc; rw [wp_bind]; congr 1; funext x ρ1; rw [wp_ite]; congr 1; rw [wp_okB]; rfl
theorem wp_gat_nil {st : D → Rho → Rs Fl} {tt : Rho → Rs Bool} {vs : List Nat} {acc : List D} : Wp (sGather st tt e vs [] acc ρ) QD = QD acc ρ := (rfl)
theorem wp_gat_cons {st : D → Rho → Rs Fl} {tt : Rho → Rs Bool} {vs : List Nat} {ds acc : List D} : Wp (sGather st tt e vs (d :: ds) acc ρ) QD = Wp (st d ρ) fun f ρ => match f with
    | .nx => Wp (tt ρ) fun k ρ => if k = true then Wp (e ρ) fun x ρ => Wp (frz x ρ) fun y ρ => if (allVal ρ vs && decide (acc.length < sizeLine)) = true then Wp (sGather st tt e vs ds (acc ++ [y]) (wipeR ρ vs)) QD else False
      else if allVal ρ vs = true then Wp (sGather st tt e vs ds acc (wipeR ρ vs)) QD else False
    | _ => False := by
  show Wp (sGather.thenG' (st d ρ) _) QD = _
  cases st d ρ with
  | err => rfl
  | bad => rfl
  | ok f ρ1 =>
    cases f with
    | nx =>
      show Wp (okB (tt ρ1) _) QD = Wp (tt ρ1) _
      rw [wp_okB]; congr 1; funext k ρ2
      cases k with
      | false => show Wp (if allVal ρ2 vs = true then _ else _) QD = _; rw [wp_ite]; rfl
      | true =>
        show Wp (okB (e ρ2) _) QD = _
        rw [wp_okB]
        show _ = Wp (e ρ2) _
        congr 1; funext x ρ3
        rw [wp_okB]; congr 1; funext y ρ4; rw [wp_ite]; rfl
    | _ => rfl
theorem wp_yes : Wp (sYes ρ) QB = QB true ρ := (rfl)
theorem wp_slice {lo hi : Option (Rho → Rs Vl)} : Wp (sSl a lo hi ρ) QF = Wp (a ρ) fun x ρ => Wp (sPart lo ρ) fun l ρ => Wp (sPart hi ρ) fun h ρ => Wp (slOf ρ (x.cont ρ) l h) QF := by
  unfold sSl; rw [wp_bind]; congr 1; funext x ρ1; rw [wp_bind]; congr 1; funext l ρ2; rw [wp_bind]
/-! calls -/
theorem wp_call {φ : Fn} : Wp (sCall φ ss ρ) Q = Wp (ss ρ) fun xs ρ => Wp (frzs xs ρ) fun ds ρ => WpF (φ ds) fun d _ => Q (.d d) ρ := by
  unfold sCall; rw [wp_bind]; congr 1; funext xs ρ1; rw [wp_bind]; congr 1; funext ds ρ2
  unfold callR
  cases φ ds <;> rfl
theorem wpf_def {n : Nat} {ms : List Bool} {ds : List D} {Q : D → List Cell → Prop} : WpF (defR n ms s ds) Q = if ds.length = ms.length then Wp (s (initR n ms ds)) fun f ρ => match f with
    | .rt d => Q d ((ρ.take ms.length).map outC)
    | .nx => Q .none ((ρ.take ms.length).map outC)
    | _ => False else False := by
  unfold defR
  split
  · cases s (initR n ms ds) with
    | ok f ρ => cases f <;> rfl
    | _ => rfl
  · rfl
end
end L3
/-! L3P, part 2: operators on values, calls that hand over, draws. -/
namespace L3
open PySem PySem.Spec PyProof.Rows L2

theorem bin_add {i j : Int} : binD .Add (.int i) (.int j) = some (.int (i + j)) := (rfl)
theorem bin_sub {i j : Int} : binD .Sub (.int i) (.int j) = some (.int (i - j)) := (rfl)
theorem bin_mul {i j : Int} : binD .Mult (.int i) (.int j) = if (inW i || inW j) = true then some (.int (i * j)) else none := (rfl)
theorem bin_fdiv {i j : Int} : binD .FloorDiv (.int i) (.int j) = if divOk j = true then some (.int (i.fdiv j)) else none := (rfl)
theorem bin_mod {i j : Int} : binD .Mod (.int i) (.int j) = if (j != 0) = true then some (.int (i.fmod j)) else none := (rfl)
theorem bin_pow {i j : Int} : binD .Pow (.int i) (.int j) = if powOk i j = true then some (.int (i ^ j.toNat)) else none := (rfl)
theorem neg_intD {i : Int} : negD (.int i) = some (.int (-i)) := (rfl)
theorem lt_int' {i j : Int} : ltD (.int i) (.int j) = some (.bool (decide (i < j))) := (rfl)
theorem le_int' {i j : Int} : leD (.int i) (.int j) = some (.bool (decide (i ≤ j))) := (rfl)
theorem gt_int' {i j : Int} : gtD (.int i) (.int j) = some (.bool (decide (j < i))) := (rfl)
theorem ge_int' {i j : Int} : geD (.int i) (.int j) = some (.bool (decide (j ≤ i))) := (rfl)
theorem eq_int' {i j : Int} : eqD (.int i) (.int j) = some (.bool (decide (i = j))) := by
  have h : (i == j) = decide (i = j) := by by_cases e : i = j <;> simp [e]
  simp [eqD, eqOk, PyData.plain, PyData.depth, PyData.eqv, h]
theorem ne_int' {i j : Int} : neD (.int i) (.int j) = some (.bool (!decide (i = j))) := by
  have h : (i == j) = decide (i = j) := by by_cases e : i = j <;> simp [e]
  simp [neD, eqOk, PyData.plain, PyData.depth, PyData.eqv, h]
theorem eq_bool' {i j : Bool} : eqD (.bool i) (.bool j) = some (.bool (i == j)) := by
  simp [eqD, eqOk, PyData.plain, PyData.depth, PyData.eqv]
theorem ne_bool' {i j : Bool} : neD (.bool i) (.bool j) = some (.bool (!(i == j))) := by
  simp [neD, eqOk, PyData.plain, PyData.depth, PyData.eqv]
theorem is_none' {x : D} : isD x .none = some (.bool (isNon x)) := by cases x <;> rfl
theorem isn_none' {x : D} : isnD x .none = some (.bool (!isNon x)) := by cases x <;> rfl
theorem wpo_ite {α : Type} {c : Bool} {x y : Option α} {Q : α → Prop} : WpO (if c = true then x else y) Q = if c = true then WpO x Q else WpO y Q := by cases c <;> rfl
theorem wpo_iteP {α : Type} {c : Prop} [Decidable c] {x y : Option α} {Q : α → Prop} : WpO (if c then x else y) Q = if c then WpO x Q else WpO y Q := by split <;> rfl
theorem wpo_map {α β : Type} {o : Option α} {f : α → β} {Q : β → Prop} : WpO (o.map f) Q = WpO o fun a => Q (f a) := by cases o <;> rfl
theorem wpo_bind {α β : Type} {o : Option α} {f : α → Option β} {Q : β → Prop} : WpO (o.bind f) Q = WpO o fun a => WpO (f a) Q := by cases o <;> rfl
theorem isi_one {t : Ty} {d : D} : isiD [t] d = (isT t d).map .bool := (rfl)
theorem isi_two {t t' : Ty} {d : D} : isiD [t, t'] d = match isT t d with
    | some true => some (.bool true)
    | some false => (isT t' d).map .bool
    | none => none := (rfl)
theorem lenD_list {xs : List D} : lenD [.list xs] = some (.int xs.length) := (rfl)
theorem lenD_tuple {xs : List D} : lenD [.tuple xs] = some (.int xs.length) := (rfl)
theorem szOk_small {n : Nat} (h : n ≤ 1000000) : szOk n = true := by
  rw [szOk_iff, sizeLine_eq]; omega
theorem szOk0 : szOk 0 = true := szOk_small (by omega)
theorem szOk1 : szOk 1 = true := szOk_small (by omega)
theorem szOk2 : szOk 2 = true := szOk_small (by omega)
theorem szOk3 : szOk 3 = true := szOk_small (by omega)
theorem szOk4 : szOk 4 = true := szOk_small (by omega)
theorem szOk5 : szOk 5 = true := szOk_small (by omega)
theorem szOk6 : szOk 6 = true := szOk_small (by omega)
theorem szOk7 : szOk 7 = true := szOk_small (by omega)
theorem szOk8 : szOk 8 = true := szOk_small (by omega)
theorem ix_listD {xs : List D} {i : Int} : ixD (.list xs) (.int i) = atI xs i := by
  cases xs <;> rfl
theorem ix_tupD {xs : List D} {i : Int} : ixD (.tuple xs) (.int i) = atI xs i := (rfl)
theorem own_list {ρ : Rho} {i : Nat} {p : Bool} {ds : List D} (h : ρ[i]? = some (.own p (.list ds))) : ownList ρ i = some (p, ds) := by unfold ownList; rw [h]
def ownLC (c : Option Cell) : Option (Bool × List D) :=
  match c with
  | some (Cell.own p (.list ds)) => some (p, ds)
  | _ => none
theorem own_def {ρ : Rho} {i : Nat} : ownList ρ i = ownLC ρ[i]? := (rfl)
theorem olc_own {p : Bool} {ds : List D} : ownLC (some (.own p (.list ds))) = some (p, ds) := (rfl)
theorem putOk_v {d : D} : putOk (some (.val d)) = true := (rfl)
theorem putOk_o {d : D} : putOk (some (.own false d)) = true := (rfl)
theorem putOk_n : putOk (some .no) = true := (rfl)
/-- a slot that holds a value or nothing -/
def Cell.of : Option D → Cell
  | none => .no
  | some d => .val d
theorem putOk_of {x : Option D} : putOk (some (Cell.of x)) = true := by cases x <;> rfl
/-! calls that hand over -/
theorem wp_callO {ms : List Bool} {φ : Fn} {ss : Rho → Rs (List Vl)} {ρ : Rho} {Q : Vl → Rho → Prop} : Wp (sCallO ms φ ss ρ) Q = Wp (ss ρ) fun xs ρ => Wp (prep ms xs ρ) fun pr ρ => Wp (callRO φ pr ρ) Q := by
  unfold sCallO; rw [wp_bind]; congr 1; funext xs ρ1; rw [wp_bind]
theorem wp_prep_nil {ρ : Rho} {Q : List (D ⊕ Nat) → Rho → Prop} : Wp (prep [] [] ρ) Q = Q [] ρ := (rfl)
theorem wp_prep_f {ms : List Bool} {x : Vl} {xs : List Vl} {ρ : Rho} {Q : List (D ⊕ Nat) → Rho → Prop} : Wp (prep (false :: ms) (x :: xs) ρ) Q = Wp (frz x ρ) fun d ρ => Wp (prep ms xs ρ) fun r ρ => Q (.inl d :: r) ρ := by
  show Wp ((frz x ρ).bind _) Q = _
  rw [wp_bind]; congr 1; funext d ρ1; rw [wp_bind]; rfl
theorem wp_prep_t {ms : List Bool} {i : Nat} {xs : List Vl} {ρ : Rho} {Q : List (D ⊕ Nat) → Rho → Prop} : Wp (prep (true :: ms) (.bv i :: xs) ρ) Q = Wp (prep ms xs ρ) fun r ρ => Q (.inr i :: r) ρ := by
  show Wp ((prep ms xs ρ).bind _) Q = _
  rw [wp_bind]; rfl
theorem wp_callRO {φ : Fn} {pr : List (D ⊕ Nat)} {ρ : Rho} {Q : Vl → Rho → Prop} : Wp (callRO φ pr ρ) Q = if (idx pr).Nodup then WpO (ph2 ρ pr) fun ds => WpF (φ ds) fun d outs => Q (.d d) (setOuts pr outs ρ) else False := by
  unfold callRO
  split
  · cases ph2 ρ pr with
    | none => rfl
    | some ds =>
      show Wp (match φ ds with | .ok d outs => _ | _ => _) Q = WpF (φ ds) _
      cases φ ds <;> rfl
  · rfl
theorem idx_nil : idx [] = [] := (rfl)
theorem idx_l {d : D} {r : List (D ⊕ Nat)} : idx (.inl d :: r) = idx r := (rfl)
theorem idx_r {i : Nat} {r : List (D ⊕ Nat)} : idx (.inr i :: r) = i :: idx r := (rfl)
theorem ph2_nil {ρ : Rho} : ph2 ρ [] = some [] := (rfl)
theorem ph2_l {ρ : Rho} {d : D} {r : List (D ⊕ Nat)} : ph2 ρ (.inl d :: r) = (ph2 ρ r).map (d :: ·) := (rfl)
def ownAtC (c : Option Cell) : Option D :=
  match c with
  | some (.own _ d) => some d
  | _ => none
theorem oa_own {p : Bool} {d : D} : ownAtC (some (.own p d)) = some d := (rfl)
theorem ph2_r {ρ : Rho} {i : Nat} {r : List (D ⊕ Nat)} : ph2 ρ (.inr i :: r) = (ownAtC ρ[i]?).bind fun d => (ph2 ρ r).map (d :: ·) := by
  unfold ownAtC
  show (match ρ[i]? with | some (Cell.own _ d) => _ | _ => none) = _
  cases ρ[i]? with
  | none => rfl
  | some c => cases c <;> rfl
theorem so_nil {cs : List Cell} {ρ : Rho} : setOuts [] cs ρ = ρ := (rfl)
theorem so_l {d : D} {r : List (D ⊕ Nat)} {c : Cell} {cs : List Cell} {ρ : Rho} : setOuts (.inl d :: r) (c :: cs) ρ = setOuts r cs ρ := (rfl)
theorem so_r {i : Nat} {r : List (D ⊕ Nat)} {c : Cell} {cs : List Cell} {ρ : Rho} : setOuts (.inr i :: r) (c :: cs) ρ = (setOuts r cs ρ).set i (backC (some c) ρ[i]?) := (rfl)
theorem back_own {p q : Bool} {d e : D} : backC (some (.own q d)) (some (.own p e)) = .own p d := (rfl)
/-! a def's start -/
theorem wpf_go {s : Rho → Rs Fl} {n : Nat} {ms : List Bool} {ds : List D} {Q : D → List Cell → Prop} (hl : ds.length = ms.length) (h : Wp (s (initR n ms ds)) fun f ρ => match f with
    | .rt d => Q d ((ρ.take ms.length).map outC)
    | .nx => Q .none ((ρ.take ms.length).map outC)
    | _ => False) : WpF (defR n ms s ds) Q := by rw [wpf_def, if_pos hl]; exact h
theorem init_c {m : Bool} {ms : List Bool} {d : D} {ds : List D} : initC (m :: ms) (d :: ds) = (if m = true then Cell.own true d else .val d) :: initC ms ds := (rfl)
theorem init_n : initC [] [] = [] := (rfl)
theorem init_r {n : Nat} {ms : List Bool} {ds : List D} : initR n ms ds = initC ms ds ++ List.replicate (n - ms.length) .no := (rfl)
theorem outC_t {d : D} : outC (.own true d) = .own true d := (rfl)
theorem outC_f {d : D} : outC (.own false d) = .no := (rfl)
theorem outC_v {d : D} : outC (.val d) = .no := (rfl)
theorem outC_n : outC .no = .no := (rfl)

theorem at0 {α : Type} {a : α} {l : List α} : atI (a :: l) 0 = some a := by
  unfold atI ixN
  rw [if_pos (by decide), if_pos (by rw [List.length_cons]; omega)]
  rfl
theorem at1 {α : Type} {a b : α} {l : List α} : atI (a :: b :: l) 1 = some b := by
  unfold atI ixN
  rw [if_pos (by decide), if_pos (by rw [List.length_cons, List.length_cons]; omega)]
  rfl
theorem at2 {α : Type} {a b c : α} {l : List α} : atI (a :: b :: c :: l) 2 = some c := by
  unfold atI ixN
  rw [if_pos (by decide), if_pos (by rw [List.length_cons, List.length_cons, List.length_cons]; omega)]
  rfl
theorem at3 {α : Type} {a b c d : α} {l : List α} : atI (a :: b :: c :: d :: l) 3 = some d := by
  unfold atI ixN
  rw [if_pos (by decide), if_pos (by rw [List.length_cons, List.length_cons, List.length_cons, List.length_cons]; omega)]
  rfl
theorem ix40 : ixN 4 0 = some 0 := (rfl)
theorem ix41 : ixN 4 1 = some 1 := (rfl)
theorem ix42 : ixN 4 2 = some 2 := (rfl)
theorem ix43 : ixN 4 3 = some 3 := (rfl)
theorem int_int {i : Int} : L3.intD [.int i] = some (.int i) := (rfl)
theorem len_scr {ns : List Int} : lenD [scrD ns] = some (.int ns.length) := by
  show some (PyData.int ((ns.map PyData.int).length)) = _
  rw [List.length_map]
theorem ix_scr {ns : List Int} {i : Int} : ixD (scrD ns) (.int i) = (atI ns i).map .int := by
  show atI (ns.map PyData.int) i = _
  unfold atI
  rw [List.length_map]
  cases ixN ns.length i with
  | none => rfl
  | some j => exact List.getElem?_map ..

local macro_rules | `(tactic| array_get_dec) => `(tactic| simp only [L3.wp_ok, L3.wp_bad, L3.wp_seq, L3.wp_ifS, L3.wp_ret, L3.wp_exp, L3.wp_asg, L3.wp_asgT, L3.wp_gN, L3.wp_gsN, L3.wp_gsC, L3.wp_gTpT, L3.wp_gTpL, L3.wp_par, L3.wp_put2, L3.wp_put, L3.putOk_v, L3.putOk_o, L3.putOk_n, L3.putOk_of, L3.wp_for, L3.wp_loop_nil, L3.wp_nx, L3.wp_sbad, L3.wp_thenG,
  L3.wp_var, L3.at_val, L3.at_own, L3.wp_c, L3.wp_bin, L3.wp_un, L3.cont_d, L3.cont_bv, L3.cont_val, L3.cont_own, L3.wp_asB, L3.wp_not, L3.wp_and, L3.wp_or, L3.wp_ifE, L3.wp_chain, L3.wp_nil, L3.wp_cons, L3.wp_frz_d, L3.wp_frz_bv, L3.fa_val, L3.fa_own, L3.wp_frzs_nil, L3.wp_frzs_cons, L3.wp_tup, L3.wp_lst, L3.wp_fun, L3.wp_funF, L3.conts_nil, L3.conts_cons, L3.wp_unF, L3.wp_liF,
  L3.wp_aug, L3.aa_val, L3.wp_setIx, L3.wp_setAt, L3.wp_mut, L3.own_def, L3.olc_own, L3.wp_it, L3.wp_rng, L3.wp_enum, L3.wp_lc, L3.wp_yes, L3.wp_slice, L3.wp_call, L3.wp_callO, L3.wp_prep_nil, L3.wp_prep_f, L3.wp_prep_t, L3.wp_callRO, L3.idx_nil, L3.idx_l, L3.idx_r, L3.ph2_nil, L3.ph2_l, L3.ph2_r, L3.oa_own, L3.so_nil, L3.so_l, L3.so_r, L3.back_own,
  L3.wpo_some, L3.wpo_none, L3.wpo_ite, L3.wpo_map, L3.wpo_bind, L3.bin_add, L3.bin_sub, L3.bin_mul, L3.bin_fdiv, L3.bin_mod, L3.bin_pow, L3.neg_intD, L3.lt_int', L3.le_int', L3.gt_int', L3.ge_int', L3.eq_int', L3.ne_int', L3.eq_bool', L3.ne_bool', L3.is_none', L3.isn_none', L3.isi_one, L3.isi_two, L3.lenD_list, L3.lenD_tuple, L3.ix_listD, L3.ix_tupD,
  L3.szOk0, L3.szOk1, L3.szOk2, L3.szOk3, L3.szOk4, L3.szOk5, L3.szOk6, L3.szOk7, L3.szOk8, L3.at0, L3.at1, L3.at2, L3.at3, L3.ix40, L3.ix41, L3.ix42, L3.ix43, L3.int_int, L3.len_scr, L3.ix_scr, L3.outC_t, L3.outC_f, L3.outC_v, L3.outC_n, List.map_cons, List.map_nil, List.take_succ_cons, List.take_zero, Int.reduceNeg,
  List.getElem?_cons_zero, List.getElem?_cons_succ, List.set_cons_zero, List.set_cons_succ, List.length_cons, List.length_nil, Option.bind_some, Option.bind_none, Option.map_some, Option.map_none, Option.isSome_some, Option.isSome_none, if_true, if_false, Bool.not_true, Bool.not_false, decide_true, decide_false, Bool.false_eq_true, Nat.reduceAdd, List.nodup_cons, List.not_mem_nil, not_false_eq_true, List.nodup_nil, and_self, and_true, true_and, ite_self, reduceIte, decide_eq_true_eq, Bool.not_eq_true'])

/-! ### draws -/
def takenB : Rho → Rs Fl :=
 (sSeq (sIfS (sBin gtD (sBin ixD (sVar 0) (sC (.int 3))) (sC (.int 0))) (sSeq (sAsg 3 (liF (sBin (binD .Mod) (sFun L3.intD (sCons (sBin ixD (sVar 0) (sC (.int 3))) sNil)) (sVar 1))))
 (sSeq (sSetIx 0 (sC (.int 3)) (sBin (binD .FloorDiv) (sBin ixD (sVar 0) (sC (.int 3))) (sVar 1)))
 (sRet (sVar 3)))) sNx)
 (sSeq (sSetIx 0 (sC (.int 1)) (sBin (binD .Add) (sBin ixD (sVar 0) (sC (.int 1))) (sC (.int 1))))
 (sSeq (sIfS (sBin gtD (sBin ixD (sVar 0) (sC (.int 1))) (sFun lenD (sCons (sBin ixD (sVar 0) (sC (.int 0))) sNil))) (sSeq (sSetIx 0 (sC (.int 2)) (sBin (binD .Mod) (sFun L3.intD (sCons (sBin (binD .Add) (sBin (binD .Mult) (sBin ixD (sVar 0) (sC (.int 2))) (sC (.int 48271))) (sC (.int 11))) sNil)) (sC (.int 2147483647))))
 (sRet (sBin (binD .Mod) (sFun L3.intD (sCons (sBin (binD .FloorDiv) (sBin ixD (sVar 0) (sC (.int 2))) (sC (.int 7))) sNil)) (sVar 1)))) sNx)
 (sSeq (sAsg 2 (liF (sBin ixD (sBin ixD (sVar 0) (sC (.int 0))) (sBin (binD .Sub) (sBin ixD (sVar 0) (sC (.int 1))) (sC (.int 1))))))
 (sSeq (sSetIx 0 (sC (.int 2)) (sBin (binD .Mod) (sFun L3.intD (sCons (sBin (binD .Add) (sBin (binD .Add) (sBin (binD .Mult) (sBin ixD (sVar 0) (sC (.int 2))) (sC (.int 48271))) (sVar 2)) (sC (.int 11))) sNil)) (sC (.int 2147483647))))
 (sSeq (sIfS (sBin geD (sVar 2) (sBin (binD .Pow) (sC (.int 10)) (sC (.int 18)))) (sSetIx 0 (sC (.int 3)) (sBin (binD .FloorDiv) (sVar 2) (sVar 1))) sNx)
 (sRet (sBin (binD .Mod) (sFun L3.intD (sCons (sVar 2) sNil)) (sVar 1)))))))))
def takenF : Fn := defR 4 [true, false] takenB
/-- a row from which one draws -/
def RowOk (r : D) : Prop := ∃ (ns : List Int) (c s q : Int), r = .list [scrD ns, .int c, .int s, .int q] ∧ 0 ≤ c
theorem taken_wp {r : D} {k : Int} {Q : D → List Cell → Prop} (hr : RowOk r) (h0 : 0 < k) (h1 : k < 1073741824) (h : ∀ d r', 0 ≤ d → d < k → RowOk r' → Q (.int d) [.own true r', .no]) : WpF (takenF [r, .int k]) Q := by
  obtain ⟨ns, c, s, q, rfl, hc⟩ := hr
  refine wpf_go rfl ?_
  unfold takenB
  rw [init_r, init_c, init_c, init_n]
  simp only [List.cons_append, List.nil_append, if_true, Bool.false_eq_true, if_false, List.length_cons, List.length_nil, Nat.reduceAdd, Nat.reduceSub, List.replicate]
  array_get_dec
  have hk : (k != 0) = true := by simp; omega
  have hd : divOk k = true := by simp [divOk]; omega
  have fm : ∀ x : Int, 0 ≤ x.fmod k ∧ x.fmod k < k := fun x => ⟨Int.fmod_nonneg_of_pos x h0, Int.fmod_lt_of_pos x h0⟩
  simp only [hk, hd, show inW 48271 = true from rfl, show divOk 7 = true from rfl, show powOk 10 18 = true from rfl, Bool.or_true, if_true, show ((2147483647 : Int) != 0) = true from rfl]
  split
  · exact h _ _ (fm _).1 (fm _).2 ⟨ns, c, s, _, rfl, hc⟩
  · split
    · exact h _ _ (fm _).1 (fm _).2 ⟨ns, _, _, q, rfl, by omega⟩
    · rename_i hlt
      have e : atI ns (c + 1 - 1) = some ns[c.toNat]! := by
        have hc' : c.toNat < ns.length := by omega
        have e1 : c + 1 - 1 = ((c.toNat : Nat) : Int) := by omega
        rw [e1]
        refine atI_nat ?_
        rw [List.getElem?_eq_getElem hc', List.getElem!_eq_getElem?_getD, List.getElem?_eq_getElem hc']
        rfl
      rw [e]
      simp only [wpo_some]
      split
      · exact h _ _ (fm _).1 (fm _).2 ⟨ns, _, _, _, rfl, by omega⟩
      · exact h _ _ (fm _).1 (fm _).2 ⟨ns, _, _, q, rfl, by omega⟩
end L3
/-! L3P, part 3: loops, comprehensions, common helpers. -/
namespace L3
open PySem PySem.Spec PyProof.Rows L2
local macro_rules | `(tactic| array_get_dec) => `(tactic| simp only [L3.wp_ok, L3.wp_bad, L3.wp_seq, L3.wp_ifS, L3.wp_ret, L3.wp_exp, L3.wp_asg, L3.wp_asgT, L3.wp_gN, L3.wp_gsN, L3.wp_gsC, L3.wp_gTpT, L3.wp_gTpL, L3.wp_par, L3.wp_put2, L3.wp_put, L3.putOk_v, L3.putOk_o, L3.putOk_n, L3.putOk_of, L3.wp_for, L3.wp_loop_nil, L3.wp_nx, L3.wp_sbad, L3.wp_thenG,
  L3.wp_var, L3.at_val, L3.at_own, L3.wp_c, L3.wp_bin, L3.wp_un, L3.cont_d, L3.cont_bv, L3.cont_val, L3.cont_own, L3.wp_asB, L3.wp_not, L3.wp_and, L3.wp_or, L3.wp_ifE, L3.wp_chain, L3.wp_nil, L3.wp_cons, L3.wp_frz_d, L3.wp_frz_bv, L3.fa_val, L3.fa_own, L3.wp_frzs_nil, L3.wp_frzs_cons, L3.wp_tup, L3.wp_lst, L3.wp_fun, L3.wp_funF, L3.conts_nil, L3.conts_cons, L3.wp_unF, L3.wp_liF,
  L3.wp_aug, L3.aa_val, L3.wp_setIx, L3.wp_setAt, L3.wp_mut, L3.own_def, L3.olc_own, L3.wp_it, L3.wp_rng, L3.wp_enum, L3.wp_lc, L3.wp_yes, L3.wp_slice, L3.wp_call, L3.wp_callO, L3.wp_prep_nil, L3.wp_prep_f, L3.wp_prep_t, L3.wp_callRO, L3.idx_nil, L3.idx_l, L3.idx_r, L3.ph2_nil, L3.ph2_l, L3.ph2_r, L3.oa_own, L3.so_nil, L3.so_l, L3.so_r, L3.back_own,
  L3.wpo_some, L3.wpo_none, L3.wpo_ite, L3.wpo_map, L3.wpo_bind, L3.bin_add, L3.bin_sub, L3.bin_mul, L3.bin_fdiv, L3.bin_mod, L3.bin_pow, L3.neg_intD, L3.lt_int', L3.le_int', L3.gt_int', L3.ge_int', L3.eq_int', L3.ne_int', L3.eq_bool', L3.ne_bool', L3.is_none', L3.isn_none', L3.isi_one, L3.isi_two, L3.lenD_list, L3.lenD_tuple, L3.ix_listD, L3.ix_tupD,
  L3.szOk0, L3.szOk1, L3.szOk2, L3.szOk3, L3.szOk4, L3.szOk5, L3.szOk6, L3.szOk7, L3.szOk8, L3.at0, L3.at1, L3.at2, L3.at3, L3.ix40, L3.ix41, L3.ix42, L3.ix43, L3.int_int, L3.len_scr, L3.ix_scr, L3.outC_t, L3.outC_f, L3.outC_v, L3.outC_n, List.map_cons, List.map_nil, List.take_succ_cons, List.take_zero, Int.reduceNeg,
  List.getElem?_cons_zero, List.getElem?_cons_succ, List.set_cons_zero, List.set_cons_succ, List.length_cons, List.length_nil, Option.bind_some, Option.bind_none, Option.map_some, Option.map_none, Option.isSome_some, Option.isSome_none, if_true, if_false, Bool.not_true, Bool.not_false, decide_true, decide_false, Bool.false_eq_true, Nat.reduceAdd, List.nodup_cons, List.not_mem_nil, not_false_eq_true, List.nodup_nil, and_self, and_true, true_and, ite_self, reduceIte, decide_eq_true_eq, Bool.not_eq_true'])

theorem of_some {d : D} : Cell.val d = Cell.of (some d) := (rfl)
theorem of_none : Cell.no = Cell.of none := (rfl)
section
variable {tg : D → Rho → Rs Fl} {b : Rho → Rs Fl} {Q : Fl → Rho → Prop}
theorem loop_wp (I : List D → Rho → Prop) (step : ∀ d ds ρ, I (d :: ds) ρ → Wp (tg d ρ) fun f ρ1 => f = .nx ∧ Wp (b ρ1) fun f ρ2 => match f with
    | .nx => I ds ρ2
    | .ct => I ds ρ2
    | .bk => Q .nx ρ2
    | .rt v => Q (.rt v) ρ2) (fin : ∀ ρ, I [] ρ → Q .nx ρ) : ∀ ds ρ, I ds ρ → Wp (sLoop tg b ds ρ) Q
  | [], ρ, h => fin ρ h
  | d :: ds, ρ, h => by
    rw [wp_loop_cons]
    refine (step d ds ρ h).to fun f ρ1 q => ?_
    obtain ⟨rfl, q⟩ := q
    refine q.to fun f ρ2 q => ?_
    cases f with
    | nx => exact loop_wp I step fin ds ρ2 q
    | ct => exact loop_wp I step fin ds ρ2 q
    | bk => exact q
    | rt v => exact q
/-- for d in ds: if p: return v -/
theorem loop_find {ds : List D} {ρ : Rho} (S : Rho → Prop) (p : Nat → Bool) (v : Nat → D) (hs : ∀ j d, ds[j]? = some d → ∀ ρ0, S ρ0 → Wp (tg d ρ0) fun f ρ1 => f = .nx ∧ Wp (b ρ1) fun f ρ2 => S ρ2 ∧ f = if p j = true then Fl.rt (v j) else .nx)
    (h0 : S ρ) (hr : ∀ j, j < ds.length → p j = true → (∀ k < j, p k = false) → ∀ ρ', S ρ' → Q (.rt (v j)) ρ') (hn : (∀ j < ds.length, p j = false) → ∀ ρ', S ρ' → Q .nx ρ') : Wp (sLoop tg b ds ρ) Q := by
  refine loop_wp (fun r ρ' => ∃ j, r = ds.drop j ∧ j ≤ ds.length ∧ S ρ' ∧ ∀ k < j, p k = false) ?_ ?_ ds ρ ⟨0, rfl, Nat.zero_le _, h0, fun k h => absurd h (Nat.not_lt_zero _)⟩
  · rintro d r ρ' ⟨j, e, hj, hS, hk⟩
    have hlt : j < ds.length := by
      rcases Nat.lt_or_ge j ds.length with h | h
      · exact h
      · rw [List.drop_eq_nil_of_le h] at e; cases e
    have ed : ds[j]? = some d := by
      rw [← List.head?_drop, ← e]; rfl
    have er : r = ds.drop (j + 1) := by
      rw [drop_at ed] at e
      injection e
    refine (hs j d ed ρ' hS).to fun f ρ1 q => ⟨q.1, q.2.to fun f ρ2 q => ?_⟩
    obtain ⟨hS2, rfl⟩ := q
    cases hp : p j with
    | true => rw [if_pos rfl]; exact hr j hlt hp hk ρ2 hS2
    | false =>
      rw [if_neg (by decide)]
      exact ⟨j + 1, er, hlt, hS2, fun k hk' => by
        rcases Nat.lt_succ_iff_lt_or_eq.mp hk' with h | rfl
        · exact hk k h
        · exact hp⟩
  · rintro ρ' ⟨j, e, hj, hS, hk⟩
    have : ds.length ≤ j := by
      have := congrArg List.length e
      rw [List.length_drop] at this
      simp at this
      omega
    exact hn (fun k h => hk k (by omega)) ρ' hS
/-- for d in ds: (the state goes on) -/
theorem loop_fold {ds : List D} {ρ : Rho} (S : Nat → Rho → Prop) (hs : ∀ j d, ds[j]? = some d → ∀ ρ0, S j ρ0 → Wp (tg d ρ0) fun f ρ1 => f = .nx ∧ Wp (b ρ1) fun f ρ2 => (f = .nx ∨ f = .ct) ∧ S (j + 1) ρ2)
    (h0 : S 0 ρ) (hn : ∀ ρ', S ds.length ρ' → Q .nx ρ') : Wp (sLoop tg b ds ρ) Q := by
  refine loop_wp (fun r ρ' => ∃ j, r = ds.drop j ∧ j ≤ ds.length ∧ S j ρ') ?_ ?_ ds ρ ⟨0, rfl, Nat.zero_le _, h0⟩
  · rintro d r ρ' ⟨j, e, hj, hS⟩
    have hlt : j < ds.length := by
      rcases Nat.lt_or_ge j ds.length with h | h
      · exact h
      · rw [List.drop_eq_nil_of_le h] at e; cases e
    have ed : ds[j]? = some d := by
      rw [← List.head?_drop, ← e]; rfl
    have er : r = ds.drop (j + 1) := by
      rw [drop_at ed] at e
      injection e
    refine (hs j d ed ρ' hS).to fun f ρ1 q => ⟨q.1, q.2.to fun f ρ2 q => ?_⟩
    rcases q.1 with rfl | rfl
    · exact ⟨j + 1, er, hlt, q.2⟩
    · exact ⟨j + 1, er, hlt, q.2⟩
  · rintro ρ' ⟨j, e, hj, hS⟩
    have : ds.length ≤ j := by
      have := congrArg List.length e
      rw [List.length_drop] at this
      simp at this
      omega
    have : j = ds.length := by omega
    subst this
    exact hn ρ' hS
end
section
variable {tg : D → Rho → Rs Fl} {tt : Rho → Rs Bool} {e : Rho → Rs Vl} {vs : List Nat} {Q : List D → Rho → Prop}
theorem gat_wp (I : List D → List D → Rho → Prop) (step : ∀ d ds acc ρ, I (d :: ds) acc ρ → Wp (tg d ρ) fun f ρ1 => f = .nx ∧ Wp (tt ρ1) fun k ρ2 => if k = true then Wp (e ρ2) fun x ρ3 => Wp (frz x ρ3) fun y ρ4 => allVal ρ4 vs = true ∧ acc.length < sizeLine ∧ I ds (acc ++ [y]) (wipeR ρ4 vs)
      else allVal ρ2 vs = true ∧ I ds acc (wipeR ρ2 vs)) (fin : ∀ acc ρ, I [] acc ρ → Q acc ρ) : ∀ ds acc ρ, I ds acc ρ → Wp (sGather tg tt e vs ds acc ρ) Q
  | [], acc, ρ, h => fin acc ρ h
  | d :: ds, acc, ρ, h => by
    rw [wp_gat_cons]
    refine (step d ds acc ρ h).to fun f ρ1 q => ?_
    obtain ⟨rfl, q⟩ := q
    refine q.to fun k ρ2 q => ?_
    cases k with
    | false =>
      rw [if_neg (by decide)] at q ⊢
      rw [if_pos q.1]
      exact gat_wp I step fin ds acc _ q.2
    | true =>
      rw [if_pos rfl] at q ⊢
      refine q.to fun x ρ3 q => q.to fun y ρ4 q => ?_
      rw [if_pos (by rw [q.1, decide_eq_true q.2.1]; rfl)]
      exact gat_wp I step fin ds _ _ q.2.2
/-- [g d for d in ds if p d], nothing else happens -/
theorem gat_pure {ds : List D} {ρ : Rho} (p : D → Bool) (g : D → D) (hs : ∀ d ∈ ds, Wp (tg d ρ) fun f ρ1 => f = .nx ∧ allVal ρ1 vs = true ∧ wipeR ρ1 vs = ρ ∧ Wp (tt ρ1) fun k ρ2 => ρ2 = ρ1 ∧ k = p d ∧ (p d = true → Wp (e ρ1) fun x ρ3 => ρ3 = ρ1 ∧ x = .d (g d))) (hl : ds.length ≤ sizeLine)
    (h : Q ((ds.filter p).map g) ρ) : Wp (sGather tg tt e vs ds [] ρ) Q := by
  refine gat_wp (fun r acc ρ' => ρ' = ρ ∧ ∃ pre, ds = pre ++ r ∧ acc = (pre.filter p).map g) ?_ ?_ ds [] ρ ⟨rfl, [], rfl, rfl⟩
  · rintro d r acc ρ' ⟨rfl, pre, e1, rfl⟩
    have hm : d ∈ ds := by rw [e1]; simp
    refine (hs d hm).to fun f ρ1 q => ?_
    obtain ⟨rfl, av, wi, q⟩ := q
    refine ⟨rfl, q.to fun k ρ2 q => ?_⟩
    obtain ⟨rfl, rfl, q⟩ := q
    have ee : ds = (pre ++ [d]) ++ r := by rw [e1]; simp
    cases hp : p d with
    | true =>
      rw [if_pos rfl]
      refine (q hp).to fun x ρ3 q => ?_
      obtain ⟨rfl, rfl⟩ := q
      rw [wp_frz_d]
      refine ⟨av, ?_, wi, pre ++ [d], ee, ?_⟩
      · have l1 : (List.map g (List.filter p pre)).length ≤ pre.length := by rw [List.length_map]; exact List.length_filter_le _ _
        have l2 : pre.length < ds.length := by rw [e1, List.length_append, List.length_cons]; omega
        omega
      · rw [List.filter_append, List.map_append]
        simp [hp]
    | false =>
      rw [if_neg (by decide)]
      refine ⟨av, wi, pre ++ [d], ee, ?_⟩
      rw [List.filter_append, List.map_append]
      simp [hp]
  · rintro acc ρ' ⟨rfl, pre, e1, rfl⟩
    rw [List.append_nil] at e1
    subst e1
    exact h
end

/-! ### whole numbers in tuples and lists -/
def tupI (l : List Int) : D := .tuple (l.map .int)
def lstI (l : List Int) : D := .list (l.map .int)
theorem at_ints {l : List Int} {k : Int} (h0 : 0 ≤ k) (h1 : k < l.length) : atI (l.map PyData.int) k = some (.int (l.getD k.toNat 0)) := by
  have hk : k.toNat < l.length := by omega
  have e : k = ((k.toNat : Nat) : Int) := by omega
  rw [e]
  refine atI_nat ?_
  rw [List.getElem?_map, List.getElem?_eq_getElem hk]
  show some (PyData.int l[k.toNat]) = _
  rw [Int.toNat_natCast, List.getD_eq_getElem?_getD, List.getElem?_eq_getElem hk]
  rfl
theorem len_tupI {l : List Int} (h : l.length ≤ 1000000) : lenD [tupI l] = some (.int l.length) := by
  show some (PyData.int ((l.map PyData.int).length : Nat)) = _
  rw [List.length_map]
theorem len_lstI {l : List Int} (h : l.length ≤ 1000000) : lenD [lstI l] = some (.int l.length) := by
  show some (PyData.int ((l.map PyData.int).length : Nat)) = _
  rw [List.length_map]
theorem rng1 {j : Int} (h0 : -(2 ^ 62) ≤ j) (h1 : j < 2 ^ 62) : rngOf [j] = some (rngD 0 1 j.toNat) := by
  show (if in62 j = true then _ else _) = _
  rw [if_pos (in62_iff.mpr ⟨h0, h1⟩)]
theorem rng2 {i j : Int} (h0 : -(2 ^ 62) ≤ i) (h1 : i < 2 ^ 62) (h2 : -(2 ^ 62) ≤ j) (h3 : j < 2 ^ 62) : rngOf [i, j] = some (rngD i 1 (j - i).toNat) := by
  show (if (in62 i && in62 j) = true then _ else _) = _
  rw [in62_iff.mpr ⟨h0, h1⟩, in62_iff.mpr ⟨h2, h3⟩]
  rfl
theorem intsV1 {ρ : Rho} {x : Int} : intsV ρ [.d (.int x)] = some [x] := (rfl)
theorem intsV2 {ρ : Rho} {x y : Int} : intsV ρ [.d (.int x), .d (.int y)] = some [x, y] := (rfl)
theorem intsV3 {ρ : Rho} {x y z : Int} : intsV ρ [.d (.int x), .d (.int y), .d (.int z)] = some [x, y, z] := (rfl)
theorem rngD_at {lo : Int} {n j : Nat} {d : D} (h : (rngD lo 1 n)[j]? = some d) : j < n ∧ d = .int (lo + j) := by
  obtain ⟨h1, h2⟩ := rngD_get h
  rw [Int.mul_one] at h2
  exact ⟨h1, h2⟩

/-! ### _law_pick -/
def pickB : Rho → Rs Fl :=
 (sRet (sBin ixD (sVar 1) (sCallO [true, false] takenF (sCons (sVar 0) (sCons (sFun lenD (sCons (sVar 1) sNil)) sNil)))))
def pickF : Fn := defR 2 [true, false] pickB
theorem pick_wp {r : D} {xs : List D} {Q : D → List Cell → Prop} (hr : RowOk r) (h0 : 0 < xs.length) (h1 : xs.length < 1000000) (h : ∀ (j : Nat) (x : D) (r' : D), xs[j]? = some x → RowOk r' → Q x [.own true r', .no]) : WpF (pickF [r, .list xs]) Q := by
  refine wpf_go rfl ?_
  unfold pickB
  rw [init_r, init_c, init_c, init_n]
  simp only [List.cons_append, List.nil_append, if_true, Bool.false_eq_true, if_false, List.length_cons, List.length_nil, Nat.reduceAdd, Nat.reduceSub, List.replicate]
  array_get_dec
  refine taken_wp hr (by omega) (by omega) fun d r' d0 d1 hr' => ?_
  array_get_dec
  obtain ⟨j, rfl⟩ := Int.eq_ofNat_of_zero_le d0
  have hd : j < xs.length := by omega
  have e : atI xs (j : Int) = some xs[j] := atI_nat (by rw [List.getElem?_eq_getElem hd])
  rw [e]
  exact h j _ r' (by rw [List.getElem?_eq_getElem hd]) hr'

/-! ### _law_alike -/
def alikeB (me : Fn) : Rho → Rs Fl :=
 (sSeq (sIfS (sUn (isiD [.tuple, .list]) (sVar 1)) (sSeq (sIfS (sOr (sNot (sUn (isiD [.tuple, .list]) (sVar 0))) (sBin neD (sUn (isiD [.list]) (sVar 0)) (sUn (isiD [.list]) (sVar 1)))) (sRet (sC (.bool false))) sNx)
 (sSeq (sIfS (sBin neD (sFun lenD (sCons (sVar 0) sNil)) (sFun lenD (sCons (sVar 1) sNil))) (sRet (sC (.bool false))) sNx)
 (sRet (sBin eqD (unF (sLc (sRng (sCons (sFun lenD (sCons (sVar 1) sNil)) sNil)) (gN 2) (asB (sNot (sCall me (sCons (sBin ixD (sVar 0) (sVar 2)) (sCons (sBin ixD (sVar 1) (sVar 2)) sNil))))) (sVar 2) [2])) (unF (sLst sNil)))))) sNx)
 (sSeq (sIfS (sOr (sBin isD (sVar 1) (sC .none)) (sUn (isiD [.str]) (sVar 1))) (sRet (sAnd (sBin eqD (sVar 0) (sVar 1)) (sBin eqD (sUn (isiD [.str]) (sVar 0)) (sUn (isiD [.str]) (sVar 1))))) sNx)
 (sRet (sAnd (sUn (isiD [.int]) (sVar 0)) (sAnd (sBin eqD (sUn (isiD [.bool]) (sVar 0)) (sUn (isiD [.bool]) (sVar 1))) (sBin eqD (sVar 0) (sVar 1)))))))
def alikeF : Nat → Fn
  | 0 => fun _ => .bad
  | n + 1 => defR 3 [false, false] (alikeB (alikeF n))
/-- a value that _law_alike takes as like itself with n calls -/
inductive Alk : Nat → D → Prop
  | non {n : Nat} : Alk (n + 1) .none
  | int {n : Nat} (i : Int) : Alk (n + 1) (.int i)
  | bool {n : Nat} (i : Bool) : Alk (n + 1) (.bool i)
  | str {n : Nat} (x : Str) : Alk (n + 1) (.str x)
  | tup {n : Nat} {xs : List D} : xs.length ≤ 1000000 → (∀ x ∈ xs, Alk n x) → Alk (n + 1) (.tuple xs)
  | lst {n : Nat} {xs : List D} : xs.length ≤ 1000000 → (∀ x ∈ xs, Alk n x) → Alk (n + 1) (.list xs)
theorem isT_def {t : Ty} {d : D} : isT t d = if isScr d = true then none else some (t.of d) := (rfl)
local macro_rules | `(tactic| array_mem_dec) => `(tactic| simp only [L3.isT_def, isScr, Ty.of, if_true, if_false, Bool.false_eq_true, Option.map_some, L3.wpo_some, Option.bind_some, Bool.not_true, Bool.not_false])
theorem filter_no {l : List D} : l.filter (fun _ => false) = [] := List.filter_eq_nil_iff.mpr (by simp)
theorem eq_nil : eqD (.list []) (.list []) = some (.bool true) := by
  simp [eqD, eqOk, PyData.plain, PyData.plainAll, PyData.depth, PyData.depthAll, PyData.eqv, PyData.eqvAll]
theorem eq_str' {x : Str} : eqD (.str x) (.str x) = some (.bool true) := by
  simp [eqD, eqOk, PyData.plain, PyData.depth, PyData.eqv]
theorem eq_non' : eqD .none .none = some (.bool true) := by
  simp [eqD, eqOk, PyData.plain, PyData.depth, PyData.eqv]
end L3
/-! T, part 1: typed readings of pure meanings: what holds of slots, expressions. -/
namespace T
open PySem PySem.Spec PyProof.Rows L2 L3

/-! ### results -/
inductive M (α : Type) where
  | ok (a : α) | er (x : Xn) | no
def bd {α β : Type} (m : M α) (k : α → M β) : M β :=
  match m with
  | .ok a => k a
  | .er x => .er x
  | .no => .no
def bo {α β : Type} (o : Option α) (k : α → M β) : M β :=
  match o with
  | some a => k a
  | none => .no
def ob {α β : Type} (o : Option α) (k : α → Option β) : Option β :=
  match o with
  | some a => k a
  | none => none
def lt {α : Type} {β : Type} (a : α) (k : α → β) : β := k a
def M.o {α : Type} : M α → Option α
  | .ok a => some a
  | _ => none
@[simp] theorem bd_ok {α β : Type} {a : α} {k : α → M β} : bd (.ok a) k = k a := (rfl)
@[simp] theorem bd_er {α β : Type} {x : Xn} {k : α → M β} : bd (.er x) k = .er x := (rfl)
@[simp] theorem bd_no {α β : Type} {k : α → M β} : bd .no k = .no := (rfl)
@[simp] theorem bo_some {α β : Type} {a : α} {k : α → M β} : bo (some a) k = k a := (rfl)
@[simp] theorem bo_none {α β : Type} {k : α → M β} : bo none k = .no := (rfl)
@[simp] theorem ob_some {α β : Type} {a : α} {k : α → Option β} : ob (some a) k = k a := (rfl)
@[simp] theorem ob_none {α β : Type} {k : α → Option β} : ob none k = none := (rfl)
@[simp] theorem lt_def {α β : Type} {a : α} {k : α → β} : lt a k = k a := (rfl)
@[simp] theorem o_ok {α : Type} {a : α} : (M.ok a).o = some a := (rfl)
@[simp] theorem o_er {α : Type} {x : Xn} : (M.er x : M α).o = none := (rfl)
@[simp] theorem o_no {α : Type} : (M.no : M α).o = none := (rfl)
theorem ob_el {α β : Type} {C : Prop} {o : Option α} {k : α → Option β} {r : β} (h : ob o k = some r) (f : ∀ u, o = some u → k u = some r → C) : C := by
  cases o with
  | none => cases h
  | some u => exact f u rfl h
theorem o_el {α : Type} {m : M α} {r : α} (h : m.o = some r) : m = .ok r := by
  cases m with
  | ok a => cases h; rfl
  | _ => cases h
theorem ct {α : Type} {p : Bool} {x y : Option α} {r : α} (e : p = true) (h : (if p = true then x else y) = some r) : x = some r := by rwa [if_pos e] at h
theorem cf {α : Type} {p : Bool} {x y : Option α} {r : α} (e : p = false) (h : (if p = true then x else y) = some r) : y = some r := by rwa [if_neg (by rw [e]; decide)] at h
inductive Oc (σ ρ : Type) where
  | nx (s : σ) | bk (s : σ) | rt (r : ρ)
def foldM {α σ : Type} (f : α → σ → M σ) : List α → σ → M σ
  | [], s => .ok s
  | x :: xs, s => bd (f x s) fun s => foldM f xs s
def loopM {α σ ρ : Type} (f : α → σ → M (Oc σ ρ)) : List α → σ → M (Oc σ ρ)
  | [], s => .ok (.nx s)
  | x :: xs, s => bd (f x s) fun o => match o with
    | .nx s => loopM f xs s
    | .bk s => .ok (.nx s)
    | .rt r => .ok (.rt r)
def whileM {σ ρ : Type} (c : σ → Option Bool) (f : σ → M (Oc σ ρ)) : Nat → σ → M (Oc σ ρ)
  | 0, _ => .no
  | n + 1, s => bo (c s) fun k => if k = true then bd (f s) fun o => match o with
      | .nx s => whileM c f n s
      | .bk s => .ok (.nx s)
      | .rt r => .ok (.rt r)
    else .ok (.nx s)

/-! ### types -/
class Emb (α : Type) where
  emb : α → D
open Emb (emb)
instance : Emb Int := ⟨.int⟩
instance : Emb Bool := ⟨.bool⟩
instance : Emb Str := ⟨.str⟩
instance : Emb Unit := ⟨fun _ => .none⟩
instance : Emb D := ⟨fun d => d⟩
instance {α : Type} [Emb α] : Emb (List α) := ⟨fun l => .list (l.map emb)⟩
/-- a tuple of any length -/
structure Tup (α : Type) where
  l : List α
instance {α : Type} [Emb α] : Emb (Tup α) := ⟨fun t => .tuple (t.l.map emb)⟩
instance {α β : Type} [Emb α] [Emb β] : Emb (α × β) := ⟨fun p => .tuple [emb p.1, emb p.2]⟩
structure T3 (α β γ : Type) where
  a : α
  b : β
  c : γ
structure T4 (α β γ δ : Type) where
  a : α
  b : β
  c : γ
  d : δ
structure T1 (α : Type) where
  a : α
instance {α : Type} [Emb α] : Emb (T1 α) := ⟨fun p => .tuple [emb p.a]⟩
instance {α β γ : Type} [Emb α] [Emb β] [Emb γ] : Emb (T3 α β γ) := ⟨fun p => .tuple [emb p.a, emb p.b, emb p.c]⟩
instance {α β γ δ : Type} [Emb α] [Emb β] [Emb γ] [Emb δ] : Emb (T4 α β γ δ) := ⟨fun p => .tuple [emb p.a, emb p.b, emb p.c, emb p.d]⟩
instance {α : Type} [Emb α] : Emb (Option α) := ⟨fun o => match o with | none => .none | some a => emb a⟩
/-- the row from which a law draws -/
structure DRow where
  ns : List Int
  c : Int
  s : Int
  q : Int
instance : Emb DRow := ⟨fun r => .list [scrD r.ns, .int r.c, .int r.s, .int r.q]⟩

/-! ### layouts -/
/-- a slot: exactly this; nothing or a value; anything that may be stored over -/
inductive Pat where
  | ex (c : Cell) | jv | jo
def okJ : Cell → Bool
  | .no => true
  | .val _ => true
  | .own false _ => true
  | _ => false
def isV : Cell → Bool
  | .no => true
  | .val _ => true
  | _ => false
def Fit : Pat → Cell → Prop
  | .ex c, c' => c' = c
  | .jv, c' => isV c' = true
  | .jo, c' => okJ c' = true
def Fits : List Pat → Rho → Prop
  | [], [] => True
  | p :: L, c :: ρ => Fit p c ∧ Fits L ρ
  | _, _ => False
theorem Fits.len : ∀ {L : List Pat} {ρ : Rho}, Fits L ρ → ρ.length = L.length
  | [], [], _ => rfl
  | _ :: _, _ :: _, h => congrArg (· + 1) (Fits.len h.2)
theorem Fits.get : ∀ {L : List Pat} {ρ : Rho} {i : Nat} {p : Pat}, Fits L ρ → L[i]? = some p → ∃ c, ρ[i]? = some c ∧ Fit p c
  | [], _, _, _, _, e => by simp at e
  | _ :: _, c :: _, 0, _, h, e => by simp at e; subst e; exact ⟨c, rfl, h.1⟩
  | _ :: L, _ :: ρ, i + 1, _, h, e => by
    obtain ⟨c, h1, h2⟩ := Fits.get (i := i) h.2 (by simpa using e)
    exact ⟨c, by simpa using h1, h2⟩
theorem Fits.at {L : List Pat} {ρ : Rho} {i : Nat} {c : Cell} (h : Fits L ρ) (e : L[i]? = some (.ex c)) : ρ[i]? = some c := by
  obtain ⟨c', h1, h2⟩ := h.get e
  have h2 : c' = c := h2
  rw [h1, h2]
theorem Fits.set : ∀ {L : List Pat} {ρ : Rho} {p : Pat} {c : Cell} (i : Nat), Fits L ρ → Fit p c → Fits (L.set i p) (ρ.set i c)
  | [], [], _, _, _, _, _ => trivial
  | _ :: _, _ :: _, _, _, 0, h, f => ⟨f, h.2⟩
  | _ :: _, _ :: _, _, _, i + 1, h, f => ⟨h.1, Fits.set i h.2 f⟩
/-- what may be stored over -/
def okP : Pat → Bool
  | .ex c => okJ c
  | _ => true
theorem Fits.put {L : List Pat} {ρ : Rho} {i : Nat} {p : Pat} {c : Cell} (h : Fits L ρ) (e : L[i]? = some p) (o : okP p = true) : L3.put i c ρ = .ok .nx (ρ.set i c) ∧ Fits (L.set i (.ex c)) (ρ.set i c) := by
  obtain ⟨c', h1, h2⟩ := h.get e
  have o' : okJ c' = true := by
    cases p with
    | jo => exact h2
    | jv => have h2 : isV c' = true := h2; cases c' <;> first | rfl | cases h2
    | ex q => have h2 : c' = q := h2; rw [h2]; exact o
  refine ⟨?_, h.set i rfl⟩
  unfold L3.put
  rw [h1]
  cases c' with
  | own b d => cases b <;> first | rfl | cases o'
  | lck b d => cases o'
  | _ => rfl
/-- a layout that knows less -/
inductive Le : Pat → Pat → Prop
  | rfl {p : Pat} : Le p p
  | jk {c : Cell} : okJ c = true → Le (.ex c) .jo
  | jw {c : Cell} : isV c = true → Le (.ex c) .jv
  | jj : Le .jv .jo
inductive Les : List Pat → List Pat → Prop
  | nil : Les [] []
  | cons {p q : Pat} {L M : List Pat} : Le p q → Les L M → Les (p :: L) (q :: M)
theorem Les.refl : ∀ {L : List Pat}, Les L L
  | [] => .nil
  | _ :: _ => .cons .rfl Les.refl
theorem jv_jo {c : Cell} (h : Fit .jv c) : Fit .jo c := by
  have h : isV c = true := h
  cases c <;> first | rfl | cases h
theorem Fits.le : ∀ {L M : List Pat} {ρ : Rho}, Les L M → Fits L ρ → Fits M ρ
  | _, _, [], .nil, _ => trivial
  | _, _, _ :: _, .cons h r, f => ⟨by
    cases h with
    | rfl => exact f.1
    | jk o => have e := f.1; exact (show okJ _ = true by rw [show _ = _ from e]; exact o)
    | jw o => have e := f.1; exact (show isV _ = true by rw [show _ = _ from e]; exact o)
    | @jj => exact jv_jo f.1, Fits.le r f.2⟩

/-! ### judgements -/
/-- a part gives v, whatever fits -/
def EG {α : Type} (L : List Pat) (a : Rho → Rs α) (v : α) (L' : List Pat) : Prop := ∀ ρ, Fits L ρ → ∃ ρ', a ρ = .ok v ρ' ∧ Fits L' ρ'
theorem EG.bind {α β : Type} {L L1 L2 : List Pat} {a : Rho → Rs α} {v : α} {f : α → Rho → Rs β} {w : β} (h : EG L a v L1) (k : EG L1 (f v) w L2) : EG L (fun ρ => (a ρ).bind f) w L2 := fun ρ hρ => by
  obtain ⟨ρ1, e1, h1⟩ := h ρ hρ
  obtain ⟨ρ2, e2, h2⟩ := k ρ1 h1
  exact ⟨ρ2, by show (a ρ).bind f = _; rw [e1]; exact e2, h2⟩
theorem EG.pure {α : Type} {L : List Pat} {v : α} : EG L (fun ρ => .ok v ρ) v L := fun ρ h => ⟨ρ, rfl, h⟩
theorem EG.eq {α : Type} {L L' : List Pat} {a b : Rho → Rs α} {v : α} (h : EG L a v L') (e : ∀ ρ, Fits L ρ → b ρ = a ρ) : EG L b v L' := fun ρ f => by rw [e ρ f]; exact h ρ f
theorem EG.to {α : Type} {L L' : List Pat} {a : Rho → Rs α} {v w : α} (h : EG L a v L') (e : v = w) : EG L a w L' := e ▸ h
theorem EG.le {α : Type} {L L' L2 : List Pat} {a : Rho → Rs α} {v : α} (h : EG L a v L') (e : Les L' L2) : EG L a v L2 := fun ρ f =>
  let ⟨ρ', h1, h2⟩ := h ρ f
  ⟨ρ', h1, h2.le e⟩
def contL (L : List Pat) : Vl → Option D
  | .d x => some x
  | .bv i => match L[i]? with
    | some (.ex c) => c.cont
    | _ => none
theorem contL_ok {L : List Pat} {ρ : Rho} {v : Vl} {d : D} (h : Fits L ρ) (e : contL L v = some d) : v.cont ρ = some d := by
  cases v with
  | d x => exact e
  | bv i =>
    unfold contL at e
    dsimp only at e
    split at e
    · rename_i c hc
      show ρ[i]?.bind Cell.cont = some d
      rw [h.at hc]; exact e
    · cases e
def frzL (L : List Pat) : Vl → Option (D × List Pat)
  | .d x => some (x, L)
  | .bv i => match L[i]? with
    | some (.ex (.val d)) => some (d, L)
    | some (.ex (.own _ d)) => some (d, L.set i (.ex (.val d)))
    | _ => none
theorem frzL_ok {L L' : List Pat} {v : Vl} {d : D} (e : frzL L v = some (d, L')) : EG L (frz v) d L' := fun ρ h => by
  cases v with
  | d x => cases e; exact ⟨ρ, rfl, h⟩
  | bv i =>
    unfold frzL at e
    dsimp only at e
    split at e
    · rename_i y hc
      cases e
      exact ⟨ρ, by unfold frz; dsimp only; rw [h.at hc], h⟩
    · rename_i p y hc
      cases e
      exact ⟨_, by unfold frz; dsimp only; rw [h.at hc], h.set i rfl⟩
    · cases e
def frzsL (L : List Pat) : List Vl → Option (List D × List Pat)
  | [] => some ([], L)
  | v :: vs => match frzL L v with
    | some (d, L1) => match frzsL L1 vs with
      | some (ds, L2) => some (d :: ds, L2)
      | none => none
    | none => none
theorem frzsL_ok : ∀ {vs : List Vl} {L L' : List Pat} {ds : List D}, frzsL L vs = some (ds, L') → EG L (frzs vs) ds L'
  | [], L, L', ds, e => by cases e; exact EG.pure
  | v :: vs, L, L', ds, e => by
    unfold frzsL at e
    split at e
    · rename_i d L1 e1
      split at e
      · rename_i ds2 L2 e2
        cases e
        exact (frzL_ok e1).bind (f := fun d ρ => (frzs vs ρ).bind fun ds ρ => .ok (d :: ds) ρ) ((frzsL_ok e2).bind EG.pure)
      · cases e
    · cases e
def contsL (L : List Pat) : List Vl → Option (List D)
  | [] => some []
  | v :: vs => match contL L v with
    | some d => match contsL L vs with
      | some ds => some (d :: ds)
      | none => none
    | none => none
theorem contsL_ok {L : List Pat} {ρ : Rho} (h : Fits L ρ) : ∀ {vs : List Vl} {ds : List D}, contsL L vs = some ds → conts ρ vs = some ds
  | [], ds, e => by cases e; rfl
  | v :: vs, ds, e => by
    unfold contsL at e
    split at e
    · rename_i d e1
      split at e
      · rename_i ds2 e2
        cases e
        unfold conts
        rw [contL_ok h e1, contsL_ok h e2]; rfl
      · cases e
    · cases e
section
variable {L L1 L2 L4 : List Pat} {i : Nat} {d x y z : D} {a b c e : Rho → Rs Vl} {v w u : Vl} {vs : List Vl} {ds : List D} {ss : Rho → Rs (List Vl)} {sf : Rho → Rs Vf} {p : Bool}
/-! names, constants, operators -/
theorem e_v (h : L[i]? = some (.ex (.val d)) := by rfl) : EG L (sVar i) (.d d) L := fun ρ f => ⟨ρ, by unfold sVar; rw [f.at h], f⟩
theorem e_o (h : L[i]? = some (.ex (.own p d)) := by rfl) : EG L (sVar i) (.bv i) L := fun ρ f => ⟨ρ, by unfold sVar; rw [f.at h], f⟩
theorem e_c : EG L (sC d) (.d d) L := EG.pure
theorem e_bin {f : D → D → Option D} (ha : EG L a v L1) (hb : EG L1 b w L2) (hf : f x y = some z) (hx : contL L2 v = some x := by rfl) (hy : contL L2 w = some y := by rfl) : EG L (sBin f a b) (.d z) L2 := by
  intro ρ q
  obtain ⟨ρ1, e1, q1⟩ := ha ρ q
  obtain ⟨ρ2, e2, q2⟩ := hb ρ1 q1
  exact ⟨ρ2, by simp only [sBin, e1, e2, Rs.bind_ok, two, contL_ok q2 hx, contL_ok q2 hy, Option.bind_some, hf, L3.ret], q2⟩
theorem e_un {f : D → Option D} (ha : EG L a v L1) (hf : f x = some z) (hx : contL L1 v = some x := by rfl) : EG L (sUn f a) (.d z) L1 := by
  intro ρ q
  obtain ⟨ρ1, e1, q1⟩ := ha ρ q
  exact ⟨ρ1, by simp only [sUn, e1, Rs.bind_ok, one, contL_ok q1 hx, Option.bind_some, hf, L3.ret], q1⟩
theorem e_asB (ha : EG L a v L1) (hx : contL L1 v = some (.bool p) := by rfl) : EG L (asB a) p L1 := by
  intro ρ q
  obtain ⟨ρ1, e1, q1⟩ := ha ρ q
  exact ⟨ρ1, by simp only [asB, e1, Rs.bind_ok, contL_ok q1 hx, boolOf], q1⟩
theorem e_not (ha : EG L a v L1) (hx : contL L1 v = some (.bool p) := by rfl) : EG L (sNot a) (.d (.bool (!p))) L1 := by
  intro ρ q
  obtain ⟨ρ1, e1, q1⟩ := e_asB ha hx ρ q
  exact ⟨ρ1, by simp only [sNot, e1, Rs.bind_ok], q1⟩
theorem e_andG {r : Bool} (ha : EG L a v L1) (h1 : p = true → EG L1 b (.d (.bool r)) L2) (h0 : p = false → r = false ∧ L2 = L1) (hx : contL L1 v = some (.bool p) := by rfl) : EG L (sAnd a b) (.d (.bool r)) L2 := by
  intro ρ q
  obtain ⟨ρ1, e1, q1⟩ := e_asB ha hx ρ q
  cases p with
  | true =>
    obtain ⟨ρ2, e2, q2⟩ := h1 rfl ρ1 q1
    exact ⟨ρ2, by simp only [sAnd, e1, Rs.bind_ok, if_true, e2], q2⟩
  | false =>
    obtain ⟨rfl, rfl⟩ := h0 rfl
    exact ⟨ρ1, by simp only [sAnd, e1, Rs.bind_ok, Bool.false_eq_true, if_false], q1⟩
theorem e_orG {r : Bool} (ha : EG L a v L1) (h1 : p = false → EG L1 b (.d (.bool r)) L2) (h0 : p = true → r = true ∧ L2 = L1) (hx : contL L1 v = some (.bool p) := by rfl) : EG L (sOr a b) (.d (.bool r)) L2 := by
  intro ρ q
  obtain ⟨ρ1, e1, q1⟩ := e_asB ha hx ρ q
  cases p with
  | false =>
    obtain ⟨ρ2, e2, q2⟩ := h1 rfl ρ1 q1
    exact ⟨ρ2, by simp only [sOr, e1, Rs.bind_ok, Bool.false_eq_true, if_false, e2], q2⟩
  | true =>
    obtain ⟨rfl, rfl⟩ := h0 rfl
    exact ⟨ρ1, by simp only [sOr, e1, Rs.bind_ok, if_true], q1⟩
theorem e_and {q : Bool} (ha : EG L a v L1) (hb : EG L1 b w L1) (hx : contL L1 v = some (.bool p) := by rfl) (hw : w = .d (.bool q) := by rfl) : EG L (sAnd a b) (.d (.bool (p && q))) L1 :=
  e_andG ha (fun e => by subst e hw; exact hb) (fun e => by subst e; exact ⟨rfl, rfl⟩) hx
theorem e_or {q : Bool} (ha : EG L a v L1) (hb : EG L1 b w L1) (hx : contL L1 v = some (.bool p) := by rfl) (hw : w = .d (.bool q) := by rfl) : EG L (sOr a b) (.d (.bool (p || q))) L1 :=
  e_orG ha (fun e => by subst e hw; exact hb) (fun e => by subst e; exact ⟨rfl, rfl⟩) hx
theorem e_ifG (hc : EG L c v L1) (h1 : p = true → EG L1 a w L2) (h0 : p = false → EG L1 b w L2) (hx : contL L1 v = some (.bool p) := by rfl) : EG L (sIf c a b) w L2 := by
  intro ρ q
  obtain ⟨ρ1, e1, q1⟩ := e_asB hc hx ρ q
  cases p with
  | true =>
    obtain ⟨ρ2, e2, q2⟩ := h1 rfl ρ1 q1
    exact ⟨ρ2, by simp only [sIf, e1, Rs.bind_ok, if_true, e2], q2⟩
  | false =>
    obtain ⟨ρ2, e2, q2⟩ := h0 rfl ρ1 q1
    exact ⟨ρ2, by simp only [sIf, e1, Rs.bind_ok, Bool.false_eq_true, if_false, e2], q2⟩
theorem e_if {α : Type} [Emb α] {x y : α} (hc : EG L c v L1) (h1 : EG L1 a (.d (emb x)) L1) (h0 : EG L1 b (.d (emb y)) L1) (hx : contL L1 v = some (.bool p) := by rfl) : EG L (sIf c a b) (.d (emb (if p = true then x else y))) L1 :=
  e_ifG hc (fun e => by subst e; exact h1) (fun e => by subst e; exact h0) hx
theorem e_chainG {f g : D → D → Option D} {k r : Bool} (ha : EG L a v L1) (hb : EG L1 b w L2) (hf : f x y = some (.bool k)) (h1 : k = true → ∃ u t, EG L2 c u L2 ∧ contL L2 u = some t ∧ g y t = some (.bool r)) (h0 : k = false → r = false) (hx : contL L2 v = some x := by rfl) (hy : contL L2 w = some y := by rfl) : EG L (sChain f g a b c) (.d (.bool r)) L2 := by
  intro ρ q
  obtain ⟨ρ1, e1, q1⟩ := ha ρ q
  obtain ⟨ρ2, e2, q2⟩ := hb ρ1 q1
  cases k with
  | true =>
    obtain ⟨u, t, h3, h4, h5⟩ := h1 rfl
    obtain ⟨ρ3, e3, q3⟩ := h3 ρ2 q2
    exact ⟨ρ3, by simp only [sChain, e1, e2, e3, Rs.bind_ok, two, contL_ok q2 hx, contL_ok q2 hy, contL_ok q3 hy, contL_ok q3 h4, Option.bind_some, hf, h5, L3.ret], q3⟩
  | false =>
    have := h0 rfl
    subst this
    exact ⟨ρ2, by simp only [sChain, e1, e2, Rs.bind_ok, contL_ok q2 hx, contL_ok q2 hy, Option.bind_some, hf], q2⟩
theorem e_chain {f g : D → D → Option D} {k q : Bool} {t : D} (ha : EG L a v L1) (hb : EG L1 b w L2) (hf : f x y = some (.bool k)) (hc : EG L2 c u L2) (hg : g y t = some (.bool q)) (hx : contL L2 v = some x := by rfl) (hy : contL L2 w = some y := by rfl) (ht : contL L2 u = some t := by rfl) : EG L (sChain f g a b c) (.d (.bool (k && q))) L2 :=
  e_chainG ha hb hf (fun e => ⟨u, t, hc, ht, by subst e; exact hg⟩) (fun e => by subst e; rfl) hx hy
/-! arguments, displays, calls of built-ins -/
theorem a_n : EG L sNil [] L := EG.pure
theorem a_c (h : EG L a v L1) (r : EG L1 ss vs L2) : EG L (sCons a ss) (v :: vs) L2 := by
  intro ρ q
  obtain ⟨ρ1, e1, q1⟩ := h ρ q
  obtain ⟨ρ2, e2, q2⟩ := r ρ1 q1
  exact ⟨ρ2, by simp only [sCons, e1, e2, Rs.bind_ok], q2⟩
theorem szL {n : Nat} (h : n ≤ 16777216) : szOk n = true := by rw [szOk_iff, sizeLine_eq]; exact h
theorem a_z (h : EG L ss vs L1) (hf : frzsL L1 vs = some (ds, L2)) {β : Type} {k : List D → Rho → Rs β} {r : β} (hk : EG L2 (k ds) r L4) : EG L (fun ρ => (ss ρ).bind fun xs ρ => (frzs xs ρ).bind k) r L4 := by
  intro ρ q
  obtain ⟨ρ1, e1, q1⟩ := h ρ q
  obtain ⟨ρ2, e2, q2⟩ := frzsL_ok hf ρ1 q1
  obtain ⟨ρ3, e3, q3⟩ := hk ρ2 q2
  exact ⟨ρ3, by simp only [e1, e2, e3, Rs.bind_ok], q3⟩
theorem e_tup (h : EG L ss vs L1) (hf : frzsL L1 vs = some (ds, L2) := by rfl) (hn : ds.length ≤ 16777216 := by exact Nat.le_of_ble_eq_true rfl) : EG L (sTup ss) (.d (.tuple ds)) L2 :=
  a_z h hf fun ρ q => ⟨ρ, by simp only [szL hn, if_true], q⟩
theorem f_lst (h : EG L ss vs L1) (hf : frzsL L1 vs = some (ds, L2) := by rfl) (hn : ds.length ≤ 16777216 := by exact Nat.le_of_ble_eq_true rfl) : EG L (sLst ss) (.fr (.list ds)) L2 :=
  a_z h hf fun ρ q => ⟨ρ, by simp only [szL hn, if_true], q⟩
theorem e_fun {f : List D → Option D} (h : EG L ss vs L1) (hf : f ds = some z) (hc : contsL L1 vs = some ds := by rfl) : EG L (sFun f ss) (.d z) L1 := by
  intro ρ q
  obtain ⟨ρ1, e1, q1⟩ := h ρ q
  exact ⟨ρ1, by simp only [sFun, e1, Rs.bind_ok, contsL_ok q1 hc, Option.bind_some, hf, L3.ret], q1⟩
theorem f_fun {f : List D → Option D} (h : EG L ss vs L1) (hf : f ds = some z) (hc : contsL L1 vs = some ds := by rfl) : EG L (sFunF f ss) (.fr z) L1 := by
  intro ρ q
  obtain ⟨ρ1, e1, q1⟩ := h ρ q
  exact ⟨ρ1, by simp only [sFunF, e1, Rs.bind_ok, contsL_ok q1 hc, Option.bind_some, hf, retF], q1⟩
theorem e_fr (h : EG L sf (.fr d) L1) : EG L (unF sf) (.d d) L1 := by
  intro ρ q
  obtain ⟨ρ1, e1, q1⟩ := h ρ q
  exact ⟨ρ1, by simp only [unF, e1, Rs.bind_ok], q1⟩
theorem e_vl (h : EG L sf (.v v) L1) : EG L (unF sf) v L1 := by
  intro ρ q
  obtain ⟨ρ1, e1, q1⟩ := h ρ q
  exact ⟨ρ1, by simp only [unF, e1, Rs.bind_ok], q1⟩
theorem f_li (h : EG L a v L1) : EG L (liF a) (.v v) L1 := by
  intro ρ q
  obtain ⟨ρ1, e1, q1⟩ := h ρ q
  exact ⟨ρ1, by simp only [liF, e1, Rs.bind_ok], q1⟩
theorem e_call {φ : Fn} {outs : List Cell} (h : EG L ss vs L1) (hφ : φ ds = .ok d outs) (hf : frzsL L1 vs = some (ds, L2) := by rfl) : EG L (sCall φ ss) (.d d) L2 :=
  a_z h hf fun ρ q => ⟨ρ, by simp only [callR, hφ], q⟩
/-! slices -/
theorem o_n : EG L (sPart none) none L := EG.pure
theorem o_s {k : Int} (h : EG L a v L1) (hx : contL L1 v = some (.int k) := by rfl) : EG L (sPart (some a)) (some k) L1 := by
  intro ρ q
  obtain ⟨ρ1, e1, q1⟩ := h ρ q
  exact ⟨ρ1, by simp only [sPart, e1, Rs.bind_ok, contL_ok q1 hx], q1⟩
theorem f_slL {lo hi : Option (Rho → Rs Vl)} {l h : Option Int} {xs : List D} (ha : EG L a v L1) (h1 : EG L1 (sPart lo) l L1) (h2 : EG L1 (sPart hi) h L1) (hx : contL L1 v = some (.list xs) := by rfl) : EG L (sSl a lo hi) (.fr (.list (cutL xs l h))) L1 := by
  intro ρ q
  obtain ⟨ρ1, e1, q1⟩ := ha ρ q
  obtain ⟨ρ2, e2, q2⟩ := h1 ρ1 q1
  obtain ⟨ρ3, e3, q3⟩ := h2 ρ2 q2
  exact ⟨ρ3, by simp only [sSl, e1, e2, e3, Rs.bind_ok, contL_ok q3 hx, slOf], q3⟩
theorem f_slT {lo hi : Option (Rho → Rs Vl)} {l h : Option Int} {xs : List D} (ha : EG L a v L1) (h1 : EG L1 (sPart lo) l L1) (h2 : EG L1 (sPart hi) h L1) (hx : contL L1 v = some (.tuple xs) := by rfl) : EG L (sSl a lo hi) (.v (.d (.tuple (cutL xs l h)))) L1 := by
  intro ρ q
  obtain ⟨ρ1, e1, q1⟩ := ha ρ q
  obtain ⟨ρ2, e2, q2⟩ := h1 ρ1 q1
  obtain ⟨ρ3, e3, q3⟩ := h2 ρ2 q2
  exact ⟨ρ3, by simp only [sSl, e1, e2, e3, Rs.bind_ok, contL_ok q3 hx, slOf], q3⟩
theorem f_backL {xs : List D} (ha : EG L a v L1) (hx : contL L1 v = some (.list xs) := by rfl) : EG L (sBack a) (.fr (.list xs.reverse)) L1 := by
  intro ρ q
  obtain ⟨ρ1, e1, q1⟩ := ha ρ q
  exact ⟨ρ1, by simp only [sBack, e1, Rs.bind_ok, contL_ok q1 hx, backOf], q1⟩
theorem f_backT {xs : List D} (ha : EG L a v L1) (hx : contL L1 v = some (.tuple xs) := by rfl) : EG L (sBack a) (.v (.d (.tuple xs.reverse))) L1 := by
  intro ρ q
  obtain ⟨ρ1, e1, q1⟩ := ha ρ q
  exact ⟨ρ1, by simp only [sBack, e1, Rs.bind_ok, contL_ok q1 hx, backOf], q1⟩
theorem f_addL {xs ys : List D} (ha : EG L a v L1) (hb : EG L1 b w L2) (hn : szOk (xs.length + ys.length) = true) (hx : contL L2 v = some (.list xs) := by rfl) (hy : contL L2 w = some (.list ys) := by rfl) : EG L (sAddF a b) (.fr (.list (xs ++ ys))) L2 := by
  intro ρ q
  obtain ⟨ρ1, e1, q1⟩ := ha ρ q
  obtain ⟨ρ2, e2, q2⟩ := hb ρ1 q1
  exact ⟨ρ2, by simp only [sAddF, e1, e2, Rs.bind_ok, addF, contL_ok q2 hx, contL_ok q2 hy, hn, if_true], q2⟩
theorem f_add (ha : EG L a v L1) (hb : EG L1 b w L2) (hf : addD x y = some z) (hl : ∀ xs, x ≠ .list xs := by intro _ h; cases h) (hx : contL L2 v = some x := by rfl) (hy : contL L2 w = some y := by rfl) : EG L (sAddF a b) (.v (.d z)) L2 := by
  intro ρ q
  obtain ⟨ρ1, e1, q1⟩ := ha ρ q
  obtain ⟨ρ2, e2, q2⟩ := hb ρ1 q1
  refine ⟨ρ2, ?_, q2⟩
  simp only [sAddF, e1, e2, Rs.bind_ok]
  unfold addF
  have e : two ρ2 v w addD = .ok (.d z) ρ2 := by simp only [two, contL_ok q2 hx, contL_ok q2 hy, Option.bind_some, hf, L3.ret]
  rw [contL_ok q2 hx, contL_ok q2 hy]
  split
  · rename_i xs ys h1 h2
    exact absurd (Option.some.inj h1) (hl _)
  · rw [e]; rfl
theorem e_star (h : EG L a v L1) (r : EG L1 ss vs L2) (hi : itemsD d = some ds) (hx : contL L1 v = some d := by rfl) : EG L (sStar a ss) (ds.map Vl.d ++ vs) L2 := by
  intro ρ q
  obtain ⟨ρ1, e1, q1⟩ := h ρ q
  obtain ⟨ρ2, e2, q2⟩ := r ρ1 q1
  exact ⟨ρ2, by simp only [sStar, e1, e2, Rs.bind_ok, contL_ok q1 hx, Option.bind_some, hi], q2⟩
/-! lists changed in place, calls that hand over the row -/
theorem own_at {p : Bool} {ρ : Rho} {xs : List D} (q : Fits L ρ) (h : L[i]? = some (.ex (.own p (.list xs)))) : ownList ρ i = some (p, xs) := by unfold ownList; rw [q.at h]
theorem e_mut {f : List D → List D → Option (List D × D)} {xs ys zs : List D} {p p' : Bool} (hs : EG L ss vs L1) (hf : f ys ds = some (zs, z)) (h0 : L[i]? = some (.ex (.own p' (.list xs))) := by rfl) (hz : frzsL L1 vs = some (ds, L2) := by rfl) (h1 : L2[i]? = some (.ex (.own p (.list ys))) := by rfl) (hL : L2.set i (.ex (.own p (.list zs))) = L4 := by rfl) : EG L (sMut i f ss) (.d z) L4 := by
  subst hL
  intro ρ q
  obtain ⟨ρ1, e1, q1⟩ := hs ρ q
  obtain ⟨ρ2, e2, q2⟩ := frzsL_ok hz ρ1 q1
  refine ⟨_, ?_, q2.set i rfl⟩
  simp only [sMut, own_at q h0, Option.isSome_some, if_true, e1, e2, Rs.bind_ok, sMut.mutNow, own_at q2 h1, hf]
theorem prep_no : ∀ {vs : List Vl} {L L' : List Pat} {ds : List D}, frzsL L vs = some (ds, L') → EG L (prep (List.replicate vs.length false) vs) (ds.map Sum.inl) L'
  | [], L, L', ds, e => by cases e; exact EG.pure
  | v :: vs, L, L', ds, e => by
    unfold frzsL at e
    split at e
    · rename_i d L1 e1
      split at e
      · rename_i ds2 L2 e2
        cases e
        intro ρ q
        obtain ⟨ρ1, h1, q1⟩ := frzL_ok e1 ρ q
        obtain ⟨ρ2, h2, q2⟩ := prep_no e2 ρ1 q1
        exact ⟨ρ2, by simp only [List.length_cons, List.replicate_succ, prep, h1, h2, Rs.bind_ok, List.map_cons], q2⟩
      · cases e
    · cases e
theorem idx_inl : ∀ {ds : List D}, idx (ds.map Sum.inl) = []
  | [] => rfl
  | _ :: r => idx_inl (ds := r)
theorem ph2_inl {ρ : Rho} : ∀ {ds : List D}, ph2 ρ (ds.map Sum.inl) = some ds
  | [] => rfl
  | d :: r => by show (ph2 ρ (r.map Sum.inl)).map _ = _; rw [ph2_inl]; rfl
theorem outs_inl {ρ : Rho} : ∀ {ds : List D} {cs : List Cell}, setOuts (ds.map Sum.inl) cs ρ = ρ
  | [], _ => rfl
  | _ :: r, cs => outs_inl (ds := r) (cs := cs.tail)
/-- f(row, ..): the first argument is handed over -/
theorem e_row {φ : Fn} {ms : List Bool} {d0 d1 : D} {p : Bool} {outs : List Cell} (h : EG L ss (.bv i :: vs) L1) (hφ : φ (d0 :: ds) = .ok d (.own true d1 :: outs)) (hn : ms = true :: List.replicate vs.length false := by rfl) (hf : frzsL L1 vs = some (ds, L2) := by rfl) (h1 : L2[i]? = some (.ex (.own p d0)) := by rfl) (hL : L2.set i (.ex (.own p d1)) = L4 := by rfl) : EG L (sCallO ms φ ss) (.d d) L4 := by
  subst hn hL
  intro ρ q
  obtain ⟨ρ1, e1, q1⟩ := h ρ q
  obtain ⟨ρ2, e2, q2⟩ := prep_no hf ρ1 q1
  refine ⟨_, ?_, q2.set i rfl⟩
  have e3 : prep (true :: List.replicate vs.length false) (.bv i :: vs) ρ1 = .ok (.inr i :: ds.map Sum.inl) ρ2 := by simp only [prep, e2, Rs.bind_ok]
  have e4 : ph2 ρ2 (.inr i :: ds.map Sum.inl) = some (d0 :: ds) := by
    unfold ph2
    rw [q2.at h1]
    show (ph2 ρ2 (ds.map Sum.inl)).map _ = _
    rw [ph2_inl]; rfl
  have e5 : setOuts (.inr i :: ds.map Sum.inl) (.own true d1 :: outs) ρ2 = ρ2.set i (.own p d1) := by
    show (setOuts (ds.map Sum.inl) outs ρ2).set i (backC (some (.own true d1)) ρ2[i]?) = _
    rw [outs_inl, q2.at h1]; rfl
  have e6 : (idx ((.inr i : D ⊕ Nat) :: ds.map Sum.inl)).Nodup := by
    show (i :: idx (ds.map Sum.inl)).Nodup
    rw [idx_inl]; simp
  simp only [sCallO, e1, e3, Rs.bind_ok, callRO, e6, if_true, e4, hφ, e5]
end
end T
/-! T, part 2: statements, loops, comprehensions, defs. -/
namespace T
open PySem PySem.Spec PyProof.Rows L2 L3
open Emb (emb)

section
variable {L L1 L2 L4 : List Pat} {i j l : Nat} {d x y z : D} {a b c e : Rho → Rs Vl} {v w u : Vl} {vs : List Vl} {ds : List D} {ss : Rho → Rs (List Vl)} {sf : Rho → Rs Vf} {p : Bool} {q : Pat} {st : D → Rho → Rs Fl} {fs : List D → Rho → Rs Fl}
/-! ### simple statements -/
theorem g_n (h : L[i]? = some q := by rfl) (o : okP q = true := by rfl) (hL : L.set i (.ex (.val d)) = L4 := by rfl) : EG L (gN i d) .nx L4 := fun ρ f => by subst hL; exact ⟨_, (f.put h o).1, (f.put h o).2⟩
theorem g_sn : EG L (gsN []) .nx L := EG.pure
theorem g_sc (h : EG L (st d) .nx L1) (r : EG L1 (fs ds) .nx L2) : EG L (gsC st fs (d :: ds)) .nx L2 := by
  intro ρ f
  obtain ⟨ρ1, e1, q1⟩ := h ρ f
  obtain ⟨ρ2, e2, q2⟩ := r ρ1 q1
  exact ⟨ρ2, by simp only [gsC, e1, thenG, e2], q2⟩
theorem g_tp {n : Nat} (r : EG L (fs ds) .nx L1) (hi : itemsD d = some ds := by rfl) (hn : ds.length = n := by rfl) : EG L (gTp n fs d) .nx L1 := by
  intro ρ f
  obtain ⟨ρ1, e1, q1⟩ := r ρ f
  exact ⟨ρ1, by simp only [gTp, hi, hn, if_true, e1], q1⟩
theorem x_asg (h : EG L sf (.v v) L1) (hf : frzL L1 v = some (d, L2) := by rfl) (hq : L2[i]? = some q := by rfl) (o : okP q = true := by rfl) (hL : L2.set i (.ex (.val d)) = L4 := by rfl) : EG L (sAsg i sf) .nx L4 := by
  subst hL
  intro ρ f
  obtain ⟨ρ1, e1, q1⟩ := h ρ f
  obtain ⟨ρ2, e2, q2⟩ := frzL_ok hf ρ1 q1
  exact ⟨_, by simp only [sAsg, e1, e2, Rs.bind_ok]; exact (q2.put hq o).1, (q2.put hq o).2⟩
theorem x_asgF (h : EG L sf (.fr d) L1) (hq : L1[i]? = some q := by rfl) (o : okP q = true := by rfl) (hL : L1.set i (.ex (.own false d)) = L4 := by rfl) : EG L (sAsg i sf) .nx L4 := by
  subst hL
  intro ρ f
  obtain ⟨ρ1, e1, q1⟩ := h ρ f
  exact ⟨_, by simp only [sAsg, e1, Rs.bind_ok]; exact (q1.put hq o).1, (q1.put hq o).2⟩
theorem x_asgT (h : EG L e v L1) (hf : frzL L1 v = some (d, L2)) (g : EG L2 (st d) .nx L4) : EG L (sAsgT st e) .nx L4 := by
  intro ρ f
  obtain ⟨ρ1, e1, q1⟩ := h ρ f
  obtain ⟨ρ2, e2, q2⟩ := frzL_ok hf ρ1 q1
  obtain ⟨ρ3, e3, q3⟩ := g ρ2 q2
  exact ⟨ρ3, by simp only [sAsgT, e1, e2, e3, Rs.bind_ok, thenG], q3⟩
theorem x_par {q' : Pat} (h : EG L ss vs L1) (hf : frzsL L1 vs = some ([x, y], L2) := by rfl) (hq : L2[i]? = some q := by rfl) (o : okP q = true := by rfl) (hq' : (L2.set i (.ex (.val x)))[j]? = some q' := by rfl) (o' : okP q' = true := by rfl) (hL : (L2.set i (.ex (.val x))).set j (.ex (.val y)) = L4 := by rfl) : EG L (sPar i j ss) .nx L4 := by
  subst hL
  intro ρ f
  obtain ⟨ρ1, e1, q1⟩ := h ρ f
  obtain ⟨ρ2, e2, q2⟩ := frzsL_ok hf ρ1 q1
  have g1 := q2.put (c := .val x) hq o
  have g2 := g1.2.put (c := .val y) hq' o'
  exact ⟨_, by simp only [sPar, e1, e2, Rs.bind_ok, put2, g1.1, thenG, g2.1], g2.2⟩
theorem x_par3 {q' q'' : Pat} (h : EG L ss vs L1) (hf : frzsL L1 vs = some ([x, y, z], L2) := by rfl) (hq : L2[i]? = some q := by rfl) (o : okP q = true := by rfl) (hq' : (L2.set i (.ex (.val x)))[j]? = some q' := by rfl) (o' : okP q' = true := by rfl) (hq'' : ((L2.set i (.ex (.val x))).set j (.ex (.val y)))[l]? = some q'' := by rfl) (o'' : okP q'' = true := by rfl)
    (hL : ((L2.set i (.ex (.val x))).set j (.ex (.val y))).set l (.ex (.val z)) = L4 := by rfl) : EG L (sPar3 i j l ss) .nx L4 := by
  subst hL
  intro ρ f
  obtain ⟨ρ1, e1, q1⟩ := h ρ f
  obtain ⟨ρ2, e2, q2⟩ := frzsL_ok hf ρ1 q1
  have g1 := q2.put (c := .val x) hq o
  have g2 := g1.2.put (c := .val y) hq' o'
  have g3 := g2.2.put (c := .val z) hq'' o''
  exact ⟨_, by simp only [sPar3, e1, e2, Rs.bind_ok, put3, g1.1, thenG, g2.1, g3.1], g3.2⟩
theorem x_aug {op : Operator} (h : EG L e v L1) (hz : augD op x y = some z) (h0 : L[i]? = some (.ex (.val x)) := by rfl) (hy : contL L1 v = some y := by rfl) (hq : L1[i]? = some q := by rfl) (o : okP q = true := by rfl) (hL : L1.set i (.ex (.val z)) = L4 := by rfl) : EG L (sAug i op e) .nx L4 := by
  subst hL
  intro ρ f
  obtain ⟨ρ1, e1, q1⟩ := h ρ f
  exact ⟨_, by simp only [sAug, f.at h0, e1, Rs.bind_ok, contL_ok q1 hy, Option.bind_some, hz]; exact (q1.put hq o).1, (q1.put hq o).2⟩
theorem x_set {ix : Rho → Rs Vl} {L5 : List Pat} {k : Int} {n : Nat} {xs ys : List D} {p p' : Bool} (h : EG L e v L1) (hf : frzL L1 v = some (d, L2)) (hi : EG L2 ix w L4) (hn : ixN ys.length k = some n) (h0 : L2[i]? = some (.ex (.own p' (.list xs))) := by rfl) (hk : contL L4 w = some (.int k) := by rfl) (h1 : L4[i]? = some (.ex (.own p (.list ys))) := by rfl) (hL : L4.set i (.ex (.own p (.list (ys.set n d)))) = L5 := by rfl) : EG L (sSetIx i ix e) .nx L5 := by
  subst hL
  intro ρ f
  obtain ⟨ρ1, e1, q1⟩ := h ρ f
  obtain ⟨ρ2, e2, q2⟩ := frzL_ok hf ρ1 q1
  obtain ⟨ρ3, e3, q3⟩ := hi ρ2 q2
  exact ⟨_, by simp only [sSetIx, e1, e2, e3, Rs.bind_ok, own_at q2 h0, Option.isSome_some, if_true, contL_ok q3 hk, setAt, own_at q3 h1, hn], q3.set i rfl⟩
theorem x_exp (h : EG L e v L1) : EG L (sExp e) .nx L1 := by
  intro ρ f
  obtain ⟨ρ1, e1, q1⟩ := h ρ f
  exact ⟨ρ1, by simp only [sExp, e1, Rs.bind_ok], q1⟩
/-! ### what is walked -/
theorem i_val (h : EG L e v L1) (hf : frzL L1 v = some (d, L2) := by rfl) (hw : walkD d = some ds := by rfl) : EG L (sIt e) ds L2 := by
  intro ρ f
  obtain ⟨ρ1, e1, q1⟩ := h ρ f
  obtain ⟨ρ2, e2, q2⟩ := frzL_ok hf ρ1 q1
  exact ⟨ρ2, by simp only [sIt, e1, e2, Rs.bind_ok, hw, ofO], q2⟩
theorem i_rng {ns : List Int} {es : List D} (h : EG L ss vs L1) (hr : rngOf ns = some ds) (hc : contsL L1 vs = some es := by rfl) (hn : intsD es = some ns := by rfl) : EG L (sRng ss) ds L1 := by
  intro ρ f
  obtain ⟨ρ1, e1, q1⟩ := h ρ f
  exact ⟨ρ1, by simp only [sRng, e1, Rs.bind_ok, intsV, contsL_ok q1 hc, Option.bind_some, hn, hr, ofO], q1⟩
theorem i_one {f : List D → List D} (h : EG L ss vs L1) (hf : frzsL L1 vs = some ([d], L2) := by rfl) (hi : itemsD d = some ds := by rfl) : EG L (one1 f ss) (f ds) L2 := by
  intro ρ g
  obtain ⟨ρ1, e1, q1⟩ := h ρ g
  obtain ⟨ρ2, e2, q2⟩ := frzsL_ok hf ρ1 q1
  exact ⟨ρ2, by simp only [one1, e1, e2, Rs.bind_ok, hi, Option.map_some, ofO], q2⟩
theorem i_zipL {xs ys : List D} (h : EG L ss vs L1) (hf : frzsL L1 vs = some ([.list xs, .list ys], L2) := by rfl) : EG L (sZip ss) (zipD xs ys) L2 := by
  intro ρ g
  obtain ⟨ρ1, e1, q1⟩ := h ρ g
  obtain ⟨ρ2, e2, q2⟩ := frzsL_ok hf ρ1 q1
  exact ⟨ρ2, by simp only [sZip, e1, e2, Rs.bind_ok], q2⟩
theorem i_zipT {xs ys : List D} (h : EG L ss vs L1) (hf : frzsL L1 vs = some ([.tuple xs, .tuple ys], L2) := by rfl) : EG L (sZip ss) (zipD xs ys) L2 := by
  intro ρ g
  obtain ⟨ρ1, e1, q1⟩ := h ρ g
  obtain ⟨ρ2, e2, q2⟩ := frzsL_ok hf ρ1 q1
  exact ⟨ρ2, by simp only [sZip, e1, e2, Rs.bind_ok], q2⟩
theorem i_rev (h : EG L e v L1) (hf : frzL L1 v = some (d, L2) := by rfl) (hi : itemsD d = some ds := by rfl) : EG L (sRev e) ds.reverse L2 := by
  intro ρ g
  obtain ⟨ρ1, e1, q1⟩ := h ρ g
  obtain ⟨ρ2, e2, q2⟩ := frzL_ok hf ρ1 q1
  exact ⟨ρ2, by simp only [sRev, e1, e2, Rs.bind_ok, hi, Option.map_some, ofO], q2⟩
end

/-! ### statements -/
def SR {α : Type} (L : List Pat) (s : Rho → Rs Fl) (m : M α) (K : α → Fl → Rho → Prop) : Prop := ∀ ρ, Fits L ρ →
  match m with
  | .ok a => ∃ f ρ', s ρ = .ok f ρ' ∧ K a f ρ'
  | .er x => ∃ ρ', s ρ = .err x ρ'
  | .no => True
section
variable {α β σ R : Type} {L L1 L2 L4 : List Pat} {s t A B body : Rho → Rs Fl} {m mA mB : M α} {K : α → Fl → Rho → Prop} {c e : Rho → Rs Vl} {v : Vl} {p : Bool} {d : D} {ds : List D} {i : Nat} {q : Pat} {sf : Rho → Rs Vf} {vs : List Vl} {ss : Rho → Rs (List Vl)} {φ : Fn}
theorem SR.eq (h : SR L s m K) (e : ∀ ρ, t ρ = s ρ) : SR L t m K := fun ρ f => by rw [e ρ]; exact h ρ f
theorem seq_nx (ρ : Rho) : sSeq sNx t ρ = t ρ := rfl
theorem seq_un (ρ : Rho) : sSeq s sNx ρ = s ρ := by
  unfold sSeq
  cases s ρ with
  | ok f ρ1 => cases f <;> rfl
  | err x ρ1 => rfl
  | bad => rfl
theorem seq_as {r : Rho → Rs Fl} (ρ : Rho) : sSeq (sSeq s t) r ρ = sSeq s (sSeq t r) ρ := by
  unfold sSeq
  cases s ρ with
  | ok f ρ1 => cases f <;> rfl
  | err x ρ1 => rfl
  | bad => rfl
theorem s_un (h : SR L (sSeq s sNx) m K) : SR L s m K := h.eq fun ρ => (seq_un ρ).symm
theorem s_nx (h : SR L t m K) : SR L (sSeq sNx t) m K := h.eq fun ρ => seq_nx ρ
theorem s_as {r : Rho → Rs Fl} (h : SR L (sSeq s (sSeq t r)) m K) : SR L (sSeq (sSeq s t) r) m K := h.eq fun ρ => seq_as ρ
theorem s_s (h : EG L s .nx L1) (r : SR L1 t m K) : SR L (sSeq s t) m K := fun ρ f => by
  obtain ⟨ρ1, e1, q1⟩ := h ρ f
  have : sSeq s t ρ = t ρ1 := by simp only [sSeq, e1, Rs.bind_ok]
  rw [this]
  exact r ρ1 q1
theorem s_le (h : SR L1 s m K) (l : Les L L1) : SR L s m K := fun ρ f => h ρ (f.le l)
theorem s_bo {o : Option β} {k : β → M α} (h : ∀ x, o = some x → SR L s (k x) K) : SR L s (bo o k) K := by
  cases o with
  | none => exact fun _ _ => trivial
  | some x => exact h x rfl
theorem s_set [Emb β] {x : β} {k : β → M α} (h : EG L sf (.v (.d (emb x))) L1) (r : ∀ x, SR (L1.set i (.ex (.val (emb x)))) t (k x) K) (hq : L1[i]? = some q := by rfl) (o : okP q = true := by rfl) : SR L (sSeq (sAsg i sf) t) (lt x k) K :=
  s_s (x_asg h rfl hq o rfl) (r x)
theorem s_setF [Emb β] {x : β} {k : β → M α} (h : EG L sf (.fr (emb x)) L1) (r : ∀ x, SR (L1.set i (.ex (.own false (emb x)))) t (k x) K) (hq : L1[i]? = some q := by rfl) (o : okP q = true := by rfl) : SR L (sSeq (sAsg i sf) t) (lt x k) K :=
  s_s (x_asgF h hq o rfl) (r x)
theorem s_no : SR L s (.no : M α) K := fun _ _ => trivial
theorem s_end {a : α} (h : ∀ ρ, Fits L ρ → K a .nx ρ) : SR L sNx (.ok a) K := fun ρ f => ⟨_, ρ, rfl, h ρ f⟩
theorem s_ct {a : α} (h : ∀ ρ, Fits L ρ → K a .ct ρ) : SR L (fun ρ => .ok .ct ρ) (.ok a) K := fun ρ f => ⟨_, ρ, rfl, h ρ f⟩
theorem s_bk {a : α} (h : ∀ ρ, Fits L ρ → K a .bk ρ) : SR L (fun ρ => .ok .bk ρ) (.ok a) K := fun ρ f => ⟨_, ρ, rfl, h ρ f⟩
theorem s_retN {a : α} (h : ∀ ρ, Fits L ρ → K a (.rt .none) ρ) : SR L (fun ρ => .ok (.rt .none) ρ) (.ok a) K := fun ρ f => ⟨_, ρ, rfl, h ρ f⟩
theorem s_ret {a : α} (he : EG L e v L1) (hf : frzL L1 v = some (d, L2)) (h : ∀ ρ, Fits L2 ρ → K a (.rt d) ρ) : SR L (sRet e) (.ok a) K := fun ρ f => by
  obtain ⟨ρ1, e1, q1⟩ := he ρ f
  obtain ⟨ρ2, e2, q2⟩ := frzL_ok hf ρ1 q1
  exact ⟨_, ρ2, by simp only [sRet, e1, e2, Rs.bind_ok], h ρ2 q2⟩
/-- what ends is not followed -/
def Ends (s : Rho → Rs Fl) : Prop := ∀ ρ ρ', s ρ ≠ .ok .nx ρ'
theorem n_ret : Ends (sRet e) := fun ρ ρ' h => by
  unfold sRet at h
  cases e0 : e ρ with
  | ok a ρ1 =>
    rw [e0, Rs.bind_ok] at h
    cases e1 : frz a ρ1 with
    | ok d ρ2 => rw [e1] at h; cases h
    | err x ρ2 => rw [e1] at h; cases h
    | bad => rw [e1] at h; cases h
  | err x ρ1 => rw [e0] at h; cases h
  | bad => rw [e0] at h; cases h
theorem n_retN : Ends (fun ρ => .ok (.rt .none) ρ) := fun ρ ρ' h => by cases h
theorem n_ct : Ends (fun ρ => .ok .ct ρ) := fun ρ ρ' h => by cases h
theorem n_bk : Ends (fun ρ => .ok .bk ρ) := fun ρ ρ' h => by cases h
theorem n_bad : Ends sBad := fun ρ ρ' h => by cases h
theorem n_seq (h : Ends t) : Ends (sSeq s t) := fun ρ ρ' e => by
  unfold sSeq at e
  cases e0 : s ρ with
  | ok f ρ1 =>
    rw [e0, Rs.bind_ok] at e
    cases f with
    | nx => exact h ρ1 ρ' e
    | _ => cases e
  | err x ρ1 => rw [e0] at e; cases e
  | bad => rw [e0] at e; cases e
theorem n_if (h : Ends A) (h' : Ends B) : Ends (sIfS c A B) := fun ρ ρ' e => by
  unfold sIfS at e
  cases e0 : asB c ρ with
  | ok k ρ1 =>
    rw [e0, Rs.bind_ok] at e
    cases k with
    | true => exact h ρ1 ρ' e
    | false => exact h' ρ1 ρ' e
  | err x ρ1 => rw [e0] at e; cases e
  | bad => rw [e0] at e; cases e
theorem s_stop (h : SR L s m K) (n : Ends s) : SR L (sSeq s t) m K := h.eq fun ρ => by
  unfold sSeq
  cases e : s ρ with
  | ok f ρ1 =>
    cases f with
    | nx => exact absurd e (n ρ ρ1)
    | _ => rfl
  | err x ρ1 => rfl
  | bad => rfl
theorem s_if (hc : EG L c v L1) (hA : p = true → SR L1 A mA K) (hB : p = false → SR L1 B mB K) (hx : contL L1 v = some (.bool p) := by rfl) : SR L (sIfS c A B) (if p = true then mA else mB) K := fun ρ f => by
  obtain ⟨ρ1, e1, q1⟩ := e_asB hc hx ρ f
  cases p with
  | true =>
    have : sIfS c A B ρ = A ρ1 := by simp only [sIfS, e1, Rs.bind_ok, if_true]
    rw [this]
    exact hA rfl ρ1 q1
  | false =>
    have : sIfS c A B ρ = B ρ1 := by simp only [sIfS, e1, Rs.bind_ok, Bool.false_eq_true, if_false]
    rw [this]
    exact hB rfl ρ1 q1
theorem seq_if (ρ : Rho) : sSeq (sIfS c A B) t ρ = sIfS c (sSeq A t) (sSeq B t) ρ := by
  unfold sSeq sIfS
  cases asB c ρ with
  | ok k ρ1 => cases k <;> rfl
  | err x ρ1 => rfl
  | bad => rfl
/-- both ways, each with what follows -/
theorem s_dup (hc : EG L c v L1) (hA : p = true → SR L1 (sSeq A t) mA K) (hB : p = false → SR L1 (sSeq B t) mB K) (hx : contL L1 v = some (.bool p) := by rfl) : SR L (sSeq (sIfS c A B) t) (if p = true then mA else mB) K :=
  (s_if hc hA hB hx).eq fun ρ => seq_if ρ
/-- the first way ends -/
theorem s_ifE (hc : EG L c v L1) (n : Ends A) (hA : p = true → SR L1 A mA K) (hB : p = false → SR L1 (sSeq B t) mB K) (hx : contL L1 v = some (.bool p) := by rfl) : SR L (sSeq (sIfS c A B) t) (if p = true then mA else mB) K :=
  s_dup hc (fun e => s_stop (hA e) n) hB hx
def KJ (Lj : σ → List Pat) (s : σ) (f : Fl) (ρ : Rho) : Prop := f = .nx ∧ Fits (Lj s) ρ
/-- the ways join -/
theorem s_join {nA nB : M σ} {k : σ → M α} (Lj : σ → List Pat) (hc : EG L c v L1) (hA : p = true → SR L1 A nA (KJ Lj)) (hB : p = false → SR L1 B nB (KJ Lj)) (r : ∀ s, SR (Lj s) t (k s) K) (hx : contL L1 v = some (.bool p) := by rfl) : SR L (sSeq (sIfS c A B) t) (bd (if p = true then nA else nB) k) K := fun ρ f => by
  have h := s_if hc hA hB hx ρ f
  cases e : (if p = true then nA else nB) with
  | ok s =>
    rw [e] at h
    obtain ⟨fl, ρ1, e1, rfl, q1⟩ := h
    have : sSeq (sIfS c A B) t ρ = t ρ1 := by simp only [sSeq, e1, Rs.bind_ok]
    rw [this]
    exact r s ρ1 q1
  | er x =>
    rw [e] at h
    obtain ⟨ρ1, e1⟩ := h
    exact ⟨ρ1, by simp only [sSeq, e1, Rs.bind_err]⟩
  | no => trivial
theorem kj {Lj : σ → List Pat} {s : σ} (l : Les L (Lj s)) : ∀ ρ, Fits L ρ → KJ Lj s .nx ρ := fun ρ f => ⟨rfl, f.le l⟩

/-! ### loops -/
def KF (Lf : σ → List Pat) (s : σ) (f : Fl) (ρ : Rho) : Prop := (f = .nx ∨ f = .ct) ∧ Fits (Lf s) ρ
theorem kf {Lf : σ → List Pat} {s : σ} (l : Les L (Lf s)) : ∀ ρ, Fits L ρ → KF Lf s .nx ρ := fun ρ f => ⟨.inl rfl, f.le l⟩
theorem kfc {Lf : σ → List Pat} {s : σ} (l : Les L (Lf s)) : ∀ ρ, Fits L ρ → KF Lf s .ct ρ := fun ρ f => ⟨.inr rfl, f.le l⟩
def KO (Lf : σ → List Pat) (KR : R → Fl → Rho → Prop) (o : Oc σ R) (f : Fl) (ρ : Rho) : Prop :=
  match o with
  | .nx s => (f = .nx ∨ f = .ct) ∧ Fits (Lf s) ρ
  | .bk s => f = .bk ∧ Fits (Lf s) ρ
  | .rt r => (∃ d, f = .rt d) ∧ KR r f ρ
theorem ko {Lf : σ → List Pat} {KR : R → Fl → Rho → Prop} {s : σ} (l : Les L (Lf s)) : ∀ ρ, Fits L ρ → KO Lf KR (.nx s) .nx ρ := fun ρ f => ⟨.inl rfl, f.le l⟩
theorem koc {Lf : σ → List Pat} {KR : R → Fl → Rho → Prop} {s : σ} (l : Les L (Lf s)) : ∀ ρ, Fits L ρ → KO Lf KR (.nx s) .ct ρ := fun ρ f => ⟨.inr rfl, f.le l⟩
theorem kob {Lf : σ → List Pat} {KR : R → Fl → Rho → Prop} {s : σ} (l : Les L (Lf s)) : ∀ ρ, Fits L ρ → KO Lf KR (.bk s) .bk ρ := fun ρ f => ⟨rfl, f.le l⟩
theorem kor {Lf : σ → List Pat} {KR : R → Fl → Rho → Prop} {r : R} {d : D} (h : ∀ ρ, Fits L ρ → KR r (.rt d) ρ) : ∀ ρ, Fits L ρ → KO Lf KR (.rt r) (.rt d) ρ := fun ρ f => ⟨⟨d, rfl⟩, h ρ f⟩
variable {γ : Type} [Emb γ] {it : Rho → Rs (List D)} {tg : D → Rho → Rs Fl}
theorem fold_ok {f : γ → σ → M σ} {Lf : σ → List Pat} (hb : ∀ x s, ∃ Lg, EG (Lf s) (tg (emb x)) .nx Lg ∧ SR Lg body (f x s) (KF Lf)) : ∀ (xs : List γ) (s : σ), SR (Lf s) (sLoop tg body (xs.map emb)) (foldM f xs s) (KJ Lf)
  | [], s => fun ρ q => ⟨.nx, ρ, rfl, rfl, q⟩
  | x :: xs, s => fun ρ q => by
    obtain ⟨Lg, h1, h2⟩ := hb x s
    obtain ⟨ρ1, e1, q1⟩ := h1 ρ q
    have h3 := h2 ρ1 q1
    have e0 : sLoop tg body ((x :: xs).map emb) ρ = (body ρ1).bind fun f ρ => match f with
      | .nx => sLoop tg body (xs.map emb) ρ
      | .ct => sLoop tg body (xs.map emb) ρ
      | .bk => .ok .nx ρ
      | .rt d => .ok (.rt d) ρ := by
      show thenG (tg (emb x) ρ) _ = _
      rw [e1]; rfl
    unfold foldM
    rw [e0]
    cases e : f x s with
    | ok s' =>
      rw [e] at h3
      obtain ⟨fl, ρ2, e2, q2, q3⟩ := h3
      rw [e2, Rs.bind_ok]
      have := fold_ok hb xs s' ρ2 q3
      rcases q2 with rfl | rfl
      · exact this
      · exact this
    | er x =>
      rw [e] at h3
      obtain ⟨ρ2, e2⟩ := h3
      exact ⟨ρ2, by rw [e2]; rfl⟩
    | no => trivial
theorem loop_ok {f : γ → σ → M (Oc σ R)} {Lf : σ → List Pat} {KR : R → Fl → Rho → Prop} (hb : ∀ x s, ∃ Lg, EG (Lf s) (tg (emb x)) .nx Lg ∧ SR Lg body (f x s) (KO Lf KR)) : ∀ (xs : List γ) (s : σ), SR (Lf s) (sLoop tg body (xs.map emb)) (loopM f xs s) (fun o f ρ => match o with | .nx s => f = .nx ∧ Fits (Lf s) ρ | .bk _ => False | .rt r => (∃ d, f = .rt d) ∧ KR r f ρ)
  | [], s => fun ρ q => ⟨.nx, ρ, rfl, rfl, q⟩
  | x :: xs, s => fun ρ q => by
    obtain ⟨Lg, h1, h2⟩ := hb x s
    obtain ⟨ρ1, e1, q1⟩ := h1 ρ q
    have h3 := h2 ρ1 q1
    have e0 : sLoop tg body ((x :: xs).map emb) ρ = (body ρ1).bind fun f ρ => match f with
      | .nx => sLoop tg body (xs.map emb) ρ
      | .ct => sLoop tg body (xs.map emb) ρ
      | .bk => .ok .nx ρ
      | .rt d => .ok (.rt d) ρ := by
      show thenG (tg (emb x) ρ) _ = _
      rw [e1]; rfl
    unfold loopM
    rw [e0]
    cases e : f x s with
    | ok o =>
      rw [e] at h3
      obtain ⟨fl, ρ2, e2, q2⟩ := h3
      rw [e2, Rs.bind_ok]
      cases o with
      | nx s' =>
        have := loop_ok hb xs s' ρ2 q2.2
        rcases q2.1 with rfl | rfl
        · exact this
        · exact this
      | bk s' =>
        obtain ⟨rfl, q3⟩ := q2
        exact ⟨.nx, ρ2, rfl, rfl, q3⟩
      | rt r =>
        obtain ⟨⟨d, rfl⟩, q3⟩ := q2
        exact ⟨.rt d, ρ2, rfl, ⟨d, rfl⟩, q3⟩
    | er x =>
      rw [e] at h3
      obtain ⟨ρ2, e2⟩ := h3
      exact ⟨ρ2, by rw [e2]; rfl⟩
    | no => trivial
/-- behind a loop that may return -/
def lk {σ R α : Type} (k : σ → M α) (ir : R → α) (o : Oc σ R) : M α :=
  match o with
  | .nx s => k s
  | .bk _ => .no
  | .rt r => .ok (ir r)
@[simp] theorem lk_nx {σ R α : Type} {k : σ → M α} {ir : R → α} {s : σ} : lk k ir (.nx s) = k s := (rfl)
@[simp] theorem lk_rt {σ R α : Type} {k : σ → M α} {ir : R → α} {r : R} : lk k ir (.rt r) = .ok (ir r) := (rfl)
theorem s_for {f : γ → σ → M σ} {xs : List γ} {s0 : σ} {k : σ → M α} (Lf : σ → List Pat) (hi : EG L it (xs.map emb) L1) (hl : Les L1 (Lf s0)) (hb : ∀ x s, ∃ Lg, EG (Lf s) (tg (emb x)) .nx Lg ∧ SR Lg body (f x s) (KF Lf)) (r : ∀ s, SR (Lf s) t (k s) K) : SR L (sSeq (sFor it tg body) t) (bd (foldM f xs s0) k) K := fun ρ q => by
  obtain ⟨ρ1, e1, q1⟩ := hi ρ q
  have h := fold_ok hb xs s0 ρ1 (q1.le hl)
  have e0 : sFor it tg body ρ = sLoop tg body (xs.map emb) ρ1 := by simp only [sFor, e1, Rs.bind_ok]
  unfold sSeq
  rw [e0]
  cases e : foldM f xs s0 with
  | ok s =>
    rw [e] at h
    obtain ⟨fl, ρ2, e2, rfl, q2⟩ := h
    rw [e2, Rs.bind_ok]
    exact r s ρ2 q2
  | er x =>
    rw [e] at h
    obtain ⟨ρ2, e2⟩ := h
    exact ⟨ρ2, by rw [e2]; rfl⟩
  | no => trivial
theorem s_loop {f : γ → σ → M (Oc σ R)} {xs : List γ} {s0 : σ} {k : σ → M α} {ir : R → α} (Lf : σ → List Pat) (hi : EG L it (xs.map emb) L1) (hl : Les L1 (Lf s0)) (hb : ∀ x s, ∃ Lg, EG (Lf s) (tg (emb x)) .nx Lg ∧ SR Lg body (f x s) (KO Lf fun r => K (ir r))) (r : ∀ s, SR (Lf s) t (k s) K) : SR L (sSeq (sFor it tg body) t) (bd (loopM f xs s0) (lk k ir)) K := fun ρ q => by
  obtain ⟨ρ1, e1, q1⟩ := hi ρ q
  have h := loop_ok hb xs s0 ρ1 (q1.le hl)
  have e0 : sFor it tg body ρ = sLoop tg body (xs.map emb) ρ1 := by simp only [sFor, e1, Rs.bind_ok]
  unfold sSeq
  rw [e0]
  cases e : loopM f xs s0 with
  | ok o =>
    rw [e] at h
    obtain ⟨fl, ρ2, e2, q2⟩ := h
    cases o with
    | nx s =>
      obtain ⟨rfl, q2⟩ := q2
      rw [e2, Rs.bind_ok]
      exact r s ρ2 q2
    | bk s => exact q2.elim
    | rt r =>
      obtain ⟨⟨d, rfl⟩, q2⟩ := q2
      exact ⟨.rt d, ρ2, by rw [e2]; rfl, q2⟩
  | er x =>
    rw [e] at h
    obtain ⟨ρ2, e2⟩ := h
    exact ⟨ρ2, by rw [e2]; rfl⟩
  | no => trivial
theorem while_ok {cd : σ → Option Bool} {f : σ → M (Oc σ R)} {Lf : σ → List Pat} {KR : R → Fl → Rho → Prop} (hc : ∀ s k, cd s = some k → EG (Lf s) (asB c) k (Lf s)) (hb : ∀ s, SR (Lf s) body (f s) (KO Lf KR)) : ∀ (n : Nat) (s : σ), SR (Lf s) (sWhile c body n) (whileM cd f n s) (fun o f ρ => match o with | .nx s => f = .nx ∧ Fits (Lf s) ρ | .bk _ => False | .rt r => (∃ d, f = .rt d) ∧ KR r f ρ)
  | 0, s => fun _ _ => trivial
  | n + 1, s => fun ρ q => by
    unfold whileM
    cases ec : cd s with
    | none => trivial
    | some k =>
      obtain ⟨ρ1, e1, q1⟩ := hc s k ec ρ q
      unfold sWhile
      rw [e1, Rs.bind_ok]
      rw [bo_some]
      cases k with
      | false => exact ⟨.nx, ρ1, rfl, rfl, q1⟩
      | true =>
        have h3 := hb s ρ1 q1
        rw [if_pos rfl, if_pos rfl]
        cases e : f s with
        | ok o =>
          rw [e] at h3
          obtain ⟨fl, ρ2, e2, q2⟩ := h3
          rw [e2, Rs.bind_ok]
          cases o with
          | nx s' =>
            have := while_ok hc hb n s' ρ2 q2.2
            rcases q2.1 with rfl | rfl
            · exact this
            · exact this
          | bk s' =>
            obtain ⟨rfl, q3⟩ := q2
            exact ⟨.nx, ρ2, rfl, rfl, q3⟩
          | rt r =>
            obtain ⟨⟨d, rfl⟩, q3⟩ := q2
            exact ⟨.rt d, ρ2, rfl, ⟨d, rfl⟩, q3⟩
        | er x =>
          rw [e] at h3
          obtain ⟨ρ2, e2⟩ := h3
          exact ⟨ρ2, by rw [e2]; rfl⟩
        | no => trivial
theorem s_while {cd : σ → Option Bool} {f : σ → M (Oc σ R)} {n : Nat} {s0 : σ} {k : σ → M α} {ir : R → α} (Lf : σ → List Pat) (hl : Les L (Lf s0)) (hc : ∀ s k, cd s = some k → EG (Lf s) (asB c) k (Lf s)) (hb : ∀ s, SR (Lf s) body (f s) (KO Lf fun r => K (ir r))) (r : ∀ s, SR (Lf s) t (k s) K) : SR L (sSeq (sWhile c body n) t) (bd (whileM cd f n s0) (lk k ir)) K := fun ρ q => by
  have h := while_ok hc hb n s0 ρ (q.le hl)
  unfold sSeq
  cases e : whileM cd f n s0 with
  | ok o =>
    rw [e] at h
    obtain ⟨fl, ρ2, e2, q2⟩ := h
    cases o with
    | nx s =>
      obtain ⟨rfl, q2⟩ := q2
      rw [e2, Rs.bind_ok]
      exact r s ρ2 q2
    | bk s => exact q2.elim
    | rt r =>
      obtain ⟨⟨d, rfl⟩, q2⟩ := q2
      exact ⟨.rt d, ρ2, by rw [e2]; rfl, q2⟩
  | er x =>
    rw [e] at h
    obtain ⟨ρ2, e2⟩ := h
    exact ⟨ρ2, by rw [e2]; rfl⟩
  | no => trivial

/-! ### defs -/
def RFp {R : Type} (m : M R) (r : FR) (E : R → D) (O : R → List Cell → Prop) : Prop :=
  match m with
  | .ok a => ∃ outs, r = .ok (E a) outs ∧ O a outs
  | .er x => r = .err x
  | .no => True
structure RF {R : Type} (m : M R) (r : FR) (E : R → D) (O : R → List Cell → Prop) : Prop where
  h : RFp m r E O
/-- a def that changes nothing -/
abbrev RF0 {R : Type} [Emb R] (m : M R) (r : FR) : Prop := RF m r emb fun _ _ => True
/-- a def that draws from the row, its first argument -/
abbrev RFW {R S : Type} [Emb R] [Emb S] (m : M (R × S)) (r : FR) : Prop := RF m r (fun a => emb a.1) fun a outs => ∃ rest, outs = Cell.own true (emb a.2) :: rest
def KT {R : Type} [Emb R] (a : R) (f : Fl) (ρ : Rho) : Prop := f = .rt (emb a) ∨ (f = .nx ∧ emb a = .none)
def KW {R S : Type} [Emb R] [Emb S] (a : R × S) (f : Fl) (ρ : Rho) : Prop := (f = .rt (emb a.1) ∨ (f = .nx ∧ emb a.1 = .none)) ∧ ρ[0]? = some (Cell.own true (emb a.2))
theorem fits_self : ∀ {ρ : Rho}, Fits (ρ.map Pat.ex) ρ
  | [] => trivial
  | _ :: _ => ⟨rfl, fits_self⟩
theorem rf0 {R : Type} [Emb R] {m : M R} {n : Nat} {ms : List Bool} (L : List Pat) (h : SR L s m KT) (hL : (initR n ms ds).map Pat.ex = L := by rfl) (hl : ds.length = ms.length := by rfl) : RF0 m (defR n ms s ds) := by
  have h := h (initR n ms ds) (by rw [← hL]; exact fits_self)
  refine ⟨?_⟩
  unfold defR
  rw [if_pos hl]
  cases m with
  | ok a =>
    obtain ⟨f, ρ', e, k⟩ := h
    rcases k with rfl | ⟨rfl, k⟩
    · exact ⟨_, by rw [e], trivial⟩
    · exact ⟨_, by rw [e, k], trivial⟩
  | er x =>
    obtain ⟨ρ', e⟩ := h
    show _ = FR.err x
    rw [e]
  | no => trivial
theorem rfw {R S : Type} [Emb R] [Emb S] {m : M (R × S)} {n : Nat} {ms : List Bool} (L : List Pat) (h : SR L s m KW) (hL : (initR n (true :: ms) ds).map Pat.ex = L := by rfl) (hl : ds.length = (true :: ms).length := by rfl) : RFW m (defR n (true :: ms) s ds) := by
  have h := h (initR n (true :: ms) ds) (by rw [← hL]; exact fits_self)
  refine ⟨?_⟩
  unfold defR
  rw [if_pos hl]
  cases m with
  | ok a =>
    obtain ⟨f, ρ', e, k, k0⟩ := h
    have outs : ∃ rest, (ρ'.take (true :: ms).length).map outC = Cell.own true (emb a.2) :: rest := by
      match ρ', k0 with
      | c :: r, k0 =>
        have k0 : c = _ := Option.some.inj k0
        subst k0
        exact ⟨_, rfl⟩
    rcases k with rfl | ⟨rfl, k⟩
    · exact ⟨_, by rw [e], outs⟩
    · exact ⟨_, by rw [e]; show FR.ok PyData.none _ = FR.ok (emb a.1) _; rw [k], outs⟩
  | er x =>
    obtain ⟨ρ', e⟩ := h
    show _ = FR.err x
    rw [e]
  | no => trivial
theorem kt {R : Type} [Emb R] {a : R} (h : emb a = d) : ∀ ρ, Fits L ρ → KT a (.rt d) ρ := fun _ _ => .inl (by rw [h])
theorem ktn : ∀ ρ, Fits L ρ → KT () .nx ρ := fun _ _ => .inr ⟨rfl, rfl⟩
theorem kw {R S : Type} [Emb R] [Emb S] {a : R × S} (h : emb a.1 = d) (h0 : L[0]? = some (.ex (.own true (emb a.2)))) : ∀ ρ, Fits L ρ → KW a (.rt d) ρ := fun _ f => ⟨.inl (by rw [h]), f.at h0⟩
theorem kwn {S : Type} [Emb S] {r : S} (h0 : L[0]? = some (.ex (.own true (emb r)))) : ∀ ρ, Fits L ρ → KW ((), r) .nx ρ := fun _ f => ⟨.inr ⟨rfl, rfl⟩, f.at h0⟩
/-! calls whose result is known -/
theorem t_call {R : Type} [Emb R] {m : M R} {a : R} (r : RF0 m (φ ds)) (h : m.o = some a) (hs : EG L ss vs L1) (hf : frzsL L1 vs = some (ds, L2) := by rfl) : EG L (sCall φ ss) (.d (emb a)) L2 := by
  have := o_el h
  subst this
  obtain ⟨outs, e, _⟩ := r.h
  exact e_call hs e hf
theorem t_row {R S : Type} [Emb R] [Emb S] {m : M (R × S)} {a : R × S} {ms : List Bool} {d0 : D} {p : Bool} (r : RFW m (φ (d0 :: ds))) (h : m.o = some a) (hs : EG L ss (.bv i :: vs) L1) (hn : ms = true :: List.replicate vs.length false := by rfl) (hf : frzsL L1 vs = some (ds, L2) := by rfl) (h1 : L2[i]? = some (.ex (.own p d0)) := by rfl) (hL : L2.set i (.ex (.own p (emb a.2))) = L4 := by rfl) : EG L (sCallO ms φ ss) (.d (emb a.1)) L4 := by
  have := o_el h
  subst this
  obtain ⟨outs, e, rest, rfl⟩ := r.h
  exact e_row hs e hn hf h1 hL
/-! calls that may raise -/
theorem z_call (hs : EG L ss vs L1) (hf : frzsL L1 vs = some (ds, L2)) (ρ : Rho) (q : Fits L ρ) : ∃ ρ2, sCall φ ss ρ = callR φ ds ρ2 ∧ Fits L2 ρ2 := by
  obtain ⟨ρ1, e1, q1⟩ := hs ρ q
  obtain ⟨ρ2, e2, q2⟩ := frzsL_ok hf ρ1 q1
  exact ⟨ρ2, by simp only [sCall, e1, e2, Rs.bind_ok], q2⟩
theorem s_callE {S : Type} [Emb S] {n : M S} {k : S → M α} (r : RF0 n (φ ds)) (hs : EG L ss vs L1) (hf : frzsL L1 vs = some (ds, L2)) (h : ∀ x, SR L2 t (k x) K) : SR L (sSeq (sExp (sCall φ ss)) t) (bd n k) K := fun ρ q => by
  obtain ⟨ρ2, e, q2⟩ := z_call (φ := φ) hs hf ρ q
  cases n with
  | ok x =>
    obtain ⟨outs, e1, _⟩ := r.h
    have : sSeq (sExp (sCall φ ss)) t ρ = t ρ2 := by simp only [sSeq, sExp, e, callR, e1, Rs.bind_ok]
    rw [this]
    exact h x ρ2 q2
  | er x =>
    have r : φ ds = .err x := r.h
    exact ⟨ρ2, by simp only [sSeq, sExp, e, callR, r, Rs.bind_err]⟩
  | no => trivial
theorem s_callA {S : Type} [Emb S] {n : M S} {k : S → M α} (r : RF0 n (φ ds)) (hs : EG L ss vs L1) (hf : frzsL L1 vs = some (ds, L2)) (h : ∀ x, SR (L2.set i (.ex (.val (emb x)))) t (k x) K) (hq : L2[i]? = some q := by rfl) (o : okP q = true := by rfl) : SR L (sSeq (sAsg i (liF (sCall φ ss))) t) (bd n k) K := fun ρ g => by
  obtain ⟨ρ2, e, q2⟩ := z_call (φ := φ) hs hf ρ g
  cases n with
  | ok x =>
    obtain ⟨outs, e1, _⟩ := r.h
    have g1 := q2.put (c := .val (emb x)) hq o
    have : sSeq (sAsg i (liF (sCall φ ss))) t ρ = t (ρ2.set i (.val (emb x))) := by simp only [sSeq, sAsg, liF, e, callR, e1, Rs.bind_ok, frz, g1.1]
    rw [this]
    exact h x _ g1.2
  | er x =>
    have r : φ ds = .err x := r.h
    exact ⟨ρ2, by simp only [sSeq, sAsg, liF, e, callR, r, Rs.bind_err]⟩
  | no => trivial
theorem s_callR {S : Type} [Emb S] {n : M S} {k : S → α} (r : RF0 n (φ ds)) (hs : EG L ss vs L1) (hf : frzsL L1 vs = some (ds, L2)) (h : ∀ x ρ, Fits L2 ρ → K (k x) (.rt (emb x)) ρ) : SR L (sRet (sCall φ ss)) (bd n fun x => .ok (k x)) K := fun ρ q => by
  obtain ⟨ρ2, e, q2⟩ := z_call (φ := φ) hs hf ρ q
  cases n with
  | ok x =>
    obtain ⟨outs, e1, _⟩ := r.h
    exact ⟨_, ρ2, by simp only [sRet, e, callR, e1, Rs.bind_ok, frz], h x ρ2 q2⟩
  | er x =>
    have r : φ ds = .err x := r.h
    exact ⟨ρ2, by simp only [sRet, e, callR, r, Rs.bind_err]⟩
  | no => trivial
end
end T
/-! T, part 3: typed operations, comprehensions, what is walked. -/
namespace T
open PySem PySem.Spec PyProof.Rows L2 L3
open Emb (emb)

/-! ### numbers -/
section
variable {i j : Int} {x y : Str} {b c : Bool}
theorem o_add : binD .Add (.int i) (.int j) = some (.int (i + j)) := (rfl)
theorem o_addF : addD (.int i) (.int j) = some (.int (i + j)) := (rfl)
theorem o_sub : binD .Sub (.int i) (.int j) = some (.int (i - j)) := (rfl)
theorem o_neg : negD (.int i) = some (.int (-i)) := (rfl)
@[irreducible] def mulO (i j : Int) : Option Int := if (inW i || inW j) = true then some (i * j) else none
theorem o_mul {k : Int} (h : mulO i j = some k) : binD .Mult (.int i) (.int j) = some (.int k) := by
  unfold mulO at h
  show (if (inW i || inW j) = true then some (PyData.int (i * j)) else none) = _
  split at h
  · rw [if_pos ‹_›]; cases h; rfl
  · cases h
theorem o_mulc (h : (inW i || inW j) = true) : binD .Mult (.int i) (.int j) = some (.int (i * j)) := by
  show (if (inW i || inW j) = true then some (PyData.int (i * j)) else none) = _
  rw [if_pos h]
theorem inW_r (h : inW j = true) : (inW i || inW j) = true := by rw [h, Bool.or_true]
theorem inW_l (h : inW i = true) : (inW i || inW j) = true := by rw [h, Bool.true_or]
@[simp] theorem mulO_eq (h : -(2 ^ 64) < i ∧ i < 2 ^ 64) : mulO i j = some (i * j) := by
  unfold mulO; rw [inW_iff.mpr h]; rfl
@[irreducible] def fdivO (i j : Int) : Option Int := if divOk j = true then some (i.fdiv j) else none
theorem o_fdiv {k : Int} (h : fdivO i j = some k) : binD .FloorDiv (.int i) (.int j) = some (.int k) := by
  unfold fdivO at h
  show (if divOk j = true then some (PyData.int (i.fdiv j)) else none) = _
  split at h
  · rw [if_pos ‹_›]; cases h; rfl
  · cases h
theorem o_fdivc (h : divOk j = true) : binD .FloorDiv (.int i) (.int j) = some (.int (i.fdiv j)) := by
  show (if divOk j = true then some (PyData.int (i.fdiv j)) else none) = _
  rw [if_pos h]
@[irreducible] def modO (i j : Int) : Option Int := if (j != 0) = true then some (i.fmod j) else none
theorem o_mod {k : Int} (h : modO i j = some k) : binD .Mod (.int i) (.int j) = some (.int k) := by
  unfold modO at h
  show (if (j != 0) = true then some (PyData.int (i.fmod j)) else none) = _
  split at h
  · rw [if_pos ‹_›]; cases h; rfl
  · cases h
theorem o_modc (h : (j != 0) = true) : binD .Mod (.int i) (.int j) = some (.int (i.fmod j)) := by
  show (if (j != 0) = true then some (PyData.int (i.fmod j)) else none) = _
  rw [if_pos h]
@[irreducible] def powO (i j : Int) : Option Int := if powOk i j = true then some (i ^ j.toNat) else none
theorem o_pow {k : Int} (h : powO i j = some k) : binD .Pow (.int i) (.int j) = some (.int k) := by
  unfold powO at h
  show (if powOk i j = true then some (PyData.int (i ^ j.toNat)) else none) = _
  split at h
  · rw [if_pos ‹_›]; cases h; rfl
  · cases h
@[irreducible] def shlO (i j : Int) : Option Int := if powOk i j = true then some (i * 2 ^ j.toNat) else none
theorem o_shl {k : Int} (h : shlO i j = some k) : binD .LShift (.int i) (.int j) = some (.int k) := by
  unfold shlO at h
  show (if powOk i j = true then some (PyData.int (i * 2 ^ j.toNat)) else none) = _
  split at h
  · rw [if_pos ‹_›]; cases h; rfl
  · cases h
@[irreducible] def shrO (i j : Int) : Option Int := if 0 ≤ j then some (i / 2 ^ j.toNat) else none
theorem o_shr {k : Int} (h : shrO i j = some k) : binD .RShift (.int i) (.int j) = some (.int k) := by
  unfold shrO at h
  show (if decide (0 ≤ j) = true then some (PyData.int (i / 2 ^ j.toNat)) else none) = _
  split at h
  · rw [if_pos (decide_eq_true ‹_›)]; cases h; rfl
  · cases h
theorem o_and : binD .BitAnd (.int i) (.int j) = some (.int (Builtin.bitAnd i j)) := (rfl)
theorem o_lt : ltD (.int i) (.int j) = some (.bool (decide (i < j))) := (rfl)
theorem o_le : leD (.int i) (.int j) = some (.bool (decide (i ≤ j))) := (rfl)
theorem o_gt : gtD (.int i) (.int j) = some (.bool (decide (j < i))) := (rfl)
theorem o_ge : geD (.int i) (.int j) = some (.bool (decide (j ≤ i))) := (rfl)
theorem o_int : L3.intD [.int i] = some (.int i) := (rfl)
theorem o_intb : L3.intD [.bool b] = some (.int (if b then 1 else 0)) := (rfl)
def absI (i : Int) : Int := if i < 0 then -i else i
theorem o_abs : absD [.int i] = some (.int (absI i)) := (rfl)
def minI2 (i j : Int) : Int := if j < i then j else i
def maxI2 (i j : Int) : Int := if j > i then j else i
theorem o_min2 : minD [.int i, .int j] = some (.int (minI2 i j)) := (rfl)
theorem o_max2 : maxD [.int i, .int j] = some (.int (maxI2 i j)) := (rfl)
theorem a_add : augD .Add (.int i) (.int j) = some (.int (i + j)) := (rfl)
theorem a_sub : augD .Sub (.int i) (.int j) = some (.int (i - j)) := (rfl)
end
/-! ### equal, in -/
class Eqe (α : Type) extends Emb α where
  dec : DecidableEq α
  pl : ∀ a : α, (emb a).plain = true
  eqv : ∀ a b : α, PyData.eqv (emb a) (emb b) = true ↔ a = b
  dp : Nat
  dle : ∀ a : α, (emb a).depth ≤ dp
  nn : Bool
  notN : nn = true → ∀ a : α, emb a ≠ PyData.none
instance (priority := 50) {α : Type} [h : Eqe α] : DecidableEq α := h.dec
instance : Eqe Int := ⟨inferInstance, fun _ => by simp [emb, PyData.plain], fun a b => by simp [emb, PyData.eqv], 1, fun _ => by simp [emb, PyData.depth], true, fun _ _ h => by cases h⟩
instance : Eqe Bool := ⟨inferInstance, fun _ => by simp [emb, PyData.plain], fun a b => by simp [emb, PyData.eqv], 1, fun _ => by simp [emb, PyData.depth], true, fun _ _ h => by cases h⟩
instance : Eqe Str := ⟨inferInstance, fun _ => by simp [emb, PyData.plain], fun a b => by simp [emb, PyData.eqv], 1, fun _ => by simp [emb, PyData.depth], true, fun _ _ h => by cases h⟩
instance : Eqe Unit := ⟨inferInstance, fun _ => by simp [emb, PyData.plain], fun a b => by simp [emb, PyData.eqv], 1, fun _ => by simp [emb, PyData.depth], false, fun h => by cases h⟩
section
variable {α β γ δ : Type} [Eqe α] [Eqe β] [Eqe γ] [Eqe δ]
theorem pl_map : ∀ l : List α, PyData.plainAll (l.map emb) = true
  | [] => by simp [PyData.plainAll]
  | x :: r => by simp [PyData.plainAll, Eqe.pl x, pl_map r]
theorem eqv_map : ∀ l m : List α, PyData.eqvAll (l.map emb) (m.map emb) = true ↔ l = m
  | [], [] => by simp [PyData.eqvAll]
  | [], _ :: _ => by simp [PyData.eqvAll]
  | _ :: _, [] => by simp [PyData.eqvAll]
  | x :: r, y :: s => by
    simp only [List.map_cons, PyData.eqvAll, Bool.and_eq_true, Eqe.eqv x y, eqv_map r s, List.cons.injEq]
theorem dp_map : ∀ l : List α, PyData.depthAll (l.map emb) ≤ Eqe.dp α
  | [] => by simp [PyData.depthAll]
  | x :: r => by
    simp only [List.map_cons, PyData.depthAll]
    exact Nat.max_le.mpr ⟨Eqe.dle x, dp_map r⟩
instance : Eqe (List α) := ⟨inferInstance, fun l => by simp only [emb, PyData.plain]; exact pl_map l, fun l m => by simp only [emb, PyData.eqv]; exact eqv_map l m, Eqe.dp α + 1, fun l => by simp only [emb, PyData.depth]; exact Nat.succ_le_succ (dp_map l), true, fun _ _ h => by cases h⟩
theorem tup_eq {t u : Tup α} : t = u ↔ t.l = u.l := by cases t; cases u; simp
instance : Eqe (Tup α) := ⟨fun t u => decidable_of_iff _ tup_eq.symm, fun l => by simp only [emb, PyData.plain]; exact pl_map l.l, fun l m => by simp only [emb, PyData.eqv]; exact (eqv_map l.l m.l).trans tup_eq.symm, Eqe.dp α + 1, fun l => by simp only [emb, PyData.depth]; exact Nat.succ_le_succ (dp_map l.l), true, fun _ _ h => by cases h⟩
instance : Eqe (α × β) := ⟨inferInstance, fun p => by simp [emb, PyData.plain, PyData.plainAll, Eqe.pl], fun p q => by simp only [emb, PyData.eqv, PyData.eqvAll, Bool.and_eq_true, Eqe.eqv, Prod.ext_iff, and_true], max (Eqe.dp α) (Eqe.dp β) + 1, fun p => by
  simp only [emb, PyData.depth, PyData.depthAll]
  have a := Eqe.dle p.1
  have b := Eqe.dle p.2
  omega, true, fun _ _ h => by cases h⟩
theorem t1_eq {t u : T1 α} : t = u ↔ t.a = u.a := by cases t; cases u; simp
instance : Eqe (T1 α) := ⟨fun t u => decidable_of_iff _ t1_eq.symm, fun p => by simp [emb, PyData.plain, PyData.plainAll, Eqe.pl], fun p q => by simp only [emb, PyData.eqv, PyData.eqvAll, Bool.and_eq_true, Eqe.eqv, t1_eq, and_true], Eqe.dp α + 1, fun p => by
  simp only [emb, PyData.depth, PyData.depthAll]
  have a := Eqe.dle p.a
  omega, true, fun _ _ h => by cases h⟩
theorem t3_eq {t u : T3 α β γ} : t = u ↔ t.a = u.a ∧ t.b = u.b ∧ t.c = u.c := by cases t; cases u; simp
instance : Eqe (T3 α β γ) := ⟨fun t u => decidable_of_iff _ t3_eq.symm, fun p => by simp [emb, PyData.plain, PyData.plainAll, Eqe.pl], fun p q => by simp only [emb, PyData.eqv, PyData.eqvAll, Bool.and_eq_true, Eqe.eqv, t3_eq, and_true], max (Eqe.dp α) (max (Eqe.dp β) (Eqe.dp γ)) + 1, fun p => by
  simp only [emb, PyData.depth, PyData.depthAll]
  have a := Eqe.dle p.a
  have b := Eqe.dle p.b
  have c := Eqe.dle p.c
  omega, true, fun _ _ h => by cases h⟩
theorem t4_eq {t u : T4 α β γ δ} : t = u ↔ t.a = u.a ∧ t.b = u.b ∧ t.c = u.c ∧ t.d = u.d := by cases t; cases u; simp
instance : Eqe (T4 α β γ δ) := ⟨fun t u => decidable_of_iff _ t4_eq.symm, fun p => by simp [emb, PyData.plain, PyData.plainAll, Eqe.pl], fun p q => by simp only [emb, PyData.eqv, PyData.eqvAll, Bool.and_eq_true, Eqe.eqv, t4_eq, and_true], max (max (Eqe.dp α) (Eqe.dp β)) (max (Eqe.dp γ) (Eqe.dp δ)) + 1, fun p => by
  simp only [emb, PyData.depth, PyData.depthAll]
  have a := Eqe.dle p.a
  have b := Eqe.dle p.b
  have c := Eqe.dle p.c
  have d := Eqe.dle p.d
  omega, true, fun _ _ h => by cases h⟩
theorem eqv_none {d : D} (h : d ≠ .none) : PyData.eqv .none d = false ∧ PyData.eqv d .none = false := by cases d <;> simp_all [PyData.eqv]
/-- data that is not None -/
class NNe (α : Type) extends Eqe α where
  isN : nn = true
instance : NNe Int := ⟨rfl⟩
instance : NNe Bool := ⟨rfl⟩
instance : NNe Str := ⟨rfl⟩
instance : NNe (List α) := ⟨rfl⟩
instance : NNe (Tup α) := ⟨rfl⟩
instance : NNe (α × β) := ⟨rfl⟩
instance : NNe (T1 α) := ⟨rfl⟩
instance : NNe (T3 α β γ) := ⟨rfl⟩
instance : NNe (T4 α β γ δ) := ⟨rfl⟩
end
theorem notNone {α : Type} [h : NNe α] (a : α) : emb a ≠ PyData.none := h.notN h.isN a
instance {α : Type} [NNe α] : Eqe (Option α) := ⟨inferInstance, fun o => by cases o <;> simp [emb, PyData.plain, Eqe.pl], fun o q => by
  cases o with
  | none =>
    cases q with
    | none => simp [emb, PyData.eqv]
    | some b => simp [emb, (eqv_none (notNone b)).1]
  | some a =>
    cases q with
    | none => simp [emb, (eqv_none (notNone a)).2]
    | some b => simp [emb, Eqe.eqv], Eqe.dp α + 1, fun o => by
  cases o with
  | none => simp [emb, PyData.depth]
  | some a => have := Eqe.dle a; simp only [emb]; omega, false, fun h => by cases h⟩
section
variable {α : Type} [Eqe α]
theorem eqv_dec (a b : α) : PyData.eqv (emb a) (emb b) = decide (a = b) := by
  rw [Bool.eq_iff_iff, Eqe.eqv a b, decide_eq_true_eq]
theorem o_eq {a b : α} (h : Eqe.dp α ≤ 150 := by decide) : eqD (emb a) (emb b) = some (.bool (decide (a = b))) := by
  unfold eqD
  rw [if_pos (eqOk_iff.mpr ⟨Eqe.pl a, Eqe.pl b, Nat.le_trans (Nat.min_le_left _ _) (Nat.le_trans (Eqe.dle a) h)⟩), eqv_dec]
theorem o_ne {a b : α} (h : Eqe.dp α ≤ 150 := by decide) : neD (emb a) (emb b) = some (.bool (!decide (a = b))) := by
  unfold neD
  rw [if_pos (eqOk_iff.mpr ⟨Eqe.pl a, Eqe.pl b, Nat.le_trans (Nat.min_le_left _ _) (Nat.le_trans (Eqe.dle a) h)⟩), eqv_dec]
theorem inL_map (a : α) (l : List α) : inL (emb a) (l.map emb) = decide (a ∈ l) := by
  unfold inL
  rw [List.any_map, Bool.eq_iff_iff, List.any_eq_true, decide_eq_true_eq]
  constructor
  · rintro ⟨y, hy, e⟩
    rw [Function.comp_apply, eqv_dec, decide_eq_true_eq] at e
    exact e ▸ hy
  · exact fun e => ⟨a, e, by rw [Function.comp_apply, eqv_dec]; simp⟩
theorem inOk_map {a : α} {l : List α} (h : Eqe.dp α ≤ 150) : inOk (emb a) (l.map emb) = true := inOk_iff.mpr ⟨Eqe.pl a, pl_map l, Nat.le_trans (Nat.min_le_right _ _) (Nat.le_trans (Eqe.dle a) h)⟩
theorem inD_list {x : D} {ys : List D} {neg : Bool} : inD neg x (.list ys) = if inOk x ys then some (.bool (inL x ys != neg)) else none := by cases x <;> rfl
theorem inD_tuple {x : D} {ys : List D} {neg : Bool} : inD neg x (.tuple ys) = if inOk x ys then some (.bool (inL x ys != neg)) else none := by cases x <;> rfl
theorem o_in {a : α} {l : List α} (h : Eqe.dp α ≤ 150 := by decide) : inD false (emb a) (emb l) = some (.bool (decide (a ∈ l))) := by
  show inD false (emb a) (.list (l.map emb)) = _
  rw [inD_list, if_pos (inOk_map h), inL_map, Bool.bne_false]
theorem o_ni {a : α} {l : List α} (h : Eqe.dp α ≤ 150 := by decide) : inD true (emb a) (emb l) = some (.bool (!decide (a ∈ l))) := by
  show inD true (emb a) (.list (l.map emb)) = _
  rw [inD_list, if_pos (inOk_map h), inL_map, Bool.bne_true]
theorem o_inT {a : α} {l : Tup α} (h : Eqe.dp α ≤ 150 := by decide) : inD false (emb a) (emb l) = some (.bool (decide (a ∈ l.l))) := by
  show inD false (emb a) (.tuple (l.l.map emb)) = _
  rw [inD_tuple, if_pos (inOk_map h), inL_map, Bool.bne_false]
theorem o_niT {a : α} {l : Tup α} (h : Eqe.dp α ≤ 150 := by decide) : inD true (emb a) (emb l) = some (.bool (!decide (a ∈ l.l))) := by
  show inD true (emb a) (.tuple (l.l.map emb)) = _
  rw [inD_tuple, if_pos (inOk_map h), inL_map, Bool.bne_true]
end
theorem o_isN {α : Type} [NNe α] {o : Option α} : isD (emb o) .none = some (.bool o.isNone) := by
  cases o with
  | none => rfl
  | some a =>
    show isD (emb a) .none = _
    have := notNone a
    cases e : (emb a : D) <;> first | exact absurd e this | rfl
theorem o_isnN {α : Type} [NNe α] {o : Option α} : isnD (emb o) .none = some (.bool o.isSome) := by
  cases o with
  | none => rfl
  | some a =>
    show isnD (emb a) .none = _
    have := notNone a
    cases e : (emb a : D) <;> first | exact absurd e this | rfl
theorem o_isD {d : D} : isD d .none = some (.bool (isNon d)) := by cases d <;> rfl
theorem o_isnD {d : D} : isnD d .none = some (.bool (!isNon d)) := by cases d <;> rfl

/-! ### lists, tuples -/
section
variable {α β : Type} [Emb α] [Emb β]
theorem o_len {l : List α} : lenD [emb l] = some (.int l.length) := by
  show some (PyData.int ((l.map emb).length)) = _
  rw [List.length_map]
theorem o_lenT {l : Tup α} : lenD [emb l] = some (.int l.l.length) := by
  show some (PyData.int ((l.l.map emb).length)) = _
  rw [List.length_map]
theorem at_map {l : List α} {i : Int} {a : α} (h : atI l i = some a) : atI (l.map emb) i = some (emb a) := by
  unfold atI at h ⊢
  rw [List.length_map]
  obtain ⟨j, e1, e2⟩ := Option.bind_eq_some_iff.mp h
  rw [e1]
  show (l.map emb)[j]? = _
  rw [List.getElem?_map, e2]; rfl
theorem o_ix {l : List α} {i : Int} {a : α} (h : atI l i = some a) : ixD (emb l) (.int i) = some (emb a) := by
  show ixD (.list (l.map emb)) (.int i) = _
  rw [show ixD (.list (l.map emb)) (.int i) = atI (l.map emb) i by cases l <;> rfl]
  exact at_map h
theorem o_ixT {l : Tup α} {i : Int} {a : α} (h : atI l.l i = some a) : ixD (emb l) (.int i) = some (emb a) := at_map h
theorem o_app {l : List α} {a : α} {u : Unit} (h : (if l.length < 16777216 then some () else none) = some u) : appF (l.map emb) [emb a] = some ((l ++ [a]).map emb, .none) := by
  show (if decide ((l.map emb).length < sizeLine) = true then _ else _) = _
  split at h
  · rw [List.length_map, if_pos (by rw [sizeLine_eq, decide_eq_true_eq]; assumption), List.map_append]; rfl
  · cases h
@[irreducible] def appO (l : List α) (a : α) : Option (List α) := if l.length < 16777216 then some (l ++ [a]) else none
theorem o_append {l r : List α} {a : α} (h : appO l a = some r) : appF (l.map emb) [emb a] = some (r.map emb, .none) := by
  unfold appO at h
  show (if decide ((l.map emb).length < sizeLine) = true then _ else _) = _
  split at h
  · cases h
    rw [List.length_map, if_pos (by rw [sizeLine_eq, decide_eq_true_eq]; assumption), List.map_append]; rfl
  · cases h
@[irreducible] def catO (l m : List α) : Option (List α) := if l.length + m.length ≤ 16777216 then some (l ++ m) else none
theorem cat_ok {l m r : List α} (h : catO l m = some r) : szOk ((l.map emb : List D).length + (m.map emb : List D).length) = true ∧ r.map emb = l.map emb ++ (m.map emb : List D) := by
  unfold catO at h
  split at h
  · cases h
    exact ⟨by rw [List.length_map, List.length_map]; exact szL (by assumption), List.map_append⟩
  · cases h
theorem o_cat {l m r : List α} (h : catO l m = some r) : binD .Add (emb l) (emb m) = some (emb r) := by
  obtain ⟨h1, h2⟩ := cat_ok h
  show (if _ then _ else _) = some (PyData.list (r.map emb))
  rw [if_pos h1, h2]
theorem o_catT {l m : Tup α} {r : List α} (h : catO l.l m.l = some r) : binD .Add (emb l) (emb m) = some (emb (Tup.mk r)) := by
  obtain ⟨h1, h2⟩ := cat_ok h
  show (if _ then _ else _) = some (PyData.tuple (r.map emb))
  rw [if_pos h1, h2]
theorem o_catTF {l m : Tup α} {r : List α} (h : catO l.l m.l = some r) : addD (emb l) (emb m) = some (emb (Tup.mk r)) := o_catT h
theorem o_ext {l m r : List α} (h : catO l m = some r) : extF (l.map emb) [emb m] = some (r.map emb, .none) := by
  obtain ⟨h1, h2⟩ := cat_ok h
  show (if _ then _ else _) = _
  rw [if_pos h1, h2]
theorem t_addL {a b : Rho → Rs Vl} {L L1 L2 : List Pat} {v w : Vl} {l m r : List α} (ha : EG L a v L1) (hb : EG L1 b w L2) (h : catO l m = some r) (hx : contL L2 v = some (emb l) := by rfl) (hy : contL L2 w = some (emb m) := by rfl) : EG L (sAddF a b) (.fr (emb r)) L2 := by
  obtain ⟨h1, h2⟩ := cat_ok h
  exact (f_addL ha hb h1 hx hy).to (by rw [← h2]; rfl)
@[irreducible] def popO (l : List α) : Option (List α × α) := (l[l.length - 1]?).map fun z => (l.dropLast, z)
theorem o_pop {l : List α} {r : List α × α} (h : popO l = some r) : popF (l.map emb) [] = some (r.1.map emb, emb r.2) := by
  unfold popO at h
  show ((l.map emb)[(l.map emb).length - 1]?).map (fun z => ((l.map emb).dropLast, z)) = _
  obtain ⟨z, e1, rfl⟩ := Option.map_eq_some_iff.mp h
  rw [List.length_map, List.getElem?_map, e1]
  simp [List.map_dropLast]
@[irreducible] def popAtO (l : List α) (i : Int) : Option (List α × α) := if decide (-(2 ^ 63) ≤ i) && decide (i < 2 ^ 63) then (ixN l.length i).bind fun k => (l[k]?).map fun z => (l.eraseIdx k, z) else none
theorem map_erase : ∀ (l : List α) (k : Nat), (l.eraseIdx k).map emb = (l.map emb : List D).eraseIdx k
  | [], _ => rfl
  | _ :: _, 0 => rfl
  | x :: r, k + 1 => by show emb x :: (r.eraseIdx k).map emb = emb x :: (r.map emb).eraseIdx k; rw [map_erase r k]
theorem o_popAt {l : List α} {i : Int} {r : List α × α} (h : popAtO l i = some r) : popAtF (l.map emb) [.int i] = some (r.1.map emb, emb r.2) := by
  unfold popAtO at h
  show (if (decide (-(2 ^ 63) ≤ i) && decide (i < 2 ^ 63)) = true then (ixN (l.map emb : List D).length i).bind fun k => ((l.map emb : List D)[k]?).map fun z => ((l.map emb : List D).eraseIdx k, z) else none) = _
  split at h
  · rw [if_pos ‹_›, List.length_map]
    obtain ⟨k, e1, e2⟩ := Option.bind_eq_some_iff.mp h
    obtain ⟨z, e3, rfl⟩ := Option.map_eq_some_iff.mp e2
    rw [e1]
    show ((l.map emb : List D)[k]?).map _ = _
    rw [List.getElem?_map, e3]
    show some ((l.map emb : List D).eraseIdx k, emb z) = some ((l.eraseIdx k).map emb, emb z)
    rw [map_erase]
  · cases h
theorem o_rev {l : List α} : revF (l.map emb) [] = some ((l.reverse).map emb, .none) := by
  show some ((l.map emb).reverse, PyData.none) = _
  rw [List.map_reverse]
@[irreducible] def setO (l : List α) (i : Int) (a : α) : Option (List α) := (ixN l.length i).map fun k => l.set k a
theorem t_set {ix e : Rho → Rs Vl} {L L1 L2 L4 L5 : List Pat} {i : Nat} {v w : Vl} {k : Int} {a : α} {l l' r : List α} {p p' : Bool} (h : EG L e v L1) (hf : frzL L1 v = some (emb a, L2)) (hi : EG L2 ix w L4) (hs : setO l k a = some r) (h0 : L2[i]? = some (.ex (.own p' (emb l'))) := by rfl) (hk : contL L4 w = some (.int k) := by rfl) (h1 : L4[i]? = some (.ex (.own p (emb l))) := by rfl) (hL : L4.set i (.ex (.own p (emb r))) = L5 := by rfl) : EG L (sSetIx i ix e) .nx L5 := by
  subst hL
  unfold setO at hs
  obtain ⟨n, e1, rfl⟩ := Option.map_eq_some_iff.mp hs
  have := x_set h hf hi (n := n) (ys := l.map emb) (by rw [List.length_map]; exact e1) h0 hk h1 rfl
  rw [show (emb (l.set n a) : D) = .list ((l.map emb).set n (emb a)) by show PyData.list ((l.set n a).map emb) = _; rw [List.map_set]]
  exact this
theorem t_mut {ss : Rho → Rs (List Vl)} {f : List D → List D → Option (List D × D)} {L L1 L2 L4 : List Pat} {i : Nat} {vs : List Vl} {ds : List D} {l l' r : List α} {z : D} {p p' : Bool} (hs : EG L ss vs L1) (hf : f (l.map emb) ds = some (r.map emb, z)) (h0 : L[i]? = some (.ex (.own p' (emb l'))) := by rfl) (hz : frzsL L1 vs = some (ds, L2) := by rfl) (h1 : L2[i]? = some (.ex (.own p (emb l))) := by rfl) (hL : L2.set i (.ex (.own p (emb r))) = L4 := by rfl) : EG L (sMut i f ss) (.d z) L4 := e_mut hs hf h0 hz h1 hL
theorem o_tuple {l : List α} : tupleD [emb l] = some (emb (Tup.mk l)) := (rfl)
theorem o_tupleT {l : Tup α} : tupleD [emb l] = some (emb l) := (rfl)
theorem o_list {l : List α} : listD [emb l] = some (emb l) := (rfl)
theorem o_listT {l : Tup α} : listD [emb l] = some (emb l.l) := (rfl)
theorem map_cut {l : List α} {lo hi : Option Int} : cutL (l.map emb : List D) lo hi = (cutL l lo hi).map emb := by
  unfold cutL
  rw [List.length_map, List.map_take, List.map_drop]
theorem t_slL {a : Rho → Rs Vl} {L L1 : List Pat} {v : Vl} {lo hi : Option (Rho → Rs Vl)} {i j : Option Int} {l : List α} (ha : EG L a v L1) (h1 : EG L1 (sPart lo) i L1) (h2 : EG L1 (sPart hi) j L1) (hx : contL L1 v = some (emb l) := by rfl) : EG L (sSl a lo hi) (.fr (emb (cutL l i j))) L1 :=
  (f_slL (xs := l.map emb) ha h1 h2 hx).to (by rw [map_cut]; rfl)
theorem t_slT {a : Rho → Rs Vl} {L L1 : List Pat} {v : Vl} {lo hi : Option (Rho → Rs Vl)} {i j : Option Int} {l : Tup α} (ha : EG L a v L1) (h1 : EG L1 (sPart lo) i L1) (h2 : EG L1 (sPart hi) j L1) (hx : contL L1 v = some (emb l) := by rfl) : EG L (sSl a lo hi) (.v (.d (emb (Tup.mk (cutL l.l i j))))) L1 :=
  (f_slT (xs := l.l.map emb) ha h1 h2 hx).to (by rw [map_cut]; rfl)
theorem t_backL {a : Rho → Rs Vl} {L L1 : List Pat} {v : Vl} {l : List α} (ha : EG L a v L1) (hx : contL L1 v = some (emb l) := by rfl) : EG L (sBack a) (.fr (emb l.reverse)) L1 :=
  (f_backL (xs := l.map emb) ha hx).to (by rw [← List.map_reverse]; rfl)
theorem t_backT {a : Rho → Rs Vl} {L L1 : List Pat} {v : Vl} {l : Tup α} (ha : EG L a v L1) (hx : contL L1 v = some (emb l) := by rfl) : EG L (sBack a) (.v (.d (emb (Tup.mk l.l.reverse)))) L1 :=
  (f_backT (xs := l.l.map emb) ha hx).to (by rw [← List.map_reverse]; rfl)
theorem intsD_emb : ∀ l : List Int, intsD (l.map emb) = some l
  | [] => rfl
  | x :: r => by
    show (intsD (r.map emb)).map _ = _
    rw [intsD_emb r]; rfl
theorem boolsD_emb : ∀ l : List Bool, boolsD (l.map emb) = some l
  | [] => rfl
  | x :: r => by
    show (boolsD (r.map emb)).map _ = _
    rw [boolsD_emb r]; rfl
theorem o_sum {l : List Int} : sumD [emb l] = some (.int l.sum) := by
  show (intsD (l.map emb)).map _ = _
  rw [intsD_emb]; rfl
theorem o_any {l : List Bool} : anyD [emb l] = some (.bool (l.any id)) := by
  show (boolsD (l.map emb)).map _ = _
  rw [boolsD_emb]; rfl
theorem o_all {l : List Bool} : allD [emb l] = some (.bool (l.all id)) := by
  show (boolsD (l.map emb)).map _ = _
  rw [boolsD_emb]; rfl
theorem o_sorted {l : List Int} : sortedD [emb l] = some (emb (sortI l)) := by
  show (intsD (l.map emb)).map _ = _
  rw [intsD_emb]; rfl
def minO : List Int → Option Int
  | [] => none
  | n :: ns => some (minI n ns)
def maxO : List Int → Option Int
  | [] => none
  | n :: ns => some (maxI n ns)
theorem o_min {l : List Int} {m : Int} (h : minO l = some m) : minD [emb l] = some (.int m) := by
  show (intsD (l.map emb)).bind _ = _
  rw [intsD_emb]
  cases l with
  | nil => cases h
  | cons => cases h; rfl
theorem o_max {l : List Int} {m : Int} (h : maxO l = some m) : maxD [emb l] = some (.int m) := by
  show (intsD (l.map emb)).bind _ = _
  rw [intsD_emb]
  cases l with
  | nil => cases h
  | cons => cases h; rfl
end

/-! ### what is walked -/
def rgI (a b : Int) : List Int := (List.range (b - a).toNat).map fun i : Nat => a + (i : Int)
theorem rg_emb {a b : Int} : rngD a 1 (b - a).toNat = (rgI a b).map emb := by
  unfold rngD rgI
  rw [List.map_map]
  congr 1; funext i
  show PyData.int (a + (i : Int) * 1) = .int (a + (i : Int))
  rw [Int.mul_one]
@[irreducible] def rgO (a b : Int) : Option (List Int) := if in62 a && in62 b then some (rgI a b) else none
theorem rg_c {a b : Int} (h : (in62 a && in62 b) = true) : rgO a b = some (rgI a b) := by unfold rgO; rw [if_pos h]
theorem r_one {b : Int} {l : List Int} (h : rgO 0 b = some l) : rngOf [b] = some (l.map emb) := by
  unfold rgO at h
  show (if in62 b = true then some (rngD 0 1 b.toNat) else none) = _
  split at h
  · rename_i e
    cases h
    rw [Bool.and_eq_true] at e
    rw [if_pos e.2, ← rg_emb, Int.sub_zero]
  · cases h
theorem r_two {a b : Int} {l : List Int} (h : rgO a b = some l) : rngOf [a, b] = some (l.map emb) := by
  unfold rgO at h
  show (if (in62 a && in62 b) = true then some (rngD a 1 (b - a).toNat) else none) = _
  split at h
  · rename_i e
    cases h
    rw [if_pos e, ← rg_emb]
  · cases h
@[irreducible] def rgcO (a b c : Int) : Option (List Int) := if rg3Ok a b c then some ((List.range (Builtin.Range.rangeSize a b c).toNat).map fun i : Nat => a + (i : Int) * c) else none
theorem r_three {a b c : Int} {l : List Int} (h : rgcO a b c = some l) : rngOf [a, b, c] = some (l.map emb) := by
  unfold rgcO at h
  show (if rg3Ok a b c = true then some (rngD a c (Builtin.Range.rangeSize a b c).toNat) else none) = _
  split at h
  · rename_i e
    cases h
    rw [if_pos e]
    unfold rngD
    rw [List.map_map]; rfl
  · cases h
section
variable {α β : Type} [Emb α] [Emb β]
def enI (l : List α) : List (Int × α) := l.mapIdx fun i x => ((i : Int), x)
theorem en_emb {l : List α} : enumD (l.map emb) = (enI l).map emb := by
  refine List.ext_getElem? fun i => ?_
  unfold enumD enI
  rw [List.length_map, List.getElem?_map, List.getElem?_map, List.getElem?_mapIdx]
  by_cases h : i < l.length
  · rw [List.getElem?_range h, List.getElem?_eq_getElem h]
    show some (PyData.tuple [.int i, (l.map emb).getD i .none]) = some (PyData.tuple [.int i, emb l[i]])
    rw [List.getD_eq_getElem?_getD, List.getElem?_map, List.getElem?_eq_getElem h]; rfl
  · rw [List.getElem?_eq_none (by simpa using h), List.getElem?_eq_none (by simpa using h)]; rfl
theorem zip_emb {l : List α} {m : List β} : zipD (l.map emb) (m.map emb) = (l.zip m).map emb := by
  unfold zipD
  rw [List.zip_map, List.map_map]; rfl
theorem rev_emb {l : List α} : (l.map emb : List D).reverse = l.reverse.map emb := List.map_reverse.symm
end

/-! ### comprehensions -/
def isVP : Pat → Bool
  | .ex .no => true
  | .ex (.val _) => true
  | .jv => true
  | _ => false
def allValL (L : List Pat) (vs : List Nat) : Bool := vs.all fun i => match L[i]? with | some p => isVP p | none => true
def wipeL (L : List Pat) : List Nat → List Pat
  | [] => L
  | i :: r => (wipeL L r).set i (.ex .no)
/-- what was hidden is seen again -/
def backL (L : List Pat) : List Nat → List Pat → List Pat
  | [], L' => L'
  | i :: r, L' => match L[i]? with
    | some p => (backL L r L').set i p
    | none => backL L r L'
theorem valL_ok {L : List Pat} {ρ : Rho} {vs : List Nat} (q : Fits L ρ) (h : allValL L vs = true) : allVal ρ vs = true := List.all_eq_true.mpr fun i hi => by
  have h := List.all_eq_true.mp h i hi
  by_cases hl : i < L.length
  · have e : L[i]? = some L[i] := List.getElem?_eq_getElem hl
    rw [e] at h
    obtain ⟨c, h1, h2⟩ := q.get e
    rw [h1]
    generalize L[i] = p at h h2
    match p, h with
    | .ex .no, _ => have h2 : c = .no := h2; rw [h2]; rfl
    | .ex (.val d), _ => have h2 : c = .val d := h2; rw [h2]; rfl
    | .jv, _ => have h2 : isV c = true := h2; cases c <;> first | rfl | cases h2
  · rw [List.getElem?_eq_none (by rw [q.len]; omega)]; rfl
theorem backL_ok {L L' : List Pat} {ρ ρ' : Rho} (q : Fits L ρ) (q' : Fits L' ρ') : ∀ vs : List Nat, Fits (backL L vs L') (backR ρ vs ρ')
  | [] => q'
  | i :: r => by
    unfold backL backR
    by_cases hl : i < L.length
    · have e : L[i]? = some L[i] := List.getElem?_eq_getElem hl
      obtain ⟨c, h1, h2⟩ := q.get e
      rw [e, h1]
      exact (backL_ok q q' r).set i h2
    · rw [List.getElem?_eq_none (by omega), List.getElem?_eq_none (by rw [q.len]; omega)]
      exact backL_ok q q' r
theorem wipeL_ok {L : List Pat} {ρ : Rho} (q : Fits L ρ) : ∀ vs : List Nat, Fits (wipeL L vs) (wipeR ρ vs)
  | [] => q
  | i :: r => (wipeL_ok q r).set i rfl
section
variable {α β σ : Type} [Emb α] [Emb β] {L L0 L1 L2 L4 : List Pat} {it : Rho → Rs (List D)} {tg : D → Rho → Rs Fl} {tt : Rho → Rs Bool} {te : Rho → Rs Vl} {vs : List Nat}
/-- p decides, g gives; the state goes through -/
def cmpO (p : α → σ → Option (Bool × σ)) (g : α → σ → Option (β × σ)) : List α → σ → Option (List β × σ)
  | [], s => some ([], s)
  | x :: xs, s => ob (p x s) fun b => if b.1 = true then ob (g x b.2) fun y => ob (cmpO p g xs y.2) fun r => some (y.1 :: r.1, r.2)
    else cmpO p g xs b.2
/-- one item -/
structure Item (Lf : σ → List Pat) (tg : D → Rho → Rs Fl) (tt : Rho → Rs Bool) (te : Rho → Rs Vl) (vs : List Nat) (p : α → σ → Option (Bool × σ)) (g : α → σ → Option (β × σ)) (x : α) (s : σ) : Prop where
  ex : ∃ Lg : List Pat, EG (Lf s) (tg (emb x)) .nx Lg ∧ ∀ b, p x s = some b → ∃ Lt : List Pat, EG Lg tt b.1 Lt ∧ (b.1 = false → allValL Lt vs = true ∧ wipeL Lt vs = Lf b.2) ∧
    (b.1 = true → ∀ y, g x b.2 = some y → ∃ v Le Lz, EG Lt te v Le ∧ frzL Le v = some (emb y.1, Lz) ∧ allValL Lz vs = true ∧ wipeL Lz vs = Lf y.2)
theorem gather_ok {Lf : σ → List Pat} {p : α → σ → Option (Bool × σ)} {g : α → σ → Option (β × σ)} (h : ∀ x s, Item Lf tg tt te vs p g x s) : ∀ (xs : List α) (s : σ) (acc : List D) (r : List β × σ), acc.length + xs.length ≤ 16777216 → cmpO p g xs s = some r → EG (Lf s) (sGather tg tt te vs (xs.map emb) acc) (acc ++ r.1.map emb) (Lf r.2)
  | [], s, acc, r, _, e => by
    cases e
    intro ρ q
    exact ⟨ρ, by simp [sGather], q⟩
  | x :: xs, s, acc, r, hn, e => by
    intro ρ q
    obtain ⟨Lg, h1, h2⟩ := (h x s).ex
    obtain ⟨ρ1, e1, q1⟩ := h1 ρ q
    have hn' : acc.length + xs.length + 1 ≤ 16777216 := by rw [List.length_cons] at hn; omega
    unfold cmpO at e
    refine ob_el e fun b eb e => ?_
    obtain ⟨Lt, h3, h4, h5⟩ := h2 b eb
    obtain ⟨ρ2, e2, q2⟩ := h3 ρ1 q1
    cases hb : b.1 with
    | true =>
      rw [if_pos hb] at e
      refine ob_el e fun y ey e => ob_el e fun r2 er e => ?_
      cases e
      obtain ⟨v, Le, Lz, h6, h7, h8, h9⟩ := h5 hb y ey
      obtain ⟨ρ3, e3, q3⟩ := h6 ρ2 q2
      obtain ⟨ρ4, e4, q4⟩ := frzL_ok h7 ρ3 q3
      have q5 := wipeL_ok q4 vs
      rw [h9] at q5
      obtain ⟨ρ5, e5, q6⟩ := gather_ok h xs y.2 (acc ++ [emb y.1]) r2 (by rw [List.length_append, List.length_singleton]; omega) er _ q5
      refine ⟨ρ5, ?_, q6⟩
      rw [List.map_cons]
      unfold sGather
      rw [e1]
      simp only [sGather.thenG', e2, okB, hb, if_true, e3, e4, valL_ok q4 h8, Bool.true_and, e5]
      rw [if_pos (by rw [sizeLine_eq, decide_eq_true_eq]; omega)]
      simp
    | false =>
      rw [if_neg (by rw [hb]; decide)] at e
      obtain ⟨h6, h7⟩ := h4 hb
      have q5 := wipeL_ok q2 vs
      rw [h7] at q5
      obtain ⟨ρ5, e5, q6⟩ := gather_ok h xs b.2 acc r (by omega) e _ q5
      refine ⟨ρ5, ?_, q6⟩
      rw [List.map_cons]
      unfold sGather
      rw [e1]
      simp only [sGather.thenG', e2, okB, hb, Bool.false_eq_true, if_false, valL_ok q2 h6, if_true, e5]
@[irreducible] def compO (p : α → σ → Option (Bool × σ)) (g : α → σ → Option (β × σ)) (xs : List α) (s : σ) : Option (List β × σ) := if xs.length ≤ 16777216 then cmpO p g xs s else none
theorem f_comp (Lf : σ → List Pat) {p : α → σ → Option (Bool × σ)} {g : α → σ → Option (β × σ)} {xs : List α} {s : σ} {r : List β × σ} (hi : EG L it (xs.map emb) L1) (h0 : wipeL L1 vs = Lf s) (h : ∀ x s, Item Lf tg tt te vs p g x s) (hr : compO p g xs s = some r) (hv : allValL L1 vs = true := by rfl) (hL : backL L1 vs (Lf r.2) = L4 := by rfl) : EG L (sLc it tg tt te vs) (.fr (emb r.1)) L4 := by
  subst hL
  unfold compO at hr
  split at hr
  · rename_i hn
    intro ρ q
    obtain ⟨ρ1, e1, q1⟩ := hi ρ q
    have nv := valL_ok q1 hv
    have qw := wipeL_ok q1 vs
    rw [h0] at qw
    obtain ⟨ρ2, e2, q2⟩ := gather_ok h xs s [] r (by simpa using hn) hr _ qw
    refine ⟨_, ?_, backL_ok q1 q2 vs⟩
    simp only [sLc, e1, Rs.bind_ok, nv, if_true, e2, okB, List.nil_append]
    rfl
  · cases hr
/-- nothing but values -/
@[irreducible] def fmO (p : α → Bool) (g : α → β) (xs : List α) : Option (List β) := if xs.length ≤ 16777216 then some ((xs.filter p).map g) else none
theorem cmpO_pure {p : α → Bool} {g : α → β} : ∀ xs : List α, cmpO (σ := Unit) (fun x s => some (p x, s)) (fun x s => some (g x, s)) xs () = some ((xs.filter p).map g, ())
  | [] => rfl
  | x :: xs => by
    show (if p x = true then ob (cmpO _ _ xs ()) fun r => some (g x :: r.1, r.2) else cmpO _ _ xs ()) = _
    rw [cmpO_pure xs]
    cases h : p x <;> simp [h]
theorem f_fm {p : α → Bool} {g : α → β} {xs : List α} {r : List β} (hi : EG L it (xs.map emb) L1) (h0 : wipeL L1 vs = L0) (h : ∀ x : α, ∃ Lg, EG L0 (tg (emb x)) .nx Lg ∧ EG Lg tt (p x) Lg ∧ allValL Lg vs = true ∧ wipeL Lg vs = L0 ∧ ∃ v, EG Lg te v Lg ∧ frzL Lg v = some (emb (g x), Lg)) (hr : fmO p g xs = some r) (hv : allValL L1 vs = true := by rfl) (hL : backL L1 vs L0 = L4 := by rfl) : EG L (sLc it tg tt te vs) (.fr (emb r)) L4 := by
  unfold fmO at hr
  split at hr
  · rename_i hn
    cases hr
    refine f_comp (σ := Unit) (fun _ => L0) (p := fun x s => some (p x, s)) (g := fun x s => some (g x, s)) (s := ()) (r := ((xs.filter p).map g, ())) hi h0 (fun x s => ⟨?_⟩) (by unfold compO; rw [if_pos hn, cmpO_pure]) hv hL
    obtain ⟨Lg, h1, h2, h3, h4, v, h5, h6⟩ := h x
    exact ⟨Lg, h1, fun b hb => by cases hb; exact ⟨Lg, h2, fun _ => ⟨h3, h4⟩, fun _ y hy => by cases hy; exact ⟨v, Lg, Lg, h5, h6, h3, h4⟩⟩⟩
  · cases hr
/-- values that may lack -/
def flO (p : α → Option Bool) (g : α → Option β) : List α → Option (List β)
  | [] => some []
  | x :: xs => ob (p x) fun b => if b = true then ob (g x) fun y => ob (flO p g xs) fun r => some (y :: r)
    else flO p g xs
@[irreducible] def filO (p : α → Option Bool) (g : α → Option β) (xs : List α) : Option (List β) := if xs.length ≤ 16777216 then flO p g xs else none
theorem cmpO_fl {p : α → Option Bool} {g : α → Option β} : ∀ {xs : List α} {r : List β}, flO p g xs = some r → cmpO (σ := Unit) (fun x s => ob (p x) fun b => some (b, s)) (fun x s => ob (g x) fun y => some (y, s)) xs () = some (r, ())
  | [], r, e => by cases e; rfl
  | x :: xs, r, e => by
    unfold flO at e
    refine ob_el e fun b eb e => ?_
    unfold cmpO
    rw [eb]
    show (if b = true then _ else _) = _
    cases b with
    | true =>
      rw [if_pos rfl] at e ⊢
      refine ob_el e fun y ey e => ob_el e fun r2 er e => ?_
      cases e
      rw [ey]
      show ob (cmpO _ _ xs ()) _ = _
      rw [cmpO_fl er]; rfl
    | false =>
      rw [if_neg (by decide)] at e ⊢
      exact cmpO_fl e
theorem f_fil {p : α → Option Bool} {g : α → Option β} {xs : List α} {r : List β} (hi : EG L it (xs.map emb) L1) (h0 : wipeL L1 vs = L0) (h : ∀ x : α, ∃ Lg, EG L0 (tg (emb x)) .nx Lg ∧ allValL Lg vs = true ∧ wipeL Lg vs = L0 ∧ (∀ b, p x = some b → EG Lg tt b Lg) ∧ ∀ y, p x = some true → g x = some y → ∃ v, EG Lg te v Lg ∧ frzL Lg v = some (emb y, Lg)) (hr : filO p g xs = some r) (hv : allValL L1 vs = true := by rfl) (hL : backL L1 vs L0 = L4 := by rfl) : EG L (sLc it tg tt te vs) (.fr (emb r)) L4 := by
  unfold filO at hr
  split at hr
  · rename_i hn
    refine f_comp (σ := Unit) (fun _ => L0) (p := fun x s => ob (p x) fun b => some (b, s)) (g := fun x s => ob (g x) fun y => some (y, s)) (s := ()) (r := (r, ())) hi h0 (fun x s => ⟨?_⟩) (by unfold compO; rw [if_pos hn, cmpO_fl hr]) hv hL
    obtain ⟨Lg, h1, h3, h4, h2, h5⟩ := h x
    refine ⟨Lg, h1, fun b hb => ob_el hb fun b' eb hb => ?_⟩
    cases hb
    refine ⟨Lg, h2 b' eb, fun _ => ⟨h3, h4⟩, fun hb y hy => ob_el hy fun y' ey hy => ?_⟩
    cases hy
    have hb : b' = true := hb
    subst hb
    obtain ⟨v, h6, h7⟩ := h5 y' eb ey
    exact ⟨v, Lg, Lg, h6, h7, h3, h4⟩
  · cases hr
theorem t_yes : EG L sYes true L := EG.pure
end
/-! ### fixed tuples, types -/
section
variable {α β γ δ : Type} [Emb α] [Emb β] [Emb γ] [Emb δ]
theorem o_x1_0 {p : T1 α} : ixD (emb p) (.int 0) = some (emb p.a) := (rfl)
theorem o_x2_0 {p : α × β} : ixD (emb p) (.int 0) = some (emb p.1) := (rfl)
theorem o_x2_1 {p : α × β} : ixD (emb p) (.int 1) = some (emb p.2) := (rfl)
theorem o_x3_0 {p : T3 α β γ} : ixD (emb p) (.int 0) = some (emb p.a) := (rfl)
theorem o_x3_1 {p : T3 α β γ} : ixD (emb p) (.int 1) = some (emb p.b) := (rfl)
theorem o_x3_2 {p : T3 α β γ} : ixD (emb p) (.int 2) = some (emb p.c) := (rfl)
theorem o_x4_0 {p : T4 α β γ δ} : ixD (emb p) (.int 0) = some (emb p.a) := (rfl)
theorem o_x4_1 {p : T4 α β γ δ} : ixD (emb p) (.int 1) = some (emb p.b) := (rfl)
theorem o_x4_2 {p : T4 α β γ δ} : ixD (emb p) (.int 2) = some (emb p.c) := (rfl)
theorem o_x4_3 {p : T4 α β γ δ} : ixD (emb p) (.int 3) = some (emb p.d) := (rfl)
end
theorem o_isV {α : Type} [NNe α] {a : α} : isD (emb a) .none = some (.bool false) := by
  have := notNone a
  cases e : (emb a : D) <;> first | exact absurd e this | rfl
theorem o_isnV {α : Type} [NNe α] {a : α} : isnD (emb a) .none = some (.bool true) := by
  have := notNone a
  cases e : (emb a : D) <;> first | exact absurd e this | rfl
@[irreducible] def isiO (ts : List Ty) (d : D) : Option Bool := match isiD ts d with | some (.bool b) => some b | _ => none
theorem o_isi {ts : List Ty} {d : D} {b : Bool} (h : isiO ts d = some b) : isiD ts d = some (.bool b) := by
  unfold isiO at h
  split at h
  · cases h; assumption
  · cases h
def asI : D → Option Int
  | .int i => some i
  | _ => none
theorem as_int {d : D} {i : Int} (h : asI d = some i) : d = .int i := by cases d <;> first | (cases h; rfl) | cases h
@[irreducible] def eqO (d e : D) : Option Bool := if eqOk d e then some (PyData.eqv d e) else none
theorem o_eqD {d e : D} {b : Bool} (h : eqO d e = some b) : eqD d e = some (.bool b) := by
  unfold eqO at h
  unfold eqD
  split at h
  · rw [if_pos ‹_›]; cases h; rfl
  · cases h
theorem o_neD {d e : D} {b : Bool} (h : eqO d e = some b) : neD d e = some (.bool (!b)) := by
  unfold eqO at h
  unfold neD
  split at h
  · rw [if_pos ‹_›]; cases h; rfl
  · cases h
structure Scr where
  ns : List Int
instance : Emb Scr := ⟨fun s => scrD s.ns⟩
theorem s_g {α β : Type} {L : List Pat} {s t : Rho → Rs Fl} {K : α → Fl → Rho → Prop} {v : β} {k : β → M α} (Lf : β → List Pat) (h : EG L s .nx (Lf v)) (r : ∀ x, SR (Lf x) t (k x) K) : SR L (sSeq s t) (lt v k) K := s_s h (r v)
theorem s_x {α : Type} {L : List Pat} {s t : Rho → Rs Fl} {K : α → Fl → Rho → Prop} {m : M α} (L1 : List Pat) (h : EG L s .nx L1) (r : SR L1 t m K) : SR L (sSeq s t) m K := s_s h r
end T
/-! T, part 4: what laws share: drawing, picking, alike; comprehensions with a state. -/
namespace T
open PySem PySem.Spec PyProof.Rows L2 L3
local macro_rules | `(tactic| array_get_dec) => `(tactic| simp only [L3.wp_ok, L3.wp_bad, L3.wp_seq, L3.wp_ifS, L3.wp_ret, L3.wp_exp, L3.wp_asg, L3.wp_asgT, L3.wp_gN, L3.wp_gsN, L3.wp_gsC, L3.wp_gTpT, L3.wp_gTpL, L3.wp_par, L3.wp_put2, L3.wp_put, L3.putOk_v, L3.putOk_o, L3.putOk_n, L3.putOk_of, L3.wp_for, L3.wp_loop_nil, L3.wp_nx, L3.wp_sbad, L3.wp_thenG,
  L3.wp_var, L3.at_val, L3.at_own, L3.wp_c, L3.wp_bin, L3.wp_un, L3.cont_d, L3.cont_bv, L3.cont_val, L3.cont_own, L3.wp_asB, L3.wp_not, L3.wp_and, L3.wp_or, L3.wp_ifE, L3.wp_chain, L3.wp_nil, L3.wp_cons, L3.wp_frz_d, L3.wp_frz_bv, L3.fa_val, L3.fa_own, L3.wp_frzs_nil, L3.wp_frzs_cons, L3.wp_tup, L3.wp_lst, L3.wp_fun, L3.wp_funF, L3.conts_nil, L3.conts_cons, L3.wp_unF, L3.wp_liF,
  L3.wp_aug, L3.aa_val, L3.wp_setIx, L3.wp_setAt, L3.wp_mut, L3.own_def, L3.olc_own, L3.wp_it, L3.wp_rng, L3.wp_enum, L3.wp_lc, L3.wp_yes, L3.wp_slice, L3.wp_call, L3.wp_callO, L3.wp_prep_nil, L3.wp_prep_f, L3.wp_prep_t, L3.wp_callRO, L3.idx_nil, L3.idx_l, L3.idx_r, L3.ph2_nil, L3.ph2_l, L3.ph2_r, L3.oa_own, L3.so_nil, L3.so_l, L3.so_r, L3.back_own,
  L3.wpo_some, L3.wpo_none, L3.wpo_ite, L3.wpo_map, L3.wpo_bind, L3.bin_add, L3.bin_sub, L3.bin_mul, L3.bin_fdiv, L3.bin_mod, L3.bin_pow, L3.neg_intD, L3.lt_int', L3.le_int', L3.gt_int', L3.ge_int', L3.eq_int', L3.ne_int', L3.eq_bool', L3.ne_bool', L3.is_none', L3.isn_none', L3.isi_one, L3.isi_two, L3.lenD_list, L3.lenD_tuple, L3.ix_listD, L3.ix_tupD,
  L3.szOk0, L3.szOk1, L3.szOk2, L3.szOk3, L3.szOk4, L3.szOk5, L3.szOk6, L3.szOk7, L3.szOk8, L3.at0, L3.at1, L3.at2, L3.at3, L3.ix40, L3.ix41, L3.ix42, L3.ix43, L3.int_int, L3.len_scr, L3.ix_scr, L3.outC_t, L3.outC_f, L3.outC_v, L3.outC_n, List.map_cons, List.map_nil, List.take_succ_cons, List.take_zero, Int.reduceNeg,
  List.getElem?_cons_zero, List.getElem?_cons_succ, List.set_cons_zero, List.set_cons_succ, List.length_cons, List.length_nil, Option.bind_some, Option.bind_none, Option.map_some, Option.map_none, Option.isSome_some, Option.isSome_none, if_true, if_false, Bool.not_true, Bool.not_false, decide_true, decide_false, Bool.false_eq_true, Nat.reduceAdd, List.nodup_cons, List.not_mem_nil, not_false_eq_true, List.nodup_nil, and_self, and_true, true_and, ite_self, reduceIte, decide_eq_true_eq, Bool.not_eq_true'])
local macro_rules | `(tactic| array_mem_dec) => `(tactic| simp only [L3.isT_def, isScr, Ty.of, if_true, if_false, Bool.false_eq_true, Option.map_some, L3.wpo_some, Option.bind_some, Bool.not_true, Bool.not_false])
open Emb (emb)

/-! ### drawing -/
def taken (r : DRow) (k : Int) : M (Int × DRow) :=
  if 0 < r.q then bo (modO r.q k) fun f => bo (fdivO r.q k) fun q => .ok (f, ⟨r.ns, r.c, r.s, q⟩)
  else if (r.ns.length : Int) < r.c + 1 then bo (modO ((Int.fmod (r.s * 48271 + 11) 2147483647).fdiv 7) k) fun f => .ok (f, ⟨r.ns, r.c + 1, Int.fmod (r.s * 48271 + 11) 2147483647, r.q⟩)
  else bo (atI r.ns (r.c + 1 - 1)) fun cell => bo (modO cell k) fun f =>
    if 10 ^ 18 ≤ cell then bo (fdivO cell k) fun q => .ok (f, ⟨r.ns, r.c + 1, Int.fmod (r.s * 48271 + cell + 11) 2147483647, q⟩)
    else .ok (f, ⟨r.ns, r.c + 1, Int.fmod (r.s * 48271 + cell + 11) 2147483647, r.q⟩)
theorem RF.of {R : Type} {m : M R} {r : FR} {E : R → D} {O : R → List Cell → Prop} (h : ∀ a, m = .ok a → ∃ outs, r = .ok (E a) outs ∧ O a outs) (ne : ∀ x, m ≠ .er x) : RF m r E O := by
  refine ⟨?_⟩
  cases m with
  | ok a => exact h a rfl
  | er x => exact absurd rfl (ne x)
  | no => trivial
theorem wpf_ok {r : FR} {Q : D → List Cell → Prop} (h : WpF r Q) : ∃ d o, r = .ok d o ∧ Q d o := h.ex
theorem r_taken (r : DRow) (k : Int) : RFW (taken r k) (takenF [emb r, emb k]) := by
  obtain ⟨ns, c, s, q⟩ := r
  refine RF.of (fun a ha => ?_) (fun x hx => ?_)
  · suffices h : WpF (takenF [emb (DRow.mk ns c s q), emb k]) fun d o => d = emb a.1 ∧ ∃ rest, o = Cell.own true (emb a.2) :: rest by
      obtain ⟨d, o, e, rfl, h⟩ := wpf_ok h
      exact ⟨o, e, h⟩
    show WpF (takenF [.list [scrD ns, .int c, .int s, .int q], .int k]) _
    refine wpf_go rfl ?_
    unfold takenB
    rw [init_r, init_c, init_c, init_n]
    simp only [List.cons_append, List.nil_append, if_true, Bool.false_eq_true, if_false, List.length_cons, List.length_nil, Nat.reduceAdd, Nat.reduceSub, List.replicate]
    array_get_dec
    unfold taken at ha
    simp only [show inW 48271 = true from rfl, show divOk 7 = true from rfl, show powOk 10 18 = true from rfl, Bool.or_true, if_true, show ((2147483647 : Int) != 0) = true from rfl]
    split
    · rename_i h
      rw [if_pos h] at ha
      unfold modO fdivO at ha
      split
      · rename_i h1
        rw [if_pos h1] at ha
        rw [bo_some] at ha
        split
        · rename_i h2
          rw [if_pos h2] at ha
          cases ha
          exact ⟨rfl, _, rfl⟩
        · rename_i h2
          rw [if_neg h2] at ha
          cases ha
      · rename_i h1
        rw [if_neg h1] at ha
        cases ha
    · rename_i h
      rw [if_neg h] at ha
      split
      · rename_i h1
        rw [if_pos h1] at ha
        unfold modO at ha
        split
        · rename_i h2
          rw [if_pos h2] at ha
          cases ha
          exact ⟨rfl, _, rfl⟩
        · rename_i h2
          rw [if_neg h2] at ha
          cases ha
      · rename_i h1
        rw [if_neg h1] at ha
        cases e : atI ns (c + 1 - 1) with
        | none => rw [e] at ha; cases ha
        | some cell =>
          rw [e] at ha
          simp only [bo_some] at ha
          array_get_dec
          unfold modO fdivO at ha
          split
          · rename_i h2
            split
            · rename_i h3
              split
              · rename_i h4
                rw [if_pos h4, bo_some, if_pos (by exact h2)] at ha
                first | rw [if_pos h3] at ha | skip
                cases ha
                exact ⟨rfl, _, rfl⟩
              · rename_i h4
                rw [if_neg h4] at ha
                cases ha
            · rename_i h3
              exfalso
              split at ha
              · rw [bo_some, if_pos (by exact h2)] at ha
                first
                  | (rw [bo_none] at ha; cases ha)
                  | (rw [if_neg h3] at ha; cases ha)
              · cases ha
          · rename_i h2
            split
            · rename_i h4
              rw [if_pos h4, bo_some, if_neg (by exact h2)] at ha
              cases ha
              exact ⟨rfl, _, rfl⟩
            · rename_i h4
              rw [if_neg h4] at ha
              cases ha
  · unfold taken at hx
    split at hx
    · unfold modO fdivO at hx
      split at hx
      · rw [bo_some] at hx
        split at hx <;> cases hx
      · cases hx
    · split at hx
      · unfold modO at hx
        split at hx <;> cases hx
      · cases e : atI ns (c + 1 - 1) with
        | none => rw [e] at hx; cases hx
        | some cell =>
          rw [e, bo_some] at hx
          unfold modO fdivO at hx
          split at hx
          · rw [bo_some] at hx
            split at hx
            · split at hx <;> cases hx
            · cases hx
          · cases hx
/-- a row that can be drawn from -/
def RowOk' (r : DRow) : Prop := 0 ≤ r.c
theorem taken_ok {r : DRow} {k : Int} (hr : RowOk' r) (h0 : 0 < k) (h1 : k < 1073741824) : ∃ d r', taken r k = .ok (d, r') ∧ 0 ≤ d ∧ d < k ∧ RowOk' r' := by
  have hk : (k != 0) = true := by simp; omega
  have hd : divOk k = true := by simp [divOk]; omega
  have fm : ∀ x : Int, 0 ≤ x.fmod k ∧ x.fmod k < k := fun x => ⟨Int.fmod_nonneg_of_pos x h0, Int.fmod_lt_of_pos x h0⟩
  have hr : 0 ≤ r.c := hr
  unfold taken modO fdivO
  rw [hk, hd]
  simp only [if_true, bo_some]
  split
  · exact ⟨_, _, rfl, (fm _).1, (fm _).2, hr⟩
  · split
    · exact ⟨_, _, rfl, (fm _).1, (fm _).2, by show 0 ≤ r.c + 1; omega⟩
    · rename_i hlt
      have e : atI r.ns (r.c + 1 - 1) = some r.ns[r.c.toNat]! := by
        have hc' : r.c.toNat < r.ns.length := by omega
        have e1 : r.c + 1 - 1 = ((r.c.toNat : Nat) : Int) := by omega
        rw [e1]
        refine atI_nat ?_
        rw [List.getElem?_eq_getElem hc', List.getElem!_eq_getElem?_getD, List.getElem?_eq_getElem hc']
        rfl
      rw [e]
      simp only [bo_some]
      split
      · exact ⟨_, _, rfl, (fm _).1, (fm _).2, by show 0 ≤ r.c + 1; omega⟩
      · exact ⟨_, _, rfl, (fm _).1, (fm _).2, by show 0 ≤ r.c + 1; omega⟩
/-! ### picking -/
def pick {α : Type} (r : DRow) (l : List α) : M (α × DRow) := bo (taken r l.length).o fun u => bo (atI l u.1) fun x => .ok (x, u.2)
theorem r_pick {α : Type} [Emb α] (r : DRow) (l : List α) : RFW (pick r l) (pickF [emb r, emb l]) :=
  rfw [.ex (.own true (emb r)), .ex (.val (emb l))] (s := pickB) (s_bo fun u h => s_bo fun x hx => s_ret (e_bin e_v (t_row (r_taken _ _) h (a_c e_o (a_c (e_fun (a_c e_v a_n) (o_len (l := l))) a_n))) (o_ix hx)) (by rfl) (kw rfl (by rfl)))
theorem atI_lt {α : Type} {l : List α} {i : Int} (h0 : 0 ≤ i) (h1 : i < l.length) : ∃ x, atI l i = some x ∧ l[i.toNat]? = some x := by
  have h : i.toNat < l.length := by omega
  refine ⟨l[i.toNat], ?_, List.getElem?_eq_getElem h⟩
  obtain ⟨j, rfl⟩ := Int.eq_ofNat_of_zero_le h0
  exact atI_nat (List.getElem?_eq_getElem h)
theorem pick_ok {α : Type} {r : DRow} {l : List α} (hr : RowOk' r) (h0 : 0 < l.length) (h1 : l.length < 1000000) : ∃ x r', pick r l = .ok (x, r') ∧ x ∈ l ∧ RowOk' r' := by
  obtain ⟨d, r', e, d0, d1, hr'⟩ := taken_ok (k := l.length) hr (by omega) (by omega)
  obtain ⟨x, e1, e2⟩ := atI_lt (l := l) d0 d1
  refine ⟨x, r', ?_, List.mem_of_getElem? e2, hr'⟩
  unfold pick
  rw [e]
  simp only [o_ok, bo_some, e1]
/-! ### alike -/
mutual
def szD : D → Bool
  | .list xs => decide (xs.length ≤ 16777216) && szAll xs
  | .tuple xs => decide (xs.length ≤ 16777216) && szAll xs
  | _ => true
def szAll : List D → Bool
  | [] => true
  | x :: r => szD x && szAll r
end
theorem szAll_mem : ∀ {l : List D}, szAll l = true → ∀ x ∈ l, szD x = true
  | y :: r, h, x, hx => by
    simp only [szAll, Bool.and_eq_true] at h
    rcases List.mem_cons.mp hx with rfl | hx
    · exact h.1
    · exact szAll_mem h.2 x hx
theorem plAll_mem : ∀ {l : List D}, PyData.plainAll l = true → ∀ x ∈ l, x.plain = true
  | y :: r, h, x, hx => by
    simp only [PyData.plainAll, Bool.and_eq_true] at h
    rcases List.mem_cons.mp hx with rfl | hx
    · exact h.1
    · exact plAll_mem h.2 x hx
theorem dpAll_mem : ∀ {l : List D} {x : D}, x ∈ l → x.depth ≤ PyData.depthAll l
  | y :: r, x, hx => by
    simp only [PyData.depthAll]
    rcases List.mem_cons.mp hx with rfl | hx
    · omega
    · have := dpAll_mem hx; omega
theorem filter_map_nil {α : Type} {p : α → Bool} {l : List α} : l.filter p = [] ↔ ∀ x ∈ l, p x = false := by
  rw [List.filter_eq_nil_iff]
  exact ⟨fun h x hx => by simpa using h x hx, fun h x hx => by rw [h x hx]; decide⟩
/-- the items are alike -/
theorem alike_seq {n : Nat} {xs ys : List D} {c0 c1 : D} (h0 : itemsD c0 = some xs) (h1 : itemsD c1 = some ys) (hx : ∀ i, ixD c0 (.int i) = atI xs i) (hy : ∀ i, ixD c1 (.int i) = atI ys i) (hl : xs.length = ys.length) (hs : ys.length ≤ 16777216)
    (ih : ∀ (j : Nat) x y, xs[j]? = some x → ys[j]? = some y → WpF (alikeF n [x, y]) fun z _ => ∃ b, z = .bool b ∧ (b = true ↔ x = y)) {Q : List D → Rho → Prop} (hq : ∀ r : List Int, (r = [] ↔ xs = ys) → Q (r.map PyData.int) [.val c0, .val c1, .no]) :
    Wp (sGather (gN 2) (asB (sNot (sCall (alikeF n) (sCons (sBin ixD (sVar 0) (sVar 2)) (sCons (sBin ixD (sVar 1) (sVar 2)) sNil))))) (sVar 2) [2] (rngD 0 1 ys.length) [] [.val c0, .val c1, .no]) Q := by
  classical
  let p : D → Bool := fun d => match d with | .int i => !decide (xs[i.toNat]? = ys[i.toNat]?) | _ => false
  refine gat_pure p (fun d => d) (fun d hd => ?_) (by rw [rngD_len, sizeLine_eq]; omega) ?_
  · obtain ⟨j, hj⟩ := List.mem_iff_getElem?.mp hd
    obtain ⟨h2, rfl⟩ := rngD_at hj
    array_get_dec
    refine ⟨rfl, rfl, ?_⟩
    have ex : atI xs (0 + (j : Int)) = some xs[j] := by rw [Int.zero_add]; exact atI_nat (List.getElem?_eq_getElem _)
    have ey : atI ys (0 + (j : Int)) = some ys[j] := by rw [Int.zero_add]; exact atI_nat (List.getElem?_eq_getElem _)
    rw [hx, hy, ex, ey]
    simp only [wpo_some]
    refine (ih j xs[j] ys[j] (List.getElem?_eq_getElem _) (List.getElem?_eq_getElem _)).to fun z _ hz => ?_
    obtain ⟨b, rfl, hb⟩ := hz
    refine ⟨?_, fun h => trivial⟩
    show (!b) = !decide (xs[(0 + (j : Int)).toNat]? = ys[(0 + (j : Int)).toNat]?)
    have e : (0 + (j : Int)).toNat = j := by omega
    rw [e, List.getElem?_eq_getElem (show j < xs.length by omega), List.getElem?_eq_getElem h2]
    congr 1
    rw [Bool.eq_iff_iff, hb, decide_eq_true_eq]
    exact ⟨fun e => by rw [e], fun e => Option.some.inj e⟩
  · rw [List.map_id', rngD_run, filter_int]
    refine hq _ ?_
    rw [filter_map_nil]
    constructor
    · intro h
      refine List.ext_getElem? fun i => ?_
      by_cases hi : i < ys.length
      · have := h (i : Int) (runI_mem'.mpr ⟨by omega, by omega⟩)
        simpa [p] using this
      · rw [List.getElem?_eq_none (by omega), List.getElem?_eq_none (by omega)]
    · rintro rfl x _
      simp [p]
where
  filter_int {p : D → Bool} {l : List Int} : (l.map PyData.int).filter p = (l.filter fun i => p (.int i)).map .int := by rw [List.filter_map]; rfl
  runI_mem' {lo : Int} {n : Nat} {x : Int} : x ∈ (List.range n).map (fun i : Nat => lo + (i : Int)) ↔ lo ≤ x ∧ x < lo + n := by
    rw [List.mem_map]
    exact ⟨fun ⟨i, hi, e⟩ => by rw [List.mem_range] at hi; omega, fun ⟨h1, h2⟩ => ⟨(x - lo).toNat, by rw [List.mem_range]; omega, by omega⟩⟩
  rngD_run {lo : Int} {n : Nat} : rngD lo 1 n = ((List.range n).map fun i : Nat => lo + (i : Int)).map .int := by
    unfold rngD
    rw [List.map_map]
    congr 1; funext i; simp
theorem isScr_pl {d : D} (h : d.plain = true) : isScr d = false := by
  cases d <;> first | rfl | simp [PyData.plain] at h
theorem eq_leaf {d e : D} (h : d.plain = true) (h' : e.plain = true) (h0 : e.depth = 0) : eqD d e = some (.bool (PyData.eqv d e)) := by
  unfold eqD
  rw [if_pos (eqOk_iff.mpr ⟨h, h', by rw [h0]; omega⟩)]
theorem eq_bb {a b : Bool} : eqD (.bool a) (.bool b) = some (.bool (decide (a = b))) := by
  rw [eq_bool']
  cases a <;> cases b <;> rfl
theorem ne_bb {a b : Bool} : neD (.bool a) (.bool b) = some (.bool (!decide (a = b))) := by
  rw [ne_bool']
  cases a <;> cases b <;> rfl
set_option maxHeartbeats 1000000 in
theorem alike_leaf (n : Nat) (d e : D) (hd : d.plain = true) (he : e.plain = true) (hl : itemsD e = none) : WpF (alikeF (n + 1) [d, e]) fun z _ => ∃ b, z = .bool b ∧ (b = true ↔ d = e) := by
  refine wpf_go rfl ?_
  unfold alikeB
  rw [init_r, init_c, init_c, init_n]
  simp only [List.cons_append, List.nil_append, if_true, Bool.false_eq_true, if_false, List.length_cons, List.length_nil, Nat.reduceAdd, Nat.reduceSub, List.replicate]
  cases e with
  | dict => simp [PyData.plain] at he
  | list ys => cases hl
  | tuple ys => cases hl
  | none =>
    have q := eq_leaf (d := d) hd he (by simp [PyData.depth])
    cases d with
    | dict => simp [PyData.plain] at hd
    | _ => array_get_dec; array_mem_dec; simp only [q, PyData.eqv, eq_bool', wpo_some, L3.isNon, if_true, if_false, Bool.false_eq_true]; simp
  | str y =>
    have q := eq_leaf (d := d) hd he (by simp [PyData.depth])
    cases d with
    | dict => simp [PyData.plain] at hd
    | _ => array_get_dec; array_mem_dec; simp only [q, PyData.eqv, eq_bool', wpo_some, L3.isNon, if_true, if_false, Bool.false_eq_true]; simp
  | int y =>
    have q := eq_leaf (d := d) hd he (by simp [PyData.depth])
    cases d with
    | dict => simp [PyData.plain] at hd
    | _ => array_get_dec; array_mem_dec; simp only [q, PyData.eqv, eq_bool', wpo_some, L3.isNon, if_true, if_false, Bool.false_eq_true]; simp
  | bool y =>
    have q := eq_leaf (d := d) hd he (by simp [PyData.depth])
    cases d with
    | dict => simp [PyData.plain] at hd
    | _ => array_get_dec; array_mem_dec; simp only [q, PyData.eqv, eq_bool', wpo_some, L3.isNon, if_true, if_false, Bool.false_eq_true]; simp
set_option maxHeartbeats 1000000 in
theorem alike_D : ∀ (n : Nat) (d e : D), d.plain = true → e.plain = true → szD e = true → e.depth < n → WpF (alikeF n [d, e]) fun z _ => ∃ b, z = .bool b ∧ (b = true ↔ d = e)
  | 0, _, _, _, _, _, h => absurd h (Nat.not_lt_zero _)
  | n + 1, d, e, hd, he, hs, hn => by
    have sd := isScr_pl hd
    have se := isScr_pl he
    by_cases hleaf : itemsD e = none
    · exact alike_leaf n d e hd he hleaf
    refine wpf_go rfl ?_
    unfold alikeB
    rw [init_r, init_c, init_c, init_n]
    simp only [List.cons_append, List.nil_append, if_true, Bool.false_eq_true, if_false, List.length_cons, List.length_nil, Nat.reduceAdd, Nat.reduceSub, List.replicate]
    have seq : ∀ (xs ys : List D) (c0 c1 : D), itemsD c0 = some xs → itemsD c1 = some ys → (∀ i, ixD c0 (.int i) = atI xs i) → (∀ i, ixD c1 (.int i) = atI ys i) → PyData.plainAll xs = true → PyData.plainAll ys = true → ys.length ≤ 16777216 → szAll ys = true → PyData.depthAll ys < n → lenD [c0] = some (.int xs.length) → lenD [c1] = some (.int ys.length) → (xs = ys ↔ d = e) →
        if decide ((xs.length : Int) = ys.length) = false then ∃ b, PyData.bool false = .bool b ∧ (b = true ↔ d = e) else
          WpO (intsV [.val c0, .val c1, .no] [.d (.int ys.length)]) fun a => WpO (rngOf a) fun ds =>
            if allVal [.val c0, .val c1, .no] [2] = true then
              Wp (sGather (gN 2) (asB (sNot (sCall (alikeF n) (sCons (sBin ixD (sVar 0) (sVar 2)) (sCons (sBin ixD (sVar 1) (sVar 2)) sNil))))) (sVar 2) [2] ds [] (wipeR [.val c0, .val c1, .no] [2])) fun ys ρ => WpO (eqD (.list ys) (.list [])) fun d_1 => ∃ b, d_1 = .bool b ∧ (b = true ↔ d = e)
            else False := fun xs ys c0 c1 h0 h1 hx hy p0 p1 l1 s1 dp e0 e1 hde => by
      by_cases hl : (xs.length : Int) = ys.length
      · rw [decide_eq_true hl]
        simp only [Bool.true_eq_false, if_false, intsV1, wpo_some]
        rw [rng1 (by omega) (by omega)]
        simp only [wpo_some]
        rw [if_pos (show allVal [Cell.val c0, Cell.val c1, Cell.no] [2] = true from rfl), show wipeR [Cell.val c0, Cell.val c1, Cell.no] [2] = [Cell.val c0, Cell.val c1, Cell.no] from rfl]
        refine alike_seq h0 h1 hx hy (by omega) l1 (fun j x y ex ey => ?_) fun r hr => ?_
        · exact alike_D n x y (plAll_mem p0 x (List.mem_of_getElem? ex)) (plAll_mem p1 y (List.mem_of_getElem? ey)) (szAll_mem s1 y (List.mem_of_getElem? ey)) (Nat.lt_of_le_of_lt (dpAll_mem (List.mem_of_getElem? ey)) dp)
        · have : eqD (.list (r.map PyData.int)) (.list []) = some (.bool (decide (r = []))) := o_eq (α := List Int) (a := r) (b := [])
          rw [this]
          simp only [wpo_some]
          exact ⟨_, rfl, by rw [decide_eq_true_eq, hr, hde]⟩
      · rw [decide_eq_false hl]
        simp only [if_true]
        exact ⟨false, rfl, (fun h => nomatch h), (fun h => absurd (by rw [hde.mpr h]) hl)⟩
    have lx : ∀ (xs : List D) (i : Int), ixD (.list xs) (.int i) = atI xs i := fun xs i => by cases xs <;> rfl
    have tx : ∀ (xs : List D) (i : Int), ixD (.tuple xs) (.int i) = atI xs i := fun _ _ => rfl
    cases e with
    | dict => simp [PyData.plain] at he
    | list ys =>
      simp only [PyData.plain] at he
      simp only [szD, Bool.and_eq_true, decide_eq_true_eq] at hs
      simp only [PyData.depth] at hn
      cases d with
      | dict => simp [PyData.plain] at hd
      | list xs =>
        simp only [PyData.plain] at hd
        array_get_dec; array_mem_dec
        simp only [beq_self_eq_true, Bool.true_eq_false, if_false]
        exact seq xs ys _ _ rfl rfl (lx _) (lx _) hd he hs.1 hs.2 (by omega) rfl rfl (by simp)
      | tuple xs =>
        array_get_dec; array_mem_dec
        simp
      | _ => array_get_dec; array_mem_dec; simp
    | tuple ys =>
      simp only [PyData.plain] at he
      simp only [szD, Bool.and_eq_true, decide_eq_true_eq] at hs
      simp only [PyData.depth] at hn
      cases d with
      | dict => simp [PyData.plain] at hd
      | tuple xs =>
        simp only [PyData.plain] at hd
        array_get_dec; array_mem_dec
        simp only [beq_self_eq_true, Bool.true_eq_false, if_false]
        exact seq xs ys _ _ rfl rfl (tx _) (tx _) hd he hs.1 hs.2 (by omega) rfl rfl (by simp)
      | list xs =>
        array_get_dec; array_mem_dec
        simp
      | _ => array_get_dec; array_mem_dec; simp
    | _ => exact absurd rfl hleaf
/-- two of one type are alike -/
@[irreducible] def alk {α : Type} [Eqe α] (a b : α) : Option Bool := if szD (emb b) = true then some (decide (a = b)) else none
theorem emb_inj {α : Type} [Eqe α] {a b : α} : (emb a : D) = emb b ↔ a = b :=
  ⟨fun h => (Eqe.eqv a b).mp (by rw [h]; exact (Eqe.eqv b b).mpr rfl), fun h => by rw [h]⟩
theorem t_alk {α : Type} [Eqe α] {a b : α} {r : Bool} {n : Nat} {φ : Fn} {L L1 L2 : List Pat} {ss : Rho → Rs (List Vl)} {vs : List Vl} (hφ : φ = alikeF n) (h : alk a b = some r) (hs : EG L ss vs L1) (hf : frzsL L1 vs = some ([emb a, emb b], L2) := by rfl) (hn : Eqe.dp α < n := by decide) : EG L (sCall φ ss) (.d (emb r)) L2 := by
  subst hφ
  unfold alk at h
  split at h
  · cases h
    obtain ⟨z, o, e, b', rfl, hb⟩ := (alike_D n (emb a) (emb b) (Eqe.pl a) (Eqe.pl b) ‹_› (Nat.lt_of_le_of_lt (Eqe.dle b) hn)).ex
    have : b' = decide (a = b) := by rw [Bool.eq_iff_iff, hb, decide_eq_true_eq, emb_inj]
    subst this
    exact e_call hs e hf
  · cases h
section
variable {α β : Type} [Emb α] [Emb β]
@[simp] theorem sz_int {i : Int} : szD (emb i) = true := by simp [emb, szD]
@[simp] theorem sz_bool {i : Bool} : szD (emb i) = true := by simp [emb, szD]
@[simp] theorem sz_str {i : Str} : szD (emb i) = true := by simp [emb, szD]
@[simp] theorem sz_unit {i : Unit} : szD (emb i) = true := by simp [emb, szD]
theorem szAll_map : ∀ {l : List α}, szAll (l.map emb) = l.all fun a => szD (emb a)
  | [] => by simp [szAll]
  | x :: r => by simp [szAll, szAll_map (l := r)]
@[simp] theorem sz_list {l : List α} : szD (emb l) = (decide (l.length ≤ 16777216) && l.all fun a => szD (emb a)) := by
  show szD (.list (l.map emb)) = _
  rw [szD, szAll_map, List.length_map]
@[simp] theorem sz_tup {l : Tup α} : szD (emb l) = (decide (l.l.length ≤ 16777216) && l.l.all fun a => szD (emb a)) := by
  show szD (.tuple (l.l.map emb)) = _
  rw [szD, szAll_map, List.length_map]
@[simp] theorem sz_pair {p : α × β} : szD (emb p) = (szD (emb p.1) && szD (emb p.2)) := by
  show szD (.tuple [emb p.1, emb p.2]) = _
  simp [szD, szAll]
@[simp] theorem sz_none : szD (emb (none : Option α)) = true := by simp [emb, szD]
@[simp] theorem sz_some {a : α} : szD (emb (some a)) = szD (emb a) := (rfl)
end
/-! ### conversions, more built-ins -/
section
variable {L L1 L2 : List Pat} {a b : Rho → Rs Vl} {v w : Vl}
theorem to_opt {α : Type} [Emb α] {o : Option α} {x : α} (h : o = some x) (e : EG L a (.d (emb o)) L1) : EG L a (.d (emb x)) L1 := by subst h; exact e
theorem to_int {d : D} {i : Int} (h : asI d = some i) (e : EG L a (.d d) L1) : EG L a (.d (emb i)) L1 := by have := as_int h; subst this; exact e
@[irreducible] def lenO (d : D) : Option Int := match lenD [d] with | some (.int i) => some i | _ => none
theorem o_lenD {d : D} {i : Int} (h : lenO d = some i) : lenD [d] = some (.int i) := by
  unfold lenO at h
  split at h
  · cases h; assumption
  · cases h
@[irreducible] def rgvO (a b : Int) : Option (List Int) := if rgOk a b = true then some (rgI a b) else none
def ENDS (L : List Pat) (r : REnds) (i j : Int) (L' : List Pat) : Prop := rgOk i j = true → EG L (sEnds r) (i, j) L'
theorem en_one {i : Int} (h : EG L a v L1) (hx : contL L1 v = some (.int i) := by rfl) : ENDS L (.one a) 0 i L1 := fun ok ρ q => by
  obtain ⟨ρ1, e1, q1⟩ := h ρ q
  exact ⟨ρ1, by simp only [sEnds, e1, Rs.bind_ok, contL_ok q1 hx, ends2, ok, if_true], q1⟩
theorem en_two {i j : Int} (h : EG L a v L1) (k : EG L1 b w L2) (hx : contL L2 v = some (.int i) := by rfl) (hy : contL L2 w = some (.int j) := by rfl) : ENDS L (.two a b) i j L2 := fun ok ρ q => by
  obtain ⟨ρ1, e1, q1⟩ := h ρ q
  obtain ⟨ρ2, e2, q2⟩ := k ρ1 q1
  exact ⟨ρ2, by simp only [sEnds, e1, e2, Rs.bind_ok, contL_ok q2 hx, contL_ok q2 hy, ends2, ok, if_true], q2⟩
theorem rgv_ok {i j : Int} {l : List Int} (h : rgvO i j = some l) : rgOk i j = true ∧ rgD (i, j) = l.map emb := by
  unfold rgvO at h
  split at h
  · cases h; exact ⟨‹_›, rg_emb⟩
  · cases h
theorem f_lrg {r : REnds} {i j : Int} {l : List Int} (e : ENDS L r i j L1) (h : rgvO i j = some l) : EG L (sLrg r) (.fr (emb l)) L1 := fun ρ q => by
  obtain ⟨h1, h2⟩ := rgv_ok h
  obtain ⟨ρ1, e1, q1⟩ := e h1 ρ q
  exact ⟨ρ1, by simp only [sLrg, e1, Rs.bind_ok, h2]; rfl, q1⟩
theorem e_trg {r : REnds} {i j : Int} {l : List Int} (e : ENDS L r i j L1) (h : rgvO i j = some l) : EG L (sTrg r) (.d (emb (Tup.mk l))) L1 := fun ρ q => by
  obtain ⟨h1, h2⟩ := rgv_ok h
  obtain ⟨ρ1, e1, q1⟩ := e h1 ρ q
  exact ⟨ρ1, by simp only [sTrg, e1, Rs.bind_ok, h2]; rfl, q1⟩
theorem ktn2 {R : Type} [Emb R] {a : R} (h : emb a = .none) : ∀ ρ, Fits L ρ → KT a .nx ρ := fun _ _ => .inr ⟨rfl, h⟩
theorem kwn2 {R S : Type} [Emb R] [Emb S] {a : R × S} (h : emb a.1 = .none) (h0 : L[0]? = some (.ex (.own true (emb a.2)))) : ∀ ρ, Fits L ρ → KW a .nx ρ := fun _ f => ⟨.inr ⟨rfl, h⟩, f.at h0⟩
end
/-- a comprehension that draws -/
theorem f_compS {α β σ : Type} [Emb α] [Emb β] {L L1 L4 : List Pat} {it : Rho → Rs (List D)} {tg : D → Rho → Rs Fl} {tt : Rho → Rs Bool} {te : Rho → Rs Vl} {vs : List Nat} (Lf : σ → List Pat) (Lg : α → σ → List Pat) {p : α → σ → Option (Bool × σ)} {g : α → σ → Option (β × σ)} {xs : List α} {s : σ} {r : List β × σ}
    (hi : EG L it (xs.map emb) L1) (h0 : wipeL L1 vs = Lf s) (ht : ∀ x s, EG (Lf s) (tg (emb x)) .nx (Lg x s))
    (hp : ∀ x s b, p x s = some b → (∀ x s y, g x s = some y → ∃ v Le Lz, EG (Lg x s) te v Le ∧ frzL Le v = some (emb y.1, Lz) ∧ allValL Lz vs = true ∧ wipeL Lz vs = Lf y.2) →
      ∃ Lt : List Pat, EG (Lg x s) tt b.1 Lt ∧ (b.1 = false → allValL Lt vs = true ∧ wipeL Lt vs = Lf b.2) ∧ (b.1 = true → ∀ y, g x b.2 = some y → ∃ v Le Lz, EG Lt te v Le ∧ frzL Le v = some (emb y.1, Lz) ∧ allValL Lz vs = true ∧ wipeL Lz vs = Lf y.2))
    (hg : ∀ x s y, g x s = some y → ∃ v Le Lz, EG (Lg x s) te v Le ∧ frzL Le v = some (emb y.1, Lz) ∧ allValL Lz vs = true ∧ wipeL Lz vs = Lf y.2)
    (hr : compO p g xs s = some r) (hv : allValL L1 vs = true := by rfl) (hL : backL L1 vs (Lf r.2) = L4 := by rfl) : EG L (sLc it tg tt te vs) (.fr (emb r.1)) L4 :=
  f_comp Lf hi h0 (fun x s => ⟨⟨Lg x s, ht x s, fun b hb => hp x s b hb hg⟩⟩) hr hv hL
section
variable {α : Type} {L : List Pat} {a b c d e t : Rho → Rs Fl} {m : M α} {K : α → Fl → Rho → Prop}
theorem seq_congr {s s' : Rho → Rs Fl} (h : ∀ ρ, s ρ = s' ρ) (ρ : Rho) : sSeq a s ρ = sSeq a s' ρ := by
  have : s = s' := funext h
  rw [this]
theorem s_as2 (h : SR L (sSeq a (sSeq b t)) m K) : SR L (sSeq (sSeq a b) t) m K := s_as h
theorem as3 (ρ : Rho) : sSeq (sSeq a (sSeq b c)) t ρ = sSeq a (sSeq b (sSeq c t)) ρ := (seq_as ρ).trans (seq_congr (fun ρ => seq_as ρ) ρ)
theorem s_as3 (h : SR L (sSeq a (sSeq b (sSeq c t))) m K) : SR L (sSeq (sSeq a (sSeq b c)) t) m K := h.eq fun ρ => as3 ρ
theorem as4 (ρ : Rho) : sSeq (sSeq a (sSeq b (sSeq c d))) t ρ = sSeq a (sSeq b (sSeq c (sSeq d t))) ρ := (seq_as ρ).trans (seq_congr (fun ρ => as3 ρ) ρ)
theorem s_as4 (h : SR L (sSeq a (sSeq b (sSeq c (sSeq d t)))) m K) : SR L (sSeq (sSeq a (sSeq b (sSeq c d))) t) m K := h.eq fun ρ => as4 ρ
theorem as5 (ρ : Rho) : sSeq (sSeq a (sSeq b (sSeq c (sSeq d e)))) t ρ = sSeq a (sSeq b (sSeq c (sSeq d (sSeq e t)))) ρ := (seq_as ρ).trans (seq_congr (fun ρ => as4 ρ) ρ)
theorem s_as5 (h : SR L (sSeq a (sSeq b (sSeq c (sSeq d (sSeq e t))))) m K) : SR L (sSeq (sSeq a (sSeq b (sSeq c (sSeq d e)))) t) m K := h.eq fun ρ => as5 ρ
end
theorem map_embD (l : List D) : (l.map emb : List D) = l := List.map_id l
/-! ### sorted(set(t)), displays with stars -/
@[irreducible] def ssO (t : Tup Int) : Option (List Int) := if t.l.length < 64 then some (sortU t.l) else none
theorem f_ss {L L1 : List Pat} {a : Rho → Rs Vl} {v : Vl} {t : Tup Int} {r : List Int} (h : ssO t = some r) (ha : EG L a v L1) (hx : contL L1 v = some (emb t) := by rfl) : EG L (sSortSet a) (.fr (emb r)) L1 := by
  unfold ssO at h
  split at h
  · rename_i l64
    cases h
    intro ρ q
    obtain ⟨ρ1, e1, q1⟩ := ha ρ q
    refine ⟨ρ1, ?_, q1⟩
    have e : sortSetD (emb t) = some (emb (sortU t.l)) := by
      show (intsD (t.l.map emb)).bind _ = _
      rw [intsD_emb]
      show (if t.l.length < 64 then _ else _) = _
      rw [if_pos l64]; rfl
    simp only [sSortSet, e1, Rs.bind_ok, contL_ok q1 hx, Option.bind_some, e, retF]
  · cases h
@[irreducible] def ckO {α : Type} (l : List α) : Option (List α) := if l.length ≤ 16777216 then some l else none
theorem frzsL_d {L : List Pat} : ∀ {ds : List D}, frzsL L (ds.map Vl.d) = some (ds, L)
  | [] => rfl
  | d :: r => by
    simp only [List.map_cons, frzsL, frzL, frzsL_d]
section
variable {α : Type} [Emb α] {L L1 L2 : List Pat} {a : Rho → Rs Vl} {v : Vl} {ss : Rho → Rs (List Vl)} {l xs : List α} {x : α}
theorem as_n : EG L sNil ((([] : List α).map emb).map Vl.d) L := EG.pure
theorem as_c (h : EG L a (.d (emb x)) L1) (r : EG L1 ss ((l.map emb).map Vl.d) L2) : EG L (sCons a ss) (((x :: l).map emb).map Vl.d) L2 := a_c h r
theorem as_s (h : EG L a v L1) (r : EG L1 ss ((l.map emb).map Vl.d) L2) (hx : contL L1 v = some (emb xs) := by rfl) : EG L (sStar a ss) (((xs ++ l).map emb).map Vl.d) L2 :=
  (e_star (ds := xs.map emb) h r rfl hx).to (by rw [List.map_append, List.map_append])
theorem as_t {t : Tup α} (h : EG L a v L1) (r : EG L1 ss ((l.map emb).map Vl.d) L2) (hx : contL L1 v = some (emb t) := by rfl) : EG L (sStar a ss) (((t.l ++ l).map emb).map Vl.d) L2 :=
  (e_star (ds := t.l.map emb) h r rfl hx).to (by rw [List.map_append, List.map_append])
theorem ck_ok {l r : List α} (h : ckO l = some r) : r = l ∧ (l.map emb : List D).length ≤ 16777216 := by
  unfold ckO at h
  split at h
  · cases h; exact ⟨rfl, by rw [List.length_map]; assumption⟩
  · cases h
theorem f_starL {r : List α} (h : ckO l = some r) (hs : EG L ss ((l.map emb).map Vl.d) L1) : EG L (sLst ss) (.fr (emb r)) L1 := by
  obtain ⟨rfl, hn⟩ := ck_ok h
  exact f_lst hs frzsL_d hn
theorem e_starT {r : List α} (h : ckO l = some r) (hs : EG L ss ((l.map emb).map Vl.d) L1) : EG L (sTup ss) (.d (emb (Tup.mk r))) L1 := by
  obtain ⟨rfl, hn⟩ := ck_ok h
  exact e_tup hs frzsL_d hn
end
/-! ### xs[i] among the targets -/
theorem g_ix {α : Type} [Emb α] {ix : Rho → Rs Vl} {L L4 L5 : List Pat} {i : Nat} {w : Vl} {k : Int} {a : α} {l l' r : List α} {p p' : Bool} (hi : EG L ix w L4) (hs : setO l k a = some r) (h0 : L[i]? = some (.ex (.own p' (emb l'))) := by rfl) (hk : contL L4 w = some (.int k) := by rfl) (h1 : L4[i]? = some (.ex (.own p (emb l))) := by rfl) (hL : L4.set i (.ex (.own p (emb r))) = L5 := by rfl) : EG L (gIx i ix (emb a)) .nx L5 := by
  subst hL
  unfold setO at hs
  obtain ⟨n, e1, rfl⟩ := Option.map_eq_some_iff.mp hs
  intro ρ q
  obtain ⟨ρ2, e2, q2⟩ := hi ρ q
  have h1' : L4[i]? = some (.ex (.own p (.list (l.map emb)))) := h1
  have h0' : L[i]? = some (.ex (.own p' (.list (l'.map emb)))) := h0
  refine ⟨_, ?_, q2.set i rfl⟩
  simp only [gIx, e2, Rs.bind_ok, own_at q h0', Option.isSome_some, if_true, contL_ok q2 hk, setAt, own_at q2 h1', List.length_map, e1]
  rw [show (emb (l.set n a) : D) = .list ((l.map emb).set n (emb a)) by show PyData.list ((l.set n a).map emb) = _; rw [List.map_set]]
/-! ### a list many times -/
@[irreducible] def repO {α : Type} (l : List α) (k : Int) : Option (List α) := if repOk l.length k = true then some (List.replicate k.toNat l).flatten else none
theorem t_mulL {α : Type} [Emb α] {a b : Rho → Rs Vl} {L L1 L2 : List Pat} {v w : Vl} {l r : List α} {k : Int} (ha : EG L a v L1) (hb : EG L1 b w L2) (h : repO l k = some r) (hx : contL L2 v = some (emb l) := by rfl) (hy : contL L2 w = some (.int k) := by rfl) : EG L (sMulL a b) (.fr (emb r)) L2 := by
  unfold repO at h
  split at h
  · rename_i hk
    cases h
    intro ρ q
    obtain ⟨ρ1, e1, q1⟩ := ha ρ q
    obtain ⟨ρ2, e2, q2⟩ := hb ρ1 q1
    refine ⟨ρ2, ?_, q2⟩
    have hx' : contL L2 v = some (.list (l.map emb)) := hx
    simp only [sMulL, e1, e2, Rs.bind_ok, mulL, contL_ok q2 hx', contL_ok q2 hy, List.length_map, hk, if_true]
    rw [show (emb (List.replicate k.toNat l).flatten : D) = .list (List.replicate k.toNat (l.map emb)).flatten by show PyData.list ((List.replicate k.toNat l).flatten.map emb) = _; rw [List.map_flatten, List.map_replicate]]
  · cases h
/-! ### a, b = x, y with new lists -/
section
variable {L L1 L2 L4 : List Pat} {i j l : Nat} {sf : Rho → Rs Vf} {ss : Rho → Rs (List Vf)} {x y z : Vf} {xs : List Vf} {c e f : Cell} {q q' q'' : Pat}
theorem fa_n : EG L fNil [] L := EG.pure
theorem fa_c (h : EG L sf x L1) (r : EG L1 ss xs L2) : EG L (fCons sf ss) (x :: xs) L2 := by
  intro ρ g
  obtain ⟨ρ1, e1, q1⟩ := h ρ g
  obtain ⟨ρ2, e2, q2⟩ := r ρ1 q1
  exact ⟨ρ2, by simp only [fCons, e1, e2, Rs.bind_ok], q2⟩
theorem x_parF (h : EG L ss [x, y] L1) (hx : cellF x = some c := by rfl) (hy : cellF y = some e := by rfl) (hq : L1[i]? = some q := by rfl) (o : okP q = true := by rfl) (hq' : (L1.set i (.ex c))[j]? = some q' := by rfl) (o' : okP q' = true := by rfl) (hL : (L1.set i (.ex c)).set j (.ex e) = L4 := by rfl) : EG L (sParF i j ss) .nx L4 := by
  subst hL
  intro ρ g
  obtain ⟨ρ1, e1, q1⟩ := h ρ g
  have g1 := q1.put (c := c) hq o
  have g2 := g1.2.put (c := e) hq' o'
  exact ⟨_, by simp only [sParF, e1, Rs.bind_ok, putF2, hx, hy, g1.1, thenG, g2.1], g2.2⟩
theorem x_parF3 (h : EG L ss [x, y, z] L1) (hx : cellF x = some c := by rfl) (hy : cellF y = some e := by rfl) (hz : cellF z = some f := by rfl) (hq : L1[i]? = some q := by rfl) (o : okP q = true := by rfl) (hq' : (L1.set i (.ex c))[j]? = some q' := by rfl) (o' : okP q' = true := by rfl) (hq'' : ((L1.set i (.ex c)).set j (.ex e))[l]? = some q'' := by rfl) (o'' : okP q'' = true := by rfl) (hL : ((L1.set i (.ex c)).set j (.ex e)).set l (.ex f) = L4 := by rfl) : EG L (sParF3 i j l ss) .nx L4 := by
  subst hL
  intro ρ g
  obtain ⟨ρ1, e1, q1⟩ := h ρ g
  have g1 := q1.put (c := c) hq o
  have g2 := g1.2.put (c := e) hq' o'
  have g3 := g2.2.put (c := f) hq'' o''
  exact ⟨_, by simp only [sParF3, e1, Rs.bind_ok, putF3, hx, hy, hz, g1.1, thenG, g2.1, g3.1], g3.2⟩
end
end T
/-! T: data with an order. -/
namespace T
open PySem PySem.Spec PyProof.Rows L2 L3
open Emb (emb)
/-- data that Python puts into order -/
class Orde (α : Type) extends NNe α where
  lt : α → α → Bool
  alk : ∀ a b : α, PySem.W.alike (emb a) (emb b) = true
  ltq : ∀ a b : α, PySem.W.dataLt (emb a) (emb b) = lt a b
  srt : Bool
  srtq : srt = true → (∀ a : α, ∃ x r, emb a = PyData.tuple (x :: r)) ∨ ∀ (a : α) xs, emb a ≠ PyData.tuple xs
instance : Orde Int where
  lt a b := decide (a < b)
  alk a b := by show PySem.W.alike (.int a) (.int b) = true; simp only [PySem.W.alike]
  ltq a b := PySem.W.dataLt_int a b
  srt := true
  srtq _ := .inr fun a xs e => by cases e
section
variable {α β γ δ : Type} [Orde α] [Orde β] [Orde γ] [Orde δ]
/-- the first difference decides, else the shorter is less -/
def ltL : List α → List α → Bool
  | [], [] => false
  | [], _ :: _ => true
  | _ :: _, [] => false
  | x :: xs, y :: ys => if x = y then ltL xs ys else Orde.lt x y
theorem lex_c {xs ys : List D} (x y : α) : PyProof.Rows.lexLt PyProof.Rows.itemOrd (PySem.W.keyToksAll (emb x :: xs)) (PySem.W.keyToksAll (emb y :: ys)) = if x = y then PyProof.Rows.lexLt PyProof.Rows.itemOrd (PySem.W.keyToksAll xs) (PySem.W.keyToksAll ys) else Orde.lt x y := by
  by_cases h : x = y
  · rw [if_pos h, PySem.W.dataLt_all_yes (Orde.alk x y) ((Eqe.eqv x y).mpr h)]
  · rw [if_neg h, PySem.W.dataLt_all_no (Orde.alk x y) (by rw [eqv_dec, decide_eq_false h]), Orde.ltq]
theorem lex_n : PyProof.Rows.lexLt PyProof.Rows.itemOrd (PySem.W.keyToksAll []) (PySem.W.keyToksAll []) = false := PyProof.Rows.lex_irrefl _
theorem lt_self (x : α) : Orde.lt x x = false := (Orde.ltq x x).symm.trans (PyProof.Rows.lex_irrefl _)
theorem alk_map : ∀ xs ys : List α, PySem.W.alikeAll (xs.map emb) (ys.map emb) = true
  | [], _ => by rw [List.map_nil, PySem.W.alikeAll]
  | _ :: _, [] => by rw [List.map_nil, List.map_cons, PySem.W.alikeAll]
  | x :: xs, y :: ys => by rw [List.map_cons, List.map_cons, PySem.W.alikeAll, Orde.alk x y, alk_map xs ys]; rfl
theorem lex_map : ∀ xs ys : List α, PyProof.Rows.lexLt PyProof.Rows.itemOrd (PySem.W.keyToksAll (xs.map emb)) (PySem.W.keyToksAll (ys.map emb)) = ltL xs ys
  | [], [] => lex_n
  | [], y :: ys => by
    rw [List.map_nil, List.map_cons, PySem.W.toks_all_cons]
    simp only [PySem.W.keyToksAll]
    rw [PyProof.Rows.lex_diff (O := PyProof.Rows.itemOrd) (by simp)]
    rfl
  | x :: xs, [] => by
    rw [List.map_nil, List.map_cons, PySem.W.toks_all_cons]
    simp only [PySem.W.keyToksAll]
    rw [PyProof.Rows.lex_diff (O := PyProof.Rows.itemOrd) (by simp)]
    rfl
  | x :: xs, y :: ys => by
    rw [List.map_cons, List.map_cons, lex_c, lex_map xs ys]
    rfl
instance : Orde (List α) where
  lt := ltL
  alk xs ys := by show PySem.W.alike (.list _) (.list _) = true; simp only [PySem.W.alike]; exact alk_map xs ys
  ltq xs ys := (PySem.W.dataLt_list _ _).trans (lex_map xs ys)
  srt := true
  srtq _ := .inr fun a xs e => by cases e
instance : Orde (Tup α) where
  lt t u := ltL t.l u.l
  alk t u := by show PySem.W.alike (.tuple _) (.tuple _) = true; simp only [PySem.W.alike]; exact alk_map t.l u.l
  ltq t u := (PySem.W.dataLt_tuple _ _).trans (lex_map t.l u.l)
  srt := false
  srtq h := by cases h
instance : Orde (α × β) where
  lt p q := if p.1 = q.1 then Orde.lt p.2 q.2 else Orde.lt p.1 q.1
  alk p q := by
    show PySem.W.alike (.tuple [_, _]) (.tuple [_, _]) = true
    simp only [PySem.W.alike, PySem.W.alikeAll, Orde.alk, Bool.and_self]
  ltq p q := by
    refine (PySem.W.dataLt_tuple _ _).trans ?_
    rw [lex_c p.1 q.1, lex_c p.2 q.2, lex_n]
    by_cases h : p.2 = q.2
    · rw [if_pos h, h, lt_self]
    · rw [if_neg h]
  srt := true
  srtq _ := .inl fun a => ⟨_, _, rfl⟩
instance : Orde (T1 α) where
  lt p q := Orde.lt p.a q.a
  alk p q := by
    show PySem.W.alike (.tuple [_]) (.tuple [_]) = true
    simp only [PySem.W.alike, PySem.W.alikeAll, Orde.alk, Bool.and_self]
  ltq p q := by
    refine (PySem.W.dataLt_tuple _ _).trans ?_
    rw [lex_c p.a q.a, lex_n]
    by_cases h : p.a = q.a
    · rw [if_pos h, h, lt_self]
    · rw [if_neg h]
  srt := true
  srtq _ := .inl fun a => ⟨_, _, rfl⟩
instance : Orde (T3 α β γ) where
  lt p q := if p.a = q.a then (if p.b = q.b then Orde.lt p.c q.c else Orde.lt p.b q.b) else Orde.lt p.a q.a
  alk p q := by
    show PySem.W.alike (.tuple [_, _, _]) (.tuple [_, _, _]) = true
    simp only [PySem.W.alike, PySem.W.alikeAll, Orde.alk, Bool.and_self]
  ltq p q := by
    refine (PySem.W.dataLt_tuple _ _).trans ?_
    rw [lex_c p.a q.a, lex_c p.b q.b, lex_c p.c q.c, lex_n]
    by_cases h : p.c = q.c
    · rw [if_pos h, h, lt_self]
    · rw [if_neg h]
  srt := true
  srtq _ := .inl fun a => ⟨_, _, rfl⟩
instance : Orde (T4 α β γ δ) where
  lt p q := if p.a = q.a then (if p.b = q.b then (if p.c = q.c then Orde.lt p.d q.d else Orde.lt p.c q.c) else Orde.lt p.b q.b) else Orde.lt p.a q.a
  alk p q := by
    show PySem.W.alike (.tuple [_, _, _, _]) (.tuple [_, _, _, _]) = true
    simp only [PySem.W.alike, PySem.W.alikeAll, Orde.alk, Bool.and_self]
  ltq p q := by
    refine (PySem.W.dataLt_tuple _ _).trans ?_
    rw [lex_c p.a q.a, lex_c p.b q.b, lex_c p.c q.c, lex_c p.d q.d, lex_n]
    by_cases h : p.d = q.d
    · rw [if_pos h, h, lt_self]
    · rw [if_neg h]
  srt := true
  srtq _ := .inl fun a => ⟨_, _, rfl⟩
theorem ordOk_map {l : List α} (h : Eqe.dp α ≤ 150) : ordOk (l.map emb) = true := by
  refine ordOk_iff.mpr ⟨⟨fun x hx y hy => ?_, fun x hx => ?_⟩, pl_map l, Nat.le_trans (dp_map l) h⟩
  · obtain ⟨a, _, rfl⟩ := List.mem_map.mp hx
    obtain ⟨b, _, rfl⟩ := List.mem_map.mp hy
    exact Orde.alk a b
  · obtain ⟨a, _, rfl⟩ := List.mem_map.mp hx
    exact notNone a
/-! <, min, max, sorted -/
theorem cmp_lt {a b : α} (h : Eqe.dp α ≤ 150) {f : D → D → Bool} {p : Option D} : orD (cmpD f (emb a) (emb b)) p = some (.bool (f (emb a) (emb b))) := by
  refine orD_some ?_
  unfold cmpD
  rw [if_pos (show ordOk [emb a, emb b] = true from ordOk_map (l := [a, b]) h)]
theorem o_ltX {a b : α} (h : Eqe.dp α ≤ 150 := by decide) : ltX (emb a) (emb b) = some (.bool (Orde.lt a b)) := by rw [← Orde.ltq]; exact cmp_lt h
theorem o_gtX {a b : α} (h : Eqe.dp α ≤ 150 := by decide) : gtX (emb a) (emb b) = some (.bool (Orde.lt b a)) := by rw [← Orde.ltq]; exact cmp_lt h
theorem o_leX {a b : α} (h : Eqe.dp α ≤ 150 := by decide) : leX (emb a) (emb b) = some (.bool (!Orde.lt b a)) := by rw [← Orde.ltq]; exact cmp_lt h
theorem o_geX {a b : α} (h : Eqe.dp α ≤ 150 := by decide) : geX (emb a) (emb b) = some (.bool (!Orde.lt a b)) := by rw [← Orde.ltq]; exact cmp_lt h
/-- the first of the least, of the greatest -/
def minF (x : α) (l : List α) : α := l.foldl (fun a y => if Orde.lt y a = true then y else a) x
def maxF (x : α) (l : List α) : α := l.foldl (fun a y => if Orde.lt a y = true then y else a) x
def minT : List α → Option α
  | [] => none
  | x :: l => some (minF x l)
def maxT : List α → Option α
  | [] => none
  | x :: l => some (maxF x l)
theorem minD_emb : ∀ (x : α) (l : List α), PySem.W.minD (emb x) (l.map emb) = emb (minF x l)
  | x, [] => rfl
  | x, y :: l => by
    have ih := minD_emb (if Orde.lt y x = true then y else x) l
    unfold PySem.W.minD minF at ih ⊢
    rw [List.map_cons, List.foldl_cons, List.foldl_cons, ← ih, Orde.ltq]
    cases Orde.lt y x <;> rfl
theorem maxD_emb : ∀ (x : α) (l : List α), PySem.W.maxD (emb x) (l.map emb) = emb (maxF x l)
  | x, [] => rfl
  | x, y :: l => by
    have ih := maxD_emb (if Orde.lt x y = true then y else x) l
    unfold PySem.W.maxD maxF at ih ⊢
    rw [List.map_cons, List.foldl_cons, List.foldl_cons, ← ih, Orde.ltq]
    cases Orde.lt x y <;> rfl
theorem o_minX {l : List α} {m : α} (e : minT l = some m) (h : Eqe.dp α ≤ 150 := by decide) : minX [emb l] = some (emb m) := by
  cases l with
  | nil => cases e
  | cons x l =>
    cases e
    refine orD_some ?_
    show (if ordOk (emb x :: l.map emb) = true then _ else _) = _
    rw [if_pos (show ordOk (emb x :: l.map emb) = true from ordOk_map (l := x :: l) h), minD_emb]
theorem o_maxX {l : List α} {m : α} (e : maxT l = some m) (h : Eqe.dp α ≤ 150 := by decide) : maxX [emb l] = some (emb m) := by
  cases l with
  | nil => cases e
  | cons x l =>
    cases e
    refine orD_some ?_
    show (if ordOk (emb x :: l.map emb) = true then _ else _) = _
    rw [if_pos (show ordOk (emb x :: l.map emb) = true from ordOk_map (l := x :: l) h), maxD_emb]
theorem o_minXT {l : Tup α} {m : α} (e : minT l.l = some m) (h : Eqe.dp α ≤ 150 := by decide) : minX [emb l] = some (emb m) := by
  obtain ⟨l⟩ := l
  cases l with
  | nil => cases e
  | cons x l =>
    cases e
    refine orD_some ?_
    show (if ordOk (emb x :: l.map emb) = true then _ else _) = _
    rw [if_pos (show ordOk (emb x :: l.map emb) = true from ordOk_map (l := x :: l) h), minD_emb]
theorem o_maxXT {l : Tup α} {m : α} (e : maxT l.l = some m) (h : Eqe.dp α ≤ 150 := by decide) : maxX [emb l] = some (emb m) := by
  obtain ⟨l⟩ := l
  cases l with
  | nil => cases e
  | cons x l =>
    cases e
    refine orD_some ?_
    show (if ordOk (emb x :: l.map emb) = true then _ else _) = _
    rw [if_pos (show ordOk (emb x :: l.map emb) = true from ordOk_map (l := x :: l) h), maxD_emb]
/-- sorted, equal ones in their order -/
def srtT (l : List α) : List α := l.mergeSort fun a b => !Orde.lt b a
theorem srtOk_map {l : List α} (h : Orde.srt α = true) : srtOk (l.map emb) = true := by
  unfold srtOk
  rw [Bool.or_eq_true_iff]
  rcases Orde.srtq h with h | h
  · refine .inl (List.all_eq_true.mpr fun x hx => ?_)
    obtain ⟨a, _, rfl⟩ := List.mem_map.mp hx
    obtain ⟨y, r, e⟩ := h a
    rw [e]
  · refine .inr (List.all_eq_true.mpr fun x hx => ?_)
    obtain ⟨a, _, rfl⟩ := List.mem_map.mp hx
    have h1 := h a
    have h2 := notNone a
    split
    · rename_i e; exact absurd e (h1 _)
    · rename_i e; exact absurd e h2
    · rfl
theorem o_srtX {l : List α} (hs : Orde.srt α = true := by rfl) (h : Eqe.dp α ≤ 150 := by decide) : srtX [emb l] = some (emb (srtT l)) := by
  refine orD_some ?_
  show (if (ordOk (l.map emb) && srtOk (l.map emb)) = true then _ else _) = _
  rw [if_pos (by rw [ordOk_map h, srtOk_map hs]; rfl)]
  have e := List.map_mergeSort (r := fun a b : α => !Orde.lt b a) (s := PySem.W.dataLe false id) (f := emb) (l := l) fun a _ b _ => by
    rw [PySem.W.dataLe_eq]
    show _ = !PySem.W.dataLt (emb b) (emb a)
    rw [Orde.ltq]
  show some (PyData.list _) = some (PyData.list ((srtT l).map emb))
  unfold srtT
  rw [e]
end
end T
/-! T, part 5: reasoning about M. -/
namespace T
open PySem PySem.Spec PyProof.Rows L2 L3
open Emb (emb)
def W {α : Type} (m : M α) (Q : α → Prop) : Prop :=
  match m with
  | .ok a => Q a
  | _ => False
section
variable {α β σ ρ : Type} {Q : α → Prop}
theorem w_ok {a : α} : W (.ok a) Q = Q a := (rfl)
theorem W.ex {m : M α} (h : W m Q) : ∃ a, m = .ok a ∧ Q a := by
  cases m with
  | ok a => exact ⟨a, rfl, h⟩
  | er => exact h.elim
  | no => exact h.elim
theorem W.of {m : M α} {a : α} (h : m = .ok a) (q : Q a) : W m Q := by rw [h]; exact q
theorem W.to {m : M α} {Q' : α → Prop} (h : W m Q) (i : ∀ a, Q a → Q' a) : W m Q' := by
  obtain ⟨a, rfl, q⟩ := h.ex
  exact i a q
theorem W.eq {m : M α} {a : α} (h : W m fun x => x = a) : m = .ok a := by
  obtain ⟨x, e, rfl⟩ := h.ex
  exact e
theorem w_bd {m : M β} {k : β → M α} (h : W m fun b => W (k b) Q) : W (bd m k) Q := by
  obtain ⟨b, rfl, q⟩ := h.ex
  exact q
theorem w_bo {o : Option β} {k : β → M α} {b : β} (e : o = some b) (h : W (k b) Q) : W (bo o k) Q := by rw [e]; exact h
theorem w_o {m : M β} {k : β → M α} (h : W m fun b => W (k b) Q) : W (bo m.o k) Q := by
  obtain ⟨b, rfl, q⟩ := h.ex
  exact q
theorem w_lt {b : β} {k : β → M α} (h : W (k b) Q) : W (lt b k) Q := h
/-! draws -/
theorem w_taken {r : DRow} {n : Int} {k : Int × DRow → M α} (hr : RowOk' r) (h0 : 0 < n) (h1 : n < 1073741824) (h : ∀ d r', 0 ≤ d → d < n → RowOk' r' → W (k (d, r')) Q) : W (bo (taken r n).o k) Q := by
  obtain ⟨d, r', e, a, b, c⟩ := taken_ok hr h0 h1
  rw [e]
  exact h d r' a b c
theorem w_pick {γ : Type} {r : DRow} {l : List γ} {k : γ × DRow → M α} (hr : RowOk' r) (h0 : 0 < l.length) (h1 : l.length < 1000000) (h : ∀ x r', x ∈ l → RowOk' r' → W (k (x, r')) Q) : W (bo (pick r l).o k) Q := by
  obtain ⟨x, r', e, a, b⟩ := pick_ok hr h0 h1
  rw [e]
  exact h x r' a b
/-! partial operations -/
theorem rgO_eq {a b : Int} (h0 : -(2 ^ 62) ≤ a ∧ a < 2 ^ 62) (h1 : -(2 ^ 62) ≤ b ∧ b < 2 ^ 62) : rgO a b = some (rgI a b) := rg_c (by rw [in62_iff.mpr h0, in62_iff.mpr h1]; rfl)
theorem rgvO_eq {a b : Int} (h0 : -(2 ^ 62) ≤ a ∧ a < 2 ^ 62) (h1 : -(2 ^ 62) ≤ b ∧ b < 2 ^ 62) (h2 : (b - a).toNat ≤ 2 ^ 24) : rgvO a b = some (rgI a b) := by
  unfold rgvO rgOk
  rw [in62_iff.mpr h0, in62_iff.mpr h1, decide_eq_true h2]; rfl
theorem appO_eq {l : List β} {a : β} (h : l.length < 16777216) : appO l a = some (l ++ [a]) := by unfold appO; rw [if_pos h]
theorem catO_eq {l m : List β} (h : l.length + m.length ≤ 16777216) : catO l m = some (l ++ m) := by unfold catO; rw [if_pos h]
theorem ckO_eq {l : List β} (h : l.length ≤ 16777216) : ckO l = some l := by unfold ckO; rw [if_pos h]
theorem ssO_eq {t : Tup Int} (h : t.l.length < 64) : ssO t = some (sortU t.l) := by unfold ssO; rw [if_pos h]
theorem fmO_eq {p : α → Bool} {g : α → β} {xs : List α} (h : xs.length ≤ 16777216) : fmO p g xs = some ((xs.filter p).map g) := by unfold fmO; rw [if_pos h]
theorem flO_eq {p : α → Option Bool} {g : α → Option β} {p' : α → Bool} {g' : α → β} : ∀ {xs : List α}, (∀ x ∈ xs, p x = some (p' x)) → (∀ x ∈ xs, p' x = true → g x = some (g' x)) → flO p g xs = some ((xs.filter p').map g')
  | [], _, _ => rfl
  | x :: xs, hp, hg => by
    unfold flO
    rw [hp x List.mem_cons_self, ob_some]
    have ih := flO_eq (xs := xs) (fun y hy => hp y (List.mem_cons_of_mem _ hy)) fun y hy => hg y (List.mem_cons_of_mem _ hy)
    cases e : p' x with
    | true =>
      rw [if_pos rfl, hg x List.mem_cons_self e, ob_some, ih, ob_some, List.filter_cons_of_pos e]
      rfl
    | false =>
      rw [if_neg (by decide), ih, List.filter_cons_of_neg (by rw [e]; decide)]
theorem filO_eq {p : α → Option Bool} {g : α → Option β} (p' : α → Bool) (g' : α → β) {xs : List α} (h : xs.length ≤ 16777216) (hp : ∀ x ∈ xs, p x = some (p' x)) (hg : ∀ x ∈ xs, p' x = true → g x = some (g' x)) : filO p g xs = some ((xs.filter p').map g') := by
  unfold filO; rw [if_pos h]; exact flO_eq hp hg
theorem ob_eq {o : Option α} {k : α → Option β} {a : α} {b : β} (e : o = some a) (h : k a = some b) : ob o k = some b := by rw [e]; exact h
theorem popAtO_eq {l : List α} {i : Int} (h0 : 0 ≤ i) (h1 : i < l.length) (h2 : l.length < 2 ^ 60) : ∃ x, l[i.toNat]? = some x ∧ popAtO l i = some (l.eraseIdx i.toNat, x) := by
  have hi : i.toNat < l.length := by omega
  refine ⟨l[i.toNat], List.getElem?_eq_getElem hi, ?_⟩
  unfold popAtO
  rw [if_pos (by simp only [Bool.and_eq_true, decide_eq_true_eq]; omega)]
  have : ixN l.length i = some i.toNat := by unfold ixN; rw [if_pos h0, if_pos h1]
  rw [this]
  show (l[i.toNat]?).map _ = _
  rw [List.getElem?_eq_getElem hi]; rfl
theorem alk_eq {γ : Type} [Eqe γ] {a b : γ} (h : szD (emb b) = true) : alk a b = some (decide (a = b)) := by unfold alk; rw [if_pos h]
/-! loops -/
theorem w_fold {f : α → σ → M σ} {Q : σ → Prop} (I : List α → σ → Prop) : ∀ {xs : List α} {s : σ}, I [] s → (∀ pre x post s, xs = pre ++ x :: post → I pre s → W (f x s) (I (pre ++ [x]))) → (∀ s, I xs s → Q s) → W (foldM f xs s) Q := by
  suffices h : ∀ (post pre : List α) (s : σ) (xs : List α), xs = pre ++ post → I pre s → (∀ pre x post s, xs = pre ++ x :: post → I pre s → W (f x s) (I (pre ++ [x]))) → (∀ s, I xs s → Q s) → W (foldM f post s) Q from fun {xs s} h0 hs hf => h xs [] s xs rfl h0 hs hf
  intro post
  induction post with
  | nil => intro pre s xs e h0 _ hf; exact hf s (by rw [e, List.append_nil]; exact h0)
  | cons x post ih =>
    intro pre s xs e h0 hs hf
    exact w_bd ((hs pre x post s e h0).to fun s' h' => ih (pre ++ [x]) s' xs (by rw [e]; simp) h' hs hf)
theorem w_loop {f : α → σ → M (Oc σ ρ)} {Q : Oc σ ρ → Prop} (I : List α → σ → Prop) : ∀ {xs : List α} {s : σ}, I [] s → (∀ pre x post s, xs = pre ++ x :: post → I pre s → W (f x s) fun o => match o with | .nx s => I (pre ++ [x]) s | .bk s => Q (.nx s) | .rt r => Q (.rt r)) → (∀ s, I xs s → Q (.nx s)) → W (loopM f xs s) Q := by
  suffices h : ∀ (post pre : List α) (s : σ) (xs : List α), xs = pre ++ post → I pre s → (∀ pre x post s, xs = pre ++ x :: post → I pre s → W (f x s) fun o => match o with | .nx s => I (pre ++ [x]) s | .bk s => Q (.nx s) | .rt r => Q (.rt r)) → (∀ s, I xs s → Q (.nx s)) → W (loopM f post s) Q from fun {xs s} h0 hs hf => h xs [] s xs rfl h0 hs hf
  intro post
  induction post with
  | nil => intro pre s xs e h0 _ hf; exact hf s (by rw [e, List.append_nil]; exact h0)
  | cons x post ih =>
    intro pre s xs e h0 hs hf
    refine w_bd ((hs pre x post s e h0).to fun o h' => ?_)
    cases o with
    | nx s' => exact ih (pre ++ [x]) s' xs (by rw [e]; simp) h' hs hf
    | bk s' => exact h'
    | rt r => exact h'
/-- a law's turns: none gives False -/
theorem w_turns {α ρ σ τ : Type} {f : α → σ → M (Oc σ ρ)} {xs : List α} {s : σ} {k : σ → M τ} {ir : ρ → τ} {Q : τ → Prop} (I : σ → Prop) (h0 : I s) (hs : ∀ x ∈ xs, ∀ s, I s → W (f x s) fun o => ∃ s', o = .nx s' ∧ I s') (hk : ∀ s, I s → W (k s) Q) : W (bd (loopM f xs s) (lk k ir)) Q := by
  refine w_bd (w_loop (fun _ => I) h0 (fun pre x post s e hI => (hs x (by rw [e]; simp) s hI).to fun o ho => ?_) fun s hI => hk s hI)
  obtain ⟨s', rfl, h⟩ := ho
  exact h
end
theorem rgI_mem {a b x : Int} : x ∈ rgI a b ↔ a ≤ x ∧ x < b := by
  unfold rgI
  rw [List.mem_map]
  exact ⟨fun ⟨i, hi, e⟩ => by rw [List.mem_range] at hi; omega, fun ⟨h1, h2⟩ => ⟨(x - a).toNat, by rw [List.mem_range]; omega, by omega⟩⟩
theorem rgI_len {a b : Int} : (rgI a b).length = (b - a).toNat := by unfold rgI; rw [List.length_map, List.length_range]
theorem rgI_rise {a b : Int} : (rgI a b).Pairwise (· < ·) := by
  unfold rgI
  rw [List.pairwise_map]
  exact List.pairwise_lt_range.imp fun h => by omega
theorem sortU_id {l : List Int} (h : l.Pairwise (· < ·)) : sortU l = l := rise_unique (sortU_rise l) h fun _ => sortU_mem
theorem row0 {ns : List Int} {a b : Int} : RowOk' (DRow.mk ns 0 a b) := Int.le_refl 0
end T
/-! T, part 6: comprehensions with a state, pure folds, rising rows. -/
namespace T
open PySem PySem.Spec PyProof.Rows L2 L3
open Emb (emb)
/-- item by item -/
inductive Rel2 {α β : Type} (R : α → β → Prop) : List α → List β → Prop
  | nil : Rel2 R [] []
  | cons {x y xs ys} : R x y → Rel2 R xs ys → Rel2 R (x :: xs) (y :: ys)
theorem Rel2.len {α β : Type} {R : α → β → Prop} : ∀ {xs : List α} {ys : List β}, Rel2 R xs ys → xs.length = ys.length
  | _, _, .nil => rfl
  | _, _, .cons _ r => congrArg (· + 1) r.len
theorem Rel2.all {α β : Type} {R : α → β → Prop} {P : β → Prop} : ∀ {xs : List α} {ys : List β}, Rel2 R xs ys → (∀ x y, R x y → P y) → ∀ y ∈ ys, P y
  | _, _, .nil, _, _, h => nomatch h
  | _, _, .cons r rs, i, y, h => by
    rcases List.mem_cons.mp h with rfl | h
    · exact i _ _ r
    · exact rs.all i y h
theorem Rel2.id {α : Type} {R : α → α → Prop} : ∀ {xs ys : List α}, Rel2 R xs ys → (∀ x y, R x y → y = x) → ys = xs
  | _, _, .nil, _ => rfl
  | _, _, .cons r rs, i => by rw [i _ _ r, rs.id i]
section
variable {α β σ ρ : Type}
/-- each item is kept -/
theorem cmpO_all {p : α → σ → Option (Bool × σ)} {g : α → σ → Option (β × σ)} (I : σ → Prop) (R : α → β → Prop) : ∀ {xs : List α} {s : σ}, I s → (∀ x ∈ xs, ∀ s, I s → ∃ s', p x s = some (true, s') ∧ I s') → (∀ x ∈ xs, ∀ s, I s → ∃ y s', g x s = some (y, s') ∧ R x y ∧ I s') → ∃ ys s', cmpO p g xs s = some (ys, s') ∧ Rel2 R xs ys ∧ I s'
  | [], s, h, _, _ => ⟨[], s, rfl, .nil, h⟩
  | x :: xs, s, h, hp, hg => by
    obtain ⟨s1, e1, h1⟩ := hp x List.mem_cons_self s h
    obtain ⟨y, s2, e2, r2, h2⟩ := hg x List.mem_cons_self s1 h1
    obtain ⟨ys, s3, e3, r3, h3⟩ := cmpO_all I R (xs := xs) h2 (fun z hz => hp z (List.mem_cons_of_mem _ hz)) (fun z hz => hg z (List.mem_cons_of_mem _ hz))
    refine ⟨y :: ys, s3, ?_, .cons r2 r3, h3⟩
    unfold cmpO
    rw [e1, ob_some, if_pos rfl, e2, ob_some, e3, ob_some]
theorem compO_all {p : α → σ → Option (Bool × σ)} {g : α → σ → Option (β × σ)} (I : σ → Prop) (R : α → β → Prop) {xs : List α} {s : σ} (hn : xs.length ≤ 16777216) (h : I s) (hp : ∀ x ∈ xs, ∀ s, I s → ∃ s', p x s = some (true, s') ∧ I s') (hg : ∀ x ∈ xs, ∀ s, I s → ∃ y s', g x s = some (y, s') ∧ R x y ∧ I s') : ∃ ys s', compO p g xs s = some (ys, s') ∧ Rel2 R xs ys ∧ I s' := by
  unfold compO
  rw [if_pos hn]
  exact cmpO_all I R h hp hg
/-- some items are kept -/
theorem cmpO_sub {p : α → σ → Option (Bool × σ)} {g : α → σ → Option (α × σ)} (I : σ → Prop) : ∀ {xs : List α} {s : σ}, I s → (∀ x ∈ xs, ∀ s, I s → ∃ b s', p x s = some (b, s') ∧ I s') → (∀ x ∈ xs, ∀ s, I s → ∃ s', g x s = some (x, s') ∧ I s') → ∃ ys s', cmpO p g xs s = some (ys, s') ∧ List.Sublist ys xs ∧ I s'
  | [], s, h, _, _ => ⟨[], s, rfl, .slnil, h⟩
  | x :: xs, s, h, hp, hg => by
    obtain ⟨b, s1, e1, h1⟩ := hp x List.mem_cons_self s h
    have hp' := fun z (hz : z ∈ xs) => hp z (List.mem_cons_of_mem _ hz)
    have hg' := fun z (hz : z ∈ xs) => hg z (List.mem_cons_of_mem _ hz)
    cases b with
    | true =>
      obtain ⟨s2, e2, h2⟩ := hg x List.mem_cons_self s1 h1
      obtain ⟨ys, s3, e3, r3, h3⟩ := cmpO_sub I (xs := xs) h2 hp' hg'
      refine ⟨x :: ys, s3, ?_, .cons₂ _ r3, h3⟩
      unfold cmpO
      rw [e1, ob_some, if_pos rfl, e2, ob_some, e3, ob_some]
    | false =>
      obtain ⟨ys, s3, e3, r3, h3⟩ := cmpO_sub I (xs := xs) h1 hp' hg'
      refine ⟨ys, s3, ?_, .cons _ r3, h3⟩
      unfold cmpO
      rw [e1, ob_some, if_neg Bool.false_ne_true, e3]
theorem compO_sub {p : α → σ → Option (Bool × σ)} {g : α → σ → Option (α × σ)} (I : σ → Prop) {xs : List α} {s : σ} (hn : xs.length ≤ 16777216) (h : I s) (hp : ∀ x ∈ xs, ∀ s, I s → ∃ b s', p x s = some (b, s') ∧ I s') (hg : ∀ x ∈ xs, ∀ s, I s → ∃ s', g x s = some (x, s') ∧ I s') : ∃ ys s', compO p g xs s = some (ys, s') ∧ List.Sublist ys xs ∧ I s' := by
  unfold compO
  rw [if_pos hn]
  exact cmpO_sub I h hp hg
theorem ob_taken {γ : Type} {r : DRow} {n : Int} {k : Int × DRow → Option γ} {P : γ → Prop} (hr : RowOk' r) (h0 : 0 < n) (h1 : n < 1073741824) (h : ∀ d r', 0 ≤ d → d < n → RowOk' r' → ∃ z, k (d, r') = some z ∧ P z) : ∃ z, ob (taken r n).o k = some z ∧ P z := by
  obtain ⟨d, r', e, a, b, c⟩ := taken_ok hr h0 h1
  rw [e]
  exact h d r' a b c
/-! folds -/
theorem foldM_unit {f : α → Unit → M Unit} : ∀ {xs : List α}, (∀ x ∈ xs, f x () = .ok ()) → foldM f xs () = .ok ()
  | [], _ => rfl
  | x :: xs, h => by
    unfold foldM
    rw [h x List.mem_cons_self, bd_ok]
    exact foldM_unit fun y hy => h y (List.mem_cons_of_mem _ hy)
theorem foldM_app {f : α → List β → M (List β)} (g : α → β) (N : Nat) : ∀ {xs : List α} {s : List β}, s.length + xs.length ≤ N → (∀ x ∈ xs, ∀ s : List β, s.length < N → f x s = .ok (s ++ [g x])) → foldM f xs s = .ok (s ++ xs.map g)
  | [], s, _, _ => by simp [foldM]
  | x :: xs, s, hn, h => by
    have hn : s.length + (xs.length + 1) ≤ N := hn
    unfold foldM
    rw [h x List.mem_cons_self s (by omega), bd_ok, foldM_app g N (by rw [List.length_append, List.length_singleton]; omega) (fun y hy => h y (List.mem_cons_of_mem _ hy))]
    simp
theorem foldM_eq {f : α → σ → M σ} (g : α → σ → σ) (I : σ → Prop) : ∀ {xs : List α} {s : σ}, I s → (∀ x ∈ xs, ∀ s, I s → f x s = .ok (g x s) ∧ I (g x s)) → foldM f xs s = .ok (xs.foldl (fun s x => g x s) s) ∧ I (xs.foldl (fun s x => g x s) s)
  | [], s, h, _ => ⟨rfl, h⟩
  | x :: xs, s, h, hs => by
    obtain ⟨e, h1⟩ := hs x List.mem_cons_self s h
    unfold foldM
    rw [e, bd_ok]
    exact foldM_eq g I h1 fun y hy => hs y (List.mem_cons_of_mem _ hy)
/-! numbered -/
theorem enI_len {l : List α} : (enI l).length = l.length := by unfold enI; simp
theorem enI_get {l : List α} {i : Nat} : (enI l)[i]? = (l[i]?).map fun x => ((i : Int), x) := by unfold enI; rw [List.getElem?_mapIdx]
theorem enI_mem {l : List α} {z : Int × α} (h : z ∈ enI l) : ∃ i : Nat, z.1 = i ∧ l[i]? = some z.2 := by
  obtain ⟨i, hi⟩ := List.mem_iff_getElem?.mp h
  rw [enI_get] at hi
  obtain ⟨x, e, rfl⟩ := Option.map_eq_some_iff.mp hi
  exact ⟨i, rfl, e⟩
end
/-! rising rows -/
abbrev Rise (l : List Int) : Prop := l.Pairwise (· < ·)
theorem rise_len {lo hi : Int} : ∀ {l : List Int}, Rise l → (∀ x ∈ l, lo ≤ x ∧ x < hi) → l.length ≤ (hi - lo).toNat := by
  intro l hr hb
  have h1 : (rgI lo hi).length = (hi - lo).toNat := rgI_len
  rw [← h1]
  have nd : l.Nodup := hr.imp fun h => by omega
  exact List.Nodup.length_le_of_subset nd fun x hx => rgI_mem.mpr (hb x hx)
theorem rise_sort {l : List Int} (h : l.Nodup) : Rise (sortI l) := by
  have h1 := sortI_sorted l
  have h2 : (sortI l).Nodup := (sortI_perm l).nodup_iff.mpr h
  unfold Rise
  have h3 : (sortI l).Pairwise fun a b => a ≤ b ∧ a ≠ b := List.Pairwise.and h1 h2
  exact h3.imp fun ⟨a, b⟩ => by omega
theorem sortI_mem {l : List Int} {x : Int} : x ∈ sortI l ↔ x ∈ l := (sortI_perm l).mem_iff
theorem sortI_len {l : List Int} : (sortI l).length = l.length := (sortI_perm l).length_eq
theorem sortI_rise {l : List Int} (h : Rise l) : sortI l = l := by
  have hn : l.Nodup := h.imp fun h => by omega
  exact rise_unique (rise_sort hn) h fun _ => sortI_mem
end T
/-! T, part 7: tuples of five, several numbers' max and min, comprehensions of two clauses, sorted tuples, rows taken apart. -/
namespace T
open PySem PySem.Spec PyProof.Rows L2 L3
open Emb (emb)
structure T5 (α β γ δ ε : Type) where
  a : α
  b : β
  c : γ
  d : δ
  e : ε
instance {α β γ δ ε : Type} [Emb α] [Emb β] [Emb γ] [Emb δ] [Emb ε] : Emb (T5 α β γ δ ε) := ⟨fun p => .tuple [emb p.a, emb p.b, emb p.c, emb p.d, emb p.e]⟩
section
variable {α β γ δ ε : Type} [Eqe α] [Eqe β] [Eqe γ] [Eqe δ] [Eqe ε]
theorem t5_eq {t u : T5 α β γ δ ε} : t = u ↔ t.a = u.a ∧ t.b = u.b ∧ t.c = u.c ∧ t.d = u.d ∧ t.e = u.e := by cases t; cases u; simp
instance : Eqe (T5 α β γ δ ε) := ⟨fun t u => decidable_of_iff _ t5_eq.symm, fun p => by simp [emb, PyData.plain, PyData.plainAll, Eqe.pl], fun p q => by simp only [emb, PyData.eqv, PyData.eqvAll, Bool.and_eq_true, Eqe.eqv, t5_eq, and_true], max (max (max (Eqe.dp α) (Eqe.dp β)) (max (Eqe.dp γ) (Eqe.dp δ))) (Eqe.dp ε) + 1, fun p => by
  simp only [emb, PyData.depth, PyData.depthAll]
  have a := Eqe.dle p.a
  have b := Eqe.dle p.b
  have c := Eqe.dle p.c
  have d := Eqe.dle p.d
  have e := Eqe.dle p.e
  omega, true, fun _ _ h => by cases h⟩
instance : NNe (T5 α β γ δ ε) := ⟨rfl⟩
end
section
variable {α β γ δ ε : Type} [Orde α] [Orde β] [Orde γ] [Orde δ] [Orde ε]
instance : Orde (T5 α β γ δ ε) where
  lt p q := if p.a = q.a then (if p.b = q.b then (if p.c = q.c then (if p.d = q.d then Orde.lt p.e q.e else Orde.lt p.d q.d) else Orde.lt p.c q.c) else Orde.lt p.b q.b) else Orde.lt p.a q.a
  alk p q := by
    show PySem.W.alike (.tuple [_, _, _, _, _]) (.tuple [_, _, _, _, _]) = true
    simp only [PySem.W.alike, PySem.W.alikeAll, Orde.alk, Bool.and_self]
  ltq p q := by
    refine (PySem.W.dataLt_tuple _ _).trans ?_
    rw [lex_c p.a q.a, lex_c p.b q.b, lex_c p.c q.c, lex_c p.d q.d, lex_c p.e q.e, lex_n]
    by_cases h : p.e = q.e
    · rw [if_pos h, h, lt_self]
    · rw [if_neg h]
  srt := true
  srtq _ := .inl fun a => ⟨_, _, rfl⟩
end
section
variable {α β γ δ ε : Type} [Emb α] [Emb β] [Emb γ] [Emb δ] [Emb ε]
theorem o_x5_0 {p : T5 α β γ δ ε} : ixD (emb p) (.int 0) = some (emb p.a) := (rfl)
theorem o_x5_1 {p : T5 α β γ δ ε} : ixD (emb p) (.int 1) = some (emb p.b) := (rfl)
theorem o_x5_2 {p : T5 α β γ δ ε} : ixD (emb p) (.int 2) = some (emb p.c) := (rfl)
theorem o_x5_3 {p : T5 α β γ δ ε} : ixD (emb p) (.int 3) = some (emb p.d) := (rfl)
theorem o_x5_4 {p : T5 α β γ δ ε} : ixD (emb p) (.int 4) = some (emb p.e) := (rfl)
end
/-! max, min of several numbers -/
def maxIN (i : Int) (l : List Int) : Int := maxI i l
def minIN (i : Int) (l : List Int) : Int := minI i l
theorem o_maxN3 {i j k : Int} : maxND [.int i, .int j, .int k] = some (.int (maxIN i [j, k])) := (rfl)
theorem o_maxN4 {i j k l : Int} : maxND [.int i, .int j, .int k, .int l] = some (.int (maxIN i [j, k, l])) := (rfl)
theorem o_maxN5 {i j k l m : Int} : maxND [.int i, .int j, .int k, .int l, .int m] = some (.int (maxIN i [j, k, l, m])) := (rfl)
theorem o_minN3 {i j k : Int} : minND [.int i, .int j, .int k] = some (.int (minIN i [j, k])) := (rfl)
theorem o_minN4 {i j k l : Int} : minND [.int i, .int j, .int k, .int l] = some (.int (minIN i [j, k, l])) := (rfl)
theorem o_minN5 {i j k l m : Int} : minND [.int i, .int j, .int k, .int l, .int m] = some (.int (minIN i [j, k, l, m])) := (rfl)
/-! several names at once -/
def putEvL : List Pat → List Nat → List Vf → Option (List Pat)
  | L, [], [] => some L
  | L, i :: js, x :: xs => match cellF x with
    | some c => match L[i]? with
      | some q => if okP q then putEvL (L.set i (.ex c)) js xs else none
      | none => none
    | none => none
  | _, _, _ => none
theorem putEvL_ok : ∀ {js : List Nat} {xs : List Vf} {L L4 : List Pat}, putEvL L js xs = some L4 → EG L (putEv js xs) .nx L4
  | [], [], L, L4, e => by cases e; exact EG.pure
  | i :: js, x :: xs, L, L4, e => by
    unfold putEvL at e
    split at e
    · rename_i c hc
      split at e
      · rename_i q hq
        split at e
        · rename_i o
          intro ρ f
          have g1 := f.put (c := c) hq o
          obtain ⟨ρ2, e2, q2⟩ := putEvL_ok e _ g1.2
          refine ⟨ρ2, ?_, q2⟩
          unfold putEv
          rw [hc]
          show thenG (put i c ρ) _ = _
          rw [g1.1]
          exact e2
        · cases e
      · cases e
    · cases e
  | [], _ :: _, _, _, e => by cases e
  | _ :: _, [], _, _, e => by cases e
theorem x_parN {js : List Nat} {ss : Rho → Rs (List Vf)} {xs : List Vf} {L L1 L4 : List Pat} (h : EG L ss xs L1) (hp : putEvL L1 js xs = some L4 := by rfl) (hn : xs.length = js.length := by rfl) (hz : js.length ≤ 16777216 := by exact Nat.le_of_ble_eq_true rfl) : EG L (sParN js ss) .nx L4 := by
  intro ρ f
  obtain ⟨ρ1, e1, q1⟩ := h ρ f
  obtain ⟨ρ2, e2, q2⟩ := putEvL_ok hp ρ1 q1
  refine ⟨ρ2, ?_, q2⟩
  unfold sParN
  rw [e1, Rs.bind_ok, if_pos ⟨hn, hz⟩, e2]
  rfl
/-! a list of tuples, sorted: none is empty, or all are of one row -/
def hdE {α : Type} : List (Tup α) → Bool
  | ⟨[]⟩ :: _ => true
  | _ => false
@[irreducible] def srtO {α : Type} [Orde α] (l : List (Tup α)) : Option (List (Tup α)) := if (l.all fun t => !t.l.isEmpty) = true ∨ hdE l = true then some (srtT l) else none
theorem srtO_eq {α : Type} [Orde α] {l : List (Tup α)} (h : ∀ t ∈ l, t.l ≠ []) : srtO l = some (srtT l) := by
  unfold srtO
  rw [if_pos (.inl (List.all_eq_true.mpr fun t ht => by
    have := h t ht
    cases e : t.l with
    | nil => exact absurd e this
    | cons => rfl))]
theorem srtO_nil {α : Type} [Orde α] {l : List (Tup α)} : srtO (⟨[]⟩ :: l) = some (srtT (⟨[]⟩ :: l)) := by
  unfold srtO
  rw [if_pos (.inr rfl)]
theorem o_srtYX {d z : D} (h : srtX [d] = some z) : srtY [d] = some z := orD_some h
theorem o_srtO {α : Type} [Orde α] {l r : List (Tup α)} (e : srtO l = some r) (h : Eqe.dp (Tup α) ≤ 150 := by decide) : srtY [emb l] = some (emb r) := by
  have hm := List.map_mergeSort (r := fun a b : Tup α => !Orde.lt b a) (s := PySem.W.dataLe false id) (f := emb) (l := l) fun a _ b _ => by
    rw [PySem.W.dataLe_eq]
    show _ = !PySem.W.dataLt (emb b) (emb a)
    rw [Orde.ltq]
  unfold srtO at e
  by_cases ha : (l.all fun t => !t.l.isEmpty) = true ∨ hdE l = true
  · rw [if_pos ha] at e
    cases e
    rcases ha with ha | ha
    · refine orD_some (orD_some ?_)
      show (if (ordOk (l.map emb) && srtOk (l.map emb)) = true then _ else _) = _
      have hs : srtOk (l.map emb) = true := by
        unfold srtOk
        rw [Bool.or_eq_true_iff]
        refine .inl (List.all_eq_true.mpr fun x hx => ?_)
        obtain ⟨a, ha', rfl⟩ := List.mem_map.mp hx
        have := List.all_eq_true.mp ha a ha'
        obtain ⟨al⟩ := a
        cases al with
        | nil => cases this
        | cons y ys => rfl
      rw [if_pos (by rw [ordOk_map h, hs]; rfl)]
      show some (PyData.list _) = some (PyData.list ((srtT l).map emb))
      unfold srtT
      rw [hm]
    · cases l with
      | nil => cases ha
      | cons t l' =>
        obtain ⟨tl⟩ := t
        cases tl with
        | cons y ys => cases ha
        | nil =>
        have h1 : srtX [emb ((⟨[]⟩ : Tup α) :: l')] = none := by
          unfold srtX
          have : srtD [emb ((⟨[]⟩ : Tup α) :: l')] = none := by
            show (if (ordOk _ && srtOk ((emb (⟨[]⟩ : Tup α) : D) :: l'.map emb)) = true then _ else _) = _
            have hs : srtOk ((emb (⟨[]⟩ : Tup α) : D) :: l'.map emb) = false := by
              unfold srtOk
              rfl
            rw [hs, Bool.and_false]; rfl
          rw [this]
          rfl
        unfold srtY
        rw [h1]
        show srtE [emb ((⟨[]⟩ : Tup α) :: l')] = _
        show (if (ordOk (((⟨[]⟩ : Tup α) :: l').map emb) && srtOkE (((⟨[]⟩ : Tup α) :: l').map emb)) = true then _ else _) = _
        have hs : srtOkE (((⟨[]⟩ : Tup α) :: l').map emb) = true := by
          unfold srtOkE
          rw [Bool.and_eq_true]
          refine ⟨rfl, List.all_eq_true.mpr fun x hx => ?_⟩
          obtain ⟨a, _, rfl⟩ := List.mem_map.mp hx
          rfl
        rw [if_pos (by rw [ordOk_map h, hs]; rfl)]
        show some (PyData.list _) = some (PyData.list ((srtT _).map emb))
        unfold srtT
        rw [hm]
  · rw [if_neg ha] at e; cases e
/-! comprehensions of two clauses -/
section
variable {α β γ : Type} [Emb α] [Emb β] [Emb γ] {L L0 L1 L2 L4 : List Pat} {it : Rho → Rs (List D)} {tg : D → Rho → Rs Fl} {tt : Rho → Rs Bool} {te : Rho → Rs Vl} {vs : List Nat}
theorem gather_fl {p : α → Option Bool} {g : α → Option β} (h : ∀ x : α, ∃ Lg, EG L0 (tg (emb x)) .nx Lg ∧ allValL Lg vs = true ∧ wipeL Lg vs = L0 ∧ (∀ b, p x = some b → EG Lg tt b Lg) ∧ ∀ y, p x = some true → g x = some y → ∃ v, EG Lg te v Lg ∧ frzL Lg v = some (emb y, Lg)) :
    ∀ (xs : List α) (acc : List D) (r : List β), flO p g xs = some r → acc.length + r.length ≤ 16777216 → EG L0 (sGather tg tt te vs (xs.map emb) acc) (acc ++ r.map emb) L0
  | [], acc, r, e, _ => by
    cases e
    intro ρ q
    exact ⟨ρ, by simp [sGather], q⟩
  | x :: xs, acc, r, e, hn => by
    intro ρ q
    obtain ⟨Lg, h1, h6, h7, h2, h3⟩ := h x
    obtain ⟨ρ1, e1, q1⟩ := h1 ρ q
    unfold flO at e
    refine ob_el e fun b eb e => ?_
    obtain ⟨ρ2, e2, q2⟩ := h2 b eb ρ1 q1
    cases hb : b with
    | true =>
      rw [if_pos hb] at e
      refine ob_el e fun y ey e => ob_el e fun r2 er e => ?_
      cases e
      obtain ⟨v, h4, h5⟩ := h3 y (hb ▸ eb) ey
      obtain ⟨ρ3, e3, q3⟩ := h4 ρ2 q2
      obtain ⟨ρ4, e4, q4⟩ := frzL_ok h5 ρ3 q3
      have q5 := wipeL_ok q4 vs
      rw [h7] at q5
      have hn' : acc.length + (r2.length + 1) ≤ 16777216 := hn
      obtain ⟨ρ5, e5, q6⟩ := gather_fl h xs (acc ++ [emb y]) r2 er (by rw [List.length_append, List.length_singleton]; omega) _ q5
      refine ⟨ρ5, ?_, q6⟩
      rw [List.map_cons]
      unfold sGather
      rw [e1]
      simp only [sGather.thenG', e2, okB, hb, if_true, e3, e4, valL_ok q4 h6, Bool.true_and, e5]
      rw [if_pos (by rw [sizeLine_eq, decide_eq_true_eq]; omega)]
      simp
    | false =>
      rw [if_neg (by rw [hb]; decide)] at e
      have q5 := wipeL_ok q2 vs
      rw [h7] at q5
      obtain ⟨ρ5, e5, q6⟩ := gather_fl h xs acc r e hn _ q5
      refine ⟨ρ5, ?_, q6⟩
      rw [List.map_cons]
      unfold sGather
      rw [e1]
      simp only [sGather.thenG', e2, okB, hb, Bool.false_eq_true, if_false, valL_ok q2 h6, if_true, e5]
def fl2 (p : α → Option Bool) (ys : α → Option (List β)) (q : α → β → Option Bool) (g : α → β → Option γ) : List α → Option (List γ)
  | [] => some []
  | x :: xs => ob (p x) fun b => if b = true then ob (ys x) fun l => ob (flO (q x) (g x) l) fun r1 => ob (fl2 p ys q g xs) fun r => some (r1 ++ r)
    else fl2 p ys q g xs
@[irreducible] def fil2O (p : α → Option Bool) (ys : α → Option (List β)) (q : α → β → Option Bool) (g : α → β → Option γ) (xs : List α) : Option (List γ) := ob (fl2 p ys q g xs) fun r => if r.length ≤ 16777216 then some r else none
variable {si1 : Rho → Rs (List D)} {st1 : D → Rho → Rs Fl} {tt1 : Rho → Rs Bool} {vs1 : List Nat}
theorem gather2_fl {p : α → Option Bool} {ys : α → Option (List β)} {q : α → β → Option Bool} {g : α → β → Option γ}
    (h : ∀ x : α, ∃ Lg, EG L0 (tg (emb x)) .nx Lg ∧ allValL Lg vs = true ∧ wipeL Lg vs = L0 ∧ (∀ b, p x = some b → EG Lg tt b Lg) ∧ ∀ l, p x = some true → ys x = some l →
      EG Lg si1 (l.map emb) Lg ∧ allValL Lg vs1 = true ∧ ∃ Li, wipeL Lg vs1 = Li ∧ allValL Li vs = true ∧ wipeL Li vs = L0 ∧
      ∀ y : β, ∃ Lh, EG Li (st1 (emb y)) .nx Lh ∧ allValL Lh vs1 = true ∧ wipeL Lh vs1 = Li ∧ (∀ b, q x y = some b → EG Lh tt1 b Lh) ∧ ∀ z, q x y = some true → g x y = some z → ∃ v, EG Lh te v Lh ∧ frzL Lh v = some (emb z, Lh)) :
    ∀ (xs : List α) (acc : List D) (r : List γ), fl2 p ys q g xs = some r → acc.length + r.length ≤ 16777216 → EG L0 (sGather2 tg tt si1 st1 tt1 te vs vs1 (xs.map emb) acc) (acc ++ r.map emb) L0
  | [], acc, r, e, _ => by
    cases e
    intro ρ q
    exact ⟨ρ, by simp [sGather2], q⟩
  | x :: xs, acc, r, e, hn => by
    intro ρ qq
    obtain ⟨Lg, h1, h6, h7, h2, h3⟩ := h x
    obtain ⟨ρ1, e1, q1⟩ := h1 ρ qq
    unfold fl2 at e
    refine ob_el e fun b eb e => ?_
    obtain ⟨ρ2, e2, q2⟩ := h2 b eb ρ1 q1
    cases hb : b with
    | true =>
      rw [if_pos hb] at e
      refine ob_el e fun l el e => ob_el e fun r1 er1 e => ob_el e fun r2 er e => ?_
      cases e
      obtain ⟨g1, g2, Li, g3, g4, g5, g6⟩ := h3 l (hb ▸ eb) el
      obtain ⟨ρ3, e3, q3⟩ := g1 ρ2 q2
      have q4 := wipeL_ok q3 vs1
      rw [g3] at q4
      rw [List.length_append] at hn
      obtain ⟨ρ5, e5, q5⟩ := gather_fl g6 l acc r1 er1 (by omega) _ q4
      have q6 := wipeL_ok q5 vs
      rw [g5] at q6
      obtain ⟨ρ7, e7, q7⟩ := gather2_fl h xs (acc ++ r1.map emb) r2 er (by rw [List.length_append, List.length_map]; omega) _ q6
      refine ⟨ρ7, ?_, q7⟩
      rw [List.map_cons]
      unfold sGather2
      rw [e1]
      simp only [sGather.thenG', e2, okB, hb, if_true, e3, valL_ok q3 g2, e5, valL_ok q5 g4, e7]
      simp
    | false =>
      rw [if_neg (by rw [hb]; decide)] at e
      have q5 := wipeL_ok q2 vs
      rw [h7] at q5
      obtain ⟨ρ5, e5, q6⟩ := gather2_fl h xs acc r e hn _ q5
      refine ⟨ρ5, ?_, q6⟩
      rw [List.map_cons]
      unfold sGather2
      rw [e1]
      simp only [sGather.thenG', e2, okB, hb, Bool.false_eq_true, if_false, valL_ok q2 h6, if_true, e5]
theorem f_fil2 {p : α → Option Bool} {ys : α → Option (List β)} {q : α → β → Option Bool} {g : α → β → Option γ} {xs : List α} {r : List γ} (hi : EG L it (xs.map emb) L1) (h0 : wipeL L1 vs = L0)
    (h : ∀ x : α, ∃ Lg, EG L0 (tg (emb x)) .nx Lg ∧ allValL Lg vs = true ∧ wipeL Lg vs = L0 ∧ (∀ b, p x = some b → EG Lg tt b Lg) ∧ ∀ l, p x = some true → ys x = some l →
      EG Lg si1 (l.map emb) Lg ∧ allValL Lg vs1 = true ∧ ∃ Li, wipeL Lg vs1 = Li ∧ allValL Li vs = true ∧ wipeL Li vs = L0 ∧
      ∀ y : β, ∃ Lh, EG Li (st1 (emb y)) .nx Lh ∧ allValL Lh vs1 = true ∧ wipeL Lh vs1 = Li ∧ (∀ b, q x y = some b → EG Lh tt1 b Lh) ∧ ∀ z, q x y = some true → g x y = some z → ∃ v, EG Lh te v Lh ∧ frzL Lh v = some (emb z, Lh))
    (hr : fil2O p ys q g xs = some r) (hv : allValL L1 vs = true := by rfl) (hL : backL L1 vs L0 = L4 := by rfl) : EG L (sLc2 it tg tt si1 st1 tt1 te vs vs1) (.fr (emb r)) L4 := by
  subst hL
  unfold fil2O at hr
  refine ob_el hr fun r' er hr => ?_
  split at hr
  · rename_i hn
    cases hr
    intro ρ qq
    obtain ⟨ρ1, e1, q1⟩ := hi ρ qq
    have nv := valL_ok q1 hv
    have qw := wipeL_ok q1 vs
    rw [h0] at qw
    obtain ⟨ρ2, e2, q2⟩ := gather2_fl h xs [] r er (by simpa using hn) _ qw
    refine ⟨_, ?_, backL_ok q1 q2 vs⟩
    simp only [sLc2, e1, Rs.bind_ok, nv, if_true, endLc, e2, okB, List.nil_append]
    rfl
  · cases hr
end
section
variable {α β γ : Type}
theorem fl2_eq {p : α → Option Bool} {ys : α → Option (List β)} {q : α → β → Option Bool} {g : α → β → Option γ} {p' : α → Bool} {ys' : α → List β} {q' : α → β → Bool} {g' : α → β → γ} : ∀ {xs : List α}, (∀ x ∈ xs, p x = some (p' x)) → (∀ x ∈ xs, p' x = true → ys x = some (ys' x)) → (∀ x ∈ xs, p' x = true → ∀ y ∈ ys' x, q x y = some (q' x y)) → (∀ x ∈ xs, p' x = true → ∀ y ∈ ys' x, q' x y = true → g x y = some (g' x y)) →
    fl2 p ys q g xs = some ((xs.filter p').flatMap fun x => ((ys' x).filter (q' x)).map (g' x))
  | [], _, _, _, _ => rfl
  | x :: xs, hp, hy, hq, hg => by
    unfold fl2
    rw [hp x List.mem_cons_self, ob_some]
    have ih := fl2_eq (xs := xs) (fun z hz => hp z (List.mem_cons_of_mem _ hz)) (fun z hz => hy z (List.mem_cons_of_mem _ hz)) (fun z hz => hq z (List.mem_cons_of_mem _ hz)) fun z hz => hg z (List.mem_cons_of_mem _ hz)
    cases e : p' x with
    | true =>
      rw [if_pos rfl, hy x List.mem_cons_self e, ob_some, flO_eq (hq x List.mem_cons_self e) (hg x List.mem_cons_self e), ob_some, ih, ob_some, List.filter_cons_of_pos e, List.flatMap_cons]
    | false =>
      rw [if_neg (by decide), ih, List.filter_cons_of_neg (by rw [e]; decide)]
theorem fil2O_eq {p : α → Option Bool} {ys : α → Option (List β)} {q : α → β → Option Bool} {g : α → β → Option γ} (p' : α → Bool) (ys' : α → List β) (q' : α → β → Bool) (g' : α → β → γ) {xs : List α} (hp : ∀ x ∈ xs, p x = some (p' x)) (hy : ∀ x ∈ xs, p' x = true → ys x = some (ys' x)) (hq : ∀ x ∈ xs, p' x = true → ∀ y ∈ ys' x, q x y = some (q' x y)) (hg : ∀ x ∈ xs, p' x = true → ∀ y ∈ ys' x, q' x y = true → g x y = some (g' x y))
    (hn : ((xs.filter p').flatMap fun x => ((ys' x).filter (q' x)).map (g' x)).length ≤ 16777216) :
    fil2O p ys q g xs = some ((xs.filter p').flatMap fun x => ((ys' x).filter (q' x)).map (g' x)) := by
  unfold fil2O
  rw [fl2_eq hp hy hq hg, ob_some, if_pos hn]
theorem flatMap_len {f : α → List β} {n : Nat} : ∀ {xs : List α}, (∀ x ∈ xs, (f x).length ≤ n) → (xs.flatMap f).length ≤ xs.length * n
  | [], _ => Nat.zero_le _
  | x :: xs, h => by
    rw [List.flatMap_cons, List.length_append, List.length_cons, Nat.succ_mul]
    have := h x List.mem_cons_self
    have := flatMap_len (xs := xs) fun y hy => h y (List.mem_cons_of_mem _ hy)
    omega
/-! a row taken apart -/
@[irreducible] def un2O : List α → Option (α × α)
  | [a, b] => some (a, b)
  | _ => none
@[irreducible] def un3O : List α → Option (T3 α α α)
  | [a, b, c] => some ⟨a, b, c⟩
  | _ => none
@[irreducible] def un4O : List α → Option (T4 α α α α)
  | [a, b, c, d] => some ⟨a, b, c, d⟩
  | _ => none
@[irreducible] def un5O : List α → Option (T5 α α α α α)
  | [a, b, c, d, e] => some ⟨a, b, c, d, e⟩
  | _ => none
theorem un2_some {l : List α} {p : α × α} (h : un2O l = some p) : l = [p.1, p.2] := by
  unfold un2O at h
  split at h
  · cases h; rfl
  · cases h
theorem un3_some {l : List α} {p : T3 α α α} (h : un3O l = some p) : l = [p.a, p.b, p.c] := by
  unfold un3O at h
  split at h
  · cases h; rfl
  · cases h
theorem un4_some {l : List α} {p : T4 α α α α} (h : un4O l = some p) : l = [p.a, p.b, p.c, p.d] := by
  unfold un4O at h
  split at h
  · cases h; rfl
  · cases h
theorem un5_some {l : List α} {p : T5 α α α α α} (h : un5O l = some p) : l = [p.a, p.b, p.c, p.d, p.e] := by
  unfold un5O at h
  split at h
  · cases h; rfl
  · cases h
theorem un2O_eq {a b : α} : un2O [a, b] = some (a, b) := by unfold un2O; rfl
theorem un3O_eq {a b c : α} : un3O [a, b, c] = some ⟨a, b, c⟩ := by unfold un3O; rfl
theorem un4O_eq {a b c d : α} : un4O [a, b, c, d] = some ⟨a, b, c, d⟩ := by unfold un4O; rfl
theorem un5O_eq {a b c d e : α} : un5O [a, b, c, d, e] = some ⟨a, b, c, d, e⟩ := by unfold un5O; rfl
end
section
variable {α β γ δ ε : Type} [Emb α] [Emb β] [Emb γ] [Emb δ] [Emb ε] {L L1 : List Pat} {fs : List D → Rho → Rs Fl}
theorem g_t2 {p : α × β} (r : EG L (fs [emb p.1, emb p.2]) .nx L1) : EG L (gTp 2 fs (emb p)) .nx L1 := g_tp r
theorem g_t3 {p : T3 α β γ} (r : EG L (fs [emb p.a, emb p.b, emb p.c]) .nx L1) : EG L (gTp 3 fs (emb p)) .nx L1 := g_tp r
theorem g_t4 {p : T4 α β γ δ} (r : EG L (fs [emb p.a, emb p.b, emb p.c, emb p.d]) .nx L1) : EG L (gTp 4 fs (emb p)) .nx L1 := g_tp r
theorem g_t5 {p : T5 α β γ δ ε} (r : EG L (fs [emb p.a, emb p.b, emb p.c, emb p.d, emb p.e]) .nx L1) : EG L (gTp 5 fs (emb p)) .nx L1 := g_tp r
end
section
variable {α : Type} [Emb α] {L L1 : List Pat} {a : Rho → Rs Vl}
theorem to_lst {l m : List α} (h : l = m) (e : EG L a (.d (emb l)) L1) : EG L a (.d (emb m)) L1 := h ▸ e
theorem to_tpl {t : Tup α} {m : List α} (h : t.l = m) (e : EG L a (.d (emb t)) L1) : EG L a (.d (emb (Tup.mk m))) L1 := by
  obtain ⟨l⟩ := t
  have h : l = m := h
  subst h
  exact e
/-- a slice of a tuple of known size -/
theorem t_slF {β : Type} [Emb β] {a : Rho → Rs Vl} {lo hi : Option (Rho → Rs Vl)} {l h : Option Int} {xs : List D} {v : Vl} {y : β} (ha : EG L a v L1) (h1 : EG L1 (sPart lo) l L1) (h2 : EG L1 (sPart hi) h L1) (hx : contL L1 v = some (.tuple xs) := by rfl) (hy : PyData.tuple (cutL xs l h) = emb y := by rfl) : EG L (sSl a lo hi) (.v (.d (emb y))) L1 := by
  have := f_slT ha h1 h2 hx
  rw [hy] at this
  exact this
theorem o_catF {xs ys : List D} {β : Type} [Emb β] {y : β} (hy : PyData.tuple (xs ++ ys) = emb y := by rfl) (hn : xs.length + ys.length ≤ 16777216 := by exact Nat.le_of_ble_eq_true rfl) : binD .Add (.tuple xs) (.tuple ys) = some (emb y) := by
  show (if szOk (xs.length + ys.length) = true then some (PyData.tuple (xs ++ ys)) else none) = _
  rw [if_pos (szL hn), hy]
theorem o_catFF {xs ys : List D} {β : Type} [Emb β] {y : β} (hy : PyData.tuple (xs ++ ys) = emb y := by rfl) (hn : xs.length + ys.length ≤ 16777216 := by exact Nat.le_of_ble_eq_true rfl) : addD (.tuple xs) (.tuple ys) = some (emb y) := by
  show (if szOk (xs.length + ys.length) = true then some (PyData.tuple (xs ++ ys)) else none) = _
  rw [if_pos (szL hn), hy]
end
end T
/-! T, part 8: the order's laws, least and greatest items, loops with a fuel, bits of a number. -/
namespace T
open PySem PySem.Spec PyProof.Rows L2 L3
open Emb (emb)
section
variable {α β : Type} [Orde α] [Orde β]
theorem ord_trans {a b c : α} (h : Orde.lt a b = true) (h' : Orde.lt b c = true) : Orde.lt a c = true := by
  rw [← Orde.ltq] at h h' ⊢
  exact PyProof.Rows.lex_trans _ _ _ h h'
theorem minF_mem (x : α) (l : List α) : minF x l ∈ x :: l := by
  unfold minF
  induction l generalizing x with
  | nil => exact List.mem_cons_self
  | cons y l ih =>
    rw [List.foldl_cons]
    have := ih (if Orde.lt y x = true then y else x)
    split at this
    · exact List.mem_cons_of_mem _ (by rwa [if_pos ‹_›])
    · rw [if_neg ‹_›]
      rcases List.mem_cons.mp this with e | e
      · rw [e]; exact List.mem_cons_self
      · exact List.mem_cons_of_mem _ (List.mem_cons_of_mem _ e)
theorem minF_le (x : α) (l : List α) : ∀ y ∈ x :: l, Orde.lt y (minF x l) = false := by
  unfold minF
  induction l generalizing x with
  | nil => intro y hy; rw [List.mem_singleton] at hy; subst hy; exact lt_self _
  | cons z l ih =>
    intro y hy
    rw [List.foldl_cons]
    have h0 := ih (if Orde.lt z x = true then z else x)
    generalize hm : List.foldl (fun a y => if Orde.lt y a = true then y else a) (if Orde.lt z x = true then z else x) l = m at h0 ⊢
    rcases List.mem_cons.mp hy with rfl | hy
    · have h1 := h0 _ List.mem_cons_self
      by_cases hz : Orde.lt z y = true
      · rw [if_pos hz] at h1
        cases e : Orde.lt y m with
        | false => rfl
        | true => rw [ord_trans hz e] at h1; cases h1
      · rwa [if_neg hz] at h1
    · rcases List.mem_cons.mp hy with rfl | hy
      · have h1 := h0 _ List.mem_cons_self
        by_cases hz : Orde.lt y x = true
        · rwa [if_pos hz] at h1
        · rw [if_neg hz] at h1
          cases e : Orde.lt y m with
          | false => rfl
          | true =>
            have e' : PySem.W.dataLt (emb y) (emb m) = true := by rw [Orde.ltq]; exact e
            rcases PyProof.Rows.lex_negTrans _ (PySem.W.keyToks (emb x)) _ e' with h | h
            · have h : PySem.W.dataLt (emb y) (emb x) = true := h
              rw [Orde.ltq] at h; exact absurd h hz
            · have h : PySem.W.dataLt (emb x) (emb m) = true := h
              rw [Orde.ltq] at h; rw [h] at h1; cases h1
      · exact h0 y (List.mem_cons_of_mem _ hy)
theorem minT_ex {l : List α} (h : l ≠ []) : ∃ z, minT l = some z ∧ z ∈ l ∧ ∀ y ∈ l, Orde.lt y z = false := by
  cases l with
  | nil => exact absurd rfl h
  | cons x l => exact ⟨_, rfl, minF_mem x l, minF_le x l⟩
theorem lt_pair {p q : α × β} : Orde.lt p q = if p.1 = q.1 then Orde.lt p.2 q.2 else Orde.lt p.1 q.1 := (rfl)
theorem lt_int {i j : Int} : Orde.lt i j = decide (i < j) := (rfl)
theorem pair_le {p q : Int × β} (h : Orde.lt p q = false) : q.1 ≤ p.1 := by
  rw [lt_pair] at h
  split at h
  · omega
  · rw [lt_int, decide_eq_false_iff_not] at h; omega
theorem srtT_perm (l : List α) : (srtT l).Perm l := List.mergeSort_perm l _
theorem srtT_mem {l : List α} {x : α} : x ∈ srtT l ↔ x ∈ l := (srtT_perm l).mem_iff
theorem srtT_len {l : List α} : (srtT l).length = l.length := (srtT_perm l).length_eq
end
/-! while True -/
theorem while_true {σ ρ : Type} {f : σ → M (Oc σ ρ)} {n : Nat} {s : σ} : whileM (fun _ => some true) f (n + 1) s = bd (f s) fun o => match o with
      | .nx s => whileM (fun _ => some true) f n s
      | .bk s => .ok (.nx s)
      | .rt r => .ok (.rt r) := (rfl)
/-! bits -/
theorem and1 {x : Int} (h : 0 ≤ x) : Builtin.bitAnd x 1 = x % 2 := by
  rw [PyProof.Rows.bitAnd_pp h (by decide)]
  have : ((1 : Int).toNat) = 1 := rfl
  rw [this, Nat.and_one_is_mod]
  omega
theorem shlO_eq {i j : Int} (h0 : 0 ≤ j) (h1 : j ≤ 1000000) (h2 : i.natAbs < 2 ^ 64) : shlO i j = some (i * 2 ^ j.toNat) := by
  unfold shlO powOk
  rw [if_pos (by simp only [Bool.and_eq_true, decide_eq_true_eq]; exact ⟨⟨h0, h1⟩, h2⟩)]
theorem shrO_eq {i j : Int} (h0 : 0 ≤ j) : shrO i j = some (i / 2 ^ j.toNat) := by unfold shrO; rw [if_pos h0]
def bit (x : Int) (i : Nat) : Bool := decide (x / 2 ^ i % 2 = 1)
/-- a number with these bits -/
theorem bits_ex (p : Nat → Bool) : ∀ m : Nat, ∃ x : Int, 0 ≤ x ∧ x < 2 ^ m ∧ ∀ i, i < m → bit x i = p i
  | 0 => ⟨0, by decide, by decide, fun i h => absurd h (Nat.not_lt_zero _)⟩
  | m + 1 => by
    obtain ⟨x, x0, x1, h⟩ := bits_ex p m
    have hp : (2 : Int) ^ (m + 1) = 2 ^ m * 2 := Int.pow_succ 2 m
    have pos : (0 : Int) < 2 ^ m := Int.pow_pos (by decide)
    cases hm : p m with
    | false =>
      refine ⟨x, x0, by omega, fun i hi => ?_⟩
      rcases Nat.lt_succ_iff_lt_or_eq.mp hi with hi | rfl
      · exact h i hi
      · unfold bit
        rw [Int.ediv_eq_zero_of_lt x0 x1, hm]; rfl
    | true =>
      refine ⟨x + 2 ^ m, by omega, by omega, fun i hi => ?_⟩
      rcases Nat.lt_succ_iff_lt_or_eq.mp hi with hi | rfl
      · rw [← h i hi]
        unfold bit
        obtain ⟨k, rfl⟩ : ∃ k, m = i + (k + 1) := ⟨m - i - 1, by omega⟩
        have e : (2 : Int) ^ (i + (k + 1)) = 2 ^ i * (2 ^ k * 2) := by rw [Int.pow_add, Int.pow_succ]
        rw [e, Int.add_mul_ediv_left _ _ (Int.ne_of_gt (Int.pow_pos (by decide)))]
        have : (x / 2 ^ i + 2 ^ k * 2) % 2 = x / 2 ^ i % 2 := by omega
        rw [this]
      · unfold bit
        have e : (x + 2 ^ i) / 2 ^ i = 1 := by
          have := Int.add_mul_ediv_left x 1 (Int.ne_of_gt pos)
          rw [Int.mul_one] at this
          rw [this, Int.ediv_eq_zero_of_lt x0 x1]; rfl
        rw [e, hm]; rfl
theorem pow_le {a b : Nat} (h : a ≤ b) : (2 : Int) ^ a ≤ 2 ^ b := by
  obtain ⟨k, rfl⟩ := Nat.exists_eq_add_of_le h
  rw [Int.pow_add]
  have h1 : (0 : Int) < 2 ^ a := Int.pow_pos (by decide)
  have h2 : (0 : Int) < 2 ^ k := Int.pow_pos (by decide)
  have := Int.mul_le_mul_of_nonneg_left (show (1 : Int) ≤ 2 ^ k by omega) (Int.le_of_lt h1)
  rwa [Int.mul_one] at this
/-! and, or where the second part changes what is held -/
section
variable {L L1 L2 : List Pat} {a b : Rho → Rs Vl} {v : Vl} {p r : Bool}
theorem e_andW (ha : EG L a v L1) (h1 : p = true → EG L1 b (.d (.bool r)) L2) (h0 : p = false → r = false ∧ Les L1 L2) (hx : contL L1 v = some (.bool p) := by rfl) : EG L (sAnd a b) (.d (.bool r)) L2 := by
  cases p with
  | true => exact e_andG ha h1 (fun h => by cases h) hx
  | false =>
    obtain ⟨rfl, e⟩ := h0 rfl
    exact (e_andG (r := false) (L2 := L1) ha (fun h => by cases h) (fun _ => ⟨rfl, rfl⟩) hx).le e
theorem e_orW (ha : EG L a v L1) (h1 : p = false → EG L1 b (.d (.bool r)) L2) (h0 : p = true → r = true ∧ Les L1 L2) (hx : contL L1 v = some (.bool p) := by rfl) : EG L (sOr a b) (.d (.bool r)) L2 := by
  cases p with
  | false => exact e_orG ha h1 (fun h => by cases h) hx
  | true =>
    obtain ⟨rfl, e⟩ := h0 rfl
    exact (e_orG (r := true) (L2 := L1) ha (fun h => by cases h) (fun _ => ⟨rfl, rfl⟩) hx).le e
end
end T
/-! T, part 9: dicts. -/
namespace T
open PySem PySem.Spec PyProof.Rows L2 L3
open Emb (emb)
structure Dct (α β : Type) where
  l : List (α × β)
def embP {α β : Type} [Emb α] [Emb β] (p : α × β) : D × D := (emb p.1, emb p.2)
instance {α β : Type} [Emb α] [Emb β] : Emb (Dct α β) := ⟨fun d => .dict (d.l.map embP)⟩
/-- data that is a key -/
class KeyT (α : Type) extends Eqe α where
  kf : α → L3.KF
  kq : ∀ a : α, kOf (emb a) = some (kf a)
  inj : ∀ a b : α, kf a = kf b ↔ a = b
  tk : Bool
  tq : ∀ a : α, (if tk then ∃ k, kf a = .inl k else ∃ k, kf a = .inr k)
class LeafK (α : Type) extends Eqe α where
  lf : α → Key
  lq : ∀ a : α, keyF (emb a) = some (lf a)
  linj : ∀ a b : α, lf a = lf b ↔ a = b
instance : LeafK Int := ⟨.inl, fun _ => rfl, fun a b => ⟨fun h => by cases h; rfl, fun h => by rw [h]⟩⟩
instance : LeafK Str := ⟨.inr, fun _ => rfl, fun a b => ⟨fun h => by cases h; rfl, fun h => by rw [h]⟩⟩
instance : KeyT Int := ⟨fun i => .inl (.inl i), fun _ => rfl, fun a b => ⟨fun h => by cases h; rfl, fun h => by rw [h]⟩, true, fun a => ⟨_, rfl⟩⟩
instance : KeyT Str := ⟨fun i => .inl (.inr i), fun _ => rfl, fun a b => ⟨fun h => by cases h; rfl, fun h => by rw [h]⟩, true, fun a => ⟨_, rfl⟩⟩
section
variable {α β γ δ : Type} [LeafK α] [LeafK β] [LeafK γ] [LeafK δ]
theorem keysF_map : ∀ l : List α, keysF (l.map emb) = some (l.map LeafK.lf)
  | [] => rfl
  | x :: l => by
    show (keyF (emb x)).bind _ = _
    rw [LeafK.lq, keysF_map l]; rfl
theorem lf_map : ∀ l m : List α, l.map LeafK.lf = m.map LeafK.lf ↔ l = m
  | [], [] => by simp
  | [], _ :: _ => by simp
  | _ :: _, [] => by simp
  | x :: l, y :: m => by rw [List.map_cons, List.map_cons, List.cons.injEq, List.cons.injEq, LeafK.linj, lf_map l m]
instance : KeyT (Tup α) := ⟨fun t => .inr (t.l.map LeafK.lf), fun t => by show (keysF (t.l.map emb)).map _ = _; rw [keysF_map]; rfl, fun a b => by rw [Sum.inr.injEq, lf_map, tup_eq], false, fun a => ⟨_, rfl⟩⟩
instance : KeyT (α × β) := ⟨fun t => .inr [LeafK.lf t.1, LeafK.lf t.2], fun t => by
  show (keysF [emb t.1, emb t.2]).map _ = _
  simp [keysF, LeafK.lq], fun a b => by
  rw [Sum.inr.injEq, List.cons.injEq, List.cons.injEq, LeafK.linj, LeafK.linj, Prod.ext_iff]; simp, false, fun a => ⟨_, rfl⟩⟩
instance : KeyT (T3 α β γ) := ⟨fun t => .inr [LeafK.lf t.a, LeafK.lf t.b, LeafK.lf t.c], fun t => by
  show (keysF [emb t.a, emb t.b, emb t.c]).map _ = _
  simp [keysF, LeafK.lq], fun a b => by
  rw [Sum.inr.injEq, List.cons.injEq, List.cons.injEq, List.cons.injEq, LeafK.linj, LeafK.linj, LeafK.linj, t3_eq]; simp, false, fun a => ⟨_, rfl⟩⟩
end
section
variable {α β : Type} [KeyT α] [Emb β]
/-- what stands at a key -/
def dfind (d : Dct α β) (k : α) : Option β := (d.l.find? fun p => decide (p.1 = k)).map (·.2)
def dhas (d : Dct α β) (k : α) : Bool := (dfind d k).isSome
def dputL (l : List (α × β)) (k : α) (v : β) : List (α × β) := if dhas ⟨l⟩ k = true then l.map (fun p => if p.1 = k then (p.1, v) else p) else l ++ [(k, v)]
@[irreducible] def dputO (d : Dct α β) (k : α) (v : β) : Option (Dct α β) := if d.l.length < 16777216 then some ⟨dputL d.l k v⟩ else none
theorem dputO_eq {d : Dct α β} {k : α} {v : β} (h : d.l.length < 16777216) : dputO d k v = some ⟨dputL d.l k v⟩ := by unfold dputO; rw [if_pos h]
def dmk (ps : List (α × β)) : List (α × β) := ps.foldl (fun acc p => dputL acc p.1 p.2) []
theorem kf_iff {a b : α} : (kOf (emb a) = some (KeyT.kf b)) ↔ a = b := by rw [KeyT.kq, Option.some.injEq, KeyT.inj]
theorem same_kf (a b : α) : sameK (kOf (emb a)) (KeyT.kf b) = true := by
  rw [KeyT.kq]
  have h1 := KeyT.tq a
  have h2 := KeyT.tq b
  split at h1
  · rw [if_pos ‹_›] at h2
    obtain ⟨x, h1⟩ := h1
    obtain ⟨y, h2⟩ := h2
    rw [h1, h2]; rfl
  · rw [if_neg ‹_›] at h2
    obtain ⟨x, h1⟩ := h1
    obtain ⟨y, h2⟩ := h2
    rw [h1, h2]; rfl
theorem dAll_emb (l : List (α × β)) (k : α) : dAll (l.map embP) (KeyT.kf k) = true := by
  unfold dAll
  rw [List.all_map, List.all_eq_true]
  exact fun p _ => same_kf p.1 k
theorem dFind_emb (k : α) : ∀ l : List (α × β), dFind (l.map embP) (KeyT.kf k) = (dfind ⟨l⟩ k).map emb
  | [] => rfl
  | p :: l => by
    rw [List.map_cons, dFind_cons, dFind_emb k l]
    unfold dfind
    rw [List.find?_cons]
    by_cases e : p.1 = k
    · rw [if_pos (show kOf (embP p).1 = some (KeyT.kf k) from kf_iff.mpr e), decide_eq_true e]; rfl
    · rw [if_neg (show ¬kOf (embP p).1 = some (KeyT.kf k) from fun z => e (kf_iff.mp z)), decide_eq_false e]
theorem look_emb (d : Dct α β) (k : α) : dLook (emb d) (emb k) = some ((dfind d k).map emb) := by
  show dLook (.dict (d.l.map embP)) (emb k) = _
  unfold dLook
  rw [KeyT.kq]
  show (if dAll (d.l.map embP) (KeyT.kf k) = true then some (dFind (d.l.map embP) (KeyT.kf k)) else none) = _
  rw [if_pos (dAll_emb _ _), dFind_emb]
theorem o_getD {d : Dct α β} {k : α} {v : β} (h : dfind d k = some v) : getDD (emb d) (emb k) = some (emb v) := by
  unfold getDD; rw [look_emb, h]; rfl
theorem o_inDD {k : α} {d : Dct α β} : inDD false (emb k) (emb d) = some (.bool (dhas d k)) := by
  unfold inDD dhas; rw [look_emb]
  cases dfind d k <;> rfl
theorem o_niDD {k : α} {d : Dct α β} : inDD true (emb k) (emb d) = some (.bool (!dhas d k)) := by
  unfold inDD dhas; rw [look_emb]
  cases dfind d k <;> rfl
theorem dPutL_emb (l : List (α × β)) (k : α) (v : β) : dPutL (l.map embP) (KeyT.kf k) (emb k) (emb v) = (dputL l k v).map embP := by
  unfold dPutL dputL dhas
  rw [dFind_emb, Option.isSome_map]
  split
  · rw [List.map_map, List.map_map]
    refine List.map_congr_left fun p _ => ?_
    show (if kOf (emb p.1) = some (KeyT.kf k) then (emb p.1, emb v) else (emb p.1, emb p.2)) = embP (if p.1 = k then (p.1, v) else p)
    by_cases e : p.1 = k
    · rw [if_pos (kf_iff.mpr e), if_pos e]; rfl
    · rw [if_neg (fun z => e (kf_iff.mp z)), if_neg e]; rfl
  · rw [List.map_append]; rfl
theorem put_emb {d d' : Dct α β} {k : α} {v : β} (h : dputO d k v = some d') : dPut (emb d) (emb k) (emb v) = some (emb d') := by
  unfold dputO at h
  split at h
  · rename_i hl
    cases h
    show dPut (.dict (d.l.map embP)) (emb k) (emb v) = _
    unfold dPut
    rw [KeyT.kq]
    show (if (dAll (d.l.map embP) (KeyT.kf k) && decide ((d.l.map embP).length < sizeLine)) = true then some (PyData.dict (dPutL (d.l.map embP) (KeyT.kf k) (emb k) (emb v))) else none) = _
    rw [dAll_emb, List.length_map, decide_eq_true (show d.l.length < sizeLine by rw [sizeLine_eq]; exact hl), if_pos (show (true && true) = true from rfl), dPutL_emb]
    rfl
  · cases h
theorem kindK_emb (d : Dct α β) (h : KeyT.tk α = true) : kindK (d.l.map embP) = true := by
  unfold kindK dAll
  rw [List.all_map, List.all_eq_true]
  intro p _
  show sameK (kOf (emb p.1)) _ = true
  rw [KeyT.kq]
  have h1 := KeyT.tq p.1
  rw [if_pos h] at h1
  obtain ⟨x, h1⟩ := h1
  rw [h1]; rfl
theorem isDictD_emb (d : Dct α β) : isDictD (.dict (d.l.map embP)) = true := by
  show (kindK _ || dAll _ _) = true
  rw [Bool.or_eq_true_iff]
  cases h : KeyT.tk α with
  | true => exact .inl (kindK_emb d h)
  | false =>
    right
    unfold dAll
    rw [List.all_map, List.all_eq_true]
    intro p _
    show sameK (kOf (emb p.1)) _ = true
    rw [KeyT.kq]
    have h1 := KeyT.tq p.1
    rw [if_neg (by rw [h]; decide)] at h1
    obtain ⟨x, h1⟩ := h1
    rw [h1]; rfl
end
section
variable {α β : Type} [KeyT α] [Emb β] {L L1 L2 L4 : List Pat} {a b c e : Rho → Rs Vl} {v w u : Vl} {i : Nat}
theorem f_newD : EG L sNewD (.fr (emb (Dct.mk ([] : List (α × β))))) L := EG.pure
theorem t_get1 {d : Dct α β} {k : α} (ha : EG L a v L1) (hb : EG L1 b w L2) (hx : contL L1 v = some (emb d) := by rfl) (hx2 : contL L2 v = some (emb d) := by rfl) (hy : contL L2 w = some (emb k) := by rfl) : EG L (sGet1 a b) (.d (emb (dfind d k))) L2 := by
  intro ρ f
  obtain ⟨ρ1, e1, q1⟩ := ha ρ f
  obtain ⟨ρ2, e2, q2⟩ := hb ρ1 q1
  refine ⟨ρ2, ?_, q2⟩
  unfold sGet1
  rw [e1, Rs.bind_ok, contL_ok q1 hx]
  show (if isDictD (.dict (d.l.map embP)) = true then _ else _) = _
  rw [if_pos (isDictD_emb d), e2, Rs.bind_ok]
  unfold two
  rw [contL_ok q2 hx2, contL_ok q2 hy, Option.bind_some, Option.bind_some]
  show L3.ret ρ2 ((dLook (emb d) (emb k)).map fun o => o.getD PyData.none) = _
  rw [look_emb]
  cases dfind d k <;> rfl
theorem t_get2 {d : Dct α β} {k : α} {z : β} {M3 M5 : List Pat} (ha : EG L a v L1) (hb : EG L1 b w L2) (hc : EG M3 c u L4) (hf : frzL L2 w = some (emb k, M3)) (hg : frzL L4 u = some (emb z, M5)) (hx : contL L1 v = some (emb d) := by rfl) (hx2 : contL M5 v = some (emb d) := by rfl) : EG L (sGet2 a b c) (.d (emb ((dfind d k).getD z))) M5 := by
  intro ρ f
  obtain ⟨ρ1, e1, q1⟩ := ha ρ f
  obtain ⟨ρ2, e2, q2⟩ := hb ρ1 q1
  obtain ⟨ρ3, e3, q3⟩ := frzL_ok hf ρ2 q2
  obtain ⟨ρ4, e4, q4⟩ := hc ρ3 q3
  obtain ⟨ρ5, e5, q5⟩ := frzL_ok hg ρ4 q4
  refine ⟨ρ5, ?_, q5⟩
  unfold sGet2
  rw [e1, Rs.bind_ok, contL_ok q1 hx]
  show (if isDictD (.dict (d.l.map embP)) = true then _ else _) = _
  rw [if_pos (isDictD_emb d), e2, Rs.bind_ok, e3, Rs.bind_ok, e4, Rs.bind_ok, e5, Rs.bind_ok]
  unfold one
  rw [contL_ok q5 hx2, Option.bind_some]
  show L3.ret ρ5 ((dLook (emb d) (emb k)).map fun o => o.getD (emb z)) = _
  rw [look_emb]
  cases dfind d k <;> rfl
theorem x_setD {ix : Rho → Rs Vl} {L5 L6 : List Pat} {d d0 d' : Dct α β} {k : α} {z : β} {p p' : Bool} (h : EG L e v L1) (hi : EG L2 ix w L4) (hs : dputO d k z = some d') (hf : frzL L1 v = some (emb z, L2) := by rfl) (hg : frzL L4 w = some (emb k, L5) := by rfl) (h0 : L2[i]? = some (.ex (.own p' (emb d0))) := by rfl) (h1 : L5[i]? = some (.ex (.own p (emb d))) := by rfl) (hL : L5.set i (.ex (.own p (emb d'))) = L6 := by rfl) : EG L (sSetD i ix e) .nx L6 := by
  subst hL
  intro ρ f
  obtain ⟨ρ1, e1, q1⟩ := h ρ f
  obtain ⟨ρ2, e2, q2⟩ := frzL_ok hf ρ1 q1
  obtain ⟨ρ3, e3, q3⟩ := hi ρ2 q2
  obtain ⟨ρ4, e4, q4⟩ := frzL_ok hg ρ3 q3
  refine ⟨ρ4.set i (.own p (emb d')), ?_, q4.set i rfl⟩
  unfold sSetD
  rw [e1, Rs.bind_ok, e2, Rs.bind_ok]
  have ho : isOwnD ρ2 i = true := by unfold isOwnD; rw [q2.at h0]; rfl
  rw [if_pos ho, e3, Rs.bind_ok, e4, Rs.bind_ok]
  unfold setDD
  rw [q4.at h1]
  show (match dPut (emb d) (emb k) (emb z) with | some d' => Rs.ok Fl.nx (ρ4.set i (.own p d')) | none => .bad) = _
  rw [put_emb hs]
theorem i_dict {f : D × D → D} {γ : Type} [Emb γ] {g : α × β → γ} {d : Dct α β} (ht : KeyT.tk α = true) (hg : ∀ p : α × β, f (embP p) = emb (g p)) (h : EG L e v L1) (hf : frzL L1 v = some (emb d, L2) := by rfl) : EG L (sItD f e) ((d.l.map g).map emb) L2 := by
  intro ρ q
  obtain ⟨ρ1, e1, q1⟩ := h ρ q
  obtain ⟨ρ2, e2, q2⟩ := frzL_ok hf ρ1 q1
  refine ⟨ρ2, ?_, q2⟩
  unfold sItD
  rw [e1, Rs.bind_ok, e2, Rs.bind_ok]
  show ofO (if kindK (d.l.map embP) = true then some ((d.l.map embP).map f) else none) ρ2 = _
  rw [if_pos (kindK_emb d ht), List.map_map, List.map_map]
  show Rs.ok _ _ = Rs.ok _ _
  congr 1
  exact List.map_congr_left fun p _ => hg p
theorem i_keysD {d : Dct α β} (h : EG L e v L1) (ht : KeyT.tk α = true := by rfl) (hf : frzL L1 v = some (emb d, L2) := by rfl) : EG L (sItD (·.1) e) ((d.l.map (·.1)).map emb) L2 := i_dict ht (fun _ => rfl) h hf
theorem i_valsD {d : Dct α β} (h : EG L e v L1) (ht : KeyT.tk α = true := by rfl) (hf : frzL L1 v = some (emb d, L2) := by rfl) : EG L (sItD (·.2) e) ((d.l.map (·.2)).map emb) L2 := i_dict ht (fun _ => rfl) h hf
theorem i_itemsD {d : Dct α β} (h : EG L e v L1) (ht : KeyT.tk α = true := by rfl) (hf : frzL L1 v = some (emb d, L2) := by rfl) : EG L (sItD (fun p => .tuple [p.1, p.2]) e) (d.l.map emb) L2 := by
  have := i_dict (f := fun p => .tuple [p.1, p.2]) (g := fun p : α × β => p) ht (fun _ => rfl) h hf
  rwa [List.map_id'] at this
end
/-! comprehensions -/
section
variable {α β γ : Type} [Emb α] [KeyT β] [Emb γ] {L L0 L1 L4 : List Pat} {it : Rho → Rs (List D)} {tg : D → Rho → Rs Fl} {tt : Rho → Rs Bool} {tk te : Rho → Rs Vl} {vs : List Nat}
def dgo (p : α → Option Bool) (g : α → Option (β × γ)) : List α → List (β × γ) → Option (List (β × γ))
  | [], acc => some acc
  | x :: xs, acc => ob (p x) fun b => if b = true then ob (g x) fun y => if acc.length < 16777216 then dgo p g xs (dputL acc y.1 y.2) else none
    else dgo p g xs acc
@[irreducible] def dcO (p : α → Option Bool) (g : α → Option (β × γ)) (xs : List α) : Option (Dct β γ) := (dgo p g xs []).map Dct.mk
theorem dg_ok {p : α → Option Bool} {g : α → Option (β × γ)} (ht : KeyT.tk β = true) (h : ∀ x : α, ∃ Lg, EG L0 (tg (emb x)) .nx Lg ∧ allValL Lg vs = true ∧ wipeL Lg vs = L0 ∧ (∀ b, p x = some b → EG Lg tt b Lg) ∧ ∀ y, p x = some true → g x = some y → ∃ v w, EG Lg tk v Lg ∧ frzL Lg v = some (emb y.1, Lg) ∧ EG Lg te w Lg ∧ frzL Lg w = some (emb y.2, Lg)) :
    ∀ (xs : List α) (acc r : List (β × γ)), dgo p g xs acc = some r → EG L0 (sDg tg tt tk te vs (xs.map emb) (acc.map embP)) (r.map embP) L0
  | [], acc, r, e => by
    cases e
    intro ρ q
    exact ⟨ρ, rfl, q⟩
  | x :: xs, acc, r, e => by
    intro ρ q
    obtain ⟨Lg, h1, h6, h7, h2, h3⟩ := h x
    obtain ⟨ρ1, e1, q1⟩ := h1 ρ q
    unfold dgo at e
    refine ob_el e fun b eb e => ?_
    obtain ⟨ρ2, e2, q2⟩ := h2 b eb ρ1 q1
    cases hb : b with
    | true =>
      rw [if_pos hb] at e
      refine ob_el e fun y ey e => ?_
      split at e
      · rename_i hn
        obtain ⟨v, w, h4, h5, h8, h9⟩ := h3 y (hb ▸ eb) ey
        obtain ⟨ρ3, e3, q3⟩ := h4 ρ2 q2
        obtain ⟨ρ4, e4, q4⟩ := frzL_ok h5 ρ3 q3
        obtain ⟨ρ5, e5, q5⟩ := h8 ρ4 q4
        obtain ⟨ρ6, e6, q6⟩ := frzL_ok h9 ρ5 q5
        have q7 := wipeL_ok q6 vs
        rw [h7] at q7
        obtain ⟨ρ8, e8, q8⟩ := dg_ok ht h xs _ r e _ q7
        refine ⟨ρ8, ?_, q8⟩
        rw [List.map_cons]
        unfold sDg
        rw [e1]
        simp only [sDg.thenD, e2, okB, hb, if_true, e3, e4, e5, e6]
        have h10 := KeyT.tq y.1
        rw [if_pos ht] at h10
        obtain ⟨q, hq⟩ := h10
        rw [KeyT.kq, hq]
        show (if (allVal ρ6 vs && decide ((acc.map embP).length < sizeLine)) = true then sDg tg tt tk te vs (xs.map emb) (dPutL (acc.map embP) (.inl q) (emb y.1) (emb y.2)) (wipeR ρ6 vs) else .bad) = _
        rw [valL_ok q6 h6, List.length_map, decide_eq_true (show acc.length < sizeLine by rw [sizeLine_eq]; exact hn), if_pos (by rfl), ← hq, dPutL_emb, e8]
      · cases e
    | false =>
      rw [if_neg (by rw [hb]; decide)] at e
      have q5 := wipeL_ok q2 vs
      rw [h7] at q5
      obtain ⟨ρ5, e5, q6⟩ := dg_ok ht h xs acc r e _ q5
      refine ⟨ρ5, ?_, q6⟩
      rw [List.map_cons]
      unfold sDg
      rw [e1]
      simp only [sDg.thenD, e2, okB, hb, Bool.false_eq_true, if_false, valL_ok q2 h6, if_true, e5]
theorem f_dc {p : α → Option Bool} {g : α → Option (β × γ)} {xs : List α} {r : Dct β γ} (hi : EG L it (xs.map emb) L1) (h0 : wipeL L1 vs = L0)
    (h : ∀ x : α, ∃ Lg, EG L0 (tg (emb x)) .nx Lg ∧ allValL Lg vs = true ∧ wipeL Lg vs = L0 ∧ (∀ b, p x = some b → EG Lg tt b Lg) ∧ ∀ y, p x = some true → g x = some y → ∃ v w, EG Lg tk v Lg ∧ frzL Lg v = some (emb y.1, Lg) ∧ EG Lg te w Lg ∧ frzL Lg w = some (emb y.2, Lg))
    (hr : dcO p g xs = some r) (ht : KeyT.tk β = true := by rfl) (hv : allValL L1 vs = true := by rfl) (hL : backL L1 vs L0 = L4 := by rfl) : EG L (sDc it tg tt tk te vs) (.fr (emb r)) L4 := by
  subst hL
  unfold dcO at hr
  obtain ⟨l, el, rfl⟩ := Option.map_eq_some_iff.mp hr
  intro ρ qq
  obtain ⟨ρ1, e1, q1⟩ := hi ρ qq
  have nv := valL_ok q1 hv
  have qw := wipeL_ok q1 vs
  rw [h0] at qw
  obtain ⟨ρ2, e2, q2⟩ := dg_ok ht h xs [] l el _ qw
  refine ⟨_, ?_, backL_ok q1 q2 vs⟩
  unfold sDc
  rw [e1, Rs.bind_ok, if_pos nv]
  have e2 : sDg tg tt tk te vs (xs.map emb) [] (wipeR ρ1 vs) = .ok (l.map embP) ρ2 := e2
  rw [e2]; rfl
theorem dgo_eq {p : α → Option Bool} {g : α → Option (β × γ)} {p' : α → Bool} {g' : α → β × γ} : ∀ {xs : List α} {acc : List (β × γ)}, (∀ x ∈ xs, p x = some (p' x)) → (∀ x ∈ xs, p' x = true → g x = some (g' x)) → acc.length + xs.length ≤ 16777216 → dgo p g xs acc = some (((xs.filter p').map g').foldl (fun acc y => dputL acc y.1 y.2) acc)
  | [], _, _, _, _ => rfl
  | x :: xs, acc, hp, hg, hn => by
    rw [List.length_cons] at hn
    unfold dgo
    rw [hp x List.mem_cons_self, ob_some]
    have hp' := fun y (hy : y ∈ xs) => hp y (List.mem_cons_of_mem _ hy)
    have hg' := fun y (hy : y ∈ xs) => hg y (List.mem_cons_of_mem _ hy)
    have hl : ∀ (k : β) (v : γ), (dputL acc k v).length ≤ acc.length + 1 := fun k v => by
      unfold dputL
      split
      · rw [List.length_map]; omega
      · rw [List.length_append]; simp
    cases e : p' x with
    | true =>
      have := hl (g' x).1 (g' x).2
      rw [if_pos rfl, hg x List.mem_cons_self e, ob_some, if_pos (by omega), dgo_eq hp' hg' (by omega), List.filter_cons_of_pos e]
      rfl
    | false =>
      rw [if_neg (by decide), dgo_eq hp' hg' (by omega), List.filter_cons_of_neg (by rw [e]; decide)]
theorem dcO_eq {p : α → Option Bool} {g : α → Option (β × γ)} (p' : α → Bool) (g' : α → β × γ) {xs : List α} (hp : ∀ x ∈ xs, p x = some (p' x)) (hg : ∀ x ∈ xs, p' x = true → g x = some (g' x)) (hn : xs.length ≤ 16777216) : dcO p g xs = some ⟨dmk ((xs.filter p').map g')⟩ := by
  unfold dcO
  rw [dgo_eq hp hg (by simpa using hn)]
  rfl
end
/-! displays -/
section
variable {α β : Type} [KeyT α] [Emb β] {L L1 L2 L3 L4 L5 : List Pat} {a b : Rho → Rs Vl} {v w : Vl} {s : Rho → Rs (List (D × D))} {ps : List (α × β)}
theorem p_n : EG L sPnil (([] : List (α × β)).map embP) L := EG.pure
theorem p_c {k : α} {x : β} (ha : EG L a v L1) (hb : EG L2 b w L3) (r : EG L4 s (ps.map embP) L5) (hf : frzL L1 v = some (emb k, L2) := by rfl) (hg : frzL L3 w = some (emb x, L4) := by rfl) : EG L (sPcons a b s) (((k, x) :: ps).map embP) L5 := by
  intro ρ f
  obtain ⟨ρ1, e1, q1⟩ := ha ρ f
  obtain ⟨ρ2, e2, q2⟩ := frzL_ok hf ρ1 q1
  obtain ⟨ρ3, e3, q3⟩ := hb ρ2 q2
  obtain ⟨ρ4, e4, q4⟩ := frzL_ok hg ρ3 q3
  obtain ⟨ρ5, e5, q5⟩ := r ρ4 q4
  exact ⟨ρ5, by unfold sPcons; simp only [e1, e2, e3, e4, e5, okB]; rfl, q5⟩
theorem merge_emb (ht : KeyT.tk α = true) : ∀ (ps acc : List (α × β)), dMerge (acc.map embP) (ps.map embP) = some ((ps.foldl (fun acc p => dputL acc p.1 p.2) acc).map embP)
  | [], acc => rfl
  | p :: ps, acc => by
    have h1 := KeyT.tq p.1
    rw [if_pos ht] at h1
    obtain ⟨q, hq⟩ := h1
    rw [List.map_cons, List.foldl_cons]
    show (match kOf (emb p.1) with | some (.inl q) => dMerge (dPutL (acc.map embP) (.inl q) (emb p.1) (emb p.2)) (ps.map embP) | _ => none) = _
    rw [KeyT.kq, hq]
    show dMerge (dPutL (acc.map embP) (.inl q) (emb p.1) (emb p.2)) (ps.map embP) = _
    rw [← hq, dPutL_emb, merge_emb ht ps]
theorem f_disp (r : EG L s (ps.map embP) L1) (ht : KeyT.tk α = true := by rfl) (hn : Nat.ble ps.length 15 = true := by rfl) : EG L (sDisp s) (.fr (emb (Dct.mk (dmk ps)))) L1 := by
  intro ρ f
  obtain ⟨ρ1, e1, q1⟩ := r ρ f
  refine ⟨ρ1, ?_, q1⟩
  unfold sDisp
  rw [e1]
  show (match dMerge [] (ps.map embP) with | some ds => if (ps.map embP).length ≤ 15 then Rs.ok (Vf.fr (.dict ds)) ρ1 else .bad | none => .bad) = _
  have := merge_emb ht ps []
  rw [List.map_nil] at this
  rw [this]
  show (if (ps.map embP).length ≤ 15 then _ else _) = _
  rw [List.length_map, if_pos (Nat.le_of_ble_eq_true hn)]
  rfl
end
end T
/-! T, part 10: plain laws of dicts, runs of numbers, least and most. -/
namespace T
open PySem PySem.Spec PyProof.Rows L2 L3
open Emb (emb)
section
variable {α β : Type} [KeyT α] [Emb β]
theorem find_map_put (k k' : α) (v : β) : ∀ l : List (α × β), ((l.map fun p => if p.1 = k then (p.1, v) else p).find? fun p => decide (p.1 = k')).map (·.2) = if k' = k then (l.find? fun p => decide (p.1 = k')).map (fun _ => v) else (l.find? fun p => decide (p.1 = k')).map (·.2)
  | [] => by simp
  | p :: l => by
    have ih := find_map_put k k' v l
    rw [List.map_cons, List.find?_cons, List.find?_cons]
    have e1 : (if p.1 = k then (p.1, v) else p).1 = p.1 := by split <;> rfl
    rw [e1]
    by_cases h : p.1 = k'
    · rw [decide_eq_true h]
      subst h
      by_cases h2 : p.1 = k
      · simp only [Option.map_some, if_pos h2]
      · simp only [Option.map_some, if_neg h2]
    · rw [decide_eq_false h]
      exact ih
theorem dfind_put {l : List (α × β)} {k k' : α} {v : β} : dfind ⟨dputL l k v⟩ k' = if k' = k then some v else dfind ⟨l⟩ k' := by
  unfold dputL
  by_cases h : dhas ⟨l⟩ k = true
  · rw [if_pos h]
    unfold dfind
    rw [find_map_put]
    by_cases e : k' = k
    · subst e
      rw [if_pos rfl, if_pos rfl]
      unfold dhas dfind at h
      rw [Option.isSome_map] at h
      cases hf : l.find? (fun p => decide (p.1 = k')) with
      | none => rw [show (Dct.mk l).l = l from rfl, hf] at h; cases h
      | some p => rfl
    · rw [if_neg e, if_neg e]
  · rw [if_neg h]
    have hn : dfind ⟨l⟩ k = none := by
      unfold dhas at h
      cases hd : dfind ⟨l⟩ k with
      | none => rfl
      | some x => rw [hd] at h; exact absurd rfl h
    unfold dfind at hn ⊢
    rw [show (Dct.mk (l ++ [(k, v)])).l = l ++ [(k, v)] from rfl, show (Dct.mk l).l = l from rfl, List.find?_append]
    rw [show (Dct.mk l).l = l from rfl] at hn
    by_cases e : k' = k
    · subst e
      rw [if_pos rfl]
      cases hf : l.find? (fun p => decide (p.1 = k')) with
      | some p => rw [hf] at hn; cases hn
      | none => simp
    · rw [if_neg e, List.find?_cons, decide_eq_false (show ¬(k, v).1 = k' from fun h => e h.symm)]
      simp
theorem dputL_len {l : List (α × β)} {k : α} {v : β} : (dputL l k v).length ≤ l.length + 1 := by
  unfold dputL
  split
  · rw [List.length_map]; omega
  · rw [List.length_append]; exact Nat.le_refl _
theorem dputL_len_in {l : List (α × β)} {k : α} {v : β} (h : dhas ⟨l⟩ k = true) : (dputL l k v).length = l.length := by
  unfold dputL
  rw [if_pos h, List.length_map]
theorem dhas_put {l : List (α × β)} {k k' : α} {v : β} : dhas ⟨dputL l k v⟩ k' = if k' = k then true else dhas ⟨l⟩ k' := by
  unfold dhas
  rw [dfind_put]
  split <;> rfl
end
section
variable {α : Type} [Eqe α]
def inB (a : α) (l : List α) : Bool := decide (a ∈ l)
theorem inB_iff {a : α} {l : List α} : inB a l = true ↔ a ∈ l := by unfold inB; rw [decide_eq_true_iff]
theorem inB_no {a : α} {l : List α} : inB a l = false ↔ ¬a ∈ l := by unfold inB; rw [decide_eq_false_iff_not]
theorem o_inB {a : α} {l : List α} (h : Eqe.dp α ≤ 150 := by decide) : inD false (emb a) (emb l) = some (.bool (inB a l)) := o_in h
theorem o_niB {a : α} {l : List α} (h : Eqe.dp α ≤ 150 := by decide) : inD true (emb a) (emb l) = some (.bool (!inB a l)) := o_ni h
theorem o_inTB {a : α} {l : Tup α} (h : Eqe.dp α ≤ 150 := by decide) : inD false (emb a) (emb l) = some (.bool (inB a l.l)) := o_inT h
theorem o_niTB {a : α} {l : Tup α} (h : Eqe.dp α ≤ 150 := by decide) : inD true (emb a) (emb l) = some (.bool (!inB a l.l)) := o_niT h
end
theorem rgI_nil {a b : Int} (h : b ≤ a) : rgI a b = [] := by
  unfold rgI
  rw [show (b - a).toNat = 0 by omega]; rfl
theorem rgI_cons {a b : Int} (h : a < b) : rgI a b = a :: rgI (a + 1) b := by
  unfold rgI
  rw [show (b - a).toNat = (b - (a + 1)).toNat + 1 by omega, List.range_succ_eq_map, List.map_cons, List.map_map]
  congr 1
  · omega
  · refine List.map_congr_left fun i _ => ?_
    simp only [Function.comp]
    omega
theorem rgI_snoc {a b : Int} (h : a ≤ b) : rgI a (b + 1) = rgI a b ++ [b] := by
  unfold rgI
  rw [show (b + 1 - a).toNat = (b - a).toNat + 1 by omega, List.range_succ, List.map_append, List.map_cons, List.map_nil]
  congr 2
  omega
theorem w_rg {σ : Type} {f : Int → σ → M σ} {Q : σ → Prop} {a b : Int} {s : σ} (I : Int → σ → Prop) (hab : a ≤ b) (h0 : I a s) (hs : ∀ x s, a ≤ x → x < b → I x s → W (f x s) (I (x + 1))) (hk : ∀ s, I b s → Q s) : W (foldM f (rgI a b) s) Q := by
  suffices h : ∀ (j : Nat) (a : Int) (s : σ), a + j = b → I a s → (∀ x s, a ≤ x → x < b → I x s → W (f x s) (I (x + 1))) → W (foldM f (rgI a b) s) Q from h (b - a).toNat a s (by omega) h0 hs
  intro j
  induction j with
  | zero => intro a s e hi _; rw [rgI_nil (by omega)]; exact hk s (by rw [show b = a by omega]; exact hi)
  | succ j ih =>
    intro a s e hi hs
    rw [rgI_cons (by omega)]
    exact w_bd ((hs a s (Int.le_refl _) (by omega) hi).to fun s' h' => ih (a + 1) s' (by omega) h' fun x s h1 h2 => hs x s (by omega) h2)
theorem minI_mem : ∀ (a : Int) (l : List Int), minI a l ∈ a :: l
  | a, [] => List.mem_singleton.mpr rfl
  | a, y :: l => by
    show minI (if y < a then y else a) l ∈ _
    have := minI_mem (if y < a then y else a) l
    rcases List.mem_cons.mp this with e | h
    · rw [e]; split <;> simp
    · exact List.mem_cons_of_mem _ (List.mem_cons_of_mem _ h)
theorem minI_le : ∀ (a : Int) (l : List Int), ∀ y ∈ a :: l, minI a l ≤ y
  | a, [], y, h => by rw [List.mem_singleton.mp h]; exact Int.le_refl _
  | a, x :: l, y, h => by
    show minI (if x < a then x else a) l ≤ y
    have := minI_le (if x < a then x else a) l
    have h0 := this _ List.mem_cons_self
    generalize minI (if x < a then x else a) l = m at this h0 ⊢
    rcases List.mem_cons.mp h with e | h
    · subst e; split at h0 <;> omega
    · rcases List.mem_cons.mp h with e | h
      · subst e; split at h0 <;> omega
      · exact this y (List.mem_cons_of_mem _ h)
theorem minO_ex {x : List Int} (h : x ≠ []) : ∃ M, minO x = some M ∧ M ∈ x ∧ ∀ y ∈ x, M ≤ y := by
  cases x with
  | nil => exact absurd rfl h
  | cons a l => exact ⟨_, rfl, minI_mem a l, minI_le a l⟩
/-- the least, known by its two marks -/
theorem minO_is {x : List Int} {m : Int} (h : m ∈ x) (hl : ∀ y ∈ x, m ≤ y) : minO x = some m := by
  obtain ⟨M, e, h1, h2⟩ := minO_ex (x := x) (by rintro rfl; cases h)
  rw [e]
  have := hl M h1
  have := h2 m h
  congr 1; omega
theorem maxI_mem : ∀ (a : Int) (l : List Int), maxI a l ∈ a :: l
  | a, [] => List.mem_singleton.mpr rfl
  | a, y :: l => by
    show maxI (if a < y then y else a) l ∈ _
    have := maxI_mem (if a < y then y else a) l
    rcases List.mem_cons.mp this with e | h
    · rw [e]; split <;> simp
    · exact List.mem_cons_of_mem _ (List.mem_cons_of_mem _ h)
theorem maxI_le : ∀ (a : Int) (l : List Int), ∀ y ∈ a :: l, y ≤ maxI a l
  | a, [], y, h => by rw [List.mem_singleton.mp h]; exact Int.le_refl _
  | a, x :: l, y, h => by
    show y ≤ maxI (if a < x then x else a) l
    have := maxI_le (if a < x then x else a) l
    have h0 := this _ List.mem_cons_self
    generalize maxI (if a < x then x else a) l = m at this h0 ⊢
    rcases List.mem_cons.mp h with e | h
    · subst e; split at h0 <;> omega
    · rcases List.mem_cons.mp h with e | h
      · subst e; split at h0 <;> omega
      · exact this y (List.mem_cons_of_mem _ h)
theorem maxO_ex {x : List Int} (h : x ≠ []) : ∃ M, maxO x = some M ∧ M ∈ x ∧ ∀ y ∈ x, y ≤ M := by
  cases x with
  | nil => exact absurd rfl h
  | cons a l => exact ⟨_, rfl, maxI_mem a l, maxI_le a l⟩
theorem maxO_is {x : List Int} {m : Int} (h : m ∈ x) (hl : ∀ y ∈ x, y ≤ m) : maxO x = some m := by
  obtain ⟨M, e, h1, h2⟩ := maxO_ex (x := x) (by rintro rfl; cases h)
  rw [e]
  have := hl M h1
  have := h2 m h
  congr 1; omega
theorem minO_snoc {x : List Int} {y : Int} : minO (x ++ [y]) = some (match minO x with | none => y | some m => minI2 m y) := by
  cases x with
  | nil => rfl
  | cons a l =>
    obtain ⟨M, e, h1, h2⟩ := minO_ex (x := a :: l) (by simp)
    rw [e]
    show minO ((a :: l) ++ [y]) = some (minI2 M y)
    have hm : minI2 M y = y ∧ y < M ∨ minI2 M y = M ∧ M ≤ y := by
      unfold minI2
      by_cases h : y < M
      · rw [if_pos h]; exact .inl ⟨rfl, h⟩
      · rw [if_neg h]; exact .inr ⟨rfl, by omega⟩
    refine minO_is ?_ fun z hz => ?_
    · rcases hm with ⟨e, _⟩ | ⟨e, _⟩
      · rw [e]; simp
      · rw [e]; exact List.mem_append_left _ h1
    · rcases List.mem_append.mp hz with h | h
      · have := h2 z h
        omega
      · rw [List.mem_singleton] at h
        omega
section
variable {α β γ : Type} [Orde α] [Orde β] [Orde γ]
theorem ord_neg {a b c : α} (h : Orde.lt a b = false) (h' : Orde.lt b c = false) : Orde.lt a c = false := by
  cases e : Orde.lt a c with
  | false => rfl
  | true =>
    have e' : PySem.W.dataLt (emb a) (emb c) = true := by rw [Orde.ltq]; exact e
    rcases PyProof.Rows.lex_negTrans _ (PySem.W.keyToks (emb b)) _ e' with q | q
    · have q : PySem.W.dataLt (emb a) (emb b) = true := q
      rw [Orde.ltq] at q; rw [q] at h; cases h
    · have q : PySem.W.dataLt (emb b) (emb c) = true := q
      rw [Orde.ltq] at q; rw [q] at h'; cases h'
theorem srtT_pw (l : List α) : (srtT l).Pairwise fun a b => Orde.lt b a = false := by
  have h := List.pairwise_mergeSort (le := fun a b : α => !Orde.lt b a) (fun a b c h1 h2 => by
    rw [Bool.not_eq_true'] at h1 h2 ⊢
    exact ord_neg h2 h1) (fun a b => by
    cases e : Orde.lt b a with
    | false => rfl
    | true =>
      cases e' : Orde.lt a b with
      | false => rfl
      | true => have := ord_trans e e'; rw [lt_self] at this; cases this) l
  exact h.imp fun {a b} h => by rwa [Bool.not_eq_true'] at h
theorem t3_le {p q : T3 Int β γ} (h : Orde.lt p q = false) : q.a ≤ p.a := by
  have h : (if p.a = q.a then (if p.b = q.b then Orde.lt p.c q.c else Orde.lt p.b q.b) else Orde.lt p.a q.a) = false := h
  split at h
  · omega
  · rw [T.lt_int, decide_eq_false_iff_not] at h; omega
end
end T
namespace T
open PySem PySem.Spec PyProof.Rows L2 L3
open T.Emb (emb)
@[irreducible] def repT {α : Type} (l : List α) (k : Int) : Option (List α) := if 1 ≤ k ∧ k ≤ 1000 ∧ l ≠ [] ∧ l.length ≤ 1000 then some (List.replicate k.toNat l).flatten else none
theorem map_rep {α β : Type} (f : α → β) (l : List α) : ∀ n : Nat, (List.replicate n l).flatten.map f = (List.replicate n (l.map f)).flatten
  | 0 => rfl
  | n + 1 => by rw [List.replicate_succ, List.replicate_succ, List.flatten_cons, List.flatten_cons, List.map_append, map_rep f l n]
theorem o_mulT {α : Type} [Emb α] {l : Tup α} {r : List α} {k : Int} (h : repT l.l k = some r) : mulT (emb l) (.int k) = some (emb (Tup.mk r)) := by
  obtain ⟨l⟩ := l
  unfold repT at h
  split at h
  · rename_i hk
    cases h
    cases l with
    | nil => exact absurd rfl hk.2.2.1
    | cons x xs =>
      show mulT (.tuple (emb x :: xs.map emb)) (.int k) = _
      unfold mulT
      dsimp only at hk ⊢
      have hl := hk.2.2.2
      rw [if_pos ⟨hk.1, hk.2.1, by rw [List.length_cons, List.length_map]; rw [List.length_cons] at hl; exact hl⟩]
      show _ = some (PyData.tuple (((List.replicate k.toNat (x :: xs)).flatten).map emb))
      rw [map_rep]
      rfl
  · cases h
theorem repT_one {α : Type} {x : α} {k : Int} (h1 : 1 ≤ k) (h2 : k ≤ 1000) : repT [x] k = some (List.replicate k.toNat x) := by
  unfold repT
  rw [if_pos ⟨h1, h2, by simp, by simp⟩]
  congr 1
  induction k.toNat with
  | zero => rfl
  | succ n ih => rw [List.replicate_succ, List.replicate_succ, List.flatten_cons, ih]; rfl
end T
namespace T
open PySem PySem.Spec PyProof.Rows L2 L3
open T.Emb (emb)
/-- a range as a list of any numbers' form -/
@[irreducible] def rgvDO (a b : Int) : Option (List D) := (rgvO a b).map fun l => l.map fun i => PyData.int i
theorem rgvDO_eq {a b : Int} {l : List Int} (h : rgvO a b = some l) : rgvDO a b = some (l.map fun i => PyData.int i) := by
  unfold rgvDO
  rw [h]; rfl
theorem f_lrgD {r : REnds} {i j : Int} {l : List D} {L L1 : List Pat} (e : ENDS L r i j L1) (h : rgvDO i j = some l) : EG L (sLrg r) (.fr (emb l)) L1 := by
  unfold rgvDO at h
  cases h2 : rgvO i j with
  | none => rw [h2] at h; cases h
  | some m =>
    rw [h2] at h
    cases h
    have q := f_lrg e h2
    have : emb (m.map fun i => (PyData.int i : D)) = emb m := by
      show PyData.list ((m.map fun i => PyData.int i).map id) = PyData.list (m.map PyData.int)
      rw [List.map_map]; rfl
    rw [this]
    exact q
end T
namespace K81
open PySem PySem.Spec PyProof.Rows L2 L3
def topS (i : Nat) : Stmt := PySem.Challenge.pw_chipfloor_k81_whole_turned_clocks.main.body.getD i (.Pass ⟨0, 0, 0, 0⟩)
section
variable {P : Program} {w : World} {K : PySem.W.Frag} {mg : Str → Option Value} {base : Heap} {cn : Str → Option Addr} {f : Addr} {fd : FuncData}
def k_MOST_PLACE : D := .int 40
def k_MOST_ENDS : D := .int 6
def k_SCALE : D := .int 64
abbrev s__law_taken : Stmt := topS 24
theorem sc__law_taken : FnScope ["_law_row", "_law_many", "_law_cell", "_law_found"] ["_law_row", "_law_many"] (defScope s__law_taken) := ⟨rfl, rfl, rfl, by decide +kernel, rfl, by decide +kernel, by decide +kernel⟩
def b__law_taken : Rho → Rs Fl :=
 (sSeq (sIfS (sBin gtD (sBin ixD (sVar 0) (sC (.int 3))) (sC (.int 0))) (sSeq (sAsg 3 (liF (sBin (binD .Mod) (sFun L3.intD (sCons (sBin ixD (sVar 0) (sC (.int 3))) sNil)) (sVar 1))))
 (sSeq (sSetIx 0 (sC (.int 3)) (sBin (binD .FloorDiv) (sBin ixD (sVar 0) (sC (.int 3))) (sVar 1)))
 (sRet (sVar 3)))) sNx)
 (sSeq (sSetIx 0 (sC (.int 1)) (sBin (binD .Add) (sBin ixD (sVar 0) (sC (.int 1))) (sC (.int 1))))
 (sSeq (sIfS (sBin gtD (sBin ixD (sVar 0) (sC (.int 1))) (sFun lenD (sCons (sBin ixD (sVar 0) (sC (.int 0))) sNil))) (sSeq (sSetIx 0 (sC (.int 2)) (sBin (binD .Mod) (sFun L3.intD (sCons (sBin (binD .Add) (sBin (binD .Mult) (sBin ixD (sVar 0) (sC (.int 2))) (sC (.int 48271))) (sC (.int 11))) sNil)) (sC (.int 2147483647))))
 (sRet (sBin (binD .Mod) (sFun L3.intD (sCons (sBin (binD .FloorDiv) (sBin ixD (sVar 0) (sC (.int 2))) (sC (.int 7))) sNil)) (sVar 1)))) sNx)
 (sSeq (sAsg 2 (liF (sBin ixD (sBin ixD (sVar 0) (sC (.int 0))) (sBin (binD .Sub) (sBin ixD (sVar 0) (sC (.int 1))) (sC (.int 1))))))
 (sSeq (sSetIx 0 (sC (.int 2)) (sBin (binD .Mod) (sFun L3.intD (sCons (sBin (binD .Add) (sBin (binD .Add) (sBin (binD .Mult) (sBin ixD (sVar 0) (sC (.int 2))) (sC (.int 48271))) (sVar 2)) (sC (.int 11))) sNil)) (sC (.int 2147483647))))
 (sSeq (sIfS (sBin geD (sVar 2) (sBin (binD .Pow) (sC (.int 10)) (sC (.int 18)))) (sSetIx 0 (sC (.int 3)) (sBin (binD .FloorDiv) (sVar 2) (sVar 1))) sNx)
 (sRet (sBin (binD .Mod) (sFun L3.intD (sCons (sVar 2) sNil)) (sVar 1)))))))))
def f__law_taken : Fn := defR 4 [true, false] b__law_taken
theorem ok__law_taken (F : Fun K "_law_taken" "_law_taken" s__law_taken f fd) (hx : mg "_law_taken" = some (.ref f)) (hb : Binds K fd ["_law_row", "_law_many"] []) (z_int : mg "int" = none) (z_len : mg "len" = none) : Kn P w K mg base cn (0 + 1) "_law_taken" [true, false] f__law_taken :=
  Kn.mk' (N := ["_law_row", "_law_many", "_law_cell", "_law_found"]) (s := b__law_taken) F sc__law_taken rfl hx hb fun cdv A outer s0 H E C =>
 (ds_cons (ds_if (wCmp cGt (wIx C ((v 0)).pe (de_int).pe) de_int) (ds_cons (kAsg C 3 (DE.f (wB C ((wInt z_int (wC ((wIx C ((v 0)).pe (de_int).pe)).pe wNil))).pe ((v 1)).pe)))
 (ds_cons (kSet 0 (de_int).pe ((wB C ((wIx C ((v 0)).pe (de_int).pe)).pe ((v 1)).pe)).pe)
 (ds_one (ds_ret ((v 3)).pe)))) ds_nil)
 (ds_cons (kSet 0 (de_int).pe ((wB C ((wIx C ((v 0)).pe (de_int).pe)).pe (de_int).pe)).pe)
 (ds_cons (ds_if (wCmp cGt (wIx C ((v 0)).pe (de_int).pe) (wLen C z_len (wC ((wIx C ((v 0)).pe (de_int).pe)).pe wNil))) (ds_cons (kSet 0 (de_int).pe ((wB C ((wInt z_int (wC ((wB C ((wB C ((wIx C ((v 0)).pe (de_int).pe)).pe (de_int).pe)).pe (de_int).pe)).pe wNil))).pe (de_int).pe)).pe)
 (ds_one (ds_ret ((wB C ((wInt z_int (wC ((wB C ((wIx C ((v 0)).pe (de_int).pe)).pe (de_int).pe)).pe wNil))).pe ((v 1)).pe)).pe))) ds_nil)
 (ds_cons (kAsg C 2 (DE.f (wIx C ((wIx C ((v 0)).pe (de_int).pe)).pe ((wB C ((wIx C ((v 0)).pe (de_int).pe)).pe (de_int).pe)).pe)))
 (ds_cons (kSet 0 (de_int).pe ((wB C ((wInt z_int (wC ((wB C ((wB C ((wB C ((wIx C ((v 0)).pe (de_int).pe)).pe (de_int).pe)).pe ((v 2)).pe)).pe (de_int).pe)).pe wNil))).pe (de_int).pe)).pe)
 (ds_cons (ds_if (wCmp cGe (v 2) (wB C (de_int).pe (de_int).pe)) (ds_one (kSet 0 (de_int).pe ((wB C ((v 2)).pe ((v 1)).pe)).pe)) ds_nil)
 (ds_one (ds_ret ((wB C ((wInt z_int (wC ((v 2)).pe wNil))).pe ((v 1)).pe)).pe))))))))
abbrev s__law_topology : Stmt := topS 27
theorem sc__law_topology : FnScope ["_law_row", "_law_numbers", "_law_some", "_law_one", "_law_other"] ["_law_row", "_law_numbers"] (defScope s__law_topology) := ⟨rfl, rfl, rfl, by decide +kernel, rfl, by decide +kernel, by decide +kernel⟩
def b__law_topology : Rho → Rs Fl :=
 (sSeq (sAsg 2 (sFunF listD (sCons (sVar 1) sNil)))
 (sSeq (sWhile (sBin gtD (sFun lenD (sCons (sVar 2) sNil)) (sC (.int 1))) (sSeq (sAsg 3 (liF (sMut 2 popAtF (sCons (sCallO [true, false] f__law_taken (sCons (sVar 0) (sCons (sFun lenD (sCons (sVar 2) sNil)) sNil))) sNil))))
 (sSeq (sAsg 4 (liF (sMut 2 popAtF (sCons (sCallO [true, false] f__law_taken (sCons (sVar 0) (sCons (sFun lenD (sCons (sVar 2) sNil)) sNil))) sNil))))
 (sExp (sMut 2 appF (sCons (sTup (sCons (sVar 3) (sCons (sVar 4) sNil))) sNil))))) 1000)
 (sRet (sBin ixD (sVar 2) (sC (.int 0))))))
def f__law_topology : Fn := defR 5 [true, false] b__law_topology
theorem ok__law_topology (F : Fun K "_law_topology" "_law_topology" s__law_topology f fd) (hx : mg "_law_topology" = some (.ref f)) (hb : Binds K fd ["_law_row", "_law_numbers"] []) (c__law_taken : Kn P w K mg base cn 1 "_law_taken" [true, false] f__law_taken) (z_list : mg "list" = none) (z_len : mg "len" = none) : Kn P w K mg base cn (1 + 1) "_law_topology" [true, false] f__law_topology :=
  Kn.mk' (N := ["_law_row", "_law_numbers", "_law_some", "_law_one", "_law_other"]) (s := b__law_topology) F sc__law_topology rfl hx hb fun cdv A outer s0 H E C =>
 (ds_cons (kAsg C 2 ((wList C z_list (wC ((v 1)).pe wNil))).pf)
 (ds_cons (kWhile C 1000 (wCmp cGt (wLen C z_len (wC ((v 2)).pe wNil)) de_int) (ds_cons (kAsg C 3 (DE.f (mPopAt C 2 (wC ((wCallO C c__law_taken (wC ((v 0)).pe (wC ((wLen C z_len (wC ((v 2)).pe wNil))).pe wNil)) (by first | omega | exact Nat.le_refl _ | exact Nat.le_trans (by decide) (Nat.le_add_right _ _)))).pe wNil))))
 (ds_cons (kAsg C 4 (DE.f (mPopAt C 2 (wC ((wCallO C c__law_taken (wC ((v 0)).pe (wC ((wLen C z_len (wC ((v 2)).pe wNil))).pe wNil)) (by first | omega | exact Nat.le_refl _ | exact Nat.le_trans (by decide) (Nat.le_add_right _ _)))).pe wNil))))
 (ds_one (kExp ((mApp C 2 (wC ((wTup (wC ((v 3)).pe (wC ((v 4)).pe wNil)))).pe wNil))).pe)))))
 (ds_one (ds_ret ((wIx C ((v 2)).pe (de_int).pe)).pe))))
abbrev s_is_list : Stmt := topS 7
theorem sc_is_list : FnScope ["value", "least", "most"] ["value", "least", "most"] (defScope s_is_list) := ⟨rfl, rfl, rfl, by decide +kernel, rfl, by decide +kernel, by decide +kernel⟩
def b_is_list : Rho → Rs Fl :=
 (sRet (sAnd (sUn (isiD [.tuple]) (sVar 0)) (sChain leD leD (sVar 1) (sFun lenD (sCons (sVar 0) sNil)) (sVar 2))))
def f_is_list : Fn := defR 3 [false, false, false] b_is_list
theorem ok_is_list (F : Fun K "is_list" "is_list" s_is_list f fd) (hx : mg "is_list" = some (.ref f)) (hb : Binds K fd ["value", "least", "most"] []) (z_isinstance : mg "isinstance" = none) (z_tuple : mg "tuple" = none) (z_len : mg "len" = none) : Kn P w K mg base cn (0 + 1) "is_list" (List.replicate 3 false) f_is_list :=
  Kn.mk' (N := ["value", "least", "most"]) (s := b_is_list) F sc_is_list rfl hx hb fun cdv A outer s0 H E C =>
 (ds_one (ds_ret ((dw_and (wIsi C .tuple z_isinstance z_tuple ((v 0)).pe) (dw_and1 (wCh cLe cLe (v 1) (wLen C z_len (wC ((v 0)).pe wNil)) (v 2)))).de).pe))
abbrev s_is_integer : Stmt := topS 5
theorem sc_is_integer : FnScope ["value"] ["value"] (defScope s_is_integer) := ⟨rfl, rfl, rfl, by decide +kernel, rfl, by decide +kernel, by decide +kernel⟩
def b_is_integer : Rho → Rs Fl :=
 (sRet (sAnd (sUn (isiD [.int]) (sVar 0)) (sNot (sUn (isiD [.bool]) (sVar 0)))))
def f_is_integer : Fn := defR 1 [false] b_is_integer
theorem ok_is_integer (F : Fun K "is_integer" "is_integer" s_is_integer f fd) (hx : mg "is_integer" = some (.ref f)) (hb : Binds K fd ["value"] []) (z_isinstance : mg "isinstance" = none) (z_int : mg "int" = none) (z_bool : mg "bool" = none) : Kn P w K mg base cn (0 + 1) "is_integer" (List.replicate 1 false) f_is_integer :=
  Kn.mk' (N := ["value"]) (s := b_is_integer) F sc_is_integer rfl hx hb fun cdv A outer s0 H E C =>
 (ds_one (ds_ret ((dw_and (wIsi C .int z_isinstance z_int ((v 0)).pe) (dw_and1 (de_not (wIsi C .bool z_isinstance z_bool ((v 0)).pe)))).de).pe))
abbrev s_is_in : Stmt := topS 6
theorem sc_is_in : FnScope ["value", "least", "most"] ["value", "least", "most"] (defScope s_is_in) := ⟨rfl, rfl, rfl, by decide +kernel, rfl, by decide +kernel, by decide +kernel⟩
def b_is_in : Rho → Rs Fl :=
 (sRet (sAnd (sCall f_is_integer (sCons (sVar 0) sNil)) (sChain leD leD (sVar 1) (sVar 0) (sVar 2))))
def f_is_in : Fn := defR 3 [false, false, false] b_is_in
theorem ok_is_in (F : Fun K "is_in" "is_in" s_is_in f fd) (hx : mg "is_in" = some (.ref f)) (hb : Binds K fd ["value", "least", "most"] []) (c_is_integer : Kn P w K mg base cn 1 "is_integer" (List.replicate 1 false) f_is_integer) : Kn P w K mg base cn (1 + 1) "is_in" (List.replicate 3 false) f_is_in :=
  Kn.mk' (N := ["value", "least", "most"]) (s := b_is_in) F sc_is_in rfl hx hb fun cdv A outer s0 H E C =>
 (ds_one (ds_ret ((dw_and (wCall (n := 1) C c_is_integer (wC ((v 0)).pe wNil) (by first | omega | exact Nat.le_refl _ | exact Nat.le_trans (by decide) (Nat.le_add_right _ _))) (dw_and1 (wCh cLe cLe (v 1) (v 0) (v 2)))).de).pe))
abbrev s_is_point : Stmt := topS 10
theorem sc_is_point : FnScope ["value", "part"] ["value"] (defScope s_is_point) := ⟨rfl, rfl, rfl, by decide +kernel, rfl, by decide +kernel, by decide +kernel⟩
def b_is_point : Rho → Rs Fl :=
 (sRet (sAnd (sCall f_is_list (sCons (sVar 0) (sCons (sC (.int 2)) (sCons (sC (.int 2)) sNil)))) (sFun allD (sCons (unF (sLc (sIt (sVar 0)) (gN 1) sYes (sCall f_is_in (sCons (sVar 1) (sCons (sC (.int 0)) (sCons (sC k_MOST_PLACE) sNil)))) [1])) sNil))))
def f_is_point : Fn := defR 2 [false] b_is_point
theorem ok_is_point (F : Fun K "is_point" "is_point" s_is_point f fd) (hx : mg "is_point" = some (.ref f)) (hb : Binds K fd ["value"] []) (c_is_list : Kn P w K mg base cn 1 "is_list" (List.replicate 3 false) f_is_list) (c_is_in : Kn P w K mg base cn 2 "is_in" (List.replicate 3 false) f_is_in) (z_all : mg "all" = none) (q_MOST_PLACE : Kc mg "MOST_PLACE" k_MOST_PLACE) : Kn P w K mg base cn (2 + 1) "is_point" (List.replicate 1 false) f_is_point :=
  Kn.mk' (N := ["value", "part"]) (s := b_is_point) F sc_is_point rfl hx hb fun cdv A outer s0 H E C =>
 (ds_one (ds_ret ((dw_and (wCall (n := 3) C c_is_list (wC ((v 0)).pe (wC (de_int).pe (wC (de_int).pe wNil))) (by first | omega | exact Nat.le_refl _ | exact Nat.le_trans (by decide) (Nat.le_add_right _ _))) (dw_and1 (wAll C z_all (wC ((wLc C [("part", 1)] (iv C ((v 0)).pe) (LcOk.by fun s H C0 cl fp => ⟨(gv C.blk 1), dts_nil, ((wCall (n := 3) C.blk c_is_in (wC ((v 1)).pe (wC (de_int).pe (wC ((wGlob q_MOST_PLACE)).pe wNil))) (by first | omega | exact Nat.le_refl _ | exact Nat.le_trans (by decide) (Nat.le_add_right _ _)))).pe⟩))).de.pe wNil)))).de).pe))
abbrev s_need_ends : Stmt := topS 14
theorem sc_need_ends : FnScope ["ends", "index", "end"] ["ends"] (defScope s_need_ends) := ⟨rfl, rfl, rfl, by decide +kernel, rfl, by decide +kernel, by decide +kernel⟩
def b_need_ends : Rho → Rs Fl :=
 (sSeq (sIfS (sNot (sCall f_is_list (sCons (sVar 0) (sCons (sC (.int 1)) (sCons (sC k_MOST_ENDS) sNil))))) sBad sNx)
 (sFor (one1 enumD (sCons (sVar 0) sNil)) (gTp 2 (gsC (gN 1) (gsC (gN 2) gsN)))
 (sIfS (sNot (sCall f_is_point (sCons (sVar 2) sNil))) sBad sNx)))
def f_need_ends : Fn := defR 3 [false] b_need_ends
theorem ok_need_ends (F : Fun K "need_ends" "need_ends" s_need_ends f fd) (hx : mg "need_ends" = some (.ref f)) (hb : Binds K fd ["ends"] []) (c_is_list : Kn P w K mg base cn 1 "is_list" (List.replicate 3 false) f_is_list) (c_is_point : Kn P w K mg base cn 3 "is_point" (List.replicate 1 false) f_is_point) (z_enumerate : mg "enumerate" = none) (q_MOST_ENDS : Kc mg "MOST_ENDS" k_MOST_ENDS) : Kn P w K mg base cn (3 + 1) "need_ends" (List.replicate 1 false) f_need_ends :=
  Kn.mk' (N := ["ends", "index", "end"]) (s := b_need_ends) F sc_need_ends rfl hx hb fun cdv A outer s0 H E C =>
 (ds_cons (ds_if (de_not (wCall (n := 3) C c_is_list (wC ((v 0)).pe (wC (de_int).pe (wC ((wGlob q_MOST_ENDS)).pe wNil))) (by first | omega | exact Nat.le_refl _ | exact Nat.le_trans (by decide) (Nat.le_add_right _ _)))) (ds_one ds_never) ds_nil)
 (ds_one (kFor C (ie C z_enumerate (wC ((v 0)).pe wNil)) (gt C (gc (gv C 1) (gc (gv C 2) gn)))
 (ds_one (ds_if (de_not (wCall (n := 1) C c_is_point (wC ((v 2)).pe wNil) (by first | omega | exact Nat.le_refl _ | exact Nat.le_trans (by decide) (Nat.le_add_right _ _)))) (ds_one ds_never) ds_nil)))))
abbrev s_leaves_of : Stmt := topS 15
theorem sc_leaves_of : FnScope ["topology", "many"] ["topology", "many"] (defScope s_leaves_of) := ⟨rfl, rfl, rfl, by decide +kernel, rfl, by decide +kernel, by decide +kernel⟩
def b_leaves_of (me : Fn) : Rho → Rs Fl :=
 (sSeq (sIfS (sCall f_is_in (sCons (sVar 0) (sCons (sC (.int 0)) (sCons (sBin (binD .Sub) (sVar 1) (sC (.int 1))) sNil)))) (sRet (unF (sLst (sCons (sVar 0) sNil)))) sNx)
 (sSeq (sIfS (sNot (sCall f_is_list (sCons (sVar 0) (sCons (sC (.int 2)) (sCons (sC (.int 2)) sNil))))) sBad sNx)
 (sRet (unF (sLst (sStar (sCall me (sCons (sBin ixD (sVar 0) (sC (.int 0))) (sCons (sVar 1) sNil))) (sStar (sCall me (sCons (sBin ixD (sVar 0) (sC (.int 1))) (sCons (sVar 1) sNil))) sNil)))))))
def f_leaves_of : Nat → Fn
  | 0 => fun _ => .bad
  | n + 1 => defR 2 [false, false] (b_leaves_of (f_leaves_of n))
theorem ok_leaves_of (F : Fun K "leaves_of" "leaves_of" s_leaves_of f fd) (hx : mg "leaves_of" = some (.ref f)) (hb : Binds K fd ["topology", "many"] []) (c_is_in : Kn P w K mg base cn 2 "is_in" (List.replicate 3 false) f_is_in) (c_is_list : Kn P w K mg base cn 1 "is_list" (List.replicate 3 false) f_is_list) : ∀ n, Kn P w K mg base cn (2 + n) "leaves_of" (List.replicate 2 false) (f_leaves_of n)
  | 0 => (Kn.none F hx hb).up (by omega)
  | n + 1 => by
    have c_leaves_of := ok_leaves_of F hx hb c_is_in c_is_list n
    exact Kn.mk' (N := ["topology", "many"]) (s := b_leaves_of (f_leaves_of n)) F sc_leaves_of rfl hx hb fun cdv A outer s0 H E C =>
 (ds_cons (ds_if (wCall (n := 3) C c_is_in (wC ((v 0)).pe (wC (de_int).pe (wC ((wB C ((v 1)).pe (de_int).pe)).pe wNil))) (by first | omega | exact Nat.le_refl _ | exact Nat.le_trans (by decide) (Nat.le_add_right _ _))) (ds_one (ds_ret ((wLst (wC ((v 0)).pe wNil))).de.pe)) ds_nil)
 (ds_cons (ds_if (de_not (wCall (n := 3) C c_is_list (wC ((v 0)).pe (wC (de_int).pe (wC (de_int).pe wNil))) (by first | omega | exact Nat.le_refl _ | exact Nat.le_trans (by decide) (Nat.le_add_right _ _)))) (ds_one ds_never) ds_nil)
 (ds_one (ds_ret ((wLstS (da_star C.K ((wCall (n := 2) C c_leaves_of (wC ((wIx C ((v 0)).pe (de_int).pe)).pe (wC ((v 1)).pe wNil)) (by first | omega | exact Nat.le_refl _ | exact Nat.le_trans (by decide) (Nat.le_add_right _ _)))).pe (da_star C.K ((wCall (n := 2) C c_leaves_of (wC ((wIx C ((v 0)).pe (de_int).pe)).pe (wC ((v 1)).pe wNil)) (by first | omega | exact Nat.le_refl _ | exact Nat.le_trans (by decide) (Nat.le_add_right _ _)))).pe da_nil)))).de.pe))))
abbrev s_need_clock : Stmt := topS 16
theorem sc_need_clock : FnScope ["ends", "topology"] ["ends", "topology"] (defScope s_need_clock) := ⟨rfl, rfl, rfl, by decide +kernel, rfl, by decide +kernel, by decide +kernel⟩
def b_need_clock : Rho → Rs Fl :=
 (sSeq (sExp (sCall f_need_ends (sCons (sVar 0) sNil)))
 (sIfS (sBin neD (unF (sFunF sortedD (sCons (sCall (f_leaves_of 8) (sCons (sVar 1) (sCons (sFun lenD (sCons (sVar 0) sNil)) sNil))) sNil))) (unF (sLrg (.one (sFun lenD (sCons (sVar 0) sNil)))))) sBad sNx))
def f_need_clock : Fn := defR 2 [false, false] b_need_clock
theorem ok_need_clock (F : Fun K "need_clock" "need_clock" s_need_clock f fd) (hx : mg "need_clock" = some (.ref f)) (hb : Binds K fd ["ends", "topology"] []) (c_need_ends : Kn P w K mg base cn 4 "need_ends" (List.replicate 1 false) f_need_ends) (c_leaves_of : Kn P w K mg base cn 10 "leaves_of" (List.replicate 2 false) (f_leaves_of 8)) (z_len : mg "len" = none) (z_sorted : mg "sorted" = none) (z_range : mg "range" = none) (z_list : mg "list" = none) : Kn P w K mg base cn (10 + 1) "need_clock" (List.replicate 2 false) f_need_clock :=
  Kn.mk' (N := ["ends", "topology"]) (s := b_need_clock) F sc_need_clock rfl hx hb fun cdv A outer s0 H E C =>
 (ds_cons (kExp ((wCall (n := 1) C c_need_ends (wC ((v 0)).pe wNil) (by first | omega | exact Nat.le_refl _ | exact Nat.le_trans (by decide) (Nat.le_add_right _ _)))).pe)
 (ds_one (ds_if (wCmp (cNe C) ((wSorted C z_sorted (wC ((wCall (n := 2) C c_leaves_of (wC ((v 1)).pe (wC ((wLen C z_len (wC ((v 0)).pe wNil))).pe wNil)) (by first | omega | exact Nat.le_refl _ | exact Nat.le_trans (by decide) (Nat.le_add_right _ _)))).pe wNil))).de ((wLrg C z_list (rg1 z_range ((wLen C z_len (wC ((v 0)).pe wNil))).pe))).de) (ds_one ds_never) ds_nil)))
abbrev s_reach : Stmt := topS 17
theorem sc_reach : FnScope ["one", "other"] ["one", "other"] (defScope s_reach) := ⟨rfl, rfl, rfl, by decide +kernel, rfl, by decide +kernel, by decide +kernel⟩
def b_reach : Rho → Rs Fl :=
 (sRet (sFun maxND (sCons (sC (.int 0)) (sCons (sBin (binD .Sub) (sBin ixD (sVar 0) (sC (.int 0))) (sBin ixD (sVar 1) (sC (.int 1)))) (sCons (sBin (binD .Sub) (sBin ixD (sVar 1) (sC (.int 0))) (sBin ixD (sVar 0) (sC (.int 1)))) (sCons (sBin (binD .Sub) (sBin ixD (sVar 0) (sC (.int 2))) (sBin ixD (sVar 1) (sC (.int 3)))) (sCons (sBin (binD .Sub) (sBin ixD (sVar 1) (sC (.int 2))) (sBin ixD (sVar 0) (sC (.int 3)))) sNil)))))))
def f_reach : Fn := defR 2 [false, false] b_reach
theorem ok_reach (F : Fun K "reach" "reach" s_reach f fd) (hx : mg "reach" = some (.ref f)) (hb : Binds K fd ["one", "other"] []) (z_max : mg "max" = none) : Kn P w K mg base cn (0 + 1) "reach" (List.replicate 2 false) f_reach :=
  Kn.mk' (N := ["one", "other"]) (s := b_reach) F sc_reach rfl hx hb fun cdv A outer s0 H E C =>
 (ds_one (ds_ret ((wMaxN C z_max (wC (de_int).pe (wC ((wB C ((wIx C ((v 0)).pe (de_int).pe)).pe ((wIx C ((v 1)).pe (de_int).pe)).pe)).pe (wC ((wB C ((wIx C ((v 1)).pe (de_int).pe)).pe ((wIx C ((v 0)).pe (de_int).pe)).pe)).pe (wC ((wB C ((wIx C ((v 0)).pe (de_int).pe)).pe ((wIx C ((v 1)).pe (de_int).pe)).pe)).pe (wC ((wB C ((wIx C ((v 1)).pe (de_int).pe)).pe ((wIx C ((v 0)).pe (de_int).pe)).pe)).pe wNil))))))).pe))
abbrev s_meet : Stmt := topS 19
theorem sc_meet : FnScope ["one", "other"] ["one", "other"] (defScope s_meet) := ⟨rfl, rfl, rfl, by decide +kernel, rfl, by decide +kernel, by decide +kernel⟩
def b_meet : Rho → Rs Fl :=
 (sRet (sTup (sCons (sFun maxD (sCons (sBin ixD (sVar 0) (sC (.int 0))) (sCons (sBin ixD (sVar 1) (sC (.int 0))) sNil))) (sCons (sFun minD (sCons (sBin ixD (sVar 0) (sC (.int 1))) (sCons (sBin ixD (sVar 1) (sC (.int 1))) sNil))) (sCons (sFun maxD (sCons (sBin ixD (sVar 0) (sC (.int 2))) (sCons (sBin ixD (sVar 1) (sC (.int 2))) sNil))) (sCons (sFun minD (sCons (sBin ixD (sVar 0) (sC (.int 3))) (sCons (sBin ixD (sVar 1) (sC (.int 3))) sNil))) sNil))))))
def f_meet : Fn := defR 2 [false, false] b_meet
theorem ok_meet (F : Fun K "meet" "meet" s_meet f fd) (hx : mg "meet" = some (.ref f)) (hb : Binds K fd ["one", "other"] []) (z_min : mg "min" = none) (z_max : mg "max" = none) : Kn P w K mg base cn (0 + 1) "meet" (List.replicate 2 false) f_meet :=
  Kn.mk' (N := ["one", "other"]) (s := b_meet) F sc_meet rfl hx hb fun cdv A outer s0 H E C =>
 (ds_one (ds_ret ((wTup (wC ((wMax C z_max (wC ((wIx C ((v 0)).pe (de_int).pe)).pe (wC ((wIx C ((v 1)).pe (de_int).pe)).pe wNil)))).pe (wC ((wMin C z_min (wC ((wIx C ((v 0)).pe (de_int).pe)).pe (wC ((wIx C ((v 1)).pe (de_int).pe)).pe wNil)))).pe (wC ((wMax C z_max (wC ((wIx C ((v 0)).pe (de_int).pe)).pe (wC ((wIx C ((v 1)).pe (de_int).pe)).pe wNil)))).pe (wC ((wMin C z_min (wC ((wIx C ((v 0)).pe (de_int).pe)).pe (wC ((wIx C ((v 1)).pe (de_int).pe)).pe wNil)))).pe wNil)))))).pe))
abbrev s_widened : Stmt := topS 18
theorem sc_widened : FnScope ["box", "many"] ["box", "many"] (defScope s_widened) := ⟨rfl, rfl, rfl, by decide +kernel, rfl, by decide +kernel, by decide +kernel⟩
def b_widened : Rho → Rs Fl :=
 (sRet (sTup (sCons (sBin (binD .Sub) (sBin ixD (sVar 0) (sC (.int 0))) (sVar 1)) (sCons (sBin (binD .Add) (sBin ixD (sVar 0) (sC (.int 1))) (sVar 1)) (sCons (sBin (binD .Sub) (sBin ixD (sVar 0) (sC (.int 2))) (sVar 1)) (sCons (sBin (binD .Add) (sBin ixD (sVar 0) (sC (.int 3))) (sVar 1)) sNil))))))
def f_widened : Fn := defR 2 [false, false] b_widened
theorem ok_widened (F : Fun K "widened" "widened" s_widened f fd) (hx : mg "widened" = some (.ref f)) (hb : Binds K fd ["box", "many"] []) : Kn P w K mg base cn (0 + 1) "widened" (List.replicate 2 false) f_widened :=
  Kn.mk' (N := ["box", "many"]) (s := b_widened) F sc_widened rfl hx hb fun cdv A outer s0 H E C =>
 (ds_one (ds_ret ((wTup (wC ((wB C ((wIx C ((v 0)).pe (de_int).pe)).pe ((v 1)).pe)).pe (wC ((wB C ((wIx C ((v 0)).pe (de_int).pe)).pe ((v 1)).pe)).pe (wC ((wB C ((wIx C ((v 0)).pe (de_int).pe)).pe ((v 1)).pe)).pe (wC ((wB C ((wIx C ((v 0)).pe (de_int).pe)).pe ((v 1)).pe)).pe wNil)))))).pe))
abbrev s_merged : Stmt := topS 20
theorem sc_merged : FnScope ["ends", "topology", "gap", "longest", "delay", "box", "one", "other", "first", "second", "across", "up"] ["ends", "topology"] (defScope s_merged) := ⟨rfl, rfl, rfl, by decide +kernel, rfl, by decide +kernel, by decide +kernel⟩
def b_merged (me : Fn) : Rho → Rs Fl :=
 (sSeq (sIfS (sNot (sUn (isiD [.tuple]) (sVar 1))) (sSeq (sPar 10 11 (sCons (sBin (binD .Mult) (sBin ixD (sBin ixD (sVar 0) (sVar 1)) (sC (.int 0))) (sC k_SCALE)) (sCons (sBin (binD .Mult) (sBin ixD (sBin ixD (sVar 0) (sVar 1)) (sC (.int 1))) (sC k_SCALE)) sNil)))
 (sRet (sTup (sCons (sTup (sCons (sBin (binD .Add) (sVar 10) (sVar 11)) (sCons (sBin (binD .Add) (sVar 10) (sVar 11)) (sCons (sBin (binD .Sub) (sVar 10) (sVar 11)) (sCons (sBin (binD .Sub) (sVar 10) (sVar 11)) sNil))))) (sCons (sC (.int 0)) (sCons (sC (.int 0)) (sCons (sTup sNil) sNil))))))) sNx)
 (sSeq (sPar 6 7 (sCons (sCall me (sCons (sVar 0) (sCons (sBin ixD (sVar 1) (sC (.int 0))) sNil))) (sCons (sCall me (sCons (sVar 0) (sCons (sBin ixD (sVar 1) (sC (.int 1))) sNil))) sNil)))
 (sSeq (sAsg 2 (liF (sCall f_reach (sCons (sBin ixD (sVar 6) (sC (.int 0))) (sCons (sBin ixD (sVar 7) (sC (.int 0))) sNil)))))
 (sSeq (sAsg 3 (liF (sFun maxD (sCons (sBin ixD (sVar 6) (sC (.int 1))) (sCons (sBin ixD (sVar 7) (sC (.int 1))) sNil)))))
 (sSeq (sAsg 4 (liF (sFun maxD (sCons (sVar 3) (sCons (sBin (binD .FloorDiv) (sBin (binD .Add) (sBin (binD .Add) (sVar 2) (sBin ixD (sVar 6) (sC (.int 1)))) (sBin ixD (sVar 7) (sC (.int 1)))) (sC (.int 2))) sNil)))))
 (sSeq (sPar 8 9 (sCons (sBin (binD .Sub) (sVar 4) (sBin ixD (sVar 6) (sC (.int 1)))) (sCons (sBin (binD .Sub) (sVar 4) (sBin ixD (sVar 7) (sC (.int 1)))) sNil)))
 (sSeq (sAsg 5 (liF (sCall f_meet (sCons (sCall f_widened (sCons (sBin ixD (sVar 6) (sC (.int 0))) (sCons (sVar 8) sNil))) (sCons (sCall f_widened (sCons (sBin ixD (sVar 7) (sC (.int 0))) (sCons (sVar 9) sNil))) sNil)))))
 (sRet (sTup (sCons (sVar 5) (sCons (sVar 4) (sCons (sBin (binD .Add) (sBin (binD .Add) (sBin (binD .Add) (sBin ixD (sVar 6) (sC (.int 2))) (sBin ixD (sVar 7) (sC (.int 2)))) (sVar 8)) (sVar 9)) (sCons (sTup (sCons (sTup (sCons (sVar 8) (sCons (sVar 6) sNil))) (sCons (sTup (sCons (sVar 9) (sCons (sVar 7) sNil))) sNil))) sNil)))))))))))))
def f_merged : Nat → Fn
  | 0 => fun _ => .bad
  | n + 1 => defR 12 [false, false] (b_merged (f_merged n))
theorem ok_merged (F : Fun K "merged" "merged" s_merged f fd) (hx : mg "merged" = some (.ref f)) (hb : Binds K fd ["ends", "topology"] []) (c_reach : Kn P w K mg base cn 1 "reach" (List.replicate 2 false) f_reach) (c_meet : Kn P w K mg base cn 1 "meet" (List.replicate 2 false) f_meet) (c_widened : Kn P w K mg base cn 1 "widened" (List.replicate 2 false) f_widened) (z_isinstance : mg "isinstance" = none) (z_tuple : mg "tuple" = none) (z_max : mg "max" = none) (q_SCALE : Kc mg "SCALE" k_SCALE) : ∀ n, Kn P w K mg base cn (1 + n) "merged" (List.replicate 2 false) (f_merged n)
  | 0 => (Kn.none F hx hb).up (by omega)
  | n + 1 => by
    have c_merged := ok_merged F hx hb c_reach c_meet c_widened z_isinstance z_tuple z_max q_SCALE n
    exact Kn.mk' (N := ["ends", "topology", "gap", "longest", "delay", "box", "one", "other", "first", "second", "across", "up"]) (s := b_merged (f_merged n)) F sc_merged rfl hx hb fun cdv A outer s0 H E C =>
 (ds_cons (ds_if (de_not (wIsi C .tuple z_isinstance z_tuple ((v 1)).pe)) (ds_cons (kPar C 10 11 (wC ((wB C ((wIx C ((wIx C ((v 0)).pe ((v 1)).pe)).pe (de_int).pe)).pe ((wGlob q_SCALE)).pe)).pe (wC ((wB C ((wIx C ((wIx C ((v 0)).pe ((v 1)).pe)).pe (de_int).pe)).pe ((wGlob q_SCALE)).pe)).pe wNil)))
 (ds_one (ds_ret ((wTup (wC ((wTup (wC ((wB C ((v 10)).pe ((v 11)).pe)).pe (wC ((wB C ((v 10)).pe ((v 11)).pe)).pe (wC ((wB C ((v 10)).pe ((v 11)).pe)).pe (wC ((wB C ((v 10)).pe ((v 11)).pe)).pe wNil)))))).pe (wC (de_int).pe (wC (de_int).pe (wC ((wTup wNil)).pe wNil)))))).pe))) ds_nil)
 (ds_cons (kPar C 6 7 (wC ((wCall (n := 2) C c_merged (wC ((v 0)).pe (wC ((wIx C ((v 1)).pe (de_int).pe)).pe wNil)) (by first | omega | exact Nat.le_refl _ | exact Nat.le_trans (by decide) (Nat.le_add_right _ _)))).pe (wC ((wCall (n := 2) C c_merged (wC ((v 0)).pe (wC ((wIx C ((v 1)).pe (de_int).pe)).pe wNil)) (by first | omega | exact Nat.le_refl _ | exact Nat.le_trans (by decide) (Nat.le_add_right _ _)))).pe wNil)))
 (ds_cons (kAsg C 2 (DE.f (wCall (n := 2) C c_reach (wC ((wIx C ((v 6)).pe (de_int).pe)).pe (wC ((wIx C ((v 7)).pe (de_int).pe)).pe wNil)) (by first | omega | exact Nat.le_refl _ | exact Nat.le_trans (by decide) (Nat.le_add_right _ _)))))
 (ds_cons (kAsg C 3 (DE.f (wMax C z_max (wC ((wIx C ((v 6)).pe (de_int).pe)).pe (wC ((wIx C ((v 7)).pe (de_int).pe)).pe wNil)))))
 (ds_cons (kAsg C 4 (DE.f (wMax C z_max (wC ((v 3)).pe (wC ((wB C ((wB C ((wB C ((v 2)).pe ((wIx C ((v 6)).pe (de_int).pe)).pe)).pe ((wIx C ((v 7)).pe (de_int).pe)).pe)).pe (de_int).pe)).pe wNil)))))
 (ds_cons (kPar C 8 9 (wC ((wB C ((v 4)).pe ((wIx C ((v 6)).pe (de_int).pe)).pe)).pe (wC ((wB C ((v 4)).pe ((wIx C ((v 7)).pe (de_int).pe)).pe)).pe wNil)))
 (ds_cons (kAsg C 5 (DE.f (wCall (n := 2) C c_meet (wC ((wCall (n := 2) C c_widened (wC ((wIx C ((v 6)).pe (de_int).pe)).pe (wC ((v 8)).pe wNil)) (by first | omega | exact Nat.le_refl _ | exact Nat.le_trans (by decide) (Nat.le_add_right _ _)))).pe (wC ((wCall (n := 2) C c_widened (wC ((wIx C ((v 7)).pe (de_int).pe)).pe (wC ((v 9)).pe wNil)) (by first | omega | exact Nat.le_refl _ | exact Nat.le_trans (by decide) (Nat.le_add_right _ _)))).pe wNil)) (by first | omega | exact Nat.le_refl _ | exact Nat.le_trans (by decide) (Nat.le_add_right _ _)))))
 (ds_one (ds_ret ((wTup (wC ((v 5)).pe (wC ((v 4)).pe (wC ((wB C ((wB C ((wB C ((wIx C ((v 6)).pe (de_int).pe)).pe ((wIx C ((v 7)).pe (de_int).pe)).pe)).pe ((v 8)).pe)).pe ((v 9)).pe)).pe (wC ((wTup (wC ((wTup (wC ((v 8)).pe (wC ((v 6)).pe wNil)))).pe (wC ((wTup (wC ((v 9)).pe (wC ((v 7)).pe wNil)))).pe wNil)))).pe wNil)))))).pe)))))))))
abbrev s_ratio : Stmt := topS 21
theorem sc_ratio : FnScope ["number", "bottom"] ["number"] (defScope s_ratio) := ⟨rfl, rfl, rfl, by decide +kernel, rfl, by decide +kernel, by decide +kernel⟩
def b_ratio : Rho → Rs Fl :=
 (sSeq (sAsg 1 (liF (sC k_SCALE)))
 (sSeq (sWhile (sAnd (sBin gtD (sVar 1) (sC (.int 1))) (sBin eqD (sBin (binD .Mod) (sVar 0) (sC (.int 2))) (sC (.int 0)))) (sPar 0 1 (sCons (sBin (binD .FloorDiv) (sVar 0) (sC (.int 2))) (sCons (sBin (binD .FloorDiv) (sVar 1) (sC (.int 2))) sNil))) 1000)
 (sRet (sTup (sCons (sVar 0) (sCons (sVar 1) sNil))))))
def f_ratio : Fn := defR 2 [false] b_ratio
theorem ok_ratio (F : Fun K "ratio" "ratio" s_ratio f fd) (hx : mg "ratio" = some (.ref f)) (hb : Binds K fd ["number"] []) (q_SCALE : Kc mg "SCALE" k_SCALE) : Kn P w K mg base cn (0 + 1) "ratio" (List.replicate 1 false) f_ratio :=
  Kn.mk' (N := ["number", "bottom"]) (s := b_ratio) F sc_ratio rfl hx hb fun cdv A outer s0 H E C =>
 (ds_cons (kAsg C 1 (DE.f (wGlob q_SCALE)))
 (ds_cons (kWhile C 1000 (dw_and (wCmp cGt (v 1) de_int) (dw_and1 (wCmp (cEq C) (wB C ((v 0)).pe (de_int).pe) de_int))).de (ds_one (kPar C 0 1 (wC ((wB C ((v 0)).pe (de_int).pe)).pe (wC ((wB C ((v 1)).pe (de_int).pe)).pe wNil)))))
 (ds_one (ds_ret ((wTup (wC ((v 0)).pe (wC ((v 1)).pe wNil)))).pe))))
abbrev s_least_wire : Stmt := topS 22
theorem sc_least_wire : FnScope ["ends", "topology", "box", "delay", "wire", "parts"] ["ends", "topology"] (defScope s_least_wire) := ⟨rfl, rfl, rfl, by decide +kernel, rfl, by decide +kernel, by decide +kernel⟩
def b_least_wire : Rho → Rs Fl :=
 (sSeq (sExp (sCall f_need_clock (sCons (sVar 0) (sCons (sVar 1) sNil))))
 (sSeq (sAsgT (gTp 4 (gsC (gN 2) (gsC (gN 3) (gsC (gN 4) (gsC (gN 5) gsN))))) (sCall (f_merged 8) (sCons (sVar 0) (sCons (sVar 1) sNil))))
 (sRet (sTup (sCons (sCall f_ratio (sCons (sVar 4) sNil)) (sCons (sCall f_ratio (sCons (sVar 3) sNil)) sNil))))))
def f_least_wire : Fn := defR 6 [false, false] b_least_wire
theorem ok_least_wire (F : Fun K "least_wire" "least_wire" s_least_wire f fd) (hx : mg "least_wire" = some (.ref f)) (hb : Binds K fd ["ends", "topology"] []) (c_need_clock : Kn P w K mg base cn 11 "need_clock" (List.replicate 2 false) f_need_clock) (c_merged : Kn P w K mg base cn 9 "merged" (List.replicate 2 false) (f_merged 8)) (c_ratio : Kn P w K mg base cn 1 "ratio" (List.replicate 1 false) f_ratio) : Kn P w K mg base cn (11 + 1) "least_wire" (List.replicate 2 false) f_least_wire :=
  Kn.mk' (N := ["ends", "topology", "box", "delay", "wire", "parts"]) (s := b_least_wire) F sc_least_wire rfl hx hb fun cdv A outer s0 H E C =>
 (ds_cons (kExp ((wCall (n := 2) C c_need_clock (wC ((v 0)).pe (wC ((v 1)).pe wNil)) (by first | omega | exact Nat.le_refl _ | exact Nat.le_trans (by decide) (Nat.le_add_right _ _)))).pe)
 (ds_cons (kAsgT ((wCall (n := 2) C c_merged (wC ((v 0)).pe (wC ((v 1)).pe wNil)) (by first | omega | exact Nat.le_refl _ | exact Nat.le_trans (by decide) (Nat.le_add_right _ _)))).pe (gt C (gc (gv C 2) (gc (gv C 3) (gc (gv C 4) (gc (gv C 5) gn))))))
 (ds_one (ds_ret ((wTup (wC ((wCall (n := 1) C c_ratio (wC ((v 4)).pe wNil) (by first | omega | exact Nat.le_refl _ | exact Nat.le_trans (by decide) (Nat.le_add_right _ _)))).pe (wC ((wCall (n := 1) C c_ratio (wC ((v 3)).pe wNil) (by first | omega | exact Nat.le_refl _ | exact Nat.le_trans (by decide) (Nat.le_add_right _ _)))).pe wNil)))).pe))))
abbrev s__law_less : Stmt := topS 28
theorem sc__law_less : FnScope ["_law_one", "_law_other"] ["_law_one", "_law_other"] (defScope s__law_less) := ⟨rfl, rfl, rfl, by decide +kernel, rfl, by decide +kernel, by decide +kernel⟩
def b__law_less : Rho → Rs Fl :=
 (sRet (sBin ltD (sBin (binD .Mult) (sBin ixD (sVar 0) (sC (.int 0))) (sBin ixD (sVar 1) (sC (.int 1)))) (sBin (binD .Mult) (sBin ixD (sVar 1) (sC (.int 0))) (sBin ixD (sVar 0) (sC (.int 1))))))
def f__law_less : Fn := defR 2 [false, false] b__law_less
theorem ok__law_less (F : Fun K "_law_less" "_law_less" s__law_less f fd) (hx : mg "_law_less" = some (.ref f)) (hb : Binds K fd ["_law_one", "_law_other"] []) : Kn P w K mg base cn (0 + 1) "_law_less" (List.replicate 2 false) f__law_less :=
  Kn.mk' (N := ["_law_one", "_law_other"]) (s := b__law_less) F sc__law_less rfl hx hb fun cdv A outer s0 H E C =>
 (ds_one (ds_ret ((wCmp cLt (wB C ((wIx C ((v 0)).pe (de_int).pe)).pe ((wIx C ((v 1)).pe (de_int).pe)).pe) (wB C ((wIx C ((v 1)).pe (de_int).pe)).pe ((wIx C ((v 0)).pe (de_int).pe)).pe))).pe))
abbrev s__law_gcd : Stmt := topS 25
theorem sc__law_gcd : FnScope ["_law_one", "_law_other"] ["_law_one", "_law_other"] (defScope s__law_gcd) := ⟨rfl, rfl, rfl, by decide +kernel, rfl, by decide +kernel, by decide +kernel⟩
def b__law_gcd : Rho → Rs Fl :=
 (sSeq (sWhile (sBin neD (sVar 1) (sC (.int 0))) (sPar 0 1 (sCons (sVar 1) (sCons (sBin (binD .Mod) (sFun L3.intD (sCons (sVar 0) sNil)) (sVar 1)) sNil))) 1000)
 (sRet (sVar 0)))
def f__law_gcd : Fn := defR 2 [false, false] b__law_gcd
theorem ok__law_gcd (F : Fun K "_law_gcd" "_law_gcd" s__law_gcd f fd) (hx : mg "_law_gcd" = some (.ref f)) (hb : Binds K fd ["_law_one", "_law_other"] []) (z_int : mg "int" = none) : Kn P w K mg base cn (0 + 1) "_law_gcd" (List.replicate 2 false) f__law_gcd :=
  Kn.mk' (N := ["_law_one", "_law_other"]) (s := b__law_gcd) F sc__law_gcd rfl hx hb fun cdv A outer s0 H E C =>
 (ds_cons (kWhile C 1000 (wCmp (cNe C) (v 1) de_int) (ds_one (kPar C 0 1 (wC ((v 1)).pe (wC ((wB C ((wInt z_int (wC ((v 0)).pe wNil))).pe ((v 1)).pe)).pe wNil)))))
 (ds_one (ds_ret ((v 0)).pe)))
abbrev s__law_plus : Stmt := topS 29
theorem sc__law_plus : FnScope ["_law_one", "_law_other", "_law_size", "_law_top", "_law_bottom"] ["_law_one", "_law_other"] (defScope s__law_plus) := ⟨rfl, rfl, rfl, by decide +kernel, rfl, by decide +kernel, by decide +kernel⟩
def b__law_plus : Rho → Rs Fl :=
 (sSeq (sParF 3 4 (fCons (sAddF (sBin (binD .Mult) (sBin ixD (sVar 0) (sC (.int 0))) (sBin ixD (sVar 1) (sC (.int 1)))) (sBin (binD .Mult) (sBin ixD (sVar 1) (sC (.int 0))) (sBin ixD (sVar 0) (sC (.int 1))))) (fCons (liF (sBin (binD .Mult) (sBin ixD (sVar 0) (sC (.int 1))) (sBin ixD (sVar 1) (sC (.int 1))))) fNil)))
 (sSeq (sAsg 2 (liF (sCall f__law_gcd (sCons (sVar 3) (sCons (sVar 4) sNil)))))
 (sRet (sTup (sCons (sBin (binD .FloorDiv) (sVar 3) (sVar 2)) (sCons (sBin (binD .FloorDiv) (sVar 4) (sVar 2)) sNil))))))
def f__law_plus : Fn := defR 5 [false, false] b__law_plus
theorem ok__law_plus (F : Fun K "_law_plus" "_law_plus" s__law_plus f fd) (hx : mg "_law_plus" = some (.ref f)) (hb : Binds K fd ["_law_one", "_law_other"] []) (c__law_gcd : Kn P w K mg base cn 1 "_law_gcd" (List.replicate 2 false) f__law_gcd) : Kn P w K mg base cn (1 + 1) "_law_plus" (List.replicate 2 false) f__law_plus :=
  Kn.mk' (N := ["_law_one", "_law_other", "_law_size", "_law_top", "_law_bottom"]) (s := b__law_plus) F sc__law_plus rfl hx hb fun cdv A outer s0 H E C =>
 (ds_cons (kParF C 3 4 (fC (df_add C.K ((wB C ((wIx C ((v 0)).pe (de_int).pe)).pe ((wIx C ((v 1)).pe (de_int).pe)).pe)).pe ((wB C ((wIx C ((v 1)).pe (de_int).pe)).pe ((wIx C ((v 0)).pe (de_int).pe)).pe)).pe) (fC (DE.f (wB C ((wIx C ((v 0)).pe (de_int).pe)).pe ((wIx C ((v 1)).pe (de_int).pe)).pe)) fN)))
 (ds_cons (kAsg C 2 (DE.f (wCall (n := 2) C c__law_gcd (wC ((v 3)).pe (wC ((v 4)).pe wNil)) (by first | omega | exact Nat.le_refl _ | exact Nat.le_trans (by decide) (Nat.le_add_right _ _)))))
 (ds_one (ds_ret ((wTup (wC ((wB C ((v 3)).pe ((v 2)).pe)).pe (wC ((wB C ((v 4)).pe ((v 2)).pe)).pe wNil)))).pe))))
abbrev s__law_swapped : Stmt := topS 30
theorem sc__law_swapped : FnScope ["_law_topology_here"] ["_law_topology_here"] (defScope s__law_swapped) := ⟨rfl, rfl, rfl, by decide +kernel, rfl, by decide +kernel, by decide +kernel⟩
def b__law_swapped (me : Fn) : Rho → Rs Fl :=
 (sRet (sIf (sUn (isiD [.tuple]) (sVar 0)) (sTup (sCons (sCall me (sCons (sBin ixD (sVar 0) (sC (.int 1))) sNil)) (sCons (sCall me (sCons (sBin ixD (sVar 0) (sC (.int 0))) sNil)) sNil))) (sVar 0)))
def f__law_swapped : Nat → Fn
  | 0 => fun _ => .bad
  | n + 1 => defR 1 [false] (b__law_swapped (f__law_swapped n))
theorem ok__law_swapped (F : Fun K "_law_swapped" "_law_swapped" s__law_swapped f fd) (hx : mg "_law_swapped" = some (.ref f)) (hb : Binds K fd ["_law_topology_here"] []) (z_isinstance : mg "isinstance" = none) (z_tuple : mg "tuple" = none) : ∀ n, Kn P w K mg base cn (0 + n) "_law_swapped" (List.replicate 1 false) (f__law_swapped n)
  | 0 => (Kn.none F hx hb).up (by omega)
  | n + 1 => by
    have c__law_swapped := ok__law_swapped F hx hb z_isinstance z_tuple n
    exact Kn.mk' (N := ["_law_topology_here"]) (s := b__law_swapped (f__law_swapped n)) F sc__law_swapped rfl hx hb fun cdv A outer s0 H E C =>
 (ds_one (ds_ret (wIfE (wIsi C .tuple z_isinstance z_tuple ((v 0)).pe) ((wTup (wC ((wCall (n := 1) C c__law_swapped (wC ((wIx C ((v 0)).pe (de_int).pe)).pe wNil) (by first | omega | exact Nat.le_refl _ | exact Nat.le_trans (by decide) (Nat.le_add_right _ _)))).pe (wC ((wCall (n := 1) C c__law_swapped (wC ((wIx C ((v 0)).pe (de_int).pe)).pe wNil) (by first | omega | exact Nat.le_refl _ | exact Nat.le_trans (by decide) (Nat.le_add_right _ _)))).pe wNil)))).pe ((v 0)).pe)))
abbrev s__law_far : Stmt := topS 26
theorem sc__law_far : FnScope ["_law_one", "_law_other"] ["_law_one", "_law_other"] (defScope s__law_far) := ⟨rfl, rfl, rfl, by decide +kernel, rfl, by decide +kernel, by decide +kernel⟩
def b__law_far : Rho → Rs Fl :=
 (sRet (sBin (binD .Add) (sFun absD (sCons (sBin (binD .Sub) (sBin ixD (sVar 0) (sC (.int 0))) (sBin ixD (sVar 1) (sC (.int 0)))) sNil)) (sFun absD (sCons (sBin (binD .Sub) (sBin ixD (sVar 0) (sC (.int 1))) (sBin ixD (sVar 1) (sC (.int 1)))) sNil))))
def f__law_far : Fn := defR 2 [false, false] b__law_far
theorem ok__law_far (F : Fun K "_law_far" "_law_far" s__law_far f fd) (hx : mg "_law_far" = some (.ref f)) (hb : Binds K fd ["_law_one", "_law_other"] []) (z_abs : mg "abs" = none) : Kn P w K mg base cn (0 + 1) "_law_far" (List.replicate 2 false) f__law_far :=
  Kn.mk' (N := ["_law_one", "_law_other"]) (s := b__law_far) F sc__law_far rfl hx hb fun cdv A outer s0 H E C =>
 (ds_one (ds_ret ((wB C ((wAbs z_abs (wC ((wB C ((wIx C ((v 0)).pe (de_int).pe)).pe ((wIx C ((v 1)).pe (de_int).pe)).pe)).pe wNil))).pe ((wAbs z_abs (wC ((wB C ((wIx C ((v 0)).pe (de_int).pe)).pe ((wIx C ((v 1)).pe (de_int).pe)).pe)).pe wNil))).pe)).pe))
abbrev s_law : Stmt := topS 31
theorem sc_law : FnScope ["_law_script", "_law_row", "_law_many", "_law_ends", "_law_topology_here", "_law_moved", "_law_mirrored", "_law_double", "_law_far_here", "_law_one", "_law_wire", "_law_delay", "_law_down", "_law_right", "_law_at", "_law_end", "_law_other"] ["_law_script"] (defScope s_law) := ⟨rfl, rfl, rfl, by decide +kernel, rfl, by decide +kernel, by decide +kernel⟩
def b_law : Rho → Rs Fl :=
 (sSeq (sAsg 1 (sLst (sCons (sVar 0) (sCons (sC (.int 0)) (sCons (sC (.int 3881)) (sCons (sC (.int 0)) sNil))))))
 (sSeq (sAsg 2 (sAddF (sC (.int 1)) (sCallO [true, false] f__law_taken (sCons (sVar 1) (sCons (sC (.int 6)) sNil)))))
 (sSeq (sAsg 3 (liF (sFun tupleD (sCons (unF (sLc (sRng (sCons (sVar 2) sNil)) (gN 14) sYes (sTup (sCons (sCallO [true, false] f__law_taken (sCons (sVar 1) (sCons (sC (.int 9)) sNil))) (sCons (sCallO [true, false] f__law_taken (sCons (sVar 1) (sCons (sC (.int 9)) sNil))) sNil))) [14])) sNil))))
 (sSeq (sAsg 4 (liF (sCallO [true, false] f__law_topology (sCons (sVar 1) (sCons (unF (sLrg (.one (sVar 2)))) sNil)))))
 (sSeq (sAsgT (gTp 2 (gsC (gN 10) (gsC (gN 11) gsN))) (sCall f_least_wire (sCons (sVar 3) (sCons (sVar 4) sNil))))
 (sSeq (sAsgT (gTp 2 (gsC (gN 12) (gsC (gN 13) gsN))) (sTup (sCons (sCallO [true, false] f__law_taken (sCons (sVar 1) (sCons (sC (.int 9)) sNil))) (sCons (sCallO [true, false] f__law_taken (sCons (sVar 1) (sCons (sC (.int 9)) sNil))) sNil))))
 (sSeq (sAsg 5 (liF (sFun tupleD (sCons (unF (sLc (sIt (sVar 3)) (gN 15) sYes (sTup (sCons (sBin (binD .Add) (sBin ixD (sVar 15) (sC (.int 0))) (sVar 12)) (sCons (sBin (binD .Add) (sBin ixD (sVar 15) (sC (.int 1))) (sVar 13)) sNil))) [15])) sNil))))
 (sSeq (sAsg 6 (liF (sFun tupleD (sCons (unF (sLc (sIt (sVar 3)) (gN 15) sYes (sTup (sCons (sBin ixD (sVar 15) (sC (.int 1))) (sCons (sBin (binD .Sub) (sC (.int 20)) (sBin ixD (sVar 15) (sC (.int 0)))) sNil))) [15])) sNil))))
 (sSeq (sIfS (sOr (sBin neD (sCall f_least_wire (sCons (sVar 5) (sCons (sVar 4) sNil))) (sTup (sCons (sVar 10) (sCons (sVar 11) sNil)))) (sOr (sBin neD (sCall f_least_wire (sCons (sVar 6) (sCons (sVar 4) sNil))) (sTup (sCons (sVar 10) (sCons (sVar 11) sNil)))) (sBin neD (sCall f_least_wire (sCons (sVar 3) (sCons (sCall (f__law_swapped 8) (sCons (sVar 4) sNil)) sNil))) (sTup (sCons (sVar 10) (sCons (sVar 11) sNil)))))) (sRet (sC (.bool false))) sNx)
 (sSeq (sAsg 7 (liF (sFun tupleD (sCons (unF (sLc (sIt (sVar 3)) (gN 15) sYes (sTup (sCons (sBin (binD .Mult) (sC (.int 2)) (sBin ixD (sVar 15) (sC (.int 0)))) (sCons (sBin (binD .Mult) (sC (.int 2)) (sBin ixD (sVar 15) (sC (.int 1)))) sNil))) [15])) sNil))))
 (sSeq (sIfS (sBin neD (sCall f_least_wire (sCons (sVar 7) (sCons (sVar 4) sNil))) (sTup (sCons (sCall f__law_plus (sCons (sVar 10) (sCons (sVar 10) sNil))) (sCons (sCall f__law_plus (sCons (sVar 11) (sCons (sVar 11) sNil))) sNil)))) (sRet (sC (.bool false))) sNx)
 (sSeq (sAsg 8 (liF (sC (.int 0))))
 (sSeq (sFor (sIt (sVar 3)) (gN 9)
 (sAsg 8 (liF (sFun maxD (sCons (sBin (binD .Add) (unF (sLst (sCons (sVar 8) sNil))) (unF (sLc (sIt (sVar 3)) (gN 16) sYes (sCall f__law_far (sCons (sVar 9) (sCons (sVar 16) sNil))) [16]))) sNil)))))
 (sSeq (sIfS (sOr (sCall f__law_less (sCons (sTup (sCons (sBin (binD .Mult) (sBin ixD (sVar 11) (sC (.int 0))) (sC (.int 2))) (sCons (sBin ixD (sVar 11) (sC (.int 1))) sNil))) (sCons (sTup (sCons (sVar 8) (sCons (sC (.int 1)) sNil))) sNil))) (sOr (sCall f__law_less (sCons (sVar 10) (sCons (sVar 11) sNil))) (sNot (sCall f__law_less (sCons (sVar 10) (sCons (sTup (sCons (sBin (binD .Add) (sBin (binD .Mult) (sVar 2) (sFun maxD (sCons (sBin ixD (sVar 11) (sC (.int 0))) (sCons (sC (.int 1)) sNil)))) (sC (.int 1))) (sCons (sBin ixD (sVar 11) (sC (.int 1))) sNil))) sNil)))))) (sRet (sC (.bool false))) sNx)
 (sRet (sBin eqD (sCall f_least_wire (sCons (sBin mulT (sTup (sCons (sBin ixD (sVar 3) (sC (.int 0))) sNil)) (sVar 2)) (sCons (sVar 4) sNil))) (sTup (sCons (sTup (sCons (sC (.int 0)) (sCons (sC (.int 1)) sNil))) (sCons (sTup (sCons (sC (.int 0)) (sCons (sC (.int 1)) sNil))) sNil)))))))))))))))))))
def f_law : Fn := defR 17 [false] b_law
theorem ok_law (F : Fun K "law" "law" s_law f fd) (c__law_taken : Kn P w K mg base cn 1 "_law_taken" [true, false] f__law_taken) (c__law_topology : Kn P w K mg base cn 2 "_law_topology" [true, false] f__law_topology) (c_least_wire : Kn P w K mg base cn 12 "least_wire" (List.replicate 2 false) f_least_wire) (c__law_swapped : Kn P w K mg base cn 8 "_law_swapped" (List.replicate 1 false) (f__law_swapped 8)) (c__law_plus : Kn P w K mg base cn 2 "_law_plus" (List.replicate 2 false) f__law_plus) (c__law_far : Kn P w K mg base cn 1 "_law_far" (List.replicate 2 false) f__law_far) (c__law_less : Kn P w K mg base cn 1 "_law_less" (List.replicate 2 false) f__law_less) (z_range : mg "range" = none) (z_tuple : mg "tuple" = none) (z_list : mg "list" = none) (z_max : mg "max" = none) : FnOk P w K mg base (L2.CX P w) (12 + 1) f fd ["_law_script"] (spD K cn [false] f_law) :=
  fnD (N := ["_law_script", "_law_row", "_law_many", "_law_ends", "_law_topology_here", "_law_moved", "_law_mirrored", "_law_double", "_law_far_here", "_law_one", "_law_wire", "_law_delay", "_law_down", "_law_right", "_law_at", "_law_end", "_law_other"]) (s := b_law) F sc_law rfl fun cdv A outer s0 H E hr =>
  have C := Cok.of (cn := cn) sc_law.nd hr
 (ds_cons (kAsg C 1 ((wLst (wC ((v 0)).pe (wC (de_int).pe (wC (de_int).pe (wC (de_int).pe wNil)))))).pf)
 (ds_cons (kAsg C 2 (df_add C.K (de_int).pe ((wCallO C c__law_taken (wC ((v 1)).pe (wC (de_int).pe wNil)) (by first | omega | exact Nat.le_refl _ | exact Nat.le_trans (by decide) (Nat.le_add_right _ _)))).pe))
 (ds_cons (kAsg C 3 (DE.f (wTuple C z_tuple (wC ((wLc C [("_law_at", 14)] (ir1 z_range (wC ((v 2)).pe wNil)) (LcOk.by fun s H C0 cl fp => ⟨(gv C.blk 14), dts_nil, ((wTup (wC ((wCallO C.blk c__law_taken (wC ((v 1)).pe (wC (de_int).pe wNil)) (by first | omega | exact Nat.le_refl _ | exact Nat.le_trans (by decide) (Nat.le_add_right _ _)))).pe (wC ((wCallO C.blk c__law_taken (wC ((v 1)).pe (wC (de_int).pe wNil)) (by first | omega | exact Nat.le_refl _ | exact Nat.le_trans (by decide) (Nat.le_add_right _ _)))).pe wNil)))).pe⟩))).de.pe wNil))))
 (ds_cons (kAsg C 4 (DE.f (wCallO C c__law_topology (wC ((v 1)).pe (wC ((wLrg C z_list (rg1 z_range ((v 2)).pe))).de.pe wNil)) (by first | omega | exact Nat.le_refl _ | exact Nat.le_trans (by decide) (Nat.le_add_right _ _)))))
 (ds_cons (kAsgT ((wCall (n := 2) C c_least_wire (wC ((v 3)).pe (wC ((v 4)).pe wNil)) (by first | omega | exact Nat.le_refl _ | exact Nat.le_trans (by decide) (Nat.le_add_right _ _)))).pe (gt C (gc (gv C 10) (gc (gv C 11) gn))))
 (ds_cons (kAsgT ((wTup (wC ((wCallO C c__law_taken (wC ((v 1)).pe (wC (de_int).pe wNil)) (by first | omega | exact Nat.le_refl _ | exact Nat.le_trans (by decide) (Nat.le_add_right _ _)))).pe (wC ((wCallO C c__law_taken (wC ((v 1)).pe (wC (de_int).pe wNil)) (by first | omega | exact Nat.le_refl _ | exact Nat.le_trans (by decide) (Nat.le_add_right _ _)))).pe wNil)))).pe (gt C (gc (gv C 12) (gc (gv C 13) gn))))
 (ds_cons (kAsg C 5 (DE.f (wTuple C z_tuple (wC ((wLc C [("_law_end", 15)] (iv C ((v 3)).pe) (LcOk.by fun s H C0 cl fp => ⟨(gv C.blk 15), dts_nil, ((wTup (wC ((wB C.blk ((wIx C.blk ((v 15)).pe (de_int).pe)).pe ((v 12)).pe)).pe (wC ((wB C.blk ((wIx C.blk ((v 15)).pe (de_int).pe)).pe ((v 13)).pe)).pe wNil)))).pe⟩))).de.pe wNil))))
 (ds_cons (kAsg C 6 (DE.f (wTuple C z_tuple (wC ((wLc C [("_law_end", 15)] (iv C ((v 3)).pe) (LcOk.by fun s H C0 cl fp => ⟨(gv C.blk 15), dts_nil, ((wTup (wC ((wIx C.blk ((v 15)).pe (de_int).pe)).pe (wC ((wB C.blk (de_int).pe ((wIx C.blk ((v 15)).pe (de_int).pe)).pe)).pe wNil)))).pe⟩))).de.pe wNil))))
 (ds_cons (ds_if (dw_or (wCmp (cNe C) (wCall (n := 2) C c_least_wire (wC ((v 5)).pe (wC ((v 4)).pe wNil)) (by first | omega | exact Nat.le_refl _ | exact Nat.le_trans (by decide) (Nat.le_add_right _ _))) (wTup (wC ((v 10)).pe (wC ((v 11)).pe wNil)))) (dw_or (wCmp (cNe C) (wCall (n := 2) C c_least_wire (wC ((v 6)).pe (wC ((v 4)).pe wNil)) (by first | omega | exact Nat.le_refl _ | exact Nat.le_trans (by decide) (Nat.le_add_right _ _))) (wTup (wC ((v 10)).pe (wC ((v 11)).pe wNil)))) (dw_or1 (wCmp (cNe C) (wCall (n := 2) C c_least_wire (wC ((v 3)).pe (wC ((wCall (n := 1) C c__law_swapped (wC ((v 4)).pe wNil) (by first | omega | exact Nat.le_refl _ | exact Nat.le_trans (by decide) (Nat.le_add_right _ _)))).pe wNil)) (by first | omega | exact Nat.le_refl _ | exact Nat.le_trans (by decide) (Nat.le_add_right _ _))) (wTup (wC ((v 10)).pe (wC ((v 11)).pe wNil))))))).de (ds_one (ds_ret (de_bl).pe)) ds_nil)
 (ds_cons (kAsg C 7 (DE.f (wTuple C z_tuple (wC ((wLc C [("_law_end", 15)] (iv C ((v 3)).pe) (LcOk.by fun s H C0 cl fp => ⟨(gv C.blk 15), dts_nil, ((wTup (wC ((wB C.blk (de_int).pe ((wIx C.blk ((v 15)).pe (de_int).pe)).pe)).pe (wC ((wB C.blk (de_int).pe ((wIx C.blk ((v 15)).pe (de_int).pe)).pe)).pe wNil)))).pe⟩))).de.pe wNil))))
 (ds_cons (ds_if (wCmp (cNe C) (wCall (n := 2) C c_least_wire (wC ((v 7)).pe (wC ((v 4)).pe wNil)) (by first | omega | exact Nat.le_refl _ | exact Nat.le_trans (by decide) (Nat.le_add_right _ _))) (wTup (wC ((wCall (n := 2) C c__law_plus (wC ((v 10)).pe (wC ((v 10)).pe wNil)) (by first | omega | exact Nat.le_refl _ | exact Nat.le_trans (by decide) (Nat.le_add_right _ _)))).pe (wC ((wCall (n := 2) C c__law_plus (wC ((v 11)).pe (wC ((v 11)).pe wNil)) (by first | omega | exact Nat.le_refl _ | exact Nat.le_trans (by decide) (Nat.le_add_right _ _)))).pe wNil)))) (ds_one (ds_ret (de_bl).pe)) ds_nil)
 (ds_cons (kAsg C 8 (DE.f de_int))
 (ds_cons (kFor C (iv C ((v 3)).pe) (gv C 9)
 (ds_one (kAsg C 8 (DE.f (wMax C z_max (wC ((wB C ((wLst (wC ((v 8)).pe wNil))).de.pe ((wLc C [("_law_other", 16)] (iv C ((v 3)).pe) (LcOk.by fun s H C0 cl fp => ⟨(gv C.blk 16), dts_nil, ((wCall (n := 2) C.blk c__law_far (wC ((v 9)).pe (wC ((v 16)).pe wNil)) (by first | omega | exact Nat.le_refl _ | exact Nat.le_trans (by decide) (Nat.le_add_right _ _)))).pe⟩))).de.pe)).pe wNil))))))
 (ds_cons (ds_if (dw_or (wCall (n := 2) C c__law_less (wC ((wTup (wC ((wB C ((wIx C ((v 11)).pe (de_int).pe)).pe (de_int).pe)).pe (wC ((wIx C ((v 11)).pe (de_int).pe)).pe wNil)))).pe (wC ((wTup (wC ((v 8)).pe (wC (de_int).pe wNil)))).pe wNil)) (by first | omega | exact Nat.le_refl _ | exact Nat.le_trans (by decide) (Nat.le_add_right _ _))) (dw_or (wCall (n := 2) C c__law_less (wC ((v 10)).pe (wC ((v 11)).pe wNil)) (by first | omega | exact Nat.le_refl _ | exact Nat.le_trans (by decide) (Nat.le_add_right _ _))) (dw_or1 (de_not (wCall (n := 2) C c__law_less (wC ((v 10)).pe (wC ((wTup (wC ((wB C ((wB C ((v 2)).pe ((wMax C z_max (wC ((wIx C ((v 11)).pe (de_int).pe)).pe (wC (de_int).pe wNil)))).pe)).pe (de_int).pe)).pe (wC ((wIx C ((v 11)).pe (de_int).pe)).pe wNil)))).pe wNil)) (by first | omega | exact Nat.le_refl _ | exact Nat.le_trans (by decide) (Nat.le_add_right _ _))))))).de (ds_one (ds_ret (de_bl).pe)) ds_nil)
 (ds_one (ds_ret ((wCmp (cEq C) (wCall (n := 2) C c_least_wire (wC ((de_mulT C ((wTup (wC ((wIx C ((v 3)).pe (de_int).pe)).pe wNil))).pe ((v 2)).pe)).pe (wC ((v 4)).pe wNil)) (by first | omega | exact Nat.le_refl _ | exact Nat.le_trans (by decide) (Nat.le_add_right _ _))) (wTup (wC ((wTup (wC (de_int).pe (wC (de_int).pe wNil)))).pe (wC ((wTup (wC (de_int).pe (wC (de_int).pe wNil)))).pe wNil))))).pe))))))))))))))))
end
theorem all_mk {P : Program} {w : World} {K : PySem.W.Frag} {h : Heap} {mg : Str → Option Value} {fa f0 f1 f2 f3 f4 f5 f6 f7 f8 f9 f10 f11 f12 f13 f14 f15 f16 f17 f18 f19 f20 : Addr} (X : K.In h) (G : h.Ns mainGlobals mg) (hfa : mg "law" = some (.ref fa))
    {od0 an0 od1 an1 od2 an2 od3 an3 od4 an4 od5 an5 od6 an6 od7 an7 od8 an8 od9 an9 od10 an10 od11 an11 od12 an12 od13 an13 od14 an14 od15 an15 od16 an16 od17 an17 od18 an18 od19 an19 od20 an20 : Option Addr} {sl0 sl1 sl2 sl3 sl4 sl5 sl6 sl7 sl8 sl9 sl10 sl11 sl12 sl13 sl14 sl15 sl16 sl17 sl18 sl19 sl20 : Array (Option Value)} {oc0 kV0 dc0 pm0 cd0 ct0 oc1 kV1 dc1 pm1 cd1 ct1 oc2 kV2 dc2 pm2 cd2 ct2 oc3 kV3 dc3 pm3 cd3 ct3 oc4 kV4 dc4 pm4 cd4 ct4 oc5 kV5 dc5 pm5 cd5 ct5 oc6 kV6 dc6 pm6 cd6 ct6 oc7 kV7 dc7 pm7 cd7 ct7 oc8 kV8 dc8 pm8 cd8 ct8 oc9 kV9 dc9 pm9 cd9 ct9 oc10 kV10 dc10 pm10 cd10 ct10 oc11 kV11 dc11 pm11 cd11 ct11 oc12 kV12 dc12 pm12 cd12 ct12 oc13 kV13 dc13 pm13 cd13 ct13 oc14 kV14 dc14 pm14 cd14 ct14 oc15 kV15 dc15 pm15 cd15 ct15 oc16 kV16 dc16 pm16 cd16 ct16 oc17 kV17 dc17 pm17 cd17 ct17 oc18 kV18 dc18 pm18 cd18 ct18 oc19 kV19 dc19 pm19 cd19 ct19 oc20 kV20 dc20 pm20 cd20 ct20 : Value} {t_MOST_PLACE t_MOST_ENDS t_SCALE : Tok}
    (a0 : PySem.W.nsIn K mainGlobals "_law_taken" = some (some (.ref f0))) (l0 : K.lookup f0 = some ⟨oc0, od0, .func (PySem.W.fnOf "_law_taken" "_law_taken" (defArgs s__law_taken) (defBody s__law_taken) (defScope s__law_taken) .none kV0 dc0 pm0 an0 cd0 ct0), sl0⟩) (c0 : PySem.W.codeIn K cd0 "_law_taken" = true) (k0 : PySem.W.keepIn K (.ref f0) = true)
    (a1 : PySem.W.nsIn K mainGlobals "_law_topology" = some (some (.ref f1))) (l1 : K.lookup f1 = some ⟨oc1, od1, .func (PySem.W.fnOf "_law_topology" "_law_topology" (defArgs s__law_topology) (defBody s__law_topology) (defScope s__law_topology) .none kV1 dc1 pm1 an1 cd1 ct1), sl1⟩) (c1 : PySem.W.codeIn K cd1 "_law_topology" = true) (k1 : PySem.W.keepIn K (.ref f1) = true)
    (a2 : PySem.W.nsIn K mainGlobals "is_list" = some (some (.ref f2))) (l2 : K.lookup f2 = some ⟨oc2, od2, .func (PySem.W.fnOf "is_list" "is_list" (defArgs s_is_list) (defBody s_is_list) (defScope s_is_list) .none kV2 dc2 pm2 an2 cd2 ct2), sl2⟩) (c2 : PySem.W.codeIn K cd2 "is_list" = true) (k2 : PySem.W.keepIn K (.ref f2) = true)
    (a3 : PySem.W.nsIn K mainGlobals "is_integer" = some (some (.ref f3))) (l3 : K.lookup f3 = some ⟨oc3, od3, .func (PySem.W.fnOf "is_integer" "is_integer" (defArgs s_is_integer) (defBody s_is_integer) (defScope s_is_integer) .none kV3 dc3 pm3 an3 cd3 ct3), sl3⟩) (c3 : PySem.W.codeIn K cd3 "is_integer" = true) (k3 : PySem.W.keepIn K (.ref f3) = true)
    (a4 : PySem.W.nsIn K mainGlobals "is_in" = some (some (.ref f4))) (l4 : K.lookup f4 = some ⟨oc4, od4, .func (PySem.W.fnOf "is_in" "is_in" (defArgs s_is_in) (defBody s_is_in) (defScope s_is_in) .none kV4 dc4 pm4 an4 cd4 ct4), sl4⟩) (c4 : PySem.W.codeIn K cd4 "is_in" = true) (k4 : PySem.W.keepIn K (.ref f4) = true)
    (a5 : PySem.W.nsIn K mainGlobals "is_point" = some (some (.ref f5))) (l5 : K.lookup f5 = some ⟨oc5, od5, .func (PySem.W.fnOf "is_point" "is_point" (defArgs s_is_point) (defBody s_is_point) (defScope s_is_point) .none kV5 dc5 pm5 an5 cd5 ct5), sl5⟩) (c5 : PySem.W.codeIn K cd5 "is_point" = true) (k5 : PySem.W.keepIn K (.ref f5) = true)
    (a6 : PySem.W.nsIn K mainGlobals "need_ends" = some (some (.ref f6))) (l6 : K.lookup f6 = some ⟨oc6, od6, .func (PySem.W.fnOf "need_ends" "need_ends" (defArgs s_need_ends) (defBody s_need_ends) (defScope s_need_ends) .none kV6 dc6 pm6 an6 cd6 ct6), sl6⟩) (c6 : PySem.W.codeIn K cd6 "need_ends" = true) (k6 : PySem.W.keepIn K (.ref f6) = true)
    (a7 : PySem.W.nsIn K mainGlobals "leaves_of" = some (some (.ref f7))) (l7 : K.lookup f7 = some ⟨oc7, od7, .func (PySem.W.fnOf "leaves_of" "leaves_of" (defArgs s_leaves_of) (defBody s_leaves_of) (defScope s_leaves_of) .none kV7 dc7 pm7 an7 cd7 ct7), sl7⟩) (c7 : PySem.W.codeIn K cd7 "leaves_of" = true) (k7 : PySem.W.keepIn K (.ref f7) = true)
    (a8 : PySem.W.nsIn K mainGlobals "need_clock" = some (some (.ref f8))) (l8 : K.lookup f8 = some ⟨oc8, od8, .func (PySem.W.fnOf "need_clock" "need_clock" (defArgs s_need_clock) (defBody s_need_clock) (defScope s_need_clock) .none kV8 dc8 pm8 an8 cd8 ct8), sl8⟩) (c8 : PySem.W.codeIn K cd8 "need_clock" = true) (k8 : PySem.W.keepIn K (.ref f8) = true)
    (a9 : PySem.W.nsIn K mainGlobals "reach" = some (some (.ref f9))) (l9 : K.lookup f9 = some ⟨oc9, od9, .func (PySem.W.fnOf "reach" "reach" (defArgs s_reach) (defBody s_reach) (defScope s_reach) .none kV9 dc9 pm9 an9 cd9 ct9), sl9⟩) (c9 : PySem.W.codeIn K cd9 "reach" = true) (k9 : PySem.W.keepIn K (.ref f9) = true)
    (a10 : PySem.W.nsIn K mainGlobals "meet" = some (some (.ref f10))) (l10 : K.lookup f10 = some ⟨oc10, od10, .func (PySem.W.fnOf "meet" "meet" (defArgs s_meet) (defBody s_meet) (defScope s_meet) .none kV10 dc10 pm10 an10 cd10 ct10), sl10⟩) (c10 : PySem.W.codeIn K cd10 "meet" = true) (k10 : PySem.W.keepIn K (.ref f10) = true)
    (a11 : PySem.W.nsIn K mainGlobals "widened" = some (some (.ref f11))) (l11 : K.lookup f11 = some ⟨oc11, od11, .func (PySem.W.fnOf "widened" "widened" (defArgs s_widened) (defBody s_widened) (defScope s_widened) .none kV11 dc11 pm11 an11 cd11 ct11), sl11⟩) (c11 : PySem.W.codeIn K cd11 "widened" = true) (k11 : PySem.W.keepIn K (.ref f11) = true)
    (a12 : PySem.W.nsIn K mainGlobals "merged" = some (some (.ref f12))) (l12 : K.lookup f12 = some ⟨oc12, od12, .func (PySem.W.fnOf "merged" "merged" (defArgs s_merged) (defBody s_merged) (defScope s_merged) .none kV12 dc12 pm12 an12 cd12 ct12), sl12⟩) (c12 : PySem.W.codeIn K cd12 "merged" = true) (k12 : PySem.W.keepIn K (.ref f12) = true)
    (a13 : PySem.W.nsIn K mainGlobals "ratio" = some (some (.ref f13))) (l13 : K.lookup f13 = some ⟨oc13, od13, .func (PySem.W.fnOf "ratio" "ratio" (defArgs s_ratio) (defBody s_ratio) (defScope s_ratio) .none kV13 dc13 pm13 an13 cd13 ct13), sl13⟩) (c13 : PySem.W.codeIn K cd13 "ratio" = true) (k13 : PySem.W.keepIn K (.ref f13) = true)
    (a14 : PySem.W.nsIn K mainGlobals "least_wire" = some (some (.ref f14))) (l14 : K.lookup f14 = some ⟨oc14, od14, .func (PySem.W.fnOf "least_wire" "least_wire" (defArgs s_least_wire) (defBody s_least_wire) (defScope s_least_wire) .none kV14 dc14 pm14 an14 cd14 ct14), sl14⟩) (c14 : PySem.W.codeIn K cd14 "least_wire" = true) (k14 : PySem.W.keepIn K (.ref f14) = true)
    (a15 : PySem.W.nsIn K mainGlobals "_law_less" = some (some (.ref f15))) (l15 : K.lookup f15 = some ⟨oc15, od15, .func (PySem.W.fnOf "_law_less" "_law_less" (defArgs s__law_less) (defBody s__law_less) (defScope s__law_less) .none kV15 dc15 pm15 an15 cd15 ct15), sl15⟩) (c15 : PySem.W.codeIn K cd15 "_law_less" = true) (k15 : PySem.W.keepIn K (.ref f15) = true)
    (a16 : PySem.W.nsIn K mainGlobals "_law_gcd" = some (some (.ref f16))) (l16 : K.lookup f16 = some ⟨oc16, od16, .func (PySem.W.fnOf "_law_gcd" "_law_gcd" (defArgs s__law_gcd) (defBody s__law_gcd) (defScope s__law_gcd) .none kV16 dc16 pm16 an16 cd16 ct16), sl16⟩) (c16 : PySem.W.codeIn K cd16 "_law_gcd" = true) (k16 : PySem.W.keepIn K (.ref f16) = true)
    (a17 : PySem.W.nsIn K mainGlobals "_law_plus" = some (some (.ref f17))) (l17 : K.lookup f17 = some ⟨oc17, od17, .func (PySem.W.fnOf "_law_plus" "_law_plus" (defArgs s__law_plus) (defBody s__law_plus) (defScope s__law_plus) .none kV17 dc17 pm17 an17 cd17 ct17), sl17⟩) (c17 : PySem.W.codeIn K cd17 "_law_plus" = true) (k17 : PySem.W.keepIn K (.ref f17) = true)
    (a18 : PySem.W.nsIn K mainGlobals "_law_swapped" = some (some (.ref f18))) (l18 : K.lookup f18 = some ⟨oc18, od18, .func (PySem.W.fnOf "_law_swapped" "_law_swapped" (defArgs s__law_swapped) (defBody s__law_swapped) (defScope s__law_swapped) .none kV18 dc18 pm18 an18 cd18 ct18), sl18⟩) (c18 : PySem.W.codeIn K cd18 "_law_swapped" = true) (k18 : PySem.W.keepIn K (.ref f18) = true)
    (a19 : PySem.W.nsIn K mainGlobals "_law_far" = some (some (.ref f19))) (l19 : K.lookup f19 = some ⟨oc19, od19, .func (PySem.W.fnOf "_law_far" "_law_far" (defArgs s__law_far) (defBody s__law_far) (defScope s__law_far) .none kV19 dc19 pm19 an19 cd19 ct19), sl19⟩) (c19 : PySem.W.codeIn K cd19 "_law_far" = true) (k19 : PySem.W.keepIn K (.ref f19) = true)
    (a20 : PySem.W.nsIn K mainGlobals "law" = some (some (.ref f20))) (l20 : K.lookup f20 = some ⟨oc20, od20, .func (PySem.W.fnOf "law" "law" (defArgs s_law) (defBody s_law) (defScope s_law) .none kV20 dc20 pm20 an20 cd20 ct20), sl20⟩) (c20 : PySem.W.codeIn K cd20 "law" = true) (k20 : PySem.W.keepIn K (.ref f20) = true)
    (z_int : PySem.W.nsIn K mainGlobals "int" = some none)
    (z_len : PySem.W.nsIn K mainGlobals "len" = some none)
    (z_list : PySem.W.nsIn K mainGlobals "list" = some none)
    (z_isinstance : PySem.W.nsIn K mainGlobals "isinstance" = some none)
    (z_tuple : PySem.W.nsIn K mainGlobals "tuple" = some none)
    (z_bool : PySem.W.nsIn K mainGlobals "bool" = some none)
    (z_all : PySem.W.nsIn K mainGlobals "all" = some none)
    (z_enumerate : PySem.W.nsIn K mainGlobals "enumerate" = some none)
    (z_sorted : PySem.W.nsIn K mainGlobals "sorted" = some none)
    (z_range : PySem.W.nsIn K mainGlobals "range" = some none)
    (z_max : PySem.W.nsIn K mainGlobals "max" = some none)
    (z_min : PySem.W.nsIn K mainGlobals "min" = some none)
    (z_abs : PySem.W.nsIn K mainGlobals "abs" = some none)
    (q_MOST_PLACE : PySem.W.nsIn K mainGlobals "MOST_PLACE" = some (some (.int 40 t_MOST_PLACE)))
    (q_MOST_ENDS : PySem.W.nsIn K mainGlobals "MOST_ENDS" = some (some (.int 6 t_MOST_ENDS)))
    (q_SCALE : PySem.W.nsIn K mainGlobals "SCALE" = some (some (.int 64 t_SCALE))) :
    ∃ fd : FuncData, (∀ (s : Shared) (v : Value), BindsTo s fd ⟨[v], []⟩ [("_law_script", v)]) ∧ ∀ base : Heap, K.In base → base.Ns mainGlobals mg → FnOk P w K mg base (L2.CX P w) 13 fa fd ["_law_script"] (spD K (fun _ => none) [false] f_law) := by
  have e := hfa.symm.trans (PySem.W.mg_of X G a20)
  cases e
  have z_int := PySem.W.mg_none_of X G z_int
  have z_len := PySem.W.mg_none_of X G z_len
  have z_list := PySem.W.mg_none_of X G z_list
  have z_isinstance := PySem.W.mg_none_of X G z_isinstance
  have z_tuple := PySem.W.mg_none_of X G z_tuple
  have z_bool := PySem.W.mg_none_of X G z_bool
  have z_all := PySem.W.mg_none_of X G z_all
  have z_enumerate := PySem.W.mg_none_of X G z_enumerate
  have z_sorted := PySem.W.mg_none_of X G z_sorted
  have z_range := PySem.W.mg_none_of X G z_range
  have z_max := PySem.W.mg_none_of X G z_max
  have z_min := PySem.W.mg_none_of X G z_min
  have z_abs := PySem.W.mg_none_of X G z_abs
  have q_MOST_PLACE : Kc mg "MOST_PLACE" k_MOST_PLACE := ⟨.int 40, _, PySem.W.mg_of X G q_MOST_PLACE, ⟨_, rfl⟩, fun _ _ => .int _⟩
  have q_MOST_ENDS : Kc mg "MOST_ENDS" k_MOST_ENDS := ⟨.int 6, _, PySem.W.mg_of X G q_MOST_ENDS, ⟨_, rfl⟩, fun _ _ => .int _⟩
  have q_SCALE : Kc mg "SCALE" k_SCALE := ⟨.int 64, _, PySem.W.mg_of X G q_SCALE, ⟨_, rfl⟩, fun _ _ => .int _⟩
  have F0 := fun_mk (st := s__law_taken) l0 c0 k0
  have b0 : Binds K _ ["_law_row", "_law_many"] [] := F0.binds fun _ _ _ _ _ _ us hl => match us, hl with | [_, _], _ => rfl
  have g0 := PySem.W.mg_of X G a0
  have F1 := fun_mk (st := s__law_topology) l1 c1 k1
  have b1 : Binds K _ ["_law_row", "_law_numbers"] [] := F1.binds fun _ _ _ _ _ _ us hl => match us, hl with | [_, _], _ => rfl
  have g1 := PySem.W.mg_of X G a1
  have F2 := fun_mk (st := s_is_list) l2 c2 k2
  have b2 : Binds K _ ["value", "least", "most"] [] := F2.binds fun _ _ _ _ _ _ us hl => match us, hl with | [_, _, _], _ => rfl
  have g2 := PySem.W.mg_of X G a2
  have F3 := fun_mk (st := s_is_integer) l3 c3 k3
  have b3 : Binds K _ ["value"] [] := F3.binds fun _ _ _ _ _ _ us hl => match us, hl with | [_], _ => rfl
  have g3 := PySem.W.mg_of X G a3
  have F4 := fun_mk (st := s_is_in) l4 c4 k4
  have b4 : Binds K _ ["value", "least", "most"] [] := F4.binds fun _ _ _ _ _ _ us hl => match us, hl with | [_, _, _], _ => rfl
  have g4 := PySem.W.mg_of X G a4
  have F5 := fun_mk (st := s_is_point) l5 c5 k5
  have b5 : Binds K _ ["value"] [] := F5.binds fun _ _ _ _ _ _ us hl => match us, hl with | [_], _ => rfl
  have g5 := PySem.W.mg_of X G a5
  have F6 := fun_mk (st := s_need_ends) l6 c6 k6
  have b6 : Binds K _ ["ends"] [] := F6.binds fun _ _ _ _ _ _ us hl => match us, hl with | [_], _ => rfl
  have g6 := PySem.W.mg_of X G a6
  have F7 := fun_mk (st := s_leaves_of) l7 c7 k7
  have b7 : Binds K _ ["topology", "many"] [] := F7.binds fun _ _ _ _ _ _ us hl => match us, hl with | [_, _], _ => rfl
  have g7 := PySem.W.mg_of X G a7
  have F8 := fun_mk (st := s_need_clock) l8 c8 k8
  have b8 : Binds K _ ["ends", "topology"] [] := F8.binds fun _ _ _ _ _ _ us hl => match us, hl with | [_, _], _ => rfl
  have g8 := PySem.W.mg_of X G a8
  have F9 := fun_mk (st := s_reach) l9 c9 k9
  have b9 : Binds K _ ["one", "other"] [] := F9.binds fun _ _ _ _ _ _ us hl => match us, hl with | [_, _], _ => rfl
  have g9 := PySem.W.mg_of X G a9
  have F10 := fun_mk (st := s_meet) l10 c10 k10
  have b10 : Binds K _ ["one", "other"] [] := F10.binds fun _ _ _ _ _ _ us hl => match us, hl with | [_, _], _ => rfl
  have g10 := PySem.W.mg_of X G a10
  have F11 := fun_mk (st := s_widened) l11 c11 k11
  have b11 : Binds K _ ["box", "many"] [] := F11.binds fun _ _ _ _ _ _ us hl => match us, hl with | [_, _], _ => rfl
  have g11 := PySem.W.mg_of X G a11
  have F12 := fun_mk (st := s_merged) l12 c12 k12
  have b12 : Binds K _ ["ends", "topology"] [] := F12.binds fun _ _ _ _ _ _ us hl => match us, hl with | [_, _], _ => rfl
  have g12 := PySem.W.mg_of X G a12
  have F13 := fun_mk (st := s_ratio) l13 c13 k13
  have b13 : Binds K _ ["number"] [] := F13.binds fun _ _ _ _ _ _ us hl => match us, hl with | [_], _ => rfl
  have g13 := PySem.W.mg_of X G a13
  have F14 := fun_mk (st := s_least_wire) l14 c14 k14
  have b14 : Binds K _ ["ends", "topology"] [] := F14.binds fun _ _ _ _ _ _ us hl => match us, hl with | [_, _], _ => rfl
  have g14 := PySem.W.mg_of X G a14
  have F15 := fun_mk (st := s__law_less) l15 c15 k15
  have b15 : Binds K _ ["_law_one", "_law_other"] [] := F15.binds fun _ _ _ _ _ _ us hl => match us, hl with | [_, _], _ => rfl
  have g15 := PySem.W.mg_of X G a15
  have F16 := fun_mk (st := s__law_gcd) l16 c16 k16
  have b16 : Binds K _ ["_law_one", "_law_other"] [] := F16.binds fun _ _ _ _ _ _ us hl => match us, hl with | [_, _], _ => rfl
  have g16 := PySem.W.mg_of X G a16
  have F17 := fun_mk (st := s__law_plus) l17 c17 k17
  have b17 : Binds K _ ["_law_one", "_law_other"] [] := F17.binds fun _ _ _ _ _ _ us hl => match us, hl with | [_, _], _ => rfl
  have g17 := PySem.W.mg_of X G a17
  have F18 := fun_mk (st := s__law_swapped) l18 c18 k18
  have b18 : Binds K _ ["_law_topology_here"] [] := F18.binds fun _ _ _ _ _ _ us hl => match us, hl with | [_], _ => rfl
  have g18 := PySem.W.mg_of X G a18
  have F19 := fun_mk (st := s__law_far) l19 c19 k19
  have b19 : Binds K _ ["_law_one", "_law_other"] [] := F19.binds fun _ _ _ _ _ _ us hl => match us, hl with | [_, _], _ => rfl
  have g19 := PySem.W.mg_of X G a19
  have F20 := fun_mk (st := s_law) l20 c20 k20
  refine ⟨PySem.W.fnOf "law" "law" (defArgs s_law) (defBody s_law) (defScope s_law) .none kV20 dc20 pm20 an20 cd20 ct20, fun s v => .of_eq rfl, fun base _ _ => ?_⟩
  have c__law_taken := ok__law_taken (P := P) (w := w) (base := base) (cn := fun _ => none) F0 g0 b0 z_int z_len
  have c__law_topology := ok__law_topology (P := P) (w := w) (base := base) (cn := fun _ => none) F1 g1 b1 c__law_taken z_list z_len
  have c_is_list := ok_is_list (P := P) (w := w) (base := base) (cn := fun _ => none) F2 g2 b2 z_isinstance z_tuple z_len
  have c_is_integer := ok_is_integer (P := P) (w := w) (base := base) (cn := fun _ => none) F3 g3 b3 z_isinstance z_int z_bool
  have c_is_in := ok_is_in (P := P) (w := w) (base := base) (cn := fun _ => none) F4 g4 b4 c_is_integer
  have c_is_point := ok_is_point (P := P) (w := w) (base := base) (cn := fun _ => none) F5 g5 b5 c_is_list c_is_in z_all q_MOST_PLACE
  have c_need_ends := ok_need_ends (P := P) (w := w) (base := base) (cn := fun _ => none) F6 g6 b6 c_is_list c_is_point z_enumerate q_MOST_ENDS
  have c_leaves_of := ok_leaves_of (P := P) (w := w) (base := base) (cn := fun _ => none) F7 g7 b7 c_is_in c_is_list 8
  have c_need_clock := ok_need_clock (P := P) (w := w) (base := base) (cn := fun _ => none) F8 g8 b8 c_need_ends c_leaves_of z_len z_sorted z_range z_list
  have c_reach := ok_reach (P := P) (w := w) (base := base) (cn := fun _ => none) F9 g9 b9 z_max
  have c_meet := ok_meet (P := P) (w := w) (base := base) (cn := fun _ => none) F10 g10 b10 z_min z_max
  have c_widened := ok_widened (P := P) (w := w) (base := base) (cn := fun _ => none) F11 g11 b11
  have c_merged := ok_merged (P := P) (w := w) (base := base) (cn := fun _ => none) F12 g12 b12 c_reach c_meet c_widened z_isinstance z_tuple z_max q_SCALE 8
  have c_ratio := ok_ratio (P := P) (w := w) (base := base) (cn := fun _ => none) F13 g13 b13 q_SCALE
  have c_least_wire := ok_least_wire (P := P) (w := w) (base := base) (cn := fun _ => none) F14 g14 b14 c_need_clock c_merged c_ratio
  have c__law_less := ok__law_less (P := P) (w := w) (base := base) (cn := fun _ => none) F15 g15 b15
  have c__law_gcd := ok__law_gcd (P := P) (w := w) (base := base) (cn := fun _ => none) F16 g16 b16 z_int
  have c__law_plus := ok__law_plus (P := P) (w := w) (base := base) (cn := fun _ => none) F17 g17 b17 c__law_gcd
  have c__law_swapped := ok__law_swapped (P := P) (w := w) (base := base) (cn := fun _ => none) F18 g18 b18 z_isinstance z_tuple 8
  have c__law_far := ok__law_far (P := P) (w := w) (base := base) (cn := fun _ => none) F19 g19 b19 z_abs
  exact ok_law F20 c__law_taken c__law_topology c_least_wire c__law_swapped c__law_plus c__law_far c__law_less z_range z_tuple z_list z_max
end K81
namespace K81
open PySem PySem.Spec PyProof.Rows L2 L3 T
open T.Emb (emb)
def t__law_topology (row1 : DRow) (numbers2 : (List D)) : M (D × DRow) :=
 lt ((numbers2 : (List D))) fun some3 =>
 bd (whileM (ρ := (D × DRow)) (fun (s4 : DRow × (List D)) => some (decide ((1 : Int) < (s4.2.length : Int)))) (fun (s4 : DRow × (List D)) =>
 bo ((taken s4.1 (s4.2.length : Int)).o) fun u6 =>
 bo (popAtO s4.2 u6.1) fun u7 =>
 lt ((u7.2 : D)) fun one8 =>
 bo ((taken u6.2 (u7.1.length : Int)).o) fun u9 =>
 bo (popAtO u7.1 u9.1) fun u10 =>
 lt ((u10.2 : D)) fun other11 =>
 bo (appO u10.1 (emb (((one8 : D), (other11 : D)) : (D × D)) : D)) fun u12 =>
 .ok (.nx (u9.2, u12))) 1000 (row1, some3)) (lk (fun (s13 : DRow × (List D)) =>
 bo (atI s13.2 (0 : Int)) fun u14 =>
 .ok ((u14 : D), s13.1)) (fun r => r))
theorem r__law_topology (row1 : DRow) (numbers2 : (List D)) : RFW (t__law_topology row1 numbers2) (f__law_topology [emb row1, emb numbers2]) :=
 rfw [.ex (.own true (emb row1)), .ex (.val (emb numbers2)), .ex .no, .ex .no, .ex .no] (s := b__law_topology) (s_g (fun (some3 : (List D)) => [.ex (.own true (emb row1)), .ex (.val (emb numbers2)), .ex (.own false (emb some3)), .ex .no, .ex .no]) (x_asgF (f_fun (a_c e_v a_n) (o_list (l := (numbers2 : (List D)))))) fun some3 =>
 (s_while (fun (s4 : DRow × (List D)) => [.ex (.own true (emb s4.1)), .ex (.val (emb numbers2)), .ex (.own false (emb s4.2)), .jo, .jo]) (.cons .rfl (.cons .rfl (.cons .rfl (.cons (.jk rfl) (.cons (.jk rfl) .nil))))) (fun s4 q5 hq5 => (by have q := Option.some.inj (hq5); subst q; exact (e_asB (e_bin (e_fun (a_c e_o a_n) (o_len (l := (s4.2 : (List D))))) e_c o_gt)))) (fun s4 =>
 (s_bo fun u6 h_u6 =>
 (s_bo fun u7 h_u7 =>
 (s_g (fun (one8 : D) => [.ex (.own true (emb u6.2)), .ex (.val (emb numbers2)), .ex (.own false (emb u7.1)), .ex (.val (emb one8)), .jo]) (x_asg (f_li (t_mut (a_c (t_row (r_taken _ _) h_u6 (a_c e_o (a_c (e_fun (a_c e_o a_n) (o_len (l := (s4.2 : (List D))))) a_n))) a_n) (o_popAt h_u7)))) fun one8 =>
 (s_bo fun u9 h_u9 =>
 (s_bo fun u10 h_u10 =>
 (s_g (fun (other11 : D) => [.ex (.own true (emb u9.2)), .ex (.val (emb numbers2)), .ex (.own false (emb u10.1)), .ex (.val (emb one8)), .ex (.val (emb other11))]) (x_asg (f_li (t_mut (a_c (t_row (r_taken _ _) h_u9 (a_c e_o (a_c (e_fun (a_c e_o a_n) (o_len (l := (u7.1 : (List D))))) a_n))) a_n) (o_popAt h_u10)))) fun other11 =>
 (s_bo fun u12 h_u12 =>
 (s_un (s_x [.ex (.own true (emb u9.2)), .ex (.val (emb numbers2)), .ex (.own false (emb u12)), .ex (.val (emb one8)), .ex (.val (emb other11))] (x_exp (t_mut (a_c (e_tup (a_c e_v (a_c e_v a_n))) a_n) (o_append h_u12)))
 (s_end (ko (.cons .rfl (.cons .rfl (.cons .rfl (.cons (.jk rfl) (.cons (.jk rfl) .nil))))))))))))))))) fun s13 =>
 (s_bo fun u14 h_u14 =>
 (s_ret (e_bin e_o e_c (o_ix h_u14)) (by rfl) (kw rfl (by rfl))))))
def t_is_list (value1 : (Int × Int)) (least2 : Int) (most3 : Int) : M Bool :=
 .ok ((true && (decide (least2 ≤ (2 : Int)) && decide ((2 : Int) ≤ most3))) : Bool)
theorem r_is_list (value1 : (Int × Int)) (least2 : Int) (most3 : Int) : RF0 (t_is_list value1 least2 most3) (f_is_list [emb value1, emb least2, emb most3]) :=
 rf0 [.ex (.val (emb value1)), .ex (.val (emb least2)), .ex (.val (emb most3))] (s := b_is_list) (s_ret (e_and (e_un e_v (show isiD [.tuple] (emb (value1 : (Int × Int))) = some (.bool true) from rfl)) (e_chain e_v (e_fun (a_c e_v a_n) (show lenD [emb (value1 : (Int × Int))] = some (.int 2) from rfl)) o_le e_v o_le)) (by rfl) (kt rfl))
def t_is_integer (value1 : Int) : M Bool :=
 .ok ((true && (!false)) : Bool)
theorem r_is_integer (value1 : Int) : RF0 (t_is_integer value1) (f_is_integer [emb value1]) :=
 rf0 [.ex (.val (emb value1))] (s := b_is_integer) (s_ret (e_and (e_un e_v (show isiD [.int] (emb (value1 : Int)) = some (.bool true) from rfl)) (e_not (e_un e_v (show isiD [.bool] (emb (value1 : Int)) = some (.bool false) from rfl)))) (by rfl) (kt rfl))
def t_is_in (value1 : Int) (least2 : Int) (most3 : Int) : M Bool :=
 bo ((t_is_integer (value1 : Int)).o) fun u4 =>
 .ok ((u4 && (decide (least2 ≤ value1) && decide (value1 ≤ most3))) : Bool)
theorem r_is_in (value1 : Int) (least2 : Int) (most3 : Int) : RF0 (t_is_in value1 least2 most3) (f_is_in [emb value1, emb least2, emb most3]) :=
 rf0 [.ex (.val (emb value1)), .ex (.val (emb least2)), .ex (.val (emb most3))] (s := b_is_in) (s_bo fun u4 h_u4 =>
 (s_ret (e_and (t_call (r_is_integer _) h_u4 (a_c e_v a_n)) (e_chain e_v e_v o_le e_v o_le)) (by rfl) (kt rfl)))
def t_is_point (value1 : (Int × Int)) : M Bool :=
 bo ((t_is_list (value1 : (Int × Int)) (2 : Int) (2 : Int)).o) fun u2 =>
 bo (if u2 = true then ob (filO (fun (x3 : Int) => some true) (fun x3 => ob ((t_is_in (x3 : Int) (0 : Int) (40 : Int)).o) fun u4 => some (u4 : Bool)) ((Tup.mk [value1.1, value1.2]).l)) fun u5 => some (u5.all id) else some false) fun u9 =>
 .ok (u9 : Bool)
theorem r_is_point (value1 : (Int × Int)) : RF0 (t_is_point value1) (f_is_point [emb value1]) :=
 rf0 [.ex (.val (emb value1)), .ex .no] (s := b_is_point) (s_bo fun u2 h_u2 =>
 (s_bo fun u9 h_u9 =>
 (s_ret (e_andG (r := u9) (L2 := [.ex (.val (emb value1)), .ex .no]) (t_call (r_is_list _ _ _) h_u2 (a_c e_v (a_c e_c (a_c e_c a_n)))) (fun e10 => (ob_el (ct e10 h_u9) fun u5 h_u5 e11 => (by have q := Option.some.inj (e11); subst q; exact (e_fun (a_c (e_fr (f_fil (i_val e_v) (by rfl) (fun x3 => ⟨_, g_n, (by rfl), (by rfl), (fun q6 hq6 => (by have q := Option.some.inj (hq6); subst q; exact t_yes)), (fun y7 hb hy7 => (ob_el (hy7) fun u4 h_u4 e8 => (by have q := Option.some.inj (e8); subst q; exact ⟨_, (t_call (r_is_in _ _ _) h_u4 (a_c e_v (a_c e_c (a_c e_c a_n)))), (by rfl)⟩)))⟩) h_u5)) a_n) (o_all (l := (u5 : (List Bool)))))))) (fun e10 => by have := cf e10 h_u9; cases this; exact ⟨rfl, rfl⟩)) (by rfl) (kt rfl))))
def t_is_list_2 (value1 : (Tup (Int × Int))) (least2 : Int) (most3 : Int) : M Bool :=
 .ok ((true && (decide (least2 ≤ (value1.l.length : Int)) && decide ((value1.l.length : Int) ≤ most3))) : Bool)
theorem r_is_list_2 (value1 : (Tup (Int × Int))) (least2 : Int) (most3 : Int) : RF0 (t_is_list_2 value1 least2 most3) (f_is_list [emb value1, emb least2, emb most3]) :=
 rf0 [.ex (.val (emb value1)), .ex (.val (emb least2)), .ex (.val (emb most3))] (s := b_is_list) (s_ret (e_and (e_un e_v (show isiD [.tuple] (emb (value1 : (Tup (Int × Int)))) = some (.bool true) from rfl)) (e_chain e_v (e_fun (a_c e_v a_n) (o_lenT (l := (value1 : (Tup (Int × Int)))))) o_le e_v o_le)) (by rfl) (kt rfl))
def t_need_ends (ends1 : (Tup (Int × Int))) : M Unit :=
 bo ((t_is_list_2 (ends1 : (Tup (Int × Int))) (1 : Int) (6 : Int)).o) fun u2 =>
 if (!u2) = true then
 .no
 else
 bd (foldM (fun (x5 : (Int × (Int × Int))) (s4 : Unit) =>
 bo ((t_is_point (x5.2 : (Int × Int))).o) fun u6 =>
 if (!u6) = true then
 .no
 else
 .ok ()) (enI ends1.l) ()) fun (s8 : Unit) =>
 .ok ()
theorem r_need_ends (ends1 : (Tup (Int × Int))) : RF0 (t_need_ends ends1) (f_need_ends [emb ends1]) :=
 rf0 [.ex (.val (emb ends1)), .ex .no, .ex .no] (s := b_need_ends) (s_bo fun u2 h_u2 =>
 (s_ifE (e_not (t_call (r_is_list_2 _ _ _) h_u2 (a_c e_v (a_c e_c (a_c e_c a_n))))) n_bad (fun e3 => s_no) (fun e3 => (s_nx (s_un (s_for (fun (s4 : Unit) => [.ex (.val (emb ends1)), .jv, .jv]) ((i_one (a_c e_v a_n)).to en_emb) (.cons .rfl (.cons (.jw rfl) (.cons (.jw rfl) .nil))) (fun x5 s4 => ⟨_, (g_tp (g_sc g_n (g_sc g_n g_sn))),
 (s_bo fun u6 h_u6 =>
 (s_if (e_not (t_call (r_is_point _) h_u6 (a_c e_v a_n))) (fun e7 => s_no) (fun e7 => (s_end (kf (.cons .rfl (.cons (.jw rfl) (.cons (.jw rfl) .nil))))))))⟩) fun s8 =>
 (s_end ktn)))))))
def t_is_integer_2 (value1 : D) : M Bool :=
 bo (isiO [.int] value1) fun u2 =>
 bo (if u2 = true then ob (isiO [.bool] value1) fun u3 => some (!u3) else some false) fun u4 =>
 .ok (u4 : Bool)
theorem r_is_integer_2 (value1 : D) : RF0 (t_is_integer_2 value1) (f_is_integer [emb value1]) :=
 rf0 [.ex (.val (emb value1))] (s := b_is_integer) (s_bo fun u2 h_u2 =>
 (s_bo fun u4 h_u4 =>
 (s_ret (e_andG (r := u4) (L2 := [.ex (.val (emb value1))]) (e_un e_v (o_isi h_u2)) (fun e5 => (ob_el (ct e5 h_u4) fun u3 h_u3 e6 => (by have q := Option.some.inj (e6); subst q; exact (e_not (e_un e_v (o_isi h_u3)))))) (fun e5 => by have := cf e5 h_u4; cases this; exact ⟨rfl, rfl⟩)) (by rfl) (kt rfl))))
def t_is_in_2 (value1 : D) (least2 : Int) (most3 : Int) : M Bool :=
 bo ((t_is_integer_2 (value1 : D)).o) fun u4 =>
 bo (if u4 = true then ob (asI value1) fun v5 => some (decide (least2 ≤ v5) && decide (v5 ≤ most3)) else some false) fun u6 =>
 .ok (u6 : Bool)
theorem r_is_in_2 (value1 : D) (least2 : Int) (most3 : Int) : RF0 (t_is_in_2 value1 least2 most3) (f_is_in [emb value1, emb least2, emb most3]) :=
 rf0 [.ex (.val (emb value1)), .ex (.val (emb least2)), .ex (.val (emb most3))] (s := b_is_in) (s_bo fun u4 h_u4 =>
 (s_bo fun u6 h_u6 =>
 (s_ret (e_andG (r := u6) (L2 := [.ex (.val (emb value1)), .ex (.val (emb least2)), .ex (.val (emb most3))]) (t_call (r_is_integer_2 _) h_u4 (a_c e_v a_n)) (fun e7 => (ob_el (ct e7 h_u6) fun v5 h_v5 e8 => (by have q := Option.some.inj (e8); subst q; exact (e_chain e_v (to_int h_v5 e_v) o_le e_v o_le)))) (fun e7 => by have := cf e7 h_u6; cases this; exact ⟨rfl, rfl⟩)) (by rfl) (kt rfl))))
def t_is_list_3 (value1 : D) (least2 : Int) (most3 : Int) : M Bool :=
 bo (isiO [.tuple] value1) fun u4 =>
 bo (if u4 = true then ob (lenO value1) fun u5 => some (decide (least2 ≤ u5) && decide (u5 ≤ most3)) else some false) fun u6 =>
 .ok (u6 : Bool)
theorem r_is_list_3 (value1 : D) (least2 : Int) (most3 : Int) : RF0 (t_is_list_3 value1 least2 most3) (f_is_list [emb value1, emb least2, emb most3]) :=
 rf0 [.ex (.val (emb value1)), .ex (.val (emb least2)), .ex (.val (emb most3))] (s := b_is_list) (s_bo fun u4 h_u4 =>
 (s_bo fun u6 h_u6 =>
 (s_ret (e_andG (r := u6) (L2 := [.ex (.val (emb value1)), .ex (.val (emb least2)), .ex (.val (emb most3))]) (e_un e_v (o_isi h_u4)) (fun e7 => (ob_el (ct e7 h_u6) fun u5 h_u5 e8 => (by have q := Option.some.inj (e8); subst q; exact (e_chain e_v (e_fun (a_c e_v a_n) (o_lenD h_u5)) o_le e_v o_le)))) (fun e7 => by have := cf e7 h_u6; cases this; exact ⟨rfl, rfl⟩)) (by rfl) (kt rfl))))
def t_leaves_of : Nat → D → Int → M (List Int)
| 0, _, _ => .no
| n + 1, topology1, many2 =>
 bo ((t_is_in_2 (topology1 : D) (0 : Int) ((many2 - (1 : Int)) : Int)).o) fun u3 =>
 if u3 = true then
 bo (asI topology1) fun v5 =>
 .ok (([v5] : List Int) : (List Int))
 else
 bo ((t_is_list_3 (topology1 : D) (2 : Int) (2 : Int)).o) fun u6 =>
 if (!u6) = true then
 .no
 else
 bo (ixD topology1 (.int (0 : Int))) fun u8 =>
 bo ((t_leaves_of n (u8 : D) (many2 : Int)).o) fun u9 =>
 bo (ixD topology1 (.int (1 : Int))) fun u10 =>
 bo ((t_leaves_of n (u10 : D) (many2 : Int)).o) fun u11 =>
 bo (ckO (u9 ++ (u11 ++ []))) fun u12 =>
 .ok (u12 : (List Int))
theorem r_leaves_of : ∀ (n : Nat) (topology1 : D) (many2 : Int), RF0 (t_leaves_of n topology1 many2) (f_leaves_of n [emb topology1, emb many2])
| 0, _, _ => ⟨trivial⟩
| n + 1, topology1, many2 => have ih := r_leaves_of n
 rf0 [.ex (.val (emb topology1)), .ex (.val (emb many2))] (s := b_leaves_of (f_leaves_of n)) (s_bo fun u3 h_u3 =>
 (s_ifE (t_call (r_is_in_2 _ _ _) h_u3 (a_c e_v (a_c e_c (a_c (e_bin e_v e_c o_sub) a_n)))) n_ret (fun e4 => (s_bo fun v5 h_v5 =>
 (s_ret (e_fr (f_lst (a_c (to_int h_v5 e_v) a_n))) (by rfl) (kt rfl)))) (fun e4 => (s_nx (s_bo fun u6 h_u6 =>
 (s_ifE (e_not (t_call (r_is_list_3 _ _ _) h_u6 (a_c e_v (a_c e_c (a_c e_c a_n))))) n_bad (fun e7 => s_no) (fun e7 => (s_nx (s_bo fun u8 h_u8 =>
 (s_bo fun u9 h_u9 =>
 (s_bo fun u10 h_u10 =>
 (s_bo fun u11 h_u11 =>
 (s_bo fun u12 h_u12 =>
 (s_ret (e_fr (f_starL h_u12 (as_s (t_call (ih _ _) h_u9 (a_c (e_bin e_v e_c h_u8) (a_c e_v a_n))) (as_s (t_call (ih _ _) h_u11 (a_c (e_bin e_v e_c h_u10) (a_c e_v a_n))) as_n)))) (by rfl) (kt rfl)))))))))))))))
def t_need_clock (ends1 : (Tup (Int × Int))) (topology2 : D) : M Unit :=
 bd (t_need_ends (ends1 : (Tup (Int × Int)))) fun y3 =>
 bo ((t_leaves_of 8 (topology2 : D) (ends1.l.length : Int)).o) fun u4 =>
 bo (rgvO (0 : Int) (ends1.l.length : Int)) fun u5 =>
 if (!decide (((sortI u4) : (List Int)) = u5)) = true then
 .no
 else
 .ok ()
theorem r_need_clock (ends1 : (Tup (Int × Int))) (topology2 : D) : RF0 (t_need_clock ends1 topology2) (f_need_clock [emb ends1, emb topology2]) :=
 rf0 [.ex (.val (emb ends1)), .ex (.val (emb topology2))] (s := b_need_clock) (s_callE (r_need_ends _) (a_c e_v a_n) (by rfl) (fun y3 =>
 (s_bo fun u4 h_u4 =>
 (s_bo fun u5 h_u5 =>
 (s_if (e_bin (e_fr (f_fun (a_c (t_call (r_leaves_of 8 _ _) h_u4 (a_c e_v (a_c (e_fun (a_c e_v a_n) (o_lenT (l := (ends1 : (Tup (Int × Int)))))) a_n))) a_n) (o_sorted (l := (u4 : (List Int)))))) (e_fr (f_lrg (en_one (e_fun (a_c e_v a_n) (o_lenT (l := (ends1 : (Tup (Int × Int))))))) h_u5)) (o_ne (a := ((sortI u4) : (List Int))) (b := (u5 : (List Int))))) (fun e6 => s_no) (fun e6 => (s_end ktn)))))))
def t_reach (one1 : (T4 Int Int Int Int)) (other2 : (T4 Int Int Int Int)) : M Int :=
 .ok ((maxIN (0 : Int) [((one1.a - other2.b) : Int), ((other2.a - one1.b) : Int), ((one1.c - other2.d) : Int), ((other2.c - one1.d) : Int)]) : Int)
theorem r_reach (one1 : (T4 Int Int Int Int)) (other2 : (T4 Int Int Int Int)) : RF0 (t_reach one1 other2) (f_reach [emb one1, emb other2]) :=
 rf0 [.ex (.val (emb one1)), .ex (.val (emb other2))] (s := b_reach) (s_ret (e_fun (a_c e_c (a_c (e_bin (e_bin e_v e_c (o_x4_0 (p := (one1 : (T4 Int Int Int Int))))) (e_bin e_v e_c (o_x4_1 (p := (other2 : (T4 Int Int Int Int))))) o_sub) (a_c (e_bin (e_bin e_v e_c (o_x4_0 (p := (other2 : (T4 Int Int Int Int))))) (e_bin e_v e_c (o_x4_1 (p := (one1 : (T4 Int Int Int Int))))) o_sub) (a_c (e_bin (e_bin e_v e_c (o_x4_2 (p := (one1 : (T4 Int Int Int Int))))) (e_bin e_v e_c (o_x4_3 (p := (other2 : (T4 Int Int Int Int))))) o_sub) (a_c (e_bin (e_bin e_v e_c (o_x4_2 (p := (other2 : (T4 Int Int Int Int))))) (e_bin e_v e_c (o_x4_3 (p := (one1 : (T4 Int Int Int Int))))) o_sub) a_n))))) o_maxN5) (by rfl) (kt rfl))
def t_meet (one1 : (T4 Int Int Int Int)) (other2 : (T4 Int Int Int Int)) : M (T4 Int Int Int Int) :=
 .ok ((T4.mk ((maxI2 one1.a other2.a) : Int) ((minI2 one1.b other2.b) : Int) ((maxI2 one1.c other2.c) : Int) ((minI2 one1.d other2.d) : Int)) : (T4 Int Int Int Int))
theorem r_meet (one1 : (T4 Int Int Int Int)) (other2 : (T4 Int Int Int Int)) : RF0 (t_meet one1 other2) (f_meet [emb one1, emb other2]) :=
 rf0 [.ex (.val (emb one1)), .ex (.val (emb other2))] (s := b_meet) (s_ret (e_tup (a_c (e_fun (a_c (e_bin e_v e_c (o_x4_0 (p := (one1 : (T4 Int Int Int Int))))) (a_c (e_bin e_v e_c (o_x4_0 (p := (other2 : (T4 Int Int Int Int))))) a_n)) o_max2) (a_c (e_fun (a_c (e_bin e_v e_c (o_x4_1 (p := (one1 : (T4 Int Int Int Int))))) (a_c (e_bin e_v e_c (o_x4_1 (p := (other2 : (T4 Int Int Int Int))))) a_n)) o_min2) (a_c (e_fun (a_c (e_bin e_v e_c (o_x4_2 (p := (one1 : (T4 Int Int Int Int))))) (a_c (e_bin e_v e_c (o_x4_2 (p := (other2 : (T4 Int Int Int Int))))) a_n)) o_max2) (a_c (e_fun (a_c (e_bin e_v e_c (o_x4_3 (p := (one1 : (T4 Int Int Int Int))))) (a_c (e_bin e_v e_c (o_x4_3 (p := (other2 : (T4 Int Int Int Int))))) a_n)) o_min2) a_n))))) (by rfl) (kt rfl))
def t_widened (box1 : (T4 Int Int Int Int)) (many2 : Int) : M (T4 Int Int Int Int) :=
 .ok ((T4.mk ((box1.a - many2) : Int) ((box1.b + many2) : Int) ((box1.c - many2) : Int) ((box1.d + many2) : Int)) : (T4 Int Int Int Int))
theorem r_widened (box1 : (T4 Int Int Int Int)) (many2 : Int) : RF0 (t_widened box1 many2) (f_widened [emb box1, emb many2]) :=
 rf0 [.ex (.val (emb box1)), .ex (.val (emb many2))] (s := b_widened) (s_ret (e_tup (a_c (e_bin (e_bin e_v e_c (o_x4_0 (p := (box1 : (T4 Int Int Int Int))))) e_v o_sub) (a_c (e_bin (e_bin e_v e_c (o_x4_1 (p := (box1 : (T4 Int Int Int Int))))) e_v o_add) (a_c (e_bin (e_bin e_v e_c (o_x4_2 (p := (box1 : (T4 Int Int Int Int))))) e_v o_sub) (a_c (e_bin (e_bin e_v e_c (o_x4_3 (p := (box1 : (T4 Int Int Int Int))))) e_v o_add) a_n))))) (by rfl) (kt rfl))
def t_merged : Nat → (Tup (Int × Int)) → D → M (T4 (T4 Int Int Int Int) Int Int (Tup D))
| 0, _, _ => .no
| n + 1, ends1, topology2 =>
 bo (isiO [.tuple] topology2) fun u3 =>
 if (!u3) = true then
 bo (asI topology2) fun v5 =>
 bo (atI ends1.l v5) fun u6 =>
 bo (asI topology2) fun v7 =>
 bo (atI ends1.l v7) fun u8 =>
 lt (((u6.1 * (64 : Int)) : Int), ((u8.2 * (64 : Int)) : Int)) fun p9 =>
 .ok ((T4.mk ((T4.mk ((p9.1 + p9.2) : Int) ((p9.1 + p9.2) : Int) ((p9.1 - p9.2) : Int) ((p9.1 - p9.2) : Int)) : (T4 Int Int Int Int)) (0 : Int) (0 : Int) ((Tup.mk ([] : List D)) : (Tup D))) : (T4 (T4 Int Int Int Int) Int Int (Tup D)))
 else
 bo (ixD topology2 (.int (0 : Int))) fun u10 =>
 bo ((t_merged n (ends1 : (Tup (Int × Int))) (u10 : D)).o) fun u11 =>
 bo (ixD topology2 (.int (1 : Int))) fun u12 =>
 bo ((t_merged n (ends1 : (Tup (Int × Int))) (u12 : D)).o) fun u13 =>
 lt ((u11 : (T4 (T4 Int Int Int Int) Int Int (Tup D))), (u13 : (T4 (T4 Int Int Int Int) Int Int (Tup D)))) fun p14 =>
 bo ((t_reach (p14.1.a : (T4 Int Int Int Int)) (p14.2.a : (T4 Int Int Int Int))).o) fun u15 =>
 lt ((u15 : Int)) fun gap16 =>
 lt (((maxI2 p14.1.b p14.2.b) : Int)) fun longest17 =>
 lt (((maxI2 longest17 (Int.fdiv ((gap16 + p14.1.b) + p14.2.b) (2 : Int))) : Int)) fun delay18 =>
 lt (((delay18 - p14.1.b) : Int), ((delay18 - p14.2.b) : Int)) fun p19 =>
 bo ((t_widened (p14.1.a : (T4 Int Int Int Int)) (p19.1 : Int)).o) fun u20 =>
 bo ((t_widened (p14.2.a : (T4 Int Int Int Int)) (p19.2 : Int)).o) fun u21 =>
 bo ((t_meet (u20 : (T4 Int Int Int Int)) (u21 : (T4 Int Int Int Int))).o) fun u22 =>
 lt ((u22 : (T4 Int Int Int Int))) fun box23 =>
 .ok ((T4.mk (box23 : (T4 Int Int Int Int)) (delay18 : Int) ((((p14.1.c + p14.2.c) + p19.1) + p19.2) : Int) ((Tup.mk [(emb (((p19.1 : Int), (p14.1 : (T4 (T4 Int Int Int Int) Int Int (Tup D)))) : (Int × (T4 (T4 Int Int Int Int) Int Int (Tup D)))) : D), (emb (((p19.2 : Int), (p14.2 : (T4 (T4 Int Int Int Int) Int Int (Tup D)))) : (Int × (T4 (T4 Int Int Int Int) Int Int (Tup D)))) : D)]) : (Tup D))) : (T4 (T4 Int Int Int Int) Int Int (Tup D)))
theorem r_merged : ∀ (n : Nat) (ends1 : (Tup (Int × Int))) (topology2 : D), RF0 (t_merged n ends1 topology2) (f_merged n [emb ends1, emb topology2])
| 0, _, _ => ⟨trivial⟩
| n + 1, ends1, topology2 => have ih := r_merged n
 rf0 [.ex (.val (emb ends1)), .ex (.val (emb topology2)), .ex .no, .ex .no, .ex .no, .ex .no, .ex .no, .ex .no, .ex .no, .ex .no, .ex .no, .ex .no] (s := b_merged (f_merged n)) (s_bo fun u3 h_u3 =>
 (s_ifE (e_not (e_un e_v (o_isi h_u3))) (n_seq n_ret) (fun e4 => (s_bo fun v5 h_v5 =>
 (s_bo fun u6 h_u6 =>
 (s_bo fun v7 h_v7 =>
 (s_bo fun u8 h_u8 =>
 (s_g (fun (p9 : (Int × Int)) => [.ex (.val (emb ends1)), .ex (.val (emb topology2)), .ex .no, .ex .no, .ex .no, .ex .no, .ex .no, .ex .no, .ex .no, .ex .no, .ex (.val (emb p9.1)), .ex (.val (emb p9.2))]) (x_par (a_c (e_bin (e_bin (e_bin e_v (to_int h_v5 e_v) (o_ixT h_u6)) e_c (o_x2_0 (p := (u6 : (Int × Int))))) e_c (o_mulc (inW_r rfl))) (a_c (e_bin (e_bin (e_bin e_v (to_int h_v7 e_v) (o_ixT h_u8)) e_c (o_x2_1 (p := (u8 : (Int × Int))))) e_c (o_mulc (inW_r rfl))) a_n))) fun p9 =>
 (s_ret (e_tup (a_c (e_tup (a_c (e_bin e_v e_v o_add) (a_c (e_bin e_v e_v o_add) (a_c (e_bin e_v e_v o_sub) (a_c (e_bin e_v e_v o_sub) a_n))))) (a_c e_c (a_c e_c (a_c (e_tup a_n) a_n))))) (by rfl) (kt rfl)))))))) (fun e4 => (s_nx (s_bo fun u10 h_u10 =>
 (s_bo fun u11 h_u11 =>
 (s_bo fun u12 h_u12 =>
 (s_bo fun u13 h_u13 =>
 (s_g (fun (p14 : ((T4 (T4 Int Int Int Int) Int Int (Tup D)) × (T4 (T4 Int Int Int Int) Int Int (Tup D)))) => [.ex (.val (emb ends1)), .ex (.val (emb topology2)), .ex .no, .ex .no, .ex .no, .ex .no, .ex (.val (emb p14.1)), .ex (.val (emb p14.2)), .ex .no, .ex .no, .ex .no, .ex .no]) (x_par (a_c (t_call (ih _ _) h_u11 (a_c e_v (a_c (e_bin e_v e_c h_u10) a_n))) (a_c (t_call (ih _ _) h_u13 (a_c e_v (a_c (e_bin e_v e_c h_u12) a_n))) a_n))) fun p14 =>
 (s_bo fun u15 h_u15 =>
 (s_g (fun (gap16 : Int) => [.ex (.val (emb ends1)), .ex (.val (emb topology2)), .ex (.val (emb gap16)), .ex .no, .ex .no, .ex .no, .ex (.val (emb p14.1)), .ex (.val (emb p14.2)), .ex .no, .ex .no, .ex .no, .ex .no]) (x_asg (f_li (t_call (r_reach _ _) h_u15 (a_c (e_bin e_v e_c (o_x4_0 (p := (p14.1 : (T4 (T4 Int Int Int Int) Int Int (Tup D)))))) (a_c (e_bin e_v e_c (o_x4_0 (p := (p14.2 : (T4 (T4 Int Int Int Int) Int Int (Tup D)))))) a_n))))) fun gap16 =>
 (s_g (fun (longest17 : Int) => [.ex (.val (emb ends1)), .ex (.val (emb topology2)), .ex (.val (emb gap16)), .ex (.val (emb longest17)), .ex .no, .ex .no, .ex (.val (emb p14.1)), .ex (.val (emb p14.2)), .ex .no, .ex .no, .ex .no, .ex .no]) (x_asg (f_li (e_fun (a_c (e_bin e_v e_c (o_x4_1 (p := (p14.1 : (T4 (T4 Int Int Int Int) Int Int (Tup D)))))) (a_c (e_bin e_v e_c (o_x4_1 (p := (p14.2 : (T4 (T4 Int Int Int Int) Int Int (Tup D)))))) a_n)) o_max2))) fun longest17 =>
 (s_g (fun (delay18 : Int) => [.ex (.val (emb ends1)), .ex (.val (emb topology2)), .ex (.val (emb gap16)), .ex (.val (emb longest17)), .ex (.val (emb delay18)), .ex .no, .ex (.val (emb p14.1)), .ex (.val (emb p14.2)), .ex .no, .ex .no, .ex .no, .ex .no]) (x_asg (f_li (e_fun (a_c e_v (a_c (e_bin (e_bin (e_bin e_v (e_bin e_v e_c (o_x4_1 (p := (p14.1 : (T4 (T4 Int Int Int Int) Int Int (Tup D)))))) o_add) (e_bin e_v e_c (o_x4_1 (p := (p14.2 : (T4 (T4 Int Int Int Int) Int Int (Tup D)))))) o_add) e_c (o_fdivc rfl)) a_n)) o_max2))) fun delay18 =>
 (s_g (fun (p19 : (Int × Int)) => [.ex (.val (emb ends1)), .ex (.val (emb topology2)), .ex (.val (emb gap16)), .ex (.val (emb longest17)), .ex (.val (emb delay18)), .ex .no, .ex (.val (emb p14.1)), .ex (.val (emb p14.2)), .ex (.val (emb p19.1)), .ex (.val (emb p19.2)), .ex .no, .ex .no]) (x_par (a_c (e_bin e_v (e_bin e_v e_c (o_x4_1 (p := (p14.1 : (T4 (T4 Int Int Int Int) Int Int (Tup D)))))) o_sub) (a_c (e_bin e_v (e_bin e_v e_c (o_x4_1 (p := (p14.2 : (T4 (T4 Int Int Int Int) Int Int (Tup D)))))) o_sub) a_n))) fun p19 =>
 (s_bo fun u20 h_u20 =>
 (s_bo fun u21 h_u21 =>
 (s_bo fun u22 h_u22 =>
 (s_g (fun (box23 : (T4 Int Int Int Int)) => [.ex (.val (emb ends1)), .ex (.val (emb topology2)), .ex (.val (emb gap16)), .ex (.val (emb longest17)), .ex (.val (emb delay18)), .ex (.val (emb box23)), .ex (.val (emb p14.1)), .ex (.val (emb p14.2)), .ex (.val (emb p19.1)), .ex (.val (emb p19.2)), .ex .no, .ex .no]) (x_asg (f_li (t_call (r_meet _ _) h_u22 (a_c (t_call (r_widened _ _) h_u20 (a_c (e_bin e_v e_c (o_x4_0 (p := (p14.1 : (T4 (T4 Int Int Int Int) Int Int (Tup D)))))) (a_c e_v a_n))) (a_c (t_call (r_widened _ _) h_u21 (a_c (e_bin e_v e_c (o_x4_0 (p := (p14.2 : (T4 (T4 Int Int Int Int) Int Int (Tup D)))))) (a_c e_v a_n))) a_n))))) fun box23 =>
 (s_ret (e_tup (a_c e_v (a_c e_v (a_c (e_bin (e_bin (e_bin (e_bin e_v e_c (o_x4_2 (p := (p14.1 : (T4 (T4 Int Int Int Int) Int Int (Tup D)))))) (e_bin e_v e_c (o_x4_2 (p := (p14.2 : (T4 (T4 Int Int Int Int) Int Int (Tup D)))))) o_add) e_v o_add) e_v o_add) (a_c (e_tup (a_c (e_tup (a_c e_v (a_c e_v a_n))) (a_c (e_tup (a_c e_v (a_c e_v a_n))) a_n))) a_n))))) (by rfl) (kt rfl))))))))))))))))))))
def t_ratio (number1 : Int) : M (Int × Int) :=
 lt ((64 : Int)) fun bottom2 =>
 bd (whileM (ρ := (Int × Int)) (fun (s3 : Int × Int) => some ((decide ((1 : Int) < s3.2)) && (decide (((Int.fmod s3.1 (2 : Int)) : Int) = (0 : Int))))) (fun (s3 : Int × Int) =>
 lt (((Int.fdiv s3.1 (2 : Int)) : Int), ((Int.fdiv s3.2 (2 : Int)) : Int)) fun p5 =>
 .ok (.nx (p5.1, p5.2))) 1000 (number1, bottom2)) (lk (fun (s6 : Int × Int) =>
 .ok (((s6.1 : Int), (s6.2 : Int)) : (Int × Int))) (fun r => r))
theorem r_ratio (number1 : Int) : RF0 (t_ratio number1) (f_ratio [emb number1]) :=
 rf0 [.ex (.val (emb number1)), .ex .no] (s := b_ratio) (s_g (fun (bottom2 : Int) => [.ex (.val (emb number1)), .ex (.val (emb bottom2))]) (x_asg (f_li e_c)) fun bottom2 =>
 (s_while (fun (s3 : Int × Int) => [.ex (.val (emb s3.1)), .ex (.val (emb s3.2))]) (.cons .rfl (.cons .rfl .nil)) (fun s3 q4 hq4 => (by have q := Option.some.inj (hq4); subst q; exact (e_asB (e_and (e_bin e_v e_c o_gt) (e_bin (e_bin e_v e_c (o_modc rfl)) e_c (o_eq (a := ((Int.fmod s3.1 (2 : Int)) : Int)) (b := (0 : Int)))))))) (fun s3 =>
 (s_un (s_g (fun (p5 : (Int × Int)) => [.ex (.val (emb p5.1)), .ex (.val (emb p5.2))]) (x_par (a_c (e_bin e_v e_c (o_fdivc rfl)) (a_c (e_bin e_v e_c (o_fdivc rfl)) a_n))) fun p5 =>
 (s_end (ko (.cons .rfl (.cons .rfl .nil))))))) fun s6 =>
 (s_ret (e_tup (a_c e_v (a_c e_v a_n))) (by rfl) (kt rfl))))
def t_least_wire (ends1 : (Tup (Int × Int))) (topology2 : D) : M ((Int × Int) × (Int × Int)) :=
 bd (t_need_clock (ends1 : (Tup (Int × Int))) (topology2 : D)) fun y3 =>
 bo ((t_merged 8 (ends1 : (Tup (Int × Int))) (topology2 : D)).o) fun u4 =>
 lt ((u4 : (T4 (T4 Int Int Int Int) Int Int (Tup D)))) fun p5 =>
 bo ((t_ratio (p5.c : Int)).o) fun u6 =>
 bo ((t_ratio (p5.b : Int)).o) fun u7 =>
 .ok (((u6 : (Int × Int)), (u7 : (Int × Int))) : ((Int × Int) × (Int × Int)))
theorem r_least_wire (ends1 : (Tup (Int × Int))) (topology2 : D) : RF0 (t_least_wire ends1 topology2) (f_least_wire [emb ends1, emb topology2]) :=
 rf0 [.ex (.val (emb ends1)), .ex (.val (emb topology2)), .ex .no, .ex .no, .ex .no, .ex .no] (s := b_least_wire) (s_callE (r_need_clock _ _) (a_c e_v (a_c e_v a_n)) (by rfl) (fun y3 =>
 (s_bo fun u4 h_u4 =>
 (s_g (fun (p5 : (T4 (T4 Int Int Int Int) Int Int (Tup D))) => [.ex (.val (emb ends1)), .ex (.val (emb topology2)), .ex (.val (emb p5.a)), .ex (.val (emb p5.b)), .ex (.val (emb p5.c)), .ex (.val (emb p5.d))]) (x_asgT (t_call (r_merged 8 _ _) h_u4 (a_c e_v (a_c e_v a_n))) (by rfl) (g_tp (g_sc g_n (g_sc g_n (g_sc g_n (g_sc g_n g_sn)))))) fun p5 =>
 (s_bo fun u6 h_u6 =>
 (s_bo fun u7 h_u7 =>
 (s_ret (e_tup (a_c (t_call (r_ratio _) h_u6 (a_c e_v a_n)) (a_c (t_call (r_ratio _) h_u7 (a_c e_v a_n)) a_n))) (by rfl) (kt rfl))))))))
def t__law_less (one1 : (Int × Int)) (other2 : (Int × Int)) : M Bool :=
 bo (mulO one1.1 other2.2) fun u3 =>
 bo (mulO other2.1 one1.2) fun u4 =>
 .ok ((decide (u3 < u4)) : Bool)
theorem r__law_less (one1 : (Int × Int)) (other2 : (Int × Int)) : RF0 (t__law_less one1 other2) (f__law_less [emb one1, emb other2]) :=
 rf0 [.ex (.val (emb one1)), .ex (.val (emb other2))] (s := b__law_less) (s_bo fun u3 h_u3 =>
 (s_bo fun u4 h_u4 =>
 (s_ret (e_bin (e_bin (e_bin e_v e_c (o_x2_0 (p := (one1 : (Int × Int))))) (e_bin e_v e_c (o_x2_1 (p := (other2 : (Int × Int))))) (o_mul h_u3)) (e_bin (e_bin e_v e_c (o_x2_0 (p := (other2 : (Int × Int))))) (e_bin e_v e_c (o_x2_1 (p := (one1 : (Int × Int))))) (o_mul h_u4)) o_lt) (by rfl) (kt rfl))))
def t__law_gcd (one1 : Int) (other2 : Int) : M Int :=
 bd (whileM (ρ := Int) (fun (s3 : Int × Int) => some (!decide ((s3.2 : Int) = (0 : Int)))) (fun (s3 : Int × Int) =>
 bo (modO s3.1 s3.2) fun u5 =>
 lt ((s3.2 : Int), (u5 : Int)) fun p6 =>
 .ok (.nx (p6.1, p6.2))) 1000 (one1, other2)) (lk (fun (s7 : Int × Int) =>
 .ok (s7.1 : Int)) (fun r => r))
theorem r__law_gcd (one1 : Int) (other2 : Int) : RF0 (t__law_gcd one1 other2) (f__law_gcd [emb one1, emb other2]) :=
 rf0 [.ex (.val (emb one1)), .ex (.val (emb other2))] (s := b__law_gcd) (s_while (fun (s3 : Int × Int) => [.ex (.val (emb s3.1)), .ex (.val (emb s3.2))]) (.cons .rfl (.cons .rfl .nil)) (fun s3 q4 hq4 => (by have q := Option.some.inj (hq4); subst q; exact (e_asB (e_bin e_v e_c (o_ne (a := (s3.2 : Int)) (b := (0 : Int))))))) (fun s3 =>
 (s_bo fun u5 h_u5 =>
 (s_un (s_g (fun (p6 : (Int × Int)) => [.ex (.val (emb p6.1)), .ex (.val (emb p6.2))]) (x_par (a_c e_v (a_c (e_bin (e_fun (a_c e_v a_n) o_int) e_v (o_mod h_u5)) a_n))) fun p6 =>
 (s_end (ko (.cons .rfl (.cons .rfl .nil)))))))) fun s7 =>
 (s_ret e_v (by rfl) (kt rfl)))
def t__law_plus (one1 : (Int × Int)) (other2 : (Int × Int)) : M (Int × Int) :=
 bo (mulO one1.1 other2.2) fun u3 =>
 bo (mulO other2.1 one1.2) fun u4 =>
 bo (mulO one1.2 other2.2) fun u5 =>
 lt (((u3 + u4) : Int), (u5 : Int)) fun p6 =>
 bo ((t__law_gcd (p6.1 : Int) (p6.2 : Int)).o) fun u7 =>
 lt ((u7 : Int)) fun size8 =>
 bo (fdivO p6.1 size8) fun u9 =>
 bo (fdivO p6.2 size8) fun u10 =>
 .ok (((u9 : Int), (u10 : Int)) : (Int × Int))
theorem r__law_plus (one1 : (Int × Int)) (other2 : (Int × Int)) : RF0 (t__law_plus one1 other2) (f__law_plus [emb one1, emb other2]) :=
 rf0 [.ex (.val (emb one1)), .ex (.val (emb other2)), .ex .no, .ex .no, .ex .no] (s := b__law_plus) (s_bo fun u3 h_u3 =>
 (s_bo fun u4 h_u4 =>
 (s_bo fun u5 h_u5 =>
 (s_g (fun (p6 : (Int × Int)) => [.ex (.val (emb one1)), .ex (.val (emb other2)), .ex .no, .ex (.val (emb p6.1)), .ex (.val (emb p6.2))]) (x_parF (fa_c (f_add (e_bin (e_bin e_v e_c (o_x2_0 (p := (one1 : (Int × Int))))) (e_bin e_v e_c (o_x2_1 (p := (other2 : (Int × Int))))) (o_mul h_u3)) (e_bin (e_bin e_v e_c (o_x2_0 (p := (other2 : (Int × Int))))) (e_bin e_v e_c (o_x2_1 (p := (one1 : (Int × Int))))) (o_mul h_u4)) o_addF) (fa_c (f_li (e_bin (e_bin e_v e_c (o_x2_1 (p := (one1 : (Int × Int))))) (e_bin e_v e_c (o_x2_1 (p := (other2 : (Int × Int))))) (o_mul h_u5))) fa_n))) fun p6 =>
 (s_bo fun u7 h_u7 =>
 (s_g (fun (size8 : Int) => [.ex (.val (emb one1)), .ex (.val (emb other2)), .ex (.val (emb size8)), .ex (.val (emb p6.1)), .ex (.val (emb p6.2))]) (x_asg (f_li (t_call (r__law_gcd _ _) h_u7 (a_c e_v (a_c e_v a_n))))) fun size8 =>
 (s_bo fun u9 h_u9 =>
 (s_bo fun u10 h_u10 =>
 (s_ret (e_tup (a_c (e_bin e_v e_v (o_fdiv h_u9)) (a_c (e_bin e_v e_v (o_fdiv h_u10)) a_n))) (by rfl) (kt rfl))))))))))
def t__law_swapped : Nat → D → M D
| 0, _ => .no
| n + 1, topology_here1 =>
 bo (isiO [.tuple] topology_here1) fun u2 =>
 bo (if u2 = true then ob (ixD topology_here1 (.int (1 : Int))) fun u3 => ob ((t__law_swapped n (u3 : D)).o) fun u4 => ob (ixD topology_here1 (.int (0 : Int))) fun u5 => ob ((t__law_swapped n (u5 : D)).o) fun u6 => some ((emb (((u4 : D), (u6 : D)) : (D × D)) : D)) else some ((topology_here1 : D))) fun u7 =>
 .ok (u7 : D)
theorem r__law_swapped : ∀ (n : Nat) (topology_here1 : D), RF0 (t__law_swapped n topology_here1) (f__law_swapped n [emb topology_here1])
| 0, _ => ⟨trivial⟩
| n + 1, topology_here1 => have ih := r__law_swapped n
 rf0 [.ex (.val (emb topology_here1))] (s := b__law_swapped (f__law_swapped n)) (s_bo fun u2 h_u2 =>
 (s_bo fun u7 h_u7 =>
 (s_ret (e_ifG (w := .d (emb (u7 : D))) (L2 := [.ex (.val (emb topology_here1))]) (e_un e_v (o_isi h_u2)) (fun e8 => (ob_el (ct e8 h_u7) fun u3 h_u3 e9 => (ob_el (e9) fun u4 h_u4 e10 => (ob_el (e10) fun u5 h_u5 e11 => (ob_el (e11) fun u6 h_u6 e12 => (by have q := Option.some.inj (e12); subst q; exact (e_tup (a_c (t_call (ih _) h_u4 (a_c (e_bin e_v e_c h_u3) a_n)) (a_c (t_call (ih _) h_u6 (a_c (e_bin e_v e_c h_u5) a_n)) a_n))))))))) (fun e8 => (by have q := Option.some.inj (cf e8 h_u7); subst q; exact e_v))) (by rfl) (kt rfl))))
def t__law_far (one1 : (Int × Int)) (other2 : (Int × Int)) : M Int :=
 .ok (((absI (one1.1 - other2.1)) + (absI (one1.2 - other2.2))) : Int)
theorem r__law_far (one1 : (Int × Int)) (other2 : (Int × Int)) : RF0 (t__law_far one1 other2) (f__law_far [emb one1, emb other2]) :=
 rf0 [.ex (.val (emb one1)), .ex (.val (emb other2))] (s := b__law_far) (s_ret (e_bin (e_fun (a_c (e_bin (e_bin e_v e_c (o_x2_0 (p := (one1 : (Int × Int))))) (e_bin e_v e_c (o_x2_0 (p := (other2 : (Int × Int))))) o_sub) a_n) o_abs) (e_fun (a_c (e_bin (e_bin e_v e_c (o_x2_1 (p := (one1 : (Int × Int))))) (e_bin e_v e_c (o_x2_1 (p := (other2 : (Int × Int))))) o_sub) a_n) o_abs) o_add) (by rfl) (kt rfl))
def t_law (script1 : Scr) : M Bool :=
 lt (((DRow.mk script1.ns (0 : Int) (3881 : Int) (0 : Int)) : DRow)) fun row2 =>
 bo ((taken row2 (6 : Int)).o) fun u3 =>
 lt ((((1 : Int) + u3.1) : Int)) fun many4 =>
 bo (rgO (0 : Int) many4) fun u5 =>
 bo (compO (fun (x6 : Int) (s9 : DRow) => some (true, (s9))) (fun x6 s9 => ob ((taken s9 (9 : Int)).o) fun u10 => ob ((taken u10.2 (9 : Int)).o) fun u11 => some ((((u10.1 : Int), (u11.1 : Int)) : (Int × Int)), (u11.2))) u5 (u3.2)) fun u12 =>
 lt (((Tup.mk u12.1) : (Tup (Int × Int)))) fun ends17 =>
 bo (rgvDO (0 : Int) many4) fun u18 =>
 bo ((t__law_topology u12.2 (u18 : (List D))).o) fun u19 =>
 lt ((u19.1 : D)) fun topology_here20 =>
 bo ((t_least_wire (ends17 : (Tup (Int × Int))) (topology_here20 : D)).o) fun u21 =>
 lt ((u21 : ((Int × Int) × (Int × Int)))) fun p22 =>
 bo ((taken u19.2 (9 : Int)).o) fun u23 =>
 bo ((taken u23.2 (9 : Int)).o) fun u24 =>
 lt ((((u23.1 : Int), (u24.1 : Int)) : (Int × Int))) fun p25 =>
 bo (fmO (fun (x26 : (Int × Int)) => true) (fun x26 => ((((x26.1 + p25.1) : Int), ((x26.2 + p25.2) : Int)) : (Int × Int))) ends17.l) fun u27 =>
 lt (((Tup.mk u27) : (Tup (Int × Int)))) fun moved28 =>
 bo (fmO (fun (x29 : (Int × Int)) => true) (fun x29 => (((x29.2 : Int), (((20 : Int) - x29.1) : Int)) : (Int × Int))) ends17.l) fun u30 =>
 lt (((Tup.mk u30) : (Tup (Int × Int)))) fun mirrored31 =>
 bo ((t_least_wire (moved28 : (Tup (Int × Int))) (topology_here20 : D)).o) fun u32 =>
 bo (if (!decide ((u32 : ((Int × Int) × (Int × Int))) = ((p22.1 : (Int × Int)), (p22.2 : (Int × Int))))) = true then some true else ob ((t_least_wire (mirrored31 : (Tup (Int × Int))) (topology_here20 : D)).o) fun u33 => ob (if (!decide ((u33 : ((Int × Int) × (Int × Int))) = ((p22.1 : (Int × Int)), (p22.2 : (Int × Int))))) = true then some true else ob ((t__law_swapped 8 (topology_here20 : D)).o) fun u34 => ob ((t_least_wire (ends17 : (Tup (Int × Int))) (u34 : D)).o) fun u35 => some (!decide ((u35 : ((Int × Int) × (Int × Int))) = ((p22.1 : (Int × Int)), (p22.2 : (Int × Int)))))) fun u36 => some u36) fun u40 =>
 if u40 = true then
 .ok (false : Bool)
 else
 bo (fmO (fun (x45 : (Int × Int)) => true) (fun x45 => (((((2 : Int) * x45.1) : Int), (((2 : Int) * x45.2) : Int)) : (Int × Int))) ends17.l) fun u46 =>
 lt (((Tup.mk u46) : (Tup (Int × Int)))) fun double47 =>
 bo ((t_least_wire (double47 : (Tup (Int × Int))) (topology_here20 : D)).o) fun u48 =>
 bo ((t__law_plus (p22.1 : (Int × Int)) (p22.1 : (Int × Int))).o) fun u49 =>
 bo ((t__law_plus (p22.2 : (Int × Int)) (p22.2 : (Int × Int))).o) fun u50 =>
 if (!decide ((u48 : ((Int × Int) × (Int × Int))) = ((u49 : (Int × Int)), (u50 : (Int × Int))))) = true then
 .ok (false : Bool)
 else
 lt ((0 : Int)) fun far_here52 =>
 bd (foldM (fun (x54 : (Int × Int)) (s53 : Int) =>
 bo (filO (fun (x55 : (Int × Int)) => some true) (fun x55 => ob ((t__law_far (x54 : (Int × Int)) (x55 : (Int × Int))).o) fun u56 => some (u56 : Int)) ends17.l) fun u57 =>
 bo (catO ([s53] : List Int) u57) fun u61 =>
 bo (maxO u61) fun u62 =>
 lt ((u62 : Int)) fun far_here63 =>
 .ok (far_here63)) ends17.l (far_here52)) fun (s64 : Int) =>
 bo ((t__law_less ((((p22.2.1 * (2 : Int)) : Int), (p22.2.2 : Int)) : (Int × Int)) (((s64 : Int), (1 : Int)) : (Int × Int))).o) fun u65 =>
 bo (if u65 = true then some true else ob ((t__law_less (p22.1 : (Int × Int)) (p22.2 : (Int × Int))).o) fun u66 => ob (if u66 = true then some true else ob (mulO many4 (maxI2 p22.2.1 (1 : Int))) fun u67 => ob ((t__law_less (p22.1 : (Int × Int)) ((((u67 + (1 : Int)) : Int), (p22.2.2 : Int)) : (Int × Int))).o) fun u68 => some (!u68)) fun u69 => some u69) fun u73 =>
 if u73 = true then
 .ok (false : Bool)
 else
 bo (atI ends17.l (0 : Int)) fun u78 =>
 bo (repT (Tup.mk [u78]).l many4) fun u79 =>
 bo ((t_least_wire ((Tup.mk u79) : (Tup (Int × Int))) (topology_here20 : D)).o) fun u80 =>
 .ok ((decide ((u80 : ((Int × Int) × (Int × Int))) = ((((0 : Int), (1 : Int)) : (Int × Int)), (((0 : Int), (1 : Int)) : (Int × Int))))) : Bool)
theorem r_law (script1 : Scr) : RF0 (t_law script1) (f_law [emb script1]) :=
 rf0 [.ex (.val (emb script1)), .ex .no, .ex .no, .ex .no, .ex .no, .ex .no, .ex .no, .ex .no, .ex .no, .ex .no, .ex .no, .ex .no, .ex .no, .ex .no, .ex .no, .ex .no, .ex .no] (s := b_law) (s_g (fun (row2 : DRow) => [.ex (.val (emb script1)), .ex (.own false (emb row2)), .ex .no, .ex .no, .ex .no, .ex .no, .ex .no, .ex .no, .ex .no, .ex .no, .ex .no, .ex .no, .ex .no, .ex .no, .ex .no, .ex .no, .ex .no]) (x_asgF (f_lst (a_c e_v (a_c e_c (a_c e_c (a_c e_c a_n)))))) fun row2 =>
 (s_bo fun u3 h_u3 =>
 (s_g (fun (many4 : Int) => [.ex (.val (emb script1)), .ex (.own false (emb u3.2)), .ex (.val (emb many4)), .ex .no, .ex .no, .ex .no, .ex .no, .ex .no, .ex .no, .ex .no, .ex .no, .ex .no, .ex .no, .ex .no, .ex .no, .ex .no, .ex .no]) (x_asg (f_add e_c (t_row (r_taken _ _) h_u3 (a_c e_o (a_c e_c a_n))) o_addF)) fun many4 =>
 (s_bo fun u5 h_u5 =>
 (s_bo fun u12 h_u12 =>
 (s_g (fun (ends17 : (Tup (Int × Int))) => [.ex (.val (emb script1)), .ex (.own false (emb u12.2)), .ex (.val (emb many4)), .ex (.val (emb ends17)), .ex .no, .ex .no, .ex .no, .ex .no, .ex .no, .ex .no, .ex .no, .ex .no, .ex .no, .ex .no, .ex .no, .ex .no, .ex .no]) (x_asg (f_li (e_fun (a_c (e_fr (f_compS (fun (s9 : DRow) => [.ex (.val (emb script1)), .ex (.own false (emb s9)), .ex (.val (emb many4)), .ex .no, .ex .no, .ex .no, .ex .no, .ex .no, .ex .no, .ex .no, .ex .no, .ex .no, .ex .no, .ex .no, .ex .no, .ex .no, .ex .no]) (fun (x6 : Int) (s9 : DRow) => [.ex (.val (emb script1)), .ex (.own false (emb s9)), .ex (.val (emb many4)), .ex .no, .ex .no, .ex .no, .ex .no, .ex .no, .ex .no, .ex .no, .ex .no, .ex .no, .ex .no, .ex .no, .ex (.val (emb x6)), .ex .no, .ex .no]) (i_rng (a_c e_v a_n) (r_one h_u5)) (by rfl) (fun x6 s9 => g_n) (fun x6 s9 b13 hb13 el_b13 => (by cases hb13; exact ⟨_, t_yes, (fun h => by cases h), (fun hb y14 hy14 => el_b13 x6 _ y14 hy14)⟩)) (fun (x6 : Int) (s9 : DRow) y14 hy14 => (ob_el (hy14) fun u10 h_u10 e15 => (ob_el (e15) fun u11 h_u11 e16 => (by have q := Option.some.inj (e16); subst q; exact ⟨_, _, _, (e_tup (a_c (t_row (r_taken _ _) h_u10 (a_c e_o (a_c e_c a_n))) (a_c (t_row (r_taken _ _) h_u11 (a_c e_o (a_c e_c a_n))) a_n))), (by rfl), (by rfl), (by rfl)⟩)))) h_u12)) a_n) (o_tuple (l := (u12.1 : (List (Int × Int)))))))) fun ends17 =>
 (s_bo fun u18 h_u18 =>
 (s_bo fun u19 h_u19 =>
 (s_g (fun (topology_here20 : D) => [.ex (.val (emb script1)), .ex (.own false (emb u19.2)), .ex (.val (emb many4)), .ex (.val (emb ends17)), .ex (.val (emb topology_here20)), .ex .no, .ex .no, .ex .no, .ex .no, .ex .no, .ex .no, .ex .no, .ex .no, .ex .no, .ex .no, .ex .no, .ex .no]) (x_asg (f_li (t_row (r__law_topology _ _) h_u19 (a_c e_o (a_c (e_fr (f_lrgD (en_one e_v) h_u18)) a_n))))) fun topology_here20 =>
 (s_bo fun u21 h_u21 =>
 (s_g (fun (p22 : ((Int × Int) × (Int × Int))) => [.ex (.val (emb script1)), .ex (.own false (emb u19.2)), .ex (.val (emb many4)), .ex (.val (emb ends17)), .ex (.val (emb topology_here20)), .ex .no, .ex .no, .ex .no, .ex .no, .ex .no, .ex (.val (emb p22.1)), .ex (.val (emb p22.2)), .ex .no, .ex .no, .ex .no, .ex .no, .ex .no]) (x_asgT (t_call (r_least_wire _ _) h_u21 (a_c e_v (a_c e_v a_n))) (by rfl) (g_tp (g_sc g_n (g_sc g_n g_sn)))) fun p22 =>
 (s_bo fun u23 h_u23 =>
 (s_bo fun u24 h_u24 =>
 (s_g (fun (p25 : (Int × Int)) => [.ex (.val (emb script1)), .ex (.own false (emb u24.2)), .ex (.val (emb many4)), .ex (.val (emb ends17)), .ex (.val (emb topology_here20)), .ex .no, .ex .no, .ex .no, .ex .no, .ex .no, .ex (.val (emb p22.1)), .ex (.val (emb p22.2)), .ex (.val (emb p25.1)), .ex (.val (emb p25.2)), .ex .no, .ex .no, .ex .no]) (x_asgT (e_tup (a_c (t_row (r_taken _ _) h_u23 (a_c e_o (a_c e_c a_n))) (a_c (t_row (r_taken _ _) h_u24 (a_c e_o (a_c e_c a_n))) a_n))) (by rfl) (g_tp (g_sc g_n (g_sc g_n g_sn)))) fun p25 =>
 (s_bo fun u27 h_u27 =>
 (s_g (fun (moved28 : (Tup (Int × Int))) => [.ex (.val (emb script1)), .ex (.own false (emb u24.2)), .ex (.val (emb many4)), .ex (.val (emb ends17)), .ex (.val (emb topology_here20)), .ex (.val (emb moved28)), .ex .no, .ex .no, .ex .no, .ex .no, .ex (.val (emb p22.1)), .ex (.val (emb p22.2)), .ex (.val (emb p25.1)), .ex (.val (emb p25.2)), .ex .no, .ex .no, .ex .no]) (x_asg (f_li (e_fun (a_c (e_fr (f_fm (i_val e_v) (by rfl) (fun x26 => ⟨_, g_n, t_yes, (by rfl), (by rfl), _, (e_tup (a_c (e_bin (e_bin e_v e_c (o_x2_0 (p := (x26 : (Int × Int))))) e_v o_add) (a_c (e_bin (e_bin e_v e_c (o_x2_1 (p := (x26 : (Int × Int))))) e_v o_add) a_n))), (by rfl)⟩) h_u27)) a_n) (o_tuple (l := (u27 : (List (Int × Int)))))))) fun moved28 =>
 (s_bo fun u30 h_u30 =>
 (s_g (fun (mirrored31 : (Tup (Int × Int))) => [.ex (.val (emb script1)), .ex (.own false (emb u24.2)), .ex (.val (emb many4)), .ex (.val (emb ends17)), .ex (.val (emb topology_here20)), .ex (.val (emb moved28)), .ex (.val (emb mirrored31)), .ex .no, .ex .no, .ex .no, .ex (.val (emb p22.1)), .ex (.val (emb p22.2)), .ex (.val (emb p25.1)), .ex (.val (emb p25.2)), .ex .no, .ex .no, .ex .no]) (x_asg (f_li (e_fun (a_c (e_fr (f_fm (i_val e_v) (by rfl) (fun x29 => ⟨_, g_n, t_yes, (by rfl), (by rfl), _, (e_tup (a_c (e_bin e_v e_c (o_x2_1 (p := (x29 : (Int × Int))))) (a_c (e_bin e_c (e_bin e_v e_c (o_x2_0 (p := (x29 : (Int × Int))))) o_sub) a_n))), (by rfl)⟩) h_u30)) a_n) (o_tuple (l := (u30 : (List (Int × Int)))))))) fun mirrored31 =>
 (s_bo fun u32 h_u32 =>
 (s_bo fun u40 h_u40 =>
 (s_ifE (e_orG (r := u40) (L2 := [.ex (.val (emb script1)), .ex (.own false (emb u24.2)), .ex (.val (emb many4)), .ex (.val (emb ends17)), .ex (.val (emb topology_here20)), .ex (.val (emb moved28)), .ex (.val (emb mirrored31)), .ex .no, .ex .no, .ex .no, .ex (.val (emb p22.1)), .ex (.val (emb p22.2)), .ex (.val (emb p25.1)), .ex (.val (emb p25.2)), .ex .no, .ex .no, .ex .no]) (e_bin (t_call (r_least_wire _ _) h_u32 (a_c e_v (a_c e_v a_n))) (e_tup (a_c e_v (a_c e_v a_n))) (o_ne (a := (u32 : ((Int × Int) × (Int × Int)))) (b := (((p22.1 : (Int × Int)), (p22.2 : (Int × Int))) : ((Int × Int) × (Int × Int)))))) (fun e41 => (ob_el (cf e41 h_u40) fun u33 h_u33 e42 => (ob_el (e42) fun u36 h_u36 e43 => (by have q := Option.some.inj (e43); subst q; exact (e_orG (r := u36) (L2 := [.ex (.val (emb script1)), .ex (.own false (emb u24.2)), .ex (.val (emb many4)), .ex (.val (emb ends17)), .ex (.val (emb topology_here20)), .ex (.val (emb moved28)), .ex (.val (emb mirrored31)), .ex .no, .ex .no, .ex .no, .ex (.val (emb p22.1)), .ex (.val (emb p22.2)), .ex (.val (emb p25.1)), .ex (.val (emb p25.2)), .ex .no, .ex .no, .ex .no]) (e_bin (t_call (r_least_wire _ _) h_u33 (a_c e_v (a_c e_v a_n))) (e_tup (a_c e_v (a_c e_v a_n))) (o_ne (a := (u33 : ((Int × Int) × (Int × Int)))) (b := (((p22.1 : (Int × Int)), (p22.2 : (Int × Int))) : ((Int × Int) × (Int × Int)))))) (fun e37 => (ob_el (cf e37 h_u36) fun u34 h_u34 e38 => (ob_el (e38) fun u35 h_u35 e39 => (by have q := Option.some.inj (e39); subst q; exact (e_bin (t_call (r_least_wire _ _) h_u35 (a_c e_v (a_c (t_call (r__law_swapped 8 _) h_u34 (a_c e_v a_n)) a_n))) (e_tup (a_c e_v (a_c e_v a_n))) (o_ne (a := (u35 : ((Int × Int) × (Int × Int)))) (b := (((p22.1 : (Int × Int)), (p22.2 : (Int × Int))) : ((Int × Int) × (Int × Int)))))))))) (fun e37 => by have := ct e37 h_u36; cases this; exact ⟨rfl, rfl⟩)))))) (fun e41 => by have := ct e41 h_u40; cases this; exact ⟨rfl, rfl⟩)) n_ret (fun e44 => (s_ret e_c (by rfl) (kt rfl))) (fun e44 => (s_nx (s_bo fun u46 h_u46 =>
 (s_g (fun (double47 : (Tup (Int × Int))) => [.ex (.val (emb script1)), .ex (.own false (emb u24.2)), .ex (.val (emb many4)), .ex (.val (emb ends17)), .ex (.val (emb topology_here20)), .ex (.val (emb moved28)), .ex (.val (emb mirrored31)), .ex (.val (emb double47)), .ex .no, .ex .no, .ex (.val (emb p22.1)), .ex (.val (emb p22.2)), .ex (.val (emb p25.1)), .ex (.val (emb p25.2)), .ex .no, .ex .no, .ex .no]) (x_asg (f_li (e_fun (a_c (e_fr (f_fm (i_val e_v) (by rfl) (fun x45 => ⟨_, g_n, t_yes, (by rfl), (by rfl), _, (e_tup (a_c (e_bin e_c (e_bin e_v e_c (o_x2_0 (p := (x45 : (Int × Int))))) (o_mulc (inW_l rfl))) (a_c (e_bin e_c (e_bin e_v e_c (o_x2_1 (p := (x45 : (Int × Int))))) (o_mulc (inW_l rfl))) a_n))), (by rfl)⟩) h_u46)) a_n) (o_tuple (l := (u46 : (List (Int × Int)))))))) fun double47 =>
 (s_bo fun u48 h_u48 =>
 (s_bo fun u49 h_u49 =>
 (s_bo fun u50 h_u50 =>
 (s_ifE (e_bin (t_call (r_least_wire _ _) h_u48 (a_c e_v (a_c e_v a_n))) (e_tup (a_c (t_call (r__law_plus _ _) h_u49 (a_c e_v (a_c e_v a_n))) (a_c (t_call (r__law_plus _ _) h_u50 (a_c e_v (a_c e_v a_n))) a_n))) (o_ne (a := (u48 : ((Int × Int) × (Int × Int)))) (b := (((u49 : (Int × Int)), (u50 : (Int × Int))) : ((Int × Int) × (Int × Int)))))) n_ret (fun e51 => (s_ret e_c (by rfl) (kt rfl))) (fun e51 => (s_nx (s_g (fun (far_here52 : Int) => [.ex (.val (emb script1)), .ex (.own false (emb u24.2)), .ex (.val (emb many4)), .ex (.val (emb ends17)), .ex (.val (emb topology_here20)), .ex (.val (emb moved28)), .ex (.val (emb mirrored31)), .ex (.val (emb double47)), .ex (.val (emb far_here52)), .ex .no, .ex (.val (emb p22.1)), .ex (.val (emb p22.2)), .ex (.val (emb p25.1)), .ex (.val (emb p25.2)), .ex .no, .ex .no, .ex .no]) (x_asg (f_li e_c)) fun far_here52 =>
 (s_for (fun (s53 : Int) => [.ex (.val (emb script1)), .ex (.own false (emb u24.2)), .ex (.val (emb many4)), .ex (.val (emb ends17)), .ex (.val (emb topology_here20)), .ex (.val (emb moved28)), .ex (.val (emb mirrored31)), .ex (.val (emb double47)), .ex (.val (emb s53)), .jv, .ex (.val (emb p22.1)), .ex (.val (emb p22.2)), .ex (.val (emb p25.1)), .ex (.val (emb p25.2)), .ex .no, .ex .no, .ex .no]) (i_val e_v) (.cons .rfl (.cons .rfl (.cons .rfl (.cons .rfl (.cons .rfl (.cons .rfl (.cons .rfl (.cons .rfl (.cons .rfl (.cons (.jw rfl) (.cons .rfl (.cons .rfl (.cons .rfl (.cons .rfl (.cons .rfl (.cons .rfl (.cons .rfl .nil))))))))))))))))) (fun x54 s53 => ⟨_, g_n,
 (s_bo fun u57 h_u57 =>
 (s_bo fun u61 h_u61 =>
 (s_bo fun u62 h_u62 =>
 (s_un (s_g (fun (far_here63 : Int) => [.ex (.val (emb script1)), .ex (.own false (emb u24.2)), .ex (.val (emb many4)), .ex (.val (emb ends17)), .ex (.val (emb topology_here20)), .ex (.val (emb moved28)), .ex (.val (emb mirrored31)), .ex (.val (emb double47)), .ex (.val (emb far_here63)), .ex (.val (emb x54)), .ex (.val (emb p22.1)), .ex (.val (emb p22.2)), .ex (.val (emb p25.1)), .ex (.val (emb p25.2)), .ex .no, .ex .no, .ex .no]) (x_asg (f_li (e_fun (a_c (e_bin (e_fr (f_lst (a_c e_v a_n))) (e_fr (f_fil (i_val e_v) (by rfl) (fun x55 => ⟨_, g_n, (by rfl), (by rfl), (fun q58 hq58 => (by have q := Option.some.inj (hq58); subst q; exact t_yes)), (fun y59 hb hy59 => (ob_el (hy59) fun u56 h_u56 e60 => (by have q := Option.some.inj (e60); subst q; exact ⟨_, (t_call (r__law_far _ _) h_u56 (a_c e_v (a_c e_v a_n))), (by rfl)⟩)))⟩) h_u57)) (o_cat h_u61)) a_n) (o_max (l := (u61 : (List Int))) h_u62)))) fun far_here63 =>
 (s_end (kf (.cons .rfl (.cons .rfl (.cons .rfl (.cons .rfl (.cons .rfl (.cons .rfl (.cons .rfl (.cons .rfl (.cons .rfl (.cons (.jw rfl) (.cons .rfl (.cons .rfl (.cons .rfl (.cons .rfl (.cons .rfl (.cons .rfl (.cons .rfl .nil))))))))))))))))))))))))⟩) fun s64 =>
 (s_bo fun u65 h_u65 =>
 (s_bo fun u73 h_u73 =>
 (s_ifE (e_orG (r := u73) (L2 := [.ex (.val (emb script1)), .ex (.own false (emb u24.2)), .ex (.val (emb many4)), .ex (.val (emb ends17)), .ex (.val (emb topology_here20)), .ex (.val (emb moved28)), .ex (.val (emb mirrored31)), .ex (.val (emb double47)), .ex (.val (emb s64)), .jv, .ex (.val (emb p22.1)), .ex (.val (emb p22.2)), .ex (.val (emb p25.1)), .ex (.val (emb p25.2)), .ex .no, .ex .no, .ex .no]) (t_call (r__law_less _ _) h_u65 (a_c (e_tup (a_c (e_bin (e_bin e_v e_c (o_x2_0 (p := (p22.2 : (Int × Int))))) e_c (o_mulc (inW_r rfl))) (a_c (e_bin e_v e_c (o_x2_1 (p := (p22.2 : (Int × Int))))) a_n))) (a_c (e_tup (a_c e_v (a_c e_c a_n))) a_n))) (fun e74 => (ob_el (cf e74 h_u73) fun u66 h_u66 e75 => (ob_el (e75) fun u69 h_u69 e76 => (by have q := Option.some.inj (e76); subst q; exact (e_orG (r := u69) (L2 := [.ex (.val (emb script1)), .ex (.own false (emb u24.2)), .ex (.val (emb many4)), .ex (.val (emb ends17)), .ex (.val (emb topology_here20)), .ex (.val (emb moved28)), .ex (.val (emb mirrored31)), .ex (.val (emb double47)), .ex (.val (emb s64)), .jv, .ex (.val (emb p22.1)), .ex (.val (emb p22.2)), .ex (.val (emb p25.1)), .ex (.val (emb p25.2)), .ex .no, .ex .no, .ex .no]) (t_call (r__law_less _ _) h_u66 (a_c e_v (a_c e_v a_n))) (fun e70 => (ob_el (cf e70 h_u69) fun u67 h_u67 e71 => (ob_el (e71) fun u68 h_u68 e72 => (by have q := Option.some.inj (e72); subst q; exact (e_not (t_call (r__law_less _ _) h_u68 (a_c e_v (a_c (e_tup (a_c (e_bin (e_bin e_v (e_fun (a_c (e_bin e_v e_c (o_x2_0 (p := (p22.2 : (Int × Int))))) (a_c e_c a_n)) o_max2) (o_mul h_u67)) e_c o_add) (a_c (e_bin e_v e_c (o_x2_1 (p := (p22.2 : (Int × Int))))) a_n))) a_n)))))))) (fun e70 => by have := ct e70 h_u69; cases this; exact ⟨rfl, rfl⟩)))))) (fun e74 => by have := ct e74 h_u73; cases this; exact ⟨rfl, rfl⟩)) n_ret (fun e77 => (s_ret e_c (by rfl) (kt rfl))) (fun e77 => (s_nx (s_bo fun u78 h_u78 =>
 (s_bo fun u79 h_u79 =>
 (s_bo fun u80 h_u80 =>
 (s_ret (e_bin (t_call (r_least_wire _ _) h_u80 (a_c (e_bin (e_tup (a_c (e_bin e_v e_c (o_ixT h_u78)) a_n)) e_v (o_mulT h_u79)) (a_c e_v a_n))) (e_tup (a_c (e_tup (a_c e_c (a_c e_c a_n))) (a_c (e_tup (a_c e_c (a_c e_c a_n))) a_n))) (o_eq (a := (u80 : ((Int × Int) × (Int × Int)))) (b := (((((0 : Int), (1 : Int)) : (Int × Int)), (((0 : Int), (1 : Int)) : (Int × Int))) : ((Int × Int) × (Int × Int)))))) (by rfl) (kt rfl)))))))))))))))))))))))))))))))))))))))))))
end K81
namespace K81
open PySem PySem.Spec PyProof.Rows L2 L3 T
open T.Emb (emb)
abbrev Pt := Int × Int
def far (p q : Pt) : Int := ((p.1 - q.1).natAbs : Int) + ((p.2 - q.2).natAbs : Int)
def Ok (l : List Pt) : Prop := ∀ p ∈ l, (0 ≤ p.1 ∧ p.1 ≤ 40) ∧ 0 ≤ p.2 ∧ p.2 ≤ 40
theorem abs_eq {t : Int} : absI t = (t.natAbs : Int) := by unfold absI; split <;> omega
theorem far_eq {p q : Pt} : t__law_far p q = .ok (far p q) := by unfold t__law_far far; rw [abs_eq, abs_eq]
theorem is_in {v a b : Int} (h : a ≤ v ∧ v ≤ b) : t_is_in v a b = .ok true := by
  unfold t_is_in t_is_integer
  rw [o_ok, bo_some, decide_eq_true h.1, decide_eq_true h.2]; rfl
theorem isi_t {l : List D} : isiO [.tuple] (.tuple l) = some true := by unfold isiO; rfl
theorem isi_ti {i : Int} : isiO [.tuple] (.int i) = some false := by unfold isiO; rfl
theorem isi_it {l : List D} : isiO [.int] (.tuple l) = some false := by unfold isiO; rfl
theorem isi_i {i : Int} : isiO [.int] (.int i) = some true := by unfold isiO; rfl
theorem isi_bi {i : Int} : isiO [.bool] (.int i) = some false := by unfold isiO; rfl
theorem in2_i {i a b : Int} (h : a ≤ i ∧ i ≤ b) : t_is_in_2 (.int i) a b = .ok true := by
  unfold t_is_in_2 t_is_integer_2
  rw [isi_i, bo_some, if_pos rfl, isi_bi, ob_some, bo_some, o_ok, bo_some, if_pos (by decide)]
  show bo (some (decide (a ≤ i) && decide (i ≤ b))) _ = _
  rw [decide_eq_true h.1, decide_eq_true h.2]; rfl
theorem in2_t {l : List D} {a b : Int} : t_is_in_2 (.tuple l) a b = .ok false := by
  unfold t_is_in_2 t_is_integer_2
  rw [isi_it, bo_some, if_neg (by decide), bo_some, o_ok, bo_some, if_neg (by decide), bo_some]
theorem list3 {x y : D} : t_is_list_3 (.tuple [x, y]) 2 2 = .ok true := by
  unfold t_is_list_3
  rw [isi_t, bo_some, if_pos rfl]
  have : lenO (.tuple [x, y]) = some 2 := by unfold lenO; rfl
  rw [this, ob_some, bo_some]; rfl
theorem leaf {n : Nat} {i m : Int} (h : 0 ≤ i ∧ i ≤ m - 1) : t_leaves_of (n + 1) (.int i) m = .ok [i] := by
  unfold t_leaves_of
  rw [in2_i h, o_ok, bo_some, if_pos rfl]; rfl
theorem leaves2 {n : Nat} {x y : D} {m : Int} {a b : List Int} (h1 : t_leaves_of n x m = .ok a) (h2 : t_leaves_of n y m = .ok b) (hl : a.length + b.length ≤ 100) : t_leaves_of (n + 1) (.tuple [x, y]) m = .ok (a ++ b) := by
  unfold t_leaves_of
  rw [in2_t, o_ok, bo_some, if_neg (by decide), list3, o_ok, bo_some, if_neg (by decide)]
  show bo (some x) _ = _
  rw [bo_some, h1, o_ok, bo_some]
  show bo (some y) _ = _
  rw [bo_some, h2, o_ok, bo_some, List.append_nil, ckO_eq (by rw [List.length_append]; omega), bo_some]
/-! merging -/
abbrev Box := T4 Int Int Int Int
def box (p : Pt) : Box := ⟨64 * p.1 + 64 * p.2, 64 * p.1 + 64 * p.2, 64 * p.1 - 64 * p.2, 64 * p.1 - 64 * p.2⟩
theorem mleaf {n : Nat} {l : List Pt} {i : Int} {p : Pt} (h : atI l i = some p) : ∃ ps, t_merged (n + 1) ⟨l⟩ (.int i) = .ok ⟨box p, 0, 0, ps⟩ := by
  unfold t_merged
  rw [isi_ti, bo_some, if_pos (by decide)]
  show ∃ ps, bo (some i) _ = _
  rw [bo_some, h, bo_some]
  show ∃ ps, bo (some i) _ = _
  rw [bo_some, h, bo_some, lt_def]
  refine ⟨⟨[]⟩, ?_⟩
  unfold box
  dsimp only
  rw [Int.mul_comm p.1 64, Int.mul_comm p.2 64]
def reach (a b : Box) : Int := maxI 0 [a.a - b.b, b.a - a.b, a.c - b.d, b.c - a.d]
theorem reach_ok (a b : Box) : 0 ≤ reach a b ∧ a.a - b.b ≤ reach a b ∧ b.a - a.b ≤ reach a b ∧ a.c - b.d ≤ reach a b ∧ b.c - a.d ≤ reach a b ∧ (reach a b = 0 ∨ reach a b = a.a - b.b ∨ reach a b = b.a - a.b ∨ reach a b = a.c - b.d ∨ reach a b = b.c - a.d) := by
  have h1 := T.maxI_le 0 [a.a - b.b, b.a - a.b, a.c - b.d, b.c - a.d]
  have h2 := T.maxI_mem 0 [a.a - b.b, b.a - a.b, a.c - b.d, b.c - a.d]
  simp only [List.mem_cons, List.not_mem_nil, or_false] at h2
  exact ⟨h1 _ (by simp), h1 _ (by simp), h1 _ (by simp), h1 _ (by simp), h1 _ (by simp), h2⟩
theorem mpair {n : Nat} {l : List Pt} {x y : D} {A B : Box} {d1 w1 d2 w2 : Int} {p1 p2 : Tup D} (h1 : t_merged n ⟨l⟩ x = .ok ⟨A, d1, w1, p1⟩) (h2 : t_merged n ⟨l⟩ y = .ok ⟨B, d2, w2, p2⟩) : ∃ d ps, d = maxI2 (maxI2 d1 d2) ((reach A B + d1 + d2) / 2) ∧ t_merged (n + 1) ⟨l⟩ (.tuple [x, y]) = .ok ⟨⟨maxI2 (A.a - (d - d1)) (B.a - (d - d2)), minI2 (A.b + (d - d1)) (B.b + (d - d2)), maxI2 (A.c - (d - d1)) (B.c - (d - d2)), minI2 (A.d + (d - d1)) (B.d + (d - d2))⟩, d, w1 + w2 + (d - d1) + (d - d2), ps⟩ := by
  unfold t_merged
  rw [isi_t, bo_some, if_neg (by decide)]
  show ∃ d ps, _ ∧ bo (some x) _ = _
  rw [bo_some, h1, o_ok, bo_some]
  show ∃ d ps, _ ∧ bo (some y) _ = _
  rw [bo_some, h2, o_ok, bo_some, lt_def]
  unfold t_reach t_widened t_meet
  dsimp only
  rw [o_ok, bo_some, lt_def, lt_def, lt_def, lt_def]
  simp only [o_ok, bo_some, lt_def]
  rw [Int.fdiv_eq_ediv_of_nonneg _ (by decide)]
  exact ⟨_, _, rfl, rfl⟩
theorem mulO_r {i j : Int} (h : -(2 ^ 64) < j ∧ j < 2 ^ 64) : mulO i j = some (i * j) := by
  unfold mulO
  rw [if_pos (inW_r (inW_iff.mpr h))]
theorem max_cases (a b : Int) : (maxI2 a b = a ∧ b ≤ a) ∨ (maxI2 a b = b ∧ a ≤ b) := by unfold maxI2; split <;> omega
theorem min_cases (a b : Int) : (minI2 a b = a ∧ a ≤ b) ∨ (minI2 a b = b ∧ b ≤ a) := by unfold minI2; split <;> omega
theorem need_ends_eq {l : List Pt} (h : Ok l) (n1 : 1 ≤ l.length) (n6 : l.length ≤ 6) : t_need_ends ⟨l⟩ = .ok () := by
  unfold t_need_ends t_is_list_2
  dsimp only
  rw [o_ok, bo_some, decide_eq_true (show (1 : Int) ≤ l.length by omega), decide_eq_true (show (l.length : Int) ≤ 6 by omega), if_neg (by decide), foldM_unit fun z hz => ?_, bd_ok]
  obtain ⟨i, hi, hx⟩ := enI_mem hz
  have hp := h _ (List.mem_of_getElem? hx)
  unfold t_is_point t_is_list
  dsimp only
  rw [o_ok, bo_some, if_pos (by decide), filO_eq (fun _ => true) (fun _ => true) (by simp) (fun _ _ => rfl) (fun x hx _ => by
    simp only [List.mem_cons, List.not_mem_nil, or_false] at hx
    rw [is_in (by rcases hx with rfl | rfl <;> omega), o_ok, ob_some]), ob_some, bo_some, o_ok, bo_some, if_neg (by simp)]
/-! trees -/
inductive Tr
  | lf (i : Int)
  | nd (a b : Tr)
def toD : Tr → D
  | .lf i => .int i
  | .nd a b => .tuple [toD a, toD b]
def lvs : Tr → List Int
  | .lf i => [i]
  | .nd a b => lvs a ++ lvs b
def ht : Tr → Nat
  | .lf _ => 0
  | .nd a b => max (ht a) (ht b) + 1
def swp : Tr → Tr
  | .lf i => .lf i
  | .nd a b => .nd (swp b) (swp a)
theorem ht_lt : ∀ t, ht t < (lvs t).length
  | .lf _ => by simp [ht, lvs]
  | .nd a b => by
    have h1 := ht_lt a
    have h2 := ht_lt b
    unfold ht lvs
    rw [List.length_append]
    omega
theorem swp_lvs : ∀ t, (lvs (swp t)).Perm (lvs t)
  | .lf _ => .refl _
  | .nd a b => by
    unfold swp lvs
    exact List.perm_append_comm.trans ((swp_lvs a).append (swp_lvs b))
theorem swp_ht : ∀ t, ht (swp t) = ht t
  | .lf _ => rfl
  | .nd a b => by
    unfold swp ht
    rw [swp_ht a, swp_ht b]
    omega
theorem swp_eq : ∀ (n : Nat) (t : Tr), ht t < n → t__law_swapped n (toD t) = .ok (toD (swp t))
  | 0, _, h => absurd h (Nat.not_lt_zero _)
  | n + 1, .lf i, h => by
    unfold t__law_swapped toD
    rw [isi_ti, bo_some, if_neg (by decide)]; rfl
  | n + 1, .nd a b, h => by
    unfold ht at h
    unfold t__law_swapped
    unfold toD
    rw [isi_t, bo_some, if_pos rfl]
    show bo (ob (some (toD b)) _) _ = _
    rw [ob_some, swp_eq n b (by omega), o_ok, ob_some]
    show bo (ob (some (toD a)) _) _ = _
    rw [ob_some, swp_eq n a (by omega), o_ok, ob_some, bo_some]
    rfl
theorem leaves_eq {m : Int} : ∀ (n : Nat) (t : Tr), ht t < n → (∀ i ∈ lvs t, 0 ≤ i ∧ i ≤ m - 1) → (lvs t).length ≤ 100 → t_leaves_of n (toD t) m = .ok (lvs t)
  | 0, _, h, _, _ => absurd h (Nat.not_lt_zero _)
  | n + 1, .lf i, h, hb, _ => leaf (hb i (by simp [lvs]))
  | n + 1, .nd a b, h, hb, hl => by
    unfold ht at h
    unfold lvs at hb hl ⊢
    rw [List.length_append] at hl
    exact leaves2 (leaves_eq n a (by omega) (fun i hi => hb i (List.mem_append_left _ hi)) (by omega)) (leaves_eq n b (by omega) (fun i hi => hb i (List.mem_append_right _ hi)) (by omega)) hl
abbrev R3 := Box × Int × Int
def dl (A B : R3) : Int := maxI2 (maxI2 A.2.1 B.2.1) ((reach A.1 B.1 + A.2.1 + B.2.1) / 2)
def join (A B : R3) : R3 := (⟨maxI2 (A.1.a - (dl A B - A.2.1)) (B.1.a - (dl A B - B.2.1)), minI2 (A.1.b + (dl A B - A.2.1)) (B.1.b + (dl A B - B.2.1)), maxI2 (A.1.c - (dl A B - A.2.1)) (B.1.c - (dl A B - B.2.1)), minI2 (A.1.d + (dl A B - A.2.1)) (B.1.d + (dl A B - B.2.1))⟩, dl A B, A.2.2 + B.2.2 + (dl A B - A.2.1) + (dl A B - B.2.1))
def pt (l : List Pt) (i : Int) : Pt := (atI l i).getD (0, 0)
def mg (l : List Pt) : Tr → R3
  | .lf i => (box (pt l i), 0, 0)
  | .nd a b => join (mg l a) (mg l b)
theorem merged_eq {l : List Pt} : ∀ (n : Nat) (t : Tr), ht t < n → (∀ i ∈ lvs t, 0 ≤ i ∧ i < l.length) → ∃ ps, t_merged n ⟨l⟩ (toD t) = .ok ⟨(mg l t).1, (mg l t).2.1, (mg l t).2.2, ps⟩
  | 0, _, h, _ => absurd h (Nat.not_lt_zero _)
  | n + 1, .lf i, h, hb => by
    obtain ⟨h0, h1⟩ := hb i (by simp [lvs])
    obtain ⟨x, e, _⟩ := atI_lt h0 h1
    obtain ⟨ps, e2⟩ := mleaf (n := n) e
    refine ⟨ps, e2.trans ?_⟩
    unfold mg pt
    rw [e]; rfl
  | n + 1, .nd a b, h, hb => by
    unfold ht at h
    unfold lvs at hb
    obtain ⟨p1, e1⟩ := merged_eq n a (by omega) fun i hi => hb i (List.mem_append_left _ hi)
    obtain ⟨p2, e2⟩ := merged_eq n b (by omega) fun i hi => hb i (List.mem_append_right _ hi)
    obtain ⟨d, ps, rfl, e⟩ := mpair e1 e2
    exact ⟨ps, e⟩
/-! turned trees -/
theorem r3_ext {A B : R3} (h1 : A.1.a = B.1.a) (h2 : A.1.b = B.1.b) (h3 : A.1.c = B.1.c) (h4 : A.1.d = B.1.d) (h5 : A.2.1 = B.2.1) (h6 : A.2.2 = B.2.2) : A = B := by
  obtain ⟨⟨a, b, c, d⟩, e, f⟩ := A
  obtain ⟨⟨a', b', c', d'⟩, e', f'⟩ := B
  dsimp only at h1 h2 h3 h4 h5 h6
  subst h1 h2 h3 h4 h5 h6
  rfl
theorem max_add (a b p : Int) : maxI2 (a + p) (b + p) = maxI2 a b + p := by unfold maxI2; split <;> split <;> omega
theorem min_add (a b p : Int) : minI2 (a + p) (b + p) = minI2 a b + p := by unfold minI2; split <;> split <;> omega
theorem max_neg (a b p : Int) : maxI2 (p - a) (p - b) = p - minI2 a b := by unfold minI2 maxI2; split <;> split <;> omega
theorem min_neg (a b p : Int) : minI2 (p - a) (p - b) = p - maxI2 a b := by unfold minI2 maxI2; split <;> split <;> omega
theorem max_comm (a b : Int) : maxI2 a b = maxI2 b a := by unfold maxI2; split <;> split <;> omega
theorem min_comm (a b : Int) : minI2 a b = minI2 b a := by unfold minI2; split <;> split <;> omega
theorem max_two (a b : Int) : maxI2 (2 * a) (2 * b) = 2 * maxI2 a b := by unfold maxI2; split <;> split <;> omega
theorem min_two (a b : Int) : minI2 (2 * a) (2 * b) = 2 * minI2 a b := by unfold minI2; split <;> split <;> omega
def sh (p q : Int) (A : R3) : R3 := (⟨A.1.a + p, A.1.b + p, A.1.c + q, A.1.d + q⟩, A.2.1, A.2.2)
def mi (A : R3) : R3 := (⟨1280 - A.1.d, 1280 - A.1.c, A.1.a - 1280, A.1.b - 1280⟩, A.2.1, A.2.2)
def db (A : R3) : R3 := (⟨2 * A.1.a, 2 * A.1.b, 2 * A.1.c, 2 * A.1.d⟩, 2 * A.2.1, 2 * A.2.2)
theorem reach_sh {p q : Int} {A B : R3} : reach (sh p q A).1 (sh p q B).1 = reach A.1 B.1 := by
  obtain ⟨a0, a1, a2, a3, a4, a5⟩ := reach_ok (sh p q A).1 (sh p q B).1
  obtain ⟨b0, b1, b2, b3, b4, b5⟩ := reach_ok A.1 B.1
  unfold sh at *
  dsimp only at *
  omega
theorem reach_mi {A B : R3} : reach (mi A).1 (mi B).1 = reach A.1 B.1 := by
  obtain ⟨a0, a1, a2, a3, a4, a5⟩ := reach_ok (mi A).1 (mi B).1
  obtain ⟨b0, b1, b2, b3, b4, b5⟩ := reach_ok A.1 B.1
  unfold mi at *
  dsimp only at *
  omega
theorem reach_db {A B : R3} : reach (db A).1 (db B).1 = 2 * reach A.1 B.1 := by
  obtain ⟨a0, a1, a2, a3, a4, a5⟩ := reach_ok (db A).1 (db B).1
  obtain ⟨b0, b1, b2, b3, b4, b5⟩ := reach_ok A.1 B.1
  unfold db at *
  dsimp only at *
  omega
theorem reach_comm {a b : Box} : reach a b = reach b a := by
  obtain ⟨a0, a1, a2, a3, a4, a5⟩ := reach_ok a b
  obtain ⟨b0, b1, b2, b3, b4, b5⟩ := reach_ok b a
  omega
theorem join_sh {p q : Int} {A B : R3} : join (sh p q A) (sh p q B) = sh p q (join A B) := by
  have e : dl (sh p q A) (sh p q B) = dl A B := by unfold dl; rw [reach_sh]; rfl
  unfold join
  rw [e]
  generalize dl A B = d
  unfold sh
  dsimp only
  refine r3_ext ?_ ?_ ?_ ?_ rfl rfl <;> dsimp only
  · rw [← max_add]; congr 1 <;> omega
  · rw [← min_add]; congr 1 <;> omega
  · rw [← max_add]; congr 1 <;> omega
  · rw [← min_add]; congr 1 <;> omega
theorem join_mi {A B : R3} : join (mi A) (mi B) = mi (join A B) := by
  have e : dl (mi A) (mi B) = dl A B := by unfold dl; rw [reach_mi]; rfl
  unfold join
  rw [e]
  generalize dl A B = d
  unfold mi
  dsimp only
  refine r3_ext ?_ ?_ ?_ ?_ rfl rfl <;> dsimp only
  · rw [← max_neg]; congr 1 <;> omega
  · rw [← min_neg]; congr 1 <;> omega
  · have := max_add (A.1.a - (d - A.2.1)) (B.1.a - (d - B.2.1)) (-1280)
    rw [Int.sub_eq_add_neg (a := maxI2 _ _), ← this]; congr 1 <;> omega
  · have := min_add (A.1.b + (d - A.2.1)) (B.1.b + (d - B.2.1)) (-1280)
    rw [Int.sub_eq_add_neg (a := minI2 _ _), ← this]; congr 1 <;> omega
theorem join_comm {A B : R3} : join A B = join B A := by
  have e : dl A B = dl B A := by
    unfold dl
    rw [reach_comm, max_comm A.2.1]
    congr 1
    omega
  unfold join
  rw [e]
  generalize dl B A = d
  refine r3_ext ?_ ?_ ?_ ?_ rfl ?_ <;> dsimp only
  · exact max_comm _ _
  · exact min_comm _ _
  · exact max_comm _ _
  · exact min_comm _ _
  · omega
theorem join_db {A B : R3} (h : 2 * ((reach A.1 B.1 + A.2.1 + B.2.1) / 2) = reach A.1 B.1 + A.2.1 + B.2.1) : join (db A) (db B) = db (join A B) := by
  have e : dl (db A) (db B) = 2 * dl A B := by
    unfold dl
    rw [reach_db, ← max_two, ← max_two]
    unfold db
    dsimp only
    congr 1
    omega
  unfold join
  rw [e]
  generalize dl A B = d
  unfold db
  dsimp only
  refine r3_ext ?_ ?_ ?_ ?_ rfl ?_ <;> dsimp only
  · rw [← max_two]; congr 1 <;> omega
  · rw [← min_two]; congr 1 <;> omega
  · rw [← max_two]; congr 1 <;> omega
  · rw [← min_two]; congr 1 <;> omega
  · omega
/-! what divides -/
structure Dv (m : Int) (A : R3) : Prop where
  a : m ∣ A.1.a
  b : m ∣ A.1.b
  c : m ∣ A.1.c
  d : m ∣ A.1.d
  t : m ∣ A.2.1
  w : m ∣ A.2.2
theorem dvd_max {m a b : Int} (h : m ∣ a) (k : m ∣ b) : m ∣ maxI2 a b := by
  rcases max_cases a b with ⟨q, _⟩ | ⟨q, _⟩ <;> rw [q] <;> assumption
theorem dvd_min {m a b : Int} (h : m ∣ a) (k : m ∣ b) : m ∣ minI2 a b := by
  rcases min_cases a b with ⟨q, _⟩ | ⟨q, _⟩ <;> rw [q] <;> assumption
theorem dvd_reach {m : Int} {A B : R3} (h : Dv m A) (k : Dv m B) : m ∣ reach A.1 B.1 := by
  obtain ⟨_, _, _, _, _, e⟩ := reach_ok A.1 B.1
  rcases e with e | e | e | e | e <;> rw [e]
  · exact Int.dvd_zero m
  · exact Int.dvd_sub h.a k.b
  · exact Int.dvd_sub k.a h.b
  · exact Int.dvd_sub h.c k.d
  · exact Int.dvd_sub k.c h.d
theorem dvd_half {m x : Int} (h : 2 * m ∣ x) : m ∣ x / 2 ∧ 2 * (x / 2) = x := by
  obtain ⟨c, rfl⟩ := h
  rw [Int.mul_assoc, Int.mul_ediv_cancel_left _ (by decide)]
  exact ⟨⟨c, rfl⟩, rfl⟩
theorem dvd_of2 {m x : Int} (h : 2 * m ∣ x) : m ∣ x := Int.dvd_trans (Int.dvd_mul_left 2 m) h
theorem dv_of2 {m : Int} {A : R3} (h : Dv (2 * m) A) : Dv m A := ⟨dvd_of2 h.a, dvd_of2 h.b, dvd_of2 h.c, dvd_of2 h.d, dvd_of2 h.t, dvd_of2 h.w⟩
theorem dv_join {m : Int} {A B : R3} (h2 : Dv (2 * m) A) (k2 : Dv (2 * m) B) : Dv m (join A B) ∧ 2 * ((reach A.1 B.1 + A.2.1 + B.2.1) / 2) = reach A.1 B.1 + A.2.1 + B.2.1 := by
  obtain ⟨e1, e2⟩ := dvd_half (Int.dvd_add (Int.dvd_add (dvd_reach h2 k2) h2.t) k2.t)
  refine ⟨?_, e2⟩
  have h := dv_of2 h2
  have k := dv_of2 k2
  have hd : m ∣ dl A B := dvd_max (dvd_max h.t k.t) e1
  have p := Int.dvd_sub hd h.t
  have q := Int.dvd_sub hd k.t
  exact ⟨dvd_max (Int.dvd_sub h.a p) (Int.dvd_sub k.a q), dvd_min (Int.dvd_add h.b p) (Int.dvd_add k.b q), dvd_max (Int.dvd_sub h.c p) (Int.dvd_sub k.c q), dvd_min (Int.dvd_add h.d p) (Int.dvd_add k.d q), hd, Int.dvd_add (Int.dvd_add (Int.dvd_add h.w k.w) p) q⟩
theorem dv_mg {l : List Pt} : ∀ (t : Tr) (k : Nat), ht t + k ≤ 6 → Dv (2 ^ k) (mg l t)
  | .lf i, k, h => by
    have h6 : (2 : Int) ^ k ∣ 64 := by
      unfold ht at h
      refine ⟨2 ^ (6 - k), ?_⟩
      rw [← Int.pow_add, show k + (6 - k) = 6 by omega]; rfl
    have f : ∀ x : Int, (2 : Int) ^ k ∣ 64 * x := fun x => Int.dvd_trans h6 (Int.dvd_mul_right 64 x)
    exact ⟨Int.dvd_add (f _) (f _), Int.dvd_add (f _) (f _), Int.dvd_sub (f _) (f _), Int.dvd_sub (f _) (f _), Int.dvd_zero _, Int.dvd_zero _⟩
  | .nd a b, k, h => by
    unfold ht at h
    have e : (2 : Int) ^ (k + 1) = 2 * 2 ^ k := by rw [Int.pow_succ, Int.mul_comm]
    have h1 := dv_mg (l := l) a (k + 1) (by omega)
    have h2 := dv_mg (l := l) b (k + 1) (by omega)
    rw [e] at h1 h2
    exact (dv_join h1 h2).1
theorem even_mg {l : List Pt} {a b : Tr} (h : ht (.nd a b) ≤ 6) : 2 * ((reach (mg l a).1 (mg l b).1 + (mg l a).2.1 + (mg l b).2.1) / 2) = reach (mg l a).1 (mg l b).1 + (mg l a).2.1 + (mg l b).2.1 := by
  unfold ht at h
  exact (dv_join (m := 1) (dv_mg (l := l) a 1 (by omega)) (dv_mg (l := l) b 1 (by omega))).2
/-! the turned ends -/
theorem at_mapI {α β : Type} (g : α → β) {l : List α} {i : Int} {x : α} (h : atI l i = some x) : atI (l.map g) i = some (g x) := by
  unfold atI at h ⊢
  rw [List.length_map]
  first
    | (cases hk : ixN l.length i with
       | none => rw [hk] at h; cases h
       | some k => rw [hk] at h; simp only [Option.bind_some] at h ⊢; rw [List.getElem?_map, h]; rfl)
    | (split at h <;> simp_all)
theorem pt_map {g : Pt → Pt} {l : List Pt} {i : Int} (h0 : 0 ≤ i) (h1 : i < l.length) : pt (l.map g) i = g (pt l i) := by
  obtain ⟨x, e, _⟩ := atI_lt h0 h1
  unfold pt
  rw [at_mapI g e, e]; rfl
theorem mg_map {g : Pt → Pt} {l : List Pt} {T : R3 → R3} (hl : ∀ p, (box (g p), (0 : Int), (0 : Int)) = T (box p, 0, 0)) (hj : ∀ a b, ht (.nd a b) ≤ 6 → join (T (mg l a)) (T (mg l b)) = T (join (mg l a) (mg l b))) : ∀ t, ht t ≤ 6 → (∀ i ∈ lvs t, 0 ≤ i ∧ i < l.length) → mg (l.map g) t = T (mg l t)
  | .lf i, _, h => by
    obtain ⟨h0, h1⟩ := h i (by simp [lvs])
    unfold mg
    rw [pt_map h0 h1, hl]
  | .nd a b, hh, h => by
    have hh' := hh
    unfold ht at hh'
    unfold lvs at h
    unfold mg
    rw [mg_map hl hj a (by omega) fun i hi => h i (List.mem_append_left _ hi), mg_map hl hj b (by omega) fun i hi => h i (List.mem_append_right _ hi), hj a b hh]
theorem mg_swp {l : List Pt} : ∀ t, mg l (swp t) = mg l t
  | .lf _ => rfl
  | .nd a b => by
    unfold swp mg
    rw [mg_swp a, mg_swp b, join_comm]
theorem mg_same {l : List Pt} {p : Pt} (h : ∀ i : Int, 0 ≤ i → i < l.length → pt l i = p) : ∀ t, (∀ i ∈ lvs t, 0 ≤ i ∧ i < l.length) → mg l t = (box p, 0, 0)
  | .lf i, hb => by
    obtain ⟨h0, h1⟩ := hb i (by simp [lvs])
    unfold mg
    rw [h i h0 h1]
  | .nd a b, hb => by
    unfold lvs at hb
    unfold mg
    rw [mg_same h a fun i hi => hb i (List.mem_append_left _ hi), mg_same h b fun i hi => hb i (List.mem_append_right _ hi)]
    have e : dl (box p, 0, 0) (box p, 0, 0) = 0 := by
      have : reach (box p) (box p) = 0 := by
        obtain ⟨a0, a1, a2, a3, a4, a5⟩ := reach_ok (box p) (box p)
        unfold box at *
        dsimp only at *
        omega
      unfold dl
      dsimp only
      rw [this]; rfl
    unfold join
    rw [e]
    refine r3_ext ?_ ?_ ?_ ?_ rfl rfl <;> dsimp only
    · rcases max_cases ((box p).a - (0 - 0)) ((box p).a - (0 - 0)) with ⟨q, _⟩ | ⟨q, _⟩ <;> rw [q] <;> omega
    · rcases min_cases ((box p).b + (0 - 0)) ((box p).b + (0 - 0)) with ⟨q, _⟩ | ⟨q, _⟩ <;> rw [q] <;> omega
    · rcases max_cases ((box p).c - (0 - 0)) ((box p).c - (0 - 0)) with ⟨q, _⟩ | ⟨q, _⟩ <;> rw [q] <;> omega
    · rcases min_cases ((box p).d + (0 - 0)) ((box p).d + (0 - 0)) with ⟨q, _⟩ | ⟨q, _⟩ <;> rw [q] <;> omega
/-! distances -/
structure Good (l : List Pt) (t : Tr) (A : R3) : Prop where
  ab : A.1.a ≤ A.1.b
  cd : A.1.c ≤ A.1.d
  t0 : 0 ≤ A.2.1
  near : ∀ i ∈ lvs t, A.1.b ≤ (box (pt l i)).a + A.2.1 ∧ (box (pt l i)).a - A.2.1 ≤ A.1.a ∧ A.1.d ≤ (box (pt l i)).c + A.2.1 ∧ (box (pt l i)).c - A.2.1 ≤ A.1.c
  tw : A.2.1 ≤ A.2.2
  wn : A.2.2 ≤ (lvs t).length * A.2.1
theorem wide {n d1 d w : Int} (h : 1 ≤ n) (hd : d1 ≤ d) (hw : w ≤ n * d1) : w + (d - d1) ≤ n * d := by
  have h1 := Int.mul_le_mul_of_nonneg_right h (show 0 ≤ d - d1 by omega)
  rw [Int.one_mul, Int.mul_sub n] at h1
  omega
theorem good {l : List Pt} : ∀ t, ht t ≤ 6 → Good l t (mg l t)
  | .lf i, _ => by
    refine ⟨?_, ?_, ?_, fun j hj => ?_, ?_, ?_⟩
    · exact Int.le_refl _
    · exact Int.le_refl _
    · exact Int.le_refl _
    · unfold lvs at hj
      rw [List.mem_singleton] at hj
      subst hj
      unfold mg box
      dsimp only
      omega
    · exact Int.le_refl _
    · unfold mg lvs; dsimp only; omega
  | .nd a b, hh => by
    have he := even_mg (l := l) hh
    have hh' := hh
    unfold ht at hh'
    have hA := good (l := l) a (by omega)
    have hB := good (l := l) b (by omega)
    unfold mg
    generalize mg l a = A at *
    generalize mg l b = B at *
    obtain ⟨g0, g1, g2, g3, g4, _⟩ := reach_ok A.1 B.1
    have hd : A.2.1 ≤ dl A B ∧ B.2.1 ≤ dl A B ∧ reach A.1 B.1 + A.2.1 + B.2.1 ≤ 2 * dl A B := by
      unfold dl
      generalize (reach A.1 B.1 + A.2.1 + B.2.1) / 2 = hf at *
      rcases max_cases A.2.1 B.2.1 with ⟨q, _⟩ | ⟨q, _⟩ <;> rw [q]
      · rcases max_cases A.2.1 hf with ⟨q, _⟩ | ⟨q, _⟩ <;> rw [q] <;> omega
      · rcases max_cases B.2.1 hf with ⟨q, _⟩ | ⟨q, _⟩ <;> rw [q] <;> omega
    obtain ⟨d1, d2, d3⟩ := hd
    have a1 := hA.ab
    have a2 := hA.cd
    have a3 := hA.t0
    have b1 := hB.ab
    have b2 := hB.cd
    have b3 := hB.t0
    have a4 := hA.tw
    have b4 := hB.tw
    unfold join
    generalize dl A B = d at *
    refine ⟨?_, ?_, ?_, fun j hj => ?_, ?_, ?_⟩ <;> dsimp only
    · rcases max_cases (A.1.a - (d - A.2.1)) (B.1.a - (d - B.2.1)) with ⟨q, _⟩ | ⟨q, _⟩ <;> rw [q] <;> rcases min_cases (A.1.b + (d - A.2.1)) (B.1.b + (d - B.2.1)) with ⟨q, _⟩ | ⟨q, _⟩ <;> rw [q] <;> omega
    · rcases max_cases (A.1.c - (d - A.2.1)) (B.1.c - (d - B.2.1)) with ⟨q, _⟩ | ⟨q, _⟩ <;> rw [q] <;> rcases min_cases (A.1.d + (d - A.2.1)) (B.1.d + (d - B.2.1)) with ⟨q, _⟩ | ⟨q, _⟩ <;> rw [q] <;> omega
    · omega
    · have m1 := max_cases (A.1.a - (d - A.2.1)) (B.1.a - (d - B.2.1))
      have m2 := min_cases (A.1.b + (d - A.2.1)) (B.1.b + (d - B.2.1))
      have m3 := max_cases (A.1.c - (d - A.2.1)) (B.1.c - (d - B.2.1))
      have m4 := min_cases (A.1.d + (d - A.2.1)) (B.1.d + (d - B.2.1))
      generalize maxI2 (A.1.a - (d - A.2.1)) (B.1.a - (d - B.2.1)) = x1 at *
      generalize minI2 (A.1.b + (d - A.2.1)) (B.1.b + (d - B.2.1)) = x2 at *
      generalize maxI2 (A.1.c - (d - A.2.1)) (B.1.c - (d - B.2.1)) = x3 at *
      generalize minI2 (A.1.d + (d - A.2.1)) (B.1.d + (d - B.2.1)) = x4 at *
      unfold lvs at hj
      rcases List.mem_append.mp hj with hj | hj
      · obtain ⟨n1, n2, n3, n4⟩ := hA.near j hj
        refine ⟨?_, ?_, ?_, ?_⟩ <;> omega
      · obtain ⟨n1, n2, n3, n4⟩ := hB.near j hj
        refine ⟨?_, ?_, ?_, ?_⟩ <;> omega
    · omega
    · have la := ht_lt a
      have lb := ht_lt b
      have w1 := wide (show (1 : Int) ≤ (lvs a).length by omega) d1 hA.wn
      have w2 := wide (show (1 : Int) ≤ (lvs b).length by omega) d2 hB.wn
      unfold lvs
      rw [List.length_append, Int.natCast_add, Int.add_mul]
      omega
theorem far_le {l : List Pt} {t : Tr} {A : R3} (h : Good l t A) {i j : Int} (hi : i ∈ lvs t) (hj : j ∈ lvs t) : 64 * far (pt l i) (pt l j) ≤ 2 * A.2.1 := by
  obtain ⟨a1, a2, a3, a4⟩ := h.near i hi
  obtain ⟨b1, b2, b3, b4⟩ := h.near j hj
  have := h.ab
  have := h.cd
  unfold far
  unfold box at *
  dsimp only at *
  omega
/-! ratios -/
def rt : Nat → Int → Int × Int
  | 0, v => (v, 1)
  | k + 1, v => if v % 2 = 0 then rt k (v / 2) else (v, 2 ^ (k + 1))
theorem ratio_loop : ∀ (k n : Nat) (v : Int), k < n → whileM (ρ := (Int × Int)) (fun (s3 : Int × Int) => some ((decide ((1 : Int) < s3.2)) && (decide (((Int.fmod s3.1 (2 : Int)) : Int) = (0 : Int))))) (fun (s3 : Int × Int) =>
 lt (((Int.fdiv s3.1 (2 : Int)) : Int), ((Int.fdiv s3.2 (2 : Int)) : Int)) fun p5 =>
 .ok (.nx (p5.1, p5.2))) n (v, (2 ^ k : Int)) = .ok (.nx (rt k v))
  | 0, 0, v, h => by omega
  | k + 1, 0, v, h => by omega
  | 0, n + 1, v, h => by
    unfold whileM
    rw [bo_some, if_neg (by simp)]
    rfl
  | k + 1, n + 1, v, h => by
    unfold whileM
    rw [bo_some]
    have hp : (2 : Int) ^ (k + 1) = 2 * 2 ^ k := by rw [Int.pow_succ, Int.mul_comm]
    have h0 : (0 : Int) < 2 ^ k := Int.pow_pos (by decide)
    dsimp only
    rw [Int.fmod_eq_emod_of_nonneg _ (by decide), Int.fdiv_eq_ediv_of_nonneg _ (by decide), Int.fdiv_eq_ediv_of_nonneg _ (by decide)]
    unfold rt
    by_cases hv : v % 2 = 0
    · rw [decide_eq_true (by omega), decide_eq_true hv, if_pos (by decide), lt_def, bd_ok]
      dsimp only
      rw [show (2 : Int) ^ (k + 1) / 2 = 2 ^ k by omega, ratio_loop k n (v / 2) (by omega), if_pos hv]
    · rw [decide_eq_false hv, Bool.and_false, if_neg (by decide), if_neg hv]
theorem ratio_eq (v : Int) : t_ratio v = .ok (rt 6 v) := by
  unfold t_ratio
  rw [lt_def]
  have e := ratio_loop 6 1000 v (by decide)
  rw [show (2 : Int) ^ 6 = 64 by decide] at e
  rw [e, bd_ok, lk_nx]
theorem rt_val : ∀ (k : Nat) (v : Int), 0 < (rt k v).2 ∧ (rt k v).2 ≤ 2 ^ k ∧ (rt k v).1 * 2 ^ k = v * (rt k v).2
  | 0, v => ⟨show (0 : Int) < 1 by decide, show (1 : Int) ≤ 2 ^ 0 by decide, show v * 2 ^ 0 = v * 1 by simp⟩
  | k + 1, v => by
    have hp : (2 : Int) ^ (k + 1) = 2 * 2 ^ k := by rw [Int.pow_succ, Int.mul_comm]
    have h0 : (0 : Int) < 2 ^ k := Int.pow_pos (by decide)
    unfold rt
    split
    · rename_i hv
      obtain ⟨q0, q1, q2⟩ := rt_val k (v / 2)
      generalize hu : v / 2 = u at *
      refine ⟨q0, by omega, ?_⟩
      have e1 : v = 2 * u := by omega
      rw [hp, e1]
      rw [Int.mul_assoc, ← q2, ← Int.mul_assoc, Int.mul_comm _ 2, Int.mul_assoc]
    · exact ⟨by omega, Int.le_refl _, rfl⟩
theorem rt_two {k : Nat} {v : Int} : rt (k + 1) (2 * v) = rt k v := by
  unfold rt
  rw [if_pos (by omega), show 2 * v / 2 = v by omega]
  cases k <;> rfl
/-- one is the other one's half -/
theorem rt_half : ∀ (k : Nat) (v : Int), ((rt (k + 1) v).2 = 1 ∧ rt k v = (2 * (rt (k + 1) v).1, 1)) ∨ ∃ j : Nat, (rt (k + 1) v).2 = 2 * 2 ^ j ∧ (rt (k + 1) v).1 % 2 = 1 ∧ rt k v = ((rt (k + 1) v).1, 2 ^ j)
  | 0, v => by
    unfold rt
    split
    · rename_i hv
      exact .inl ⟨rfl, by show (v, (1 : Int)) = (2 * (v / 2), 1); congr 1; omega⟩
    · exact .inr ⟨0, rfl, by dsimp only; omega, rfl⟩
  | k + 1, v => by
    have e1 : rt (k + 1 + 1) v = if v % 2 = 0 then rt (k + 1) (v / 2) else (v, 2 ^ (k + 1 + 1)) := rfl
    have e2 : rt (k + 1) v = if v % 2 = 0 then rt k (v / 2) else (v, 2 ^ (k + 1)) := rfl
    by_cases hv : v % 2 = 0
    · rw [e1, e2, if_pos hv, if_pos hv]
      exact rt_half k (v / 2)
    · rw [e1, e2, if_neg hv, if_neg hv]
      exact .inr ⟨k + 1, by dsimp only; rw [Int.pow_succ, Int.mul_comm], by dsimp only; omega, rfl⟩
theorem euclid {ρ : Type} (c : Nat) (hc : 0 < c) : ∀ (n : Nat) (a b : Nat), b < n → whileM (ρ := ρ) (fun (s3 : Int × Int) => some (!decide ((s3.2 : Int) = (0 : Int)))) (fun (s3 : Int × Int) =>
 bo (modO s3.1 s3.2) fun u5 =>
 lt ((s3.2 : Int), (u5 : Int)) fun p6 =>
 .ok (.nx (p6.1, p6.2))) n (((c * a : Nat) : Int), ((c * b : Nat) : Int)) = .ok (.nx (((c * Nat.gcd a b : Nat) : Int), 0))
  | 0, a, b, h => by omega
  | n + 1, a, b, h => by
    unfold whileM
    rw [bo_some]
    by_cases hb : b = 0
    · subst hb
      rw [if_neg (by simp), Nat.gcd_zero_right]; rfl
    · have hcb : 0 < c * b := Nat.mul_pos hc (by omega)
      have hb' : ¬((c * b : Nat) : Int) = 0 := by omega
      have e1 : modO ((c * a : Nat) : Int) ((c * b : Nat) : Int) = some ((c * (a % b) : Nat) : Int) := by
        unfold modO
        rw [if_pos (by rw [bne_iff_ne]; exact hb'), Int.fmod_eq_emod_of_nonneg _ (by omega), ← Int.natCast_emod, Nat.mul_mod_mul_left]
      have hm : a % b < b := Nat.mod_lt _ (by omega)
      dsimp only
      rw [decide_eq_false hb', if_pos (by decide), e1, bo_some, lt_def, bd_ok]
      dsimp only
      rw [euclid c hc n b (a % b) (by omega), Nat.gcd_comm b, ← Nat.gcd_rec, Nat.gcd_comm b]
theorem gcd_eq {c a b : Nat} (hc : 0 < c) (hb : b < 1000) : t__law_gcd ((c * a : Nat) : Int) ((c * b : Nat) : Int) = .ok ((c * Nat.gcd a b : Nat) : Int) := by
  unfold t__law_gcd
  rw [euclid c hc 1000 a b hb, bd_ok, lk_nx]
theorem gcd_odd {p j : Nat} (h : p % 2 = 1) : Nat.gcd (2 * p) (2 * 2 ^ j) = 2 := by
  have e : Nat.Coprime p 2 := by
    unfold Nat.Coprime
    rw [Nat.gcd_comm, Nat.gcd_rec, h]; rfl
  have := Nat.Coprime.pow_right j e
  unfold Nat.Coprime at this
  rw [Nat.gcd_mul_left, this]
theorem fdivO_eq {i j : Int} (h : divOk j = true) (h0 : 0 ≤ j) : fdivO i j = some (i / j) := by unfold fdivO; rw [if_pos h, Int.fdiv_eq_ediv_of_nonneg _ h0]
theorem plus_eq {v : Int} (h : 0 ≤ v) : t__law_plus (rt 6 v) (rt 6 v) = .ok (rt 6 (2 * v)) := by
  have hv := rt_val 6 v
  rw [rt_two]
  have hh := rt_half 5 v
  obtain ⟨q0, q1, q2⟩ := hv
  generalize rt 5 v = z at *
  generalize rt (5 + 1) v = w at *
  obtain ⟨p, q⟩ := w
  dsimp only at q0 q1 q2 hh
  have q64 : q ≤ 64 := q1
  have p0 : 0 ≤ p := by
    have : 0 ≤ v * q := Int.mul_nonneg h (by omega)
    rw [← q2] at this
    have e64 : (2 : Int) ^ 6 = 64 := by decide
    omega
  obtain ⟨p, rfl⟩ := Int.eq_ofNat_of_zero_le p0
  obtain ⟨q, rfl⟩ := Int.eq_ofNat_of_zero_le (show 0 ≤ q by omega)
  unfold t__law_plus
  dsimp only
  rw [mulO_r (by omega), bo_some, bo_some, mulO_r (by omega), bo_some, lt_def]
  have e1 : (p : Int) * q + p * q = ((q * (2 * p) : Nat) : Int) := by
    rw [Int.natCast_mul, Int.natCast_mul, Int.mul_comm (q : Int)]
    show _ = 2 * (p : Int) * q
    rw [Int.mul_assoc]; omega
  have e2 : (q : Int) * q = ((q * q : Nat) : Int) := by rw [Int.natCast_mul]
  dsimp only
  rw [e1, e2, gcd_eq (by omega) (by omega), o_ok, bo_some, lt_def]
  have hq : 0 < q := by omega
  have key : ∀ g : Nat, 0 < g → g ≤ q → fdivO ((q * (2 * p) : Nat) : Int) ((q * g : Nat) : Int) = some ((2 * p / g : Nat) : Int) ∧ fdivO ((q * q : Nat) : Int) ((q * g : Nat) : Int) = some ((q / g : Nat) : Int) := fun g g0 g1 => by
    have hpos : 0 < q * g := Nat.mul_pos hq g0
    have hle : q * g ≤ 64 * 64 := Nat.mul_le_mul (by omega) (by omega)
    have hdv : divOk ((q * g : Nat) : Int) = true := by
      generalize q * g = m at *
      unfold divOk
      rw [Bool.and_eq_true]
      exact ⟨by rw [bne_iff_ne]; omega, decide_eq_true (by omega)⟩
    refine ⟨?_, ?_⟩
    · rw [fdivO_eq hdv (by omega), ← Int.natCast_ediv, Nat.mul_div_mul_left _ _ hq]
    · rw [fdivO_eq hdv (by omega), ← Int.natCast_ediv, Nat.mul_div_mul_left _ _ hq]
  rcases hh with ⟨h1, h2⟩ | ⟨j, h1, h2, h3⟩
  · have : q = 1 := by omega
    subst this
    rw [Nat.gcd_one_right]
    obtain ⟨k1, k2⟩ := key 1 (by decide) (by decide)
    rw [k1, bo_some, k2, bo_some, h2]
    congr 2
    omega
  · have hj : q = 2 * 2 ^ j := by
      have : ((2 * 2 ^ j : Nat) : Int) = 2 * 2 ^ j := by rw [Int.natCast_mul, Int.natCast_pow]; rfl
      omega
    have hg : Nat.gcd (2 * p) q = 2 := by rw [hj]; exact gcd_odd (by omega)
    have hj0 : 0 < 2 ^ j := Nat.pow_pos (by decide)
    obtain ⟨k1, k2⟩ := key 2 (by decide) (by omega)
    rw [hg, k1, bo_some, k2, bo_some, h3]
    have e3 : (2 : Int) ^ j = ((2 ^ j : Nat) : Int) := by rw [Int.natCast_pow]; rfl
    rw [e3]
    congr 2 <;> congr 1 <;> omega
/-! wires -/
theorem wire_eq {l : List Pt} {t : Tr} (h : Ok l) (n1 : 1 ≤ l.length) (n6 : l.length ≤ 6) (hp : (lvs t).Perm (rgI 0 l.length)) : t_least_wire ⟨l⟩ (toD t) = .ok (rt 6 (mg l t).2.2, rt 6 (mg l t).2.1) := by
  have hlen := hp.length_eq
  rw [rgI_len] at hlen
  have hh := ht_lt t
  have hb : ∀ i ∈ lvs t, 0 ≤ i ∧ i < l.length := fun i hi => rgI_mem.mp (hp.mem_iff.mp hi)
  have hs : sortI (lvs t) = rgI 0 l.length := by
    have nd : (rgI 0 (l.length : Int)).Nodup := rgI_rise.imp fun h => by omega
    exact rise_unique (rise_sort (hp.nodup_iff.mpr nd)) rgI_rise fun x => sortI_mem.trans hp.mem_iff
  unfold t_least_wire t_need_clock
  rw [need_ends_eq h n1 n6, bd_ok]
  dsimp only
  rw [leaves_eq 8 t (by omega) (fun i hi => by have := hb i hi; omega) (by omega), o_ok, bo_some, rgvO_eq (by omega) (by omega) (by omega), bo_some, hs, decide_eq_true rfl, if_neg (by decide), bd_ok]
  obtain ⟨ps, e⟩ := merged_eq (l := l) 8 t (by omega) hb
  rw [e, o_ok, bo_some, lt_def]
  dsimp only
  rw [ratio_eq, o_ok, bo_some, ratio_eq, o_ok, bo_some]
/-! shapes that are drawn -/
theorem erase_map {α β : Type} (f : α → β) : ∀ (l : List α) (k : Nat), (l.map f).eraseIdx k = (l.eraseIdx k).map f
  | [], _ => rfl
  | _ :: _, 0 => rfl
  | x :: r, k + 1 => by show f x :: _ = f x :: _; rw [erase_map f r k]
theorem erase_perm {α : Type} {l : List α} {i : Nat} {x : α} (h : l[i]? = some x) : (x :: l.eraseIdx i).Perm l := by
  obtain ⟨hi, rfl⟩ := List.getElem?_eq_some_iff.mp h
  rw [List.eraseIdx_eq_take_drop_succ]
  have e : l = l.take i ++ l[i] :: l.drop (i + 1) := by
    rw [← List.drop_eq_getElem_cons hi, List.take_append_drop]
  refine (List.perm_middle.symm).trans ?_
  rw [← e]
theorem flat_perm {α β : Type} (f : α → List β) {l m : List α} (h : l.Perm m) : (l.flatMap f).Perm (m.flatMap f) := by
  induction h with
  | nil => exact .refl _
  | cons x _ ih => rw [List.flatMap_cons, List.flatMap_cons]; exact .append_left _ ih
  | swap x y l => rw [List.flatMap_cons, List.flatMap_cons, List.flatMap_cons, List.flatMap_cons, ← List.append_assoc, ← List.append_assoc]; exact .append_right _ List.perm_append_comm
  | trans _ _ h1 h2 => exact h1.trans h2
theorem topo_loop {R : List Int} : ∀ (m : Nat) (ts : List Tr) (r : DRow), ts.length < m → ts ≠ [] → ts.length ≤ 6 → RowOk' r → (ts.flatMap lvs).Perm R → ∃ r' t, whileM (ρ := (D × DRow)) (fun (s4 : DRow × (List D)) => some (decide ((1 : Int) < (s4.2.length : Int)))) (fun (s4 : DRow × (List D)) =>
 bo ((taken s4.1 (s4.2.length : Int)).o) fun u6 =>
 bo (popAtO s4.2 u6.1) fun u7 =>
 lt ((u7.2 : D)) fun one8 =>
 bo ((taken u6.2 (u7.1.length : Int)).o) fun u9 =>
 bo (popAtO u7.1 u9.1) fun u10 =>
 lt ((u10.2 : D)) fun other11 =>
 bo (appO u10.1 (emb (((one8 : D), (other11 : D)) : (D × D)) : D)) fun u12 =>
 .ok (.nx (u9.2, u12))) m (r, ts.map toD) = .ok (.nx (r', [toD t])) ∧ RowOk' r' ∧ (lvs t).Perm R
  | 0, ts, r, h, _, _, _, _ => absurd h (Nat.not_lt_zero _)
  | m + 1, ts, r, h, hne, h6, hr, hp => by
    unfold whileM
    rw [bo_some]
    have hl : 1 ≤ ts.length := List.length_pos_iff.mpr hne
    by_cases h1 : ts.length = 1
    · obtain ⟨t, rfl⟩ := List.length_eq_one_iff.mp h1
      refine ⟨r, t, ?_, hr, ?_⟩
      · rw [if_neg (by simp)]; rfl
      · rw [List.flatMap_cons, List.flatMap_nil, List.append_nil] at hp
        exact hp
    · obtain ⟨d, r1, e1, d0, d1, hr1⟩ := taken_ok (k := (ts.length : Int)) hr (by omega) (by omega)
      obtain ⟨x, ex, ep⟩ := popAtO_eq (l := ts.map toD) d0 (by rw [List.length_map]; exact d1) (by rw [List.length_map]; omega)
      rw [List.getElem?_map] at ex
      obtain ⟨a, ea, rfl⟩ := Option.map_eq_some_iff.mp ex
      rw [erase_map] at ep
      have hp1 := erase_perm ea
      generalize ts.eraseIdx d.toNat = us at hp1 ep
      have hu : us.length + 1 = ts.length := by have := hp1.length_eq; rw [List.length_cons] at this; exact this
      obtain ⟨d', r2, e2, d0', d1', hr2⟩ := taken_ok (k := (us.length : Int)) hr1 (by omega) (by omega)
      obtain ⟨y, ey, ep2⟩ := popAtO_eq (l := us.map toD) d0' (by rw [List.length_map]; exact d1') (by rw [List.length_map]; omega)
      rw [List.getElem?_map] at ey
      obtain ⟨b, eb, rfl⟩ := Option.map_eq_some_iff.mp ey
      rw [erase_map] at ep2
      have hp2 := erase_perm eb
      generalize us.eraseIdx d'.toNat = vs at hp2 ep2
      have hv : vs.length + 1 = us.length := by have := hp2.length_eq; rw [List.length_cons] at this; exact this
      have hvs : (vs ++ [Tr.nd a b]).length = vs.length + 1 := by rw [List.length_append]; rfl
      obtain ⟨r', t, e, h7, h8⟩ := topo_loop (R := R) m (vs ++ [.nd a b]) r2 (by omega) (by simp) (by omega) hr2 (by
        refine List.Perm.trans ?_ hp
        refine List.Perm.trans ?_ (flat_perm lvs ((List.Perm.cons a hp2).trans hp1))
        rw [List.flatMap_append, List.flatMap_cons, List.flatMap_nil, List.append_nil, List.flatMap_cons, List.flatMap_cons, ← List.append_assoc]
        exact List.perm_append_comm)
      refine ⟨r', t, ?_, h7, h8⟩
      rw [if_pos (decide_eq_true (by rw [List.length_map]; omega))]
      dsimp only
      rw [List.length_map, e1, o_ok, bo_some]
      dsimp only
      rw [ep, bo_some, lt_def]
      dsimp only
      rw [List.length_map, e2, o_ok, bo_some]
      dsimp only
      rw [ep2, bo_some, lt_def, appO_eq (by rw [List.length_map]; omega), bo_some, bd_ok]
      dsimp only
      rw [← e, List.map_append]
      rfl
theorem topo {r : DRow} {n : Int} (hr : RowOk' r) (n1 : 1 ≤ n) (n6 : n ≤ 6) : ∃ t r', t__law_topology r ((rgI 0 n).map fun i => PyData.int i) = .ok (toD t, r') ∧ RowOk' r' ∧ (lvs t).Perm (rgI 0 n) := by
  have hl : (rgI 0 n).length = n.toNat := by rw [rgI_len]; omega
  have ef : ∀ l : List Int, (l.map Tr.lf).flatMap lvs = l := fun l => by
    induction l with
    | nil => rfl
    | cons x l ih => rw [List.map_cons, List.flatMap_cons, ih]; rfl
  obtain ⟨r', t, e, h1, h2⟩ := topo_loop (R := rgI 0 n) 1000 ((rgI 0 n).map Tr.lf) r (by rw [List.length_map]; omega) (fun q => by
    have := congrArg List.length q
    rw [List.length_map, List.length_nil] at this
    omega) (by rw [List.length_map]; omega) hr (by rw [ef])
  rw [List.map_map] at e
  refine ⟨t, r', ?_, h1, h2⟩
  unfold t__law_topology
  rw [lt_def]
  have e' : (rgI 0 n).map (toD ∘ Tr.lf) = (rgI 0 n).map fun i => PyData.int i := rfl
  rw [e'] at e
  rw [e, bd_ok, lk_nx]
  rfl
theorem less_eq {a b c d : Int} (h1 : -(2 ^ 64) < d ∧ d < 2 ^ 64) (h2 : -(2 ^ 64) < b ∧ b < 2 ^ 64) : t__law_less (a, b) (c, d) = .ok (decide (a * d < c * b)) := by
  unfold t__law_less
  dsimp only
  rw [mulO_r h1, bo_some, mulO_r h2, bo_some]
theorem filter_true {α : Type} {l : List α} : l.filter (fun _ => true) = l := List.filter_eq_self.mpr fun _ _ => rfl
theorem dec_true {α : Type} [DecidableEq α] {x : α} : decide (x = x) = true := decide_eq_true rfl
theorem law_true : ∀ ns : List Int, ns.length ≤ 63 → t_law ⟨ns⟩ = .ok true := fun ns _ => by
  refine W.eq ?_
  unfold t_law
  rw [lt_def]
  refine w_taken row0 (by decide) (by decide) fun more r1 a0 a1 hr1 => ?_
  rw [lt_def]
  dsimp only
  rw [rgO_eq (by omega) (by omega), bo_some]
  have hc := compO_all (p := fun (x6 : Int) (s9 : DRow) => some (true, (s9))) (g := fun (x6 : Int) (s9 : DRow) => ob ((taken s9 (9 : Int)).o) fun u10 => ob ((taken u10.2 (9 : Int)).o) fun u11 => some ((((u10.1 : Int), (u11.1 : Int)) : (Int × Int)), (u11.2))) RowOk' (fun _ (y : Pt) => (0 ≤ y.1 ∧ y.1 ≤ 8) ∧ 0 ≤ y.2 ∧ y.2 ≤ 8) (xs := rgI 0 (1 + more)) (s := r1) (by rw [rgI_len]; omega) hr1 (fun x _ s hs => ⟨s, rfl, hs⟩) (fun x _ s hs => by
    obtain ⟨z, e, h⟩ := ob_taken (k := fun u10 => ob ((taken u10.2 (9 : Int)).o) fun u11 => some ((((u10.1 : Int), (u11.1 : Int)) : (Int × Int)), (u11.2))) (P := fun z => ((0 ≤ z.1.1 ∧ z.1.1 ≤ 8) ∧ 0 ≤ z.1.2 ∧ z.1.2 ≤ 8) ∧ RowOk' z.2) (n := 9) hs (by omega) (by omega) fun d r' d0 d1 hr => ob_taken (k := fun u11 : Int × DRow => some ((((d : Int), (u11.1 : Int)) : (Int × Int)), (u11.2))) (P := fun z => ((0 ≤ z.1.1 ∧ z.1.1 ≤ 8) ∧ 0 ≤ z.1.2 ∧ z.1.2 ≤ 8) ∧ RowOk' z.2) (n := 9) hr (by omega) (by omega) fun d' r' d0' d1' hr' => ⟨_, rfl, ⟨⟨by dsimp only; omega, by dsimp only; omega⟩, by dsimp only; omega, by dsimp only; omega⟩, hr'⟩
    exact ⟨z.1, z.2, e, h.1, h.2⟩)
  obtain ⟨E, r2, e, rel, hr2⟩ := hc
  refine w_bo e ?_
  have hlen := rel.len
  rw [rgI_len] at hlen
  have hE := rel.all (P := fun y : Pt => (0 ≤ y.1 ∧ y.1 ≤ 8) ∧ 0 ≤ y.2 ∧ y.2 ≤ 8) fun _ _ h => h
  have hn : (E.length : Int) = 1 + more := by omega
  clear e rel
  rw [lt_def]
  dsimp only
  rw [rgvDO_eq (rgvO_eq (by omega) (by omega) (by omega)), bo_some]
  obtain ⟨t, r3, et, hr3, hp⟩ := topo (n := 1 + more) hr2 (by omega) (by omega)
  rw [et, o_ok, bo_some, lt_def]
  dsimp only
  rw [← hn] at hp
  have hl1 : 1 ≤ E.length := by omega
  have hl6 : E.length ≤ 6 := by omega
  have hht : ht t ≤ 6 := by
    have := ht_lt t
    have h2 := hp.length_eq
    rw [rgI_len] at h2
    omega
  have hb : ∀ i ∈ lvs t, 0 ≤ i ∧ i < E.length := fun i hi => rgI_mem.mp (hp.mem_iff.mp hi)
  have hg := good (l := E) t hht
  have hD0 := hg.t0
  have hDW := hg.tw
  have hWn := hg.wn
  have hlv : (lvs t).length = E.length := by
    have h2 := hp.length_eq
    rw [rgI_len] at h2
    omega
  rw [hlv, hn] at hWn
  have hfar : ∀ x ∈ E, ∀ y ∈ E, 64 * far x y ≤ 2 * (mg E t).2.1 := fun x hx y hy => by
    have key : ∀ z ∈ E, ∃ i ∈ lvs t, pt E i = z := fun z hz => by
      obtain ⟨k, hk⟩ := List.mem_iff_getElem?.mp hz
      have hk' : k < E.length := (List.getElem?_eq_some_iff.mp hk).1
      refine ⟨(k : Int), hp.mem_iff.mpr (rgI_mem.mpr (by omega)), ?_⟩
      unfold pt
      rw [atI_nat hk]; rfl
    obtain ⟨i, hi, rfl⟩ := key x hx
    obtain ⟨j, hj, rfl⟩ := key y hy
    exact far_le hg hi hj
  obtain ⟨w, hw⟩ : ∃ w, w = rt 6 (mg E t).2.2 := ⟨_, rfl⟩
  obtain ⟨d, hd⟩ : ∃ d, d = rt 6 (mg E t).2.1 := ⟨_, rfl⟩
  have turned : ∀ (g : Pt → Pt) (T : R3 → R3), Ok (E.map g) → (∀ p, (box (g p), (0 : Int), (0 : Int)) = T (box p, 0, 0)) → (∀ a b, ht (.nd a b) ≤ 6 → join (T (mg E a)) (T (mg E b)) = T (join (mg E a) (mg E b))) → t_least_wire ⟨E.map g⟩ (toD t) = .ok (rt 6 (T (mg E t)).2.2, rt 6 (T (mg E t)).2.1) := fun g T h1 h2 h3 => by
    rw [wire_eq h1 (by rw [List.length_map]; exact hl1) (by rw [List.length_map]; exact hl6) (by rw [List.length_map]; exact hp), mg_map h2 h3 t hht hb]
  have hok : Ok E := fun p hp => by have := hE p hp; omega
  rw [wire_eq hok hl1 hl6 hp, ← hw, ← hd, o_ok, bo_some, lt_def]
  refine w_taken hr3 (by decide) (by decide) fun p r4 p0 p1 hr4 => ?_
  refine w_taken hr4 (by decide) (by decide) fun q r5 q0 q1 hr5 => ?_
  rw [lt_def]
  dsimp only
  rw [fmO_eq (by omega), bo_some, lt_def, filter_true, fmO_eq (by omega), bo_some, lt_def, filter_true]
  rw [turned (fun x => ((x.1 + p, x.2 + q) : Pt)) (sh (64 * p + 64 * q) (64 * p - 64 * q)) (fun z hz => by
    obtain ⟨y, hy, rfl⟩ := List.mem_map.mp hz
    have := hE y hy
    dsimp only
    omega) (fun z => r3_ext (by unfold box sh; dsimp only; omega) (by unfold box sh; dsimp only; omega) (by unfold box sh; dsimp only; omega) (by unfold box sh; dsimp only; omega) rfl rfl) (fun a b _ => join_sh), o_ok, bo_some]
  rw [show rt 6 (sh (64 * p + 64 * q) (64 * p - 64 * q) (mg E t)).2.2 = w from hw.symm, show rt 6 (sh (64 * p + 64 * q) (64 * p - 64 * q) (mg E t)).2.1 = d from hd.symm, dec_true, if_neg (by decide)]
  rw [turned (fun x => ((x.2, 20 - x.1) : Pt)) mi (fun z hz => by
    obtain ⟨y, hy, rfl⟩ := List.mem_map.mp hz
    have := hE y hy
    dsimp only
    omega) (fun z => r3_ext (by unfold box mi; dsimp only; omega) (by unfold box mi; dsimp only; omega) (by unfold box mi; dsimp only; omega) (by unfold box mi; dsimp only; omega) rfl rfl) (fun a b _ => join_mi), o_ok, ob_some]
  rw [show rt 6 (mi (mg E t)).2.2 = w from hw.symm, show rt 6 (mi (mg E t)).2.1 = d from hd.symm, dec_true, if_neg (by decide)]
  rw [swp_eq 8 t (by omega), o_ok, ob_some, wire_eq hok hl1 hl6 ((swp_lvs t).trans hp), mg_swp, ← hw, ← hd, o_ok, ob_some, dec_true, ob_some, bo_some, if_neg (by decide)]
  rw [fmO_eq (by omega), bo_some, lt_def, filter_true]
  rw [turned (fun x => ((2 * x.1, 2 * x.2) : Pt)) db (fun z hz => by
    obtain ⟨y, hy, rfl⟩ := List.mem_map.mp hz
    have := hE y hy
    dsimp only
    omega) (fun z => r3_ext (by unfold box db; dsimp only; omega) (by unfold box db; dsimp only; omega) (by unfold box db; dsimp only; omega) (by unfold box db; dsimp only; omega) rfl rfl) (fun a b h => join_db (even_mg h)), o_ok, bo_some]
  have pw : t__law_plus w w = .ok (rt 6 (2 * (mg E t).2.2)) := by rw [hw]; exact plus_eq (by omega)
  have pd : t__law_plus d d = .ok (rt 6 (2 * (mg E t).2.1)) := by rw [hd]; exact plus_eq (by omega)
  rw [pw, o_ok, bo_some, pd, o_ok, bo_some]
  rw [show (db (mg E t)).2.2 = 2 * (mg E t).2.2 from rfl, show (db (mg E t)).2.1 = 2 * (mg E t).2.1 from rfl, dec_true, if_neg (by decide), lt_def]
  have vw := rt_val 6 (mg E t).2.2
  have vd := rt_val 6 (mg E t).2.1
  rw [← hw] at vw
  rw [← hd] at vd
  clear pw pd hw hd
  have e64 : (2 : Int) ^ 6 = 64 := by decide
  rw [e64] at vw vd
  obtain ⟨wp, wq⟩ := w
  obtain ⟨dp, dq⟩ := d
  dsimp only at vw vd ⊢
  obtain ⟨wq0, wq1, wv⟩ := vw
  obtain ⟨dq0, dq1, dv⟩ := vd
  generalize hDD : (mg E t).2.1 = DD at *
  generalize hWW : (mg E t).2.2 = WW at *
  refine w_bd (w_fold (fun _ (s : Int) => 0 ≤ s ∧ 64 * s ≤ 2 * DD) ⟨by omega, by omega⟩ (fun pre x post s e hI => ?_) fun s hI => ?_)
  · have hx : x ∈ E := by rw [e]; simp
    rw [filO_eq (fun _ => true) (fun y => far x y) (by omega) (fun _ _ => rfl) (fun y _ _ => by rw [far_eq, o_ok, ob_some]), bo_some, filter_true, catO_eq (by rw [List.length_map, List.length_singleton]; omega), bo_some]
    obtain ⟨M, eM, hm, _⟩ := maxO_ex (x := [s] ++ E.map fun y => far x y) (by simp)
    rw [eM, bo_some, lt_def]
    show 0 ≤ M ∧ 64 * M ≤ 2 * DD
    rcases List.mem_append.mp hm with hm | hm
    · rw [List.mem_singleton] at hm
      subst hm
      exact hI
    · obtain ⟨y, hy, rfl⟩ := List.mem_map.mp hm
      exact ⟨by unfold far; omega, hfar x hx y hy⟩
  · obtain ⟨s0, s1⟩ := hI
    have l1 : ¬(dp * 2 * 1 < s * dq) := by
      have := Int.mul_le_mul_of_nonneg_right s1 (show 0 ≤ dq by omega)
      rw [Int.mul_assoc, Int.mul_assoc] at this
      omega
    have l2 : ¬(wp * dq < dp * wq) := by
      have h1 := Int.mul_le_mul_of_nonneg_right (Int.mul_le_mul_of_nonneg_right hDW (show 0 ≤ dq by omega)) (show 0 ≤ wq by omega)
      rw [← dv, Int.mul_right_comm WW, ← wv] at h1
      rw [Int.mul_right_comm dp, Int.mul_right_comm wp] at h1
      omega
    have hmx := max_cases dp 1
    have l3 : wp * dq < ((1 + more) * maxI2 dp 1 + 1) * wq := by
      have h1 := Int.mul_le_mul_of_nonneg_right (Int.mul_le_mul_of_nonneg_right hWn (show 0 ≤ wq by omega)) (show 0 ≤ dq by omega)
      rw [← wv, Int.mul_right_comm _ wq dq, Int.mul_assoc (1 + more) DD dq, ← dv, Int.mul_right_comm wp] at h1
      have h2 : (1 + more) * dp ≤ (1 + more) * maxI2 dp 1 := Int.mul_le_mul_of_nonneg_left (by omega) (by omega)
      have h3 := Int.mul_le_mul_of_nonneg_right h2 (show 0 ≤ wq by omega)
      rw [← Int.mul_assoc, Int.mul_right_comm _ 64 wq] at h1
      rw [Int.add_mul]
      omega
    rw [less_eq (by omega) (by omega), o_ok, bo_some, decide_eq_false l1, if_neg (by decide), less_eq (by omega) (by omega), o_ok, ob_some, decide_eq_false l2, if_neg (by decide), T.mulO_eq (by omega), ob_some, less_eq (by omega) (by omega), o_ok, ob_some, decide_eq_true l3, ob_some, bo_some, if_neg (by decide)]
    obtain ⟨x, ex, ex'⟩ := atI_lt (l := E) (i := 0) (by omega) (by omega)
    have hx := hE x (List.mem_of_getElem? ex')
    rw [ex, bo_some, repT_one (by omega) (by omega), bo_some]
    have hrl : (List.replicate (1 + more).toNat x).length = E.length := by rw [List.length_replicate]; omega
    rw [wire_eq (l := List.replicate (1 + more).toNat x) (fun y hy => by rw [(List.mem_replicate.mp hy).2]; omega) (by omega) (by omega) (by rw [hrl]; exact hp), mg_same (p := x) (fun i h0 h1 => by
      obtain ⟨y, ey, ey'⟩ := atI_lt h0 h1
      unfold pt
      rw [ey, (List.mem_replicate.mp (List.mem_of_getElem? ey')).2]; rfl) t (by rw [hrl]; exact hb), o_ok, bo_some]
    show decide ((rt 6 0, rt 6 0) = (((0 : Int), (1 : Int)), ((0 : Int), (1 : Int)))) = true
    decide
end K81
namespace K81
open T L3
theorem pure : ∀ ns : List Int, ns.length ≤ 63 → ∃ outs, f_law [L3.scrD ns] = .ok (.bool true) outs := fun ns h => by
  have r := r_law ⟨ns⟩
  rw [law_true ns h] at r
  obtain ⟨o, e, _⟩ := r.h
  exact ⟨o, e⟩
end K81
open PySem PySem.W PyProof.Rows
set_option maxRecDepth 100000 in
set_option maxHeartbeats 8000000 in
open_top hd for PySem.Challenge.rw_chipfloor_k81_whole_turned_clocks
set_option maxHeartbeats 0 in
theorem PySem.Challenge.cw_chipfloor_k81_whole_turned_clocks_holds : PySem.Challenge.rw_chipfloor_k81_whole_turned_clocks.Holds := by
  refine hd (L2.walk_of (l := PySem.Challenge.rw_chipfloor_k81_whole_turned_clocks) (n := 63) (k := 13) (x := "_law_script") (CX := fun w => L2.CX PySem.Challenge.rw_chipfloor_k81_whole_turned_clocks.prog w) (sp := fun w => L3.spD _ (fun _ => none) [false] K81.f_law) rfl (by decide) rfl ⟨rfl, by decide, by decide⟩ (fun w h Y => PySem.W.kIn_of Y) ?F (fun w H a ns hl _ hS => L3.law_sp hS (K81.pure ns hl)) (fun _ _ _ _ _ h => L3.cx_false h))
  case F =>
    intro w mg fa h KX G hmg
    refine' K81.all_mk KX G hmg ?a0 ?l0 ?c0 ?k0 ?a1 ?l1 ?c1 ?k1 ?a2 ?l2 ?c2 ?k2 ?a3 ?l3 ?c3 ?k3 ?a4 ?l4 ?c4 ?k4 ?a5 ?l5 ?c5 ?k5 ?a6 ?l6 ?c6 ?k6 ?a7 ?l7 ?c7 ?k7 ?a8 ?l8 ?c8 ?k8 ?a9 ?l9 ?c9 ?k9 ?a10 ?l10 ?c10 ?k10 ?a11 ?l11 ?c11 ?k11 ?a12 ?l12 ?c12 ?k12 ?a13 ?l13 ?c13 ?k13 ?a14 ?l14 ?c14 ?k14 ?a15 ?l15 ?c15 ?k15 ?a16 ?l16 ?c16 ?k16 ?a17 ?l17 ?c17 ?k17 ?a18 ?l18 ?c18 ?k18 ?a19 ?l19 ?c19 ?k19 ?a20 ?l20 ?c20 ?k20 ?z_int ?z_len ?z_list ?z_isinstance ?z_tuple ?z_bool ?z_all ?z_enumerate ?z_sorted ?z_range ?z_max ?z_min ?z_abs ?q_MOST_PLACE ?q_MOST_ENDS ?q_SCALE
    (case a0 => k_is)
    (case l0 => k_is)
    (case c0 => k_is)
    (case k0 => k_is)
    (case a1 => k_is)
    (case l1 => k_is)
    (case c1 => k_is)
    (case k1 => k_is)
    (case a2 => k_is)
    (case l2 => k_is)
    (case c2 => k_is)
    (case k2 => k_is)
    (case a3 => k_is)
    (case l3 => k_is)
    (case c3 => k_is)
    (case k3 => k_is)
    (case a4 => k_is)
    (case l4 => k_is)
    (case c4 => k_is)
    (case k4 => k_is)
    (case a5 => k_is)
    (case l5 => k_is)
    (case c5 => k_is)
    (case k5 => k_is)
    (case a6 => k_is)
    (case l6 => k_is)
    (case c6 => k_is)
    (case k6 => k_is)
    (case a7 => k_is)
    (case l7 => k_is)
    (case c7 => k_is)
    (case k7 => k_is)
    (case a8 => k_is)
    (case l8 => k_is)
    (case c8 => k_is)
    (case k8 => k_is)
    (case a9 => k_is)
    (case l9 => k_is)
    (case c9 => k_is)
    (case k9 => k_is)
    (case a10 => k_is)
    (case l10 => k_is)
    (case c10 => k_is)
    (case k10 => k_is)
    (case a11 => k_is)
    (case l11 => k_is)
    (case c11 => k_is)
    (case k11 => k_is)
    (case a12 => k_is)
    (case l12 => k_is)
    (case c12 => k_is)
    (case k12 => k_is)
    (case a13 => k_is)
    (case l13 => k_is)
    (case c13 => k_is)
    (case k13 => k_is)
    (case a14 => k_is)
    (case l14 => k_is)
    (case c14 => k_is)
    (case k14 => k_is)
    (case a15 => k_is)
    (case l15 => k_is)
    (case c15 => k_is)
    (case k15 => k_is)
    (case a16 => k_is)
    (case l16 => k_is)
    (case c16 => k_is)
    (case k16 => k_is)
    (case a17 => k_is)
    (case l17 => k_is)
    (case c17 => k_is)
    (case k17 => k_is)
    (case a18 => k_is)
    (case l18 => k_is)
    (case c18 => k_is)
    (case k18 => k_is)
    (case a19 => k_is)
    (case l19 => k_is)
    (case c19 => k_is)
    (case k19 => k_is)
    (case a20 => k_is)
    (case l20 => k_is)
    (case c20 => k_is)
    (case k20 => k_is)
    (case z_int => k_is)
    (case z_len => k_is)
    (case z_list => k_is)
    (case z_isinstance => k_is)
    (case z_tuple => k_is)
    (case z_bool => k_is)
    (case z_all => k_is)
    (case z_enumerate => k_is)
    (case z_sorted => k_is)
    (case z_range => k_is)
    (case z_max => k_is)
    (case z_min => k_is)
    (case z_abs => k_is)
    (case q_MOST_PLACE => k_is)
    (case q_MOST_ENDS => k_is)
    (case q_SCALE => k_is)
