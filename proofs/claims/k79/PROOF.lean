import PyProof.Rows.All
import Wide.All
import OpenK.AllK
import Wide.FinOn
import HandS.ForMost
import HandS.ForExc
import HandS.Star
import HandS.TupAny
import KE.DataEq
import HandS.Deep
import HandS.Style
import HandS.IsInst
import HandS.SortInts
import HandS.Conv
import HandS.CallSlots
import HandS.Iter
import HandS.Zip
import HandS.Comp
import HandS.NoneIn
import KE.GoesEnum
import HandS.RevTup
import PySem.Challenge.RW_chipfloor_k79_whole_turned_rivers
set_option Elab.async false
set_option linter.all false
set_option maxRecDepth 100000
/-! L3, part 1: cells, worlds, what an expression's pure meaning says. -/
namespace L3
open PySem PySem.Spec PyProof.Rows L2

abbrev D := PyData
/-- what a slot holds: nothing, a value that stays, a list or dict of its own, one that is being walked (p: it came as a parameter) -/
inductive Cell where
  | no | val (d : D) | own (p : Bool) (d : D) | lck (p : Bool) (d : D)
abbrev Rho := List Cell
/-- an exception: its class by name, its fields -/
structure Xn where
  cls : Str
  fs : List (Str × D)
inductive Rs (α : Type) where
  | ok (a : α) (r : Rho) | err (x : Xn) (r : Rho) | bad
/-- a value, or what slot i holds just now -/
inductive Vl where
  | d (x : D) | bv (i : Nat)

def Rs.bind {α β : Type} (x : Rs α) (f : α → Rho → Rs β) : Rs β :=
  match x with
  | .ok a r => f a r
  | .err x r => .err x r
  | .bad => .bad
@[simp] theorem Rs.bind_ok {α β : Type} {a : α} {r : Rho} {f : α → Rho → Rs β} : (Rs.ok a r).bind f = f a r := rfl
@[simp] theorem Rs.bind_err {α β : Type} {x : Xn} {r : Rho} {f : α → Rho → Rs β} : (Rs.err x r : Rs α).bind f = .err x r := rfl
@[simp] theorem Rs.bind_bad {α β : Type} {f : α → Rho → Rs β} : (Rs.bad : Rs α).bind f = .bad := rfl

/-! ### how values lie -/
def kD : Key → D
  | .inl i => .int i
  | .inr s => .str s
/-- the script, which is read alone -/
def scrD (ns : List Int) : D := .dict [(.none, .list (ns.map .int))]
mutual
inductive Rp (K : PySem.W.Frag) (F : Hp) : V → D → Prop
  | non : Rp K F .non .none
  | bl (b : Bool) : Rp K F (.bl b) (.bool b)
  | int (i : Int) : Rp K F (.int i) (.int i)
  | str (x : Str) : Rp K F (.str x) (.str x)
  | lst {a : Addr} {vs : List V} {ds : List D} : F a = some (.lst vs) → RpL K F vs ds → Rp K F (.ref a) (.list ds)
  | scr {a : Addr} {ns : List Int} : SqL K F a (ns.map V.int) → Rp K F (.ref a) (scrD ns)
  | tup {a : Addr} {vs : List V} {ds : List D} : SqT K F a vs → RpL K F vs ds → Rp K F (.ref a) (.tuple ds)
  | dK {a : Addr} {kvs : List (Key × V)} {ds : List (D × D)} : F a = some (.dK kvs) → RpK K F kvs ds → Rp K F (.ref a) (.dict ds)
  | dT {a : Addr} {kvs : List (List Key × V)} {ds : List (D × D)} : F a = some (.dT kvs) → RpT K F kvs ds → Rp K F (.ref a) (.dict ds)
inductive RpL (K : PySem.W.Frag) (F : Hp) : List V → List D → Prop
  | nil : RpL K F [] []
  | cons {v : V} {vs : List V} {d : D} {ds : List D} : Rp K F v d → RpL K F vs ds → RpL K F (v :: vs) (d :: ds)
inductive RpK (K : PySem.W.Frag) (F : Hp) : List (Key × V) → List (D × D) → Prop
  | nil : RpK K F [] []
  | cons {k : Key} {v : V} {r : List (Key × V)} {d : D} {s : List (D × D)} : Rp K F v d → RpK K F r s → RpK K F ((k, v) :: r) ((kD k, d) :: s)
inductive RpT (K : PySem.W.Frag) (F : Hp) : List (List Key × V) → List (D × D) → Prop
  | nil : RpT K F [] []
  | cons {k : List Key} {v : V} {r : List (List Key × V)} {d : D} {s : List (D × D)} : Rp K F v d → RpT K F r s → RpT K F ((k, v) :: r) ((.tuple (k.map kD), d) :: s)
end

def Sub (F H : Hp) : Prop := ∀ a o, F a = some o → H a = some o
theorem Sub.refl (F : Hp) : Sub F F := fun _ _ h => h
theorem Sub.trans {F G H : Hp} (a : Sub F G) (b : Sub G H) : Sub F H := fun c o h => b c o (a c o h)
theorem Sub.none {F H : Hp} (s : Sub F H) {a : Addr} (h : H a = none) : F a = none := by
  cases e : F a with
  | none => rfl
  | some o => rw [s a o e] at h; cases h
theorem Sub.rd {F H : Hp} (s : Sub F H) {a : Addr} {u : HO} (r : Rd F a u) : Rd H a u := by
  rcases r with r | ⟨o, r⟩
  · exact .inl (s _ _ r)
  · exact .inr ⟨o, s _ _ r⟩
theorem Sub.sqL {K : PySem.W.Frag} {F H : Hp} (s : Sub F H) {a : Addr} {xs : List V} (r : SqL K F a xs) : SqL K H a xs := r.imp s.rd fun h => h
theorem Sub.sqT {K : PySem.W.Frag} {F H : Hp} (s : Sub F H) {a : Addr} {xs : List V} (r : SqT K F a xs) : SqT K H a xs := r.imp s.rd fun h => h
mutual
theorem Rp.mono {K : PySem.W.Frag} {F G : Hp} (s : Sub F G) : ∀ {v : V} {d : D}, Rp K F v d → Rp K G v d
  | _, _, .non => .non
  | _, _, .bl b => .bl b
  | _, _, .int i => .int i
  | _, _, .str x => .str x
  | _, _, .lst h r => .lst (s _ _ h) (RpL.mono s r)
  | _, _, .scr h => .scr (s.sqL h)
  | _, _, .tup h r => .tup (s.sqT h) (RpL.mono s r)
  | _, _, .dK h r => .dK (s _ _ h) (RpK.mono s r)
  | _, _, .dT h r => .dT (s _ _ h) (RpT.mono s r)
theorem RpL.mono {K : PySem.W.Frag} {F G : Hp} (s : Sub F G) : ∀ {v : List V} {d : List D}, RpL K F v d → RpL K G v d
  | _, _, .nil => .nil
  | _, _, .cons h r => .cons (Rp.mono s h) (RpL.mono s r)
theorem RpK.mono {K : PySem.W.Frag} {F G : Hp} (s : Sub F G) : ∀ {v : List (Key × V)} {d : List (D × D)}, RpK K F v d → RpK K G v d
  | _, _, .nil => .nil
  | _, _, .cons h r => .cons (Rp.mono s h) (RpK.mono s r)
theorem RpT.mono {K : PySem.W.Frag} {F G : Hp} (s : Sub F G) : ∀ {v : List (List Key × V)} {d : List (D × D)}, RpT K F v d → RpT K G v d
  | _, _, .nil => .nil
  | _, _, .cons h r => .cons (Rp.mono s h) (RpT.mono s r)
end

/-- a container at a that one slot owns -/
def OwnAt (K : PySem.W.Frag) (F H : Hp) (a : Addr) : D → Prop
  | .list ds => ∃ vs, H a = some (.lst vs) ∧ RpL K F vs ds
  | .dict ds => (∃ kvs, H a = some (.dK kvs) ∧ RpK K F kvs ds) ∨ ∃ kvs, H a = some (.dT kvs) ∧ RpT K F kvs ds
  | _ => False
theorem OwnAt.mono {K : PySem.W.Frag} {F G H H' : Hp} (s : Sub F G) {a : Addr} (e : H' a = H a) : ∀ {d : D}, OwnAt K F H a d → OwnAt K G H' a d
  | .list _, ⟨vs, h, r⟩ => ⟨vs, e.trans h, RpL.mono s r⟩
  | .dict _, .inl ⟨vs, h, r⟩ => .inl ⟨vs, e.trans h, RpK.mono s r⟩
  | .dict _, .inr ⟨vs, h, r⟩ => .inr ⟨vs, e.trans h, RpT.mono s r⟩
theorem OwnAt.some {K : PySem.W.Frag} {F H : Hp} {a : Addr} : ∀ {d : D}, OwnAt K F H a d → ∃ o, H a = some o
  | .list _, ⟨_, h, _⟩ => ⟨_, h⟩
  | .dict _, .inl ⟨_, h, _⟩ => ⟨_, h⟩
  | .dict _, .inr ⟨_, h, _⟩ => ⟨_, h⟩
/-- once it is frozen it is a value -/
theorem OwnAt.froz {K : PySem.W.Frag} {F H : Hp} {a : Addr} {o : HO} (ho : H a = Option.some o) (s : Sub F (upd F a o)) : ∀ {d : D}, OwnAt K F H a d → Rp K (upd F a o) (.ref a) d
  | .list _, ⟨vs, h, r⟩ => by
    rw [ho] at h; cases h
    exact .lst upd_same (RpL.mono s r)
  | .dict _, .inl ⟨vs, h, r⟩ => by
    rw [ho] at h; cases h
    exact .dK upd_same (RpK.mono s r)
  | .dict _, .inr ⟨vs, h, r⟩ => by
    rw [ho] at h; cases h
    exact .dT upd_same (RpT.mono s r)

def Cell.held : Cell → Option D
  | .own _ d => some d
  | .lck _ d => some d
  | _ => none
def Cell.par : Cell → Bool
  | .own p _ => p
  | .lck p _ => p
  | _ => false
def Cell.cont : Cell → Option D
  | .val d => some d
  | .own _ d => some d
  | .lck _ d => some d
  | .no => none
/-- what others own: their objects, and the parameters' slots with their addresses -/
structure Fm where
  o : Hp
  p : List (Nat × Addr)
  /-- what is being walked: slot, address, whether a parameter, content -/
  w : List (Nat × Addr × Bool × D)

structure Wd (K : PySem.W.Frag) (F : Hp) (O : Fm) (ρ : Rho) (σ : L2.St) (H : Hp) : Prop where
  len : ρ.length = σ.length
  f : Sub F H
  o : Sub O.o H
  fo : ∀ a o, O.o a = some o → F a = none
  val : ∀ (i : Nat) (d : D), ρ[i]? = some (Cell.val d) → ∃ v, σ[i]? = some (some v) ∧ Rp K F v d
  own : ∀ (i : Nat) (c : Cell) (d : D), ρ[i]? = some c → c.held = some d → ∃ a, σ[i]? = some (some (.ref a)) ∧ F a = none ∧ O.o a = none ∧ OwnAt K F H a d
  pr : ∀ (i : Nat) (c : Cell) (a : Addr), ρ[i]? = some c → c.par = true → σ[i]? = some (some (.ref a)) → (i, a) ∈ O.p
  wl : ∀ (i : Nat) (a : Addr) (p : Bool) (d : D), (i, a, p, d) ∈ O.w → ρ[i]? = some (Cell.lck p d) ∧ σ[i]? = some (some (.ref a))
  lk : ∀ (i : Nat) (p : Bool) (d : D), ρ[i]? = some (Cell.lck p d) → ∃ a, (i, a, p, d) ∈ O.w
  ap : ∀ (i j : Nat) (c c' : Cell) (d d' : D) (a : Addr), i ≠ j → ρ[i]? = some c → ρ[j]? = some c' → c.held = some d → c'.held = some d' → σ[i]? = some (some (.ref a)) → σ[j]? = some (some (.ref a)) → False

theorem sub_upd {F : Hp} {p : Addr} {o : HO} (h : F p = none) : Sub F (upd F p o) := fun b x e => by
  rw [upd_ne (ne_of_none e h)]; exact e
theorem sub_upd2 {F H : Hp} {p : Addr} {o : HO} (s : Sub F H) : Sub (upd F p o) (upd H p o) := fun b x e => by
  by_cases hb : b = p
  · subst hb; rw [upd_same] at e ⊢; exact e
  · rw [upd_ne hb] at e ⊢; exact s b x e
section
variable {K : PySem.W.Frag} {F F' : Hp} {O : Fm} {ρ : Rho} {σ : L2.St} {H : Hp} {p : Addr} {o : HO}
/-- a new object that stays -/
theorem Wd.alloc (w : Wd K F O ρ σ H) (hp : H p = none) : Wd K (upd F p o) O ρ σ (upd H p o) := by
  have fp : F p = none := w.f.none hp
  have op : O.o p = none := w.o.none hp
  refine ⟨w.len, sub_upd2 w.f, fun a x e => ?_, fun a x e => ?_, fun i d e => ?_, fun i c d e hc => ?_, w.pr, w.wl, w.lk, w.ap⟩
  · rw [upd_ne (ne_of_none e op)]; exact w.o a x e
  · rw [upd_ne (ne_of_none e op)]; exact w.fo a x e
  · obtain ⟨v, h1, h2⟩ := w.val i d e
    exact ⟨v, h1, h2.mono (sub_upd fp)⟩
  · obtain ⟨a, h1, h2, h3, h4⟩ := w.own i c d e hc
    obtain ⟨oa, ha⟩ := h4.some
    have ne : a ≠ p := ne_of_none ha hp
    exact ⟨a, h1, by rw [upd_ne ne]; exact h2, h3, h4.mono (sub_upd fp) (upd_ne ne)⟩
/-- a new object that nobody knows (garbage) -/
theorem Wd.lose (w : Wd K F O ρ σ H) (hp : H p = none) : Wd K F O ρ σ (upd H p o) := by
  refine ⟨w.len, fun a x e => ?_, fun a x e => ?_, w.fo, w.val, fun i c d e hc => ?_, w.pr, w.wl, w.lk, w.ap⟩
  · rw [upd_ne (ne_of_none e (w.f.none hp))]; exact w.f a x e
  · rw [upd_ne (ne_of_none e (w.o.none hp))]; exact w.o a x e
  · obtain ⟨a, h1, h2, h3, h4⟩ := w.own i c d e hc
    obtain ⟨oa, ha⟩ := h4.some
    exact ⟨a, h1, h2, h3, h4.mono (Sub.refl _) (upd_ne (ne_of_none ha hp))⟩
theorem get_set {ρ : Rho} {i j : Nat} {c c' : Cell} (h : (ρ.set i c)[j]? = some c') : (j = i ∧ c' = c) ∨ (j ≠ i ∧ ρ[j]? = some c') := by
  by_cases e : i = j
  · subst e
    rw [List.getElem?_set] at h
    split at h
    · split at h
      · cases h; exact .inl ⟨rfl, rfl⟩
      · cases h
    · exact absurd rfl ‹_›
  · rw [List.getElem?_set_ne e] at h
    exact .inr ⟨fun z => e z.symm, h⟩
/-- what slot i owned stays from now on as it is -/
theorem Wd.freeze (w : Wd K F O ρ σ H) {i : Nat} {p : Bool} {d : D} (e : ρ[i]? = some (Cell.own p d)) :
    ∃ F' v, Wd K F' O (ρ.set i (.val d)) σ H ∧ Sub F F' ∧ σ[i]? = some (some v) ∧ Rp K F' v d := by
  have hc : (Cell.own p d).held = some d := rfl
  obtain ⟨a, h1, h2, h3, h4⟩ := w.own i _ d e hc
  obtain ⟨oa, ha⟩ := h4.some
  have sF : Sub F (upd F a oa) := sub_upd h2
  refine ⟨upd F a oa, .ref a, ⟨by rw [List.length_set]; exact w.len, fun b x hb => ?_, w.o, fun b x hb => ?_, fun j d' hj => ?_, fun j c' d' hj hc' => ?_, fun j c' b hj hp hb => ?_, fun j b q y hy => ?_, fun j q y hj => ?_, fun j k c1 c2 d1 d2 b ne e1 e2 q1 q2 z1 z2 => ?_⟩, sF, h1, h4.froz ha sF⟩
  · by_cases z : b = a
    · subst z; rw [upd_same] at hb; cases hb; exact ha
    · rw [upd_ne z] at hb; exact w.f b x hb
  · have z : b ≠ a := ne_of_none hb h3
    rw [upd_ne z]; exact w.fo b x hb
  · rcases get_set hj with ⟨rfl, z⟩ | ⟨_, hj⟩
    · cases z; exact ⟨_, h1, h4.froz ha sF⟩
    · obtain ⟨v, q1, q2⟩ := w.val j d' hj
      exact ⟨v, q1, q2.mono sF⟩
  · rcases get_set hj with ⟨rfl, z⟩ | ⟨ne, hj⟩
    · subst z; cases hc'
    · obtain ⟨b, q1, q2, q3, q4⟩ := w.own j c' d' hj hc'
      have nb : b ≠ a := fun z => w.ap i j _ c' d d' a (fun z => ne z.symm) e hj hc hc' h1 (z ▸ q1)
      exact ⟨b, q1, by rw [upd_ne nb]; exact q2, q3, q4.mono sF rfl⟩
  · rcases get_set hj with ⟨rfl, z⟩ | ⟨_, hj⟩
    · subst z; cases hp
    · exact w.pr j c' b hj hp hb
  · obtain ⟨q1, q2⟩ := w.wl j b q y hy
    refine ⟨?_, q2⟩
    rw [List.getElem?_set_ne (fun z => by subst z; rw [e] at q1; cases q1)]
    exact q1
  · rcases get_set hj with ⟨rfl, z⟩ | ⟨_, hj⟩
    · cases z
    · exact w.lk j q y hj
  · rcases get_set e1 with ⟨rfl, z⟩ | ⟨n1, e1⟩
    · subst z; cases q1
    · rcases get_set e2 with ⟨rfl, z⟩ | ⟨n2, e2⟩
      · subst z; cases q2
      · exact w.ap j k c1 c2 d1 d2 b ne e1 e2 q1 q2 z1 z2
end

/-! ### values of expressions -/
def RV (K : PySem.W.Frag) (F : Hp) (σ : L2.St) (v : V) : Vl → Prop
  | .d x => Rp K F v x
  | .bv i => σ[i]? = some (some v)
def Vl.cont (ρ : Rho) : Vl → Option D
  | .d x => some x
  | .bv i => ρ[i]?.bind Cell.cont
/-- d lies at v just now -/
def At (K : PySem.W.Frag) (F H : Hp) (v : V) (d : D) : Prop := Rp K F v d ∨ ∃ a, v = .ref a ∧ OwnAt K F H a d
theorem RV.mono {K : PySem.W.Frag} {F G : Hp} {σ : L2.St} {v : V} (s : Sub F G) : ∀ {x : Vl}, RV K F σ v x → RV K G σ v x
  | .d _, h => Rp.mono s h
  | .bv _, h => h
theorem Wd.at {K : PySem.W.Frag} {F : Hp} {O : Fm} {ρ : Rho} {σ : L2.St} {H : Hp} (w : Wd K F O ρ σ H) {v : V} : ∀ {x : Vl} {d : D}, RV K F σ v x → x.cont ρ = some d → At K F H v d
  | .d x, d, h, e => by cases e; exact .inl h
  | .bv i, d, h, e => by
    have h : σ[i]? = some (some v) := h
    have e : ρ[i]?.bind Cell.cont = some d := e
    cases q : ρ[i]? with
    | none => rw [q] at e; cases e
    | some c =>
      rw [q] at e
      cases c with
      | no => cases e
      | val y =>
        cases e
        obtain ⟨u, h1, h2⟩ := w.val i d q
        rw [h] at h1; cases h1
        exact .inl h2
      | own p y =>
        cases e
        obtain ⟨a, h1, _, _, h4⟩ := w.own i _ d q rfl
        rw [h] at h1; cases h1
        exact .inr ⟨a, rfl, h4⟩
      | lck p y =>
        cases e
        obtain ⟨a, h1, _, _, h4⟩ := w.own i _ d q rfl
        rw [h] at h1; cases h1
        exact .inr ⟨a, rfl, h4⟩
section
variable {K : PySem.W.Frag} {F H : Hp} {v : V} {ds : List D}
theorem At.list (s : Sub F H) (h : At K F H v (.list ds)) : ∃ a vs, v = .ref a ∧ H a = some (.lst vs) ∧ RpL K F vs ds := by
  rcases h with h | ⟨a, rfl, vs, e, r⟩
  · cases h with
    | lst h r => exact ⟨_, _, rfl, s _ _ h, r⟩
  · exact ⟨a, vs, rfl, e, r⟩
theorem At.tuple (s : Sub F H) (h : At K F H v (.tuple ds)) : ∃ a vs, v = .ref a ∧ SqT K F a vs ∧ SqT K H a vs ∧ RpL K F vs ds := by
  rcases h with h | ⟨a, _, h⟩
  · cases h with
    | tup h r => exact ⟨_, _, rfl, h, s.sqT h, r⟩
  · exact h.elim
theorem At.rp {d : D} (h : At K F H v d) (hd : ∀ a, ¬ OwnAt K F H a d) : Rp K F v d := by
  rcases h with h | ⟨a, _, h⟩
  · exact h
  · exact absurd h (hd a)
theorem At.int {i : Int} (h : At K F H v (.int i)) : v = .int i := by
  cases h.rp (fun _ z => z) with
  | int => rfl
theorem At.bool {i : Bool} (h : At K F H v (.bool i)) : v = .bl i := by
  cases h.rp (fun _ z => z) with
  | bl => rfl
theorem At.str {i : Str} (h : At K F H v (.str i)) : v = .str i := by
  cases h.rp (fun _ z => z) with
  | str => rfl
theorem At.non (h : At K F H v .none) : v = .non := by
  cases h.rp (fun _ z => z) with
  | non => rfl
end
theorem RpL.length {K : PySem.W.Frag} {F : Hp} : ∀ {vs : List V} {ds : List D}, RpL K F vs ds → vs.length = ds.length
  | _, _, .nil => rfl
  | _, _, .cons _ r => congrArg (· + 1) (RpL.length r)
theorem RpL.get {K : PySem.W.Frag} {F : Hp} : ∀ {vs : List V} {ds : List D} {i : Nat} {d : D}, RpL K F vs ds → ds[i]? = some d → ∃ v, vs[i]? = some v ∧ Rp K F v d
  | _, _, _, _, .nil, e => by simp at e
  | _, _, 0, _, .cons r _, e => by simp at e; subst e; exact ⟨_, rfl, r⟩
  | _, _, i + 1, _, .cons _ t, e => by
    obtain ⟨v, h1, h2⟩ := RpL.get (i := i) t (by simpa using e)
    exact ⟨v, by simpa using h1, h2⟩
theorem RpL.app {K : PySem.W.Frag} {F : Hp} : ∀ {vs us : List V} {ds es : List D}, RpL K F vs ds → RpL K F us es → RpL K F (vs ++ us) (ds ++ es)
  | _, _, _, _, .nil, s => s
  | _, _, _, _, .cons r t, s => .cons r (RpL.app t s)
theorem RpL.take {K : PySem.W.Frag} {F : Hp} : ∀ {vs : List V} {ds : List D} (n : Nat), RpL K F vs ds → RpL K F (vs.take n) (ds.take n)
  | _, _, 0, _ => .nil
  | _, _, _ + 1, .nil => .nil
  | _, _, n + 1, .cons r t => .cons r (RpL.take n t)
theorem RpL.drop {K : PySem.W.Frag} {F : Hp} : ∀ {vs : List V} {ds : List D} (n : Nat), RpL K F vs ds → RpL K F (vs.drop n) (ds.drop n)
  | _, _, 0, r => r
  | _, _, _ + 1, .nil => .nil
  | _, _, n + 1, .cons _ t => RpL.drop n t
theorem RpL.set {K : PySem.W.Frag} {F : Hp} {v : V} {d : D} (h : Rp K F v d) : ∀ {vs : List V} {ds : List D} (n : Nat), RpL K F vs ds → RpL K F (vs.set n v) (ds.set n d)
  | _, _, _, .nil => .nil
  | _, _, 0, .cons _ t => .cons h t
  | _, _, n + 1, .cons r t => .cons r (RpL.set h n t)

/-- an exception's object -/
def XAt (K : PySem.W.Frag) (F : Hp) (cn : Str → Option Addr) (c : Value) (dd : Option Addr) (x : Xn) : Prop :=
  ∃ C, cn x.cls = some C ∧ c = .ref C ∧ match x.fs with
    | [] => True
    | fs => ∃ d vs, dd = some d ∧ F d = some (.xd vs) ∧ ∀ f y, fs.lookup f = some y → ∃ v, vs.lookup f = some v ∧ Rp K F v y
end L3
/-! L3, part 2: expressions: names, constants, operators, comparisons, and, or, not, if, displays, items. -/
namespace L3
open PySem PySem.Spec PyProof.Rows L2

/-- what surrounds: the written part, classes by name, what is wanted of an exception -/
structure Gx where
  K : PySem.W.Frag
  cn : Str → Option Addr
  W : WX

/-- what is known behind a part: its pure result, the wish -/
def Fin (G : Gx) {α β : Type} (rel : PySem.W.Frag → Hp → L2.St → β → α → Prop) (F : Hp) (O : Fm) (σ : L2.St) (Q : β → Hp → Prop) : Rs α → Prop
  | .ok a ρ' => ∀ v H' F', Wd G.K F' O ρ' σ H' → Sub F F' → rel G.K F' σ v a → Q v H'
  | .err x ρ' => ∀ c dd H' F', Wd G.K F' O ρ' σ H' → Sub F F' → XAt G.K F' G.cn c dd x → G.W c dd σ H'
  | .bad => False
def tG (G : Gx) {α β : Type} (rel : PySem.W.Frag → Hp → L2.St → β → α → Prop) (s : Rho → Rs α) : L2.St → Hp → (β → Hp → Prop) → Prop :=
  fun σ H Q => ∃ ρ F O, Wd G.K F O ρ σ H ∧ Fin G rel F O σ Q (s ρ)
def RB (_ : PySem.W.Frag) (_ : Hp) (_ : L2.St) (b c : Bool) : Prop := b = c
def RVs (K : PySem.W.Frag) (F : Hp) (σ : L2.St) : List V → List Vl → Prop
  | [], [] => True
  | v :: vs, x :: xs => RV K F σ v x ∧ RVs K F σ vs xs
  | _, _ => False
theorem RVs.mono {K : PySem.W.Frag} {F G : Hp} {σ : L2.St} (s : Sub F G) : ∀ {vs : List V} {xs : List Vl}, RVs K F σ vs xs → RVs K G σ vs xs
  | [], [], _ => trivial
  | _ :: _, _ :: _, h => ⟨h.1.mono s, RVs.mono s h.2⟩
abbrev tE (G : Gx) (s : Rho → Rs Vl) : TE := tG G RV s
abbrev tT (G : Gx) (s : Rho → Rs Bool) : TT := tG G RB s
abbrev tA (G : Gx) (s : Rho → Rs (List Vl)) : TA := tG G RVs s

theorem PE.imp {X : Cx} {e : Expr} {t t' : TE} (h : PE X e t) (i : ∀ σ H Q, t' σ H Q → t σ H Q) : PE X e t' := ⟨fun pins s σ H Q I q => h.run pins s σ H Q I (i _ _ _ q)⟩
theorem PT.imp {X : Cx} {e : Expr} {t t' : TT} (h : PT X e t) (i : ∀ σ H Q, t' σ H Q → t σ H Q) : PT X e t' := ⟨fun pins s σ H Q I q => h.run pins s σ H Q I (i _ _ _ q)⟩
theorem PA.imp {X : Cx} {e : List Expr} {t t' : TA} (h : PA X e t) (i : ∀ σ H Q, t' σ H Q → t σ H Q) : PA X e t' := ⟨fun p pins s σ H Q I q => h.run p pins s σ H Q I (i _ _ _ q)⟩

section
variable {G : Gx} {α β α' β' : Type} {rel : PySem.W.Frag → Hp → L2.St → β → α → Prop} {rel' : PySem.W.Frag → Hp → L2.St → β' → α' → Prop} {σ : L2.St} {H : Hp} {F F1 : Hp} {O : Fm} {ρ : Rho} {Q : β → Hp → Prop} {Q' : β' → Hp → Prop}
theorem Fin.mono (s : Sub F F1) : ∀ {r : Rs α}, Fin G rel F O σ Q r → Fin G rel F1 O σ Q r
  | .ok _ _, h => fun v H' F' w z r => h v H' F' w (s.trans z) r
  | .err _ _, h => fun c dd H' F' w z x => h c dd H' F' w (s.trans z) x
  | .bad, h => h
theorem Fin.to {Q2 : β → Hp → Prop} (i : ∀ v H', Q v H' → Q2 v H') : ∀ {r : Rs α}, Fin G rel F O σ Q r → Fin G rel F O σ Q2 r
  | .ok _ _, h => fun v H' F' w z r => i _ _ (h v H' F' w z r)
  | .err _ _, h => h
  | .bad, h => h
/-- a part, then the rest -/
theorem tG.bind {s : Rho → Rs α} {f : α → Rho → Rs α'} (w : Wd G.K F O ρ σ H) (h : Fin G rel' F O σ Q' ((s ρ).bind f))
    (hQ : ∀ a ρ1 v H1 F1, s ρ = .ok a ρ1 → Wd G.K F1 O ρ1 σ H1 → Sub F F1 → rel G.K F1 σ v a → Fin G rel' F1 O σ Q' (f a ρ1) → Q v H1) : tG G rel s σ H Q := by
  refine ⟨ρ, F, O, w, ?_⟩
  cases e : s ρ with
  | ok a ρ1 =>
    rw [e] at h
    exact fun v H1 F1 w1 s1 r1 => hQ a ρ1 v H1 F1 e w1 s1 r1 (Fin.mono s1 h)
  | err x ρ1 => rw [e] at h; exact h
  | bad => rw [e] at h; exact h
end

/-- an operation of two values: what it asks when its result is z -/
def Post (G : Gx) (F : Hp) (O : Fm) (ρ : Rho) (σ : L2.St) (Q : VK) (z : D) : Prop := ∀ v H' F', Wd G.K F' O ρ σ H' → Sub F F' → Rp G.K F' v z → Q v H'
def ret (ρ : Rho) : Option D → Rs Vl
  | some z => .ok (.d z) ρ
  | none => .bad
def retO (ρ : Rho) (o : Option D) (f : D → Option D) : Rs Vl := ret ρ (o.bind f)
theorem ret_fin {G : Gx} {F : Hp} {O : Fm} {σ : L2.St} {Q : VK} {ρ : Rho} {o : Option D} (h : Fin G RV F O σ Q (ret ρ o)) : ∃ z, o = some z ∧ Post G F O ρ σ Q z := by
  cases o with
  | none => exact h.elim
  | some z => exact ⟨z, rfl, fun v H' F' w s r => h v H' F' w s r⟩
/-- two values' contents -/
def two (ρ : Rho) (a b : Vl) (f : D → D → Option D) : Rs Vl := ret ρ ((a.cont ρ).bind fun x => (b.cont ρ).bind fun y => f x y)
def one (ρ : Rho) (a : Vl) (f : D → Option D) : Rs Vl := ret ρ ((a.cont ρ).bind f)
def sBin (f : D → D → Option D) (a b : Rho → Rs Vl) : Rho → Rs Vl := fun ρ => (a ρ).bind fun x ρ => (b ρ).bind fun y ρ => two ρ x y f
def sUn (f : D → Option D) (a : Rho → Rs Vl) : Rho → Rs Vl := fun ρ => (a ρ).bind fun x ρ => one ρ x f
section
variable {G : Gx} {σ : L2.St} {H F : Hp} {O : Fm} {ρ : Rho} {Q : VK}
theorem two_fin {x y : Vl} {v u : V} {f : D → D → Option D} (w : Wd G.K F O ρ σ H) (rx : RV G.K F σ v x) (ry : RV G.K F σ u y) (h : Fin G RV F O σ Q (two ρ x y f)) :
    ∃ a b z, At G.K F H v a ∧ At G.K F H u b ∧ f a b = some z ∧ Post G F O ρ σ Q z := by
  obtain ⟨z, e, p⟩ := ret_fin h
  cases ea : x.cont ρ with
  | none => rw [ea] at e; cases e
  | some a =>
    cases eb : y.cont ρ with
    | none => rw [ea, eb] at e; cases e
    | some b =>
      rw [ea, eb] at e
      exact ⟨a, b, z, w.at rx ea, w.at ry eb, e, p⟩
theorem one_fin {x : Vl} {v : V} {f : D → Option D} (w : Wd G.K F O ρ σ H) (rx : RV G.K F σ v x) (h : Fin G RV F O σ Q (one ρ x f)) :
    ∃ a z, At G.K F H v a ∧ f a = some z ∧ Post G F O ρ σ Q z := by
  obtain ⟨z, e, p⟩ := ret_fin h
  cases ea : x.cont ρ with
  | none => rw [ea] at e; cases e
  | some a =>
    rw [ea] at e
    exact ⟨a, z, w.at rx ea, e, p⟩
/-- a result that needs no new object -/
theorem Post.now {z : D} {v : V} (p : Post G F O ρ σ Q z) (w : Wd G.K F O ρ σ H) (r : Rp G.K F v z) : Q v H := p v H F w (Sub.refl _) r
/-- a result at a new object -/
theorem Post.new {z : D} {o : HO} {a : Addr} (p : Post G F O ρ σ Q z) (w : Wd G.K F O ρ σ H) (ha : H a = none) (r : Rp G.K (upd F a o) (.ref a) z) : Q (.ref a) (upd H a o) :=
  p _ _ _ (w.alloc ha) (sub_upd (w.f.none ha)) r
end

section
variable {X : Cx} {G : Gx} {a b : Expr} {sa sb : Rho → Rs Vl} {pos : Pos}
/-- a binary operator by a rule of values -/
theorem de_bin {op : Operator} {r : R2} {f : D → D → Option D} (ho : OpR X (binaryOp op) r)
    (hr : ∀ {F : Hp} {O : Fm} {ρ : Rho} {σ : L2.St} {H : Hp} {v u : V} {x y z : D} {Q : VK}, Wd G.K F O ρ σ H → At G.K F H v x → At G.K F H u y → f x y = some z → Post G F O ρ σ Q z → r v u H Q)
    (ha : PE X a (tE G sa)) (hb : PE X b (tE G sb)) : PE X (.BinOp a op b pos) (tE G (sBin f sa sb)) := by
  refine PE.imp (pe_op ho ha hb) fun σ H Q h => ?_
  obtain ⟨ρ, F, O, w, h⟩ := h
  refine tG.bind w h fun x ρ1 v H1 F1 _ w1 s1 rx h1 => tG.bind w1 h1 fun y ρ2 u H2 F2 _ w2 s2 ry h2 => ?_
  obtain ⟨p, q, z, hp, hq, e, k⟩ := two_fin w2 (rx.mono s2) ry h2
  exact hr w2 hp hq e k
theorem de_cmp {op : CmpOp} {r : R2} {f : D → D → Option D} (ho : OpR X (compareOp op) r) (hm : behindInMarks op b = false)
    (hr : ∀ {F : Hp} {O : Fm} {ρ : Rho} {σ : L2.St} {H : Hp} {v u : V} {x y z : D} {Q : VK}, Wd G.K F O ρ σ H → At G.K F H v x → At G.K F H u y → f x y = some z → Post G F O ρ σ Q z → r v u H Q)
    (ha : PE X a (tE G sa)) (hb : PE X b (tE G sb)) : PE X (.Compare a [op] [b] pos) (tE G (sBin f sa sb)) := by
  refine PE.imp (pe_cmpR ho ha hb hm) fun σ H Q h => ?_
  obtain ⟨ρ, F, O, w, h⟩ := h
  refine tG.bind w h fun x ρ1 v H1 F1 _ w1 s1 rx h1 => tG.bind w1 h1 fun y ρ2 u H2 F2 _ w2 s2 ry h2 => ?_
  obtain ⟨p, q, z, hp, hq, e, k⟩ := two_fin w2 (rx.mono s2) ry h2
  exact hr w2 hp hq e k
theorem de_un {op : UnaryOp} {r : V → Hp → VK → Prop} {f : D → Option D} (ho : UnR X (unaryOp op) r)
    (hr : ∀ {F : Hp} {O : Fm} {ρ : Rho} {σ : L2.St} {H : Hp} {v : V} {x z : D} {Q : VK}, Wd G.K F O ρ σ H → At G.K F H v x → f x = some z → Post G F O ρ σ Q z → r v H Q)
    (ha : PE X a (tE G sa)) : PE X (.UnaryOp op a pos) (tE G (sUn f sa)) := by
  refine PE.imp (pe_un ho ha) fun σ H Q h => ?_
  obtain ⟨ρ, F, O, w, h⟩ := h
  refine tG.bind w h fun x ρ1 v H1 F1 _ w1 s1 rx h1 => ?_
  obtain ⟨p, z, hp, e, k⟩ := one_fin w1 rx h1
  exact hr w1 hp e k
end
end L3
/-! L3, part 3: the operators and comparisons over data. -/
namespace L3
open PySem PySem.Spec PyProof.Rows L2

/-! ### data as it is read -/
mutual
theorem Rp.dp {K : PySem.W.Frag} {F H : Hp} (s : Sub F H) : ∀ {d : D} {v : V}, Rp K F v d → d.plain = true → Dp K H v d
  | _, _, .non, _ => .non
  | _, _, .bl b, _ => .bl b
  | _, _, .int i, _ => .int i
  | _, _, .str x, _ => .str x
  | _, _, .lst h r, p => .lst (SqL.of (s _ _ h)) (RpL.dp s r (by simpa only [PyData.plain] using p))
  | _, _, .tup h r, p => .tup (s.sqT h) (RpL.dp s r (by simpa only [PyData.plain] using p))
  | _, _, .scr h, p => by simp [scrD, PyData.plain] at p
  | _, _, .dK h r, p => by simp [PyData.plain] at p
  | _, _, .dT h r, p => by simp [PyData.plain] at p
theorem RpL.dp {K : PySem.W.Frag} {F H : Hp} (s : Sub F H) : ∀ {d : List D} {v : List V}, RpL K F v d → PyData.plainAll d = true → DpAll K H v d
  | _, _, .nil, _ => .nil
  | _, _, .cons h r, p => by
    simp only [PyData.plainAll, Bool.and_eq_true] at p
    exact .cons (Rp.dp s h p.1) (RpL.dp s r p.2)
end
theorem At.dp {K : PySem.W.Frag} {F H : Hp} {d : D} {v : V} (s : Sub F H) (h : At K F H v d) (p : d.plain = true) : Dp K H v d := by
  rcases h with h | ⟨a, rfl, h⟩
  · exact h.dp s p
  · cases d with
    | list ds =>
      obtain ⟨vs, e, r⟩ := h
      exact .lst (SqL.of e) (r.dp s (by simpa only [PyData.plain] using p))
    | _ => first | exact h.elim | (simp [PyData.plain] at p)

/-! ### arithmetic -/
def inW (i : Int) : Bool := decide (-(2 ^ 64) < i) && decide (i < 2 ^ 64)
theorem inW_iff {i : Int} : inW i = true ↔ -(2 ^ 64) < i ∧ i < 2 ^ 64 := by simp [inW]
@[irreducible] def szOk (n : Nat) : Bool := decide (n ≤ sizeLine)
theorem szOk_iff {n : Nat} : szOk n = true ↔ n ≤ sizeLine := by simp [szOk]
def addD : D → D → Option D
  | .int i, .int j => some (.int (i + j))
  | .str x, .str y => if szOk (x.length + y.length) then some (.str (x ++ y)) else none
  | .tuple xs, .tuple ys => if szOk (xs.length + ys.length) then some (.tuple (xs ++ ys)) else none
  | .list xs, .list ys => if szOk (xs.length + ys.length) then some (.list (xs ++ ys)) else none
  | _, _ => none
def onInts (f : Int → Int → Option D) : D → D → Option D
  | .int i, .int j => f i j
  | _, _ => none
def subD : D → D → Option D := onInts fun i j => some (.int (i - j))
def mulD : D → D → Option D := onInts fun i j => if inW i || inW j then some (.int (i * j)) else none
def divOk (j : Int) : Bool := j != 0 && decide (j.natAbs < 1073741824)
def fdivD : D → D → Option D := onInts fun i j => if divOk j then some (.int (i.fdiv j)) else none
def modD : D → D → Option D := onInts fun i j => if j != 0 then some (.int (i.fmod j)) else none
def powOk (i j : Int) : Bool := decide (0 ≤ j) && decide (j ≤ 1000000) && decide (i.natAbs < 2 ^ 64)
def powD : D → D → Option D := onInts fun i j => if powOk i j then some (.int (i ^ j.toNat)) else none
def shlD : D → D → Option D := onInts fun i j => if powOk i j then some (.int (i * 2 ^ j.toNat)) else none
def shrD : D → D → Option D := onInts fun i j => if decide (0 ≤ j) then some (.int (i / 2 ^ j.toNat)) else none
def andD : D → D → Option D := onInts fun i j => some (.int (Builtin.bitAnd i j))
def binD : Operator → D → D → Option D
  | .Add => addD
  | .Sub => subD
  | .Mult => mulD
  | .FloorDiv => fdivD
  | .Mod => modD
  | .Pow => powD
  | .LShift => shlD
  | .RShift => shrD
  | .BitAnd => andD
  | _ => fun _ _ => none

theorem ifs {α : Type} {c : Bool} {x z : α} (h : (if c = true then some x else none) = some z) : c = true ∧ x = z := by
  split at h
  · exact ⟨‹_›, Option.some.inj h⟩
  · cases h

section
variable {X : Cx} {G : Gx} {a b : Expr} {sa sb : Rho → Rs Vl} {pos : Pos}
section
variable {F : Hp} {O : Fm} {ρ : Rho} {σ : L2.St} {H : Hp} {v u : V} {x y z : D} {Q : VK}
theorem int2 {f : Int → Int → Option D} (ax : At G.K F H v x) (ay : At G.K F H u y)
    (e : onInts f x y = some z) : ∃ i j, v = .int i ∧ u = .int j ∧ x = .int i ∧ y = .int j ∧ f i j = some z := by
  cases x with
  | int i =>
    cases y with
    | int j => exact ⟨i, j, ax.int, ay.int, rfl, rfl, e⟩
    | _ => cases e
  | _ => cases e
end
theorem add_ok (hK : X.K = G.K) : ∃ r : R2, OpR X (binaryOp .Add) r ∧ ∀ {F : Hp} {O : Fm} {ρ : Rho} {σ : L2.St} {H : Hp} {v u : V} {x y z : D} {Q : VK}, Wd G.K F O ρ σ H → At G.K F H v x → At G.K F H u y → addD x y = some z → Post G F O ρ σ Q z → r v u H Q := by
  refine ⟨_, ((op_add.or op_add_str).or op_catA).or op_cat, ?_⟩
  intro F O ρ σ H v u x y z Q w ax ay e p
  cases x with
  | int i =>
    cases y with
    | int j =>
      have e : some (PyData.int (i + j)) = some z := e
      cases e
      rw [ax.int, ay.int]
      exact .inl (.inl (.inl ⟨i, j, rfl, rfl, p.now w (.int _)⟩))
    | _ => cases e
  | str i =>
    cases y with
    | str j =>
      obtain ⟨h1, rfl⟩ := ifs e
      rw [ax.str, ay.str]
      exact .inl (.inl (.inr ⟨i, j, rfl, rfl, szOk_iff.mp h1, p.now w (.str _)⟩))
    | _ => cases e
  | tuple xs =>
    cases y with
    | tuple ys =>
      obtain ⟨h1, rfl⟩ := ifs e
      obtain ⟨a, vs, rfl, f1, q1, r1⟩ := ax.tuple w.f
      obtain ⟨b, us, rfl, f2, q2, r2⟩ := ay.tuple w.f
      rw [hK]
      refine .inl (.inr ⟨a, b, vs, us, rfl, rfl, q1, q2, by rw [r1.length, r2.length]; exact szOk_iff.mp h1, fun h => ?_, fun _ h => ?_, fun _ _ q hq => ?_⟩)
      · subst h; cases r1; exact p.now w (.tup f2 r2)
      · subst h; cases r2; refine p.now w (.tup f1 ?_); rw [List.append_nil]; exact r1
      · exact p.new w hq (.tup (.inl (.inl upd_same)) ((r1.app r2).mono (sub_upd (w.f.none hq))))
    | _ => cases e
  | list xs =>
    cases y with
    | list ys =>
      obtain ⟨h1, rfl⟩ := ifs e
      obtain ⟨a, vs, rfl, q1, r1⟩ := ax.list w.f
      obtain ⟨b, us, rfl, q2, r2⟩ := ay.list w.f
      exact .inr ⟨a, b, vs, us, rfl, rfl, q1, q2, by rw [r1.length, r2.length]; exact szOk_iff.mp h1, fun q hq => p.new w hq (.lst upd_same ((r1.app r2).mono (sub_upd (w.f.none hq))))⟩
    | _ => cases e
  | _ => cases e
theorem de_binop {op : Operator} (hK : X.K = G.K) (hop : [Operator.Add, .Sub, .Mult, .FloorDiv, .Mod, .Pow, .LShift, .RShift, .BitAnd].contains op = true) (ha : PE X a (tE G sa)) (hb : PE X b (tE G sb)) : PE X (.BinOp a op b pos) (tE G (sBin (binD op) sa sb)) := by
  cases op with
  | Add =>
    obtain ⟨r, h1, h2⟩ := add_ok (X := X) (G := G) hK
    exact de_bin h1 h2 ha hb
  | Sub =>
    refine de_bin op_sub (fun {F O ρ σ H v u x y z Q} w ax ay e p => ?_) ha hb
    obtain ⟨i, j, rfl, rfl, rfl, rfl, e⟩ := int2 (f := fun i j => some (.int (i - j))) ax ay e
    cases e
    exact ⟨i, j, rfl, rfl, p.now w (.int _)⟩
  | Mult =>
    refine de_bin op_mul (fun {F O ρ σ H v u x y z Q} w ax ay e p => ?_) ha hb
    obtain ⟨i, j, rfl, rfl, rfl, rfl, e⟩ := int2 (f := fun i j => if inW i || inW j then some (.int (i * j)) else none) ax ay e
    obtain ⟨h1, rfl⟩ := ifs e
    rw [Bool.or_eq_true] at h1
    exact ⟨i, j, rfl, rfl, h1.imp inW_iff.mp inW_iff.mp, p.now w (.int _)⟩
  | FloorDiv =>
    refine de_bin op_fdivN (fun {F O ρ σ H v u x y z Q} w ax ay e p => ?_) ha hb
    obtain ⟨i, j, rfl, rfl, rfl, rfl, e⟩ := int2 (f := fun i j => if divOk j then some (.int (i.fdiv j)) else none) ax ay e
    obtain ⟨h1, rfl⟩ := ifs e
    exact ⟨i, j, rfl, rfl, by simpa [divOk, CDivN] using h1, p.now w (.int _)⟩
  | Mod =>
    refine de_bin op_modN (fun {F O ρ σ H v u x y z Q} w ax ay e p => ?_) ha hb
    obtain ⟨i, j, rfl, rfl, rfl, rfl, e⟩ := int2 (f := fun i j => if j != 0 then some (.int (i.fmod j)) else none) ax ay e
    obtain ⟨h1, rfl⟩ := ifs e
    exact ⟨i, j, rfl, rfl, by simpa using h1, p.now w (.int _)⟩
  | Pow =>
    refine de_bin op_pow (fun {F O ρ σ H v u x y z Q} w ax ay e p => ?_) ha hb
    obtain ⟨i, j, rfl, rfl, rfl, rfl, e⟩ := int2 (f := fun i j => if powOk i j then some (.int (i ^ j.toNat)) else none) ax ay e
    obtain ⟨h1, rfl⟩ := ifs e
    exact ⟨i, j, rfl, rfl, by simpa [powOk, CPow, and_assoc] using h1, p.now w (.int _)⟩
  | LShift =>
    refine de_bin op_shl (fun {F O ρ σ H v u x y z Q} w ax ay e p => ?_) ha hb
    obtain ⟨i, j, rfl, rfl, rfl, rfl, e⟩ := int2 (f := fun i j => if powOk i j then some (.int (i * 2 ^ j.toNat)) else none) ax ay e
    obtain ⟨h1, rfl⟩ := ifs e
    exact ⟨i, j, rfl, rfl, by simpa [powOk, CPow, and_assoc] using h1, p.now w (.int _)⟩
  | RShift =>
    refine de_bin op_shr (fun {F O ρ σ H v u x y z Q} w ax ay e p => ?_) ha hb
    obtain ⟨i, j, rfl, rfl, rfl, rfl, e⟩ := int2 (f := fun i j => if decide (0 ≤ j) then some (.int (i / 2 ^ j.toNat)) else none) ax ay e
    obtain ⟨h1, rfl⟩ := ifs e
    exact ⟨i, j, rfl, rfl, of_decide_eq_true h1, p.now w (.int _)⟩
  | BitAnd =>
    refine de_bin op_and (fun {F O ρ σ H v u x y z Q} w ax ay e p => ?_) ha hb
    obtain ⟨i, j, rfl, rfl, rfl, rfl, e⟩ := int2 (f := fun i j => some (.int (Builtin.bitAnd i j))) ax ay e
    cases e
    exact ⟨i, j, rfl, rfl, p.now w (.int _)⟩
  | _ => exact absurd hop (by decide)
def negD : D → Option D
  | .int i => some (.int (-i))
  | _ => none
theorem de_neg (ha : PE X a (tE G sa)) : PE X (.UnaryOp .USub a pos) (tE G (sUn negD sa)) := by
  refine de_un un_neg (fun {F O ρ σ H v x z Q} w ax e p => ?_) ha
  cases x with
  | int i => cases e; exact ⟨i, ax.int, p.now w (.int _)⟩
  | _ => cases e

/-! ### comparisons -/
def eqOk (x y : D) : Bool := x.plain && y.plain && decide (min x.depth y.depth ≤ 150)
def eqD (x y : D) : Option D := if eqOk x y then some (.bool (PyData.eqv x y)) else none
def neD (x y : D) : Option D := if eqOk x y then some (.bool (!PyData.eqv x y)) else none
def rEqA (K : PySem.W.Frag) : R2 := fun x y H Q => ∃ d e, Dp K H x d ∧ Dp K H y e ∧ d.plain = true ∧ e.plain = true ∧ min d.depth e.depth ≤ 150 ∧ Q (.bl (PyData.eqv d e)) H
def rNeA (K : PySem.W.Frag) : R2 := fun x y H Q => ∃ d e, Dp K H x d ∧ Dp K H y e ∧ d.plain = true ∧ e.plain = true ∧ min d.depth e.depth ≤ 150 ∧ Q (.bl (!PyData.eqv d e)) H
theorem op_eqA (hu : X.A.units + 200 < cLine) : OpR X (compareOp .Eq) (rEqA X.K) := by
  intro pins sh σ H x y v u Q I rx ry asks
  obtain ⟨d, e, hd, he, sd, se, hm, q⟩ := asks
  obtain ⟨fst, r1⟩ := Dp.reads I d x v hd rx
  obtain ⟨snd, r2⟩ := Dp.reads I e y u he ry
  exact SeqAt.eq_plain r1 r2 sd se (by omega) ⟨.bl _, H, I, rfl, q⟩
theorem op_neA (hu : X.A.units + 200 < cLine) : OpR X (compareOp .NotEq) (rNeA X.K) := by
  intro pins sh σ H x y v u Q I rx ry asks
  obtain ⟨d, e, hd, he, sd, se, hm, q⟩ := asks
  obtain ⟨fst, r1⟩ := Dp.reads I d x v hd rx
  obtain ⟨snd, r2⟩ := Dp.reads I e y u he ry
  exact SeqAt.ne_plain r1 r2 sd se (by omega) ⟨.bl _, H, I, rfl, q⟩
theorem eqOk_iff {x y : D} : eqOk x y = true ↔ x.plain = true ∧ y.plain = true ∧ min x.depth y.depth ≤ 150 := by simp only [eqOk, Bool.and_eq_true, decide_eq_true_eq, and_assoc]
theorem de_eq (hK : X.K = G.K) (hu : X.A.units + 200 < cLine) (ha : PE X a (tE G sa)) (hb : PE X b (tE G sb)) : PE X (.Compare a [.Eq] [b] pos) (tE G (sBin eqD sa sb)) := by
  refine de_cmp (op_eqA hu) (nomark _) (fun {F O ρ σ H v u x y z Q} w ax ay e p => ?_) ha hb
  obtain ⟨h1, rfl⟩ := ifs e
  obtain ⟨p1, p2, p3⟩ := eqOk_iff.mp h1
  rw [hK]
  exact ⟨x, y, ax.dp w.f p1, ay.dp w.f p2, p1, p2, p3, p.now w (.bl _)⟩
theorem de_ne (hK : X.K = G.K) (hu : X.A.units + 200 < cLine) (ha : PE X a (tE G sa)) (hb : PE X b (tE G sb)) : PE X (.Compare a [.NotEq] [b] pos) (tE G (sBin neD sa sb)) := by
  refine de_cmp (op_neA hu) (nomark _) (fun {F O ρ σ H v u x y z Q} w ax ay e p => ?_) ha hb
  obtain ⟨h1, rfl⟩ := ifs e
  obtain ⟨p1, p2, p3⟩ := eqOk_iff.mp h1
  rw [hK]
  exact ⟨x, y, ax.dp w.f p1, ay.dp w.f p2, p1, p2, p3, p.now w (.bl _)⟩
end
end L3
/-! L3, part 4: names, constants, tests, and, or, not, if, displays, items, slices. -/
namespace L3
open PySem PySem.Spec PyProof.Rows L2

/-! ### an expression, as a value and as a test -/
def boolOf (o : Option D) (ρ : Rho) : Rs Bool :=
  match o with
  | some (.bool b) => .ok b ρ
  | _ => .bad
def asB (s : Rho → Rs Vl) : Rho → Rs Bool := fun ρ => (s ρ).bind fun x ρ => boolOf (x.cont ρ) ρ
theorem boolOf_fin {G : Gx} {F H : Hp} {O : Fm} {σ : L2.St} {ρ : Rho} {Q : Bool → Hp → Prop} {x : Vl} {v : V} (w : Wd G.K F O ρ σ H) (rx : RV G.K F σ v x) (h : Fin G RB F O σ Q (boolOf (x.cont ρ) ρ)) : ∃ k, v = .bl k ∧ Q k H := by
  cases e : x.cont ρ with
  | none => rw [e] at h; exact h.elim
  | some d =>
    rw [e] at h
    cases d with
    | bool b => exact ⟨b, (w.at rx e).bool, h b H F w (Sub.refl _) rfl⟩
    | _ => exact h.elim
structure DE (X : Cx) (G : Gx) (e : Expr) (s : Rho → Rs Vl) : Prop where
  pe : PE X e (tE G s)
  pt : PT X e (tT G (asB s))
section
variable {X : Cx} {G : Gx} {e : Expr} {s : Rho → Rs Vl}
theorem asB_t {σ : L2.St} {H : Hp} {Q : Bool → Hp → Prop} (h : tT G (asB s) σ H Q) : tE G s σ H (fun v H' => ∃ k, v = .bl k ∧ Q k H') := by
  obtain ⟨ρ, F, O, w, h⟩ := h
  exact tG.bind w h fun x ρ1 v H1 F1 _ w1 s1 rx h1 => boolOf_fin w1 rx h1
/-- where isTrue has no arm of its own -/
theorem DE.val (h : PE X e (tE G s)) (he : ∀ whole, isTrue e X.env whole = (do let v ← whole; standAt e.pos; holding [v] (truthy v))) : DE X G e s :=
  ⟨h, PT.imp (pt_val h he) fun _ _ _ q => asB_t q⟩
end

/-! ### names and constants -/
def sVar (i : Nat) : Rho → Rs Vl := fun ρ =>
  match ρ[i]? with
  | some (Cell.val d) => .ok (.d d) ρ
  | some (Cell.own _ _) => .ok (.bv i) ρ
  | some (Cell.lck _ _) => .ok (.bv i) ρ
  | _ => .bad
def sC (d : D) : Rho → Rs Vl := fun ρ => .ok (.d d) ρ
section
variable {X : Cx} {G : Gx}
theorem de_var {i : Nat} {x : Str} {pos : Pos} (hN : X.N[i]? = some x) (hv : Vis X.env.scope x) (hd : (x == ("__debug__" : Str)) = false) (hcd : (x == ("__classdict__" : Str)) = false) : DE X G (.Name x pos) (sVar i) := by
  refine .val (PE.imp (pe_var hN hv hd hcd) fun σ H Q h => ?_) fun _ => rfl
  obtain ⟨ρ, F, O, w, h⟩ := h
  unfold sVar at h
  cases e : ρ[i]? with
  | none => rw [e] at h; exact h.elim
  | some c =>
    rw [e] at h
    cases c with
    | no => exact h.elim
    | val d =>
      obtain ⟨v, h1, h2⟩ := w.val i d e
      exact ⟨v, h1, h v H F w (Sub.refl _) h2⟩
    | own p d =>
      obtain ⟨a, h1, h2⟩ := w.own i _ d e rfl
      exact ⟨_, h1, h _ H F w (Sub.refl _) h1⟩
    | lck p d =>
      obtain ⟨a, h1, h2⟩ := w.own i _ d e rfl
      exact ⟨_, h1, h _ H F w (Sub.refl _) h1⟩
theorem de_c {e : Expr} {v : V} {d : D} (h : PE X e (tC v)) (r : ∀ F, Rp G.K F v d) (he : ∀ whole, isTrue e X.env whole = (do let v ← whole; standAt e.pos; holding [v] (truthy v))) : DE X G e (sC d) := by
  refine .val (PE.imp h fun σ H Q q => ?_) he
  obtain ⟨ρ, F, O, w, q⟩ := q
  exact q v H F w (Sub.refl _) (r F)
theorem de_int {i : Int} {j pos} : DE X G (.Constant (.int i) j pos) (sC (.int i)) := de_c pe_int (fun _ => .int i) fun _ => rfl
theorem de_bl {i : Bool} {j pos} : DE X G (.Constant (.bool i) j pos) (sC (.bool i)) := de_c pe_bl (fun _ => .bl i) fun _ => rfl
theorem de_non {j pos} : DE X G (.Constant .none j pos) (sC .none) := de_c pe_non (fun _ => .non) fun _ => rfl
theorem de_str {x : Str} {j pos} : DE X G (.Constant (.str x) j pos) (sC (.str x)) := de_c pe_str (fun _ => .str x) fun _ => rfl
/-- a module's constant -/
theorem de_glob {x : Str} {v : V} {u : Value} {d : D} {pos : Pos} (hg : Gl X x) (hm : X.mg x = some u) (r : RelV v u) (q : ∀ F, Rp G.K F v d) (hd : (x == ("__debug__" : Str)) = false) : DE X G (.Name x pos) (sC d) :=
  de_c (pe_glob hg hm r hd) q fun _ => rfl

/-! ### comparisons with tests -/
variable {a b c : Expr} {sa sb sc : Rho → Rs Vl} {pos : Pos}
theorem dd_cmp {op : CmpOp} {r : R2} {f : D → D → Option D} (ho : OpR X (compareOp op) r) (hm : behindInMarks op b = false)
    (hr : ∀ {F : Hp} {O : Fm} {ρ : Rho} {σ : L2.St} {H : Hp} {v u : V} {x y z : D} {Q : VK}, Wd G.K F O ρ σ H → At G.K F H v x → At G.K F H u y → f x y = some z → Post G F O ρ σ Q z → r v u H Q)
    (ha : DE X G a sa) (hb : DE X G b sb) : DE X G (.Compare a [op] [b] pos) (sBin f sa sb) := by
  have i : ∀ σ H Q, tE G (sBin f sa sb) σ H Q → tOp r (tE G sa) (tE G sb) σ H Q := fun σ H Q h => by
    obtain ⟨ρ, F, O, w, h⟩ := h
    refine tG.bind w h fun x ρ1 v H1 F1 _ w1 s1 rx h1 => tG.bind w1 h1 fun y ρ2 u H2 F2 _ w2 s2 ry h2 => ?_
    obtain ⟨p, q, z, hp, hq, e, k⟩ := two_fin w2 (rx.mono s2) ry h2
    exact hr w2 hp hq e k
  exact ⟨PE.imp (pe_cmpR ho ha.pe hb.pe hm) i, PT.imp (pt_cmpR ho ha.pe hb.pe hm) fun σ H Q h => i _ _ _ (asB_t h)⟩
/-- what a comparison of values asks, for chains -/
def CmpOk (X : Cx) (G : Gx) (op : CmpOp) (f : D → D → Option D) : Prop := ∃ r : R2, OpR X (compareOp op) r ∧
  ∀ {F : Hp} {O : Fm} {ρ : Rho} {σ : L2.St} {H : Hp} {v u : V} {x y z : D} {Q : VK}, Wd G.K F O ρ σ H → At G.K F H v x → At G.K F H u y → f x y = some z → Post G F O ρ σ Q z → r v u H Q
theorem CmpOk.de {op : CmpOp} {f : D → D → Option D} (h : CmpOk X G op f) (hm : behindInMarks op b = false) (ha : DE X G a sa) (hb : DE X G b sb) : DE X G (.Compare a [op] [b] pos) (sBin f sa sb) :=
  let ⟨_, ho, hr⟩ := h
  dd_cmp ho hm hr ha hb
theorem cmp_eq (hK : X.K = G.K) (hu : X.A.units + 200 < cLine) : CmpOk X G .Eq eqD := by
  refine ⟨_, op_eqA hu, fun {F O ρ σ H v u x y z Q} w ax ay e p => ?_⟩
  obtain ⟨h1, rfl⟩ := ifs e
  obtain ⟨p1, p2, p3⟩ := eqOk_iff.mp h1
  rw [hK]
  exact ⟨x, y, ax.dp w.f p1, ay.dp w.f p2, p1, p2, p3, p.now w (.bl _)⟩
theorem cmp_ne (hK : X.K = G.K) (hu : X.A.units + 200 < cLine) : CmpOk X G .NotEq neD := by
  refine ⟨_, op_neA hu, fun {F O ρ σ H v u x y z Q} w ax ay e p => ?_⟩
  obtain ⟨h1, rfl⟩ := ifs e
  obtain ⟨p1, p2, p3⟩ := eqOk_iff.mp h1
  rw [hK]
  exact ⟨x, y, ax.dp w.f p1, ay.dp w.f p2, p1, p2, p3, p.now w (.bl _)⟩
theorem cmp_int {op : CmpOp} {p : Int → Int → Bool} (ho : OpR X (compareOp op) (rI0 fun i j => .bl (p i j))) : CmpOk X G op (onInts fun i j => some (.bool (p i j))) := by
  refine ⟨_, ho, fun {F O ρ σ H v u x y z Q} w ax ay e k => ?_⟩
  obtain ⟨i, j, rfl, rfl, rfl, rfl, e⟩ := int2 (G := G) (f := fun i j => some (.bool (p i j))) ax ay e
  cases e
  exact ⟨i, j, rfl, rfl, k.now w (.bl _)⟩
/-- is None, is not None; is of two truth values -/
def isNon : D → Bool
  | .none => true
  | _ => false
def isD : D → D → Option D
  | x, .none => some (.bool (isNon x))
  | .bool a, .bool b => some (.bool (decide (a = b)))
  | _, _ => none
def isnD : D → D → Option D
  | x, .none => some (.bool (!isNon x))
  | .bool a, .bool b => some (.bool (!decide (a = b)))
  | _, _ => none
theorem At.isN {K : PySem.W.Frag} {F H : Hp} {v : V} {x : D} (h : At K F H v x) : decide (v = .non) = isNon x := by
  rcases h with h | ⟨a, rfl, h⟩
  · cases h <;> first | rfl | (simp [scrD, isNon])
  · cases x with
    | none => exact h.elim
    | _ => first | rfl | (simp [isNon])
theorem cmp_is : CmpOk X G .Is isD := by
  refine ⟨_, op_isN.or op_isBl, fun {F O ρ σ H v u x y z Q} w ax ay e k => ?_⟩
  cases y with
  | none =>
    have e : some (PyData.bool (isNon x)) = some z := by cases x <;> exact e
    cases e
    refine .inl ⟨ay.non, ?_⟩
    rw [ax.isN]
    exact k.now w (.bl _)
  | bool b =>
    cases x with
    | bool a =>
      have e : some (PyData.bool (decide (a = b))) = some z := e
      cases e
      exact .inr ⟨a, b, ax.bool, ay.bool, k.now w (.bl _)⟩
    | _ => cases e
  | _ => cases x <;> cases e
theorem cmp_isn : CmpOk X G .IsNot isnD := by
  refine ⟨_, op_notN.or op_notBl, fun {F O ρ σ H v u x y z Q} w ax ay e k => ?_⟩
  cases y with
  | none =>
    have e : some (PyData.bool (!isNon x)) = some z := by cases x <;> exact e
    cases e
    refine .inl ⟨ay.non, ?_⟩
    rw [ax.isN]
    exact k.now w (.bl _)
  | bool b =>
    cases x with
    | bool a =>
      have e : some (PyData.bool (!decide (a = b))) = some z := e
      cases e
      exact .inr ⟨a, b, ax.bool, ay.bool, k.now w (.bl _)⟩
    | _ => cases e
  | _ => cases x <;> cases e
/-- in a list or tuple -/
def inOk (x : D) (ys : List D) : Bool := x.plain && PyData.plainAll ys && decide (min (PyData.depthAll ys) x.depth ≤ 150)
theorem inOk_iff {x : D} {ys : List D} : inOk x ys = true ↔ x.plain = true ∧ PyData.plainAll ys = true ∧ min (PyData.depthAll ys) x.depth ≤ 150 := by simp only [inOk, Bool.and_eq_true, decide_eq_true_eq, and_assoc]
def inL (x : D) (ys : List D) : Bool := ys.any fun y => PyData.eqv y x
def inD (neg : Bool) : D → D → Option D
  | x, .list ys => if inOk x ys then some (.bool (inL x ys != neg)) else none
  | x, .tuple ys => if inOk x ys then some (.bool (inL x ys != neg)) else none
  | .str x, .str y => some (.bool ((!(Builtin.Str.occurrences y x 0 y.length 1).isEmpty) != neg))
  | _, _ => none
def rInA (K : PySem.W.Frag) (neg : Bool) : R2 := fun x y H Q => ∃ d e ys, Dp K H x d ∧ Dp K H y e ∧ (e = .list ys ∨ e = .tuple ys) ∧ d.plain = true ∧ PyData.plainAll ys = true ∧ min (PyData.depthAll ys) d.depth ≤ 150 ∧ Q (.bl (inL d ys != neg)) H
theorem op_inA (hu : X.A.units + 200 < cLine) : OpR X (compareOp .In) (rInA X.K false) := by
  intro pins sh σ H x y v u Q I rx ry asks
  obtain ⟨d, e, ys, hd, he, hy, sd, se, hm, q⟩ := asks
  obtain ⟨fst, r1⟩ := Dp.reads I d x v hd rx
  obtain ⟨snd, r2⟩ := Dp.reads I e y u he ry
  have q' : Q (.bl (ys.any fun y => PyData.eqv y d)) H := by simpa [inL] using q
  rcases hy with rfl | rfl
  · exact SeqAt.in_list_data r2 r1 se sd (by omega) ⟨.bl _, H, I, rfl, q'⟩
  · exact SeqAt.in_tuple_data r2 r1 se sd (by omega) ⟨.bl _, H, I, rfl, q'⟩
theorem op_notInA (hu : X.A.units + 200 < cLine) : OpR X (compareOp .NotIn) (rInA X.K true) := by
  intro pins sh σ H x y v u Q I rx ry asks
  obtain ⟨d, e, ys, hd, he, hy, sd, se, hm, q⟩ := asks
  obtain ⟨fst, r1⟩ := Dp.reads I d x v hd rx
  obtain ⟨snd, r2⟩ := Dp.reads I e y u he ry
  have q' : Q (.bl (!ys.any fun y => PyData.eqv y d)) H := by simpa [inL] using q
  rcases hy with rfl | rfl
  · exact SeqAt.notIn_list_data r2 r1 se sd (by omega) ⟨.bl _, H, I, rfl, q'⟩
  · exact SeqAt.notIn_tuple_data r2 r1 se sd (by omega) ⟨.bl _, H, I, rfl, q'⟩
theorem in_at {neg : Bool} (hK : X.K = G.K) {F : Hp} {O : Fm} {ρ : Rho} {σ : L2.St} {H : Hp} {v u : V} {x y z : D} {Q : VK} (w : Wd G.K F O ρ σ H) (ax : At G.K F H v x) (ay : At G.K F H u y) (e : inD neg x y = some z) (k : Post G F O ρ σ Q z) :
    rInA X.K neg v u H Q ∨ ∃ i j, v = .str i ∧ u = .str j ∧ Q (.bl ((!(Builtin.Str.occurrences j i 0 j.length 1).isEmpty) != neg)) H := by
  have seq : ∀ ys, (y = .list ys ∨ y = .tuple ys) → (if inOk x ys then some (PyData.bool (inL x ys != neg)) else none) = some z → rInA X.K neg v u H Q := fun ys hy e => by
    obtain ⟨h1, rfl⟩ := ifs e
    obtain ⟨p1, p2, p3⟩ := inOk_iff.mp h1
    rw [hK]
    exact ⟨x, y, ys, ax.dp w.f p1, ay.dp w.f (by rcases hy with rfl | rfl <;> simpa only [PyData.plain] using p2), hy, p1, p2, p3, k.now w (.bl _)⟩
  cases y with
  | list ys => exact .inl (seq ys (.inl rfl) (by cases x <;> exact e))
  | tuple ys => exact .inl (seq ys (.inr rfl) (by cases x <;> exact e))
  | str j =>
    cases x with
    | str i =>
      cases e
      exact .inr ⟨i, j, ax.str, ay.str, k.now w (.bl _)⟩
    | _ => cases e
  | _ => cases x <;> cases e
theorem cmp_in (hK : X.K = G.K) (hu : X.A.units + 200 < cLine) : CmpOk X G .In (inD false) := by
  refine ⟨_, (op_inA hu).or op_in_str, fun {F O ρ σ H v u x y z Q} w ax ay e k => ?_⟩
  rcases in_at hK w ax ay e k with h | ⟨i, j, h1, h2, h3⟩
  · exact .inl h
  · exact .inr ⟨i, j, h1, h2, by simpa using h3⟩
theorem cmp_notin (hK : X.K = G.K) (hu : X.A.units + 200 < cLine) : CmpOk X G .NotIn (inD true) := by
  refine ⟨_, (op_notInA hu).or op_notin_str, fun {F O ρ σ H v u x y z Q} w ax ay e k => ?_⟩
  rcases in_at hK w ax ay e k with h | ⟨i, j, h1, h2, h3⟩
  · exact .inl h
  · exact .inr ⟨i, j, h1, h2, by simpa using h3⟩
end
end L3
/-! L3, part 5: chains, and, or, not, if, arguments, displays, items, slices. -/
namespace L3
open PySem PySem.Spec PyProof.Rows L2

/-! ### freezing -/
def frz : Vl → Rho → Rs D
  | .d x, ρ => .ok x ρ
  | .bv i, ρ =>
    match ρ[i]? with
    | some (Cell.val d) => .ok d ρ
    | some (Cell.own _ d) => .ok d (ρ.set i (.val d))
    | _ => .bad
def frzs : List Vl → Rho → Rs (List D)
  | [], ρ => .ok [] ρ
  | x :: xs, ρ => (frz x ρ).bind fun d ρ => (frzs xs ρ).bind fun ds ρ => .ok (d :: ds) ρ
section
variable {K : PySem.W.Frag} {O : Fm} {σ : L2.St} {H : Hp}
theorem frz_ok {F : Hp} {ρ ρ' : Rho} {v : V} {x : Vl} {d : D} (w : Wd K F O ρ σ H) (r : RV K F σ v x) (e : frz x ρ = .ok d ρ') : ∃ F', Wd K F' O ρ' σ H ∧ Sub F F' ∧ Rp K F' v d := by
  cases x with
  | d x => cases e; exact ⟨F, w, Sub.refl _, r⟩
  | bv i =>
    have r : σ[i]? = some (some v) := r
    unfold frz at e
    dsimp only at e
    cases q : ρ[i]? with
    | none => rw [q] at e; cases e
    | some c =>
      rw [q] at e
      cases c with
      | no => cases e
      | lck p y => cases e
      | val y =>
        cases e
        obtain ⟨u, h1, h2⟩ := w.val i d q
        rw [r] at h1; cases h1
        exact ⟨F, w, Sub.refl _, h2⟩
      | own p y =>
        cases e
        obtain ⟨F', u, w', s, h1, h2⟩ := w.freeze q
        rw [r] at h1; cases h1
        exact ⟨F', w', s, h2⟩
theorem frz_noerr {x : Vl} {ρ ρ' : Rho} {y : Xn} : frz x ρ ≠ .err y ρ' := by
  intro e
  unfold frz at e
  split at e
  · cases e
  · split at e <;> cases e
theorem frzs_noerr : ∀ {xs : List Vl} {ρ ρ' : Rho} {y : Xn}, frzs xs ρ ≠ .err y ρ'
  | [], _, _, _, e => by cases e
  | x :: xs, ρ, ρ', y, e => by
    unfold frzs at e
    cases h : frz x ρ with
    | ok d ρ1 =>
      rw [h, Rs.bind_ok] at e
      cases h2 : frzs xs ρ1 with
      | ok ds ρ2 => rw [h2] at e; cases e
      | err z ρ2 => exact frzs_noerr h2
      | bad => rw [h2] at e; cases e
    | err z ρ1 => exact frz_noerr h
    | bad => rw [h] at e; cases e
theorem frzs_ok : ∀ {xs : List Vl} {vs : List V} {F : Hp} {ρ ρ' : Rho} {ds : List D}, Wd K F O ρ σ H → RVs K F σ vs xs → frzs xs ρ = .ok ds ρ' → ∃ F', Wd K F' O ρ' σ H ∧ Sub F F' ∧ RpL K F' vs ds
  | [], [], F, ρ, ρ', ds, w, _, e => by cases e; exact ⟨F, w, Sub.refl _, .nil⟩
  | x :: xs, v :: vs, F, ρ, ρ', ds, w, r, e => by
    unfold frzs at e
    cases h : frz x ρ with
    | ok d ρ1 =>
      rw [h, Rs.bind_ok] at e
      obtain ⟨F1, w1, s1, r1⟩ := frz_ok w r.1 h
      cases h2 : frzs xs ρ1 with
      | ok ds2 ρ2 =>
        rw [h2] at e; cases e
        obtain ⟨F2, w2, s2, r2⟩ := frzs_ok w1 (r.2.mono s1) h2
        exact ⟨F2, w2, s1.trans s2, .cons (r1.mono s2) r2⟩
      | err z ρ2 => exact absurd h2 frzs_noerr
      | bad => rw [h2] at e; cases e
    | err z ρ1 => exact absurd h frz_noerr
    | bad => rw [h] at e; cases e
theorem frzs_len : ∀ {xs : List Vl} {ρ ρ' : Rho} {ds : List D}, frzs xs ρ = .ok ds ρ' → ds.length = xs.length
  | [], _, _, _, e => by cases e; rfl
  | x :: xs, ρ, ρ', ds, e => by
    unfold frzs at e
    cases h : frz x ρ with
    | ok d ρ1 =>
      rw [h, Rs.bind_ok] at e
      cases h2 : frzs xs ρ1 with
      | ok ds2 ρ2 =>
        rw [h2] at e; cases e
        rw [List.length_cons, List.length_cons, frzs_len h2]
      | err z ρ2 => rw [h2] at e; cases e
      | bad => rw [h2] at e; cases e
    | err z ρ1 => rw [h] at e; cases e
    | bad => rw [h] at e; cases e
end
/-- behind freezing -/
theorem frz_fin {G : Gx} {α β : Type} {rel : PySem.W.Frag → Hp → L2.St → β → α → Prop} {F H : Hp} {O : Fm} {σ : L2.St} {ρ : Rho} {Q : β → Hp → Prop} {x : Vl} {v : V} {f : D → Rho → Rs α} (w : Wd G.K F O ρ σ H) (r : RV G.K F σ v x)
    (h : Fin G rel F O σ Q ((frz x ρ).bind f)) : ∃ d ρ' F', Wd G.K F' O ρ' σ H ∧ Sub F F' ∧ Rp G.K F' v d ∧ Fin G rel F' O σ Q (f d ρ') := by
  cases e : frz x ρ with
  | ok d ρ' =>
    rw [e] at h
    obtain ⟨F', w', s, r'⟩ := frz_ok w r e
    exact ⟨d, ρ', F', w', s, r', Fin.mono s h⟩
  | err z ρ' => exact absurd e frz_noerr
  | bad => rw [e] at h; exact h.elim
theorem frzs_fin {G : Gx} {α β : Type} {rel : PySem.W.Frag → Hp → L2.St → β → α → Prop} {F H : Hp} {O : Fm} {σ : L2.St} {ρ : Rho} {Q : β → Hp → Prop} {xs : List Vl} {vs : List V} {f : List D → Rho → Rs α} (w : Wd G.K F O ρ σ H) (r : RVs G.K F σ vs xs)
    (h : Fin G rel F O σ Q ((frzs xs ρ).bind f)) : ∃ ds ρ' F', Wd G.K F' O ρ' σ H ∧ Sub F F' ∧ RpL G.K F' vs ds ∧ Fin G rel F' O σ Q (f ds ρ') := by
  cases e : frzs xs ρ with
  | ok d ρ' =>
    rw [e] at h
    obtain ⟨F', w', s, r'⟩ := frzs_ok w r e
    exact ⟨d, ρ', F', w', s, r', Fin.mono s h⟩
  | err z ρ' => exact absurd e frzs_noerr
  | bad => rw [e] at h; exact h.elim

section
variable {X : Cx} {G : Gx} {a b c : Expr} {sa sb sc : Rho → Rs Vl} {pos : Pos}
/-! ### chains -/
def sChain (f g : D → D → Option D) (a b c : Rho → Rs Vl) : Rho → Rs Vl := fun ρ => (a ρ).bind fun x ρ => (b ρ).bind fun y ρ =>
  match (x.cont ρ).bind fun p => (y.cont ρ).bind fun q => f p q with
  | some (.bool true) => (c ρ).bind fun z ρ => two ρ y z g
  | some (.bool false) => .ok (.d (.bool false)) ρ
  | _ => .bad
theorem CmpOk.chain {op op' : CmpOp} {f g : D → D → Option D} (h : CmpOk X G op f) (h' : CmpOk X G op' g) (hm : lastMarks [op, op'] [b, c] = false) (ha : DE X G a sa) (hb : DE X G b sb) (hc : DE X G c sc) :
    DE X G (.Compare a [op, op'] [b, c] pos) (sChain f g sa sb sc) := by
  obtain ⟨r, ho, hr⟩ := h
  obtain ⟨r', ho', hr'⟩ := h'
  have i : ∀ σ H Q, tE G (sChain f g sa sb sc) σ H Q → tChain r r' (tE G sa) (tE G sb) (tE G sc) σ H Q := fun σ H Q h => by
    obtain ⟨ρ, F, O, w, h⟩ := h
    refine tG.bind w h fun x ρ1 v H1 F1 _ w1 s1 rx h1 => tG.bind w1 h1 fun y ρ2 u H2 F2 _ w2 s2 ry h2 => ?_
    cases ea : x.cont ρ2 with
    | none => rw [ea] at h2; exact h2.elim
    | some p =>
      cases eb : y.cont ρ2 with
      | none => rw [ea, eb] at h2; exact h2.elim
      | some q =>
        rw [ea, eb] at h2
        simp only [Option.bind_some] at h2
        cases ef : f p q with
        | none => rw [ef] at h2; exact h2.elim
        | some z =>
          rw [ef] at h2
          cases z with
          | bool k =>
            refine hr w2 (w2.at (rx.mono s2) ea) (w2.at ry eb) ef fun z3 H3 F3 w3 s3 r3 => ?_
            cases r3
            refine ⟨k, rfl, ?_⟩
            cases k with
            | true =>
              rw [if_pos rfl]
              have h3 := Fin.mono s3 h2
              refine tG.bind w3 h3 fun z ρ4 t H4 F4 _ w4 s4 rz h4 => ?_
              obtain ⟨p', q', z', hp, hq, e, k⟩ := two_fin w4 ((ry.mono s3).mono s4) rz h4
              exact hr' w4 hp hq e k
            | false =>
              rw [if_neg (by decide)]
              exact h2 (.bl false) H3 F3 w3 s3 (Rp.bl false)
          | _ => exact h2.elim
  exact ⟨PE.imp (pe_chain ho ho' ha.pe hb.pe hc.pe hm) i, PT.imp (pt_chain ho ho' ha.pe hb.pe hc.pe hm) fun σ H Q h => i _ _ _ (asB_t h)⟩

/-! ### not, and, or, if -/
def sNot (a : Rho → Rs Vl) : Rho → Rs Vl := fun ρ => (asB a ρ).bind fun k ρ => .ok (.d (.bool (!k))) ρ
def sAnd (a b : Rho → Rs Vl) : Rho → Rs Vl := fun ρ => (asB a ρ).bind fun k ρ => if k then b ρ else .ok (.d (.bool false)) ρ
def sOr (a b : Rho → Rs Vl) : Rho → Rs Vl := fun ρ => (asB a ρ).bind fun k ρ => if k then .ok (.d (.bool true)) ρ else b ρ
def sIf (c a b : Rho → Rs Vl) : Rho → Rs Vl := fun ρ => (asB c ρ).bind fun k ρ => if k then a ρ else b ρ
/-- a part as a truth value, then the rest -/
theorem asB_bind {α β : Type} {rel : PySem.W.Frag → Hp → L2.St → β → α → Prop} {F H : Hp} {O : Fm} {σ : L2.St} {ρ : Rho} {Q : β → Hp → Prop} {s : Rho → Rs Vl} {f : Bool → Rho → Rs α} (w : Wd G.K F O ρ σ H) (h : Fin G rel F O σ Q ((asB s ρ).bind f))
    {Q' : VK} (hQ : ∀ k ρ1 H1 F1, Wd G.K F1 O ρ1 σ H1 → Sub F F1 → Fin G rel F1 O σ Q (f k ρ1) → Q' (.bl k) H1) : tE G s σ H Q' := by
  refine ⟨ρ, F, O, w, ?_⟩
  unfold asB at h
  cases e : s ρ with
  | ok a ρ1 =>
    rw [e, Rs.bind_ok] at h
    intro v H1 F1 w1 s1 r1
    cases ec : a.cont ρ1 with
    | none => rw [ec] at h; exact h.elim
    | some d =>
      rw [ec] at h
      cases d with
      | bool k =>
        rw [(w1.at r1 ec).bool]
        exact hQ k ρ1 H1 F1 w1 s1 (Fin.mono s1 h)
      | _ => exact h.elim
  | err x ρ1 => rw [e] at h; exact h
  | bad => rw [e] at h; exact h
theorem asT_bind {α β : Type} {rel : PySem.W.Frag → Hp → L2.St → β → α → Prop} {F H : Hp} {O : Fm} {σ : L2.St} {ρ : Rho} {Q : β → Hp → Prop} {s : Rho → Rs Vl} {f : Bool → Rho → Rs α} (w : Wd G.K F O ρ σ H) (h : Fin G rel F O σ Q ((asB s ρ).bind f))
    {Q' : Bool → Hp → Prop} (hQ : ∀ k ρ1 H1 F1, Wd G.K F1 O ρ1 σ H1 → Sub F F1 → Fin G rel F1 O σ Q (f k ρ1) → Q' k H1) : tT G (asB s) σ H Q' :=
  tG.bind w h fun k ρ1 v H1 F1 _ w1 s1 r1 h1 => by
    have e : v = k := r1
    subst e
    exact hQ v ρ1 H1 F1 w1 s1 h1
theorem asB_assoc {s : Rho → Rs Vl} {f : Bool → Rho → Rs Vl} {ρ : Rho} : asB (fun ρ => (asB s ρ).bind f) ρ = (asB s ρ).bind fun k ρ => asB (f k) ρ := by
  unfold asB
  dsimp only
  cases (s ρ) with
  | ok a ρ1 =>
    simp only [Rs.bind_ok]
    cases boolOf (a.cont ρ1) ρ1 <;> rfl
  | err x ρ1 => rfl
  | bad => rfl
theorem asB_c {k : Bool} {ρ : Rho} : asB (fun ρ => Rs.ok (Vl.d (.bool k)) ρ) ρ = .ok k ρ := rfl
theorem de_not (ha : DE X G a sa) : DE X G (.UnaryOp .Not a pos) (sNot sa) := by
  refine ⟨PE.imp (pe_not ha.pe) fun σ H Q h => ?_, PT.imp (pt_not ha.pt) fun σ H Q h => ?_⟩
  · obtain ⟨ρ, F, O, w, h⟩ := h
    exact asB_bind w h fun k ρ1 H1 F1 w1 s1 h1 => ⟨k, rfl, h1 _ H1 F1 w1 (Sub.refl _) (Rp.bl _)⟩
  · obtain ⟨ρ, F, O, w, h⟩ := h
    have e : asB (sNot sa) ρ = (asB sa ρ).bind fun k ρ => .ok (!k) ρ := asB_assoc
    rw [e] at h
    exact asT_bind w h fun k ρ1 H1 F1 w1 s1 h1 => h1 _ H1 F1 w1 (Sub.refl _) rfl
/-- a row of and, or -/
structure DW (X : Cx) (G : Gx) (e : Expr) (s : Rho → Rs Vl) : Prop where
  pe : PE X e (tE G s)
  pw : PW X e (tT G (asB s))
theorem DW.de {e : Expr} {s : Rho → Rs Vl} (h : DW X G e s) : DE X G e s := ⟨h.pe, h.pw.pt⟩
theorem PW.imp {X : Cx} {e : Expr} {t t' : TT} (h : PW X e t) (i : ∀ σ H Q, t' σ H Q → t σ H Q) : PW X e t' := ⟨fun wh pins s σ H Q I q => h.run wh pins s σ H Q I (i _ _ _ q)⟩
variable {rest : List Expr}
theorem dw_and1 (ha : DE X G a sa) : DW X G (.BoolOp .And [a] pos) sa := ⟨pe_one ha.pe, pw_and1 ha.pt⟩
theorem dw_or1 (ha : DE X G a sa) : DW X G (.BoolOp .Or [a] pos) sa := ⟨pe_one ha.pe, pw_or1 ha.pt⟩
theorem dw_and (ha : DE X G a sa) (hb : DW X G (.BoolOp .And (b :: rest) pos) sb) : DW X G (.BoolOp .And (a :: b :: rest) pos) (sAnd sa sb) := by
  refine ⟨PE.imp (pe_and ha.pe hb.pe) fun σ H Q h => ?_, PW.imp (pw_and ha.pt hb.pw) fun σ H Q h => ?_⟩
  · obtain ⟨ρ, F, O, w, h⟩ := h
    refine asB_bind w h fun k ρ1 H1 F1 w1 s1 h1 => ⟨k, rfl, ?_⟩
    cases k with
    | true => rw [if_pos rfl]; exact ⟨ρ1, F1, O, w1, h1⟩
    | false => rw [if_neg (by decide)]; exact h1 _ H1 F1 w1 (Sub.refl _) (Rp.bl _)
  · obtain ⟨ρ, F, O, w, h⟩ := h
    have e : asB (sAnd sa sb) ρ = (asB sa ρ).bind fun k ρ => asB (fun ρ => if k then sb ρ else .ok (.d (.bool false)) ρ) ρ := asB_assoc
    rw [e] at h
    refine asT_bind w h fun k ρ1 H1 F1 w1 s1 h1 => ?_
    cases k with
    | true => rw [if_pos rfl]; exact ⟨ρ1, F1, O, w1, h1⟩
    | false => rw [if_neg (by decide)]; exact h1 _ H1 F1 w1 (Sub.refl _) rfl
theorem dw_or (ha : DE X G a sa) (hb : DW X G (.BoolOp .Or (b :: rest) pos) sb) : DW X G (.BoolOp .Or (a :: b :: rest) pos) (sOr sa sb) := by
  refine ⟨PE.imp (pe_or ha.pe hb.pe) fun σ H Q h => ?_, PW.imp (pw_or ha.pt hb.pw) fun σ H Q h => ?_⟩
  · obtain ⟨ρ, F, O, w, h⟩ := h
    refine asB_bind w h fun k ρ1 H1 F1 w1 s1 h1 => ⟨k, rfl, ?_⟩
    cases k with
    | true => rw [if_pos rfl]; exact h1 _ H1 F1 w1 (Sub.refl _) (Rp.bl _)
    | false => rw [if_neg (by decide)]; exact ⟨ρ1, F1, O, w1, h1⟩
  · obtain ⟨ρ, F, O, w, h⟩ := h
    have e : asB (sOr sa sb) ρ = (asB sa ρ).bind fun k ρ => asB (fun ρ => if k then .ok (.d (.bool true)) ρ else sb ρ) ρ := asB_assoc
    rw [e] at h
    refine asT_bind w h fun k ρ1 H1 F1 w1 s1 h1 => ?_
    cases k with
    | true => rw [if_pos rfl]; exact h1 _ H1 F1 w1 (Sub.refl _) rfl
    | false => rw [if_neg (by decide)]; exact ⟨ρ1, F1, O, w1, h1⟩
theorem pe_if (hc : DE X G c sc) (ha : PE X a (tE G sa)) (hb : PE X b (tE G sb)) : PE X (.IfExp c a b pos) (tE G (sIf sc sa sb)) := by
  refine PE.imp (pe_ifExp hc.pt ha hb) fun σ H Q h => ?_
  obtain ⟨ρ, F, O, w, h⟩ := h
  refine asT_bind w h fun k ρ1 H1 F1 w1 s1 h1 => ?_
  cases k with
  | true => rw [if_pos rfl]; exact ⟨ρ1, F1, O, w1, h1⟩
  | false => rw [if_neg (by decide)]; exact ⟨ρ1, F1, O, w1, h1⟩

/-! ### arguments, displays -/
def sNil : Rho → Rs (List Vl) := fun ρ => .ok [] ρ
def sCons (a : Rho → Rs Vl) (r : Rho → Rs (List Vl)) : Rho → Rs (List Vl) := fun ρ => (a ρ).bind fun x ρ => (r ρ).bind fun xs ρ => .ok (x :: xs) ρ
def itemsD : D → Option (List D)
  | .list xs => some xs
  | .tuple xs => some xs
  | _ => none
def sStar (a : Rho → Rs Vl) (r : Rho → Rs (List Vl)) : Rho → Rs (List Vl) := fun ρ => (a ρ).bind fun x ρ =>
  match (x.cont ρ).bind itemsD with
  | some ds => (r ρ).bind fun xs ρ => .ok (ds.map Vl.d ++ xs) ρ
  | none => .bad
theorem RVs.app {K : PySem.W.Frag} {F : Hp} {σ : L2.St} : ∀ {vs us : List V} {xs ys : List Vl}, RVs K F σ vs xs → RVs K F σ us ys → RVs K F σ (vs ++ us) (xs ++ ys)
  | [], _, [], _, _, h => h
  | _ :: _, _, _ :: _, _, h, h' => ⟨h.1, RVs.app h.2 h'⟩
theorem RVs.ofL {K : PySem.W.Frag} {F : Hp} {σ : L2.St} : ∀ {vs : List V} {ds : List D}, RpL K F vs ds → RVs K F σ vs (ds.map Vl.d)
  | _, _, .nil => trivial
  | _, _, .cons h r => ⟨h, RVs.ofL r⟩
variable {e : Expr} {es : List Expr} {se : Rho → Rs Vl} {ss : Rho → Rs (List Vl)}
theorem da_nil : PA X [] (tA G sNil) := PA.imp pa_nil fun σ H Q h => by
  obtain ⟨ρ, F, O, w, h⟩ := h
  exact h [] H F w (Sub.refl _) trivial
theorem da_cons (he : PE X e (tE G se)) (hr : PA X es (tA G ss)) (hs : starEach (e :: es) X.env = (false, eval e X.env) :: starEach es X.env) : PA X (e :: es) (tA G (sCons se ss)) := by
  refine PA.imp (pa_cons he hr hs) fun σ H Q h => ?_
  obtain ⟨ρ, F, O, w, h⟩ := h
  refine tG.bind w h fun x ρ1 v H1 F1 _ w1 s1 rx h1 => tG.bind w1 h1 fun xs ρ2 vs H2 F2 _ w2 s2 rs h2 => ?_
  exact h2 _ H2 F2 w2 (Sub.refl _) ⟨rx.mono s2, rs⟩
theorem da_star {p : Pos} (hK : X.K = G.K) (he : PE X e (tE G se)) (hr : PA X es (tA G ss)) : PA X (.Starred e p :: es) (tA G (sStar se ss)) := by
  refine PA.imp (StX.pa_star he hr) fun σ H Q h => ?_
  obtain ⟨ρ, F, O, w, h⟩ := h
  refine tG.bind w h fun x ρ1 v H1 F1 _ w1 s1 rx h1 => ?_
  cases ec : (x.cont ρ1).bind itemsD with
  | none => rw [ec] at h1; exact h1.elim
  | some ds =>
    rw [ec] at h1
    obtain ⟨d, e1, e2⟩ := Option.bind_eq_some_iff.mp ec
    have at1 := w1.at rx e1
    have fin : ∀ a vs, v = .ref a → (SqT G.K H1 a vs ∨ SqL G.K H1 a vs) → RpL G.K F1 vs ds → ∃ p xs, v = V.ref p ∧ (SqT X.K H1 p xs ∨ SqL X.K H1 p xs) ∧ tA G ss σ H1 fun ys H2 => Q (xs ++ ys) H2 := fun a vs ev hs r =>
      ⟨a, vs, ev, by rw [hK]; exact hs, tG.bind w1 h1 fun xs ρ2 us H2 F2 _ w2 s2 rs h2 => h2 _ H2 F2 w2 (Sub.refl _) (RVs.app (RVs.ofL (r.mono s2)) rs)⟩
    cases d with
    | list xs =>
      cases e2
      obtain ⟨a, vs, ev, q, r⟩ := at1.list w1.f
      exact fin a vs ev (.inr (SqL.of q)) r
    | tuple xs =>
      cases e2
      obtain ⟨a, vs, ev, _, q, r⟩ := at1.tuple w1.f
      exact fin a vs ev (.inl q) r
    | _ => cases e2
def sTup (s : Rho → Rs (List Vl)) : Rho → Rs Vl := fun ρ => (s ρ).bind fun xs ρ => (frzs xs ρ).bind fun ds ρ => if szOk ds.length then .ok (.d (.tuple ds)) ρ else .bad
theorem pe_tupD {x1} (h : PA X es (tA G ss)) : PE X (.Tuple es x1 pos) (tE G (sTup ss)) := by
  refine PE.imp (pe_tup h) fun σ H Q h => ?_
  obtain ⟨ρ, F, O, w, h⟩ := h
  refine tG.bind w h fun xs ρ1 vs H1 F1 _ w1 s1 rs h1 => ?_
  obtain ⟨ds, ρ2, F2, w2, s2, r2, h2⟩ := frzs_fin w1 rs h1
  split at h2
  · refine ⟨by rw [r2.length]; exact szOk_iff.mp ‹_›, fun p hp => ?_⟩
    exact h2 _ _ _ (w2.alloc hp) (sub_upd (w2.f.none hp)) (Rp.tup (.inl (.inl upd_same)) (r2.mono (sub_upd (w2.f.none hp))))
  · exact h2.elim

/-! ### items -/
theorem RpL.ints {K : PySem.W.Frag} {F : Hp} : ∀ ns : List Int, RpL K F (ns.map V.int) (ns.map PyData.int)
  | [] => .nil
  | n :: r => .cons (.int n) (RpL.ints r)
theorem kD_none {k : Key} : kD k ≠ PyData.none := by cases k <;> exact fun z => nomatch z
theorem rp_scr {K : PySem.W.Frag} {F : Hp} {v : V} {d : D} (h : Rp K F v d) : ∀ {xs : List D}, d = .dict [(.none, .list xs)] → ∃ (a : Addr) (ns : List Int), v = .ref a ∧ SqL K F a (ns.map V.int) ∧ xs = ns.map PyData.int := by
  intro xs e
  cases h with
  | @scr a ns q1 =>
    have e : PyData.dict [(PyData.none, PyData.list (ns.map .int))] = .dict [(.none, .list xs)] := e
    injection e with e
    injection e with e _
    injection e with _ e
    injection e with e
    exact ⟨a, ns, rfl, q1, e.symm⟩
  | dK q1 r =>
    injection e with e
    cases r with
    | nil => cases e
    | cons r1 r2 =>
      injection e with e _
      injection e with e _
      exact absurd e kD_none
  | dT q1 r =>
    injection e with e
    cases r with
    | nil => cases e
    | cons r1 r2 =>
      injection e with e _
      injection e with e _
      cases e
  | _ => cases e
theorem At.scr {K : PySem.W.Frag} {F H : Hp} {v : V} {xs : List D} (s : Sub F H) (h : At K F H v (.dict [(.none, .list xs)])) : ∃ (a : Addr) (ns : List Int), v = .ref a ∧ SqL K H a (ns.map V.int) ∧ xs = ns.map PyData.int := by
  rcases h with h | ⟨a, rfl, h⟩
  · obtain ⟨a, ns, h1, h2, h3⟩ := rp_scr h rfl
    exact ⟨a, ns, h1, s.sqL h2, h3⟩
  · rcases h with ⟨kvs, _, r⟩ | ⟨kvs, _, r⟩
    · generalize e : [(PyData.none, PyData.list xs)] = l at r
      cases r with
      | nil => cases e
      | cons r1 r2 =>
        injection e with e _
        injection e with e _
        exact absurd e.symm kD_none
    · generalize e : [(PyData.none, PyData.list xs)] = l at r
      cases r with
      | nil => cases e
      | cons r1 r2 =>
        injection e with e _
        injection e with e _
        cases e
def ixD : D → D → Option D
  | .list xs, .int i => atI xs i
  | .tuple xs, .int i => atI xs i
  | .str z, .int i => if szOk z.length then (atI z.cps.toList i).map fun c => .str ⟨#[c]⟩ else none
  | .dict [(.none, .list xs)], .int i => atI xs i
  | _, _ => none
theorem atI_rel {K : PySem.W.Frag} {F : Hp} {vs : List V} {ds : List D} {i : Int} {z : D} (r : RpL K F vs ds) (e : atI ds i = some z) : ∃ v, atI vs i = some v ∧ Rp K F v z := by
  unfold atI at e ⊢
  obtain ⟨j, e1, e2⟩ := Option.bind_eq_some_iff.mp e
  rw [r.length, e1]
  exact r.get e2
theorem notSlice (hb : ∀ lo hi st p, b ≠ .Slice lo hi st p) : PlainIx b := fun o i => by
  cases b <;> first | rfl | exact absurd rfl (hb _ _ _ _)
theorem pe_ixD (hK : X.K = G.K) (hb' : ∀ lo hi st p, b ≠ .Slice lo hi st p) (ha : PE X a (tE G sa)) (hb : PE X b (tE G sb)) : PE X (.Subscript a b pos) (tE G (sBin ixD sa sb)) := by
  refine PE.imp (pe_ix ((ix_list.or ix_tup).or ix_str) ha hb (notSlice hb')) fun σ H Q h => ?_
  obtain ⟨ρ, F, O, w, h⟩ := h
  refine tG.bind w h fun x ρ1 v H1 F1 _ w1 s1 rx h1 => tG.bind w1 h1 fun y ρ2 u H2 F2 _ w2 s2 ry h2 => ?_
  obtain ⟨p, q, z, hp, hq, e, k⟩ := two_fin w2 (rx.mono s2) ry h2
  unfold ixD at e
  split at e
  · obtain ⟨a, vs, rfl, q1, r1⟩ := hp.list w2.f
    obtain ⟨t, e1, rt⟩ := atI_rel r1 e
    exact .inl (.inl ⟨a, vs, _, t, rfl, hq.int, SqL.of q1, e1, k.now w2 rt⟩)
  · obtain ⟨a, vs, rfl, _, q1, r1⟩ := hp.tuple w2.f
    obtain ⟨t, e1, rt⟩ := atI_rel r1 e
    exact .inl (.inr ⟨a, vs, _, t, rfl, hq.int, by rw [hK]; exact q1, e1, k.now w2 rt⟩)
  · split at e
    · obtain ⟨c, e1, e2⟩ := Option.map_eq_some_iff.mp e
      exact .inr ⟨_, _, c, hp.str, hq.int, szOk_iff.mp ‹_›, e1, k.now w2 (e2 ▸ Rp.str _)⟩
    · cases e
  · rename_i xs i
    obtain ⟨a, ns, rfl, q1, rfl⟩ := hp.scr w2.f
    obtain ⟨t, e1, rt⟩ := atI_rel (RpL.ints ns) e
    exact .inl (.inl ⟨a, _, _, t, rfl, hq.int, by rw [hK]; exact q1, e1, k.now w2 rt⟩)
  · cases e
end
end L3
/-! L3, part 6: fresh containers, slices, isinstance, built-in functions. -/
namespace L3
open PySem PySem.Spec PyProof.Rows L2

/-! ### any goal -/
/-- what is wanted of a pure result, in the world F: it grows with F, an exception goes to G.W, bad is false -/
structure Tgt (G : Gx) (O : Fm) (σ : L2.St) {α : Type} (P : Hp → Rs α → Prop) : Prop where
  mono : ∀ {F F1 r}, Sub F F1 → P F r → P F1 r
  err : ∀ {F x ρ}, P F (.err x ρ) → ∀ c dd H' F', Wd G.K F' O ρ σ H' → Sub F F' → XAt G.K F' G.cn c dd x → G.W c dd σ H'
  bad : ∀ {F}, ¬ P F .bad
section
variable {G : Gx} {α β α' : Type} {rel : PySem.W.Frag → Hp → L2.St → β → α → Prop} {σ : L2.St} {H F : Hp} {O : Fm} {ρ : Rho}
theorem Tgt.fin {Q : β → Hp → Prop} : Tgt G O σ (fun F r => Fin G rel F O σ Q r) := ⟨fun s h => Fin.mono s h, fun h => h, fun h => h⟩
theorem Tgt.bind {P : Hp → Rs α' → Prop} (T : Tgt G O σ P) {s : Rho → Rs α} {f : α → Rho → Rs α'} {Q : β → Hp → Prop} (w : Wd G.K F O ρ σ H) (h : P F ((s ρ).bind f))
    (hQ : ∀ a ρ1 v H1 F1, Wd G.K F1 O ρ1 σ H1 → Sub F F1 → rel G.K F1 σ v a → P F1 (f a ρ1) → Q v H1) : tG G rel s σ H Q := by
  refine ⟨ρ, F, O, w, ?_⟩
  cases e : s ρ with
  | ok a ρ1 =>
    rw [e] at h
    exact fun v H1 F1 w1 s1 r1 => hQ a ρ1 v H1 F1 w1 s1 r1 (T.mono s1 h)
  | err x ρ1 => rw [e] at h; exact T.err h
  | bad => rw [e] at h; exact (T.bad h).elim
theorem Tgt.test {P : Hp → Rs α' → Prop} (T : Tgt G O σ P) {s : Rho → Rs Vl} {f : Bool → Rho → Rs α'} {Q : Bool → Hp → Prop} (w : Wd G.K F O ρ σ H) (h : P F ((asB s ρ).bind f))
    (hQ : ∀ k ρ1 H1 F1, Wd G.K F1 O ρ1 σ H1 → Sub F F1 → P F1 (f k ρ1) → Q k H1) : tT G (asB s) σ H Q :=
  T.bind (rel := RB) w h fun k ρ1 v H1 F1 w1 s1 r1 h1 => by
    have e : v = k := r1
    subst e
    exact hQ v ρ1 H1 F1 w1 s1 h1
theorem Tgt.frz {P : Hp → Rs α' → Prop} (T : Tgt G O σ P) {x : Vl} {v : V} {f : D → Rho → Rs α'} (w : Wd G.K F O ρ σ H) (r : RV G.K F σ v x) (h : P F ((frz x ρ).bind f)) :
    ∃ d ρ' F', Wd G.K F' O ρ' σ H ∧ Sub F F' ∧ Rp G.K F' v d ∧ P F' (f d ρ') := by
  cases e : L3.frz x ρ with
  | ok d ρ' =>
    rw [e] at h
    obtain ⟨F', w', s, r'⟩ := frz_ok w r e
    exact ⟨d, ρ', F', w', s, r', T.mono s h⟩
  | err z ρ' => exact absurd e frz_noerr
  | bad => rw [e] at h; exact (T.bad h).elim
theorem Tgt.frzs {P : Hp → Rs α' → Prop} (T : Tgt G O σ P) {xs : List Vl} {vs : List V} {f : List D → Rho → Rs α'} (w : Wd G.K F O ρ σ H) (r : RVs G.K F σ vs xs) (h : P F ((frzs xs ρ).bind f)) :
    ∃ ds ρ' F', Wd G.K F' O ρ' σ H ∧ Sub F F' ∧ RpL G.K F' vs ds ∧ P F' (f ds ρ') := by
  cases e : L3.frzs xs ρ with
  | ok d ρ' =>
    rw [e] at h
    obtain ⟨F', w', s, r'⟩ := frzs_ok w r e
    exact ⟨d, ρ', F', w', s, r', T.mono s h⟩
  | err z ρ' => exact absurd e frzs_noerr
  | bad => rw [e] at h; exact (T.bad h).elim
end

/-! ### fresh containers -/
/-- a value, or a new list or dict that nobody else knows -/
inductive Vf where
  | v (x : Vl) | fr (d : D)
structure FreshAt (K : PySem.W.Frag) (F : Hp) (O : Fm) (ρ : Rho) (σ : L2.St) (H : Hp) (a : Addr) (d : D) : Prop where
  f : F a = none
  o : O.o a = none
  at_ : OwnAt K F H a d
  ap : ∀ (i : Nat) (c : Cell) (e : D), ρ[i]? = some c → c.held = some e → σ[i]? ≠ some (some (.ref a))
def FinF (G : Gx) (F : Hp) (O : Fm) (σ : L2.St) (Q : VK) : Rs Vf → Prop
  | .ok (.v x) ρ' => ∀ v H' F', Wd G.K F' O ρ' σ H' → Sub F F' → RV G.K F' σ v x → Q v H'
  | .ok (.fr d) ρ' => ∀ a H' F', Wd G.K F' O ρ' σ H' → Sub F F' → FreshAt G.K F' O ρ' σ H' a d → Q (.ref a) H'
  | .err x ρ' => ∀ c dd H' F', Wd G.K F' O ρ' σ H' → Sub F F' → XAt G.K F' G.cn c dd x → G.W c dd σ H'
  | .bad => False
def tF (G : Gx) (s : Rho → Rs Vf) : TE := fun σ H Q => ∃ ρ F O, Wd G.K F O ρ σ H ∧ FinF G F O σ Q (s ρ)
theorem Tgt.finF {G : Gx} {O : Fm} {σ : L2.St} {Q : VK} : Tgt G O σ (fun F r => FinF G F O σ Q r) := by
  refine ⟨fun {F F1 r} s h => ?_, fun h => h, fun h => h⟩
  cases r with
  | ok a ρ =>
    cases a with
    | v x => exact fun v H' F' w z r => h v H' F' w (s.trans z) r
    | fr d => exact fun v H' F' w z r => h v H' F' w (s.trans z) r
  | err x ρ => exact fun c dd H' F' w z x => h c dd H' F' w (s.trans z) x
  | bad => exact h
section
variable {K : PySem.W.Frag} {F : Hp} {O : Fm} {ρ : Rho} {σ : L2.St} {H : Hp} {a : Addr} {d : D}
/-- a fresh one becomes a value -/
theorem FreshAt.stay (x : FreshAt K F O ρ σ H a d) (w : Wd K F O ρ σ H) : ∃ F', Wd K F' O ρ σ H ∧ Sub F F' ∧ Rp K F' (.ref a) d := by
  obtain ⟨oa, ha⟩ := x.at_.some
  have sF : Sub F (upd F a oa) := sub_upd x.f
  refine ⟨upd F a oa, ⟨w.len, fun b y hb => ?_, w.o, fun b y hb => ?_, fun i e hi => ?_, fun i c e hi hc => ?_, w.pr, w.wl, w.lk, w.ap⟩, sF, x.at_.froz ha sF⟩
  · by_cases z : b = a
    · subst z; rw [upd_same] at hb; cases hb; exact ha
    · rw [upd_ne z] at hb; exact w.f b y hb
  · rw [upd_ne (ne_of_none hb x.o)]; exact w.fo b y hb
  · obtain ⟨v, q1, q2⟩ := w.val i e hi
    exact ⟨v, q1, q2.mono sF⟩
  · obtain ⟨b, q1, q2, q3, q4⟩ := w.own i c e hi hc
    have nb : b ≠ a := fun z => x.ap i c e hi hc (z ▸ q1)
    exact ⟨b, q1, by rw [upd_ne nb]; exact q2, q3, q4.mono sF rfl⟩
/-- a new list is fresh -/
theorem Wd.fresh (w : Wd K F O ρ σ H) {vs : List V} {ds : List D} (ha : H a = none) (r : RpL K F vs ds) : FreshAt K F O ρ σ (upd H a (.lst vs)) a (.list ds) := by
  refine ⟨w.f.none ha, w.o.none ha, ⟨vs, upd_same, r⟩, fun i c e hi hc h => ?_⟩
  obtain ⟨b, q1, q2, q3, q4⟩ := w.own i c e hi hc
  rw [h] at q1; cases q1
  obtain ⟨oa, h2⟩ := q4.some
  rw [ha] at h2; cases h2
/-- the new list is laid, nobody knows it -/
theorem Wd.laidF {G : Gx} {F : Hp} {O : Fm} {ρ : Rho} {σ : L2.St} {H : Hp} {a : Addr} {vs : List V} {ds : List D} {Q : VK} (w : Wd G.K F O ρ σ H) (h : FinF G F O σ Q (.ok (.fr (.list ds)) ρ)) (ha : H a = none) (r : RpL G.K F vs ds) : Q (.ref a) (upd H a (.lst vs)) :=
  h a _ F (w.lose ha) (Sub.refl _) (w.fresh ha r)
end
/-- a fresh one used as a value -/
def unF (s : Rho → Rs Vf) : Rho → Rs Vl := fun ρ => (s ρ).bind fun r ρ => match r with
  | .v x => .ok x ρ
  | .fr d => .ok (.d d) ρ
def liF (s : Rho → Rs Vl) : Rho → Rs Vf := fun ρ => (s ρ).bind fun r ρ => .ok (.v r) ρ
theorem unF_t {G : Gx} {s : Rho → Rs Vf} {σ : L2.St} {H : Hp} {Q : VK} (h : tE G (unF s) σ H Q) : tF G s σ H Q := by
  obtain ⟨ρ, F, O, w, h⟩ := h
  refine ⟨ρ, F, O, w, ?_⟩
  unfold unF at h
  cases e : s ρ with
  | ok r ρ1 =>
    rw [e, Rs.bind_ok] at h
    cases r with
    | v x => exact h
    | fr d =>
      intro a H' F' w' s' x
      obtain ⟨F2, w2, s2, r2⟩ := x.stay w'
      exact h (.ref a) H' F2 w2 (s'.trans s2) r2
  | err x ρ1 => rw [e] at h; exact h
  | bad => rw [e] at h; exact h
theorem liF_t {G : Gx} {s : Rho → Rs Vl} {σ : L2.St} {H : Hp} {Q : VK} (h : tF G (liF s) σ H Q) : tE G s σ H Q := by
  obtain ⟨ρ, F, O, w, h⟩ := h
  refine ⟨ρ, F, O, w, ?_⟩
  unfold liF at h
  cases e : s ρ with
  | ok r ρ1 => rw [e] at h; exact h
  | err x ρ1 => rw [e] at h; exact h
  | bad => rw [e] at h; exact h
/-- an expression by its fresh meaning: as a value, as a test, at an assignment -/
structure DF (X : Cx) (G : Gx) (e : Expr) (s : Rho → Rs Vf) : Prop where
  pf : PE X e (tF G s)
  he : ∀ whole, isTrue e X.env whole = (do let v ← whole; standAt e.pos; holding [v] (truthy v))
section
variable {X : Cx} {G : Gx} {e : Expr}
theorem DF.de {s : Rho → Rs Vf} (h : DF X G e s) : DE X G e (unF s) := .val (PE.imp h.pf fun _ _ _ q => unF_t q) h.he
theorem DE.pf {s : Rho → Rs Vl} (h : DE X G e s) : PE X e (tF G (liF s)) := PE.imp h.pe fun _ _ _ q => liF_t q
end

/-! ### arguments' contents -/
def conts (ρ : Rho) : List Vl → Option (List D)
  | [] => some []
  | x :: xs => (x.cont ρ).bind fun d => (conts ρ xs).map fun ds => d :: ds
def Ats (K : PySem.W.Frag) (F H : Hp) : List V → List D → Prop
  | [], [] => True
  | v :: vs, d :: ds => At K F H v d ∧ Ats K F H vs ds
  | _, _ => False
theorem Wd.ats {K : PySem.W.Frag} {F : Hp} {O : Fm} {ρ : Rho} {σ : L2.St} {H : Hp} (w : Wd K F O ρ σ H) : ∀ {vs : List V} {xs : List Vl} {ds : List D}, RVs K F σ vs xs → conts ρ xs = some ds → Ats K F H vs ds
  | [], [], ds, _, e => by cases e; trivial
  | v :: vs, x :: xs, ds, r, e => by
    unfold conts at e
    obtain ⟨d, e1, e2⟩ := Option.bind_eq_some_iff.mp e
    obtain ⟨ds2, e3, rfl⟩ := Option.map_eq_some_iff.mp e2
    exact ⟨w.at r.1 e1, w.ats r.2 e3⟩
theorem Ats.one {K : PySem.W.Frag} {F H : Hp} {vs : List V} {d : D} (h : Ats K F H vs [d]) : ∃ v, vs = [v] ∧ At K F H v d := by
  match vs, h with
  | [v], h => exact ⟨v, rfl, h.1⟩
theorem Ats.two {K : PySem.W.Frag} {F H : Hp} {vs : List V} {d e : D} (h : Ats K F H vs [d, e]) : ∃ v u, vs = [v, u] ∧ At K F H v d ∧ At K F H u e := by
  match vs, h with
  | [v, u], h => exact ⟨v, u, rfl, h.1, h.2.1⟩
/-- a built-in function of the arguments' contents -/
def sFun (f : List D → Option D) (a : Rho → Rs (List Vl)) : Rho → Rs Vl := fun ρ => (a ρ).bind fun xs ρ => ret ρ ((conts ρ xs).bind f)
def retF (ρ : Rho) : Option D → Rs Vf
  | some z => .ok (.fr z) ρ
  | none => .bad
def sFunF (f : List D → Option D) (a : Rho → Rs (List Vl)) : Rho → Rs Vf := fun ρ => (a ρ).bind fun xs ρ => retF ρ ((conts ρ xs).bind f)
section
variable {X : Cx} {G : Gx} {e : Expr} {es : List Expr} {ss : Rho → Rs (List Vl)} {x : Str} {p pos : Pos}
/-- what a built-in's rule asks, of contents -/
def FunOk (G : Gx) (r : List V → Hp → VK → Prop) (f : List D → Option D) : Prop :=
  ∀ {F : Hp} {O : Fm} {ρ : Rho} {σ : L2.St} {H : Hp} {vs : List V} {ds : List D} {z : D} {Q : VK}, Wd G.K F O ρ σ H → Ats G.K F H vs ds → f ds = some z → Post G F O ρ σ Q z → r vs H Q
def FunOkF (G : Gx) (r : List V → Hp → VK → Prop) (f : List D → Option D) : Prop :=
  ∀ {F : Hp} {O : Fm} {ρ : Rho} {σ : L2.St} {H : Hp} {vs : List V} {ds : List D} {z : D} {Q : VK}, Wd G.K F O ρ σ H → Ats G.K F H vs ds → f ds = some z → FinF G F O σ Q (.ok (.fr z) ρ) → r vs H Q
theorem sFun_t {r : List V → Hp → VK → Prop} {f : List D → Option D} (ok : FunOk G r f) {σ : L2.St} {H : Hp} {Q : VK} (h : tE G (sFun f ss) σ H Q) : tCB r (tA G ss) σ H Q := by
  obtain ⟨ρ, F, O, w, h⟩ := h
  refine tG.bind w h fun xs ρ1 vs H1 F1 _ w1 s1 rs h1 => ?_
  obtain ⟨z, e, p⟩ := ret_fin h1
  obtain ⟨ds, e1, e2⟩ := Option.bind_eq_some_iff.mp e
  exact ok w1 (w1.ats rs e1) e2 p
theorem sFunF_t {r : List V → Hp → VK → Prop} {f : List D → Option D} (ok : FunOkF G r f) {σ : L2.St} {H : Hp} {Q : VK} (h : tF G (sFunF f ss) σ H Q) : tCB r (tA G ss) σ H Q := by
  obtain ⟨ρ, F, O, w, h⟩ := h
  refine Tgt.finF.bind w h fun xs ρ1 vs H1 F1 w1 s1 rs h1 => ?_
  cases e : (conts ρ1 xs).bind f with
  | none => rw [e] at h1; exact h1.elim
  | some z =>
    rw [e] at h1
    obtain ⟨ds, e1, e2⟩ := Option.bind_eq_some_iff.mp e
    exact ok w1 (w1.ats rs e1) e2 h1
def notStar : Expr → Bool
  | .Starred _ _ => false
  | _ => true
theorem star_plain (h : notStar e = true) : ∀ env, starEach (e :: es) env = (false, eval e env) :: starEach es env := fun env => by
  cases e <;> first | rfl | cases h
def plainArgs (es : List Expr) : Bool := es.all notStar
theorem any_plain : ∀ {es : List Expr}, plainArgs es = true → ∀ env pos, (backTo pos (starEach es env)).any (·.1) = false
  | [], _, _, _ => rfl
  | e :: es, h, env, pos => by
    have h' : notStar e = true ∧ plainArgs es = true := by simpa [plainArgs] using h
    rw [star_plain h'.1]
    show ((false : Bool) || (backTo pos (starEach es env)).any (·.1)) = false
    rw [any_plain h'.2]
    rfl
theorem de_callB {id : String} {r : List V → Hp → VK → Prop} {f : List D → Option D} (hc : CallR X (.builtin id) r) (ok : FunOk G r f) (hg : Gl X x) (hm : X.mg x = none) (hv : bootBuiltins x = some (.builtin id)) (ha : PA X (e :: es) (tA G ss)) (hp : plainArgs (e :: es) = true)
    (hn : x ≠ "__name__") (hd : (x == ("__debug__" : Str)) = false) : DE X G (.Call (.Name x p) (e :: es) [] pos) (sFun f ss) := by
  have h' : notStar e = true ∧ plainArgs es = true := by simpa [plainArgs] using hp
  exact .val (PE.imp (pe_callB hc hg hm hv ha hn hd (star_plain h'.1 _) (any_plain h'.2 _ _)) fun _ _ _ q => sFun_t ok q) fun _ => rfl
theorem de_callT {T : String} {r : List V → Hp → VK → Prop} {f : List D → Option D} (hc : CallR X (.type T) r) (ok : FunOk G r f) (hg : Gl X x) (hm : X.mg x = none) (hv : bootBuiltins x = some (.type T)) (ha : PA X (e :: es) (tA G ss)) (hp : plainArgs (e :: es) = true)
    (hn : x ≠ "__name__") (hd : (x == ("__debug__" : Str)) = false) : DE X G (.Call (.Name x p) (e :: es) [] pos) (sFun f ss) := by
  have h' : notStar e = true ∧ plainArgs es = true := by simpa [plainArgs] using hp
  exact .val (PE.imp (pe_callTy hc hg hm hv ha hn hd (star_plain h'.1 _) (any_plain h'.2 _ _)) fun _ _ _ q => sFun_t ok q) fun _ => rfl
theorem df_callB {id : String} {r : List V → Hp → VK → Prop} {f : List D → Option D} (hc : CallR X (.builtin id) r) (ok : FunOkF G r f) (hg : Gl X x) (hm : X.mg x = none) (hv : bootBuiltins x = some (.builtin id)) (ha : PA X (e :: es) (tA G ss)) (hp : plainArgs (e :: es) = true)
    (hn : x ≠ "__name__") (hd : (x == ("__debug__" : Str)) = false) : DF X G (.Call (.Name x p) (e :: es) [] pos) (sFunF f ss) := by
  have h' : notStar e = true ∧ plainArgs es = true := by simpa [plainArgs] using hp
  exact ⟨PE.imp (pe_callB hc hg hm hv ha hn hd (star_plain h'.1 _) (any_plain h'.2 _ _)) fun _ _ _ q => sFunF_t ok q, fun _ => rfl⟩
theorem df_callT {T : String} {r : List V → Hp → VK → Prop} {f : List D → Option D} (hc : CallR X (.type T) r) (ok : FunOkF G r f) (hg : Gl X x) (hm : X.mg x = none) (hv : bootBuiltins x = some (.type T)) (ha : PA X (e :: es) (tA G ss)) (hp : plainArgs (e :: es) = true)
    (hn : x ≠ "__name__") (hd : (x == ("__debug__" : Str)) = false) : DF X G (.Call (.Name x p) (e :: es) [] pos) (sFunF f ss) := by
  have h' : notStar e = true ∧ plainArgs es = true := by simpa [plainArgs] using hp
  exact ⟨PE.imp (pe_callTy hc hg hm hv ha hn hd (star_plain h'.1 _) (any_plain h'.2 _ _)) fun _ _ _ q => sFunF_t ok q, fun _ => rfl⟩
end

/-! ### the functions -/
def lenD : List D → Option D
  | [.list xs] => if szOk xs.length then some (.int xs.length) else none
  | [.tuple xs] => if szOk xs.length then some (.int xs.length) else none
  | [.str x] => if szOk x.length then some (.int x.length) else none
  | [.dict [(.none, .list xs)]] => some (.int xs.length)
  | _ => none
def intsD : List D → Option (List Int)
  | [] => some []
  | .int i :: r => (intsD r).map fun ns => i :: ns
  | _ => none
def boolsD : List D → Option (List Bool)
  | [] => some []
  | .bool i :: r => (boolsD r).map fun ns => i :: ns
  | _ => none
theorem intsD_rel {K : PySem.W.Frag} {F : Hp} : ∀ {vs : List V} {ds : List D} {ns : List Int}, RpL K F vs ds → intsD ds = some ns → vs = ns.map V.int ∧ ds = ns.map PyData.int
  | _, _, ns, .nil, e => by cases e; exact ⟨rfl, rfl⟩
  | _, _, ns, .cons (d := d) h r, e => by
    cases d with
    | int i =>
      obtain ⟨m, e1, rfl⟩ := Option.map_eq_some_iff.mp (show (intsD _).map _ = some ns from e)
      obtain ⟨rfl, rfl⟩ := intsD_rel r e1
      cases h
      exact ⟨rfl, rfl⟩
    | _ => cases e
theorem boolsD_rel {K : PySem.W.Frag} {F : Hp} : ∀ {vs : List V} {ds : List D} {ns : List Bool}, RpL K F vs ds → boolsD ds = some ns → vs = ns.map V.bl ∧ ds = ns.map PyData.bool
  | _, _, ns, .nil, e => by cases e; exact ⟨rfl, rfl⟩
  | _, _, ns, .cons (d := d) h r, e => by
    cases d with
    | bool i =>
      obtain ⟨m, e1, rfl⟩ := Option.map_eq_some_iff.mp (show (boolsD _).map _ = some ns from e)
      obtain ⟨rfl, rfl⟩ := boolsD_rel r e1
      cases h
      exact ⟨rfl, rfl⟩
    | _ => cases e
theorem seqAt {K : PySem.W.Frag} {F H : Hp} {v : V} {d : D} {ds : List D} (s : Sub F H) (h : At K F H v d) (e : itemsD d = some ds) : ∃ a vs, v = .ref a ∧ ((d = .list ds ∧ H a = some (.lst vs)) ∨ (d = .tuple ds ∧ SqT K F a vs ∧ SqT K H a vs)) ∧ RpL K F vs ds := by
  cases d with
  | list xs => cases e; obtain ⟨a, vs, h1, h2, h3⟩ := h.list s; exact ⟨a, vs, h1, .inl ⟨rfl, h2⟩, h3⟩
  | tuple xs => cases e; obtain ⟨a, vs, h1, h2, h3, h4⟩ := h.tuple s; exact ⟨a, vs, h1, .inr ⟨rfl, h2, h3⟩, h4⟩
  | _ => cases e
section
variable {X : Cx} {G : Gx}
def rLen (K : PySem.W.Frag) : List V → Hp → VK → Prop := fun xs H Q => ∃ x n, xs = [x] ∧ LenV K x H n ∧ Q (.int n) H
theorem ok_len : FunOk G (rLen G.K) lenD := by
  intro F O ρ σ H vs ds z Q w at_ e p
  unfold lenD at e
  split at e
  · obtain ⟨h1, rfl⟩ := ifs e
    obtain ⟨v, rfl, ha⟩ := at_.one
    obtain ⟨a, us, rfl, q, r⟩ := ha.list w.f
    exact ⟨_, us.length, rfl, .inl ⟨us, SqL.of q, rfl⟩, by rw [r.length]; exact p.now w (.int _)⟩
  · obtain ⟨h1, rfl⟩ := ifs e
    obtain ⟨v, rfl, ha⟩ := at_.one
    obtain ⟨a, us, rfl, _, q, r⟩ := ha.tuple w.f
    exact ⟨_, us.length, rfl, .inr ⟨us, q, rfl⟩, by rw [r.length]; exact p.now w (.int _)⟩
  · obtain ⟨h1, rfl⟩ := ifs e
    obtain ⟨v, rfl, ha⟩ := at_.one
    rw [ha.str]
    exact ⟨_, _, rfl, ⟨szOk_iff.mp h1, rfl⟩, p.now w (.int _)⟩
  · cases e
    obtain ⟨v, rfl, ha⟩ := at_.one
    obtain ⟨a, ns, rfl, q, rfl⟩ := ha.scr w.f
    rw [List.length_map] at p
    exact ⟨_, ns.length, rfl, .inl ⟨_, q, by rw [List.length_map]⟩, p.now w (.int _)⟩
  · cases e
end
end L3
/-! L3, part 7: more built-in functions, isinstance, slices. -/
namespace L3
open PySem PySem.Spec PyProof.Rows L2

/-! ### the mathematics of the built-ins -/
def insI (x : Int) : List Int → List Int
  | [] => [x]
  | y :: r => if x ≤ y then x :: y :: r else y :: insI x r
def sortI : List Int → List Int
  | [] => []
  | x :: r => insI x (sortI r)
theorem insI_perm (x : Int) : ∀ l, (insI x l).Perm (x :: l)
  | [] => .refl _
  | y :: r => by
    unfold insI
    split
    · exact .refl _
    · exact ((insI_perm x r).cons y).trans (.swap x y r)
theorem sortI_perm : ∀ l, (sortI l).Perm l
  | [] => .refl _
  | x :: r => (insI_perm x _).trans ((sortI_perm r).cons x)
theorem insI_sorted (x : Int) : ∀ l : List Int, l.Pairwise (· ≤ ·) → (insI x l).Pairwise (· ≤ ·)
  | [], _ => List.pairwise_singleton _ _
  | y :: r, h => by
    unfold insI
    have h' := List.pairwise_cons.mp h
    split
    · refine List.pairwise_cons.mpr ⟨fun z hz => ?_, h⟩
      rcases List.mem_cons.mp hz with rfl | hz
      · assumption
      · exact Int.le_trans ‹_› (h'.1 z hz)
    · refine List.pairwise_cons.mpr ⟨fun z hz => ?_, insI_sorted x r h'.2⟩
      rcases List.mem_cons.mp ((insI_perm x r).mem_iff.mp hz) with rfl | hz
      · omega
      · exact h'.1 z hz
theorem sortI_sorted : ∀ l, (sortI l).Pairwise (· ≤ ·)
  | [] => .nil
  | x :: r => insI_sorted x _ (sortI_sorted r)
theorem sorted_unique : ∀ {l m : List Int}, l.Perm m → l.Pairwise (· ≤ ·) → m.Pairwise (· ≤ ·) → l = m
  | [], m, p, _, _ => (List.nil_perm.mp p).symm
  | x :: l, [], p, _, _ => by simp at p
  | x :: l, y :: m, p, hl, hm => by
    have h1 := List.pairwise_cons.mp hl
    have h2 := List.pairwise_cons.mp hm
    have e : x = y := by
      have a : y ≤ x := by
        rcases List.mem_cons.mp (p.mem_iff.mp List.mem_cons_self) with e | e
        · omega
        · exact h2.1 x e
      have b : x ≤ y := by
        rcases List.mem_cons.mp (p.mem_iff.mpr List.mem_cons_self) with e | e
        · omega
        · exact h1.1 y e
      omega
    subst e
    rw [sorted_unique (List.Perm.cons_inv p) h1.2 h2.2]
theorem sortI_eq {l m : List Int} (p : l.Perm m) (h : l.Pairwise (· ≤ ·)) : l = sortI m := sorted_unique (p.trans (sortI_perm m).symm) h (sortI_sorted m)
def minI : Int → List Int → Int
  | m, [] => m
  | m, x :: r => minI (if x < m then x else m) r
def maxI : Int → List Int → Int
  | m, [] => m
  | m, x :: r => maxI (if m < x then x else m) r
theorem minI_mem : ∀ (m : Int) (l : List Int), minI m l ∈ m :: l
  | m, [] => List.mem_cons_self
  | m, x :: r => by
    have h := minI_mem (if x < m then x else m) r
    unfold minI
    rcases List.mem_cons.mp h with e | e
    · rw [e]; split <;> simp
    · simp [e]
theorem minI_le : ∀ (m : Int) (l : List Int), ∀ y ∈ m :: l, minI m l ≤ y
  | m, [], y, h => by simp at h; subst h; exact Int.le_refl _
  | m, x :: r, y, h => by
    unfold minI
    have q := minI_le (if x < m then x else m) r
    have q0 := q _ List.mem_cons_self
    have le1 : (if x < m then x else m) ≤ m ∧ (if x < m then x else m) ≤ x := by split <;> omega
    rcases List.mem_cons.mp h with e | e
    · subst e; omega
    · rcases List.mem_cons.mp e with e | e
      · subst e; omega
      · exact q y (List.mem_cons_of_mem _ e)
theorem maxI_mem : ∀ (m : Int) (l : List Int), maxI m l ∈ m :: l
  | m, [] => List.mem_cons_self
  | m, x :: r => by
    have h := maxI_mem (if m < x then x else m) r
    unfold maxI
    rcases List.mem_cons.mp h with e | e
    · rw [e]; split <;> simp
    · simp [e]
theorem maxI_le : ∀ (m : Int) (l : List Int), ∀ y ∈ m :: l, y ≤ maxI m l
  | m, [], y, h => by simp at h; subst h; exact Int.le_refl _
  | m, x :: r, y, h => by
    unfold maxI
    have q := maxI_le (if m < x then x else m) r
    have q0 := q _ List.mem_cons_self
    have le1 : m ≤ (if m < x then x else m) ∧ x ≤ (if m < x then x else m) := by split <;> omega
    rcases List.mem_cons.mp h with e | e
    · subst e; omega
    · rcases List.mem_cons.mp e with e | e
      · subst e; omega
      · exact q y (List.mem_cons_of_mem _ e)

/-! ### the functions -/
def absD : List D → Option D
  | [.int i] => some (.int (if i < 0 then -i else i))
  | _ => none
def intD : List D → Option D
  | [.int i] => some (.int i)
  | [.bool k] => some (.int (if k then 1 else 0))
  | _ => none
def minD : List D → Option D
  | [.int i, .int j] => some (.int (if j < i then j else i))
  | [.list xs] => (intsD xs).bind fun
    | [] => none
    | n :: ns => some (.int (minI n ns))
  | _ => none
def maxD : List D → Option D
  | [.int i, .int j] => some (.int (if j > i then j else i))
  | [.list xs] => (intsD xs).bind fun
    | [] => none
    | n :: ns => some (.int (maxI n ns))
  | _ => none
def sumD : List D → Option D
  | [.list xs] => (intsD xs).map fun ns => .int ns.sum
  | _ => none
def anyD : List D → Option D
  | [.list xs] => (boolsD xs).map fun ns => .bool (ns.any id)
  | _ => none
def allD : List D → Option D
  | [.list xs] => (boolsD xs).map fun ns => .bool (ns.all id)
  | _ => none
def tupleD : List D → Option D
  | [.list xs] => some (.tuple xs)
  | [.tuple xs] => some (.tuple xs)
  | _ => none
def listD : List D → Option D
  | [.list xs] => some (.list xs)
  | [.tuple xs] => some (.list xs)
  | _ => none
def sortedD : List D → Option D
  | [.list xs] => (intsD xs).map fun ns => .list ((sortI ns).map .int)
  | _ => none
section
variable {X : Cx} {G : Gx}
theorem ok_abs : FunOk G (fun xs H Q => ∃ i, xs = [.int i] ∧ Q (.int (if i < 0 then -i else i)) H) absD := by
  intro F O ρ σ H vs ds z Q w at_ e p
  unfold absD at e
  split at e
  · cases e
    obtain ⟨v, rfl, ha⟩ := at_.one
    rw [ha.int]
    exact ⟨_, rfl, p.now w (.int _)⟩
  · cases e
theorem ok_int : FunOk G (fun xs H Q => (∃ i, xs = [.int i] ∧ Q (.int i) H) ∨ ∃ k, xs = [.bl k] ∧ Q (.int (if k then 1 else 0)) H) intD := by
  intro F O ρ σ H vs ds z Q w at_ e p
  unfold intD at e
  split at e
  · cases e
    obtain ⟨v, rfl, ha⟩ := at_.one
    rw [ha.int]
    exact .inl ⟨_, rfl, p.now w (.int _)⟩
  · cases e
    obtain ⟨v, rfl, ha⟩ := at_.one
    rw [ha.bool]
    exact .inr ⟨_, rfl, p.now w (.int _)⟩
  · cases e
def rMin2 (K : PySem.W.Frag) : List V → Hp → VK → Prop := fun xs H Q => (∃ i j, xs = [.int i, .int j] ∧ Q (.int (if j < i then j else i)) H) ∨ rMin K xs H Q
def rMax2 (K : PySem.W.Frag) : List V → Hp → VK → Prop := fun xs H Q => (∃ i j, xs = [.int i, .int j] ∧ Q (.int (if j > i then j else i)) H) ∨ rMax K xs H Q
theorem ok_min : FunOk G (rMin2 G.K) minD := by
  intro F O ρ σ H vs ds z Q w at_ e p
  unfold minD at e
  split at e
  · cases e
    obtain ⟨v, u, rfl, ha, hb⟩ := at_.two
    rw [ha.int, hb.int]
    exact .inl ⟨_, _, rfl, p.now w (.int _)⟩
  · obtain ⟨ns, e1, e2⟩ := Option.bind_eq_some_iff.mp e
    obtain ⟨v, rfl, ha⟩ := at_.one
    obtain ⟨a, us, rfl, q, r⟩ := ha.list w.f
    obtain ⟨rfl, rfl⟩ := intsD_rel r e1
    cases ns with
    | nil => cases e2
    | cons n ns =>
      cases e2
      refine .inr ⟨a, _, rfl, SqL.of q, by simp, fun m h1 h2 => ?_⟩
      have : m = minI n ns := Int.le_antisymm (h2 _ (minI_mem n ns)) (minI_le n ns m h1)
      subst this
      exact p.now w (.int _)
  · cases e
theorem ok_max : FunOk G (rMax2 G.K) maxD := by
  intro F O ρ σ H vs ds z Q w at_ e p
  unfold maxD at e
  split at e
  · cases e
    obtain ⟨v, u, rfl, ha, hb⟩ := at_.two
    rw [ha.int, hb.int]
    exact .inl ⟨_, _, rfl, p.now w (.int _)⟩
  · obtain ⟨ns, e1, e2⟩ := Option.bind_eq_some_iff.mp e
    obtain ⟨v, rfl, ha⟩ := at_.one
    obtain ⟨a, us, rfl, q, r⟩ := ha.list w.f
    obtain ⟨rfl, rfl⟩ := intsD_rel r e1
    cases ns with
    | nil => cases e2
    | cons n ns =>
      cases e2
      refine .inr ⟨a, _, rfl, SqL.of q, by simp, fun m h1 h2 => ?_⟩
      have : m = maxI n ns := Int.le_antisymm (maxI_le n ns m h1) (h2 _ (maxI_mem n ns))
      subst this
      exact p.now w (.int _)
  · cases e
theorem ok_sum : FunOk G (rSum G.K) sumD := by
  intro F O ρ σ H vs ds z Q w at_ e p
  unfold sumD at e
  split at e
  · obtain ⟨ns, e1, rfl⟩ := Option.map_eq_some_iff.mp e
    obtain ⟨v, rfl, ha⟩ := at_.one
    obtain ⟨a, us, rfl, q, r⟩ := ha.list w.f
    obtain ⟨rfl, rfl⟩ := intsD_rel r e1
    exact ⟨a, ns, rfl, SqL.of q, p.now w (.int _)⟩
  · cases e
theorem ok_any : FunOk G (rAny G.K) anyD := by
  intro F O ρ σ H vs ds z Q w at_ e p
  unfold anyD at e
  split at e
  · obtain ⟨ns, e1, rfl⟩ := Option.map_eq_some_iff.mp e
    obtain ⟨v, rfl, ha⟩ := at_.one
    obtain ⟨a, us, rfl, q, r⟩ := ha.list w.f
    obtain ⟨rfl, rfl⟩ := boolsD_rel r e1
    exact ⟨a, ns, rfl, SqL.of q, p.now w (.bl _)⟩
  · cases e
theorem ok_all : FunOk G (rAll G.K) allD := by
  intro F O ρ σ H vs ds z Q w at_ e p
  unfold allD at e
  split at e
  · obtain ⟨ns, e1, rfl⟩ := Option.map_eq_some_iff.mp e
    obtain ⟨v, rfl, ha⟩ := at_.one
    obtain ⟨a, us, rfl, q, r⟩ := ha.list w.f
    obtain ⟨rfl, rfl⟩ := boolsD_rel r e1
    exact ⟨a, ns, rfl, SqL.of q, p.now w (.bl _)⟩
  · cases e
theorem ok_tuple : FunOk G (fun xs H Q => ∃ p ys, xs = [.ref p] ∧ ((SqL G.K H p ys ∧ ∀ l, H l = none → Q (.ref l) (upd H l (.tup ys))) ∨ (SqT G.K H p ys ∧ Q (.ref p) H))) tupleD := by
  intro F O ρ σ H vs ds z Q w at_ e p
  unfold tupleD at e
  split at e
  · cases e
    obtain ⟨v, rfl, ha⟩ := at_.one
    obtain ⟨a, us, rfl, q, r⟩ := ha.list w.f
    exact ⟨a, us, rfl, .inl ⟨SqL.of q, fun l hl => p.new w hl (.tup (.inl (.inl upd_same)) (r.mono (sub_upd (w.f.none hl))))⟩⟩
  · cases e
    obtain ⟨v, rfl, ha⟩ := at_.one
    obtain ⟨a, us, rfl, q0, q, r⟩ := ha.tuple w.f
    exact ⟨a, us, rfl, .inr ⟨q, p.now w (.tup q0 r)⟩⟩
  · cases e
theorem ok_list : FunOkF G (fun xs H Q => ∃ p ys, xs = [.ref p] ∧ (SqL G.K H p ys ∨ SqT G.K H p ys) ∧ ∀ l, H l = none → Q (.ref l) (upd H l (.lst ys))) listD := by
  intro F O ρ σ H vs ds z Q w at_ e p
  unfold listD at e
  split at e
  · cases e
    obtain ⟨v, rfl, ha⟩ := at_.one
    obtain ⟨a, us, rfl, q, r⟩ := ha.list w.f
    exact ⟨a, us, rfl, .inl (SqL.of q), fun l hl => w.laidF p hl r⟩
  · cases e
    obtain ⟨v, rfl, ha⟩ := at_.one
    obtain ⟨a, us, rfl, q0, q, r⟩ := ha.tuple w.f
    exact ⟨a, us, rfl, .inr q, fun l hl => w.laidF p hl r⟩
  · cases e
theorem ok_sorted : FunOkF G (rSortedI G.K) sortedD := by
  intro F O ρ σ H vs ds z Q w at_ e p
  unfold sortedD at e
  split at e
  · obtain ⟨ns, e1, rfl⟩ := Option.map_eq_some_iff.mp e
    obtain ⟨v, rfl, ha⟩ := at_.one
    obtain ⟨a, us, rfl, q, r⟩ := ha.list w.f
    obtain ⟨rfl, rfl⟩ := intsD_rel r e1
    refine ⟨a, ns, rfl, SqL.of q, fun ns' l hp hs hl => ?_⟩
    have := sortI_eq hp hs
    subst this
    exact w.laidF p hl (RpL.ints _)
  · cases e

/-! ### isinstance -/
inductive Ty where
  | int | bool | str | tuple | list | dict
  deriving DecidableEq
def Ty.nm : Ty → String
  | .int => "int"
  | .bool => "bool"
  | .str => "str"
  | .tuple => "tuple"
  | .list => "list"
  | .dict => "dict"
def Ty.of : Ty → D → Bool
  | .int, .int _ => true
  | .int, .bool _ => true
  | .bool, .bool _ => true
  | .str, .str _ => true
  | .tuple, .tuple _ => true
  | .list, .list _ => true
  | .dict, .dict _ => true
  | _, _ => false
def isScr : D → Bool
  | .dict [(.none, _)] => true
  | _ => false
/-- whether a value is of a type; none for the script -/
def isT (t : Ty) (d : D) : Option Bool := if isScr d then none else some (t.of d)
def dTy : D → String
  | .none => "NoneType"
  | .bool _ => "bool"
  | .int _ => "int"
  | .str _ => "str"
  | .list _ => "list"
  | .tuple _ => "tuple"
  | .dict _ => "dict"
inductive Kd where
  | non | bl | int | str | lst | tup | dic
def Kd.nm : Kd → String
  | .non => "NoneType"
  | .bl => "bool"
  | .int => "int"
  | .str => "str"
  | .lst => "list"
  | .tup => "tuple"
  | .dic => "dict"
def Kd.isT : Kd → Ty → Bool
  | .int, .int => true
  | .bl, .int => true
  | .bl, .bool => true
  | .str, .str => true
  | .tup, .tuple => true
  | .lst, .list => true
  | .dic, .dict => true
  | _, _ => false
theorem kd_kit (k : Kd) (t : Ty) : kitB k.nm t.nm = some (k.isT t) := by cases k <;> cases t <;> decide +kernel
theorem kd_of (t : Ty) (d : D) : ∃ k : Kd, dTy d = k.nm ∧ t.of d = k.isT t := by
  cases d with
  | none => exact ⟨.non, rfl, by cases t <;> rfl⟩
  | bool b => exact ⟨.bl, rfl, by cases t <;> rfl⟩
  | int b => exact ⟨.int, rfl, by cases t <;> rfl⟩
  | str b => exact ⟨.str, rfl, by cases t <;> rfl⟩
  | list b => exact ⟨.lst, rfl, by cases t <;> rfl⟩
  | tuple b => exact ⟨.tup, rfl, by cases t <;> rfl⟩
  | dict b => exact ⟨.dic, rfl, by cases t <;> rfl⟩
theorem isT_kit {K : PySem.W.Frag} {t : Ty} {d : D} {b : Bool} (e : isT t d = some b) : PySem.W.kitOne K (.type (dTy d)) (.type t.nm) = some b := by
  unfold isT at e
  split at e
  · cases e
  · cases e
    obtain ⟨k, e1, e2⟩ := kd_of t d
    rw [e1, e2]
    exact kit_ty (kd_kit k t)
theorem At.ty {K : PySem.W.Frag} {F H : Hp} {v : V} {d : D} (s : Sub F H) (h : At K F H v d) (ns : ∀ x, d ≠ .dict [(.none, x)]) : TyX K H v (.type (dTy d)) := by
  have tupT : ∀ {a : Addr} {vs : List V}, SqT K H a vs → TyX K H (.ref a) (.type "tuple") := fun {a vs} q => by
    rcases q with (q | ⟨o, q⟩) | ⟨o, its, n, q, hc, _⟩
    · exact .base (.tup q)
    · exact .fTuple q
    · exact .kTuple q hc
  rcases h with h | ⟨a, rfl, h⟩
  · cases h with
    | non => exact .base .non
    | bl b => exact .base (.bl b)
    | int b => exact .base (.int b)
    | str b => exact .base (.str b)
    | lst q r => exact .base (.lst (s _ _ q))
    | scr q => exact absurd rfl (ns _)
    | tup q r => exact tupT (s.sqT q)
    | dK q r => exact .base (.dK (s _ _ q))
    | dT q r => exact .base (.dT (s _ _ q))
  · cases d with
    | list ds => obtain ⟨vs, e, r⟩ := h; exact .base (.lst e)
    | dict ds =>
      rcases h with ⟨vs, e, r⟩ | ⟨vs, e, r⟩
      · exact .base (.dK e)
      · exact .base (.dT e)
    | _ => exact h.elim
theorem isT_ns {t : Ty} {d : D} {b : Bool} (e : isT t d = some b) : ∀ x, d ≠ .dict [(.none, x)] := fun x z => by
  subst z; simp [isT, isScr] at e
def isiD (ts : List Ty) (d : D) : Option D :=
  match ts with
  | [] => if (isT .int d).isSome then some (.bool false) else none
  | [t] => (isT t d).map .bool
  | t :: r => match isT t d with
    | some true => some (.bool true)
    | some false => isiD r d
    | none => none
variable {a : Expr} {sa : Rho → Rs Vl} {p p1 p2 pos : Pos}
theorem boot_ty (t : Ty) : bootBuiltins t.nm = some (.type t.nm) := by cases t <;> decide +kernel
/-- isinstance(x, T) -/
theorem de_isi (hK : X.K = G.K) {t : Ty} (hg : Gl X "isinstance") (hm : X.mg "isinstance" = none) (hg2 : Gl X t.nm) (hm2 : X.mg t.nm = none) (hn : notStar a = true) (ha : PE X a (tE G sa)) :
    DE X G (.Call (.Name "isinstance" p1) [a, .Name t.nm p2] [] pos) (sUn (isiD [t]) sa) := by
  have hT : PE X (.Name t.nm p2) (tC (.ty t.nm)) := pe_bltn hg2 hm2 (boot_ty t) rfl (by cases t <;> decide) (by cases t <;> decide)
  refine .val (PE.imp (pe_callB call_isi hg hm (by decide +kernel) (pa_cons ha (pa_cons hT pa_nil) (star_plain hn _)) (by decide) (by decide) (star_plain hn _) (any_plain (by rfl) _ _)) fun σ H Q h => ?_) fun _ => rfl
  obtain ⟨ρ, F, O, w, h⟩ := h
  refine tG.bind w h fun x ρ1 v H1 F1 _ w1 s1 rx h1 => ?_
  obtain ⟨d, z, hd, e, k⟩ := one_fin w1 rx h1
  obtain ⟨b, e1, rfl⟩ := Option.map_eq_some_iff.mp (show (isT t d).map PyData.bool = some z from e)
  rw [hK]
  exact ⟨v, .ty t.nm, _, _, b, rfl, .ty _, hd.ty w1.f (isT_ns e1), isT_kit e1, k.now w1 (.bl _)⟩
end
end L3
/-! L3, part 8: slices, isinstance of several types, displays of lists. -/
namespace L3
open PySem PySem.Spec PyProof.Rows L2

/-! ### slices -/
def cutL {α : Type} (xs : List α) (lo hi : Option Int) : List α := (xs.drop (HT.sIx xs.length 0 lo)).take (HT.sIx xs.length xs.length hi - HT.sIx xs.length 0 lo)
def sPart : Option (Rho → Rs Vl) → Rho → Rs (Option Int)
  | none, ρ => .ok none ρ
  | some s, ρ => (s ρ).bind fun x ρ => match x.cont ρ with
    | some (.int i) => .ok (some i) ρ
    | _ => .bad
def slOf (ρ : Rho) (o : Option D) (lo hi : Option Int) : Rs Vf :=
  match o with
  | some (.list xs) => .ok (.fr (.list (cutL xs lo hi))) ρ
  | some (.tuple xs) => .ok (.v (.d (.tuple (cutL xs lo hi)))) ρ
  | _ => .bad
def sSl (a : Rho → Rs Vl) (lo hi : Option (Rho → Rs Vl)) : Rho → Rs Vf := fun ρ => (a ρ).bind fun x ρ => (sPart lo ρ).bind fun l ρ => (sPart hi ρ).bind fun h ρ => slOf ρ (x.cont ρ) l h
def RO (_ : PySem.W.Frag) (_ : Hp) (_ : L2.St) (b c : Option Int) : Prop := b = c
/-- a part of a slice -/
structure DO (X : Cx) (G : Gx) (o : Option Expr) (s : Option (Rho → Rs Vl)) : Prop where
  ex : ∃ t, PO X o t ∧ ∀ σ H Q, tG G RO (sPart s) σ H Q → t σ H Q
section
variable {X : Cx} {G : Gx} {a : Expr} {sa : Rho → Rs Vl} {lo hi : Option Expr} {sl sh : Option (Rho → Rs Vl)} {pos p2 : Pos}
theorem do_none : DO X G none none := ⟨tNoPart, po_none, fun σ H Q h => by
  obtain ⟨ρ, F, O, w, h⟩ := h
  exact h none H F w (Sub.refl _) rfl⟩
theorem do_some {e : Expr} {s : Rho → Rs Vl} (h : PE X e (tE G s)) : DO X G (some e) (some s) := ⟨tPart (tE G s), po_some h, fun σ H Q h => by
  obtain ⟨ρ, F, O, w, h⟩ := h
  refine Tgt.fin.bind w h fun x ρ1 v H1 F1 w1 s1 rx h1 => ?_
  cases e : x.cont ρ1 with
  | none => rw [e] at h1; exact h1.elim
  | some d =>
    rw [e] at h1
    cases d with
    | int i => exact ⟨i, (w1.at rx e).int, h1 _ _ _ w1 (Sub.refl _) rfl⟩
    | _ => exact h1.elim⟩
theorem RpL.cut {K : PySem.W.Frag} {F : Hp} {vs : List V} {ds : List D} (r : RpL K F vs ds) (lo hi : Option Int) : RpL K F (cutV vs lo hi) (cutL ds lo hi) := by
  unfold cutV cutL
  rw [r.length]
  exact (r.drop _).take _
theorem df_slice (hK : X.K = G.K) (ha : PE X a (tE G sa)) (hl : DO X G lo sl) (hh : DO X G hi sh) : DF X G (.Subscript a (.Slice lo hi none p2) pos) (sSl sa sl sh) := by
  obtain ⟨tl, pl, il⟩ := hl.ex
  obtain ⟨th, ph, ih⟩ := hh.ex
  refine ⟨PE.imp (pe_slice (sl_list.or sl_tupA) ha pl ph) fun σ H Q h => ?_, fun _ => rfl⟩
  obtain ⟨ρ, F, O, w, h⟩ := h
  refine Tgt.finF.bind w h fun x ρ1 v H1 F1 w1 s1 rx h1 => il _ _ _ (Tgt.finF.bind w1 h1 fun l ρ2 l' H2 F2 w2 s2 el h2 => ih _ _ _ (Tgt.finF.bind w2 h2 fun u ρ3 u' H3 F3 w3 s3 eu h3 => ?_))
  have el : l' = l := el
  have eu : u' = u := eu
  subst el eu
  have rx3 : RV G.K F3 σ v x := (rx.mono s2).mono s3
  unfold slOf at h3
  split at h3
  · rename_i xs e
    obtain ⟨b, us, rfl, q, r⟩ := (w3.at rx3 e).list w3.f
    exact .inl ⟨b, us, rfl, SqL.of q, fun p hp => w3.laidF h3 hp (r.cut _ _)⟩
  · rename_i xs e
    obtain ⟨b, us, rfl, q0, q, r⟩ := (w3.at rx3 e).tuple w3.f
    rw [hK]
    refine .inr ⟨b, us, rfl, q, fun hw => ?_, fun _ p hp => ?_⟩
    · have : cutL xs l' u' = xs := by
        unfold cutL
        rw [← r.length, hw.1, hw.2, List.drop_zero, Nat.sub_zero]
        exact List.take_of_length_le (by rw [r.length]; exact Nat.le_refl _)
      rw [this] at h3
      exact h3 _ _ _ w3 (Sub.refl _) (Rp.tup q0 r)
    · exact h3 _ _ _ (w3.alloc hp) (sub_upd (w3.f.none hp)) (Rp.tup (.inl (.inl upd_same)) ((r.cut _ _).mono (sub_upd (w3.f.none hp))))
  · exact h3.elim
end

/-! ### lists written out -/
def sLst (s : Rho → Rs (List Vl)) : Rho → Rs Vf := fun ρ => (s ρ).bind fun xs ρ => (frzs xs ρ).bind fun ds ρ => if szOk ds.length then .ok (.fr (.list ds)) ρ else .bad
section
variable {X : Cx} {G : Gx} {a b : Expr} {sa sb : Rho → Rs Vl} {es : List Expr} {ss : Rho → Rs (List Vl)} {pos p1 p2 p3 p4 : Pos}
theorem df_lst (h : PA X es (tA G ss)) : DF X G (.List es pos) (sLst ss) := by
  refine ⟨PE.imp (pe_lst h) fun σ H Q h => ?_, fun _ => rfl⟩
  obtain ⟨ρ, F, O, w, h⟩ := h
  refine Tgt.finF.bind w h fun xs ρ1 vs H1 F1 w1 s1 rs h1 => ?_
  obtain ⟨ds, ρ2, F2, w2, s2, r2, h2⟩ := Tgt.finF.frzs w1 rs h1
  split at h2
  · exact ⟨by rw [r2.length]; exact szOk_iff.mp ‹_›, fun p hp => w2.laidF h2 hp r2⟩
  · exact h2.elim

/-! ### list + list, at an assignment -/
def addF (ρ : Rho) (a b : Vl) : Rs Vf :=
  match a.cont ρ, b.cont ρ with
  | some (.list xs), some (.list ys) => if szOk (xs.length + ys.length) then .ok (.fr (.list (xs ++ ys))) ρ else .bad
  | _, _ => (two ρ a b addD).bind fun r ρ => .ok (.v r) ρ
def sAddF (a b : Rho → Rs Vl) : Rho → Rs Vf := fun ρ => (a ρ).bind fun x ρ => (b ρ).bind fun y ρ => addF ρ x y
theorem df_add (hK : X.K = G.K) (ha : PE X a (tE G sa)) (hb : PE X b (tE G sb)) : PE X (.BinOp a .Add b pos) (tF G (sAddF sa sb)) := by
  obtain ⟨r, ho, hr⟩ := add_ok (X := X) (G := G) hK
  refine PE.imp (pe_op (ho.or op_cat) ha hb) fun σ H Q h => ?_
  obtain ⟨ρ, F, O, w, h⟩ := h
  refine Tgt.finF.bind w h fun x ρ1 v H1 F1 w1 s1 rx h1 => Tgt.finF.bind w1 h1 fun y ρ2 u H2 F2 w2 s2 ry h2 => ?_
  have rx2 := rx.mono s2
  unfold addF at h2
  split at h2
  · rename_i xs ys e1 e2
    split at h2
    · obtain ⟨b, us, rfl, q, r⟩ := (w2.at rx2 e1).list w2.f
      obtain ⟨b', us', rfl, q', r'⟩ := (w2.at ry e2).list w2.f
      exact .inr ⟨b, b', us, us', rfl, rfl, q, q', by rw [r.length, r'.length]; exact szOk_iff.mp ‹_›, fun p hp => w2.laidF h2 hp (r.app r')⟩
    · exact h2.elim
  · have h3 : Fin G RV F2 O σ Q (two ρ2 x y addD) := by
      cases e : two ρ2 x y addD with
      | ok r ρ3 => rw [e] at h2; exact h2
      | err z ρ3 => rw [e] at h2; exact h2
      | bad => rw [e] at h2; exact h2
    obtain ⟨p, q, z, hp, hq, e, k⟩ := two_fin w2 rx2 ry h3
    exact .inl (hr w2 hp hq e k)

theorem At.upd {K : PySem.W.Frag} {F H : Hp} {v : V} {d : D} {p : Addr} {o : HO} (h : At K F H v d) (hp : H p = none) : At K F (upd H p o) v d := by
  rcases h with h | ⟨b, rfl, h⟩
  · exact .inl h
  · obtain ⟨ob, hb⟩ := h.some
    exact .inr ⟨b, rfl, h.mono (Sub.refl _) (upd_ne (ne_of_none hb hp))⟩
/-- isinstance(x, (T, U)) -/
theorem de_isi2 (hK : X.K = G.K) {t t' : Ty} {kk : Nat} (hg : Gl X "isinstance") (hm : X.mg "isinstance" = none) (hg2 : Gl X t.nm) (hm2 : X.mg t.nm = none) (hg3 : Gl X t'.nm) (hm3 : X.mg t'.nm = none) (hn : notStar a = true) (ha : PE X a (tE G sa)) :
    DE X G (.Call (.Name "isinstance" p1) [a, .Tuple [.Name t.nm p2, .Name t'.nm p3] kk p4] [] pos) (sUn (isiD [t, t']) sa) := by
  have hT : ∀ {t : Ty} {p2}, Gl X t.nm → X.mg t.nm = none → PE X (.Name t.nm p2) (tC (.ty t.nm)) := fun {t p2} hg hm => pe_bltn hg hm (boot_ty t) rfl (by cases t <;> decide) (by cases t <;> decide)
  refine .val (PE.imp (pe_callB call_isiT hg hm (by decide +kernel) (pa_cons ha (pa_cons (pe_tup (pa_cons (hT hg2 hm2) (pa_cons (hT hg3 hm3) pa_nil))) pa_nil) (star_plain hn _)) (by decide) (by decide) (star_plain hn _) (any_plain (by rfl) _ _)) fun σ H Q h => ?_) fun _ => rfl
  obtain ⟨ρ, F, O, w, h⟩ := h
  refine tG.bind w h fun x ρ1 v H1 F1 _ w1 s1 rx h1 => ?_
  obtain ⟨d, z, hd, e, k⟩ := one_fin w1 rx h1
  have fin : ∀ b, PySem.W.kitAny G.K (.type (dTy d)) [.type t.nm, .type t'.nm] = some b → z = .bool b → (∀ y, d ≠ .dict [(.none, y)]) → [V.ty t.nm, V.ty t'.nm].length ≤ sizeLine ∧ ∀ p, H1 p = none → rIsiT X.K [v, .ref p] (upd H1 p (.tup [V.ty t.nm, V.ty t'.nm])) Q := fun b kb ez ns => by
    subst ez
    refine ⟨by show 2 ≤ sizeLine; decide, fun p hp => ?_⟩
    rw [hK]
    refine ⟨v, p, _, _, _, b, rfl, upd_same, .cons (.ty _) (.cons (.ty _) .nil), ?_, kb, k.now (w1.lose hp) (.bl _)⟩
    exact (hd.upd hp).ty (w1.lose hp).f ns
  have e : (match isT t d with
    | some true => some (PyData.bool true)
    | some false => (isT t' d).map PyData.bool
    | none => none) = some z := e
  cases h1 : isT t d with
  | none => rw [h1] at e; cases e
  | some b =>
    rw [h1] at e
    have k1 := isT_kit (K := G.K) h1
    cases b with
    | true =>
      cases e
      exact fin true (by unfold PySem.W.kitAny; rw [k1]) rfl (isT_ns h1)
    | false =>
      obtain ⟨b, h2, rfl⟩ := Option.map_eq_some_iff.mp (show (isT t' d).map PyData.bool = some z from e)
      have k2 := isT_kit (K := G.K) h2
      refine fin b ?_ rfl (isT_ns h1)
      unfold PySem.W.kitAny
      rw [k1]
      show PySem.W.kitAny G.K (.type (dTy d)) [.type t'.nm] = some b
      unfold PySem.W.kitAny
      rw [k2]
      cases b <;> rfl
end
end L3
/-! L3, part 9: statements. -/
namespace L3
open PySem PySem.Spec PyProof.Rows L2

inductive Fl where
  | nx | bk | ct | rt (d : D)
def FinS (G : Gx) (F : Hp) (O : Fm) (N : Ends) : Rs Fl → Prop
  | .ok .nx ρ' => ∀ σ' H' F', Wd G.K F' O ρ' σ' H' → Sub F F' → N.nx σ' H'
  | .ok .bk ρ' => ∀ σ' H' F', Wd G.K F' O ρ' σ' H' → Sub F F' → N.bk σ' H'
  | .ok .ct ρ' => ∀ σ' H' F', Wd G.K F' O ρ' σ' H' → Sub F F' → N.ct σ' H'
  | .ok (.rt d) ρ' => ∀ v σ' H' F', Wd G.K F' O ρ' σ' H' → Sub F F' → Rp G.K F' v d → N.rt v H'
  | .err x ρ' => ∀ c dd σ' H' F', Wd G.K F' O ρ' σ' H' → Sub F F' → XAt G.K F' G.cn c dd x → G.W c dd σ' H'
  | .bad => False
def tS (G : Gx) (s : Rho → Rs Fl) : TS := fun N σ H => ∃ ρ F O, Wd G.K F O ρ σ H ∧ FinS G F O N (s ρ)
theorem FinS.mono {G : Gx} {F F1 : Hp} {O : Fm} {N : Ends} (s : Sub F F1) : ∀ {r : Rs Fl}, FinS G F O N r → FinS G F1 O N r
  | .ok .nx _, h => fun σ H' F' w z => h σ H' F' w (s.trans z)
  | .ok .bk _, h => fun σ H' F' w z => h σ H' F' w (s.trans z)
  | .ok .ct _, h => fun σ H' F' w z => h σ H' F' w (s.trans z)
  | .ok (.rt _) _, h => fun v σ H' F' w z => h v σ H' F' w (s.trans z)
  | .err _ _, h => fun c dd σ H' F' w z => h c dd σ H' F' w (s.trans z)
  | .bad, h => h
theorem Tgt.finS {G : Gx} {O : Fm} {σ : L2.St} {N : Ends} : Tgt G O σ (fun F r => FinS G F O N r) := ⟨fun s h => FinS.mono s h, fun h c dd H' F' w s x => h c dd σ H' F' w s x, fun h => h⟩
theorem PS.imp {X : Cx} {st : Stmt} {t t' : TS} (h : PS X st t) (i : ∀ N σ H, t' N σ H → t N σ H) : PS X st t' := ⟨fun pins s σ H N I q => h.run pins s σ H N I (i _ _ _ q)⟩
theorem PSs.imp {X : Cx} {st : List Stmt} {t t' : TS} (h : PSs X st t) (i : ∀ N σ H, t' N σ H → t N σ H) : PSs X st t' := ⟨fun pins s σ H N I q => h.run pins s σ H N I (i _ _ _ q)⟩

def sNx : Rho → Rs Fl := fun ρ => .ok .nx ρ
def sSeq (a b : Rho → Rs Fl) : Rho → Rs Fl := fun ρ => (a ρ).bind fun f ρ => match f with
  | .nx => b ρ
  | f => .ok f ρ
def sIfS (c : Rho → Rs Vl) (a b : Rho → Rs Fl) : Rho → Rs Fl := fun ρ => (asB c ρ).bind fun k ρ => if k then a ρ else b ρ
def sRet (e : Rho → Rs Vl) : Rho → Rs Fl := fun ρ => (e ρ).bind fun x ρ => (frz x ρ).bind fun d ρ => .ok (.rt d) ρ
def sExp (e : Rho → Rs Vl) : Rho → Rs Fl := fun ρ => (e ρ).bind fun _ ρ => .ok .nx ρ
/-- storing at slot i: what it owned is lost; a parameter's or walked container is not stored over -/
def put (i : Nat) (c : Cell) (ρ : Rho) : Rs Fl :=
  match ρ[i]? with
  | some (Cell.own true _) => .bad
  | some (Cell.lck _ _) => .bad
  | some _ => .ok .nx (ρ.set i c)
  | none => .bad
def sAsg (i : Nat) (e : Rho → Rs Vf) : Rho → Rs Fl := fun ρ => (e ρ).bind fun r ρ => match r with
  | .v x => (frz x ρ).bind fun d ρ => put i (.val d) ρ
  | .fr d => put i (.own false d) ρ
def sWhile (c : Rho → Rs Vl) (b : Rho → Rs Fl) : Nat → Rho → Rs Fl
  | 0, _ => .bad
  | n + 1, ρ => (asB c ρ).bind fun k ρ => if k then (b ρ).bind fun f ρ => match f with
      | .nx => sWhile c b n ρ
      | .ct => sWhile c b n ρ
      | .bk => .ok .nx ρ
      | .rt d => .ok (.rt d) ρ
    else .ok .nx ρ

section
variable {K : PySem.W.Frag} {F : Hp} {O : Fm} {ρ ρ' : Rho} {σ : L2.St} {H : Hp}
theorem put_inv {i : Nat} {c : Cell} {f : Fl} (e : put i c ρ = .ok f ρ') : f = .nx ∧ ρ' = ρ.set i c ∧ i < ρ.length ∧ ∀ p d, ρ[i]? ≠ some (Cell.lck p d) := by
  unfold put at e
  have hi : ∀ {x}, ρ[i]? = some x → i < ρ.length := fun {x} h => (List.getElem?_eq_some_iff.mp h).1
  split at e
  · cases e
  · cases e
  · rename_i h1 h2 h3
    cases e
    exact ⟨rfl, rfl, hi h3, fun p d z => h2 p d (Option.some.inj (h3.symm.trans z))⟩
  · cases e
theorem put_nerr {i : Nat} {c : Cell} {x : Xn} : put i c ρ ≠ .err x ρ' := by
  intro e
  unfold put at e
  split at e <;> cases e
/-- a value is stored -/
theorem Wd.put (w : Wd K F O ρ σ H) {i : Nat} {d : D} {v : V} (hi : i < ρ.length) (nl : ∀ p d, ρ[i]? ≠ some (Cell.lck p d)) (r : Rp K F v d) : Wd K F O (ρ.set i (.val d)) (σ.set i (some v)) H := by
  have hσ : i < σ.length := w.len ▸ hi
  refine ⟨by rw [List.length_set, List.length_set]; exact w.len, w.f, w.o, w.fo, fun j e hj => ?_, fun j c e hj hc => ?_, fun j c a hj hp ha => ?_, fun j b q y hy => ?_, fun j q y hj => ?_, fun j k c1 c2 d1 d2 a ne e1 e2 q1 q2 z1 z2 => ?_⟩
  · rcases get_set hj with ⟨rfl, z⟩ | ⟨ne, hj⟩
    · cases z; exact ⟨v, List.getElem?_set_self hσ, r⟩
    · obtain ⟨u, q1, q2⟩ := w.val j e hj
      exact ⟨u, by rw [List.getElem?_set_ne (Ne.symm ne)]; exact q1, q2⟩
  · rcases get_set hj with ⟨rfl, z⟩ | ⟨ne, hj⟩
    · subst z; cases hc
    · obtain ⟨a, q1, q2⟩ := w.own j c e hj hc
      exact ⟨a, by rw [List.getElem?_set_ne (Ne.symm ne)]; exact q1, q2⟩
  · rcases get_set hj with ⟨rfl, z⟩ | ⟨ne, hj⟩
    · subst z; cases hp
    · rw [List.getElem?_set_ne (Ne.symm ne)] at ha
      exact w.pr j c a hj hp ha
  · obtain ⟨q1, q2⟩ := w.wl j b q y hy
    have ne : i ≠ j := fun z => by subst z; exact nl _ _ q1
    exact ⟨by rw [List.getElem?_set_ne ne]; exact q1, by rw [List.getElem?_set_ne ne]; exact q2⟩
  · rcases get_set hj with ⟨rfl, z⟩ | ⟨_, hj⟩
    · cases z
    · exact w.lk j q y hj
  · rcases get_set e1 with ⟨rfl, z⟩ | ⟨n1, e1⟩
    · subst z; cases q1
    · rcases get_set e2 with ⟨rfl, z⟩ | ⟨n2, e2⟩
      · subst z; cases q2
      · rw [List.getElem?_set_ne (Ne.symm n1)] at z1
        rw [List.getElem?_set_ne (Ne.symm n2)] at z2
        exact w.ap j k c1 c2 d1 d2 a ne e1 e2 q1 q2 z1 z2
/-- a fresh container is stored -/
theorem Wd.putF (w : Wd K F O ρ σ H) {i : Nat} {d : D} {a : Addr} (hi : i < ρ.length) (nl : ∀ p d, ρ[i]? ≠ some (Cell.lck p d)) (x : FreshAt K F O ρ σ H a d) : Wd K F O (ρ.set i (.own false d)) (σ.set i (some (.ref a))) H := by
  have hσ : i < σ.length := w.len ▸ hi
  refine ⟨by rw [List.length_set, List.length_set]; exact w.len, w.f, w.o, w.fo, fun j e hj => ?_, fun j c e hj hc => ?_, fun j c b hj hp ha => ?_, fun j b q y hy => ?_, fun j q y hj => ?_, fun j k c1 c2 d1 d2 b ne e1 e2 q1 q2 z1 z2 => ?_⟩
  · rcases get_set hj with ⟨rfl, z⟩ | ⟨ne, hj⟩
    · cases z
    · obtain ⟨u, q1, q2⟩ := w.val j e hj
      exact ⟨u, by rw [List.getElem?_set_ne (Ne.symm ne)]; exact q1, q2⟩
  · rcases get_set hj with ⟨rfl, z⟩ | ⟨ne, hj⟩
    · subst z; cases hc; exact ⟨a, List.getElem?_set_self hσ, x.f, x.o, x.at_⟩
    · obtain ⟨b, q1, q2⟩ := w.own j c e hj hc
      exact ⟨b, by rw [List.getElem?_set_ne (Ne.symm ne)]; exact q1, q2⟩
  · rcases get_set hj with ⟨rfl, z⟩ | ⟨ne, hj⟩
    · subst z; cases hp
    · rw [List.getElem?_set_ne (Ne.symm ne)] at ha
      exact w.pr j c b hj hp ha
  · obtain ⟨q1, q2⟩ := w.wl j b q y hy
    have ne : i ≠ j := fun z => by subst z; exact nl _ _ q1
    exact ⟨by rw [List.getElem?_set_ne ne]; exact q1, by rw [List.getElem?_set_ne ne]; exact q2⟩
  · rcases get_set hj with ⟨rfl, z⟩ | ⟨_, hj⟩
    · cases z
    · exact w.lk j q y hj
  · rcases get_set e1 with ⟨rfl, y1⟩ | ⟨n1, e1⟩
    · rcases get_set e2 with ⟨rfl, y2⟩ | ⟨n2, e2⟩
      · exact ne rfl
      · rw [List.getElem?_set_self hσ] at z1
        cases z1
        rw [List.getElem?_set_ne (Ne.symm n2)] at z2
        exact x.ap k c2 d2 e2 q2 z2
    · rcases get_set e2 with ⟨y0, y2⟩ | ⟨n2, e2⟩
      · rw [y0, List.getElem?_set_self hσ] at z2
        cases z2
        rw [List.getElem?_set_ne (Ne.symm n1)] at z1
        exact (x.ap j c1 d1 e1 q1 z1).elim
      · rw [List.getElem?_set_ne (Ne.symm n1)] at z1
        rw [List.getElem?_set_ne (Ne.symm n2)] at z2
        exact w.ap j k c1 c2 d1 d2 b ne e1 e2 q1 q2 z1 z2
end

section
variable {X : Cx} {G : Gx} {st : Stmt} {rest : List Stmt} {e c : Expr} {se sc : Rho → Rs Vl} {sf : Rho → Rs Vf} {s s' : Rho → Rs Fl} {pos pos' : Pos} {body orelse : List Stmt}
theorem ds_nil : PSs X [] (tS G sNx) := PSs.imp pss_nil fun N σ H h => by
  obtain ⟨ρ, F, O, w, h⟩ := h
  exact h σ H F w (Sub.refl _)
theorem ds_pass : PS X (.Pass pos) (tS G sNx) := PS.imp ps_pass fun N σ H h => by
  obtain ⟨ρ, F, O, w, h⟩ := h
  exact h σ H F w (Sub.refl _)
theorem ds_break : PS X (.Break pos) (tS G fun ρ => .ok .bk ρ) := PS.imp ps_break fun N σ H h => by
  obtain ⟨ρ, F, O, w, h⟩ := h
  exact h σ H F w (Sub.refl _)
theorem ds_cont : PS X (.Continue pos) (tS G fun ρ => .ok .ct ρ) := PS.imp ps_continue fun N σ H h => by
  obtain ⟨ρ, F, O, w, h⟩ := h
  exact h σ H F w (Sub.refl _)
theorem FinS.seq {F : Hp} {O : Fm} {N : Ends} {r : Rs Fl} {k : Rho → Rs Fl} (h : FinS G F O N (r.bind fun f ρ => match f with | .nx => k ρ | f => .ok f ρ)) :
    FinS G F O { N with nx := fun σ H => ∃ ρ F' , Wd G.K F' O ρ σ H ∧ FinS G F' O N (k ρ) } r := by
  cases r with
  | ok f ρ =>
    cases f with
    | nx => exact fun σ' H' F' w z => ⟨ρ, F', w, FinS.mono z h⟩
    | bk => exact h
    | ct => exact h
    | rt d => exact h
  | err x ρ => exact h
  | bad => exact h
theorem ds_cons (h1 : PS X st (tS G s)) (h2 : PSs X rest (tS G s')) : PSs X (st :: rest) (tS G (sSeq s s')) := by
  refine PSs.imp (pss_cons h1 h2) fun N σ H h => ?_
  obtain ⟨ρ, F, O, w, h⟩ := h
  refine ⟨ρ, F, O, w, ?_⟩
  have h' := FinS.seq h
  cases e : s ρ with
  | ok f ρ1 =>
    rw [e] at h'
    cases f with
    | nx =>
      intro σ' H' F' w' z
      obtain ⟨ρ2, F2, w2, h2⟩ := h' σ' H' F' w' z
      exact ⟨ρ2, F2, O, w2, h2⟩
    | bk => exact h'
    | ct => exact h'
    | rt d => exact h'
  | err x ρ1 => rw [e] at h'; exact h'
  | bad => rw [e] at h'; exact h'
theorem ds_one (h1 : PS X st (tS G s)) : PSs X [st] (tS G s) := PSs.imp (pss_one h1) fun _ _ _ h => h
theorem ds_if (hc : DE X G c sc) (h1 : PSs X body (tS G s)) (h2 : PSs X orelse (tS G s')) : PS X (.If c body orelse pos) (tS G (sIfS sc s s')) := by
  refine PS.imp (ps_if hc.pt h1 h2) fun N σ H h => ?_
  obtain ⟨ρ, F, O, w, h⟩ := h
  refine Tgt.finS.test w h fun k ρ1 H1 F1 w1 s1 h1 => ?_
  cases k with
  | true => rw [if_pos rfl]; exact ⟨ρ1, F1, O, w1, h1⟩
  | false => rw [if_neg (by decide)]; exact ⟨ρ1, F1, O, w1, h1⟩
theorem ds_ret (he : PE X e (tE G se)) : PS X (.Return (some e) pos) (tS G (sRet se)) := by
  refine PS.imp (ps_ret he) fun N σ H h => ?_
  obtain ⟨ρ, F, O, w, h⟩ := h
  refine Tgt.finS.bind w h fun x ρ1 v H1 F1 w1 s1 rx h1 => ?_
  obtain ⟨d, ρ2, F2, w2, s2, r2, h2⟩ := Tgt.finS.frz w1 rx h1
  exact h2 v σ H1 F2 w2 (Sub.refl _) r2
theorem ds_retN : PS X (.Return none pos) (tS G fun ρ => .ok (.rt .none) ρ) := PS.imp ps_retN fun N σ H h => by
  obtain ⟨ρ, F, O, w, h⟩ := h
  exact h .non σ H F w (Sub.refl _) .non
theorem ds_expr (he : PE X e (tE G se)) (hs : swapsWith e none pos.line X.env = pure false) : PS X (.Expr e pos) (tS G (sExp se)) := by
  refine PS.imp (ps_expr he hs) fun N σ H h => ?_
  obtain ⟨ρ, F, O, w, h⟩ := h
  refine Tgt.finS.bind w h fun x ρ1 v H1 F1 w1 s1 rx h1 => h1 σ H1 F1 w1 (Sub.refl _)
theorem put_fin {F H : Hp} {O : Fm} {N : Ends} {ρ : Rho} {i : Nat} {c : Cell} (h : FinS G F O N (put i c ρ)) : i < ρ.length ∧ (∀ p d, ρ[i]? ≠ some (Cell.lck p d)) ∧ ∀ σ' H' F', Wd G.K F' O (ρ.set i c) σ' H' → Sub F F' → N.nx σ' H' := by
  cases e : put i c ρ with
  | ok f ρ' =>
    obtain ⟨rfl, rfl, hi, nl⟩ := put_inv e
    rw [e] at h
    exact ⟨hi, nl, h⟩
  | err x ρ' => exact absurd e put_nerr
  | bad => rw [e] at h; exact h.elim
/-- what a fresh or other value becomes at slot i -/
theorem asg_step {F H : Hp} {O : Fm} {ρ : Rho} {σ : L2.St} {N : Ends} {i : Nat} (w : Wd G.K F O ρ σ H) (h : FinS G F O N (sAsg i sf ρ)) : FinF G F O σ (fun v H1 => N.nx (σ.set i (some v)) H1) (sf ρ) := by
  unfold sAsg at h
  cases e : sf ρ with
  | ok r ρ1 =>
    rw [e, Rs.bind_ok] at h
    cases r with
    | v x =>
      intro v H' F' w' z r'
      obtain ⟨d, ρ2, F2, w2, s2, r2, h2⟩ := Tgt.finS.frz w' r' (FinS.mono z h)
      obtain ⟨hi, nl, k⟩ := put_fin (H := H') h2
      exact k _ _ _ (w2.put hi nl r2) (Sub.refl _)
    | fr d =>
      intro a H' F' w' z x
      obtain ⟨hi, nl, k⟩ := put_fin (H := H') (FinS.mono z h)
      exact k _ _ _ (w'.putF hi nl x) (Sub.refl _)
  | err x ρ1 =>
    rw [e] at h
    exact fun c dd H' F' w' z x => h c dd σ H' F' w' z x
  | bad => rw [e] at h; exact h
theorem ds_asg {i : Nat} {x : Str} (hN : X.N.Nodup) (hi : X.N[i]? = some x) (hx : Loc X.env.scope x) (he : PE X e (tF G sf)) (hf : X.fn x = true ∨ X.env.scope.names.lookup x = some .local) (hs : swapsWithSole [.Name x pos'] e pos.line X.env = pure false) : PS X (.Assign [.Name x pos'] e pos) (tS G (sAsg i sf)) := by
  refine PS.imp (ps_asg he (pg_name hN hi hx hf) hs) fun N σ H h => ?_
  obtain ⟨ρ, F, O, w, h⟩ := h
  exact ⟨ρ, F, O, w, asg_step w h⟩
theorem ds_while {n : Nat} (hp : PassesOwn (model X.prog X.w) X.A X.env X.xe) (hc : DE X G c sc) (hb : PSs X body (tS G s)) : PS X (.While c body [] pos) (tS G (sWhile sc s n)) := by
  refine PS.imp (ps_while hp hc.pt hb) fun N σ H h => ?_
  obtain ⟨ρ, F, O, w, h⟩ := h
  refine ⟨fun m σ H => ∃ ρ F O, Wd G.K F O ρ σ H ∧ FinS G F O N (sWhile sc s m ρ), ⟨n, ρ, F, O, w, h⟩, fun m σ H h => ?_⟩
  obtain ⟨ρ, F, O, w, h⟩ := h
  cases m with
  | zero => exact h.elim
  | succ m =>
    refine Tgt.finS.test w h fun k ρ1 H1 F1 w1 s1 h1 => ?_
    cases k with
    | false => rw [if_neg (by decide)]; exact h1 σ H1 F1 w1 (Sub.refl _)
    | true =>
      rw [if_pos rfl]
      rw [if_pos rfl] at h1
      refine ⟨fun σ' H' => ∃ ρ F O, Wd G.K F O ρ σ' H' ∧ FinS G F O N (sWhile sc s m ρ), fun σ' H' q => ⟨m, Nat.lt_succ_self m, q⟩, ρ1, F1, O, w1, ?_⟩
      cases e : s ρ1 with
      | ok f ρ2 =>
        rw [e, Rs.bind_ok] at h1
        cases f with
        | nx => exact fun σ' H' F' w' z => ⟨ρ2, F', O, w', FinS.mono z h1⟩
        | ct => exact fun σ' H' F' w' z => ⟨ρ2, F', O, w', FinS.mono z h1⟩
        | bk => exact h1
        | rt d => exact h1
      | err x ρ2 => rw [e] at h1; exact h1
      | bad => rw [e] at h1; exact h1
end
end L3
/-! L3, part 10: defs: what one promises, its call, its body. -/
namespace L3
open PySem PySem.Spec PyProof.Rows L2

/-- what a def gives: a value and what became of the containers handed over (outs, by parameter), or an exception -/
inductive FR where
  | ok (d : D) (outs : List Cell) | err (x : Xn) | bad
abbrev Fn := List D → FR

/-- the frozen part and others' objects -/
structure W0 (F Oo H : Hp) : Prop where
  f : Sub F H
  o : Sub Oo H
  fo : ∀ a o, Oo a = some o → F a = none
/-- the arguments: ms tells which are handed over -/
def ArgsAt (K : PySem.W.Frag) (F Oo H : Hp) : List Bool → List V → List D → Prop
  | [], [], [] => True
  | m :: ms, v :: vs, d :: ds => (if m then ∃ a, v = .ref a ∧ F a = none ∧ Oo a = none ∧ OwnAt K F H a d else Rp K F v d) ∧ ArgsAt K F Oo H ms vs ds
  | _, _, _ => False
/-- the containers handed over, by the addresses of the arguments -/
def ownV : List Bool → List V → List V
  | true :: ms, v :: vs => v :: ownV ms vs
  | false :: ms, _ :: vs => ownV ms vs
  | _, _ => []
def OutsAt (K : PySem.W.Frag) (F Oo H : Hp) : List Bool → List V → List Cell → Prop
  | true :: ms, v :: vs, c :: cs => (∀ p d, c = .own p d → ∃ a, v = .ref a ∧ F a = none ∧ Oo a = none ∧ OwnAt K F H a d) ∧ OutsAt K F Oo H ms vs cs
  | false :: ms, _ :: vs, _ :: cs => OutsAt K F Oo H ms vs cs
  | _, _, _ => True
def FinR (K : PySem.W.Frag) (cn : Str → Option Addr) (F Oo : Hp) (ms : List Bool) (vs : List V) (Q : VK) (E : XK) : FR → Prop
  | .ok d outs => ∀ v H' F', Sub F F' → W0 F' Oo H' → Rp K F' v d → OutsAt K F' Oo H' ms vs outs → Q v H'
  | .err x => ∀ c dd H' F', Sub F F' → W0 F' Oo H' → XAt K F' cn c dd x → E c dd H'
  | .bad => False
/-- the promise of a def whose pure meaning is φ -/
def spD (K : PySem.W.Frag) (cn : Str → Option Addr) (ms : List Bool) (φ : Fn) : Sp := fun vs H Q E => ∃ F Oo ds, W0 F Oo H ∧ ArgsAt K F Oo H ms vs ds ∧ (ownV ms vs).Nodup ∧ FinR K cn F Oo ms vs Q E (φ ds)
theorem ArgsAt.length {K : PySem.W.Frag} {F Oo H : Hp} : ∀ {ms : List Bool} {vs : List V} {ds : List D}, ArgsAt K F Oo H ms vs ds → vs.length = ms.length ∧ ds.length = ms.length
  | [], [], [], _ => ⟨rfl, rfl⟩
  | _ :: _, _ :: _, _ :: _, h => by
    obtain ⟨h1, h2⟩ := ArgsAt.length h.2
    exact ⟨congrArg (· + 1) h1, congrArg (· + 1) h2⟩

/-! ### a call that hands over nothing -/
/-- others' objects, for a callee: all that is held but the slots of I -/
noncomputable def others (O : Fm) (ρ : Rho) (σ : L2.St) (H : Hp) (I : List Nat) : Hp := fun a =>
  open Classical in if (∃ o, O.o a = some o) ∨ ∃ (i : Nat) (c : Cell) (d : D), i ∉ I ∧ ρ[i]? = some c ∧ c.held = some d ∧ σ[i]? = some (some (.ref a)) then H a else none
section
variable {K : PySem.W.Frag} {F F' : Hp} {O : Fm} {ρ ρ' : Rho} {σ : L2.St} {H H' : Hp} {I : List Nat}
theorem others_some {a : Addr} {o : HO} (h : others O ρ σ H I a = some o) : H a = some o ∧ ((∃ o, O.o a = some o) ∨ ∃ (i : Nat) (c : Cell) (d : D), i ∉ I ∧ ρ[i]? = some c ∧ c.held = some d ∧ σ[i]? = some (some (.ref a))) := by
  unfold others at h
  split at h
  · exact ⟨h, ‹_›⟩
  · cases h
theorem others_o {a : Addr} {o : HO} (w : Wd K F O ρ σ H) (h : O.o a = some o) : others O ρ σ H I a = some o := by
  unfold others
  rw [if_pos (.inl ⟨o, h⟩)]
  exact w.o a o h
theorem others_h {a : Addr} {i : Nat} {c : Cell} {d : D} (hi : i ∉ I) (h1 : ρ[i]? = some c) (h2 : c.held = some d) (h3 : σ[i]? = some (some (.ref a))) : others O ρ σ H I a = H a := by
  unfold others
  exact if_pos (.inr ⟨i, c, d, hi, h1, h2, h3⟩)
theorem Wd.w0 (w : Wd K F O ρ σ H) : W0 F (others O ρ σ H I) H := ⟨w.f, fun a o h => (others_some h).1, fun a o h => by
  rcases (others_some h).2 with ⟨o', h'⟩ | ⟨i, c, d, _, h1, h2, h3⟩
  · exact w.fo a o' h'
  · obtain ⟨b, q1, q2, _⟩ := w.own i c d h1 h2
    rw [h3] at q1; cases q1
    exact q2⟩
/-- back from a call: the slots of I hold what came back -/
theorem Wd.back (w : Wd K F O ρ σ H) (s : Sub F F') (x : W0 F' (others O ρ σ H I) H') (hl : ρ'.length = ρ.length) (same : ∀ j, j ∉ I → ρ'[j]? = ρ[j]?) (nl : ∀ i, i ∈ I → ∀ p d, ρ[i]? ≠ some (Cell.lck p d))
    (back : ∀ i c, i ∈ I → ρ'[i]? = some c → c = .no ∨ ∃ p d d0 a, ρ[i]? = some (Cell.own p d0) ∧ c = .own p d ∧ σ[i]? = some (some (.ref a)) ∧ F' a = none ∧ OwnAt K F' H' a d) : Wd K F' O ρ' σ H' := by
  have heldOf : ∀ (i : Nat) (c : Cell) (d : D), ρ'[i]? = some c → c.held = some d → ∃ (c0 : Cell) (d0 : D), ρ[i]? = some c0 ∧ c0.held = some d0 ∧ c0.par = c.par := fun i c d h1 h2 => by
    by_cases hi : i ∈ I
    · rcases back i c hi h1 with rfl | ⟨p, d1, d0, a, q1, rfl, q3, q4, q5⟩
      · cases h2
      · exact ⟨_, _, q1, rfl, rfl⟩
    · exact ⟨c, d, by rw [← same i hi]; exact h1, h2, rfl⟩
  refine ⟨hl.trans w.len, x.f, fun a o h => x.o a o (others_o w h), fun a o h => x.fo a o (others_o w h), fun i d h => ?_, fun i c d h1 h2 => ?_, fun i c a h1 h2 h3 => ?_, fun i a p d h => ?_, fun i p d h => ?_, fun i j c c' d d' a ne h1 h2 q1 q2 z1 z2 => ?_⟩
  · by_cases hi : i ∈ I
    · rcases back i _ hi h with z | ⟨p, d1, d0, a, q1, z, _⟩ <;> cases z
    · obtain ⟨v, q1, q2⟩ := w.val i d (by rw [← same i hi]; exact h)
      exact ⟨v, q1, q2.mono s⟩
  · by_cases hi : i ∈ I
    · rcases back i c hi h1 with rfl | ⟨p, d1, d0, a, q1, rfl, q3, q4, q5⟩
      · cases h2
      · cases h2
        obtain ⟨b, e1, _, e3, _⟩ := w.own i _ d0 q1 rfl
        rw [q3] at e1; cases e1
        exact ⟨a, q3, q4, e3, q5⟩
    · rw [same i hi] at h1
      obtain ⟨a, e1, e2, e3, e4⟩ := w.own i c d h1 h2
      obtain ⟨o, ho⟩ := e4.some
      have q : others O ρ σ H I a = H a := others_h hi h1 h2 e1
      have h' : H' a = H a := by rw [ho]; exact x.o a o (q.trans ho)
      exact ⟨a, e1, x.fo a o (q.trans ho), e3, e4.mono s h'⟩
  · cases hc : c.held with
    | none =>
      cases c with
      | own p y => cases hc
      | lck p y => cases hc
      | _ => cases h2
    | some d =>
      obtain ⟨c0, d0, e1, e2, e3⟩ := heldOf i c d h1 hc
      exact w.pr i c0 a e1 (e3.trans h2) h3
  · obtain ⟨q1, q2⟩ := w.wl i a p d h
    refine ⟨?_, q2⟩
    have hi : i ∉ I := fun hi => nl i hi p d q1
    rw [same i hi]; exact q1
  · by_cases hi : i ∈ I
    · rcases back i _ hi h with z | ⟨_, _, _, _, _, z, _⟩ <;> cases z
    · rw [same i hi] at h; exact w.lk i p d h
  · obtain ⟨c0, d0, e1, e2, _⟩ := heldOf i c d h1 q1
    obtain ⟨c1, d1, e3, e4, _⟩ := heldOf j c' d' h2 q2
    exact w.ap i j c0 c1 d0 d1 a ne e1 e3 e2 e4 z1 z2
end
def callR (φ : Fn) (ds : List D) (ρ : Rho) : Rs Vl :=
  match φ ds with
  | .ok d _ => .ok (.d d) ρ
  | .err x => .err x ρ
  | .bad => .bad
def sCall (φ : Fn) (a : Rho → Rs (List Vl)) : Rho → Rs Vl := fun ρ => (a ρ).bind fun xs ρ => (frzs xs ρ).bind fun ds ρ => callR φ ds ρ
theorem argsV {K : PySem.W.Frag} {F Oo H : Hp} : ∀ {vs : List V} {ds : List D} (n : Nat), vs.length = n → RpL K F vs ds → ArgsAt K F Oo H (List.replicate n false) vs ds ∧ ownV (List.replicate n false) vs = []
  | [], _, n, e, .nil => by subst e; exact ⟨trivial, rfl⟩
  | v :: vs, _, n, e, .cons h r => by
    cases n with
    | zero => cases e
    | succ n =>
      obtain ⟨h1, h2⟩ := argsV (Oo := Oo) (H := H) n (by simpa using e) r
      exact ⟨⟨h, h1⟩, h2⟩
/-- where exceptions go, at the slots -/
def GoesW (G : Gx) (σ : L2.St) : XK := fun c dd H => G.W c dd σ H
section
variable {X : Cx} {G : Gx} {k : Nat} {f : Addr} {fd : FuncData} {ps : List Str} {φ : Fn} {x : Str} {p pos : Pos} {e : Expr} {es : List Expr} {ss : Rho → Rs (List Vl)}
theorem passW (tk : Takes X G.W) (σ : L2.St) : PassesAt (L2.CX X.prog X.w) X σ (GoesW G σ) := passAt tk σ
theorem sCall_t (hK : X.K = G.K) {n : Nat} (hn : ∀ ρ xs ρ', ss ρ = .ok xs ρ' → xs.length = n) {σ : L2.St} {H : Hp} {Q : VK} (h : tE G (sCall φ ss) σ H Q) : tCallSD (spD X.K G.cn (List.replicate n false) φ) [] (GoesW G) (tA G ss) σ H Q := by
  obtain ⟨ρ, F, O, w, h⟩ := h
  unfold sCall at h
  refine ⟨ρ, F, O, w, ?_⟩
  cases e : ss ρ with
  | err y ρ1 => rw [e] at h; exact h
  | bad => rw [e] at h; exact h
  | ok xs ρ1 =>
    rw [e, Rs.bind_ok] at h
    intro vs H1 F1 w1 s1 rs
    obtain ⟨ds, ρ2, F2, w2, s2, r2, h2⟩ := Tgt.fin.frzs w1 rs (Fin.mono s1 h)
    have hl : vs.length = n := by
      rw [← hn _ _ _ e]
      clear h h2
      revert rs
      generalize vs = a
      generalize xs = b
      intro rs
      induction a generalizing b with
      | nil => cases b with | nil => rfl | cons => exact rs.elim
      | cons v a ih => cases b with | nil => exact rs.elim | cons y b => exact congrArg (· + 1) (ih b rs.2)
    obtain ⟨q1, q2⟩ := argsV (K := G.K) (F := F2) (Oo := others O ρ2 σ H1 []) (H := H1) n hl r2
    rw [List.append_nil, hK]
    refine ⟨F2, others O ρ2 σ H1 [], ds, w2.w0, q1, by rw [q2]; exact .nil, ?_⟩
    unfold callR at h2
    have bk : ∀ {F3 H3 : Hp}, Sub F2 F3 → W0 F3 (others O ρ2 σ H1 []) H3 → Wd G.K F3 O ρ2 σ H3 := fun s3 x => w2.back s3 x rfl (fun _ _ => rfl) (fun i hi => absurd hi (by simp)) fun i c hi => absurd hi (by simp)
    cases ef : φ ds with
    | ok d outs =>
      rw [ef] at h2
      exact fun v H3 F3 s3 x3 r3 _ => h2 v H3 F3 (bk s3 x3) s3 r3
    | err y =>
      rw [ef] at h2
      exact fun c dd H3 F3 s3 x3 r3 => h2 c dd H3 F3 (bk s3 x3) s3 r3
    | bad => rw [ef] at h2; exact h2
theorem de_call (F : FnOk X.prog X.w X.K X.mg X.base (L2.CX X.prog X.w) k f fd ps (spD X.K G.cn (List.replicate n false) φ)) (hr : Room k X.A) (hg : Gl X x) (hm : X.mg x = some (.ref f)) (hk : PySem.W.keepIn X.K (.ref f) = true) (hb : Binds X.K fd ps [])
    (tk : Takes X G.W) (hK : X.K = G.K) (hn : ∀ ρ xs ρ', ss ρ = .ok xs ρ' → xs.length = n) (ha : PA X (e :: es) (tA G ss)) (hp : plainArgs (e :: es) = true) (hd : (x == ("__debug__" : Str)) = false) :
    DE X G (.Call (.Name x p) (e :: es) [] pos) (sCall φ ss) := by
  have h' : notStar e = true ∧ plainArgs es = true := by simpa [plainArgs] using hp
  exact .val (PE.imp (pe_callSD F hr hg hm hk hb .nil (passW tk) ha hd (star_plain h'.1 _) (any_plain h'.2 _ _)) fun σ H Q h => sCall_t hK hn h) fun _ => rfl
end
end L3
/-! L3, part 11: a def's body keeps its promise. -/
namespace L3
open PySem PySem.Spec PyProof.Rows L2

def initC : List Bool → List D → Rho
  | m :: ms, d :: ds => (if m then Cell.own true d else .val d) :: initC ms ds
  | _, _ => []
def initR (n : Nat) (ms : List Bool) (ds : List D) : Rho := initC ms ds ++ List.replicate (n - ms.length) .no
def outC : Cell → Cell
  | .own true d => .own true d
  | _ => .no
/-- the pure meaning of a def: n slots, the parameters first -/
def defR (n : Nat) (ms : List Bool) (s : Rho → Rs Fl) : Fn := fun ds =>
  if ds.length = ms.length then
    match s (initR n ms ds) with
    | .ok (.rt d) ρ => .ok d ((ρ.take ms.length).map outC)
    | .ok .nx ρ => .ok .none ((ρ.take ms.length).map outC)
    | .err x _ => .err x
    | _ => .bad
  else .bad
def ownP : Nat → List Bool → List V → List (Nat × Addr)
  | i, true :: ms, .ref a :: vs => (i, a) :: ownP (i + 1) ms vs
  | i, _ :: ms, _ :: vs => ownP (i + 1) ms vs
  | _, _, _ => []
theorem mem_ownP : ∀ {ms : List Bool} {vs : List V} {i j : Nat} {a : Addr}, (j, a) ∈ ownP i ms vs → ∃ k, j = i + k ∧ vs[k]? = some (.ref a)
  | [], _, _, _, _, h => by simp [ownP] at h
  | m :: ms, [], _, _, _, h => by simp [ownP] at h
  | m :: ms, v :: vs, i, j, a, h => by
    have step : (j, a) ∈ ownP (i + 1) ms vs → ∃ k, j = i + k ∧ (v :: vs)[k]? = some (.ref a) := fun h => by
      obtain ⟨k, h1, h2⟩ := mem_ownP h
      exact ⟨k + 1, by omega, by simpa using h2⟩
    cases m with
    | false => exact step (by simpa only [ownP] using h)
    | true =>
      cases v with
      | ref b =>
        have h : (j, a) ∈ (i, b) :: ownP (i + 1) ms vs := by simpa only [ownP] using h
        rcases List.mem_cons.mp h with e | h
        · cases e; exact ⟨0, rfl, rfl⟩
        · exact step h
      | _ => exact step (by simpa only [ownP] using h)
theorem ownP_mem : ∀ {ms : List Bool} {vs : List V} {i k : Nat} {a : Addr}, ms[k]? = some true → vs[k]? = some (.ref a) → (i + k, a) ∈ ownP i ms vs
  | [], _, _, _, _, h, _ => by simp at h
  | m :: ms, [], _, _, _, _, h => by simp at h
  | m :: ms, v :: vs, i, 0, a, h1, h2 => by
    simp at h1 h2
    subst h1 h2
    simp [ownP]
  | m :: ms, v :: vs, i, k + 1, a, h1, h2 => by
    have h := ownP_mem (i := i + 1) (k := k) (ms := ms) (vs := vs) (a := a) (by simpa using h1) (by simpa using h2)
    have e : i + (k + 1) = i + 1 + k := by omega
    rw [e]
    cases m with
    | false => simpa only [ownP] using h
    | true =>
      cases v with
      | ref b => exact List.mem_cons_of_mem _ h
      | _ => simpa only [ownP] using h
theorem ArgsAt.get {K : PySem.W.Frag} {F Oo H : Hp} : ∀ {ms : List Bool} {vs : List V} {ds : List D} {i : Nat} {m : Bool}, ArgsAt K F Oo H ms vs ds → ms[i]? = some m →
    ∃ v d, vs[i]? = some v ∧ ds[i]? = some d ∧ if m then ∃ a, v = .ref a ∧ F a = none ∧ Oo a = none ∧ OwnAt K F H a d else Rp K F v d
  | [], _, _, _, _, _, h => by simp at h
  | m :: ms, v :: vs, d :: ds, 0, m', h, e => by
    simp at e; subst e
    exact ⟨v, d, rfl, rfl, h.1⟩
  | m :: ms, v :: vs, d :: ds, i + 1, m', h, e => by
    obtain ⟨v', d', h1, h2, h3⟩ := ArgsAt.get (i := i) h.2 (by simpa using e)
    exact ⟨v', d', by simpa using h1, by simpa using h2, h3⟩
theorem mem_ownV : ∀ {ms : List Bool} {vs : List V} {i : Nat} {v : V}, ms[i]? = some true → vs[i]? = some v → v ∈ ownV ms vs
  | [], _, _, _, h, _ => by simp at h
  | m :: ms, [], _, _, _, h => by simp at h
  | m :: ms, v :: vs, 0, u, h1, h2 => by
    simp at h1 h2; subst h1 h2
    simp [ownV]
  | m :: ms, v :: vs, i + 1, u, h1, h2 => by
    have h := mem_ownV (i := i) (ms := ms) (vs := vs) (v := u) (by simpa using h1) (by simpa using h2)
    cases m
    · exact h
    · exact List.mem_cons_of_mem _ h
theorem ownV_apart : ∀ {ms : List Bool} {vs : List V} {i j : Nat} {v : V}, (ownV ms vs).Nodup → i ≠ j → ms[i]? = some true → ms[j]? = some true → vs[i]? = some v → vs[j]? = some v → False
  | [], _, _, _, _, _, _, h, _, _, _ => by simp at h
  | m :: ms, [], _, _, _, _, _, _, _, h, _ => by simp at h
  | m :: ms, v :: vs, 0, 0, u, n, ne, _, _, _, _ => ne rfl
  | m :: ms, v :: vs, 0, j + 1, u, n, ne, h1, h2, h3, h4 => by
    simp at h1 h3; subst h1 h3
    exact (List.nodup_cons.mp (show (v :: ownV ms vs).Nodup from n)).1 (mem_ownV (i := j) (by simpa using h2) (by simpa using h4))
  | m :: ms, v :: vs, i + 1, 0, u, n, ne, h1, h2, h3, h4 => by
    simp at h2 h4; subst h2 h4
    exact (List.nodup_cons.mp (show (v :: ownV ms vs).Nodup from n)).1 (mem_ownV (i := i) (by simpa using h1) (by simpa using h3))
  | m :: ms, v :: vs, i + 1, j + 1, u, n, ne, h1, h2, h3, h4 => by
    have n' : (ownV ms vs).Nodup := by
      cases m
      · exact n
      · exact (List.nodup_cons.mp (show (v :: ownV ms vs).Nodup from n)).2
    exact ownV_apart n' (fun z => ne (congrArg (· + 1) z)) (by simpa using h1) (by simpa using h2) (by simpa using h3) (by simpa using h4)
theorem initC_get : ∀ {ms : List Bool} {ds : List D} {i : Nat} {c : Cell}, (initC ms ds)[i]? = some c → ∃ m d, ms[i]? = some m ∧ ds[i]? = some d ∧ c = if m then Cell.own true d else .val d
  | [], ds, i, c, h => by simp [initC] at h
  | m :: ms, [], i, c, h => by simp [initC] at h
  | m :: ms, d :: ds, 0, c, h => by
    simp [initC] at h
    exact ⟨m, d, rfl, rfl, h.symm⟩
  | m :: ms, d :: ds, i + 1, c, h => by
    obtain ⟨m', d', h1, h2, h3⟩ := initC_get (i := i) (ms := ms) (ds := ds) (c := c) (by simpa [initC] using h)
    exact ⟨m', d', by simpa using h1, by simpa using h2, h3⟩
theorem initC_len : ∀ {ms : List Bool} {ds : List D}, ds.length = ms.length → (initC ms ds).length = ms.length
  | [], ds, h => rfl
  | m :: ms, [], h => by simp at h
  | m :: ms, d :: ds, h => by simp [initC, initC_len (ms := ms) (ds := ds) (by simpa using h)]
theorem initR_get {n : Nat} {ms : List Bool} {ds : List D} {i : Nat} {c : Cell} (h : (initR n ms ds)[i]? = some c) : c = .no ∨ ∃ m d, ms[i]? = some m ∧ ds[i]? = some d ∧ c = if m then Cell.own true d else .val d := by
  unfold initR at h
  by_cases hi : i < (initC ms ds).length
  · rw [List.getElem?_append_left hi] at h
    exact .inr (initC_get h)
  · rw [List.getElem?_append_right (by omega), List.getElem?_replicate] at h
    split at h
    · cases h; exact .inl rfl
    · cases h
theorem start_get {N : List Str} {vs : List V} {i : Nat} {v : V} (h : vs[i]? = some v) : (L2.start N vs)[i]? = some (some v) := by
  have hi : i < vs.length := (List.getElem?_eq_some_iff.mp h).1
  unfold L2.start
  rw [List.getElem?_append_left (by simpa using hi), List.getElem?_map, h]
  rfl
section
variable {K : PySem.W.Frag} {cn : Str → Option Addr}
theorem wd_init {F Oo H : Hp} {N : List Str} {ms : List Bool} {vs : List V} {ds : List D} (w : W0 F Oo H) (ha : ArgsAt K F Oo H ms vs ds) (nd : (ownV ms vs).Nodup) :
    Wd K F ⟨Oo, ownP 0 ms vs, []⟩ (initR N.length ms ds) (L2.start N vs) H := by
  obtain ⟨l1, l2⟩ := ha.length
  have held : ∀ (i : Nat) (c : Cell) (d : D), (initR N.length ms ds)[i]? = some c → c.held = some d → ms[i]? = some true ∧ c = Cell.own true d ∧ ∃ a, vs[i]? = some (V.ref a) ∧ F a = none ∧ Oo a = none ∧ OwnAt K F H a d := fun i c d h1 h2 => by
    rcases initR_get h1 with rfl | ⟨m, e, h3, h4, rfl⟩
    · cases h2
    · cases m with
      | false => cases h2
      | true =>
        cases h2
        obtain ⟨v, d', q1, q2, a, rfl, q3⟩ := ha.get h3
        rw [h4] at q2; cases q2
        exact ⟨h3, rfl, a, q1, q3⟩
  refine ⟨?_, w.f, w.o, w.fo, fun i d h => ?_, fun i c d h1 h2 => ?_, fun i c a h1 h2 h3 => ?_, fun i a p d h => absurd h (by simp), fun i p d h => ?_, fun i j c c' d d' a ne h1 h2 q1 q2 z1 z2 => ?_⟩
  · unfold initR L2.start
    rw [List.length_append, List.length_append, List.length_map, List.length_replicate, List.length_replicate, initC_len l2, l1]
  · rcases initR_get h with z | ⟨m, e, h3, h4, z⟩
    · cases z
    · cases m with
      | true => cases z
      | false =>
        cases z
        obtain ⟨v, d', q1, q2, q3⟩ := ha.get h3
        rw [h4] at q2; cases q2
        exact ⟨v, start_get q1, q3⟩
  · obtain ⟨_, _, a, q1, q2, q3, q4⟩ := held i c d h1 h2
    exact ⟨a, start_get q1, q2, q3, q4⟩
  · cases c with
    | own p d =>
      obtain ⟨h4, _, b, q1, _⟩ := held i _ d h1 rfl
      rw [start_get q1] at h3
      cases h3
      have := ownP_mem (i := 0) h4 q1
      rwa [Nat.zero_add] at this
    | lck p d =>
      obtain ⟨_, z, _⟩ := held i _ d h1 rfl
      cases z
    | _ => cases h2
  · obtain ⟨_, z, _⟩ := held i _ d h rfl
    cases z
  · obtain ⟨m1, _, b1, e1, _⟩ := held i c d h1 q1
    obtain ⟨m2, _, b2, e2, _⟩ := held j c' d' h2 q2
    rw [start_get e1] at z1
    rw [start_get e2] at z2
    cases z1
    cases z2
    exact ownV_apart nd ne m1 m2 e1 e2
theorem outs_at {F' H' : Hp} {Oo : Hp} {ms0 : List Bool} {vs0 : List V} {ρ : Rho} {σ : L2.St} (w : Wd K F' ⟨Oo, ownP 0 ms0 vs0, []⟩ ρ σ H') : ∀ (ms : List Bool) (vs : List V) (i : Nat), (∀ j v, vs[j]? = some v → vs0[i + j]? = some v) →
    OutsAt K F' Oo H' ms vs (((ρ.drop i).take ms.length).map outC)
  | [], vs, i, _ => by cases vs <;> trivial
  | m :: ms, [], i, _ => by cases m <;> trivial
  | m :: ms, v :: vs, i, h => by
    cases e : ρ.drop i with
    | nil => cases m <;> exact trivial
    | cons c r =>
      have ec : ρ[i]? = some c := by
        have : (ρ.drop i)[0]? = some c := by rw [e]; rfl
        rwa [List.getElem?_drop, Nat.add_zero] at this
      have er : ρ.drop (i + 1) = r := by
        have : (ρ.drop i).drop 1 = r := by rw [e]; rfl
        rwa [List.drop_drop] at this
      have rest : OutsAt K F' Oo H' ms vs ((r.take ms.length).map outC) := by
        rw [← er]
        exact outs_at w ms vs (i + 1) fun j u hj => by
          have := h (j + 1) u (by simpa using hj)
          have e2 : i + 1 + j = i + (j + 1) := by omega
          rw [e2]; exact this
      cases m with
      | false => exact rest
      | true =>
        refine ⟨fun p d hc => ?_, rest⟩
        cases c with
        | own p' d' =>
          cases p' with
          | false => cases hc
          | true =>
            cases hc
            obtain ⟨a, q1, q2, q3, q4⟩ := w.own i _ d ec rfl
            have hm := w.pr i _ a ec rfl q1
            obtain ⟨k, hk, hv⟩ := mem_ownP hm
            have h0 := h 0 v rfl
            have : k = i := by omega
            subst this
            rw [Nat.add_zero, hv] at h0
            cases h0
            exact ⟨a, rfl, q2, q3, q4⟩
        | _ => cases hc
/-- THE RULE: a def of the text, by its body's pure meaning -/
theorem fnD {P : Program} {w : World} {mg : Str → Option Value} {base : Heap} {x qual : Str} {st : Stmt} {f : Addr} {fd : FuncData} {N ps : List Str} {k : Nat} {ms : List Bool} {s : Rho → Rs Fl} (F : Fun K x qual st f fd) (S : FnScope N ps (defScope st)) (hm : ms.length = ps.length)
    (hbody : ∀ (cdv : Value) (A : Around) (outer : List Env) (s0 : Shared) (H : Hp) (E : XK), Room k (A.deeper (envOfC qual (defScope st) s0.heap.objs.size f cdv)) →
      PSs (cxOf (L2.CX P w) P w K mg base N qual (defScope st) f cdv A outer s0 H E) (defBody st) (tS ⟨K, cn, fun c dd _ H => E c dd H⟩ s)) :
    FnOk P w K mg base (L2.CX P w) (k + 1) f fd ps (spD K cn ms (defR N.length ms s)) := by
  have fewer : ps.length ≤ N.length := by
    have q := congrArg List.length S.pre
    rw [List.length_take] at q; omega
  refine F.okX S (fun vs H Q E h => ?_) (fun cdv A outer s0 H vs Q E hr h => ?_)
  · obtain ⟨F, Oo, ds, _, ha, _, _⟩ := h
    rw [ha.length.1, hm]
  · obtain ⟨F, Oo, ds, w0, ha, nd, hf⟩ := h
    refine ⟨_, hbody cdv A outer s0 H E hr, initR N.length ms ds, F, ⟨Oo, ownP 0 ms vs, []⟩, wd_init w0 ha nd, ?_⟩
    unfold defR at hf
    rw [if_pos ha.length.2] at hf
    have outs : ∀ {ρ σ H' F'}, Wd K F' ⟨Oo, ownP 0 ms vs, []⟩ ρ σ H' → OutsAt K F' Oo H' ms vs ((ρ.take ms.length).map outC) := fun {ρ σ H' F'} w' => by
      have := outs_at w' ms vs 0 fun j v hj => by rw [Nat.zero_add]; exact hj
      rwa [List.drop_zero] at this
    cases e : s (initR N.length ms ds) with
    | ok fl ρ =>
      rw [e] at hf
      cases fl with
      | nx => exact fun σ' H' F' w' z => hf .non H' F' z ⟨w'.f, w'.o, w'.fo⟩ .non (outs w')
      | rt d => exact fun v σ' H' F' w' z r => hf v H' F' z ⟨w'.f, w'.o, w'.fo⟩ r (outs w')
      | bk => exact hf.elim
      | ct => exact hf.elim
    | err y ρ =>
      rw [e] at hf
      exact fun c dd σ' H' F' w' z x => hf c dd H' F' z ⟨w'.f, w'.o, w'.fo⟩ x
    | bad => rw [e] at hf; exact hf
end
end L3
/-! L3, part 12: a call that hands over containers. -/
namespace L3
open PySem PySem.Spec PyProof.Rows L2

def prep : List Bool → List Vl → Rho → Rs (List (D ⊕ Nat))
  | [], [], ρ => .ok [] ρ
  | false :: ms, x :: xs, ρ => (frz x ρ).bind fun d ρ => (prep ms xs ρ).bind fun r ρ => .ok (.inl d :: r) ρ
  | true :: ms, .bv i :: xs, ρ => (prep ms xs ρ).bind fun r ρ => .ok (.inr i :: r) ρ
  | _, _, _ => .bad
def ph2 (ρ : Rho) : List (D ⊕ Nat) → Option (List D)
  | [] => some []
  | .inl d :: r => (ph2 ρ r).map (d :: ·)
  | .inr i :: r => match ρ[i]? with
    | some (Cell.own _ d) => (ph2 ρ r).map (d :: ·)
    | _ => none
def idx : List (D ⊕ Nat) → List Nat
  | [] => []
  | .inl _ :: r => idx r
  | .inr i :: r => i :: idx r
def backC : Option Cell → Option Cell → Cell
  | some (.own _ d), some (.own p _) => .own p d
  | _, _ => .no
def setOuts : List (D ⊕ Nat) → List Cell → Rho → Rho
  | [], _, ρ => ρ
  | .inl _ :: r, cs, ρ => setOuts r cs.tail ρ
  | .inr i :: r, cs, ρ => (setOuts r cs.tail ρ).set i (backC cs.head? ρ[i]?)
def callRO (φ : Fn) (pr : List (D ⊕ Nat)) (ρ : Rho) : Rs Vl :=
  if (idx pr).Nodup then
    match ph2 ρ pr with
    | some ds => match φ ds with
      | .ok d outs => .ok (.d d) (setOuts pr outs ρ)
      | _ => .bad
    | none => .bad
  else .bad
def sCallO (ms : List Bool) (φ : Fn) (a : Rho → Rs (List Vl)) : Rho → Rs Vl := fun ρ => (a ρ).bind fun xs ρ => (prep ms xs ρ).bind fun pr ρ => callRO φ pr ρ

def PrepAt (K : PySem.W.Frag) (F : Hp) (σ : L2.St) : List Bool → List V → List (D ⊕ Nat) → Prop
  | [], [], [] => True
  | false :: ms, v :: vs, .inl d :: r => Rp K F v d ∧ PrepAt K F σ ms vs r
  | true :: ms, v :: vs, .inr i :: r => σ[i]? = some (some v) ∧ PrepAt K F σ ms vs r
  | _, _, _ => False
theorem PrepAt.mono {K : PySem.W.Frag} {F F' : Hp} {σ : L2.St} (s : Sub F F') : ∀ {ms : List Bool} {vs : List V} {pr : List (D ⊕ Nat)}, PrepAt K F σ ms vs pr → PrepAt K F' σ ms vs pr
  | [], [], [], _ => trivial
  | false :: _, _ :: _, .inl _ :: _, h => ⟨h.1.mono s, PrepAt.mono s h.2⟩
  | true :: _, _ :: _, .inr _ :: _, h => ⟨h.1, PrepAt.mono s h.2⟩
theorem prep_noerr : ∀ {ms : List Bool} {xs : List Vl} {ρ ρ' : Rho} {y : Xn}, prep ms xs ρ ≠ .err y ρ'
  | [], [], _, _, _, e => by cases e
  | [], _ :: _, _, _, _, e => by cases e
  | false :: ms, [], _, _, _, e => by cases e
  | true :: ms, [], _, _, _, e => by cases e
  | true :: ms, .d _ :: _, _, _, _, e => by cases e
  | false :: ms, x :: xs, ρ, ρ', y, e => by
    unfold prep at e
    cases h : frz x ρ with
    | ok d ρ1 =>
      rw [h, Rs.bind_ok] at e
      cases h2 : prep ms xs ρ1 with
      | ok ds ρ2 => rw [h2] at e; cases e
      | err z ρ2 => exact prep_noerr h2
      | bad => rw [h2] at e; cases e
    | err z ρ1 => exact frz_noerr h
    | bad => rw [h] at e; cases e
  | true :: ms, .bv i :: xs, ρ, ρ', y, e => by
    unfold prep at e
    cases h2 : prep ms xs ρ with
    | ok ds ρ2 => rw [h2] at e; cases e
    | err z ρ2 => exact prep_noerr h2
    | bad => rw [h2] at e; cases e
section
variable {K : PySem.W.Frag} {O : Fm} {σ : L2.St} {H : Hp}
theorem prep_ok : ∀ {ms : List Bool} {xs : List Vl} {vs : List V} {F : Hp} {ρ ρ' : Rho} {pr : List (D ⊕ Nat)}, Wd K F O ρ σ H → RVs K F σ vs xs → prep ms xs ρ = .ok pr ρ' → ∃ F', Wd K F' O ρ' σ H ∧ Sub F F' ∧ PrepAt K F' σ ms vs pr
  | [], [], [], F, ρ, ρ', pr, w, _, e => by cases e; exact ⟨F, w, Sub.refl _, trivial⟩
  | [], _ :: _, _, _, _, _, _, _, _, e => by cases e
  | false :: ms, [], _, _, _, _, _, _, _, e => by cases e
  | true :: ms, [], _, _, _, _, _, _, _, e => by cases e
  | true :: ms, .d _ :: _, _, _, _, _, _, _, _, e => by cases e
  | false :: ms, x :: xs, v :: vs, F, ρ, ρ', pr, w, r, e => by
    unfold prep at e
    cases h : frz x ρ with
    | ok d ρ1 =>
      rw [h, Rs.bind_ok] at e
      obtain ⟨F1, w1, s1, r1⟩ := frz_ok w r.1 h
      cases h2 : prep ms xs ρ1 with
      | ok ds ρ2 =>
        rw [h2] at e; cases e
        obtain ⟨F2, w2, s2, r2⟩ := prep_ok w1 (r.2.mono s1) h2
        exact ⟨F2, w2, s1.trans s2, r1.mono s2, r2⟩
      | err z ρ2 => exact absurd h2 prep_noerr
      | bad => rw [h2] at e; cases e
    | err z ρ1 => exact absurd h frz_noerr
    | bad => rw [h] at e; cases e
  | true :: ms, .bv i :: xs, v :: vs, F, ρ, ρ', pr, w, r, e => by
    unfold prep at e
    cases h2 : prep ms xs ρ with
    | ok ds ρ2 =>
      rw [h2] at e; cases e
      obtain ⟨F2, w2, s2, r2⟩ := prep_ok w r.2 h2
      exact ⟨F2, w2, s2, r.1, r2⟩
    | err z ρ2 => exact absurd h2 prep_noerr
    | bad => rw [h2] at e; cases e
theorem mem_idx {i : Nat} : ∀ {pr : List (D ⊕ Nat)}, i ∈ idx pr → ∃ k : Nat, pr[k]? = some (Sum.inr i)
  | .inl _ :: r, h => let ⟨k, e⟩ := mem_idx (pr := r) h; ⟨k + 1, by simpa using e⟩
  | .inr j :: r, h => by
    rcases List.mem_cons.mp h with rfl | h
    · exact ⟨0, rfl⟩
    · obtain ⟨k, e⟩ := mem_idx (pr := r) h
      exact ⟨k + 1, by simpa using e⟩
theorem idx_mem {i : Nat} : ∀ {pr : List (D ⊕ Nat)} {k : Nat}, pr[k]? = some (Sum.inr i) → i ∈ idx pr
  | [], k, h => by simp at h
  | .inl _ :: r, 0, h => by simp at h
  | .inr j :: r, 0, h => by simp at h; subst h; exact List.mem_cons_self
  | .inl _ :: r, k + 1, h => idx_mem (pr := r) (k := k) (by simpa using h)
  | .inr j :: r, k + 1, h => List.mem_cons_of_mem _ (idx_mem (pr := r) (k := k) (by simpa using h))
theorem ph2_own {ρ : Rho} : ∀ {pr : List (D ⊕ Nat)} {ds : List D} {i : Nat}, ph2 ρ pr = some ds → i ∈ idx pr → ∃ p d, ρ[i]? = some (Cell.own p d)
  | .inl d :: r, ds, i, e, h => by
    obtain ⟨ds', e', _⟩ := Option.map_eq_some_iff.mp (show (ph2 ρ r).map _ = some ds from e)
    exact ph2_own e' h
  | .inr j :: r, ds, i, e, h => by
    unfold ph2 at e
    split at e
    · rename_i p d hj
      obtain ⟨ds', e', _⟩ := Option.map_eq_some_iff.mp e
      rcases List.mem_cons.mp h with rfl | h
      · exact ⟨p, d, hj⟩
      · exact ph2_own e' h
    · cases e
theorem args_prep {F : Hp} {ρ : Rho} {I : List Nat} (w : Wd K F O ρ σ H) : ∀ {ms : List Bool} {vs : List V} {pr : List (D ⊕ Nat)} {ds : List D}, PrepAt K F σ ms vs pr → ph2 ρ pr = some ds → (∀ i ∈ idx pr, i ∈ I) → ArgsAt K F (others O ρ σ H I) H ms vs ds
  | [], [], [], ds, _, e, _ => by cases e; trivial
  | false :: ms, v :: vs, .inl d :: r, ds, h, e, hI => by
    obtain ⟨ds', e', rfl⟩ := Option.map_eq_some_iff.mp (show (ph2 ρ r).map _ = some ds from e)
    exact ⟨h.1, args_prep w h.2 e' hI⟩
  | true :: ms, v :: vs, .inr i :: r, ds, h, e, hI => by
    unfold ph2 at e
    split at e
    · rename_i p d hi
      obtain ⟨ds', e', rfl⟩ := Option.map_eq_some_iff.mp e
      obtain ⟨a, q1, q2, q3, q4⟩ := w.own i _ d hi rfl
      rw [h.1] at q1; cases q1
      refine ⟨⟨a, rfl, q2, ?_, q4⟩, args_prep w h.2 e' fun j hj => hI j (List.mem_cons_of_mem _ hj)⟩
      cases ho : others O ρ σ H I a with
      | none => rfl
      | some o =>
        rcases (others_some ho).2 with ⟨o', h'⟩ | ⟨j, c, d', hj, h1, h2, h3⟩
        · rw [q3] at h'; cases h'
        · have ne : i ≠ j := fun z => hj (z ▸ hI i List.mem_cons_self)
          exact (w.ap i j _ c d d' a ne hi h1 rfl h2 h.1 h3).elim
    · cases e
theorem ownV_idx {F : Hp} : ∀ {ms : List Bool} {vs : List V} {pr : List (D ⊕ Nat)} {v : V}, PrepAt K F σ ms vs pr → v ∈ ownV ms vs → ∃ i ∈ idx pr, σ[i]? = some (some v)
  | [], [], [], v, _, h => by simp [ownV] at h
  | false :: ms, u :: vs, .inl d :: r, v, h, hv => ownV_idx (ms := ms) (vs := vs) (pr := r) h.2 hv
  | true :: ms, u :: vs, .inr i :: r, v, h, hv => by
    rcases List.mem_cons.mp (show v ∈ u :: ownV ms vs from hv) with rfl | hv
    · exact ⟨i, List.mem_cons_self, h.1⟩
    · obtain ⟨j, h1, h2⟩ := ownV_idx (ms := ms) (vs := vs) (pr := r) h.2 hv
      exact ⟨j, List.mem_cons_of_mem _ h1, h2⟩
theorem nodup_prep {F : Hp} {ρ : Rho} (w : Wd K F O ρ σ H) : ∀ {ms : List Bool} {vs : List V} {pr : List (D ⊕ Nat)} {ds : List D}, PrepAt K F σ ms vs pr → ph2 ρ pr = some ds → (idx pr).Nodup → (ownV ms vs).Nodup
  | [], [], [], ds, _, e, _ => .nil
  | false :: ms, v :: vs, .inl d :: r, ds, h, e, n => by
    obtain ⟨ds', e', rfl⟩ := Option.map_eq_some_iff.mp (show (ph2 ρ r).map _ = some ds from e)
    exact nodup_prep (ms := ms) (vs := vs) w h.2 e' n
  | true :: ms, v :: vs, .inr i :: r, ds, h, e, n => by
    have n' := List.nodup_cons.mp (show (i :: idx r).Nodup from n)
    unfold ph2 at e
    split at e
    · rename_i p d hi
      obtain ⟨ds', e', rfl⟩ := Option.map_eq_some_iff.mp e
      refine List.nodup_cons.mpr ⟨fun hv => ?_, nodup_prep (ms := ms) (vs := vs) w h.2 e' n'.2⟩
      obtain ⟨j, h1, h2⟩ := ownV_idx h.2 hv
      obtain ⟨p', d', hj⟩ := ph2_own e' h1
      have ne : i ≠ j := fun z => n'.1 (z ▸ h1)
      obtain ⟨a, q1, _⟩ := w.own i _ d hi rfl
      rw [h.1] at q1; cases q1
      exact w.ap i j _ _ d d' a ne hi hj rfl rfl h.1 h2
    · cases e
theorem setOuts_len : ∀ (pr : List (D ⊕ Nat)) (cs : List Cell) (ρ : Rho), (setOuts pr cs ρ).length = ρ.length
  | [], _, _ => rfl
  | .inl _ :: r, cs, ρ => setOuts_len r cs.tail ρ
  | .inr i :: r, cs, ρ => by unfold setOuts; rw [List.length_set]; exact setOuts_len r cs.tail ρ
theorem setOuts_same : ∀ (pr : List (D ⊕ Nat)) (cs : List Cell) (ρ : Rho) (j : Nat), j ∉ idx pr → (setOuts pr cs ρ)[j]? = ρ[j]?
  | [], _, _, _, _ => rfl
  | .inl _ :: r, cs, ρ, j, h => setOuts_same r cs.tail ρ j h
  | .inr i :: r, cs, ρ, j, h => by
    have h0 : j ∉ i :: idx r := h
    unfold setOuts
    rw [List.getElem?_set_ne (fun z : i = j => h0 (by rw [z]; exact List.mem_cons_self))]
    exact setOuts_same r cs.tail ρ j fun z => h0 (List.mem_cons_of_mem _ z)
theorem setOuts_at : ∀ {ms : List Bool} {vs : List V} {pr : List (D ⊕ Nat)} {cs : List Cell} {ρ : Rho} {F F' Oo H' : Hp} {i : Nat} {c : Cell}, PrepAt K F σ ms vs pr → OutsAt K F' Oo H' ms vs cs → i ∈ idx pr → (idx pr).Nodup → (setOuts pr cs ρ)[i]? = some c →
    c = .no ∨ ∃ p d d0 a, ρ[i]? = some (Cell.own p d0) ∧ c = .own p d ∧ σ[i]? = some (some (.ref a)) ∧ F' a = none ∧ OwnAt K F' H' a d
  | [], [], [], _, _, _, _, _, _, _, _, _, _, h, _, _ => by simp [idx] at h
  | false :: ms, v :: vs, .inl d :: r, cs, ρ, F, F', Oo, H', i, c, h, o, hi, n, e => by
    have o' : OutsAt K F' Oo H' ms vs cs.tail := by
      cases cs with
      | nil => cases ms <;> first | trivial | (rename_i b l; cases b <;> cases vs <;> trivial)
      | cons c cs => exact o
    exact setOuts_at h.2 o' hi n e
  | true :: ms, v :: vs, .inr j :: r, cs, ρ, F, F', Oo, H', i, c, h, o, hi, n, e => by
    have n' := List.nodup_cons.mp (show (j :: idx r).Nodup from n)
    have o' : OutsAt K F' Oo H' ms vs cs.tail := by
      cases cs with
      | nil => cases ms <;> first | trivial | (rename_i b l; cases b <;> cases vs <;> trivial)
      | cons c cs => exact o.2
    unfold setOuts at e
    rcases get_set e with ⟨rfl, z⟩ | ⟨ne, e⟩
    · cases cs with
      | nil => left; rw [z]; cases ρ[i]? <;> rfl
      | cons c0 cs =>
        subst z
        cases hρ : ρ[i]? with
        | none => left; cases c0 <;> rfl
        | some c1 =>
          cases c0 with
          | own p0 d =>
            cases c1 with
            | own p d0 =>
              right
              obtain ⟨a, rfl, f1, _, f3⟩ := o.1 p0 d rfl
              exact ⟨p, d, d0, a, rfl, rfl, h.1, f1, f3⟩
            | _ => left; rfl
          | _ => left; cases c1 <;> rfl
    · rcases List.mem_cons.mp (show i ∈ j :: idx r from hi) with rfl | hi
      · exact absurd rfl ne
      · exact setOuts_at h.2 o' hi n'.2 e
end
section
variable {X : Cx} {G : Gx} {k : Nat} {f : Addr} {fd : FuncData} {ps : List Str} {φ : Fn} {x : Str} {p pos : Pos} {e : Expr} {es : List Expr} {ss : Rho → Rs (List Vl)} {ms : List Bool}
theorem sCallO_t (hK : X.K = G.K) {σ : L2.St} {H : Hp} {Q : VK} (h : tE G (sCallO ms φ ss) σ H Q) : tCallSD (spD X.K G.cn ms φ) [] (GoesW G) (tA G ss) σ H Q := by
  obtain ⟨ρ, F, O, w, h⟩ := h
  refine tG.bind w h fun xs ρ1 vs H1 F1 _ w1 s1 rs h1 => ?_
  cases e : prep ms xs ρ1 with
  | err y ρ2 => exact absurd e prep_noerr
  | bad => rw [e] at h1; exact h1.elim
  | ok pr ρ2 =>
    rw [e, Rs.bind_ok] at h1
    obtain ⟨F2, w2, s2, r2⟩ := prep_ok w1 rs e
    have h2 := Fin.mono s2 h1
    unfold callRO at h2
    split at h2
    · rename_i nd
      cases ep : ph2 ρ2 pr with
      | none => rw [ep] at h2; exact h2.elim
      | some ds =>
        rw [ep] at h2
        dsimp only at h2
        rw [List.append_nil, hK]
        refine ⟨F2, others O ρ2 σ H1 (idx pr), ds, w2.w0, args_prep w2 r2 ep (fun _ hi => hi), nodup_prep w2 r2 ep nd, ?_⟩
        cases ef : φ ds with
        | ok d outs =>
          rw [ef] at h2
          intro v H3 F3 s3 x3 r3 o3
          refine h2 v H3 F3 (w2.back s3 x3 (setOuts_len _ _ _) (fun j hj => setOuts_same _ _ _ j hj) (fun i hi p d z => ?_) fun i c hi hc => setOuts_at r2 o3 hi nd hc) s3 r3
          obtain ⟨p', d', z'⟩ := ph2_own ep hi
          rw [z] at z'; cases z'
        | err y => rw [ef] at h2; exact h2.elim
        | bad => rw [ef] at h2; exact h2.elim
    · exact h2.elim
theorem de_callO (F : FnOk X.prog X.w X.K X.mg X.base (L2.CX X.prog X.w) k f fd ps (spD X.K G.cn ms φ)) (hr : Room k X.A) (hg : Gl X x) (hm : X.mg x = some (.ref f)) (hk : PySem.W.keepIn X.K (.ref f) = true) (hb : Binds X.K fd ps [])
    (tk : Takes X G.W) (hK : X.K = G.K) (ha : PA X (e :: es) (tA G ss)) (hp : plainArgs (e :: es) = true) (hd : (x == ("__debug__" : Str)) = false) :
    DE X G (.Call (.Name x p) (e :: es) [] pos) (sCallO ms φ ss) := by
  have h' : notStar e = true ∧ plainArgs es = true := by simpa [plainArgs] using hp
  exact .val (PE.imp (pe_callSD F hr hg hm hk hb .nil (passW tk) ha hd (star_plain h'.1 _) (any_plain h'.2 _ _)) fun σ H Q h => sCallO_t hK h) fun _ => rfl
end
end L3
/-! L3, part 13: targets, what is walked, for. -/
namespace L3
open PySem PySem.Spec PyProof.Rows L2

/-! ### targets -/
def OnlyAt (js : List Nat) (σ σ' : L2.St) : Prop := σ'.length = σ.length ∧ ∀ j, j ∉ js → σ'[j]? = σ[j]?
theorem OnlyAt.refl (js : List Nat) (σ : L2.St) : OnlyAt js σ σ := ⟨rfl, fun _ _ => rfl⟩
theorem OnlyAt.trans {js : List Nat} {σ σ' σ'' : L2.St} (a : OnlyAt js σ σ') (b : OnlyAt js σ' σ'') : OnlyAt js σ σ'' := ⟨b.1.trans a.1, fun j h => (b.2 j h).trans (a.2 j h)⟩
theorem OnlyAt.sub {js is : List Nat} {σ σ' : L2.St} (a : OnlyAt js σ σ') (h : ∀ j ∈ js, j ∈ is) : OnlyAt is σ σ' := ⟨a.1, fun j q => a.2 j fun z => q (h j z)⟩
/-- a target's meaning, for a value that stays -/
def gT (G : Gx) (js : List Nat) (f : D → Rho → Rs Fl) : TG := fun v σ H Q => ∃ ρ F O d ρ', Wd G.K F O ρ σ H ∧ Rp G.K F v d ∧ f d ρ = .ok .nx ρ' ∧ ∀ σ', Wd G.K F O ρ' σ' H → OnlyAt js σ σ' → Q σ' H
def gTs (G : Gx) (js : List Nat) (f : List D → Rho → Rs Fl) : TGs := fun vs σ H Q => ∃ ρ F O ds ρ', Wd G.K F O ρ σ H ∧ RpL G.K F vs ds ∧ f ds ρ = .ok .nx ρ' ∧ ∀ σ', Wd G.K F O ρ' σ' H → OnlyAt js σ σ' → Q σ' H
abbrev DG (X : Cx) (G : Gx) (tg : Expr) (js : List Nat) (f : D → Rho → Rs Fl) : Prop := PG X tg (gT G js f)
abbrev DGs (X : Cx) (G : Gx) (tg : List Expr) (js : List Nat) (f : List D → Rho → Rs Fl) : Prop := PGs X tg (gTs G js f)
theorem PG.imp {X : Cx} {tg : Expr} {t t' : TG} (h : PG X tg t) (i : ∀ v σ H Q, t' v σ H Q → t v σ H Q) : PG X tg t' := ⟨fun pins s σ H v u Q I r q => h.run pins s σ H v u Q I r (i _ _ _ _ q)⟩
theorem PGs.imp {X : Cx} {tg : List Expr} {t t' : TGs} (h : PGs X tg t) (i : ∀ v σ H Q, t' v σ H Q → t v σ H Q) : PGs X tg t' := ⟨fun pins s σ H v u Q I r q => h.run pins s σ H v u Q I r (i _ _ _ _ q)⟩
def gN (i : Nat) : D → Rho → Rs Fl := fun d ρ => put i (.val d) ρ
def gsN : List D → Rho → Rs Fl
  | [], ρ => .ok .nx ρ
  | _ :: _, _ => .bad
def thenG (r : Rs Fl) (k : Rho → Rs Fl) : Rs Fl :=
  match r with
  | .ok .nx ρ => k ρ
  | _ => .bad
def gsC (f : D → Rho → Rs Fl) (fs : List D → Rho → Rs Fl) : List D → Rho → Rs Fl
  | [], _ => .bad
  | d :: ds, ρ => thenG (f d ρ) fun ρ => fs ds ρ
def gTp (n : Nat) (fs : List D → Rho → Rs Fl) : D → Rho → Rs Fl := fun d ρ =>
  match itemsD d with
  | some ds => if ds.length = n then fs ds ρ else .bad
  | none => .bad
section
variable {X : Cx} {G : Gx} {e : Expr} {es : List Expr} {js is : List Nat} {f : D → Rho → Rs Fl} {fs : List D → Rho → Rs Fl} {pos : Pos}
theorem set_only (i : Nat) (σ : L2.St) (v : Option V) : OnlyAt [i] σ (σ.set i v) := ⟨List.length_set, fun j h => List.getElem?_set_ne fun z => h (by simp [z])⟩
theorem dg_name {i : Nat} {x : Str} (hN : X.N.Nodup) (hi : X.N[i]? = some x) (hx : Loc X.env.scope x) (hf : X.fn x = true ∨ X.env.scope.names.lookup x = some .local) : DG X G (.Name x pos) [i] (gN i) := by
  refine PG.imp (pg_name hN hi hx hf) fun v σ H Q h => ?_
  obtain ⟨ρ, F, O, d, ρ', w, r, e, k⟩ := h
  obtain ⟨_, rfl, hi, nl⟩ := put_inv e
  exact k _ (w.put hi nl r) (set_only _ _ _)
theorem dgs_nil : DGs X G [] js gsN := by
  refine PGs.imp pgs_nil fun vs σ H Q h => ?_
  obtain ⟨ρ, F, O, ds, ρ', w, r, e, k⟩ := h
  cases r with
  | nil => cases e; exact ⟨rfl, k σ w (OnlyAt.refl _ _)⟩
  | cons => cases e
theorem thenG_ok {r : Rs Fl} {k : Rho → Rs Fl} {ρ' : Rho} (h : thenG r k = .ok .nx ρ') : ∃ ρ, r = .ok .nx ρ ∧ k ρ = .ok .nx ρ' := by
  unfold thenG at h
  split at h
  · exact ⟨_, rfl, h⟩
  · cases h
theorem dgs_cons (h1 : DG X G e js f) (h2 : DGs X G es is fs) (hs : (assignEach (e :: es) X.env).map (·.2) = assign e X.env :: (assignEach es X.env).map (·.2)) : DGs X G (e :: es) (js ++ is) (gsC f fs) := by
  refine PGs.imp (pgs_cons h1 h2 hs) fun vs σ H Q h => ?_
  obtain ⟨ρ, F, O, ds, ρ', w, r, e, k⟩ := h
  cases r with
  | nil => cases e
  | cons r rr =>
    obtain ⟨ρ1, e1, e2⟩ := thenG_ok e
    exact ⟨_, _, rfl, ρ, F, O, _, ρ1, w, r, e1, fun σ1 w1 o1 => ⟨ρ1, F, O, _, ρ', w1, rr, e2, fun σ2 w2 o2 => k σ2 w2 ((o1.sub fun _ h => List.mem_append_left _ h).trans (o2.sub fun _ h => List.mem_append_right _ h))⟩⟩
theorem PG.or {tg : Expr} {t u : TG} (h : PG X tg t) (h' : PG X tg u) : PG X tg fun v σ H Q => t v σ H Q ∨ u v σ H Q :=
  ⟨fun pins s σ H v y Q I r q => q.elim (h.run pins s σ H v y Q I r) (h'.run pins s σ H v y Q I r)⟩
theorem dg_tup {k n : Nat} (hK : X.K = G.K) (hc : X.calm = true) (h : DGs X G es js fs) (hn : (assignEach es X.env).length = n) (hst : (assignEach es X.env).findIdx? (·.1) = none) : DG X G (.Tuple es k pos) js (gTp n fs) := by
  refine PG.imp (PG.or (pg_tup hc h hn hst) (pg_unl hc h hn hst)) fun v σ H Q h => ?_
  obtain ⟨ρ, F, O, d, ρ', w, r, e, k⟩ := h
  unfold gTp at e
  cases d with
  | list ds =>
    have e : (if ds.length = n then fs ds ρ else .bad) = .ok .nx ρ' := e
    split at e
    · obtain ⟨a, vs, rfl, q, r⟩ := At.list w.f (.inl r)
      exact .inr ⟨a, vs, rfl, SqL.of q, r.length.trans ‹_›, ρ, F, O, ds, ρ', w, r, e, k⟩
    · cases e
  | tuple ds =>
    have e : (if ds.length = n then fs ds ρ else .bad) = .ok .nx ρ' := e
    split at e
    · obtain ⟨a, vs, rfl, _, q, r⟩ := At.tuple w.f (.inl r)
      exact .inl ⟨a, vs, rfl, by rw [hK]; exact q, r.length.trans ‹_›, ρ, F, O, ds, ρ', w, r, e, k⟩
    · cases e
  | _ => cases e
end

/-! ### what is walked -/
/-- the iterator yields ds, one after another -/
def Feed (K : PySem.W.Frag) (F0 : Hp) (J : It) (ds : List D) : Prop := ∀ {F O ρ σ H}, Wd K F O ρ σ H → Sub F0 F → ∀ i,
  (∀ d, ds[i]? = some d → J.go i H ∧ ∀ x H', J.yld i H x H' → ∃ F', Wd K F' O ρ σ H' ∧ Sub F F' ∧ Rp K F' x d ∧ ∀ a, H a ≠ none → H' a = H a) ∧ (i = ds.length → J.stop i H)
theorem Feed.mono {K : PySem.W.Frag} {F F' : Hp} {J : It} {ds : List D} (h : Feed K F J ds) (s : Sub F F') : Feed K F' J ds := fun w z i => h w (s.trans z) i
def FinI (G : Gx) (F : Hp) (O : Fm) (σ : L2.St) (R : It → Hp → Prop) : Rs (List D) → Prop
  | .ok ds ρ' => ∀ J H' F', Wd G.K F' O ρ' σ H' → Sub F F' → Feed G.K F' J ds → R J H'
  | .err x ρ' => ∀ c dd H' F', Wd G.K F' O ρ' σ H' → Sub F F' → XAt G.K F' G.cn c dd x → G.W c dd σ H'
  | .bad => False
def tI (G : Gx) (s : Rho → Rs (List D)) : TI := fun σ H R => ∃ ρ F O, Wd G.K F O ρ σ H ∧ FinI G F O σ R (s ρ)
abbrev DI (X : Cx) (G : Gx) (tg it : Expr) (s : Rho → Rs (List D)) : Prop := PI X tg it (tI G s)
theorem FinI.mono {G : Gx} {F F1 : Hp} {O : Fm} {σ : L2.St} {R : It → Hp → Prop} (s : Sub F F1) : ∀ {r : Rs (List D)}, FinI G F O σ R r → FinI G F1 O σ R r
  | .ok _ _, h => fun J H' F' w z => h J H' F' w (s.trans z)
  | .err _ _, h => fun c dd H' F' w z x => h c dd H' F' w (s.trans z) x
  | .bad, h => h
theorem Tgt.finI {G : Gx} {O : Fm} {σ : L2.St} {R : It → Hp → Prop} : Tgt G O σ (fun F r => FinI G F O σ R r) := ⟨fun s h => FinI.mono s h, fun h => h, fun h => h⟩
theorem PI.imp {X : Cx} {tg it : Expr} {t t' : TI} (h : PI X tg it t) (i : ∀ σ H R, t' σ H R → t σ H R) : PI X tg it t' := ⟨fun pins s σ H R I q => h.run pins s σ H R I (i _ _ _ q)⟩
theorem PI.or {X : Cx} {tg it : Expr} {t u : TI} (h : PI X tg it t) (h' : PI X tg it u) : PI X tg it fun σ H R => t σ H R ∨ u σ H R :=
  ⟨fun pins s σ H R I q => q.elim (h.run pins s σ H R I) (h'.run pins s σ H R I)⟩
theorem same_get {K : PySem.W.Frag} {F H : Hp} {vs : List V} {ds : List D} (r : RpL K F vs ds) {i : Nat} {d : D} (e : ds[i]? = some d) {x : V} (h : vs[i]? = some x) : Rp K F x d := by
  obtain ⟨v, e1, r1⟩ := r.get e
  rw [h] at e1; cases e1
  exact r1
theorem feed_list {K : PySem.W.Frag} {F : Hp} {a : Addr} {vs : List V} {ds : List D} (h : SqL K F a vs) (r : RpL K F vs ds) : Feed K F (Itl K a) ds := by
  intro F' O ρ σ H w s i
  have q : SqL K H a vs := (s.trans w.f).sqL h
  refine ⟨fun d e => ?_, fun hi => ⟨vs, q, by rw [r.length]; exact Nat.le_of_eq hi.symm⟩⟩
  obtain ⟨v, e1, r1⟩ := r.get e
  refine ⟨⟨vs, v, q, e1⟩, fun x H' y => ?_⟩
  obtain ⟨rfl, y⟩ := y
  have := y vs q
  rw [e1] at this; cases this
  exact ⟨F', w, Sub.refl _, r1.mono s, fun _ _ => rfl⟩
theorem feed_tup {K : PySem.W.Frag} {F : Hp} {a : Addr} {vs : List V} {ds : List D} (h : SqT K F a vs) (r : RpL K F vs ds) : Feed K F (Itt K a) ds := by
  intro F' O ρ σ H w s i
  have q : SqT K H a vs := (s.trans w.f).sqT h
  refine ⟨fun d e => ?_, fun hi => ⟨vs, q, by rw [r.length]; exact Nat.le_of_eq hi.symm⟩⟩
  obtain ⟨v, e1, r1⟩ := r.get e
  refine ⟨⟨vs, v, q, e1⟩, fun x H' y => ?_⟩
  obtain ⟨rfl, y⟩ := y
  have := y vs q
  rw [e1] at this; cases this
  exact ⟨F', w, Sub.refl _, r1.mono s, fun _ _ => rfl⟩
def rngD (lo c : Int) (n : Nat) : List D := (List.range n).map fun i : Nat => PyData.int (lo + (i : Int) * c)
theorem rngD_get {lo c : Int} {n i : Nat} {d : D} (e : (rngD lo c n)[i]? = some d) : i < n ∧ d = .int (lo + (i : Int) * c) := by
  unfold rngD at e
  rw [List.getElem?_map] at e
  obtain ⟨j, e1, rfl⟩ := Option.map_eq_some_iff.mp e
  obtain ⟨h1, h2⟩ := List.getElem?_eq_some_iff.mp e1
  rw [List.getElem_range] at h2
  subst h2
  exact ⟨by simpa using h1, rfl⟩
theorem rngD_len {lo c : Int} {n : Nat} : (rngD lo c n).length = n := by simp [rngD]
theorem feed_rng {K : PySem.W.Frag} {F : Hp} {lo : Int} {n : Nat} : Feed K F (Itr lo n) (rngD lo 1 n) := by
  intro F' O ρ σ H w s i
  refine ⟨fun d e => ?_, fun hi => by rw [rngD_len] at hi; exact Nat.le_of_eq hi.symm⟩
  obtain ⟨h1, rfl⟩ := rngD_get e
  refine ⟨h1, fun x H' y => ?_⟩
  obtain ⟨rfl, rfl⟩ := y
  rw [Int.mul_one]
  exact ⟨F', w, Sub.refl _, .int _, fun _ _ => rfl⟩
theorem feed_rngC {K : PySem.W.Frag} {F : Hp} {lo c : Int} {n : Nat} : Feed K F (Itc lo c n) (rngD lo c n) := by
  intro F' O ρ σ H w s i
  refine ⟨fun d e => ?_, fun hi => by rw [rngD_len] at hi; exact Nat.le_of_eq hi.symm⟩
  obtain ⟨h1, rfl⟩ := rngD_get e
  refine ⟨h1, fun x H' y => ?_⟩
  obtain ⟨rfl, rfl⟩ := y
  exact ⟨F', w, Sub.refl _, .int _, fun _ _ => rfl⟩
def chrD (x : Str) : List D := x.cps.toList.map fun c => PyData.str ⟨#[c]⟩
theorem feed_str {K : PySem.W.Frag} {F : Hp} {x : Str} : Feed K F (Its x) (chrD x) := by
  intro F' O ρ σ H w s i
  refine ⟨fun d e => ?_, fun hi => by show x.cps.size ≤ i; rw [hi]; simp [chrD]⟩
  unfold chrD at e
  rw [List.getElem?_map] at e
  obtain ⟨c, e1, rfl⟩ := Option.map_eq_some_iff.mp e
  have e1 : x.cps[i]? = some c := by simpa using e1
  refine ⟨(Array.getElem?_eq_some_iff.mp e1).1, fun y H' z => ?_⟩
  obtain ⟨rfl, c', e2, rfl⟩ := z
  rw [e1] at e2; cases e2
  exact ⟨F', w, Sub.refl _, .str _, fun _ _ => rfl⟩
/-- an item in a new pair -/
theorem pair_new {K : PySem.W.Frag} {F H : Hp} {O : Fm} {ρ : Rho} {σ : L2.St} {T : Addr} {vs : List V} {ds : List D} (w : Wd K F O ρ σ H) (hT : H T = none) (r : RpL K F vs ds) :
    ∃ F', Wd K F' O ρ σ (upd H T (.tup vs)) ∧ Sub F F' ∧ Rp K F' (.ref T) (.tuple ds) ∧ ∀ a, H a ≠ none → upd H T (.tup vs) a = H a :=
  have s : Sub F (upd F T (.tup vs)) := sub_upd (w.f.none hT)
  ⟨_, w.alloc hT, s, .tup (.inl (.inl upd_same)) (r.mono s), fun a ha => upd_ne fun z => ha (z ▸ hT)⟩
def enumD (ds : List D) : List D := (List.range ds.length).map fun i : Nat => PyData.tuple [.int i, ds.getD i .none]
theorem enumD_get {ds : List D} {i : Nat} {d : D} (e : (enumD ds)[i]? = some d) : ∃ y, ds[i]? = some y ∧ d = .tuple [.int i, y] := by
  unfold enumD at e
  rw [List.getElem?_map] at e
  obtain ⟨j, e1, rfl⟩ := Option.map_eq_some_iff.mp e
  obtain ⟨h1, h2⟩ := List.getElem?_eq_some_iff.mp e1
  rw [List.getElem_range] at h2
  subst h2
  have h1 : i < ds.length := by simpa using h1
  exact ⟨ds[i], by simp [h1], by simp [h1]⟩
theorem feed_enum {K : PySem.W.Frag} {F : Hp} {a : Addr} {vs : List V} {ds : List D} (h : SqL K F a vs) (r : RpL K F vs ds) : Feed K F (Ite K a) (enumD ds) := by
  intro F' O ρ σ H w s i
  have q : SqL K H a vs := (s.trans w.f).sqL h
  refine ⟨fun d e => ?_, fun hi => ⟨vs, q, by rw [r.length, hi]; simp [enumD]⟩⟩
  obtain ⟨y, e0, rfl⟩ := enumD_get e
  obtain ⟨v, e1, r1⟩ := r.get e0
  refine ⟨⟨vs, v, q, e1⟩, fun x H' y => ?_⟩
  obtain ⟨T, x, rfl, hT, rfl, y⟩ := y
  have := y vs q
  rw [e1] at this; cases this
  exact pair_new w hT (.cons (.int _) (.cons (r1.mono s) .nil))
def zipD (ds es : List D) : List D := (ds.zip es).map fun p => PyData.tuple [p.1, p.2]
theorem zipD_get {ds es : List D} {i : Nat} {d : D} (e : (zipD ds es)[i]? = some d) : ∃ x y, ds[i]? = some x ∧ es[i]? = some y ∧ d = .tuple [x, y] := by
  unfold zipD at e
  rw [List.getElem?_map] at e
  obtain ⟨p, e1, rfl⟩ := Option.map_eq_some_iff.mp e
  obtain ⟨q1, q2⟩ := List.getElem?_zip_eq_some.mp e1
  exact ⟨_, _, q1, q2, rfl⟩
theorem zipD_len {ds es : List D} : (zipD ds es).length = min ds.length es.length := by simp [zipD]
theorem feed_zip {K : PySem.W.Frag} {F : Hp} {a b : Addr} {vs us : List V} {ds es : List D} (h : SqL K F a vs) (r : RpL K F vs ds) (h' : SqL K F b us) (r' : RpL K F us es) : Feed K F (Itz K a b) (zipD ds es) := by
  intro F' O ρ σ H w s i
  have q : SqL K H a vs := (s.trans w.f).sqL h
  have q' : SqL K H b us := (s.trans w.f).sqL h'
  refine ⟨fun d e => ?_, fun hi => ⟨vs, us, q, q', by rw [r.length, r'.length]; rw [zipD_len] at hi; omega⟩⟩
  obtain ⟨x, y, e0, e0', rfl⟩ := zipD_get e
  obtain ⟨v, e1, r1⟩ := r.get e0
  obtain ⟨u, e2, r2⟩ := r'.get e0'
  refine ⟨⟨vs, us, v, u, q, q', e1, e2⟩, fun x H' y => ?_⟩
  obtain ⟨T, x, y, rfl, hT, rfl, y1, y2⟩ := y
  have y1 := y1 vs q
  have y2 := y2 us q'
  rw [e1] at y1; cases y1
  rw [e2] at y2; cases y2
  exact pair_new w hT (.cons (r1.mono s) (.cons (r2.mono s) .nil))
theorem feed_zipT {K : PySem.W.Frag} {F : Hp} {a b : Addr} {vs us : List V} {ds es : List D} (h : SqT K F a vs) (r : RpL K F vs ds) (h' : SqT K F b us) (r' : RpL K F us es) : Feed K F (RZ.ItzT K a b) (zipD ds es) := by
  intro F' O ρ σ H w s i
  have q : SqT K H a vs := (s.trans w.f).sqT h
  have q' : SqT K H b us := (s.trans w.f).sqT h'
  refine ⟨fun d e => ?_, fun hi => ⟨vs, us, q, q', by rw [r.length, r'.length]; rw [zipD_len] at hi; omega⟩⟩
  obtain ⟨x, y, e0, e0', rfl⟩ := zipD_get e
  obtain ⟨v, e1, r1⟩ := r.get e0
  obtain ⟨u, e2, r2⟩ := r'.get e0'
  refine ⟨⟨vs, us, v, u, q, q', e1, e2⟩, fun x H' y => ?_⟩
  obtain ⟨T, x, y, rfl, hT, rfl, y1, y2⟩ := y
  have y1 := y1 vs q
  have y2 := y2 us q'
  rw [e1] at y1; cases y1
  rw [e2] at y2; cases y2
  exact pair_new w hT (.cons (r1.mono s) (.cons (r2.mono s) .nil))

/-! ### sources -/
def walkD : D → Option (List D)
  | .list xs => some xs
  | .tuple xs => some xs
  | .str x => some (chrD x)
  | _ => none
def ofO {α : Type} (o : Option α) (ρ : Rho) : Rs α :=
  match o with
  | some a => .ok a ρ
  | none => .bad
def sIt (e : Rho → Rs Vl) : Rho → Rs (List D) := fun ρ => (e ρ).bind fun x ρ => (frz x ρ).bind fun d ρ => ofO (walkD d) ρ
def intsV (ρ : Rho) (xs : List Vl) : Option (List Int) := (conts ρ xs).bind intsD
def in62 (i : Int) : Bool := decide (-(2 ^ 62) ≤ i) && decide (i < 2 ^ 62)
theorem in62_iff {i : Int} : in62 i = true ↔ -(2 ^ 62) ≤ i ∧ i < 2 ^ 62 := by simp [in62]
def rg3Ok (i j c : Int) : Bool := c != 0 && decide (c.natAbs < 1073741824) && Builtin.Range.small i j c && decide (0 ≤ Builtin.Range.rangeSize i j c)
def rngOf : List Int → Option (List D)
  | [j] => if in62 j then some (rngD 0 1 j.toNat) else none
  | [i, j] => if in62 i && in62 j then some (rngD i 1 (j - i).toNat) else none
  | [i, j, c] => if rg3Ok i j c then some (rngD i c (Builtin.Range.rangeSize i j c).toNat) else none
  | _ => none
def sRng (a : Rho → Rs (List Vl)) : Rho → Rs (List D) := fun ρ => (a ρ).bind fun xs ρ => ofO ((intsV ρ xs).bind rngOf) ρ
theorem Ats.ints {K : PySem.W.Frag} {F H : Hp} : ∀ {vs : List V} {ds : List D} {ns : List Int}, Ats K F H vs ds → intsD ds = some ns → vs = ns.map V.int
  | [], [], ns, _, e => by cases e; rfl
  | v :: vs, d :: ds, ns, h, e => by
    cases d with
    | int i =>
      obtain ⟨m, e1, rfl⟩ := Option.map_eq_some_iff.mp (show (intsD ds).map _ = some ns from e)
      rw [h.1.int, Ats.ints h.2 e1]
      rfl
    | _ => cases e
section
variable {X : Cx} {G : Gx} {tg e a b c : Expr} {es : List Expr} {s : Rho → Rs Vl} {ss : Rho → Rs (List Vl)} {pos p : Pos}
theorem ofO_fin {α : Type} {P : Hp → Rs α → Prop} {O : Fm} {σ : L2.St} (T : Tgt G O σ P) {F : Hp} {o : Option α} {ρ : Rho} (h : P F (ofO o ρ)) : ∃ a, o = some a ∧ P F (.ok a ρ) := by
  cases o with
  | none => exact (T.bad h).elim
  | some a => exact ⟨a, rfl, h⟩
theorem di_val (hK : X.K = G.K) (he : PE X e (tE G s)) : DI X G tg e (sIt s) := by
  refine PI.imp (PI.or (PI.or (pi_list he) (pi_tup he)) (pi_str he)) fun σ H R h => ?_
  obtain ⟨ρ, F, O, w, h⟩ := h
  -- the kind is known from the pure result
  cases e0 : s ρ with
  | err x ρ1 => unfold sIt at h; rw [e0] at h; exact .inl (.inl ⟨ρ, F, O, w, by rw [e0]; exact h⟩)
  | bad => unfold sIt at h; rw [e0] at h; exact h.elim
  | ok x ρ1 =>
    unfold sIt at h
    rw [e0, Rs.bind_ok] at h
    cases e1 : frz x ρ1 with
    | err x ρ1 => exact absurd e1 frz_noerr
    | bad => rw [e1] at h; exact h.elim
    | ok d ρ2 =>
      rw [e1, Rs.bind_ok] at h
      obtain ⟨ds, e2, h⟩ := ofO_fin Tgt.finI h
      have go : ∀ {Q : VK}, (∀ v H1 F1, Wd G.K F1 O ρ2 σ H1 → Sub F F1 → Rp G.K F1 v d → Q v H1) → tE G s σ H Q := fun {Q} k => ⟨ρ, F, O, w, by
        rw [e0]
        intro v H1 F1 w1 s1 r1
        obtain ⟨F2, w2, s2, r2⟩ := frz_ok w1 r1 e1
        exact k v H1 F2 w2 (s1.trans s2) r2⟩
      cases d with
      | list xs =>
        cases e2
        refine .inl (.inl (go fun v H1 F1 w1 s1 r1 => ?_))
        obtain ⟨a, vs, rfl, q, r⟩ := At.list w1.f (.inl r1)
        cases r1 with
        | lst q0 r0 => exact ⟨_, rfl, ⟨vs, SqL.of q⟩, hK ▸ h _ H1 F1 w1 s1 (feed_list (SqL.of q0) r0)⟩
      | tuple xs =>
        cases e2
        refine .inl (.inr (go fun v H1 F1 w1 s1 r1 => ?_))
        cases r1 with
        | tup q0 r0 => rw [hK]; exact ⟨_, rfl, ⟨_, w1.f.sqT q0⟩, h _ H1 F1 w1 s1 (feed_tup q0 r0)⟩
      | str x =>
        cases e2
        refine .inr (go fun v H1 F1 w1 s1 r1 => ?_)
        cases r1
        exact ⟨x, rfl, h _ H1 F1 w1 s1 feed_str⟩
      | _ => cases e2
theorem tA.to {σ : L2.St} {H : Hp} {Q Q' : List V → Hp → Prop} (h : tA G ss σ H Q) (i : ∀ v H', Q v H' → Q' v H') : tA G ss σ H Q' := by
  obtain ⟨ρ, F, O, w, h⟩ := h
  exact ⟨ρ, F, O, w, Fin.to i h⟩
theorem RVs.len {K : PySem.W.Frag} {F : Hp} {σ : L2.St} : ∀ {vs : List V} {xs : List Vl}, RVs K F σ vs xs → vs.length = xs.length
  | [], [], _ => rfl
  | _ :: _, _ :: _, h => congrArg (· + 1) (RVs.len h.2)
theorem map1 {ns : List Int} {a : V} (h : ns.map V.int = [a]) : ∃ i, ns = [i] ∧ a = .int i := by
  match ns, h with
  | [i], h => simp at h; exact ⟨i, rfl, h.symm⟩
theorem di_rng1 (hg : Gl X "range") (hm : X.mg "range" = none) (hl : ∀ ρ xs ρ', ss ρ = .ok xs ρ' → xs.length = 1) (ha : PA X [a] (tA G ss)) (hs : starEach [a] X.env = [(false, eval a X.env)]) : DI X G tg (.Call (.Name "range" p) [a] [] pos) (sRng ss) := by
  refine PI.imp (pi_range1 hg hm ha hs) fun σ H R h => ?_
  obtain ⟨ρ, F, O, w, h⟩ := h
  refine ⟨ρ, F, O, w, ?_⟩
  unfold sRng at h
  cases e0 : ss ρ with
  | err x ρ1 => rw [e0] at h; exact h
  | bad => rw [e0] at h; exact h
  | ok xs ρ1 =>
    rw [e0, Rs.bind_ok] at h
    intro vs H1 F1 w1 s1 rs
    obtain ⟨ds, e1, h2⟩ := ofO_fin Tgt.finI (FinI.mono s1 h)
    obtain ⟨ns, e2, e3⟩ := Option.bind_eq_some_iff.mp e1
    obtain ⟨cs, e4, e5⟩ := Option.bind_eq_some_iff.mp e2
    have ev := (w1.ats rs e4).ints e5
    have l := hl _ _ _ e0
    have ll : vs.length = 1 := (RVs.len rs).trans l
    subst ev
    rw [List.length_map] at ll
    match ns, ll with
    | [j], _ =>
      obtain ⟨q, rfl⟩ := ifs e3
      obtain ⟨q1, q2⟩ := in62_iff.mp q
      exact ⟨j, rfl, q1, q2, h2 _ H1 F1 w1 (Sub.refl _) feed_rng⟩
theorem di_rng2 (hg : Gl X "range") (hm : X.mg "range" = none) (hl : ∀ ρ xs ρ', ss ρ = .ok xs ρ' → xs.length = 2) (ha : PA X [a, b] (tA G ss)) (hs : starEach [a, b] X.env = [(false, eval a X.env), (false, eval b X.env)]) (hs2 : starEach [b] X.env = [(false, eval b X.env)]) : DI X G tg (.Call (.Name "range" p) [a, b] [] pos) (sRng ss) := by
  refine PI.imp (pi_range2 hg hm ha hs hs2) fun σ H R h => ?_
  obtain ⟨ρ, F, O, w, h⟩ := h
  refine ⟨ρ, F, O, w, ?_⟩
  unfold sRng at h
  cases e0 : ss ρ with
  | err x ρ1 => rw [e0] at h; exact h
  | bad => rw [e0] at h; exact h
  | ok xs ρ1 =>
    rw [e0, Rs.bind_ok] at h
    intro vs H1 F1 w1 s1 rs
    obtain ⟨ds, e1, h2⟩ := ofO_fin Tgt.finI (FinI.mono s1 h)
    obtain ⟨ns, e2, e3⟩ := Option.bind_eq_some_iff.mp e1
    obtain ⟨cs, e4, e5⟩ := Option.bind_eq_some_iff.mp e2
    have ev := (w1.ats rs e4).ints e5
    have l := hl _ _ _ e0
    have ll : vs.length = 2 := (RVs.len rs).trans l
    subst ev
    rw [List.length_map] at ll
    match ns, ll with
    | [i, j], _ =>
      obtain ⟨q, rfl⟩ := ifs e3
      rw [Bool.and_eq_true] at q
      obtain ⟨q1, q2⟩ := in62_iff.mp q.1
      obtain ⟨q3, q4⟩ := in62_iff.mp q.2
      exact ⟨i, j, rfl, ⟨q1, q2, q3, q4⟩, h2 _ H1 F1 w1 (Sub.refl _) feed_rng⟩
theorem di_rng3 (hg : Gl X "range") (hm : X.mg "range" = none) (hl : ∀ ρ xs ρ', ss ρ = .ok xs ρ' → xs.length = 3) (ha : PA X [a, b, c] (tA G ss)) (hs : starEach [a, b, c] X.env = (false, eval a X.env) :: starEach [b, c] X.env) (hp : (backTo pos (starEach [b, c] X.env)).any (·.1) = false) : DI X G tg (.Call (.Name "range" p) [a, b, c] [] pos) (sRng ss) := by
  refine PI.imp (pi_range3 hg hm ha hs hp) fun σ H R h => ?_
  obtain ⟨ρ, F, O, w, h⟩ := h
  refine ⟨ρ, F, O, w, ?_⟩
  unfold sRng at h
  cases e0 : ss ρ with
  | err x ρ1 => rw [e0] at h; exact h
  | bad => rw [e0] at h; exact h
  | ok xs ρ1 =>
    rw [e0, Rs.bind_ok] at h
    intro vs H1 F1 w1 s1 rs
    obtain ⟨ds, e1, h2⟩ := ofO_fin Tgt.finI (FinI.mono s1 h)
    obtain ⟨ns, e2, e3⟩ := Option.bind_eq_some_iff.mp e1
    obtain ⟨cs, e4, e5⟩ := Option.bind_eq_some_iff.mp e2
    have ev := (w1.ats rs e4).ints e5
    have l := hl _ _ _ e0
    have ll : vs.length = 3 := (RVs.len rs).trans l
    subst ev
    rw [List.length_map] at ll
    match ns, ll with
    | [i, j, c], _ =>
      obtain ⟨q, rfl⟩ := ifs e3
      simp only [rg3Ok, Bool.and_eq_true, decide_eq_true_eq, bne_iff_ne] at q
      obtain ⟨⟨⟨q1, q2⟩, q3⟩, q4⟩ := q
      exact ⟨i, j, c, _, rfl, ⟨q1, q2, q3, (Int.toNat_of_nonneg q4).symm⟩, h2 _ H1 F1 w1 (Sub.refl _) feed_rngC⟩
end
end L3
/-! L3, part 14: enumerate of a tuple. -/
namespace L3
open PySem PySem.Spec PyProof.Rows L2
open Sem (wp)

set_option maxHeartbeats 1200000 in
theorem meets_enum1 {v : Value} {o : Obj} {H : Heap → Prop} (B : Begins v o H) :
    Meets (Builtin.«enumerate.__new__» ⟨[.type "enumerate", v], []⟩) (fun _ R s => H s.heap ∧
      R (.ok (.ret (.ref (s.heap.push o).objs.size))) { s with heap := (s.heap.push o).push { cls := .type "enumerate", data := .fields #[.none, .bool false, .ref s.heap.objs.size, rawInt 0, .none, .none] } }) :=
  .of_wp fun prog w Ar Rr sh hh => by
    obtain ⟨h00, g, d, tok, osv⟩ := sh; obtain ⟨hB, h⟩ := hh
    have isE := sub_enumerate
    have stp : ∀ {A' : Around} {E : Value → Shared → Prop} {Q : Value → Shared → Prop}, Q (.ref h00.objs.size) ⟨h00.push o, g, d, tok, osv⟩ → wpAny (model prog w) A' (pyIter v) Q E ⟨h00, g, d, tok, osv⟩ :=
      fun q => B.iter prog w _ _ ⟨h00, g, d, tok, osv⟩ _ hB q
    wp_walk using stp
    refine wpAny_stack_any fun tn0 => wpAny_pure ?_
    split
    · rename_i c _ _ _ _ _
      cases (c == (Value.type "enumerate"))
      · wp_walk using stp
        exact ⟨_, rfl, h⟩
      · wp_walk using stp
        exact ⟨_, rfl, h⟩
    · wp_walk using stp
      exact ⟨_, rfl, h⟩
section
variable {prog : Program} {w : World} {A : Around}
  {E : Value → Shared → Prop} {s : Shared}
theorem call_enum1 {v : Value} {o : Obj} {H : Heap → Prop} {Q : Value → Shared → Prop} (B : Begins v o H) (hB : H s.heap)
    (h : ∀ h', IsEnum h' (s.heap.objs.size + 1) s.heap.objs.size 0 .none → h'.get? s.heap.objs.size = some o → h'.objs.size = s.heap.objs.size + 2 →
      (∀ c u, s.heap.get? c = some u → h'.get? c = some u) → Q (.ref (s.heap.objs.size + 1)) { s with heap := h' }) :
    wpAny (model prog w) A (call (.type "enumerate") [v]) Q E s := by
  refine callType_new F.called_enumerate (by decide) (F.typeCall_enumerate_1 _) (F.newCall_enumerate_1 _) (fun ob => F.args_object_init_2 ob _) F.entry_enumerate_new
    (meets_enum1 B) ⟨hB, ?_⟩
  have siz : (s.heap.push o).objs.size = s.heap.objs.size + 1 := Heap.size_push ..
  show _ ∧ _
  rw [siz]
  have isEn : IsEnum ((s.heap.push o).push { cls := .type "enumerate", data := .fields #[.none, .bool false, .ref s.heap.objs.size, rawInt 0, .none, .none] }) (s.heap.objs.size + 1) s.heap.objs.size 0 .none := by
    have := Heap.get?_push_size (s.heap.push o) (o := { cls := .type "enumerate", data := .fields #[.none, .bool false, .ref s.heap.objs.size, rawInt 0, .none, .none] }) rfl
    rw [siz] at this; exact this
  refine ⟨⟨_, isEn, rfl⟩, h _ isEn (Heap.get?_push_of_some _ (Heap.get?_push_size _ B.free)) (by rw [Heap.size_push, siz]) fun b o x => Heap.get?_push_of_some _ (Heap.get?_push_of_some _ x)⟩
end

/-- the tuple at a, each item in a fresh pair -/
def IteT (K : PySem.W.Frag) (a : Addr) : It :=
  ⟨fun i H => ∃ (xs : List V) (x : V), SqT K H a xs ∧ xs[i]? = some x, fun i H v H' => ∃ T x, v = .ref T ∧ H T = none ∧ H' = upd H T (.tup [.int (i : Nat), x]) ∧ ∀ xs, SqT K H a xs → xs[i]? = some x, fun i H => ∃ xs : List V, SqT K H a xs ∧ xs.length = i⟩
theorem turn_enumT {P : Program} {w : World} {K : PySem.W.Frag} {elts : List Expr} {kk : Nat} {tpos : Pos} (a e it : Addr) (nI : a ≠ it) (nE : a ≠ e) :
    Turn P w K (.Tuple elts kk tpos) (IteT K a) [e, it] e (fun i h => (∃ prev, IsEnum h e it ((i : Nat) : Int) prev) ∧ h.IsTupleIter it a i ∧ e ≠ it) where
  mem := by simp
  obj := fun i h tn0 b bIn => by
    obtain ⟨⟨prev, isEn⟩, ⟨o, oAt, clsE, datE⟩, _⟩ := tn0
    have bb : b = e ∨ b = it := by simpa using bIn
    rcases bb with z | z
    · rw [z]; exact ⟨_, isEn, fun v q => nomatch q⟩
    · rw [z]; exact ⟨o, oAt, fun v q => by rw [datE] at q; cases q⟩
  keep := fun i h h' tn0 k => let ⟨⟨prev, isEn⟩, cur0, apart⟩ := tn0; ⟨⟨prev, k e (by simp) _ isEn⟩, cur0.at fun o q => k it (by simp) o q, apart⟩
  item := by
    intro X eP eW eK clsE i ps s σ H E I far tn0 ahead
    subst eP eW eK
    obtain ⟨⟨prev, isEn⟩, cur, apart⟩ := tn0
    obtain ⟨xs, x, seq0, xAt⟩ := ahead
    obtain ⟨items0, vals, p, siz⟩ := I.tuple seq0
    obtain ⟨u, uAt, uRel⟩ := vals.get xAt
    have ltE : e < s.heap.objs.size := Heap.lt_size isEn
    have ltI : it < s.heap.objs.size := by obtain ⟨_, q, _⟩ := cur; exact Heap.lt_size q
    have ltN : i < items0.toArray.size := by
      have := (List.getElem?_eq_some_iff.mp uAt).1
      simpa using this
    refine wpAny_pyNext_enum_itemD (D := Draws.tuple (A := X.A.in1) (prog := X.prog) (w := X.w) (I.ok.hd clsE) it a nI items0.toArray) isEn ⟨cur, p⟩ ltN apart (by simp [apart, nE.symm]) fun u' h' tok hP' oAt hit' newT size1 kept => ?_
    have sameU : u' = u := by
      have : items0.toArray[i]? = some u' := hP'
      rw [show items0.toArray[i]? = some u by simpa using uAt] at this
      exact Eq.symm (Option.some.inj this)
    subst sameU
    refine ⟨_, rfl, wpAny_letOwnedTupleGo_enum (s := { s with heap := h', toks := tok + 1 }) oAt fun h2 isEn2 but => ?_⟩
    have newT2 : h2.get? s.heap.objs.size = some { cls := .type "tuple", data := .seq #[.int i tok, u'] } := (but.2 _ (Nat.ne_of_gt ltE)).trans newT
    have fresh : ObjOk X.prog X.w (upd H s.heap.objs.size (.tup [.int (i : Nat), x])) h2 s.heap.objs.size (.tup [.int (i : Nat), x]) :=
      ⟨by show 2 ≤ sizeLine; decide, [.int i tok, u'], .cons ⟨_, rfl⟩ (.cons uRel .nil), ⟨_, newT2, rfl, _, rfl⟩⟩
    have Inv1 : Inv X ps σ (upd H s.heap.objs.size (.tup [.int (i : Nat), x])) { s with heap := h2, toks := tok + 1 } :=
      I.turnedNew (ch := [e, it]) (fun b ob bIn q => (but.2 b (fun z => bIn (by simp [z]))).trans (kept b ob (fun z => bIn (by simp [z])) (fun z => bIn (by simp [z])) q)) far (Nat.le_refl _) fresh
    refine ⟨.ref s.heap.objs.size, _, Inv1, rfl, ⟨_, x, rfl, I.hok.fresh (Nat.le_refl _), rfl, fun ys hy => by rw [I.tuple_inj hy seq0]; exact xAt⟩, ⟨⟨u', ?_⟩, hit'.1.at fun o q => (but.2 it (Ne.symm apart)).trans q, apart⟩, fun b bIn => ?_⟩
    · have e1 : (((i + 1 : Nat)) : Int) = (i : Int) + 1 := by omega
      rw [e1]; exact isEn2
    · have bLt : b < s.heap.objs.size := by
        have bb : b = e ∨ b = it := by simpa using bIn
        rcases bb with z | z
        · rw [z]; exact ltE
        · rw [z]; exact ltI
      rw [upd_ne (Nat.ne_of_lt bLt)]
      exact (far b bIn).1
  done := by
    intro X eP eW eK clsE i ps s σ H E I far tn0 ahead
    subst eP eW eK
    obtain ⟨⟨prev, isEn⟩, cur, apart⟩ := tn0
    obtain ⟨xs, seq0, xAt⟩ := ahead
    obtain ⟨items0, vals, p, siz⟩ := I.tuple seq0
    obtain ⟨g0, g1, g2, g3, g4, g5⟩ := far it (by simp)
    have lenV := vals.length
    have atEnd : i = items0.toArray.size := by rw [← xAt, lenV]; simp
    exact wpAny_pyNext_enum_endD (D := Draws.tuple (A := X.A.in1) (prog := X.prog) (w := X.w) (I.ok.hd clsE) it a nI items0.toArray) isEn (by rw [← atEnd]; exact ⟨cur, p⟩) fun h' eb => ⟨rfl, I.turned (t' := s.toks) (fun b o bIn q => eb b o bIn q) g0 g1 g3 g4 g5⟩
  self := fun A i s Q E tn0 h => let ⟨⟨_, isEn⟩, _⟩ := tn0; wpAny_pyIter_enum isEn h
theorem feed_enumT {K : PySem.W.Frag} {F : Hp} {a : Addr} {vs : List V} {ds : List D} (h : SqT K F a vs) (r : RpL K F vs ds) : Feed K F (IteT K a) (enumD ds) := by
  intro F' O ρ σ H w s i
  have q : SqT K H a vs := (s.trans w.f).sqT h
  refine ⟨fun d e => ?_, fun cur0 => ⟨vs, q, by rw [r.length, cur0]; simp [enumD]⟩⟩
  obtain ⟨y, e0, rfl⟩ := enumD_get e
  obtain ⟨v, e1, r1⟩ := r.get e0
  refine ⟨⟨vs, v, q, e1⟩, fun x H' y => ?_⟩
  obtain ⟨T, x, rfl, newT, rfl, y⟩ := y
  have := y vs q
  rw [e1] at this; cases this
  exact pair_new w newT (.cons (.int _) (.cons (r1.mono s) .nil))
def iEnumT (K : PySem.W.Frag) (ta : TA) : TI := fun σ H R => ta σ H fun vs H1 => ∃ a xs, vs = [.ref a] ∧ SqT K H1 a xs ∧ R (IteT K a) H1
theorem pi_enumT {X : Cx} {e : Expr} {ta : TA} {p pos tpos : Pos} {elts : List Expr} {kk : Nat} (ahead : Gl X "enumerate") (mod0 : X.mg "enumerate" = none) (arg0 : PA X [e] ta) (st0 : starEach [e] X.env = [(false, eval e X.env)]) :
    PI X (.Tuple elts kk tpos) (.Call (.Name "enumerate" p) [e] [] pos) (iEnumT X.K ta) := by
  refine ⟨fun ps s σ H R I h => ?_⟩
  refine Call_ (ld_blt I ahead mod0 boot_enumerate (PyProof.Rows.callWith_type1 (thn (arg0.run pos ps s σ H _ I h) fun args s1 ⟨vs, H1, Inv1, r1, stp⟩ => ?_) st0 rfl))
  obtain ⟨a, xs, one, seq0, q⟩ := stp
  subst one
  cases r1 with
  | cons r more =>
    cases more
    cases r
    obtain ⟨items0, vals, isT, siz⟩ := Inv1.tuple seq0
    have isT0 : s1.heap.IsTuple a items0.toArray := isT
    have ltA : a < s1.heap.objs.size := by obtain ⟨o, e, _⟩ := isT0; exact Heap.lt_size e
    refine call_enum1 (begins_tuple a items0.toArray) isT0 fun h' isEn cur size1 kept => wpAny_pyIter_enum isEn ?_
    have Inv2 : Inv X ps σ H1 { s1 with heap := h' } := Inv1.kept (t' := s1.toks) kept
    refine ⟨s1.heap.objs.size + 1, [s1.heap.objs.size + 1, s1.heap.objs.size], _, _, H1, rfl, Inv2, turn_enumT a (s1.heap.objs.size + 1) s1.heap.objs.size (Nat.ne_of_lt ltA) (Nat.ne_of_lt (Nat.lt_succ_of_lt ltA)), ⟨⟨.none, isEn⟩, ⟨_, cur, rfl, rfl⟩, Nat.succ_ne_self _⟩, fun b bIn => ?_, q⟩
    have bb : b = s1.heap.objs.size + 1 ∨ b = s1.heap.objs.size := by simpa using bIn
    have geB : s1.heap.objs.size ≤ b := by
      rcases bb with z | z
      · rw [z]; exact Nat.le_succ _
      · rw [z]; exact Nat.le_refl _
    exact Inv1.fpOk geB (Inv1.hok.fresh geB)

/-! ### enumerate, zip, reversed as sources -/
def one1 (f : List D → List D) (a : Rho → Rs (List Vl)) : Rho → Rs (List D) := fun ρ => (a ρ).bind fun xs ρ => (frzs xs ρ).bind fun ds ρ =>
  match ds with
  | [d] => ofO ((itemsD d).map f) ρ
  | _ => .bad
def sZip (a : Rho → Rs (List Vl)) : Rho → Rs (List D) := fun ρ => (a ρ).bind fun xs ρ => (frzs xs ρ).bind fun ds ρ =>
  match ds with
  | [.list x, .list y] => .ok (zipD x y) ρ
  | [.tuple x, .tuple y] => .ok (zipD x y) ρ
  | _ => .bad
section
variable {X : Cx} {G : Gx} {tg a b : Expr} {es : List Expr} {ss : Rho → Rs (List Vl)} {pos p tpos : Pos} {elts : List Expr} {kk : Nat}
/-- the arguments' pure result decides -/
theorem di_args {wi : TI} {s : Rho → Rs (List D)} {f : List D → Rho → Rs (List D)} (hs : ∀ ρ, s ρ = (ss ρ).bind fun xs ρ => (frzs xs ρ).bind fun ds ρ => f ds ρ) {σ : L2.St} {H : Hp} {R : It → Hp → Prop} (h : tI G s σ H R)
    (k : ∀ ds, (∀ Q : List V → Hp → Prop, (∀ vs H1 F1 O ρ1, Wd G.K F1 O ρ1 σ H1 → RpL G.K F1 vs ds → FinI G F1 O σ R (f ds ρ1) → Q vs H1) → tA G ss σ H Q) → (∃ F O ρ, FinI G F O σ R (f ds ρ)) → wi σ H R)
    (kb : (∀ Q : List V → Hp → Prop, tA G ss σ H Q) → wi σ H R) : wi σ H R := by
  obtain ⟨ρ, F, O, w, h⟩ := h
  rw [hs] at h
  cases e0 : ss ρ with
  | err x ρ1 => rw [e0] at h; exact kb fun Q => ⟨ρ, F, O, w, by rw [e0]; exact h⟩
  | bad => rw [e0] at h; exact h.elim
  | ok xs ρ1 =>
    rw [e0, Rs.bind_ok] at h
    cases e1 : frzs xs ρ1 with
    | err x ρ1 => exact absurd e1 frzs_noerr
    | bad => rw [e1] at h; exact h.elim
    | ok ds ρ2 =>
      rw [e1, Rs.bind_ok] at h
      refine k ds (fun Q q => ⟨ρ, F, O, w, ?_⟩) ⟨F, O, ρ2, h⟩
      rw [e0]
      intro vs H1 F1 w1 s1 r1
      obtain ⟨F2, w2, s2, r2⟩ := frzs_ok w1 r1 e1
      exact q vs H1 F2 O ρ2 w2 r2 (FinI.mono (s1.trans s2) h)
theorem di_enum (hK : X.K = G.K) (hg : Gl X "enumerate") (hm : X.mg "enumerate" = none) (ha : PA X [a] (tA G ss)) (hs : starEach [a] X.env = [(false, eval a X.env)]) : DI X G (.Tuple elts kk tpos) (.Call (.Name "enumerate" p) [a] [] pos) (one1 enumD ss) := by
  refine PI.imp (PI.or (pi_enum hg hm ha hs) (pi_enumT hg hm ha hs)) fun σ H R h => ?_
  refine di_args (wi := fun σ H R => iEnum X.K (tA G ss) σ H R ∨ iEnumT X.K (tA G ss) σ H R) (fun _ => rfl) h (fun ds q hf => ?_) fun q => .inl (q _)
  obtain ⟨F, O, ρ, hf⟩ := hf
  rw [hK]
  match ds, hf, q with
  | [.list xs], hf, q =>
    refine .inl (q _ fun vs H1 F1 O ρ1 w1 r1 h1 => ?_)
    cases r1 with
    | cons r1 rr =>
      cases rr
      cases r1 with
      | lst q0 r0 => exact ⟨_, _, rfl, SqL.of (w1.f _ _ q0), h1 _ H1 F1 w1 (Sub.refl _) (feed_enum (SqL.of q0) r0)⟩
  | [.tuple xs], hf, q =>
    refine .inr (q _ fun vs H1 F1 O ρ1 w1 r1 h1 => ?_)
    cases r1 with
    | cons r1 rr =>
      cases rr
      cases r1 with
      | tup q0 r0 => exact ⟨_, _, rfl, w1.f.sqT q0, h1 _ H1 F1 w1 (Sub.refl _) (feed_enumT q0 r0)⟩
  | [], hf, _ => exact hf.elim
  | _ :: _ :: _, hf, _ => exact hf.elim
  | [.none], hf, _ => exact hf.elim
  | [.bool _], hf, _ => exact hf.elim
  | [.int _], hf, _ => exact hf.elim
  | [.str _], hf, _ => exact hf.elim
  | [.dict _], hf, _ => exact hf.elim
theorem di_zip (hK : X.K = G.K) (hg : Gl X "zip") (hm : X.mg "zip" = none) (ha : PA X [a, b] (tA G ss)) (hs : starEach [a, b] X.env = (false, eval a X.env) :: starEach [b] X.env) (hp : (backTo pos (starEach [b] X.env)).any (·.1) = false) : DI X G (.Tuple elts kk tpos) (.Call (.Name "zip" p) [a, b] [] pos) (sZip ss) := by
  refine PI.imp (RZ.pi_zipA hg hm ha hs hp) fun σ H R h => ?_
  refine di_args (wi := RZ.iZipA X.K (tA G ss)) (fun _ => rfl) h (fun ds q hf => q _ fun vs H1 F1 O ρ1 w1 r1 h1 => ?_) fun q => q _
  rw [hK]
  match ds, h1, r1 with
  | [.list xs, .list ys], h1, .cons (.lst q0 r0) (.cons (.lst q0' r0') .nil) =>
    exact ⟨_, _, _, _, rfl, .inl ⟨SqL.of (w1.f _ _ q0), SqL.of (w1.f _ _ q0'), h1 _ H1 F1 w1 (Sub.refl _) (feed_zip (SqL.of q0) r0 (SqL.of q0') r0')⟩⟩
  | [.tuple xs, .tuple ys], h1, .cons (.tup q0 r0) (.cons (.tup q0' r0') .nil) =>
    exact ⟨_, _, _, _, rfl, .inr ⟨w1.f.sqT q0, w1.f.sqT q0', h1 _ H1 F1 w1 (Sub.refl _) (feed_zipT q0 r0 q0' r0')⟩⟩
end
end L3
/-! L3, part 15: for. -/
namespace L3
open PySem PySem.Spec PyProof.Rows L2

def sLoop (tg : D → Rho → Rs Fl) (b : Rho → Rs Fl) : List D → Rho → Rs Fl
  | [], ρ => .ok .nx ρ
  | d :: ds, ρ => thenG (tg d ρ) fun ρ => (b ρ).bind fun f ρ => match f with
    | .nx => sLoop tg b ds ρ
    | .ct => sLoop tg b ds ρ
    | .bk => .ok .nx ρ
    | .rt d => .ok (.rt d) ρ
def sFor (it : Rho → Rs (List D)) (tg : D → Rho → Rs Fl) (b : Rho → Rs Fl) : Rho → Rs Fl := fun ρ => (it ρ).bind fun ds ρ => sLoop tg b ds ρ
theorem Tgt.then {G : Gx} {O : Fm} {σ : L2.St} {α : Type} {N : Ends} {F : Hp} {r : Rs Fl} {k : Rho → Rs Fl} (h : FinS G F O N (thenG r k)) : ∃ ρ, r = .ok .nx ρ ∧ FinS G F O N (k ρ) := by
  unfold thenG at h
  split at h
  · exact ⟨_, rfl, h⟩
  · exact h.elim
section
variable {X : Cx} {G : Gx} {tg it : Expr} {body : List Stmt} {js : List Nat} {si : Rho → Rs (List D)} {st : D → Rho → Rs Fl} {sb : Rho → Rs Fl} {pos : Pos}
theorem tI_bind {G : Gx} {σ : L2.St} {H F : Hp} {O : Fm} {ρ : Rho} {R : It → Hp → Prop} {α : Type} {P : Hp → Rs α → Prop} (T : Tgt G O σ P) {s : Rho → Rs (List D)} {f : List D → Rho → Rs α} (w : Wd G.K F O ρ σ H) (h : P F ((s ρ).bind f))
    (hQ : ∀ ds ρ1 J H1 F1, Wd G.K F1 O ρ1 σ H1 → Sub F F1 → Feed G.K F1 J ds → P F1 (f ds ρ1) → R J H1) : tI G s σ H R := by
  refine ⟨ρ, F, O, w, ?_⟩
  cases e : s ρ with
  | ok a ρ1 =>
    rw [e] at h
    exact fun J H1 F1 w1 s1 r1 => hQ a ρ1 J H1 F1 w1 s1 r1 (T.mono s1 h)
  | err x ρ1 => rw [e] at h; exact T.err h
  | bad => rw [e] at h; exact (T.bad h).elim
theorem drop_at {α : Type} {ds : List α} {i : Nat} {d : α} (e : ds[i]? = some d) : ds.drop i = d :: ds.drop (i + 1) := by
  obtain ⟨h1, h2⟩ := List.getElem?_eq_some_iff.mp e
  rw [List.drop_eq_getElem_cons h1, h2]
theorem ds_for (hp : PassesOwn (model X.prog X.w) X.A X.env X.xe) (hc : X.calm = true) (hi : DI X G tg it si) (hg : DG X G tg js st) (hb : PSs X body (tS G sb)) (hs : ∀ x, foldedSetIterable it X.env x = pure x) : PS X (.For tg it body [] pos) (tS G (sFor si st sb)) := by
  refine PS.imp (ps_for hp hc hi hg hb hs) fun N σ H h => ?_
  obtain ⟨ρ, F, O, w, h⟩ := h
  refine tI_bind Tgt.finS w h fun ds ρ1 J H1 F1 w1 s1 feed h1 => ?_
  refine ⟨fun i m σ H => m = ds.length - i ∧ i ≤ ds.length ∧ ∃ ρ F, Wd G.K F O ρ σ H ∧ Sub F1 F ∧ FinS G F O N (sLoop st sb (ds.drop i) ρ), ⟨ds.length, by simp, Nat.zero_le _, ρ1, F1, w1, Sub.refl _, h1⟩, ?_⟩
  rintro i m σ2 H2 ⟨rfl, hi, ρ2, F2, w2, s2, h2⟩
  obtain ⟨go, stop⟩ := feed w2 s2 i
  by_cases hlt : i < ds.length
  · have e : ds[i]? = some ds[i] := by simp
    obtain ⟨g1, g2⟩ := go _ e
    rw [drop_at e] at h2
    obtain ⟨ρ3, e3, h3⟩ := Tgt.then (G := G) (σ := σ2) (α := Unit) h2
    refine .inr ⟨g1, fun σ' H' => ∃ ρ F, Wd G.K F O ρ σ' H' ∧ Sub F1 F ∧ FinS G F O N (sLoop st sb (ds.drop (i + 1)) ρ), fun σ' H' q => ⟨_, by omega, rfl, hlt, q⟩, fun x H' y => ?_⟩
    obtain ⟨F', w', s', r', _⟩ := g2 x H' y
    refine ⟨ρ2, F', O, _, ρ3, w', r', e3, fun σ' w3 _ => ⟨ρ3, F', O, w3, ?_⟩⟩
    have h3 := FinS.mono s' h3
    cases eb : sb ρ3 with
    | ok f ρ4 =>
      rw [eb, Rs.bind_ok] at h3
      cases f with
      | nx => exact fun σ4 H4 F4 w4 s4 => ⟨ρ4, F4, w4, (s2.trans s').trans s4, FinS.mono s4 h3⟩
      | ct => exact fun σ4 H4 F4 w4 s4 => ⟨ρ4, F4, w4, (s2.trans s').trans s4, FinS.mono s4 h3⟩
      | bk => exact h3
      | rt d => exact h3
    | err x ρ4 => rw [eb] at h3; exact h3
    | bad => rw [eb] at h3; exact h3
  · have e : i = ds.length := by omega
    subst e
    rw [List.drop_length] at h2
    exact .inl ⟨stop rfl, h2 σ2 H2 F2 w2 (Sub.refl _)⟩
end

/-! ### list comprehensions -/
/-- inside a comprehension nothing may be raised -/
def Gx.q (G : Gx) : Gx := { G with W := fun _ _ _ _ => False }
def wipeR (ρ : Rho) : List Nat → Rho
  | [] => ρ
  | i :: r => (wipeR ρ r).set i .no
def isNo (c : Option Cell) : Bool :=
  match c with
  | some .no => true
  | none => true
  | _ => false
def isVal (c : Option Cell) : Bool :=
  match c with
  | some .no => true
  | some (.val _) => true
  | none => true
  | _ => false
/-- the comprehension's own slots are empty -/
def allNo (ρ : Rho) (vs : List Nat) : Bool := vs.all fun i => isNo ρ[i]?
def allVal (ρ : Rho) (vs : List Nat) : Bool := vs.all fun i => isVal ρ[i]?
def okB {α β : Type} (r : Rs α) (k : α → Rho → Rs β) : Rs β :=
  match r with
  | .ok a ρ => k a ρ
  | _ => .bad
/-- one clause; acc is what was gathered -/
def sGather (tg : D → Rho → Rs Fl) (tt : Rho → Rs Bool) (te : Rho → Rs Vl) (vs : List Nat) : List D → List D → Rho → Rs (List D)
  | [], acc, ρ => .ok acc ρ
  | d :: ds, acc, ρ => thenG' (tg d ρ) fun ρ => okB (tt ρ) fun k ρ => if k then okB (te ρ) fun x ρ => okB (frz x ρ) fun y ρ => if allVal ρ vs && decide (acc.length < sizeLine) then sGather tg tt te vs ds (acc ++ [y]) (wipeR ρ vs) else .bad
      else if allVal ρ vs then sGather tg tt te vs ds acc (wipeR ρ vs) else .bad
where
  thenG' (r : Rs Fl) (k : Rho → Rs (List D)) : Rs (List D) :=
    match r with
    | .ok .nx ρ => k ρ
    | _ => .bad
def sLc (it : Rho → Rs (List D)) (tg : D → Rho → Rs Fl) (tt : Rho → Rs Bool) (te : Rho → Rs Vl) (vs : List Nat) : Rho → Rs Vf := fun ρ =>
  (it ρ).bind fun ds ρ => if allNo ρ vs then okB (sGather tg tt te vs ds [] ρ) fun ys ρ => .ok (.fr (.list ys)) ρ else .bad
def sYes : Rho → Rs Bool := fun ρ => .ok true ρ

section
variable {K : PySem.W.Frag} {F : Hp} {O : Fm} {ρ : Rho} {σ σ' : L2.St} {H : Hp} {vs : List Nat}
/-- another store that agrees where something is held -/
theorem Wd.sig (w : Wd K F O ρ σ H) (hl : σ'.length = σ.length) (h : ∀ (i : Nat) (c : Cell), ρ[i]? = some c → c ≠ .no → σ'[i]? = σ[i]?) : Wd K F O ρ σ' H := by
  have hd : ∀ (i : Nat) (c : Cell) (d : D), ρ[i]? = some c → c.held = some d → σ'[i]? = σ[i]? := fun i c d e q => h i c e fun z => by subst z; cases q
  refine ⟨w.len.trans hl.symm, w.f, w.o, w.fo, fun i d e => ?_, fun i c d e q => ?_, fun i c a e q z => ?_, fun i a p d e => ?_, w.lk, fun i j c c' d d' a ne e1 e2 q1 q2 z1 z2 => ?_⟩
  · rw [h i _ e (fun z => nomatch z)]; exact w.val i d e
  · rw [hd i c d e q]; exact w.own i c d e q
  · rw [h i c e (fun y => by subst y; cases q)] at z; exact w.pr i c a e q z
  · obtain ⟨q1, q2⟩ := w.wl i a p d e
    exact ⟨q1, by rw [h i _ q1 (fun z => nomatch z)]; exact q2⟩
  · rw [hd i c d e1 q1] at z1
    rw [hd j c' d' e2 q2] at z2
    exact w.ap i j c c' d d' a ne e1 e2 q1 q2 z1 z2
theorem allNo_at (h : allNo ρ vs = true) {i : Nat} (hi : i ∈ vs) {c : Cell} (e : ρ[i]? = some c) : c = .no := by
  have := List.all_eq_true.mp h i hi
  rw [e] at this
  cases c <;> first | rfl | cases this
theorem allVal_at (h : allVal ρ vs = true) {i : Nat} (hi : i ∈ vs) {c : Cell} (e : ρ[i]? = some c) : c.held = none := by
  have := List.all_eq_true.mp h i hi
  rw [e] at this
  cases c <;> first | rfl | cases this
theorem Wd.wiped (w : Wd K F O ρ σ H) (h : allNo ρ vs = true) : Wd K F O ρ (wipe σ vs) H :=
  w.sig (wipe_length σ vs) fun i c e ne => wipe_out fun hi => ne (allNo_at h hi e)
theorem Wd.unwiped (w : Wd K F O ρ (wipe σ vs) H) (h : allNo ρ vs = true) : Wd K F O ρ σ H :=
  w.sig (wipe_length σ vs).symm fun i c e ne => (wipe_out fun hi => ne (allNo_at h hi e)).symm
theorem wipeR_len : ∀ (vs : List Nat), (wipeR ρ vs).length = ρ.length
  | [] => rfl
  | i :: r => by unfold wipeR; rw [List.length_set, wipeR_len r]
theorem wipeR_get : ∀ {vs : List Nat} {i : Nat} {c : Cell}, (wipeR ρ vs)[i]? = some c → c = .no ∨ (i ∉ vs ∧ ρ[i]? = some c)
  | [], i, c, e => .inr ⟨by simp, e⟩
  | j :: r, i, c, e => by
    unfold wipeR at e
    rcases get_set e with ⟨rfl, z⟩ | ⟨ne, e⟩
    · exact .inl z
    · rcases wipeR_get e with z | ⟨z, q⟩
      · exact .inl z
      · exact .inr ⟨fun hm => by rcases List.mem_cons.mp hm with e | e; exact ne e; exact z e, q⟩
theorem wipeR_out : ∀ {vs : List Nat} {i : Nat}, i ∉ vs → (wipeR ρ vs)[i]? = ρ[i]?
  | [], i, h => rfl
  | j :: r, i, h => by
    unfold wipeR
    rw [List.getElem?_set_ne (fun z => h (by simp [z]))]
    exact wipeR_out fun z => h (List.mem_cons_of_mem _ z)
theorem wipeR_in : ∀ {vs : List Nat} {i : Nat}, i ∈ vs → isNo (wipeR ρ vs)[i]? = true
  | j :: r, i, h => by
    unfold wipeR
    by_cases e : j = i
    · subst e
      by_cases hl : j < (wipeR ρ r).length
      · rw [List.getElem?_set_self hl]; rfl
      · rw [List.getElem?_eq_none (by simpa using hl)]; rfl
    · rw [List.getElem?_set_ne e]
      rcases List.mem_cons.mp h with z | z
      · exact absurd z.symm e
      · exact wipeR_in z
theorem wipeR_no : allNo (wipeR ρ vs) vs = true := List.all_eq_true.mpr fun _ hi => wipeR_in hi
/-- empty cells in place of values -/
theorem Wd.empty (w : Wd K F O ρ σ H) (h : allVal ρ vs = true) : Wd K F O (wipeR ρ vs) σ H := by
  have back : ∀ (i : Nat) (c : Cell), (wipeR ρ vs)[i]? = some c → c ≠ .no → ρ[i]? = some c := fun i c e ne => by
    rcases wipeR_get e with z | ⟨_, z⟩
    · exact absurd z ne
    · exact z
  have hd : ∀ (i : Nat) (c : Cell) (d : D), (wipeR ρ vs)[i]? = some c → c.held = some d → ρ[i]? = some c := fun i c d e q => back i c e fun z => by subst z; cases q
  refine ⟨(wipeR_len vs).trans w.len, w.f, w.o, w.fo, fun i d e => w.val i d (back i _ e fun z => nomatch z), fun i c d e q => w.own i c d (hd i c d e q) q, fun i c a e q z => w.pr i c a (back i c e fun y => by subst y; cases q) q z, fun i a p d e => ?_, fun i p d e => w.lk i p d (back i _ e fun z => nomatch z), fun i j c c' d d' a ne e1 e2 q1 q2 z1 z2 => w.ap i j c c' d d' a ne (hd i c d e1 q1) (hd j c' d' e2 q2) q1 q2 z1 z2⟩
  obtain ⟨q1, q2⟩ := w.wl i a p d e
  refine ⟨?_, q2⟩
  have : i ∉ vs := fun hi => by have := allVal_at h hi q1; cases this
  rw [wipeR_out this]; exact q1
/-- a list being gathered, kept with what others own -/
def Fm.add (O : Fm) (a : Addr) (u : HO) : Fm := { O with o := upd O.o a u }
theorem Wd.addO (w : Wd K F O ρ σ H) {a : Addr} {u : HO} (hn : H a = none) : Wd K F (O.add a u) ρ σ (upd H a u) := by
  have w' := w.lose (o := u) hn
  have fa : F a = none := w.f.none hn
  refine ⟨w'.len, w'.f, fun b x e => ?_, fun b x e => ?_, w'.val, fun i c d e q => ?_, w'.pr, w'.wl, w'.lk, w'.ap⟩
  · by_cases z : b = a
    · subst z
      rw [show (O.add b u).o b = some u from upd_same] at e; cases e
      exact upd_same
    · rw [show (O.add a u).o b = O.o b from upd_ne z] at e
      exact w'.o b x e
  · by_cases z : b = a
    · subst z; exact fa
    · rw [show (O.add a u).o b = O.o b from upd_ne z] at e
      exact w.fo b x e
  · obtain ⟨b, q1, q2, q3, q4⟩ := w.own i c d e q
    obtain ⟨ob, hb⟩ := q4.some
    have ne : b ≠ a := ne_of_none hb hn
    exact ⟨b, q1, q2, by rw [show (O.add a u).o b = O.o b from upd_ne ne]; exact q3, q4.mono (Sub.refl _) (upd_ne ne)⟩
theorem Wd.modO (w : Wd K F (O.add a u) ρ σ H) {u' : HO} : Wd K F (O.add a u') ρ σ (upd H a u') := by
  have ha : (O.add a u).o a = some u := upd_same
  have fa : F a = none := w.fo a u ha
  refine ⟨w.len, fun b x e => ?_, fun b x e => ?_, fun b x e => ?_, w.val, fun i c d e q => ?_, w.pr, w.wl, w.lk, w.ap⟩
  · have ne : b ≠ a := fun z => by subst z; rw [fa] at e; cases e
    rw [upd_ne ne]; exact w.f b x e
  · by_cases z : b = a
    · subst z
      rw [show (O.add b u').o b = some u' from upd_same] at e; cases e
      exact upd_same
    · rw [show (O.add a u').o b = O.o b from upd_ne z] at e
      rw [upd_ne z]
      exact w.o b x (by rw [show (O.add a u).o b = O.o b from upd_ne z]; exact e)
  · by_cases z : b = a
    · subst z; exact fa
    · rw [show (O.add a u').o b = O.o b from upd_ne z] at e
      exact w.fo b x (by rw [show (O.add a u).o b = O.o b from upd_ne z]; exact e)
  · obtain ⟨b, q1, q2, q3, q4⟩ := w.own i c d e q
    have ne : b ≠ a := fun z => by subst z; rw [ha] at q3; cases q3
    rw [show (O.add a u).o b = O.o b from upd_ne ne] at q3
    exact ⟨b, q1, q2, by rw [show (O.add a u').o b = O.o b from upd_ne ne]; exact q3, q4.mono (Sub.refl _) (upd_ne ne)⟩
theorem Wd.unO (w : Wd K F (O.add a u) ρ σ H) (hn : O.o a = none) : Wd K F O ρ σ H := by
  have up : ∀ {b x}, O.o b = some x → (O.add a u).o b = some x := fun {b x} e => by
    have ne : b ≠ a := ne_of_none e hn
    rw [show (O.add a u).o b = O.o b from upd_ne ne]; exact e
  refine ⟨w.len, w.f, fun b x e => w.o b x (up e), fun b x e => w.fo b x (up e), w.val, fun i c d e q => ?_, w.pr, w.wl, w.lk, w.ap⟩
  obtain ⟨b, q1, q2, q3, q4⟩ := w.own i c d e q
  refine ⟨b, q1, q2, ?_, q4⟩
  cases z : O.o b with
  | none => rfl
  | some x => rw [up z] at q3; cases q3
/-- what was gathered is fresh -/
theorem Wd.gathered {avs : List V} {acc : List D} (w : Wd K F (O.add a (.lst avs)) ρ σ H) (hn : O.o a = none) (r : RpL K F avs acc) : FreshAt K F O ρ σ H a (.list acc) := by
  have ha : (O.add a (.lst avs)).o a = some (.lst avs) := upd_same
  refine ⟨w.fo a _ ha, hn, ⟨avs, w.o a _ ha, r⟩, fun i c e q z h => ?_⟩
  obtain ⟨b, q1, q2, q3, q4⟩ := w.own i c e q z
  rw [h] at q1; cases q1
  rw [ha] at q3; cases q3
end
theorem wipe_only {σ σ' : L2.St} {js vs : List Nat} (o : OnlyAt js (wipe σ vs) σ') (h : ∀ j ∈ js, j ∈ vs) : wipe σ' vs = wipe σ vs := by
  have idem : ∀ (τ : L2.St) (vs : List Nat) (i : Nat), i ∈ vs → i < τ.length → (wipe τ vs)[i]? = some none := fun τ vs i hi hl => by
    induction vs with
    | nil => simp at hi
    | cons v vs ih =>
      unfold wipe
      by_cases e : v = i
      · subst e; rw [List.getElem?_set_self (by rw [wipe_length]; exact hl)]
      · rw [List.getElem?_set_ne e]
        exact ih (by rcases List.mem_cons.mp hi with z | z; exact absurd z.symm e; exact z)
  have hl : σ'.length = σ.length := o.1.trans (wipe_length σ vs)
  refine List.ext_getElem? fun i => ?_
  by_cases hi : i ∈ vs
  · by_cases hlt : i < σ.length
    · rw [idem σ' vs i hi (hl ▸ hlt), idem σ vs i hi hlt]
    · rw [List.getElem?_eq_none (by rw [wipe_length, hl]; omega), List.getElem?_eq_none (by rw [wipe_length]; omega)]
  · rw [wipe_out hi]
    exact o.2 i fun z => hi (h i z)
theorem okB_fin {G : Gx} {α β : Type} {P : Hp → Rs β → Prop} {O : Fm} {σ : L2.St} (T : Tgt G O σ P) {F : Hp} {r : Rs α} {k : α → Rho → Rs β} (h : P F (okB r k)) : ∃ a ρ, r = .ok a ρ ∧ P F (k a ρ) := by
  cases r with
  | ok a ρ => exact ⟨a, ρ, rfl, h⟩
  | err x ρ => exact (T.bad h).elim
  | bad => exact (T.bad h).elim
section
variable {X : Cx} {G : Gx} {tg iter elt : Expr} {ifs : List Expr} {js : List Nat} {si : Rho → Rs (List D)} {st : D → Rho → Rs Fl} {tt : Rho → Rs Bool} {te : Rho → Rs Vl} {vs : List Nat}
def endLc (r : Rs (List D)) : Rs Vf := okB r fun ys ρ => .ok (.fr (.list ys)) ρ
theorem lc_t (hj : ∀ j ∈ js, j ∈ vs) {σ : L2.St} {H : Hp} {Q : VK} (h : tF G (sLc si st tt te vs) σ H Q) : tLc (tI G si) (gT G.q js st) (tT G.q tt) (tE G.q te) vs σ H Q := by
  obtain ⟨ρ, F, O, w, h⟩ := h
  refine tI_bind Tgt.finF w h fun ds ρ1 J H1 F1 w1 s1 feed h1 Dl hD => ?_
  have oD : O.o Dl = none := w1.o.none hD
  split at h1
  · rename_i an
    refine ⟨fun i m H => m = ds.length - i ∧ i ≤ ds.length ∧ ∃ ρ F acc avs, Wd G.K F (O.add Dl (.lst avs)) ρ (wipe σ vs) H ∧ Sub F1 F ∧ RpL G.K F avs acc ∧ allNo ρ vs = true ∧ FinF G F O σ Q (endLc (sGather st tt te vs (ds.drop i) acc ρ)),
      ⟨ds.length, by simp, Nat.zero_le _, ρ1, F1, [], [], (w1.wiped an).addO hD, Sub.refl _, .nil, an, h1⟩, ?_⟩
    rintro i m H2 ⟨rfl, hi, ρ2, F2, acc, avs, w2, s2, r2, an2, h2⟩
    obtain ⟨go, stop⟩ := feed w2 s2 i
    by_cases hlt : i < ds.length
    · have e : ds[i]? = some ds[i] := by simp
      obtain ⟨g1, g2⟩ := go _ e
      rw [drop_at e] at h2
      -- the pure turn
      unfold endLc sGather at h2
      cases e3 : st ds[i] ρ2 with
      | err x ρ => rw [e3] at h2; exact h2.elim
      | bad => rw [e3] at h2; exact h2.elim
      | ok f ρ3 =>
        rw [e3] at h2
        cases f with
        | nx =>
          refine .inr ⟨g1, fun H' => ∃ ρ F acc avs, Wd G.K F (O.add Dl (.lst avs)) ρ (wipe σ vs) H' ∧ Sub F1 F ∧ RpL G.K F avs acc ∧ allNo ρ vs = true ∧ FinF G F O σ Q (endLc (sGather st tt te vs (ds.drop (i + 1)) acc ρ)), fun H' q => ⟨_, by omega, rfl, hlt, q⟩, fun x H' y => ?_⟩
          obtain ⟨F', w', s', r', _⟩ := g2 x H' y
          refine ⟨ρ2, F', _, _, ρ3, w', r', e3, fun σ' w3 o3 => ⟨wipe_only o3 hj, ρ3, F', _, w3, ?_⟩⟩
          have h3 := Tgt.finF.mono s' h2
          have h3 : FinF G F' O σ Q (okB (okB (tt ρ3) _) _) := h3
          have wsig : wipe σ' vs = wipe σ vs := wipe_only o3 hj
          cases et : tt ρ3 with
          | err x ρ => rw [et] at h3; exact h3.elim
          | bad => rw [et] at h3; exact h3.elim
          | ok k ρ4 =>
            rw [et] at h3
            intro b H4 F4 w4 s4 eb
            have eb : b = k := eb
            subst eb
            have h4 := Tgt.finF.mono s4 h3
            cases b with
            | false =>
              rw [if_neg (by decide)]
              have h4 : FinF G F4 O σ Q (endLc (if allVal ρ4 vs then sGather st tt te vs (ds.drop (i + 1)) acc (wipeR ρ4 vs) else .bad)) := h4
              split at h4
              · rename_i av
                have := (w4.empty av).wiped wipeR_no
                rw [wsig] at this
                exact ⟨_, F4, acc, avs, this, (s2.trans s').trans s4, (r2.mono s').mono s4, wipeR_no, h4⟩
              · exact h4.elim
            | true =>
              rw [if_pos rfl]
              have h4 : FinF G F4 O σ Q (endLc (okB (te ρ4) fun x ρ => okB (frz x ρ) fun y ρ => if allVal ρ vs && decide (acc.length < sizeLine) then sGather st tt te vs (ds.drop (i + 1)) (acc ++ [y]) (wipeR ρ vs) else .bad)) := h4
              refine ⟨ρ4, F4, _, w4, ?_⟩
              cases ee : te ρ4 with
              | err x ρ => rw [ee] at h4; exact h4.elim
              | bad => rw [ee] at h4; exact h4.elim
              | ok x ρ5 =>
                rw [ee] at h4
                intro v H5 F5 w5 s5 r5
                cases ef : frz x ρ5 with
                | err y ρ => exact absurd ef frz_noerr
                | bad =>
                  have h4 : FinF G F4 O σ Q (endLc (okB (frz x ρ5) fun y ρ => if allVal ρ vs && decide (acc.length < sizeLine) then sGather st tt te vs (ds.drop (i + 1)) (acc ++ [y]) (wipeR ρ vs) else .bad)) := h4
                  rw [ef] at h4; exact h4.elim
                | ok y ρ6 =>
                  have h4 : FinF G F4 O σ Q (endLc (okB (frz x ρ5) fun y ρ => if allVal ρ vs && decide (acc.length < sizeLine) then sGather st tt te vs (ds.drop (i + 1)) (acc ++ [y]) (wipeR ρ vs) else .bad)) := h4
                  rw [ef] at h4
                  obtain ⟨F6, w6, s6, r6⟩ := frz_ok w5 r5 ef
                  have h6 : FinF G F6 O σ Q (endLc (if allVal ρ6 vs && decide (acc.length < sizeLine) then sGather st tt te vs (ds.drop (i + 1)) (acc ++ [y]) (wipeR ρ6 vs) else .bad)) := Tgt.finF.mono (s5.trans s6) h4
                  split at h6
                  · rename_i av
                    rw [Bool.and_eq_true, decide_eq_true_eq] at av
                    have ss : Sub F2 F6 := ((s'.trans s4).trans s5).trans s6
                    refine ⟨avs, w6.o Dl _ upd_same, by rw [r2.length]; exact av.2, _, F6, acc ++ [y], avs ++ [v], ?_, s2.trans ss, (r2.mono ss).app (.cons r6 .nil), wipeR_no, h6⟩
                    have := ((w6.modO (u' := .lst (avs ++ [v]))).empty av.1).wiped wipeR_no
                    rwa [wsig] at this
                  · exact h6.elim
        | _ => exact h2.elim
    · have e : i = ds.length := by omega
      subst e
      rw [List.drop_length] at h2
      refine .inl ⟨stop rfl, h2 Dl H2 F2 ((w2.unO oD).unwiped an2) (Sub.refl _) ?_⟩
      have g := w2.gathered oD r2
      refine ⟨g.f, g.o, g.at_, fun i c e q z h => ?_⟩
      have hi : i ∉ vs := fun hi => by have := allNo_at an2 hi q; subst this; cases z
      exact g.ap i c e q z (by rw [wipe_out hi]; exact h)
  · exact h1.elim
end
end L3
/-! L3, part 16: comprehensions as values and at an assignment, own lists changed, assignments. -/
namespace L3
open PySem PySem.Spec PyProof.Rows L2

section
variable {X : Cx} {G : Gx} {tg iter elt : Expr} {ifs : List Expr} {js : List Nat} {si : Rho → Rs (List D)} {st : D → Rho → Rs Fl} {tt : Rho → Rs Bool} {te : Rho → Rs Vl} {sf : Rho → Rs Vf} {scope : Scope} {own : List (Str × Nat)} {pos spos : Pos}
/-- what a comprehension's parts mean, in every block of its form -/
structure LcOk (X : Cx) (G : Gx) (tg elt : Expr) (ifs : List Expr) (scope : Scope) (js : List Nat) (st : D → Rho → Rs Fl) (tt : Rho → Rs Bool) (te : Rho → Rs Vl) : Prop where
  g : ∀ (s : Shared) (H : Hp) (C : Addr) (cl : List (Str × Addr)) (fp : List Addr), DG (X.blk s H scope (compEnvC scope cl C X.env) fp) G.q tg js st
  t : ∀ (s : Shared) (H : Hp) (C : Addr) (cl : List (Str × Addr)) (fp : List Addr), PTs (X.blk s H scope (compEnvC scope cl C X.env) fp) ifs (tT G.q tt)
  e : ∀ (s : Shared) (H : Hp) (C : Addr) (cl : List (Str × Addr)) (fp : List Addr), PE (X.blk s H scope (compEnvC scope cl C X.env) fp) elt (tE G.q te)
theorem LcOk.by {js : List Nat} (h : ∀ (s : Shared) (H : Hp) (C : Addr) (cl : List (Str × Addr)) (fp : List Addr), DG (X.blk s H scope (compEnvC scope cl C X.env) fp) G.q tg js st ∧ PTs (X.blk s H scope (compEnvC scope cl C X.env) fp) ifs (tT G.q tt) ∧ PE (X.blk s H scope (compEnvC scope cl C X.env) fp) elt (tE G.q te)) : LcOk X G tg elt ifs scope js st tt te :=
  ⟨fun s H C cl fp => (h s H C cl fp).1, fun s H C cl fp => (h s H C cl fp).2.1, fun s H C cl fp => (h s H C cl fp).2.2⟩
theorem dts_nil : PTs X [] (tT G sYes) := by
  refine ⟨fun pins s σ H Q I h => pts_nil.run pins s σ H Q I ?_⟩
  obtain ⟨ρ, F, O, w, h⟩ := h
  exact h true H F w (Sub.refl _) rfl
theorem dts_one {c : Expr} {sc : Rho → Rs Vl} (h : DE X G c sc) : PTs X [c] (tT G (asB sc)) := pts_one h.pt
theorem df_lc (hc : X.calm = true) (hN : X.N.Nodup) (hi : DI X G tg iter si) (ok : BlkOk X.N X.env.scope scope own) (h : LcOk X G tg elt ifs scope js st tt te) (hj : ∀ j ∈ js, j ∈ own.map (·.2)) (hs : ∀ x, foldedSetIterable iter X.env x = pure x) :
    DF X G (.ListComp elt [⟨tg, iter, ifs, 0⟩] scope pos) (sLc si st tt te (own.map (·.2))) :=
  ⟨PE.imp (pe_lc hc hN hi ok h.g h.t h.e hs) fun _ _ _ q => lc_t hj q, fun _ => rfl⟩
theorem asg_t {i : Nat} {N : Ends} {σ : L2.St} {H : Hp} (h : tS G (sAsg i sf) N σ H) : tAsg (tF G sf) (gName i) N σ H := by
  obtain ⟨ρ, F, O, w, h⟩ := h
  exact ⟨ρ, F, O, w, asg_step w h⟩
theorem ds_setLc {i : Nat} {y : Str} {py : Pos} (hc : X.calm = true) (hN : X.N.Nodup) (hy : X.N[i]? = some y) (hyl : X.env.scope.names.lookup y = some .local) (hsw : swapsWith (.ListComp elt [⟨tg, iter, ifs, 0⟩] scope pos) (some (.Name y py)) spos.line X.env = pure true)
    (hi : DI X G tg iter si) (ok : BlkOk X.N X.env.scope scope own) (h : LcOk X G tg elt ifs scope js st tt te) (hj : ∀ j ∈ js, j ∈ own.map (·.2)) (hs : ∀ x, foldedSetIterable iter X.env x = pure x) :
    PS X (.Assign [.Name y py] (.ListComp elt [⟨tg, iter, ifs, 0⟩] scope pos) spos) (tS G (sAsg i (sLc si st tt te (own.map (·.2))))) := by
  refine PS.imp (ps_setLc hc hN hy hyl hsw hi ok h.g h.t h.e hs) fun N σ H q => ?_
  exact lc_t hj (asg_t q)
end

/-! ### an own container changed -/
section
variable {K : PySem.W.Frag} {F : Hp} {O : Fm} {ρ : Rho} {σ : L2.St} {H : Hp}
theorem Wd.write (w : Wd K F O ρ σ H) {i : Nat} {p : Bool} {d d' : D} {a : Addr} {u : HO} (e : ρ[i]? = some (Cell.own p d)) (ha : σ[i]? = some (some (.ref a))) (n : OwnAt K F (upd H a u) a d') : Wd K F O (ρ.set i (.own p d')) σ (upd H a u) := by
  obtain ⟨b, q1, q2, q3, q4⟩ := w.own i _ d e rfl
  rw [ha] at q1; cases q1
  have back : ∀ {j : Nat} {c : Cell} {y : D}, (ρ.set i (.own p d'))[j]? = some c → c.held = some y → j = i ∨ (j ≠ i ∧ ρ[j]? = some c) := fun {j c y} hj hc => by
    rcases get_set hj with ⟨rfl, _⟩ | ⟨ne, hj⟩
    · exact .inl rfl
    · exact .inr ⟨ne, hj⟩
  refine ⟨by rw [List.length_set]; exact w.len, fun b x hb => ?_, fun b x hb => ?_, w.fo, fun j y hj => ?_, fun j c y hj hc => ?_, fun j c b hj hp hb => ?_, fun j b q y hy => ?_, fun j q y hj => ?_, fun j k c1 c2 d1 d2 b ne e1 e2 y1 y2 z1 z2 => ?_⟩
  · rw [upd_ne (ne_of_none hb q2)]; exact w.f b x hb
  · rw [upd_ne (ne_of_none hb q3)]; exact w.o b x hb
  · rcases get_set hj with ⟨rfl, z⟩ | ⟨_, hj⟩
    · cases z
    · exact w.val j y hj
  · rcases get_set hj with ⟨rfl, z⟩ | ⟨ne, hj⟩
    · subst z; cases hc; exact ⟨_, ha, q2, q3, n⟩
    · obtain ⟨b, r1, r2, r3, r4⟩ := w.own j c y hj hc
      refine ⟨b, r1, r2, r3, r4.mono (Sub.refl _) (upd_ne fun z => ?_)⟩
      subst z
      exact w.ap i j _ c d y _ (Ne.symm ne) e hj rfl hc ha r1
  · rcases get_set hj with ⟨rfl, z⟩ | ⟨_, hj⟩
    · subst z; exact w.pr j _ b e hp hb
    · exact w.pr j c b hj hp hb
  · obtain ⟨r1, r2⟩ := w.wl j b q y hy
    have ne : i ≠ j := fun z => by subst z; rw [e] at r1; cases r1
    exact ⟨by rw [List.getElem?_set_ne ne]; exact r1, r2⟩
  · rcases get_set hj with ⟨rfl, z⟩ | ⟨_, hj⟩
    · cases z
    · exact w.lk j q y hj
  · have f : ∀ {j : Nat} {c : Cell} {y : D}, (ρ.set i (.own p d'))[j]? = some c → c.held = some y → ∃ c' y', ρ[j]? = some c' ∧ c'.held = some y' := fun {j c y} hj hc => by
      rcases back hj hc with rfl | ⟨_, hj⟩
      · exact ⟨_, _, e, rfl⟩
      · exact ⟨_, _, hj, hc⟩
    obtain ⟨c1', d1', a1, a2⟩ := f e1 y1
    obtain ⟨c2', d2', a3, a4⟩ := f e2 y2
    exact w.ap j k c1' c2' d1' d2' b ne a1 a3 a2 a4 z1 z2
theorem Wd.ownL (w : Wd K F O ρ σ H) {i : Nat} {p : Bool} {ds : List D} (e : ρ[i]? = some (Cell.own p (.list ds))) : ∃ a vs, σ[i]? = some (some (.ref a)) ∧ H a = some (.lst vs) ∧ RpL K F vs ds := by
  obtain ⟨a, h1, _, _, vs, h2, h3⟩ := w.own i _ _ e rfl
  exact ⟨a, vs, h1, h2, h3⟩
end
def ownList (ρ : Rho) (i : Nat) : Option (Bool × List D) :=
  match ρ[i]? with
  | some (Cell.own p (.list ds)) => some (p, ds)
  | _ => none
theorem ownList_iff {ρ : Rho} {i : Nat} {p : Bool} {ds : List D} (h : ownList ρ i = some (p, ds)) : ρ[i]? = some (Cell.own p (.list ds)) := by
  unfold ownList at h
  split at h
  · cases h; assumption
  · cases h
/-- xs.append(..) and so on, xs a list of slot i's own -/
def sMut (i : Nat) (f : List D → List D → Option (List D × D)) (a : Rho → Rs (List Vl)) : Rho → Rs Vl := fun ρ =>
  if (ownList ρ i).isSome then (a ρ).bind fun xs ρ => (frzs xs ρ).bind fun ds ρ => mutNow ρ i (f · ds) else .bad
where
  mutNow (ρ : Rho) (i : Nat) (f : List D → Option (List D × D)) : Rs Vl :=
    match ownList ρ i with
    | some (p, ys) => match f ys with
      | some (zs, z) => .ok (.d z) (ρ.set i (.own p (.list zs)))
      | none => .bad
    | none => .bad
def MutOk (K : PySem.W.Frag) (r : V → List V → Hp → VK → Prop) (f : List D → List D → Option (List D × D)) : Prop :=
  ∀ {F H : Hp} {a : Addr} {vs us : List V} {ys ds zs : List D} {z : D} {Q : VK}, Sub F H → H a = some (.lst vs) → RpL K F vs ys → RpL K F us ds → f ys ds = some (zs, z) → (∀ ws v, RpL K F ws zs → Rp K F v z → Q v (upd H a (.lst ws))) → r (.ref a) us H Q
section
variable {X : Cx} {G : Gx} {i : Nat} {f : List D → List D → Option (List D × D)} {ss : Rho → Rs (List Vl)} {r : V → List V → Hp → VK → Prop}
theorem mut_now {F H : Hp} {O : Fm} {ρ : Rho} {σ : L2.St} {Q : VK} {g : List D → Option (List D × D)} (w : Wd G.K F O ρ σ H) (h : Fin G RV F O σ Q (sMut.mutNow ρ i g)) :
    ∃ p ys zs z a vs, ρ[i]? = some (Cell.own p (.list ys)) ∧ g ys = some (zs, z) ∧ σ[i]? = some (some (.ref a)) ∧ H a = some (.lst vs) ∧ RpL G.K F vs ys ∧ ∀ ws v, RpL G.K F ws zs → Rp G.K F v z → Q v (upd H a (.lst ws)) := by
  unfold sMut.mutNow at h
  cases e : ownList ρ i with
  | none => rw [e] at h; exact h.elim
  | some q =>
    obtain ⟨p, ys⟩ := q
    rw [e] at h
    dsimp only at h
    have e' := ownList_iff e
    cases eg : g ys with
    | none => rw [eg] at h; exact h.elim
    | some q =>
      obtain ⟨zs, z⟩ := q
      rw [eg] at h
      obtain ⟨a, vs, h1, h2, h3⟩ := w.ownL e'
      exact ⟨p, ys, zs, z, a, vs, e', eg, h1, h2, h3, fun ws v r1 r2 => h v _ F (w.write e' h1 ⟨ws, upd_same, r1⟩) (Sub.refl _) r2⟩
theorem sMut_t (hK : X.K = G.K) (ok : MutOk G.K r f) {σ : L2.St} {H : Hp} {Q : VK} (h : tE G (sMut i f ss) σ H Q) : tBM X.K "list" r (tVar i) (tA G ss) σ H Q := by
  obtain ⟨ρ, F, O, w, h⟩ := h
  unfold sMut at h
  split at h
  · rename_i hi
    obtain ⟨q, hq⟩ := Option.isSome_iff_exists.mp hi
    obtain ⟨p, ds0⟩ := q
    obtain ⟨a, vs0, h1, h2, h3⟩ := w.ownL (ownList_iff hq)
    refine ⟨.ref a, h1, .inl ⟨rfl, vs0, SqL.of h2⟩, ?_⟩
    refine Tgt.fin.bind w h fun xs ρ1 us H1 F1 w1 s1 rs k1 => ?_
    obtain ⟨ds, ρ2, F2, w2, s2, r2, k2⟩ := Tgt.fin.frzs w1 rs k1
    obtain ⟨p, ys, zs, z, b, vs, e1, e2, e3, e4, e5, e6⟩ := mut_now w2 k2
    rw [h1] at e3; cases e3
    exact ok w2.f e4 e5 r2 e2 e6
  · exact h.elim
theorem sMut0_t (hK : X.K = G.K) (ok : MutOk G.K r f) {σ : L2.St} {H : Hp} {Q : VK} (h : tE G (sMut i f sNil) σ H Q) : tBM0 X.K "list" r (tVar i) σ H Q := by
  obtain ⟨ρ, F, O, w, h⟩ := h
  unfold sMut at h
  split at h
  · rename_i hi
    obtain ⟨q, hq⟩ := Option.isSome_iff_exists.mp hi
    obtain ⟨p, ds0⟩ := q
    obtain ⟨a, vs0, h1, h2, h3⟩ := w.ownL (ownList_iff hq)
    refine ⟨.ref a, h1, .inl ⟨rfl, vs0, SqL.of h2⟩, ?_⟩
    obtain ⟨p, ys, zs, z, b, vs, e1, e2, e3, e4, e5, e6⟩ := mut_now w h
    rw [h1] at e3; cases e3
    exact ok w.f e4 e5 .nil e2 e6
  · exact h.elim
/-! the methods -/
def appF : List D → List D → Option (List D × D)
  | ys, [d] => if decide (ys.length < sizeLine) then some (ys ++ [d], .none) else none
  | _, _ => none
def extF : List D → List D → Option (List D × D)
  | ys, [.list zs] => if szOk (ys.length + zs.length) then some (ys ++ zs, .none) else none
  | _, _ => none
def popF : List D → List D → Option (List D × D)
  | ys, [] => (ys[ys.length - 1]?).map fun z => (ys.dropLast, z)
  | _, _ => none
def popAtF : List D → List D → Option (List D × D)
  | ys, [.int i] => if decide (-(2 ^ 63) ≤ i) && decide (i < 2 ^ 63) then (ixN ys.length i).bind fun k => (ys[k]?).map fun z => (ys.eraseIdx k, z) else none
  | _, _ => none
def revF : List D → List D → Option (List D × D)
  | ys, [] => some (ys.reverse, .none)
  | _, _ => none
theorem RpL.dropLast {K : PySem.W.Frag} {F : Hp} {vs : List V} {ds : List D} (r : RpL K F vs ds) : RpL K F vs.dropLast ds.dropLast := by
  rw [List.dropLast_eq_take, List.dropLast_eq_take, r.length]
  exact r.take _
theorem RpL.erase {K : PySem.W.Frag} {F : Hp} : ∀ {vs : List V} {ds : List D} (i : Nat), RpL K F vs ds → RpL K F (vs.eraseIdx i) (ds.eraseIdx i)
  | _, _, _, .nil => .nil
  | _, _, 0, .cons _ t => t
  | _, _, i + 1, .cons r t => .cons r (RpL.erase i t)
theorem RpL.reverse {K : PySem.W.Frag} {F : Hp} : ∀ {vs : List V} {ds : List D}, RpL K F vs ds → RpL K F vs.reverse ds.reverse
  | _, _, .nil => .nil
  | _, _, .cons r t => by
    rw [List.reverse_cons, List.reverse_cons]
    exact (RpL.reverse t).app (.cons r .nil)
theorem mut_app : MutOk G.K rAppend appF := by
  intro F H a vs us ys ds zs z Q s ha r1 r2 e k
  match ds, r2, e with
  | [d], .cons r2 .nil, e =>
    obtain ⟨h1, h2⟩ := ifs e
    cases h2
    exact ⟨a, vs, _, rfl, rfl, ha, by rw [r1.length]; exact of_decide_eq_true h1, k _ _ (r1.app (.cons r2 .nil)) .non⟩
theorem mut_ext : MutOk G.K rExtend extF := by
  intro F H a vs us ys ds zs z Q s ha r1 r2 e k
  match ds, r2, e with
  | [.list ws], .cons (.lst q r2) .nil, e =>
    obtain ⟨h1, h2⟩ := ifs e
    cases h2
    exact ⟨a, _, vs, _, rfl, rfl, ha, s _ _ q, by rw [r1.length, r2.length]; exact szOk_iff.mp h1, k _ _ (r1.app r2) .non⟩
theorem mut_pop : MutOk G.K rPop popF := by
  intro F H a vs us ys ds zs z Q s ha r1 r2 e k
  match ds, r2, e with
  | [], .nil, e =>
    obtain ⟨y, e1, e2⟩ := Option.map_eq_some_iff.mp (show (ys[ys.length - 1]?).map (fun z => (ys.dropLast, z)) = some (zs, z) from e)
    cases e2
    obtain ⟨v, h1, h2⟩ := r1.get e1
    exact ⟨a, vs, v, rfl, rfl, ha, by rw [r1.length]; exact h1, k _ _ r1.dropLast h2⟩
theorem mut_popAt : MutOk G.K rPopAt popAtF := by
  intro F H a vs us ys ds zs z Q s ha r1 r2 e k
  match ds, r2, e with
  | [.int i], .cons (.int _) .nil, e =>
    have e : (if (decide (-(2 ^ 63) ≤ i) && decide (i < 2 ^ 63)) = true then (ixN ys.length i).bind fun k => (ys[k]?).map fun z => (ys.eraseIdx k, z) else none) = some (zs, z) := e
    split at e
    · rename_i hb
      rw [Bool.and_eq_true, decide_eq_true_eq, decide_eq_true_eq] at hb
      obtain ⟨j, e1, e2⟩ := Option.bind_eq_some_iff.mp e
      obtain ⟨y, e3, e4⟩ := Option.map_eq_some_iff.mp e2
      cases e4
      obtain ⟨v, h1, h2⟩ := r1.get e3
      refine ⟨a, vs, i, j, v, rfl, rfl, ha, hb.1, hb.2, ?_, h1, k _ _ (r1.erase _) h2⟩
      rw [r1.length]
      exact (ixN_seq e1).1
    · cases e
theorem mut_rev : MutOk G.K rReverse revF := by
  intro F H a vs us ys ds zs z Q s ha r1 r2 e k
  match ds, r2, e with
  | [], .nil, e =>
    cases e
    exact ⟨a, vs, rfl, rfl, ha, k _ _ r1.reverse .non⟩
section
variable {e : Expr} {es : List Expr} {x : Str} {p apos cpos : Pos}
/-- what a method's rule asks of its place in the text -/
structure MtdOk (X : Cx) (o : Expr) (name : Str) (es : List Expr) (apos cpos : Pos) : Prop where
  base : attributeBase o name X.env (eval o X.env) = eval o X.env
  few : ((backTo cpos (starEach es X.env)).all (fun x => !x.1) && (backToKw cpos (keywordEach [] X.env)).all (fun x => x.1.isSome) && decide (es.length + ([] : List Keyword).length + (if ([] : List Keyword).isEmpty then 0 else 1) < 30)) = true
  line : (apos.endLine == cpos.line) = true
theorem de_mut {name : Str} {id : String} (slot : Slot "list" name id) (hty : typeOf (.builtin id) = pure (.type "method_descriptor")) (hm : MtR X id r) (ok : MutOk G.K r f) (hK : X.K = G.K) (hN : X.N[i]? = some x) (hv : Vis X.env.scope x) (hd : (x == ("__debug__" : Str)) = false) (hcd : (x == ("__classdict__" : Str)) = false)
    (ha : PA X (e :: es) (tA G ss)) (hp : plainArgs (e :: es) = true) (ho : MtdOk X (.Name x p) name (e :: es) apos cpos) : DE X G (.Call (.Attribute (.Name x p) name apos) (e :: es) [] cpos) (sMut i f ss) := by
  have h' : notStar e = true ∧ plainArgs es = true := by simpa [plainArgs] using hp
  exact .val (PE.imp (pe_bm PySem.F.plainAttrs_list slot hty hm (pe_var hN hv hd hcd) ha ho.base ho.few ho.line (star_plain h'.1 _) (any_plain h'.2 _ _)) fun _ _ _ q => sMut_t hK ok q) fun _ => rfl
theorem de_mut0 {name : Str} {id : String} (slot : Slot "list" name id) (hty : typeOf (.builtin id) = pure (.type "method_descriptor")) (hm : MtR X id r) (ok : MutOk G.K r f) (hK : X.K = G.K) (hN : X.N[i]? = some x) (hv : Vis X.env.scope x) (hd : (x == ("__debug__" : Str)) = false) (hcd : (x == ("__classdict__" : Str)) = false)
    (hbase : attributeBase (.Name x p) name X.env (eval (.Name x p) X.env) = eval (.Name x p) X.env) (hline : (apos.endLine == cpos.line) = true) : DE X G (.Call (.Attribute (.Name x p) name apos) [] [] cpos) (sMut i f sNil) :=
  .val (PE.imp (pe_bm0 PySem.F.plainAttrs_list slot hty hm (pe_var hN hv hd hcd) hbase hline) fun _ _ _ q => sMut0_t hK ok q) fun _ => rfl
end
end
end L3
/-! L3, part 17: more assignments, what is never reached. -/
namespace L3
open PySem PySem.Spec PyProof.Rows L2

section
variable {X : Cx} {G : Gx} {e a b c : Expr} {es : List Expr} {tg : Expr} {js : List Nat} {se : Rho → Rs Vl} {ss : Rho → Rs (List Vl)} {st : D → Rho → Rs Fl} {pos : Pos}
def sBad : Rho → Rs Fl := fun _ => .bad
def sBadE : Rho → Rs Vl := fun _ => .bad
theorem ds_never {s : Stmt} : PS X s (tS G sBad) := PS.imp ps_never fun N σ H h => by
  obtain ⟨ρ, F, O, w, h⟩ := h
  exact h.elim
theorem dss_never {s : List Stmt} : PSs X s (tS G sBad) := PSs.imp pss_never fun N σ H h => by
  obtain ⟨ρ, F, O, w, h⟩ := h
  exact h.elim
/-- target = value, the value stays -/
def sAsgT (st : D → Rho → Rs Fl) (e : Rho → Rs Vl) : Rho → Rs Fl := fun ρ => (e ρ).bind fun x ρ => (frz x ρ).bind fun d ρ => thenG (st d ρ) fun ρ => .ok .nx ρ
theorem ds_asgT (he : PE X e (tE G se)) (hg : DG X G tg js st) (hs : swapsWithSole [tg] e pos.line X.env = pure false) (hw : swappedStores [tg] e X.env = pure none) (h1 : (assignEach [tg] X.env).map (·.2) = [assign tg X.env]) : PS X (.Assign [tg] e pos) (tS G (sAsgT st se)) := by
  refine PS.imp (ps_asg he hg hs hw h1) fun N σ H h => ?_
  obtain ⟨ρ, F, O, w, h⟩ := h
  refine Tgt.finS.bind w h fun x ρ1 v H1 F1 w1 s1 rx h1 => ?_
  obtain ⟨d, ρ2, F2, w2, s2, r2, h2⟩ := Tgt.finS.frz w1 rx h1
  obtain ⟨ρ3, e3, h3⟩ := Tgt.then (G := G) (σ := σ) (α := Unit) h2
  exact ⟨ρ2, F2, O, d, ρ3, w2, r2, e3, fun σ' w' _ => h3 σ' H1 F2 w' (Sub.refl _)⟩
/-- a, b = x, y -/
def put2 (i j : Nat) (ds : List D) (ρ : Rho) : Rs Fl :=
  match ds with
  | [x, y] => thenG (put i (.val x) ρ) fun ρ => put j (.val y) ρ
  | _ => .bad
def sPar (i j : Nat) (a : Rho → Rs (List Vl)) : Rho → Rs Fl := fun ρ => (a ρ).bind fun xs ρ => (frzs xs ρ).bind fun ds ρ => put2 i j ds ρ
def put3 (i j k : Nat) (ds : List D) (ρ : Rho) : Rs Fl :=
  match ds with
  | [x, y, z] => thenG (put i (.val x) ρ) fun ρ => thenG (put j (.val y) ρ) fun ρ => put k (.val z) ρ
  | _ => .bad
def sPar3 (i j k : Nat) (a : Rho → Rs (List Vl)) : Rho → Rs Fl := fun ρ => (a ρ).bind fun xs ρ => (frzs xs ρ).bind fun ds ρ => put3 i j k ds ρ
theorem then_fin {F : Hp} {O : Fm} {N : Ends} {r : Rs Fl} {k : Rho → Rs Fl} (h : FinS G F O N (thenG r k)) : ∃ ρ, r = .ok .nx ρ ∧ FinS G F O N (k ρ) := by
  unfold thenG at h
  split at h
  · exact ⟨_, rfl, h⟩
  · exact h.elim
theorem ds_par {i j : Nat} {x y : Str} {px py pt : Pos} {kt k2 pt2} (hc : X.calm = true) (hN : X.N.Nodup) (hi : X.N[i]? = some x) (hj : X.N[j]? = some y) (hij : i ≠ j)
    (hx : X.env.scope.names.lookup x = some .local) (hy : X.env.scope.names.lookup y = some .local) (ha : PA X [a, b] (tA G ss))
    (hw : swappedStores [.Tuple [.Name x px, .Name y py] kt pt] (.Tuple [a, b] k2 pt2) X.env = pure (some [x, y]))
    (hs : swapsWithSole [.Tuple [.Name x px, .Name y py] kt pt] (.Tuple [a, b] k2 pt2) pos.line X.env = pure false) :
    PS X (.Assign [.Tuple [.Name x px, .Name y py] kt pt] (.Tuple [a, b] k2 pt2) pos) (tS G (sPar i j ss)) := by
  refine PS.imp (ps_par hc hN hi hj hij hx hy ha hw hs) fun N σ H h => ?_
  obtain ⟨ρ, F, O, w, h⟩ := h
  refine Tgt.finS.bind w h fun xs ρ1 vs H1 F1 w1 s1 rs h1 => ?_
  obtain ⟨ds, ρ2, F2, w2, s2, r2, h2⟩ := Tgt.finS.frzs w1 rs h1
  match ds, r2, h2 with
  | [d1, d2], .cons (v := v1) q1 (.cons (v := v2) q2 .nil), h2 =>
    obtain ⟨ρ3, e3, h3⟩ := then_fin h2
    obtain ⟨_, rfl, hi', nl⟩ := put_inv e3
    obtain ⟨hj', nl2, k⟩ := put_fin (H := H1) h3
    exact ⟨v1, v2, rfl, k _ H1 F2 ((w2.put hi' nl q1).put hj' nl2 q2) (Sub.refl _)⟩
  | [], _, h2 => exact h2.elim
  | [_], _, h2 => exact h2.elim
  | _ :: _ :: _ :: _, _, h2 => exact h2.elim
theorem ds_par3 {i j l : Nat} {x y z : Str} {px py pz pt : Pos} {kt k2 pt2} (hc : X.calm = true) (hN : X.N.Nodup) (hi : X.N[i]? = some x) (hj : X.N[j]? = some y) (hl : X.N[l]? = some z) (hij : i ≠ j) (hil : i ≠ l) (hjl : j ≠ l)
    (hx : X.env.scope.names.lookup x = some .local) (hy : X.env.scope.names.lookup y = some .local) (hz : X.env.scope.names.lookup z = some .local) (ha : PA X [a, b, c] (tA G ss))
    (hw : swappedStores [.Tuple [.Name x px, .Name y py, .Name z pz] kt pt] (.Tuple [a, b, c] k2 pt2) X.env = pure (some [x, y, z]))
    (hs : swapsWithSole [.Tuple [.Name x px, .Name y py, .Name z pz] kt pt] (.Tuple [a, b, c] k2 pt2) pos.line X.env = pure false) :
    PS X (.Assign [.Tuple [.Name x px, .Name y py, .Name z pz] kt pt] (.Tuple [a, b, c] k2 pt2) pos) (tS G (sPar3 i j l ss)) := by
  refine PS.imp (ps_par3 hc hN hi hj hl hij hil hjl hx hy hz ha hw hs) fun N σ H h => ?_
  obtain ⟨ρ, F, O, w, h⟩ := h
  refine Tgt.finS.bind w h fun xs ρ1 vs H1 F1 w1 s1 rs h1 => ?_
  obtain ⟨ds, ρ2, F2, w2, s2, r2, h2⟩ := Tgt.finS.frzs w1 rs h1
  match ds, r2, h2 with
  | [d1, d2, d3], .cons (v := v1) q1 (.cons (v := v2) q2 (.cons (v := v3) q3 .nil)), h2 =>
    obtain ⟨ρ3, e3, h3⟩ := then_fin h2
    obtain ⟨_, rfl, hi', nl⟩ := put_inv e3
    obtain ⟨ρ4, e4, h4⟩ := then_fin h3
    obtain ⟨_, rfl, hj', nl2⟩ := put_inv e4
    obtain ⟨hl', nl3, k⟩ := put_fin (H := H1) h4
    exact ⟨v1, v2, v3, rfl, k _ H1 F2 (((w2.put hi' nl q1).put hj' nl2 q2).put hl' nl3 q3) (Sub.refl _)⟩
  | [], _, h2 => exact h2.elim
  | [_], _, h2 => exact h2.elim
  | [_, _], _, h2 => exact h2.elim
  | _ :: _ :: _ :: _ :: _, _, h2 => exact h2.elim
/-- x op= e, whole numbers -/
def augD (op : Operator) : D → D → Option D :=
  match op with
  | .Add => onInts fun i j => some (.int (i + j))
  | .Sub => onInts fun i j => some (.int (i - j))
  | _ => fun _ _ => none
def sAug (i : Nat) (op : Operator) (e : Rho → Rs Vl) : Rho → Rs Fl := fun ρ =>
  match ρ[i]? with
  | some (Cell.val x) => (e ρ).bind fun y ρ => match (y.cont ρ).bind fun y => augD op x y with
    | some z => put i (.val z) ρ
    | none => .bad
  | _ => .bad
theorem aug_ok {op : Operator} (hop : op = .Add ∨ op = .Sub) : ∃ r : TIp, PIp X op r ∧ ∀ {F : Hp} {O : Fm} {ρ : Rho} {σ : L2.St} {H : Hp} {v u : V} {x y z : D} {Q : VK}, Wd G.K F O ρ σ H → At G.K F H v x → At G.K F H u y → augD op x y = some z → Post G F O ρ σ Q z → r v u H Q := by
  rcases hop with rfl | rfl
  · refine ⟨_, ip_add, fun {F O ρ σ H v u x y z Q} w ax ay e p => ?_⟩
    obtain ⟨i, j, rfl, rfl, rfl, rfl, e⟩ := int2 (G := G) (f := fun i j => some (.int (i + j))) ax ay e
    cases e
    exact ⟨i, j, rfl, rfl, p.now w (.int _)⟩
  · refine ⟨_, ip_sub, fun {F O ρ σ H v u x y z Q} w ax ay e p => ?_⟩
    obtain ⟨i, j, rfl, rfl, rfl, rfl, e⟩ := int2 (G := G) (f := fun i j => some (.int (i - j))) ax ay e
    cases e
    exact ⟨i, j, rfl, rfl, p.now w (.int _)⟩
theorem ds_aug {i : Nat} {x : Str} {op : Operator} {pos' : Pos} (hop : op = .Add ∨ op = .Sub) (hN : X.N.Nodup) (hi : X.N[i]? = some x) (hx : Loc X.env.scope x) (he : PE X e (tE G se)) (hf : X.fn x = true ∨ X.env.scope.names.lookup x = some .local) :
    PS X (.AugAssign (.Name x pos') op e pos) (tS G (sAug i op se)) := by
  obtain ⟨r, ho, hr⟩ := aug_ok (X := X) (G := G) hop
  refine PS.imp (ps_aug hN hi hx he ho hf) fun N σ H h => ?_
  obtain ⟨ρ, F, O, w, h⟩ := h
  unfold sAug at h
  split at h
  · rename_i x0 e0
    obtain ⟨v, h1, h2⟩ := w.val i x0 e0
    refine ⟨v, h1, Tgt.finS.bind w h fun y ρ1 u H1 F1 w1 s1 ry h1' => ?_⟩
    split at h1'
    · rename_i z ez
      obtain ⟨d, e1, e2⟩ := Option.bind_eq_some_iff.mp ez
      refine hr w1 (.inl (h2.mono s1)) (w1.at ry e1) e2 fun v' H' F' w' s' r' => ?_
      obtain ⟨hi', nl, k⟩ := put_fin (H := H') (FinS.mono s' h1')
      exact k _ _ _ (w'.put hi' nl r') (Sub.refl _)
    · exact h1'.elim
  · exact h.elim
/-- xs[i] = e, xs an own list of slot i -/
def setAt (ρ : Rho) (i : Nat) (k : Int) (d : D) : Rs Fl :=
  match ownList ρ i with
  | some (p, ys) => match ixN ys.length k with
    | some j => .ok .nx (ρ.set i (.own p (.list (ys.set j d))))
    | none => .bad
  | none => .bad
def sSetIx (i : Nat) (ix e : Rho → Rs Vl) : Rho → Rs Fl := fun ρ => (e ρ).bind fun x ρ => (frz x ρ).bind fun d ρ => if (ownList ρ i).isSome then (ix ρ).bind fun y ρ => match y.cont ρ with
  | some (.int k) => setAt ρ i k d
  | _ => .bad
  else .bad
theorem ds_setIx {i : Nat} {x : Str} {ie : Expr} {sx : Rho → Rs Vl} {p p2 : Pos} (hN : X.N[i]? = some x) (hv : Vis X.env.scope x) (hd : (x == ("__debug__" : Str)) = false) (hcd : (x == ("__classdict__" : Str)) = false) (hi : PE X ie (tE G sx)) (he : PE X e (tE G se))
    (has : ∀ v, assign (.Subscript (.Name x p) ie p2) X.env v = (do
      let ov ← holding [v] (eval (.Name x p) X.env)
      let iv ← holding [v, ov] (eval ie X.env)
      standAt p2
      holding [v, ov, iv] (setItem ov iv v)
      release [v, ov, iv] [])) (hs : swapsWithSole [.Subscript (.Name x p) ie p2] e pos.line X.env = pure false) (hw : swappedStores [.Subscript (.Name x p) ie p2] e X.env = pure none) (h1 : (assignEach [.Subscript (.Name x p) ie p2] X.env).map (·.2) = [assign (.Subscript (.Name x p) ie p2) X.env]) :
    PS X (.Assign [.Subscript (.Name x p) ie p2] e pos) (tS G (sSetIx i sx se)) := by
  refine PS.imp (ps_asg he (pg_sub (pe_var hN hv hd hcd) hi set_list has) hs hw h1) fun N σ H h => ?_
  obtain ⟨ρ, F, O, w, h⟩ := h
  refine Tgt.finS.bind w h fun x ρ1 v H1 F1 w1 s1 rx h1 => ?_
  obtain ⟨d, ρ2, F2, w2, s2, r2, h2⟩ := Tgt.finS.frz w1 rx h1
  split at h2
  · rename_i hs
    obtain ⟨⟨q, ds0⟩, hq⟩ := Option.isSome_iff_exists.mp hs
    obtain ⟨a, vs0, g1, g2, g3⟩ := w2.ownL (ownList_iff hq)
    refine ⟨.ref a, g1, Tgt.finS.bind w2 h2 fun y ρ3 u H3 F3 w3 s3 ry h3 => ?_⟩
    split at h3
    · rename_i k ek
      have eu := (w3.at ry ek).int
      subst eu
      unfold setAt at h3
      split at h3
      · rename_i p ys ey
        have ey' := ownList_iff ey
        obtain ⟨b, vs, q1, q2, q3⟩ := w3.ownL ey'
        rw [g1] at q1; cases q1
        split at h3
        · rename_i j ej
          refine ⟨a, vs, k, j, rfl, rfl, q2, by rw [q3.length]; exact ej, ?_⟩
          exact h3 _ _ F3 (w3.write ey' g1 ⟨_, upd_same, RpL.set (r2.mono s3) j q3⟩) (Sub.refl _)
        · exact h3.elim
      · exact h3.elim
    · exact h3.elim
  · exact h2.elim
end
end L3
/-! L3, part 18: the words in which a def's walk is written. -/
namespace L3
open PySem PySem.Spec PyProof.Rows L2

/-- what the surroundings give -/
structure Cok (X : Cx) (G : Gx) (k : Nat) : Prop where
  K : X.K = G.K
  c : X.calm = true
  N : X.N.Nodup
  r : Room k X.A
  t : Takes X G.W
  p : PassesOwn (model X.prog X.w) X.A X.env X.xe
theorem Cok.u {X : Cx} {G : Gx} {k : Nat} (C : Cok X G k) : X.A.units + 200 < cLine := by have := C.r.un; omega
theorem Cok.blk {X : Cx} {G : Gx} {k : Nat} (C : Cok X G k) {s : Shared} {H : Hp} {scope : Scope} {ce : Env} {fp : List Addr} : Cok (X.blk s H scope ce fp) G.q k :=
  ⟨C.K, C.c, C.N, C.r, (fun _ _ ⟨_, _, _, _, _, _, _, _, _, _, _, _, _, _, _, _, w⟩ => w.elim), PassesOwn.never⟩
theorem Cok.of {P : Program} {w : World} {K : PySem.W.Frag} {mg : Str → Option Value} {base : Heap} {N : List Str} {qual : Str} {scope : Scope} {f : Addr} {cd : Value} {A : Around} {outer : List Env} {s : Shared} {H : Hp} {E : XK} {cn : Str → Option Addr} {k : Nat} (hN : N.Nodup)
    (hr : Room k (A.deeper (envOfC qual scope s.heap.objs.size f cd))) : Cok (cxOf (L2.CX P w) P w K mg base N qual scope f cd A outer s H E) ⟨K, cn, fun c dd _ H => E c dd H⟩ k :=
  ⟨rfl, rfl, hN, hr, takes_of rfl rfl rfl rfl, passes_of rfl⟩
/-- the arguments: their meaning, how many -/
structure DA (X : Cx) (G : Gx) (es : List Expr) (s : Rho → Rs (List Vl)) (n : Nat) : Prop where
  pa : PA X es (tA G s)
  len : ∀ ρ xs ρ', s ρ = .ok xs ρ' → xs.length = n
  pl : plainArgs es = true
section
variable {X : Cx} {G : Gx} {k : Nat} {a b c e : Expr} {es : List Expr} {sa sb sc se : Rho → Rs Vl} {ss : Rho → Rs (List Vl)} {sf : Rho → Rs Vf} {pos p p1 p2 p3 p4 : Pos} {n : Nat}
theorem wNil : DA X G [] sNil 0 := ⟨da_nil, fun ρ xs ρ' h => by cases h; rfl, rfl⟩
theorem wC (h : PE X e (tE G se)) (r : DA X G es ss n) (hn : notStar e = true := by rfl) : DA X G (e :: es) (sCons se ss) (n + 1) := by
  refine ⟨da_cons h r.pa (star_plain hn _), fun ρ xs ρ' q => ?_, by simp [plainArgs, hn]; simpa [plainArgs] using r.pl⟩
  unfold sCons at q
  cases e1 : se ρ with
  | ok x ρ1 =>
    rw [e1, Rs.bind_ok] at q
    cases e2 : ss ρ1 with
    | ok xs2 ρ2 => rw [e2] at q; cases q; rw [List.length_cons, r.len _ _ _ e2]
    | err _ _ => rw [e2] at q; cases q
    | bad => rw [e2] at q; cases q
  | err _ _ => rw [e1] at q; cases q
  | bad => rw [e1] at q; cases q
theorem DA.st (r : DA X G (e :: es) ss n) : starEach (e :: es) X.env = (false, eval e X.env) :: starEach es X.env := star_plain (by have := r.pl; simp [plainArgs] at this; exact this.1) _
theorem DE.f {se : Rho → Rs Vl} (h : DE X G e se) : PE X e (tF G (liF se)) := h.pf
theorem pf_of (h : PE X e (tE G se)) : PE X e (tF G (liF se)) := PE.imp h fun _ _ _ q => liF_t q
/-! values -/
theorem v (i : Nat) {x : Str} (hi : X.N[i]? = some x := by rfl) (hv : Vis X.env.scope x := by first | exact Or.inl rfl | exact Or.inr (Or.inl rfl) | exact Or.inr (Or.inr rfl)) (hd : (x == ("__debug__" : Str)) = false := by decide) (hcd : (x == ("__classdict__" : Str)) = false := by decide) : DE X G (.Name x pos) (sVar i) := de_var hi hv hd hcd
theorem wB (C : Cok X G k) {op : Operator} (ha : PE X a (tE G sa)) (hb : PE X b (tE G sb)) (hop : [Operator.Add, .Sub, .Mult, .FloorDiv, .Mod, .Pow, .LShift, .RShift, .BitAnd].contains op = true := by decide) : DE X G (.BinOp a op b pos) (sBin (binD op) sa sb) :=
  .val (de_binop C.K hop ha hb) fun _ => rfl
theorem wNeg (ha : PE X a (tE G sa)) : DE X G (.UnaryOp .USub a pos) (sUn negD sa) := .val (de_neg ha) fun _ => rfl
def ltD : D → D → Option D := onInts fun i j => some (.bool (decide (i < j)))
def leD : D → D → Option D := onInts fun i j => some (.bool (decide (i ≤ j)))
def gtD : D → D → Option D := onInts fun i j => some (.bool (decide (j < i)))
def geD : D → D → Option D := onInts fun i j => some (.bool (decide (j ≤ i)))
theorem cLt : CmpOk X G .Lt ltD := cmp_int (p := fun i j => decide (i < j)) op_lt
theorem cLe : CmpOk X G .LtE leD := cmp_int (p := fun i j => decide (i ≤ j)) op_le
theorem cGt : CmpOk X G .Gt gtD := cmp_int (p := fun i j => decide (j < i)) op_gt
theorem cGe : CmpOk X G .GtE geD := cmp_int (p := fun i j => decide (j ≤ i)) op_ge
theorem cEq (C : Cok X G k) : CmpOk X G .Eq eqD := cmp_eq C.K C.u
theorem cNe (C : Cok X G k) : CmpOk X G .NotEq neD := cmp_ne C.K C.u
theorem cIn (C : Cok X G k) : CmpOk X G .In (inD false) := cmp_in C.K C.u
theorem cNi (C : Cok X G k) : CmpOk X G .NotIn (inD true) := cmp_notin C.K C.u
theorem wCmp {op : CmpOp} {f : D → D → Option D} (h : CmpOk X G op f) (ha : DE X G a sa) (hb : DE X G b sb) (hm : behindInMarks op b = false := by first | exact nomark _ (by decide) (by decide) | rfl) : DE X G (.Compare a [op] [b] pos) (sBin f sa sb) := h.de hm ha hb
theorem wCh {op op' : CmpOp} {f g : D → D → Option D} (h : CmpOk X G op f) (h' : CmpOk X G op' g) (ha : DE X G a sa) (hb : DE X G b sb) (hc : DE X G c sc) (hm : lastMarks [op, op'] [b, c] = false := by rfl) : DE X G (.Compare a [op, op'] [b, c] pos) (sChain f g sa sb sc) := h.chain h' hm ha hb hc
theorem wIfE (hc : DE X G c sc) (ha : PE X a (tE G sa)) (hb : PE X b (tE G sb)) : PE X (.IfExp c a b pos) (tE G (sIf sc sa sb)) := pe_if hc ha hb
theorem wTup {x1 : Nat} (h : DA X G es ss n) : DE X G (.Tuple es x1 pos) (sTup ss) := .val (pe_tupD h.pa) fun _ => rfl
theorem wTupS {x1 : Nat} (h : PA X es (tA G ss)) : DE X G (.Tuple es x1 pos) (sTup ss) := .val (pe_tupD h) fun _ => rfl
theorem wLst (h : DA X G es ss n) : DF X G (.List es pos) (sLst ss) := df_lst h.pa
theorem wLstS (h : PA X es (tA G ss)) : DF X G (.List es pos) (sLst ss) := df_lst h
theorem wIx (C : Cok X G k) (ha : PE X a (tE G sa)) (hb : PE X b (tE G sb)) (hs : ∀ lo hi st p, b ≠ .Slice lo hi st p := by intro _ _ _ _ h; cases h) : DE X G (.Subscript a b pos) (sBin ixD sa sb) := .val (pe_ixD C.K hs ha hb) fun _ => rfl
theorem wSl (C : Cok X G k) {lo hi : Option Expr} {sl sh : Option (Rho → Rs Vl)} (ha : PE X a (tE G sa)) (hl : DO X G lo sl) (hh : DO X G hi sh) : DF X G (.Subscript a (.Slice lo hi none p2) pos) (sSl sa sl sh) := df_slice C.K ha hl hh
/-! built-ins -/
theorem wLen (C : Cok X G k) (hm : X.mg "len" = none) (h : DA X G [a] ss n) (hg : Gl X "len" := by rfl) : DE X G (.Call (.Name "len" p) [a] [] pos) (sFun lenD ss) :=
  de_callB (C.K ▸ call_len) ok_len hg hm PySem.boot_len h.pa h.pl (by decide) (by decide)
theorem wAbs (hm : X.mg "abs" = none) (h : DA X G [a] ss n) (hg : Gl X "abs" := by rfl) : DE X G (.Call (.Name "abs" p) [a] [] pos) (sFun absD ss) :=
  de_callB call_abs ok_abs hg hm (by decide +kernel) h.pa h.pl (by decide) (by decide)
theorem wInt (hm : X.mg "int" = none) (h : DA X G [a] ss n) (hg : Gl X "int" := by rfl) : DE X G (.Call (.Name "int" p) [a] [] pos) (sFun intD ss) :=
  de_callT call_int1 ok_int hg hm (by decide +kernel) h.pa h.pl (by decide) (by decide)
theorem wMin (C : Cok X G k) (hm : X.mg "min" = none) (h : DA X G (a :: es) ss n) (hg : Gl X "min" := by rfl) : DE X G (.Call (.Name "min" p) (a :: es) [] pos) (sFun minD ss) :=
  de_callB ((call_min2 C.c).or (C.K ▸ cr_min C.c)) ok_min hg hm (by decide +kernel) h.pa h.pl (by decide) (by decide)
theorem wMax (C : Cok X G k) (hm : X.mg "max" = none) (h : DA X G (a :: es) ss n) (hg : Gl X "max" := by rfl) : DE X G (.Call (.Name "max" p) (a :: es) [] pos) (sFun maxD ss) :=
  de_callB ((call_max2 C.c).or (C.K ▸ cr_max C.c)) ok_max hg hm (by decide +kernel) h.pa h.pl (by decide) (by decide)
theorem wSum (C : Cok X G k) (hm : X.mg "sum" = none) (h : DA X G [a] ss n) (hg : Gl X "sum" := by rfl) : DE X G (.Call (.Name "sum" p) [a] [] pos) (sFun sumD ss) :=
  de_callB (C.K ▸ cr_sum C.c) ok_sum hg hm (by decide +kernel) h.pa h.pl (by decide) (by decide)
theorem wAny (C : Cok X G k) (hm : X.mg "any" = none) (h : DA X G [a] ss n) (hg : Gl X "any" := by rfl) : DE X G (.Call (.Name "any" p) [a] [] pos) (sFun anyD ss) :=
  de_callB (C.K ▸ cr_any C.c) ok_any hg hm (by decide +kernel) h.pa h.pl (by decide) (by decide)
theorem wAll (C : Cok X G k) (hm : X.mg "all" = none) (h : DA X G [a] ss n) (hg : Gl X "all" := by rfl) : DE X G (.Call (.Name "all" p) [a] [] pos) (sFun allD ss) :=
  de_callB (C.K ▸ cr_all C.c) ok_all hg hm (by decide +kernel) h.pa h.pl (by decide) (by decide)
theorem wTuple (C : Cok X G k) (hm : X.mg "tuple" = none) (h : DA X G [a] ss n) (hg : Gl X "tuple" := by rfl) : DE X G (.Call (.Name "tuple" p) [a] [] pos) (sFun tupleD ss) :=
  de_callT (C.K ▸ call_tuple_of) ok_tuple hg hm (by decide +kernel) h.pa h.pl (by decide) (by decide)
theorem wList (C : Cok X G k) (hm : X.mg "list" = none) (h : DA X G [a] ss n) (hg : Gl X "list" := by rfl) : DF X G (.Call (.Name "list" p) [a] [] pos) (sFunF listD ss) :=
  df_callT (C.K ▸ call_list_of) ok_list hg hm (by decide +kernel) h.pa h.pl (by decide) (by decide)
theorem wSorted (C : Cok X G k) (hm : X.mg "sorted" = none) (h : DA X G [a] ss n) (hg : Gl X "sorted" := by rfl) : DF X G (.Call (.Name "sorted" p) [a] [] pos) (sFunF sortedD ss) :=
  df_callB (C.K ▸ cr_sortedI) ok_sorted hg hm (by decide +kernel) h.pa h.pl (by decide) (by decide)
theorem wIsi (C : Cok X G k) (t : Ty) (hm : X.mg "isinstance" = none) (hm2 : X.mg t.nm = none) (ha : PE X a (tE G sa)) (hg : Gl X "isinstance" := by rfl) (hg2 : Gl X t.nm := by rfl) (hn : notStar a = true := by rfl) : DE X G (.Call (.Name "isinstance" p1) [a, .Name t.nm p2] [] pos) (sUn (isiD [t]) sa) := de_isi C.K hg hm hg2 hm2 hn ha
theorem wIsi2 (C : Cok X G k) (t t' : Ty) {kk : Nat} (hm : X.mg "isinstance" = none) (hm2 : X.mg t.nm = none) (hm3 : X.mg t'.nm = none) (ha : PE X a (tE G sa)) (hg : Gl X "isinstance" := by rfl) (hg2 : Gl X t.nm := by rfl) (hg3 : Gl X t'.nm := by rfl) (hn : notStar a = true := by rfl) : DE X G (.Call (.Name "isinstance" p1) [a, .Tuple [.Name t.nm p2, .Name t'.nm p3] kk p4] [] pos) (sUn (isiD [t, t']) sa) := de_isi2 C.K hg hm hg2 hm2 hg3 hm3 hn ha
end
/-! ### the program's functions -/
/-- a def that keeps its promise, known by name -/
structure Kn (P : Program) (w : World) (K : PySem.W.Frag) (mg : Str → Option Value) (base : Heap) (cn : Str → Option Addr) (j : Nat) (x : Str) (ms : List Bool) (φ : Fn) : Prop where
  ex : ∃ f fd ps, FnOk P w K mg base (L2.CX P w) j f fd ps (spD K cn ms φ) ∧ mg x = some (.ref f) ∧ PySem.W.keepIn K (.ref f) = true ∧ Binds K fd ps []
section
variable {P : Program} {w : World} {K : PySem.W.Frag} {mg : Str → Option Value} {base : Heap} {cn : Str → Option Addr} {x qual : Str} {st : Stmt} {f : Addr} {fd : FuncData} {N ps : List Str} {k : Nat} {ms : List Bool} {s : Rho → Rs Fl}
theorem Kn.mk' (F : Fun K x qual st f fd) (S : FnScope N ps (defScope st)) (hm : ms.length = ps.length) (hx : mg x = some (.ref f)) (hb : Binds K fd ps [])
    (h : ∀ (cdv : Value) (A : Around) (outer : List Env) (s0 : Shared) (H : Hp) (E : XK), Cok (cxOf (L2.CX P w) P w K mg base N qual (defScope st) f cdv A outer s0 H E) ⟨K, cn, fun c dd _ H => E c dd H⟩ k →
      PSs (cxOf (L2.CX P w) P w K mg base N qual (defScope st) f cdv A outer s0 H E) (defBody st) (tS ⟨K, cn, fun c dd _ H => E c dd H⟩ s)) : Kn P w K mg base cn (k + 1) x ms (defR N.length ms s) :=
  ⟨⟨f, fd, ps, fnD F S hm fun cdv A outer s0 H E hr => h cdv A outer s0 H E (Cok.of S.nd hr), hx, F.kp, hb⟩⟩
/-- with no call left -/
theorem Kn.none (F : Fun K x qual st f fd) (hx : mg x = some (.ref f)) (hb : Binds K fd ps []) : Kn P w K mg base cn 0 x ms (fun _ => .bad) :=
  ⟨⟨f, fd, ps, ⟨fun vs H Q E h => by obtain ⟨_, _, _, _, _, _, h⟩ := h; exact h.elim, fun A outer s H args us vs Q E _ _ _ _ h => by obtain ⟨_, _, _, _, _, _, h⟩ := h; exact h.elim⟩, hx, F.kp, hb⟩⟩
end
section
variable {X : Cx} {G : Gx} {k j : Nat} {e : Expr} {es : List Expr} {ss : Rho → Rs (List Vl)} {x : Str} {n : Nat} {φ : Fn} {ms : List Bool} {p pos : Pos}
theorem wCall (C : Cok X G k) (F : Kn X.prog X.w G.K X.mg X.base G.cn j x (List.replicate n false) φ) (h : DA X G (e :: es) ss n) (hj : j ≤ k) (hg : Gl X x := by rfl) (hd : (x == ("__debug__" : Str)) = false := by decide) : DE X G (.Call (.Name x p) (e :: es) [] pos) (sCall φ ss) := by
  obtain ⟨f, fd, ps, F, hx, hk, hb⟩ := F.ex
  rw [← C.K] at F hk hb
  exact de_call F (C.r.mono hj) hg hx hk hb C.t C.K h.len h.pa h.pl hd
theorem wCallO (C : Cok X G k) (F : Kn X.prog X.w G.K X.mg X.base G.cn j x ms φ) (h : DA X G (e :: es) ss n) (hj : j ≤ k) (hg : Gl X x := by rfl) (hd : (x == ("__debug__" : Str)) = false := by decide) : DE X G (.Call (.Name x p) (e :: es) [] pos) (sCallO ms φ ss) := by
  obtain ⟨f, fd, ps, F, hx, hk, hb⟩ := F.ex
  rw [← C.K] at F hk hb
  exact de_callO F (C.r.mono hj) hg hx hk hb C.t C.K h.pa h.pl hd
end
section
variable {X : Cx} {G : Gx} {k : Nat} {a b c e : Expr} {es : List Expr} {tg it elt : Expr} {ifs : List Expr} {js : List Nat} {sa sb sc se : Rho → Rs Vl} {ss : Rho → Rs (List Vl)} {sf : Rho → Rs Vf} {si : Rho → Rs (List D)} {st : D → Rho → Rs Fl} {s s' : Rho → Rs Fl} {tt : Rho → Rs Bool} {pos p p1 p2 p3 apos cpos : Pos} {n : Nat} {body orelse : List Stmt} {scope : Scope}
/-! targets, sources -/
theorem gv (C : Cok X G k) (i : Nat) {x : Str} (hi : X.N[i]? = some x := by rfl) (hx : Loc X.env.scope x := by first | exact Or.inl rfl | exact Or.inr rfl) (hf : X.fn x = true ∨ X.env.scope.names.lookup x = some .local := by first | exact Or.inl rfl | exact Or.inr rfl) : DG X G (.Name x pos) [i] (gN i) := dg_name C.N hi hx hf
theorem gc {is : List Nat} {fs : List D → Rho → Rs Fl} (h1 : DG X G e js st) (h2 : DGs X G es is fs) (hs : (assignEach (e :: es) X.env).map (·.2) = assign e X.env :: (assignEach es X.env).map (·.2) := by rfl) : DGs X G (e :: es) (js ++ is) (gsC st fs) := dgs_cons h1 h2 hs
theorem gn : DGs X G [] [] gsN := dgs_nil
theorem gt (C : Cok X G k) {kk : Nat} {fs : List D → Rho → Rs Fl} (h : DGs X G es js fs) (hn : (assignEach es X.env).length = n := by rfl) (hst : (assignEach es X.env).findIdx? (·.1) = none := by rfl) : DG X G (.Tuple es kk pos) js (gTp n fs) := dg_tup C.K C.c h hn hst
theorem iv (C : Cok X G k) (he : PE X e (tE G se)) : DI X G tg e (sIt se) := di_val C.K he
theorem ir1 (hm : X.mg "range" = none) (h : DA X G [a] ss 1) (hg : Gl X "range" := by rfl) : DI X G tg (.Call (.Name "range" p) [a] [] pos) (sRng ss) := di_rng1 hg hm h.len h.pa h.st
theorem ir2 (hm : X.mg "range" = none) (h : DA X G [a, b] ss 2) (hg : Gl X "range" := by rfl) (hs : starEach [a, b] X.env = [(false, eval a X.env), (false, eval b X.env)] := by rfl) (hs2 : starEach [b] X.env = [(false, eval b X.env)] := by rfl) : DI X G tg (.Call (.Name "range" p) [a, b] [] pos) (sRng ss) := di_rng2 hg hm h.len h.pa hs hs2
theorem ir3 (hm : X.mg "range" = none) (h : DA X G [a, b, c] ss 3) (hg : Gl X "range" := by rfl) (hs : starEach [a, b, c] X.env = (false, eval a X.env) :: starEach [b, c] X.env := by rfl) (hp : (backTo pos (starEach [b, c] X.env)).any (·.1) = false := by rfl) : DI X G tg (.Call (.Name "range" p) [a, b, c] [] pos) (sRng ss) := di_rng3 hg hm h.len h.pa hs hp
theorem ie (C : Cok X G k) {elts : List Expr} {kk : Nat} (hm : X.mg "enumerate" = none) (h : DA X G [a] ss 1) (hg : Gl X "enumerate" := by rfl) : DI X G (.Tuple elts kk p3) (.Call (.Name "enumerate" p) [a] [] pos) (one1 enumD ss) := di_enum C.K hg hm h.pa h.st
theorem iz (C : Cok X G k) {elts : List Expr} {kk : Nat} (hm : X.mg "zip" = none) (h : DA X G [a, b] ss 2) (hg : Gl X "zip" := by rfl) (hs : starEach [a, b] X.env = (false, eval a X.env) :: starEach [b] X.env := by rfl) (hp : (backTo pos (starEach [b] X.env)).any (·.1) = false := by rfl) : DI X G (.Tuple elts kk p3) (.Call (.Name "zip" p) [a, b] [] pos) (sZip ss) := di_zip C.K hg hm h.pa hs hp
/-! comprehensions -/
theorem wLc (C : Cok X G k) (own : List (Str × Nat)) (hi : DI X G tg it si) (h : LcOk X G tg elt ifs scope js st tt se) (ok : BlkOk X.N X.env.scope scope own := by exact blkOk_by rfl) (hj : ∀ j ∈ js, j ∈ own.map (·.2) := by decide) (hs : ∀ x, foldedSetIterable it X.env x = pure x := by intro _; rfl) :
    DF X G (.ListComp elt [⟨tg, it, ifs, 0⟩] scope pos) (sLc si st tt se (own.map (·.2))) := df_lc C.c C.N hi ok h hj hs
/-! statements -/
theorem kSetLc (C : Cok X G k) (own : List (Str × Nat)) (i : Nat) {y : Str} {py spos : Pos} (hi : DI X G tg it si) (h : LcOk X G tg elt ifs scope js st tt se) (hy : X.N[i]? = some y := by rfl) (hyl : X.env.scope.names.lookup y = some .local := by rfl) (hsw : swapsWith (.ListComp elt [⟨tg, it, ifs, 0⟩] scope pos) (some (.Name y py)) spos.line X.env = pure true := by exact sw_true rfl rfl rfl rfl)
    (ok : BlkOk X.N X.env.scope scope own := by exact blkOk_by rfl) (hj : ∀ j ∈ js, j ∈ own.map (·.2) := by decide) (hs : ∀ x, foldedSetIterable it X.env x = pure x := by intro _; rfl) :
    PS X (.Assign [.Name y py] (.ListComp elt [⟨tg, it, ifs, 0⟩] scope pos) spos) (tS G (sAsg i (sLc si st tt se (own.map (·.2))))) := ds_setLc C.c C.N hy hyl hsw hi ok h hj hs
theorem kAsg (C : Cok X G k) (i : Nat) {x : Str} (he : PE X e (tF G sf)) (hi : X.N[i]? = some x := by rfl) (hx : Loc X.env.scope x := by first | exact Or.inl rfl | exact Or.inr rfl) (hf : X.fn x = true ∨ X.env.scope.names.lookup x = some .local := by first | exact Or.inl rfl | exact Or.inr rfl) (hs : swapsWithSole [.Name x p] e pos.line X.env = pure false := by rfl) : PS X (.Assign [.Name x p] e pos) (tS G (sAsg i sf)) := ds_asg C.N hi hx he hf hs
theorem kAsgT (he : PE X e (tE G se)) (hg : DG X G tg js st) (hs : swapsWithSole [tg] e pos.line X.env = pure false := by rfl) (hw : swappedStores [tg] e X.env = pure none := by rfl) (h1 : (assignEach [tg] X.env).map (·.2) = [assign tg X.env] := by rfl) : PS X (.Assign [tg] e pos) (tS G (sAsgT st se)) := ds_asgT he hg hs hw h1
theorem kPar (C : Cok X G k) (i j : Nat) {x y : Str} {px py pt : Pos} {kt k2 pt2} (h : DA X G [a, b] ss 2) (hi : X.N[i]? = some x := by rfl) (hj : X.N[j]? = some y := by rfl) (hij : i ≠ j := by decide) (hx : X.env.scope.names.lookup x = some .local := by rfl) (hy : X.env.scope.names.lookup y = some .local := by rfl)
    (hw : swappedStores [.Tuple [.Name x px, .Name y py] kt pt] (.Tuple [a, b] k2 pt2) X.env = pure (some [x, y]) := by rfl) (hs : swapsWithSole [.Tuple [.Name x px, .Name y py] kt pt] (.Tuple [a, b] k2 pt2) pos.line X.env = pure false := by rfl) : PS X (.Assign [.Tuple [.Name x px, .Name y py] kt pt] (.Tuple [a, b] k2 pt2) pos) (tS G (sPar i j ss)) := ds_par C.c C.N hi hj hij hx hy h.pa hw hs
theorem kPar3 (C : Cok X G k) (i j l : Nat) {x y z : Str} {px py pz pt : Pos} {kt k2 pt2} (h : DA X G [a, b, c] ss 3) (hi : X.N[i]? = some x := by rfl) (hj : X.N[j]? = some y := by rfl) (hl : X.N[l]? = some z := by rfl) (hij : i ≠ j := by decide) (hil : i ≠ l := by decide) (hjl : j ≠ l := by decide) (hx : X.env.scope.names.lookup x = some .local := by rfl) (hy : X.env.scope.names.lookup y = some .local := by rfl) (hz : X.env.scope.names.lookup z = some .local := by rfl)
    (hw : swappedStores [.Tuple [.Name x px, .Name y py, .Name z pz] kt pt] (.Tuple [a, b, c] k2 pt2) X.env = pure (some [x, y, z]) := by rfl) (hs : swapsWithSole [.Tuple [.Name x px, .Name y py, .Name z pz] kt pt] (.Tuple [a, b, c] k2 pt2) pos.line X.env = pure false := by rfl) : PS X (.Assign [.Tuple [.Name x px, .Name y py, .Name z pz] kt pt] (.Tuple [a, b, c] k2 pt2) pos) (tS G (sPar3 i j l ss)) := ds_par3 C.c C.N hi hj hl hij hil hjl hx hy hz h.pa hw hs
theorem kAug (C : Cok X G k) (i : Nat) {op : Operator} {x : Str} (he : PE X e (tE G se)) (hop : op = .Add ∨ op = .Sub := by first | exact Or.inl rfl | exact Or.inr rfl) (hi : X.N[i]? = some x := by rfl) (hx : Loc X.env.scope x := by first | exact Or.inl rfl | exact Or.inr rfl) (hf : X.fn x = true ∨ X.env.scope.names.lookup x = some .local := by first | exact Or.inl rfl | exact Or.inr rfl) : PS X (.AugAssign (.Name x p) op e pos) (tS G (sAug i op se)) := ds_aug hop C.N hi hx he hf
theorem kSet (i : Nat) {x : Str} {ie : Expr} {sx : Rho → Rs Vl} (hi : PE X ie (tE G sx)) (he : PE X e (tE G se)) (hN : X.N[i]? = some x := by rfl) (hv : Vis X.env.scope x := by first | exact Or.inl rfl | exact Or.inr (Or.inl rfl) | exact Or.inr (Or.inr rfl)) (hd : (x == ("__debug__" : Str)) = false := by decide) (hcd : (x == ("__classdict__" : Str)) = false := by decide)
    (has : ∀ v, assign (.Subscript (.Name x p) ie p2) X.env v = (do
      let ov ← holding [v] (eval (.Name x p) X.env)
      let iv ← holding [v, ov] (eval ie X.env)
      standAt p2
      holding [v, ov, iv] (setItem ov iv v)
      release [v, ov, iv] []) := by intro _; rfl) (hs : swapsWithSole [.Subscript (.Name x p) ie p2] e pos.line X.env = pure false := by rfl) (hw : swappedStores [.Subscript (.Name x p) ie p2] e X.env = pure none := by rfl) (h1 : (assignEach [.Subscript (.Name x p) ie p2] X.env).map (·.2) = [assign (.Subscript (.Name x p) ie p2) X.env] := by rfl) :
    PS X (.Assign [.Subscript (.Name x p) ie p2] e pos) (tS G (sSetIx i sx se)) := ds_setIx hN hv hd hcd hi he has hs hw h1
theorem kFor (C : Cok X G k) (hi : DI X G tg it si) (hg : DG X G tg js st) (hb : PSs X body (tS G s)) (hs : ∀ x, foldedSetIterable it X.env x = pure x := by intro _; rfl) : PS X (.For tg it body [] pos) (tS G (sFor si st s)) := ds_for C.p C.c hi hg hb hs
theorem kWhile (C : Cok X G k) (n : Nat) (hc : DE X G c sc) (hb : PSs X body (tS G s)) : PS X (.While c body [] pos) (tS G (sWhile sc s n)) := ds_while C.p hc hb
theorem kExp (he : PE X e (tE G se)) (hs : swapsWith e none pos.line X.env = pure false := by rfl) : PS X (.Expr e pos) (tS G (sExp se)) := ds_expr he hs
/-! an own list's methods -/
theorem mApp (C : Cok X G k) (i : Nat) {x : Str} (h : DA X G [e] ss n) (ho : MtdOk X (.Name x p) "append" [e] apos cpos := by exact ⟨rfl, rfl, rfl⟩) (hN : X.N[i]? = some x := by rfl) (hv : Vis X.env.scope x := by first | exact Or.inl rfl | exact Or.inr (Or.inl rfl) | exact Or.inr (Or.inr rfl)) (hd : (x == ("__debug__" : Str)) = false := by decide) (hcd : (x == ("__classdict__" : Str)) = false := by decide) : DE X G (.Call (.Attribute (.Name x p) "append" apos) [e] [] cpos) (sMut i appF ss) := de_mut PySem.F.slot_list_append PySem.F.type_list_append mt_append mut_app C.K hN hv hd hcd h.pa h.pl ho
theorem mExt (C : Cok X G k) (i : Nat) {x : Str} (h : DA X G [e] ss n) (ho : MtdOk X (.Name x p) "extend" [e] apos cpos := by exact ⟨rfl, rfl, rfl⟩) (hN : X.N[i]? = some x := by rfl) (hv : Vis X.env.scope x := by first | exact Or.inl rfl | exact Or.inr (Or.inl rfl) | exact Or.inr (Or.inr rfl)) (hd : (x == ("__debug__" : Str)) = false := by decide) (hcd : (x == ("__classdict__" : Str)) = false := by decide) : DE X G (.Call (.Attribute (.Name x p) "extend" apos) [e] [] cpos) (sMut i extF ss) := de_mut PySem.F.slot_list_extend PySem.F.type_list_extend mt_extend mut_ext C.K hN hv hd hcd h.pa h.pl ho
theorem mPopAt (C : Cok X G k) (i : Nat) {x : Str} (h : DA X G [e] ss n) (ho : MtdOk X (.Name x p) "pop" [e] apos cpos := by exact ⟨rfl, rfl, rfl⟩) (hN : X.N[i]? = some x := by rfl) (hv : Vis X.env.scope x := by first | exact Or.inl rfl | exact Or.inr (Or.inl rfl) | exact Or.inr (Or.inr rfl)) (hd : (x == ("__debug__" : Str)) = false := by decide) (hcd : (x == ("__classdict__" : Str)) = false := by decide) : DE X G (.Call (.Attribute (.Name x p) "pop" apos) [e] [] cpos) (sMut i popAtF ss) := de_mut PySem.F.slot_list_pop PySem.F.type_list_pop mt_popAt mut_popAt C.K hN hv hd hcd h.pa h.pl ho
theorem mPop (C : Cok X G k) (i : Nat) {x : Str} (hbase : attributeBase (.Name x p) "pop" X.env (eval (.Name x p) X.env) = eval (.Name x p) X.env := by rfl) (hline : (apos.endLine == cpos.line) = true := by rfl) (hN : X.N[i]? = some x := by rfl) (hv : Vis X.env.scope x := by first | exact Or.inl rfl | exact Or.inr (Or.inl rfl) | exact Or.inr (Or.inr rfl)) (hd : (x == ("__debug__" : Str)) = false := by decide) (hcd : (x == ("__classdict__" : Str)) = false := by decide) : DE X G (.Call (.Attribute (.Name x p) "pop" apos) [] [] cpos) (sMut i popF sNil) := de_mut0 PySem.F.slot_list_pop PySem.F.type_list_pop mt_pop mut_pop C.K hN hv hd hcd hbase hline
end
end L3
/-! L3, part 19: constants, levels, the law's end. -/
namespace L3
open PySem PySem.Spec PyProof.Rows L2
structure Kc (mg : Str → Option Value) (x : Str) (d : D) : Prop where
  ex : ∃ v u, mg x = some u ∧ RelV v u ∧ ∀ K F, Rp K F v d
theorem wGlob {X : Cx} {G : Gx} {x : Str} {d : D} {pos : Pos} (h : Kc X.mg x d) (hg : Gl X x := by rfl) (hd : (x == ("__debug__" : Str)) = false := by decide) : DE X G (.Name x pos) (sC d) := by
  obtain ⟨v, u, h1, h2, h3⟩ := h.ex
  exact de_glob hg h1 h2 (fun F => h3 _ F) hd
theorem Kn.up {P : Program} {w : World} {K : PySem.W.Frag} {mg : Str → Option Value} {base : Heap} {cn : Str → Option Addr} {j k : Nat} {x : Str} {ms : List Bool} (h : Kn P w K mg base cn j x ms fun _ => .bad) (_ : j ≤ k) : Kn P w K mg base cn k x ms fun _ => .bad := by
  obtain ⟨f, fd, ps, F, hx, hk, hb⟩ := h.ex
  exact ⟨⟨f, fd, ps, ⟨fun vs H Q E h => by obtain ⟨_, _, _, _, _, _, h⟩ := h; exact h.elim, fun A outer s H args us vs Q E _ _ _ _ h => by obtain ⟨_, _, _, _, _, _, h⟩ := h; exact h.elim⟩, hx, hk, hb⟩⟩
/-- the script, as the law gets it -/
theorem law_sp {K : PySem.W.Frag} {cn : Str → Option Addr} {φ : Fn} {H : Hp} {a : Addr} {ns : List Int} (hS : SqL K H a (ns.map V.int)) (h : ∃ outs, φ [scrD ns] = .ok (.bool true) outs) : spD K cn [false] φ [.ref a] H (fun v _ => v = .bl true) fun _ _ _ => False := by
  obtain ⟨outs, e⟩ := h
  refine ⟨H, fun _ => none, [scrD ns], ⟨Sub.refl _, (fun _ _ h => by cases h), (fun _ _ h => by cases h)⟩, ⟨.scr hS, trivial⟩, .nil, ?_⟩
  rw [e]
  intro v H' F' _ _ r _
  cases r
  rfl
theorem cx_false {P : Program} {w : World} {H : Hp} {s : Shared} {e : Value} {s' : Shared} (h : L2.CX P w [] H s (fun _ _ _ => False) e s') : False := by
  obtain ⟨_, _, _, _, _, _, _, _, _, _, _, _, h⟩ := h
  exact h
end L3
/-! L3, part 20: a tuple or list from its end, [::-1]. -/
namespace L3
open PySem PySem.Spec PyProof.Rows L2
section
variable {prog : Program} {w : World} {A : Around} {E : Value → Shared → Prop} {s : Shared}
theorem applied_back {sl : Addr} {t : Tok} {n : Nat} {Q : Int × Int × Nat → Shared → Prop} (hs : s.heap.IsSliceOf sl .none .none (.int (-1) t))
    (h : Q ((n : Int) - 1, -1, n) s) : wpAny (model prog w) A (Builtin.Slice.sliceApplied (.ref sl) (pure (n : Int))) Q E s := by
  obtain ⟨osl, at_, cl, dat⟩ := id hs
  unfold Builtin.Slice.sliceApplied Builtin.Slice.sliceFields
  refine wpAny_bind (wpAny_bind (wpAny_field at_ dat (x := .none) rfl (wpAny_bind (wpAny_field at_ dat (x := .none) rfl (wpAny_bind (wpAny_field at_ dat (x := .int (-1) t) rfl (wpAny_pure ?_)))))))
  refine wpAny_bind (slicePart_int ?_)
  show wpAny _ _ (if ((-1 : Int) == 0) = true then _ else _) _ _ s
  rw [if_neg (by decide)]
  refine wpAny_bind (slicePart_none (wpAny_bind (slicePart_none (wpAny_bind (wpAny_pure ?_)))))
  show wpAny _ _ (match Builtin.Slice.sliceAdjust none none (-1) (n : Int) with | (lo, hi) => pure (lo, (-1 : Int), Builtin.Slice.slicePlaces lo hi (-1))) _ _ s
  have e : Builtin.Slice.sliceAdjust none none (-1) (n : Int) = ((n : Int) - 1, -1) := by
    unfold Builtin.Slice.sliceAdjust
    simp
  rw [e]
  have e2 : Builtin.Slice.slicePlaces ((n : Int) - 1) (-1) (-1) = n := by
    unfold Builtin.Slice.slicePlaces
    simp
    omega
  show wpAny _ _ (pure (((n : Int) - 1, (-1 : Int), Builtin.Slice.slicePlaces ((n : Int) - 1) (-1) (-1)))) _ _ s
  rw [e2]
  exact wpAny_pure h
end
end L3
namespace L3
open PySem PySem.Spec PyProof.Rows L2
theorem fm_map {α β : Type} {f : α → Option β} {g : α → β} : ∀ {l : List α}, (∀ m ∈ l, f m = some (g m)) → l.filterMap f = l.map g
  | [], _ => rfl
  | x :: r, h => by
    rw [List.filterMap_cons, h x List.mem_cons_self, List.map_cons, fm_map fun m hm => h m (List.mem_cons_of_mem _ hm)]
theorem pick_back (xs : Array Value) : ((List.range xs.size).filterMap fun (m : Nat) => xs[(((xs.size : Int) - 1) + (m : Int) * (-1)).toNat]?).toArray = xs.toList.reverse.toArray := by
  congr 1
  apply List.ext_getElem?
  intro i
  have e : ((List.range xs.size).filterMap fun (m : Nat) => xs[(((xs.size : Int) - 1) + (m : Int) * (-1)).toNat]?) = (List.range xs.size).map fun m => xs[xs.size - 1 - m]! := by
    apply fm_map
    intro m hm
    rw [List.mem_range] at hm
    rw [show ((xs.size : Int) - 1 + (m : Int) * (-1)).toNat = xs.size - 1 - m by omega]
    have hlt : xs.size - 1 - m < xs.size := by omega
    rw [Array.getElem?_eq_getElem hlt]
    simp [hlt]
  rw [e]
  by_cases hi : i < xs.size
  · rw [List.getElem?_map, List.getElem?_range hi]
    have hlt : xs.size - 1 - i < xs.size := by omega
    rw [List.getElem?_reverse (by simpa using hi)]
    simp [hlt]
  · rw [List.getElem?_eq_none (by simpa using hi), List.getElem?_eq_none (by simpa using hi)]
section
variable {prog : Program} {w : World} {A : Around} {E : Value → Shared → Prop} {s : Shared}
theorem item_back {t sl : Addr} {items : Array Value} {tk : Tok} {Q : Value → Shared → Prop} (ht : IsTup s.heap t items) (hs : s.heap.IsSliceOf sl .none .none (.int (-1) tk))
    (h : Q (.ref s.heap.objs.size) { s with heap := s.heap.push { cls := .type "tuple", data := .seq items.toList.reverse.toArray } }) (hsz : items.size ≤ sizeLine) : wpAny (model prog w) A (getItem (.ref t) (.ref sl)) Q E s := by
  have fits : sizeOk (.seq items.toList.reverse.toArray) := by
    show items.toList.reverse.toArray.size ≤ sizeLine
    simpa using hsz
  obtain ⟨osl, at_, cl, dat⟩ := id hs
  have tyS : s.TypeIs (.ref sl) "slice" := ⟨osl, at_, cl⟩
  unfold getItem
  try with_reducible refine wpAny_holding ?_
  first | refine wpAny_bind (wpAny_pure ?_) | skip
  refine wpAny_bind (wpAny_sequenceKey ht.typeIs (by decide) ?_)
  refine wpAny_bind (wpAny_callSpecial?_slot (name := Str.ofString "__getitem__") ht.typeIs PyProof.Rows.slot_tuple_getitem
    (wpAny_call_entry PyProof.Rows.slot_tuple_getitem ht.typeIs entry_tuple_getitem ?_ (args_tuple_getitem _ _)))
  show wpAny _ _ (Builtin.Tuple.tupleItemsOf (.ref t) >>= _) _ _ s
  refine wpAny_bind (tupleItemsOf_ ht ?_)
  refine wpAny_bind (wpAny_typeOf tyS ?_)
  rw [if_pos (by decide)]
  refine wpAny_bind (applied_back hs ?_)
  have no : ¬ ((((items.size : Int) - 1) == 0 && (-1 : Int) == 1 && items.size == items.size) = true) := by
    intro q
    rw [Bool.and_eq_true, Bool.and_eq_true] at q
    exact absurd q.1.2 (by decide)
  show wpAny _ _ (if (((items.size : Int) - 1) == 0 && (-1 : Int) == 1 && items.size == items.size) = true then _ else _) _ _ s
  rw [if_neg no, pick_back]
  first
    | exact wpAny_bind (m := Builtin.Tuple.tupleExact _) (wpAny_newObj_type (wpAny_pure ⟨_, rfl, wpAny_pure h⟩) fits)
    | exact wpAny_bind (m := Builtin.Tuple.tupleExact _) (wpAny_newObj_type (wpAny_bind (wpAny_pure (wpAny_pure ⟨_, rfl, wpAny_pure h⟩))) fits)
    | exact wpAny_bind (wpAny_bind (m := Builtin.Tuple.tupleExact _) (wpAny_newObj_type (wpAny_pure (wpAny_pure ⟨_, rfl, wpAny_pure h⟩)) fits))
    | exact wpAny_bind (wpAny_bind (m := Builtin.Tuple.tupleExact _) (wpAny_newObj_type (wpAny_pure ⟨_, rfl, wpAny_pure h⟩) fits))
end
end L3
namespace L3
open PySem PySem.Spec PyProof.Rows L2
def rBack (K : PySem.W.Frag) (x : V) (H : Hp) (Q : VK) : Prop := (∃ a xs, x = .ref a ∧ SqL K H a xs ∧ ∀ p, H p = none → Q (.ref p) (upd H p (.lst xs.reverse))) ∨ ∃ a xs, x = .ref a ∧ SqT K H a xs ∧ ∀ p, H p = none → Q (.ref p) (upd H p (.tup xs.reverse))
theorem pe_back {X : Cx} {e : Expr} {te : TE} {k : Nat} {p1 p2 p3 pos : Pos} (he : PE X e te) : PE X (.Subscript e (.Slice none none (some (.UnaryOp .USub (.Constant (.int 1) k p1) p2)) p3) pos) (fun σ H Q => te σ H fun x H1 => rBack X.K x H1 Q) := by
  refine ⟨fun pins s σ H Q I asks => ?_⟩
  refine Subscript_ (thn (he.run pins s σ H _ I asks) fun v s1 ⟨x, H1, I1, r1, q1⟩ => ?_)
  have minus : PO X (some (.UnaryOp .USub (.Constant (.int 1) k p1) p2)) (tPart (tUn (rU fun i => .int (-i)) (tC (.int 1)))) := po_some (pe_un un_neg pe_int)
  refine wpAny_Slice (thn (po_none.run pins s1 σ H1 (fun o H2 => o = none ∧ H2 = H1) I1 ⟨rfl, rfl⟩) fun vl s2 ⟨l, H2, I2, pl, el, e2⟩ => ?_)
  subst el e2
  refine thn (po_none.run pins s2 σ H2 (fun o H3 => o = none ∧ H3 = H2) I2 ⟨rfl, rfl⟩) fun vu s3 ⟨u, H3, I3, pu, eu, e3⟩ => ?_
  subst eu e3
  refine thn (minus.run pins s3 σ H3 (fun o H4 => o = some (-1) ∧ H4 = H3) I3 ⟨1, rfl, -1, rfl, rfl, rfl⟩) fun vs s4 ⟨o, H4, I4, ps, eo, e4⟩ => ?_
  subst eo e4
  have I5 : Inv X pins σ H4 { s4 with heap := s4.heap.push { cls := .type "slice", data := .fields #[vl, vu, vs] } } := I4.kept (t' := s4.toks) fun b ob q => Heap.get?_push_of_some _ q
  rcases q1 with ⟨a, xs, ex, hx, q⟩ | ⟨a, xs, ex, hx, q⟩
  · subst ex
    cases r1
    obtain ⟨its, r, ht, hz⟩ := I5.list hx
    have same := r.length
    show wpAny (model X.prog X.w) X.A (subscriptTail e (.Slice none none (some (.UnaryOp .USub (.Constant (.int 1) k p1) p2)) p3) (.ref a) (.ref s4.heap.objs.size)) (EP X pins σ Q) X.xe { s4 with heap := s4.heap.push { cls := .type "slice", data := .fields #[vl, vu, vs] } }
    refine tail_any (ops := [.ref a, .ref s4.heap.objs.size]) ht.isList.typeIs (PySem.slot_list_getitem.lookup) ?_ (by with_unfolding_all rfl)
    refine wpAny_getItem_list_slice ht.isList (Heap.IsSliceOf.new _ vl vu vs) pl pu ps (by decide) ?_ (by rw [List.size_toArray]; omega)
    rw [PySem.W.krv_pick]
    refine ⟨.ref _, _, I5.laid (t' := s4.toks) (o := .lst xs.reverse) (fun b ob q => Heap.get?_push_of_some _ q) (Nat.le_refl _) ?_, rfl, q _ (I5.hok.fresh (Nat.le_refl _))⟩
    exact ⟨by rw [List.length_reverse]; exact hz, _, 0, r.reverse, Heap.get?_push_size _ rfl⟩
  · subst ex
    cases r1
    cases pl
    cases pu
    obtain ⟨tk, rfl⟩ : ∃ tk, vs = .int (-1) tk := by cases ps; exact ⟨_, rfl⟩
    obtain ⟨its, r, ht, hz⟩ := I5.tuple hx
    have same : its.toArray.size = xs.length := by rw [List.size_toArray]; exact r.length.symm
    show wpAny (model X.prog X.w) X.A (subscriptTail e (.Slice none none (some (.UnaryOp .USub (.Constant (.int 1) k p1) p2)) p3) (.ref a) (.ref s4.heap.objs.size)) (EP X pins σ Q) X.xe { s4 with heap := s4.heap.push { cls := .type "slice", data := .fields #[.none, .none, .int (-1) tk] } }
    refine tail_any (ops := [.ref a, .ref s4.heap.objs.size]) ht.typeIs (PyProof.Rows.slot_tuple_getitem.lookup) ?_ (by with_unfolding_all rfl)
    refine item_back ht (Heap.IsSliceOf.new ..) ?_ (by rw [same]; exact hz)
    refine ⟨.ref _, _, I5.laid (t' := s4.toks) (o := .tup xs.reverse) (fun b ob q => Heap.get?_push_of_some _ q) (Nat.le_refl _) ?_, rfl, q _ (I5.hok.fresh (Nat.le_refl _))⟩
    exact ⟨by rw [List.length_reverse]; exact hz, _, r.reverse, IsTup.new _ _⟩
/-- xs[::-1]: a new list; a new tuple -/
def backOf (ρ : Rho) (o : Option D) : Rs Vf :=
  match o with
  | some (.list xs) => .ok (.fr (.list xs.reverse)) ρ
  | some (.tuple xs) => .ok (.v (.d (.tuple xs.reverse))) ρ
  | _ => .bad
def sBack (a : Rho → Rs Vl) : Rho → Rs Vf := fun ρ => (a ρ).bind fun x ρ => backOf ρ (x.cont ρ)
theorem wBack {X : Cx} {G : Gx} {k0 : Nat} (C : Cok X G k0) {e : Expr} {se : Rho → Rs Vl} {k : Nat} {p1 p2 p3 pos : Pos} (he : PE X e (tE G se)) : DF X G (.Subscript e (.Slice none none (some (.UnaryOp .USub (.Constant (.int 1) k p1) p2)) p3) pos) (sBack se) := by
  refine ⟨PE.imp (pe_back he) fun σ H Q asks => ?_, fun _ => rfl⟩
  obtain ⟨ρ, F, O, w, asks⟩ := asks
  refine Tgt.finF.bind w asks fun x ρ1 v H1 F1 w1 s1 rx h1 => ?_
  unfold backOf at h1
  split at h1
  · rename_i xs e1
    obtain ⟨b, us, rfl, q, r⟩ := (w1.at rx e1).list w1.f
    exact .inl ⟨b, us, rfl, SqL.of q, fun p hp => w1.laidF h1 hp r.reverse⟩
  · rename_i xs e1
    obtain ⟨b, us, rfl, _, q, r⟩ := (w1.at rx e1).tuple w1.f
    exact .inr ⟨b, us, rfl, by rw [C.K]; exact q, fun p hp => h1 _ _ _ (w1.alloc hp) (sub_upd (w1.f.none hp)) (Rp.tup (.inl (.inl upd_same)) (r.reverse.mono (sub_upd (w1.f.none hp))))⟩
  · exact h1.elim
end L3
/-! L3P: reading pure meanings. -/
namespace L3
open PySem PySem.Spec PyProof.Rows L2

/-- the result is fine and Q holds of it -/
def Wp {α : Type} (r : Rs α) (Q : α → Rho → Prop) : Prop :=
  match r with
  | .ok a ρ => Q a ρ
  | _ => False
def WpF (r : FR) (Q : D → List Cell → Prop) : Prop :=
  match r with
  | .ok d o => Q d o
  | _ => False
def WpO {α : Type} (o : Option α) (Q : α → Prop) : Prop :=
  match o with
  | some a => Q a
  | none => False
section
variable {α β : Type} {Q : α → Rho → Prop} {ρ : Rho}
theorem Wp.to {r : Rs α} {Q' : α → Rho → Prop} (h : Wp r Q) (i : ∀ a ρ, Q a ρ → Q' a ρ) : Wp r Q' := by
  cases r with
  | ok a ρ => exact i a ρ h
  | err => exact h.elim
  | bad => exact h.elim
theorem Wp.ex {r : Rs α} (h : Wp r Q) : ∃ a ρ, r = .ok a ρ ∧ Q a ρ := by
  cases r with
  | ok a ρ => exact ⟨a, ρ, rfl, h⟩
  | err => exact h.elim
  | bad => exact h.elim
theorem WpF.ex {r : FR} {Q : D → List Cell → Prop} (h : WpF r Q) : ∃ a ρ, r = .ok a ρ ∧ Q a ρ := by
  cases r with
  | ok a ρ => exact ⟨a, ρ, rfl, h⟩
  | err => exact h.elim
  | bad => exact h.elim
theorem WpF.to {r : FR} {Q Q' : D → List Cell → Prop} (h : WpF r Q) (i : ∀ a ρ, Q a ρ → Q' a ρ) : WpF r Q' := by
  cases r with
  | ok a ρ => exact i a ρ h
  | err => exact h.elim
  | bad => exact h.elim
theorem wp_ok {a : α} : Wp (.ok a ρ) Q = Q a ρ := (rfl)
theorem wp_bad : Wp (.bad : Rs α) Q = False := (rfl)
theorem wp_bind {r : Rs β} {f : β → Rho → Rs α} : Wp (r.bind f) Q = Wp r fun b ρ => Wp (f b ρ) Q := by cases r <;> rfl
theorem wp_okB {r : Rs β} {f : β → Rho → Rs α} : Wp (okB r f) Q = Wp r fun b ρ => Wp (f b ρ) Q := by cases r <;> rfl
theorem wp_ite {c : Bool} {x y : Rs α} : Wp (if c = true then x else y) Q = if c = true then Wp x Q else Wp y Q := by cases c <;> rfl
theorem wp_iteP {c : Prop} [Decidable c] {x y : Rs α} : Wp (if c then x else y) Q = if c then Wp x Q else Wp y Q := by split <;> rfl
theorem wpo_some {a : α} {Q : α → Prop} : WpO (some a) Q = Q a := (rfl)
theorem wpo_none {Q : α → Prop} : WpO (none : Option α) Q = False := (rfl)
theorem wp_ofO {o : Option α} : Wp (ofO o ρ) Q = WpO o fun a => Q a ρ := by cases o <;> rfl
end
section
variable {ρ : Rho} {Q : Vl → Rho → Prop} {QF : Vf → Rho → Prop} {QA : List Vl → Rho → Prop} {QB : Bool → Rho → Prop} {QS : Fl → Rho → Prop} {QD : List D → Rho → Prop} {a b c e : Rho → Rs Vl} {ss : Rho → Rs (List Vl)} {sf : Rho → Rs Vf} {s t : Rho → Rs Fl} {f g : D → D → Option D} {i : Nat} {d : D}
/-! names, constants, operators -/
def atCell (c : Option Cell) (i : Nat) (Q : Vl → Prop) : Prop :=
  match c with
  | some (.val d) => Q (.d d)
  | some (.own _ _) => Q (.bv i)
  | some (.lck _ _) => Q (.bv i)
  | _ => False
theorem wp_var : Wp (sVar i ρ) Q = atCell ρ[i]? i fun x => Q x ρ := by
  unfold sVar atCell
  cases ρ[i]? with
  | none => rfl
  | some c => cases c <;> rfl
theorem at_val {Q : Vl → Prop} : atCell (some (.val d)) i Q = Q (.d d) := (rfl)
theorem at_own {Q : Vl → Prop} {p : Bool} : atCell (some (.own p d)) i Q = Q (.bv i) := (rfl)
theorem wp_c : Wp (sC d ρ) Q = Q (.d d) ρ := (rfl)
theorem wp_bin : Wp (sBin f a b ρ) Q = Wp (a ρ) fun x ρ => Wp (b ρ) fun y ρ => WpO ((x.cont ρ).bind fun p => (y.cont ρ).bind fun q => f p q) fun z => Q (.d z) ρ := by
  unfold sBin
  rw [wp_bind]
  simp only [wp_bind]
  congr 1; funext x ρ1; congr 1; funext y ρ2
  unfold two ret
  cases ((x.cont ρ2).bind fun p => (y.cont ρ2).bind fun q => f p q) <;> rfl
theorem wp_un {f : D → Option D} : Wp (sUn f a ρ) Q = Wp (a ρ) fun x ρ => WpO ((x.cont ρ).bind f) fun z => Q (.d z) ρ := by
  unfold sUn
  rw [wp_bind]
  congr 1; funext x ρ1
  unfold one ret
  cases ((x.cont ρ1).bind f) <;> rfl
theorem cont_d {x : D} : (Vl.d x).cont ρ = some x := (rfl)
theorem cont_bv : (Vl.bv i).cont ρ = ρ[i]?.bind Cell.cont := (rfl)
theorem cont_val : (Cell.val d).cont = some d := (rfl)
theorem cont_own {p : Bool} : (Cell.own p d).cont = some d := (rfl)
theorem wp_asB : Wp (asB a ρ) QB = Wp (a ρ) fun x ρ => WpO (x.cont ρ) fun z => match z with | .bool k => QB k ρ | _ => False := by
  unfold asB
  rw [wp_bind]
  congr 1; funext x ρ1
  cases x.cont ρ1 with
  | none => rfl
  | some z => cases z <;> rfl
theorem wp_not : Wp (sNot a ρ) Q = Wp (asB a ρ) fun k ρ => Q (.d (.bool (!k))) ρ := by unfold sNot; rw [wp_bind]; rfl
theorem wp_and : Wp (sAnd a b ρ) Q = Wp (asB a ρ) fun k ρ => if k = true then Wp (b ρ) Q else Q (.d (.bool false)) ρ := by
  unfold sAnd; rw [wp_bind]; congr 1; funext k ρ1; cases k <;> rfl
theorem wp_or : Wp (sOr a b ρ) Q = Wp (asB a ρ) fun k ρ => if k = true then Q (.d (.bool true)) ρ else Wp (b ρ) Q := by
  unfold sOr; rw [wp_bind]; congr 1; funext k ρ1; cases k <;> rfl
theorem wp_ifE : Wp (sIf c a b ρ) Q = Wp (asB c ρ) fun k ρ => if k = true then Wp (a ρ) Q else Wp (b ρ) Q := by
  unfold sIf; rw [wp_bind]; congr 1; funext k ρ1; cases k <;> rfl
theorem wp_chain : Wp (sChain f g a b c ρ) Q = Wp (a ρ) fun x ρ => Wp (b ρ) fun y ρ => WpO ((x.cont ρ).bind fun p => (y.cont ρ).bind fun q => f p q) fun k => match k with
    | .bool true => Wp (c ρ) fun z ρ => WpO ((y.cont ρ).bind fun p => (z.cont ρ).bind fun q => g p q) fun w => Q (.d w) ρ
    | .bool false => Q (.d (.bool false)) ρ
    | _ => False := by
  unfold sChain
  rw [wp_bind]
  congr 1; funext x ρ1
  rw [wp_bind]
  congr 1; funext y ρ2
  cases ((x.cont ρ2).bind fun p => (y.cont ρ2).bind fun q => f p q) with
  | none => rfl
  | some k =>
    cases k with
    | bool k =>
      cases k with
      | false => rfl
      | true =>
        show Wp ((c ρ2).bind _) Q = _
        rw [wp_bind]
        show _ = Wp (c ρ2) _
        congr 1; funext z ρ3
        unfold two ret
        cases ((y.cont ρ3).bind fun p => (z.cont ρ3).bind fun q => g p q) <;> rfl
    | _ => rfl
/-! arguments, displays -/
theorem wp_nil : Wp (sNil ρ) QA = QA [] ρ := (rfl)
theorem wp_cons : Wp (sCons a ss ρ) QA = Wp (a ρ) fun x ρ => Wp (ss ρ) fun xs ρ => QA (x :: xs) ρ := by
  unfold sCons; rw [wp_bind]; congr 1; funext x ρ1; rw [wp_bind]; rfl
theorem wp_frz_d {x : D} {QD : D → Rho → Prop} : Wp (frz (.d x) ρ) QD = QD x ρ := (rfl)
def frzAt (c : Option Cell) (i : Nat) (ρ : Rho) (Q : D → Rho → Prop) : Prop :=
  match c with
  | some (.val d) => Q d ρ
  | some (.own _ d) => Q d (ρ.set i (.val d))
  | _ => False
theorem wp_frz_bv {QD : D → Rho → Prop} : Wp (frz (.bv i) ρ) QD = frzAt ρ[i]? i ρ QD := by
  unfold frz frzAt
  dsimp only
  cases ρ[i]? with
  | none => rfl
  | some c => cases c <;> rfl
theorem fa_val {Q : D → Rho → Prop} : frzAt (some (.val d)) i ρ Q = Q d ρ := (rfl)
theorem fa_own {Q : D → Rho → Prop} {p : Bool} : frzAt (some (.own p d)) i ρ Q = Q d (ρ.set i (.val d)) := (rfl)
theorem wp_frzs_nil : Wp (frzs [] ρ) QD = QD [] ρ := (rfl)
theorem wp_frzs_cons {x : Vl} {xs : List Vl} : Wp (frzs (x :: xs) ρ) QD = Wp (frz x ρ) fun d ρ => Wp (frzs xs ρ) fun ds ρ => QD (d :: ds) ρ := by
  show Wp ((frz x ρ).bind _) QD = _
  rw [wp_bind]; congr 1; funext d ρ1; rw [wp_bind]; rfl
theorem wp_tup : Wp (sTup ss ρ) Q = Wp (ss ρ) fun xs ρ => Wp (frzs xs ρ) fun ds ρ => if szOk ds.length = true then Q (.d (.tuple ds)) ρ else False := by
  unfold sTup; rw [wp_bind]; congr 1; funext xs ρ1; rw [wp_bind]; congr 1; funext ds ρ2; rw [wp_ite]; rfl
theorem wp_lst : Wp (sLst ss ρ) QF = Wp (ss ρ) fun xs ρ => Wp (frzs xs ρ) fun ds ρ => if szOk ds.length = true then QF (.fr (.list ds)) ρ else False := by
  unfold sLst; rw [wp_bind]; congr 1; funext xs ρ1; rw [wp_bind]; congr 1; funext ds ρ2; rw [wp_ite]; rfl
theorem wp_fun {f : List D → Option D} : Wp (sFun f ss ρ) Q = Wp (ss ρ) fun xs ρ => WpO ((conts ρ xs).bind f) fun z => Q (.d z) ρ := by
  unfold sFun; rw [wp_bind]; congr 1; funext xs ρ1
  cases (conts ρ1 xs).bind f <;> rfl
theorem wp_funF {f : List D → Option D} : Wp (sFunF f ss ρ) QF = Wp (ss ρ) fun xs ρ => WpO ((conts ρ xs).bind f) fun z => QF (.fr z) ρ := by
  unfold sFunF; rw [wp_bind]; congr 1; funext xs ρ1
  cases (conts ρ1 xs).bind f <;> rfl
theorem conts_nil : conts ρ [] = some [] := (rfl)
theorem conts_cons {x : Vl} {xs : List Vl} : conts ρ (x :: xs) = (x.cont ρ).bind fun d => (conts ρ xs).map fun ds => d :: ds := (rfl)
theorem wp_unF : Wp (unF sf ρ) Q = Wp (sf ρ) fun r ρ => match r with | .v x => Q x ρ | .fr d => Q (.d d) ρ := by
  unfold unF; rw [wp_bind]; congr 1; funext r ρ1; cases r <;> rfl
theorem wp_liF : Wp (liF a ρ) QF = Wp (a ρ) fun x ρ => QF (.v x) ρ := by unfold liF; rw [wp_bind]; rfl
/-! statements -/
theorem wp_nx : Wp (sNx ρ) QS = QS .nx ρ := (rfl)
theorem wp_sbad : Wp (sBad ρ) QS = False := (rfl)
theorem wp_seq : Wp (sSeq s t ρ) QS = Wp (s ρ) fun f ρ => match f with | .nx => Wp (t ρ) QS | f => QS f ρ := by
  unfold sSeq; rw [wp_bind]; congr 1; funext f ρ1; cases f <;> rfl
theorem wp_ifS : Wp (sIfS c s t ρ) QS = Wp (asB c ρ) fun k ρ => if k = true then Wp (s ρ) QS else Wp (t ρ) QS := by
  unfold sIfS; rw [wp_bind]; congr 1; funext k ρ1; cases k <;> rfl
theorem wp_ret : Wp (sRet a ρ) QS = Wp (a ρ) fun x ρ => Wp (frz x ρ) fun d ρ => QS (.rt d) ρ := by
  unfold sRet; rw [wp_bind]; congr 1; funext x ρ1; rw [wp_bind]; rfl
theorem wp_exp : Wp (sExp a ρ) QS = Wp (a ρ) fun _ ρ => QS .nx ρ := by unfold sExp; rw [wp_bind]; rfl
def putOk (c : Option Cell) : Bool :=
  match c with
  | some (Cell.own true _) => false
  | some (Cell.lck _ _) => false
  | some _ => true
  | none => false
theorem wp_put {x : Cell} : Wp (put i x ρ) QS = if putOk ρ[i]? = true then QS .nx (ρ.set i x) else False := by
  unfold put putOk
  cases ρ[i]? with
  | none => rfl
  | some c =>
    cases c with
    | own p d => cases p <;> rfl
    | _ => rfl
theorem wp_asg : Wp (sAsg i sf ρ) QS = Wp (sf ρ) fun r ρ => match r with | .v x => Wp (frz x ρ) fun d ρ => Wp (put i (.val d) ρ) QS | .fr d => Wp (put i (.own false d) ρ) QS := by
  unfold sAsg; rw [wp_bind]; congr 1; funext r ρ1
  cases r with
  | v x => exact wp_bind
  | fr d => rfl
theorem wp_thenG {r : Rs Fl} {k : Rho → Rs Fl} : Wp (thenG r k) QS = Wp r fun f ρ => match f with | .nx => Wp (k ρ) QS | _ => False := by
  cases r with
  | ok f ρ => cases f <;> rfl
  | _ => rfl
theorem wp_asgT {st : D → Rho → Rs Fl} : Wp (sAsgT st a ρ) QS = Wp (a ρ) fun x ρ => Wp (frz x ρ) fun d ρ => Wp (st d ρ) fun f ρ => match f with | .nx => QS .nx ρ | _ => False := by
  unfold sAsgT; rw [wp_bind]; congr 1; funext x ρ1; rw [wp_bind]; congr 1; funext d ρ2; rw [wp_thenG]; congr 1
theorem wp_gN : Wp (gN i d ρ) QS = Wp (put i (.val d) ρ) QS := (rfl)
theorem wp_gsN : Wp (gsN [] ρ) QS = QS .nx ρ := (rfl)
theorem wp_gsC {f : D → Rho → Rs Fl} {fs : List D → Rho → Rs Fl} {ds : List D} : Wp (gsC f fs (d :: ds) ρ) QS = Wp (f d ρ) fun r ρ => match r with | .nx => Wp (fs ds ρ) QS | _ => False := by
  unfold gsC; exact wp_thenG
theorem wp_gTpT {n : Nat} {fs : List D → Rho → Rs Fl} {ds : List D} : Wp (gTp n fs (.tuple ds) ρ) QS = if ds.length = n then Wp (fs ds ρ) QS else False := by
  unfold gTp; show Wp (if ds.length = n then fs ds ρ else .bad) QS = _; rw [wp_iteP]; rfl
theorem wp_gTpL {n : Nat} {fs : List D → Rho → Rs Fl} {ds : List D} : Wp (gTp n fs (.list ds) ρ) QS = if ds.length = n then Wp (fs ds ρ) QS else False := by
  unfold gTp; show Wp (if ds.length = n then fs ds ρ else .bad) QS = _; rw [wp_iteP]; rfl
theorem wp_par {j : Nat} : Wp (sPar i j ss ρ) QS = Wp (ss ρ) fun xs ρ => Wp (frzs xs ρ) fun ds ρ => Wp (put2 i j ds ρ) QS := by
  unfold sPar; rw [wp_bind]; congr 1; funext x ρ1; rw [wp_bind]
theorem wp_put2 {j : Nat} {x y : D} : Wp (put2 i j [x, y] ρ) QS = Wp (put i (.val x) ρ) fun f ρ => match f with | .nx => Wp (put j (.val y) ρ) QS | _ => False := by
  unfold put2; exact wp_thenG
theorem wp_for {it : Rho → Rs (List D)} {st : D → Rho → Rs Fl} : Wp (sFor it st s ρ) QS = Wp (it ρ) fun ds ρ => Wp (sLoop st s ds ρ) QS := by unfold sFor; rw [wp_bind]
theorem wp_loop_nil {st : D → Rho → Rs Fl} : Wp (sLoop st s [] ρ) QS = QS .nx ρ := (rfl)
theorem wp_loop_cons {st : D → Rho → Rs Fl} {ds : List D} : Wp (sLoop st s (d :: ds) ρ) QS = Wp (st d ρ) fun r ρ => match r with
    | .nx => Wp (s ρ) fun f ρ => match f with
      | .nx => Wp (sLoop st s ds ρ) QS
      | .ct => Wp (sLoop st s ds ρ) QS
      | .bk => QS .nx ρ
      | .rt d => QS (.rt d) ρ
    | _ => False := by
  show Wp (thenG (st d ρ) _) QS = _
  rw [wp_thenG]; congr 1; funext r ρ1
  cases r with
  | nx =>
    show Wp ((s ρ1).bind _) QS = Wp (s ρ1) _
    rw [wp_bind]; congr 1; funext f ρ2; cases f <;> rfl
  | _ => rfl
def augAt (c : Option Cell) (Q : D → Prop) : Prop :=
  match c with
  | some (Cell.val x) => Q x
  | _ => False
theorem aa_val {Q : D → Prop} : augAt (some (.val d)) Q = Q d := (rfl)
theorem wp_aug {op : Operator} : Wp (sAug i op e ρ) QS = augAt ρ[i]? fun x => Wp (e ρ) fun y ρ => WpO ((y.cont ρ).bind fun y => augD op x y) fun z => Wp (put i (.val z) ρ) QS := by
  unfold sAug augAt
  cases ρ[i]? with
  | none => rfl
  | some c =>
    cases c with
    | val x =>
      show Wp ((e ρ).bind _) QS = Wp (e ρ) _
      rw [wp_bind]; congr 1; funext y ρ1
      cases (y.cont ρ1).bind fun y => augD op x y <;> rfl
    | _ => rfl
theorem wp_setIx {ix : Rho → Rs Vl} : Wp (sSetIx i ix e ρ) QS = Wp (e ρ) fun x ρ => Wp (frz x ρ) fun d ρ => if (ownList ρ i).isSome = true then Wp (ix ρ) fun y ρ => WpO (y.cont ρ) fun k => match k with | .int k => Wp (setAt ρ i k d) QS | _ => False else False := by
  unfold sSetIx
  rw [wp_bind]; congr 1; funext x ρ1
  rw [wp_bind]; congr 1; funext d ρ2
  rw [wp_ite]
  congr 1
  rw [wp_bind]; congr 1; funext y ρ3
  cases y.cont ρ3 with
  | none => rfl
  | some z => cases z <;> rfl
theorem wp_setAt {k : Int} : Wp (setAt ρ i k d) QS = WpO (ownList ρ i) fun q => WpO (ixN q.2.length k) fun j => QS .nx (ρ.set i (.own q.1 (.list (q.2.set j d)))) := by
  unfold setAt
  cases ownList ρ i with
  | none => rfl
  | some q =>
    obtain ⟨p, ys⟩ := q
    show Wp (match ixN ys.length k with | some j => _ | none => _) QS = WpO (ixN ys.length k) _
    cases ixN ys.length k <;> rfl
theorem wp_mut {f : List D → List D → Option (List D × D)} : Wp (sMut i f ss ρ) Q = if (ownList ρ i).isSome = true then Wp (ss ρ) fun xs ρ => Wp (frzs xs ρ) fun ds ρ => WpO (ownList ρ i) fun q => WpO (f q.2 ds) fun r => Q (.d r.2) (ρ.set i (.own q.1 (.list r.1))) else False := by
  unfold sMut
  rw [wp_ite]
  congr 1
  rw [wp_bind]; congr 1; funext x ρ1
  rw [wp_bind]; congr 1; funext d ρ2
  unfold sMut.mutNow
  cases ownList ρ2 i with
  | none => rfl
  | some q =>
    obtain ⟨p, ys⟩ := q
    show Wp (match f ys d with | some (zs, z) => _ | none => _) Q = WpO (f ys d) _
    cases f ys d <;> rfl
/-! what is walked; comprehensions -/
theorem wp_it : Wp (sIt a ρ) QD = Wp (a ρ) fun x ρ => Wp (frz x ρ) fun d ρ => WpO (walkD d) fun ds => QD ds ρ := by
  unfold sIt; rw [wp_bind]; congr 1; funext x ρ1; rw [wp_bind]; congr 1; funext d ρ2; exact wp_ofO
theorem wp_rng : Wp (sRng ss ρ) QD = Wp (ss ρ) fun xs ρ => WpO ((intsV ρ xs).bind rngOf) fun ds => QD ds ρ := by
  unfold sRng; rw [wp_bind]; congr 1; funext x ρ1; exact wp_ofO
theorem wp_enum : Wp (one1 enumD ss ρ) QD = Wp (ss ρ) fun xs ρ => Wp (frzs xs ρ) fun ds ρ => match ds with | [d] => WpO ((itemsD d).map enumD) fun ds => QD ds ρ | _ => False := by
  unfold one1; rw [wp_bind]; congr 1; funext x ρ1; rw [wp_bind]; congr 1; funext ds ρ2
  match ds with
  | [] => rfl
  | [d] => exact wp_ofO
  | _ :: _ :: _ => rfl
theorem wp_lc {it : Rho → Rs (List D)} {st : D → Rho → Rs Fl} {tt : Rho → Rs Bool} {vs : List Nat} : Wp (sLc it st tt e vs ρ) QF = Wp (it ρ) fun ds ρ => if allNo ρ vs = true then Wp (sGather st tt e vs ds [] ρ) fun ys ρ => QF (.fr (.list ys)) ρ else False := by
  unfold sLc; rw [wp_bind]; congr 1; funext x ρ1; rw [wp_ite]; congr 1; rw [wp_okB]; rfl
theorem wp_gat_nil {st : D → Rho → Rs Fl} {tt : Rho → Rs Bool} {vs : List Nat} {acc : List D} : Wp (sGather st tt e vs [] acc ρ) QD = QD acc ρ := (rfl)
theorem wp_gat_cons {st : D → Rho → Rs Fl} {tt : Rho → Rs Bool} {vs : List Nat} {ds acc : List D} : Wp (sGather st tt e vs (d :: ds) acc ρ) QD = Wp (st d ρ) fun f ρ => match f with
    | .nx => Wp (tt ρ) fun k ρ => if k = true then Wp (e ρ) fun x ρ => Wp (frz x ρ) fun y ρ => if (allVal ρ vs && decide (acc.length < sizeLine)) = true then Wp (sGather st tt e vs ds (acc ++ [y]) (wipeR ρ vs)) QD else False
      else if allVal ρ vs = true then Wp (sGather st tt e vs ds acc (wipeR ρ vs)) QD else False
    | _ => False := by
  show Wp (sGather.thenG' (st d ρ) _) QD = _
  cases st d ρ with
  | err => rfl
  | bad => rfl
  | ok f ρ1 =>
    cases f with
    | nx =>
      show Wp (okB (tt ρ1) _) QD = Wp (tt ρ1) _
      rw [wp_okB]; congr 1; funext k ρ2
      cases k with
      | false => show Wp (if allVal ρ2 vs = true then _ else _) QD = _; rw [wp_ite]; rfl
      | true =>
        show Wp (okB (e ρ2) _) QD = _
        rw [wp_okB]
        show _ = Wp (e ρ2) _
        congr 1; funext x ρ3
        rw [wp_okB]; congr 1; funext y ρ4; rw [wp_ite]; rfl
    | _ => rfl
theorem wp_yes : Wp (sYes ρ) QB = QB true ρ := (rfl)
theorem wp_slice {lo hi : Option (Rho → Rs Vl)} : Wp (sSl a lo hi ρ) QF = Wp (a ρ) fun x ρ => Wp (sPart lo ρ) fun l ρ => Wp (sPart hi ρ) fun h ρ => Wp (slOf ρ (x.cont ρ) l h) QF := by
  unfold sSl; rw [wp_bind]; congr 1; funext x ρ1; rw [wp_bind]; congr 1; funext l ρ2; rw [wp_bind]
/-! calls -/
theorem wp_call {φ : Fn} : Wp (sCall φ ss ρ) Q = Wp (ss ρ) fun xs ρ => Wp (frzs xs ρ) fun ds ρ => WpF (φ ds) fun d _ => Q (.d d) ρ := by
  unfold sCall; rw [wp_bind]; congr 1; funext xs ρ1; rw [wp_bind]; congr 1; funext ds ρ2
  unfold callR
  cases φ ds <;> rfl
theorem wpf_def {n : Nat} {ms : List Bool} {ds : List D} {Q : D → List Cell → Prop} : WpF (defR n ms s ds) Q = if ds.length = ms.length then Wp (s (initR n ms ds)) fun f ρ => match f with
    | .rt d => Q d ((ρ.take ms.length).map outC)
    | .nx => Q .none ((ρ.take ms.length).map outC)
    | _ => False else False := by
  unfold defR
  split
  · cases s (initR n ms ds) with
    | ok f ρ => cases f <;> rfl
    | _ => rfl
  · rfl
end
end L3
/-! L3P, part 2: operators on values, calls that hand over, draws. -/
namespace L3
open PySem PySem.Spec PyProof.Rows L2

theorem bin_add {i j : Int} : binD .Add (.int i) (.int j) = some (.int (i + j)) := (rfl)
theorem bin_sub {i j : Int} : binD .Sub (.int i) (.int j) = some (.int (i - j)) := (rfl)
theorem bin_mul {i j : Int} : binD .Mult (.int i) (.int j) = if (inW i || inW j) = true then some (.int (i * j)) else none := (rfl)
theorem bin_fdiv {i j : Int} : binD .FloorDiv (.int i) (.int j) = if divOk j = true then some (.int (i.fdiv j)) else none := (rfl)
theorem bin_mod {i j : Int} : binD .Mod (.int i) (.int j) = if (j != 0) = true then some (.int (i.fmod j)) else none := (rfl)
theorem bin_pow {i j : Int} : binD .Pow (.int i) (.int j) = if powOk i j = true then some (.int (i ^ j.toNat)) else none := (rfl)
theorem neg_intD {i : Int} : negD (.int i) = some (.int (-i)) := (rfl)
theorem lt_int' {i j : Int} : ltD (.int i) (.int j) = some (.bool (decide (i < j))) := (rfl)
theorem le_int' {i j : Int} : leD (.int i) (.int j) = some (.bool (decide (i ≤ j))) := (rfl)
theorem gt_int' {i j : Int} : gtD (.int i) (.int j) = some (.bool (decide (j < i))) := (rfl)
theorem ge_int' {i j : Int} : geD (.int i) (.int j) = some (.bool (decide (j ≤ i))) := (rfl)
theorem eq_int' {i j : Int} : eqD (.int i) (.int j) = some (.bool (decide (i = j))) := by
  have h : (i == j) = decide (i = j) := by by_cases e : i = j <;> simp [e]
  simp [eqD, eqOk, PyData.plain, PyData.depth, PyData.eqv, h]
theorem ne_int' {i j : Int} : neD (.int i) (.int j) = some (.bool (!decide (i = j))) := by
  have h : (i == j) = decide (i = j) := by by_cases e : i = j <;> simp [e]
  simp [neD, eqOk, PyData.plain, PyData.depth, PyData.eqv, h]
theorem eq_bool' {i j : Bool} : eqD (.bool i) (.bool j) = some (.bool (i == j)) := by
  simp [eqD, eqOk, PyData.plain, PyData.depth, PyData.eqv]
theorem ne_bool' {i j : Bool} : neD (.bool i) (.bool j) = some (.bool (!(i == j))) := by
  simp [neD, eqOk, PyData.plain, PyData.depth, PyData.eqv]
theorem is_none' {x : D} : isD x .none = some (.bool (isNon x)) := by cases x <;> rfl
theorem isn_none' {x : D} : isnD x .none = some (.bool (!isNon x)) := by cases x <;> rfl
theorem wpo_ite {α : Type} {c : Bool} {x y : Option α} {Q : α → Prop} : WpO (if c = true then x else y) Q = if c = true then WpO x Q else WpO y Q := by cases c <;> rfl
theorem wpo_iteP {α : Type} {c : Prop} [Decidable c] {x y : Option α} {Q : α → Prop} : WpO (if c then x else y) Q = if c then WpO x Q else WpO y Q := by split <;> rfl
theorem wpo_map {α β : Type} {o : Option α} {f : α → β} {Q : β → Prop} : WpO (o.map f) Q = WpO o fun a => Q (f a) := by cases o <;> rfl
theorem wpo_bind {α β : Type} {o : Option α} {f : α → Option β} {Q : β → Prop} : WpO (o.bind f) Q = WpO o fun a => WpO (f a) Q := by cases o <;> rfl
theorem isi_one {t : Ty} {d : D} : isiD [t] d = (isT t d).map .bool := (rfl)
theorem isi_two {t t' : Ty} {d : D} : isiD [t, t'] d = match isT t d with
    | some true => some (.bool true)
    | some false => (isT t' d).map .bool
    | none => none := (rfl)
theorem lenD_list {xs : List D} : lenD [.list xs] = if szOk xs.length = true then some (.int xs.length) else none := (rfl)
theorem lenD_tuple {xs : List D} : lenD [.tuple xs] = if szOk xs.length = true then some (.int xs.length) else none := (rfl)
theorem szOk_small {n : Nat} (h : n ≤ 1000000) : szOk n = true := by
  rw [szOk_iff, sizeLine_eq]; omega
theorem szOk0 : szOk 0 = true := szOk_small (by omega)
theorem szOk1 : szOk 1 = true := szOk_small (by omega)
theorem szOk2 : szOk 2 = true := szOk_small (by omega)
theorem szOk3 : szOk 3 = true := szOk_small (by omega)
theorem szOk4 : szOk 4 = true := szOk_small (by omega)
theorem szOk5 : szOk 5 = true := szOk_small (by omega)
theorem szOk6 : szOk 6 = true := szOk_small (by omega)
theorem szOk7 : szOk 7 = true := szOk_small (by omega)
theorem szOk8 : szOk 8 = true := szOk_small (by omega)
theorem ix_listD {xs : List D} {i : Int} : ixD (.list xs) (.int i) = atI xs i := by
  cases xs <;> rfl
theorem ix_tupD {xs : List D} {i : Int} : ixD (.tuple xs) (.int i) = atI xs i := (rfl)
theorem own_list {ρ : Rho} {i : Nat} {p : Bool} {ds : List D} (h : ρ[i]? = some (.own p (.list ds))) : ownList ρ i = some (p, ds) := by unfold ownList; rw [h]
def ownLC (c : Option Cell) : Option (Bool × List D) :=
  match c with
  | some (Cell.own p (.list ds)) => some (p, ds)
  | _ => none
theorem own_def {ρ : Rho} {i : Nat} : ownList ρ i = ownLC ρ[i]? := (rfl)
theorem olc_own {p : Bool} {ds : List D} : ownLC (some (.own p (.list ds))) = some (p, ds) := (rfl)
theorem putOk_v {d : D} : putOk (some (.val d)) = true := (rfl)
theorem putOk_o {d : D} : putOk (some (.own false d)) = true := (rfl)
theorem putOk_n : putOk (some .no) = true := (rfl)
/-- a slot that holds a value or nothing -/
def Cell.of : Option D → Cell
  | none => .no
  | some d => .val d
theorem putOk_of {x : Option D} : putOk (some (Cell.of x)) = true := by cases x <;> rfl
/-! calls that hand over -/
theorem wp_callO {ms : List Bool} {φ : Fn} {ss : Rho → Rs (List Vl)} {ρ : Rho} {Q : Vl → Rho → Prop} : Wp (sCallO ms φ ss ρ) Q = Wp (ss ρ) fun xs ρ => Wp (prep ms xs ρ) fun pr ρ => Wp (callRO φ pr ρ) Q := by
  unfold sCallO; rw [wp_bind]; congr 1; funext xs ρ1; rw [wp_bind]
theorem wp_prep_nil {ρ : Rho} {Q : List (D ⊕ Nat) → Rho → Prop} : Wp (prep [] [] ρ) Q = Q [] ρ := (rfl)
theorem wp_prep_f {ms : List Bool} {x : Vl} {xs : List Vl} {ρ : Rho} {Q : List (D ⊕ Nat) → Rho → Prop} : Wp (prep (false :: ms) (x :: xs) ρ) Q = Wp (frz x ρ) fun d ρ => Wp (prep ms xs ρ) fun r ρ => Q (.inl d :: r) ρ := by
  show Wp ((frz x ρ).bind _) Q = _
  rw [wp_bind]; congr 1; funext d ρ1; rw [wp_bind]; rfl
theorem wp_prep_t {ms : List Bool} {i : Nat} {xs : List Vl} {ρ : Rho} {Q : List (D ⊕ Nat) → Rho → Prop} : Wp (prep (true :: ms) (.bv i :: xs) ρ) Q = Wp (prep ms xs ρ) fun r ρ => Q (.inr i :: r) ρ := by
  show Wp ((prep ms xs ρ).bind _) Q = _
  rw [wp_bind]; rfl
theorem wp_callRO {φ : Fn} {pr : List (D ⊕ Nat)} {ρ : Rho} {Q : Vl → Rho → Prop} : Wp (callRO φ pr ρ) Q = if (idx pr).Nodup then WpO (ph2 ρ pr) fun ds => WpF (φ ds) fun d outs => Q (.d d) (setOuts pr outs ρ) else False := by
  unfold callRO
  split
  · cases ph2 ρ pr with
    | none => rfl
    | some ds =>
      show Wp (match φ ds with | .ok d outs => _ | _ => _) Q = WpF (φ ds) _
      cases φ ds <;> rfl
  · rfl
theorem idx_nil : idx [] = [] := (rfl)
theorem idx_l {d : D} {r : List (D ⊕ Nat)} : idx (.inl d :: r) = idx r := (rfl)
theorem idx_r {i : Nat} {r : List (D ⊕ Nat)} : idx (.inr i :: r) = i :: idx r := (rfl)
theorem ph2_nil {ρ : Rho} : ph2 ρ [] = some [] := (rfl)
theorem ph2_l {ρ : Rho} {d : D} {r : List (D ⊕ Nat)} : ph2 ρ (.inl d :: r) = (ph2 ρ r).map (d :: ·) := (rfl)
def ownAtC (c : Option Cell) : Option D :=
  match c with
  | some (.own _ d) => some d
  | _ => none
theorem oa_own {p : Bool} {d : D} : ownAtC (some (.own p d)) = some d := (rfl)
theorem ph2_r {ρ : Rho} {i : Nat} {r : List (D ⊕ Nat)} : ph2 ρ (.inr i :: r) = (ownAtC ρ[i]?).bind fun d => (ph2 ρ r).map (d :: ·) := by
  unfold ownAtC
  show (match ρ[i]? with | some (Cell.own _ d) => _ | _ => none) = _
  cases ρ[i]? with
  | none => rfl
  | some c => cases c <;> rfl
theorem so_nil {cs : List Cell} {ρ : Rho} : setOuts [] cs ρ = ρ := (rfl)
theorem so_l {d : D} {r : List (D ⊕ Nat)} {c : Cell} {cs : List Cell} {ρ : Rho} : setOuts (.inl d :: r) (c :: cs) ρ = setOuts r cs ρ := (rfl)
theorem so_r {i : Nat} {r : List (D ⊕ Nat)} {c : Cell} {cs : List Cell} {ρ : Rho} : setOuts (.inr i :: r) (c :: cs) ρ = (setOuts r cs ρ).set i (backC (some c) ρ[i]?) := (rfl)
theorem back_own {p q : Bool} {d e : D} : backC (some (.own q d)) (some (.own p e)) = .own p d := (rfl)
/-! a def's start -/
theorem wpf_go {s : Rho → Rs Fl} {n : Nat} {ms : List Bool} {ds : List D} {Q : D → List Cell → Prop} (hl : ds.length = ms.length) (h : Wp (s (initR n ms ds)) fun f ρ => match f with
    | .rt d => Q d ((ρ.take ms.length).map outC)
    | .nx => Q .none ((ρ.take ms.length).map outC)
    | _ => False) : WpF (defR n ms s ds) Q := by rw [wpf_def, if_pos hl]; exact h
theorem init_c {m : Bool} {ms : List Bool} {d : D} {ds : List D} : initC (m :: ms) (d :: ds) = (if m = true then Cell.own true d else .val d) :: initC ms ds := (rfl)
theorem init_n : initC [] [] = [] := (rfl)
theorem init_r {n : Nat} {ms : List Bool} {ds : List D} : initR n ms ds = initC ms ds ++ List.replicate (n - ms.length) .no := (rfl)
theorem outC_t {d : D} : outC (.own true d) = .own true d := (rfl)
theorem outC_f {d : D} : outC (.own false d) = .no := (rfl)
theorem outC_v {d : D} : outC (.val d) = .no := (rfl)
theorem outC_n : outC .no = .no := (rfl)

theorem at0 {α : Type} {a : α} {l : List α} : atI (a :: l) 0 = some a := by
  unfold atI ixN
  rw [if_pos (by decide), if_pos (by rw [List.length_cons]; omega)]
  rfl
theorem at1 {α : Type} {a b : α} {l : List α} : atI (a :: b :: l) 1 = some b := by
  unfold atI ixN
  rw [if_pos (by decide), if_pos (by rw [List.length_cons, List.length_cons]; omega)]
  rfl
theorem at2 {α : Type} {a b c : α} {l : List α} : atI (a :: b :: c :: l) 2 = some c := by
  unfold atI ixN
  rw [if_pos (by decide), if_pos (by rw [List.length_cons, List.length_cons, List.length_cons]; omega)]
  rfl
theorem at3 {α : Type} {a b c d : α} {l : List α} : atI (a :: b :: c :: d :: l) 3 = some d := by
  unfold atI ixN
  rw [if_pos (by decide), if_pos (by rw [List.length_cons, List.length_cons, List.length_cons, List.length_cons]; omega)]
  rfl
theorem ix40 : ixN 4 0 = some 0 := (rfl)
theorem ix41 : ixN 4 1 = some 1 := (rfl)
theorem ix42 : ixN 4 2 = some 2 := (rfl)
theorem ix43 : ixN 4 3 = some 3 := (rfl)
theorem int_int {i : Int} : L3.intD [.int i] = some (.int i) := (rfl)
theorem len_scr {ns : List Int} : lenD [scrD ns] = some (.int ns.length) := by
  show some (PyData.int ((ns.map PyData.int).length)) = _
  rw [List.length_map]
theorem ix_scr {ns : List Int} {i : Int} : ixD (scrD ns) (.int i) = (atI ns i).map .int := by
  show atI (ns.map PyData.int) i = _
  unfold atI
  rw [List.length_map]
  cases ixN ns.length i with
  | none => rfl
  | some j => exact List.getElem?_map ..

local macro_rules | `(tactic| array_get_dec) => `(tactic| simp only [L3.wp_ok, L3.wp_bad, L3.wp_seq, L3.wp_ifS, L3.wp_ret, L3.wp_exp, L3.wp_asg, L3.wp_asgT, L3.wp_gN, L3.wp_gsN, L3.wp_gsC, L3.wp_gTpT, L3.wp_gTpL, L3.wp_par, L3.wp_put2, L3.wp_put, L3.putOk_v, L3.putOk_o, L3.putOk_n, L3.putOk_of, L3.wp_for, L3.wp_loop_nil, L3.wp_nx, L3.wp_sbad, L3.wp_thenG,
  L3.wp_var, L3.at_val, L3.at_own, L3.wp_c, L3.wp_bin, L3.wp_un, L3.cont_d, L3.cont_bv, L3.cont_val, L3.cont_own, L3.wp_asB, L3.wp_not, L3.wp_and, L3.wp_or, L3.wp_ifE, L3.wp_chain, L3.wp_nil, L3.wp_cons, L3.wp_frz_d, L3.wp_frz_bv, L3.fa_val, L3.fa_own, L3.wp_frzs_nil, L3.wp_frzs_cons, L3.wp_tup, L3.wp_lst, L3.wp_fun, L3.wp_funF, L3.conts_nil, L3.conts_cons, L3.wp_unF, L3.wp_liF,
  L3.wp_aug, L3.aa_val, L3.wp_setIx, L3.wp_setAt, L3.wp_mut, L3.own_def, L3.olc_own, L3.wp_it, L3.wp_rng, L3.wp_enum, L3.wp_lc, L3.wp_yes, L3.wp_slice, L3.wp_call, L3.wp_callO, L3.wp_prep_nil, L3.wp_prep_f, L3.wp_prep_t, L3.wp_callRO, L3.idx_nil, L3.idx_l, L3.idx_r, L3.ph2_nil, L3.ph2_l, L3.ph2_r, L3.oa_own, L3.so_nil, L3.so_l, L3.so_r, L3.back_own,
  L3.wpo_some, L3.wpo_none, L3.wpo_ite, L3.wpo_map, L3.wpo_bind, L3.bin_add, L3.bin_sub, L3.bin_mul, L3.bin_fdiv, L3.bin_mod, L3.bin_pow, L3.neg_intD, L3.lt_int', L3.le_int', L3.gt_int', L3.ge_int', L3.eq_int', L3.ne_int', L3.eq_bool', L3.ne_bool', L3.is_none', L3.isn_none', L3.isi_one, L3.isi_two, L3.lenD_list, L3.lenD_tuple, L3.ix_listD, L3.ix_tupD,
  L3.szOk0, L3.szOk1, L3.szOk2, L3.szOk3, L3.szOk4, L3.szOk5, L3.szOk6, L3.szOk7, L3.szOk8, L3.at0, L3.at1, L3.at2, L3.at3, L3.ix40, L3.ix41, L3.ix42, L3.ix43, L3.int_int, L3.len_scr, L3.ix_scr, L3.outC_t, L3.outC_f, L3.outC_v, L3.outC_n, List.map_cons, List.map_nil, List.take_succ_cons, List.take_zero, Int.reduceNeg,
  List.getElem?_cons_zero, List.getElem?_cons_succ, List.set_cons_zero, List.set_cons_succ, List.length_cons, List.length_nil, Option.bind_some, Option.bind_none, Option.map_some, Option.map_none, Option.isSome_some, Option.isSome_none, if_true, if_false, Bool.not_true, Bool.not_false, decide_true, decide_false, Bool.false_eq_true, Nat.reduceAdd, List.nodup_cons, List.not_mem_nil, not_false_eq_true, List.nodup_nil, and_self, and_true, true_and, ite_self, reduceIte, decide_eq_true_eq, Bool.not_eq_true'])

/-! ### draws -/
def takenB : Rho → Rs Fl :=
 (sSeq (sIfS (sBin gtD (sBin ixD (sVar 0) (sC (.int 3))) (sC (.int 0))) (sSeq (sAsg 3 (liF (sBin (binD .Mod) (sFun L3.intD (sCons (sBin ixD (sVar 0) (sC (.int 3))) sNil)) (sVar 1))))
 (sSeq (sSetIx 0 (sC (.int 3)) (sBin (binD .FloorDiv) (sBin ixD (sVar 0) (sC (.int 3))) (sVar 1)))
 (sRet (sVar 3)))) sNx)
 (sSeq (sSetIx 0 (sC (.int 1)) (sBin (binD .Add) (sBin ixD (sVar 0) (sC (.int 1))) (sC (.int 1))))
 (sSeq (sIfS (sBin gtD (sBin ixD (sVar 0) (sC (.int 1))) (sFun lenD (sCons (sBin ixD (sVar 0) (sC (.int 0))) sNil))) (sSeq (sSetIx 0 (sC (.int 2)) (sBin (binD .Mod) (sFun L3.intD (sCons (sBin (binD .Add) (sBin (binD .Mult) (sBin ixD (sVar 0) (sC (.int 2))) (sC (.int 48271))) (sC (.int 11))) sNil)) (sC (.int 2147483647))))
 (sRet (sBin (binD .Mod) (sFun L3.intD (sCons (sBin (binD .FloorDiv) (sBin ixD (sVar 0) (sC (.int 2))) (sC (.int 7))) sNil)) (sVar 1)))) sNx)
 (sSeq (sAsg 2 (liF (sBin ixD (sBin ixD (sVar 0) (sC (.int 0))) (sBin (binD .Sub) (sBin ixD (sVar 0) (sC (.int 1))) (sC (.int 1))))))
 (sSeq (sSetIx 0 (sC (.int 2)) (sBin (binD .Mod) (sFun L3.intD (sCons (sBin (binD .Add) (sBin (binD .Add) (sBin (binD .Mult) (sBin ixD (sVar 0) (sC (.int 2))) (sC (.int 48271))) (sVar 2)) (sC (.int 11))) sNil)) (sC (.int 2147483647))))
 (sSeq (sIfS (sBin geD (sVar 2) (sBin (binD .Pow) (sC (.int 10)) (sC (.int 18)))) (sSetIx 0 (sC (.int 3)) (sBin (binD .FloorDiv) (sVar 2) (sVar 1))) sNx)
 (sRet (sBin (binD .Mod) (sFun L3.intD (sCons (sVar 2) sNil)) (sVar 1)))))))))
def takenF : Fn := defR 4 [true, false] takenB
/-- a row from which one draws -/
def RowOk (r : D) : Prop := ∃ (ns : List Int) (c s q : Int), r = .list [scrD ns, .int c, .int s, .int q] ∧ 0 ≤ c
theorem taken_wp {r : D} {k : Int} {Q : D → List Cell → Prop} (hr : RowOk r) (h0 : 0 < k) (h1 : k < 1073741824) (h : ∀ d r', 0 ≤ d → d < k → RowOk r' → Q (.int d) [.own true r', .no]) : WpF (takenF [r, .int k]) Q := by
  obtain ⟨ns, c, s, q, rfl, hc⟩ := hr
  refine wpf_go rfl ?_
  unfold takenB
  rw [init_r, init_c, init_c, init_n]
  simp only [List.cons_append, List.nil_append, if_true, Bool.false_eq_true, if_false, List.length_cons, List.length_nil, Nat.reduceAdd, Nat.reduceSub, List.replicate]
  array_get_dec
  have hk : (k != 0) = true := by simp; omega
  have hd : divOk k = true := by simp [divOk]; omega
  have fm : ∀ x : Int, 0 ≤ x.fmod k ∧ x.fmod k < k := fun x => ⟨Int.fmod_nonneg_of_pos x h0, Int.fmod_lt_of_pos x h0⟩
  simp only [hk, hd, show inW 48271 = true from rfl, show divOk 7 = true from rfl, show powOk 10 18 = true from rfl, Bool.or_true, if_true, show ((2147483647 : Int) != 0) = true from rfl]
  split
  · exact h _ _ (fm _).1 (fm _).2 ⟨ns, c, s, _, rfl, hc⟩
  · split
    · exact h _ _ (fm _).1 (fm _).2 ⟨ns, _, _, q, rfl, by omega⟩
    · rename_i hlt
      have e : atI ns (c + 1 - 1) = some ns[c.toNat]! := by
        have hc' : c.toNat < ns.length := by omega
        have e1 : c + 1 - 1 = ((c.toNat : Nat) : Int) := by omega
        rw [e1]
        refine atI_nat ?_
        rw [List.getElem?_eq_getElem hc', List.getElem!_eq_getElem?_getD, List.getElem?_eq_getElem hc']
        rfl
      rw [e]
      simp only [wpo_some]
      split
      · exact h _ _ (fm _).1 (fm _).2 ⟨ns, _, _, _, rfl, by omega⟩
      · exact h _ _ (fm _).1 (fm _).2 ⟨ns, _, _, q, rfl, by omega⟩
end L3
/-! L3P, part 3: loops, comprehensions, common helpers. -/
namespace L3
open PySem PySem.Spec PyProof.Rows L2
local macro_rules | `(tactic| array_get_dec) => `(tactic| simp only [L3.wp_ok, L3.wp_bad, L3.wp_seq, L3.wp_ifS, L3.wp_ret, L3.wp_exp, L3.wp_asg, L3.wp_asgT, L3.wp_gN, L3.wp_gsN, L3.wp_gsC, L3.wp_gTpT, L3.wp_gTpL, L3.wp_par, L3.wp_put2, L3.wp_put, L3.putOk_v, L3.putOk_o, L3.putOk_n, L3.putOk_of, L3.wp_for, L3.wp_loop_nil, L3.wp_nx, L3.wp_sbad, L3.wp_thenG,
  L3.wp_var, L3.at_val, L3.at_own, L3.wp_c, L3.wp_bin, L3.wp_un, L3.cont_d, L3.cont_bv, L3.cont_val, L3.cont_own, L3.wp_asB, L3.wp_not, L3.wp_and, L3.wp_or, L3.wp_ifE, L3.wp_chain, L3.wp_nil, L3.wp_cons, L3.wp_frz_d, L3.wp_frz_bv, L3.fa_val, L3.fa_own, L3.wp_frzs_nil, L3.wp_frzs_cons, L3.wp_tup, L3.wp_lst, L3.wp_fun, L3.wp_funF, L3.conts_nil, L3.conts_cons, L3.wp_unF, L3.wp_liF,
  L3.wp_aug, L3.aa_val, L3.wp_setIx, L3.wp_setAt, L3.wp_mut, L3.own_def, L3.olc_own, L3.wp_it, L3.wp_rng, L3.wp_enum, L3.wp_lc, L3.wp_yes, L3.wp_slice, L3.wp_call, L3.wp_callO, L3.wp_prep_nil, L3.wp_prep_f, L3.wp_prep_t, L3.wp_callRO, L3.idx_nil, L3.idx_l, L3.idx_r, L3.ph2_nil, L3.ph2_l, L3.ph2_r, L3.oa_own, L3.so_nil, L3.so_l, L3.so_r, L3.back_own,
  L3.wpo_some, L3.wpo_none, L3.wpo_ite, L3.wpo_map, L3.wpo_bind, L3.bin_add, L3.bin_sub, L3.bin_mul, L3.bin_fdiv, L3.bin_mod, L3.bin_pow, L3.neg_intD, L3.lt_int', L3.le_int', L3.gt_int', L3.ge_int', L3.eq_int', L3.ne_int', L3.eq_bool', L3.ne_bool', L3.is_none', L3.isn_none', L3.isi_one, L3.isi_two, L3.lenD_list, L3.lenD_tuple, L3.ix_listD, L3.ix_tupD,
  L3.szOk0, L3.szOk1, L3.szOk2, L3.szOk3, L3.szOk4, L3.szOk5, L3.szOk6, L3.szOk7, L3.szOk8, L3.at0, L3.at1, L3.at2, L3.at3, L3.ix40, L3.ix41, L3.ix42, L3.ix43, L3.int_int, L3.len_scr, L3.ix_scr, L3.outC_t, L3.outC_f, L3.outC_v, L3.outC_n, List.map_cons, List.map_nil, List.take_succ_cons, List.take_zero, Int.reduceNeg,
  List.getElem?_cons_zero, List.getElem?_cons_succ, List.set_cons_zero, List.set_cons_succ, List.length_cons, List.length_nil, Option.bind_some, Option.bind_none, Option.map_some, Option.map_none, Option.isSome_some, Option.isSome_none, if_true, if_false, Bool.not_true, Bool.not_false, decide_true, decide_false, Bool.false_eq_true, Nat.reduceAdd, List.nodup_cons, List.not_mem_nil, not_false_eq_true, List.nodup_nil, and_self, and_true, true_and, ite_self, reduceIte, decide_eq_true_eq, Bool.not_eq_true'])

theorem of_some {d : D} : Cell.val d = Cell.of (some d) := (rfl)
theorem of_none : Cell.no = Cell.of none := (rfl)
section
variable {tg : D → Rho → Rs Fl} {b : Rho → Rs Fl} {Q : Fl → Rho → Prop}
theorem loop_wp (I : List D → Rho → Prop) (step : ∀ d ds ρ, I (d :: ds) ρ → Wp (tg d ρ) fun f ρ1 => f = .nx ∧ Wp (b ρ1) fun f ρ2 => match f with
    | .nx => I ds ρ2
    | .ct => I ds ρ2
    | .bk => Q .nx ρ2
    | .rt v => Q (.rt v) ρ2) (fin : ∀ ρ, I [] ρ → Q .nx ρ) : ∀ ds ρ, I ds ρ → Wp (sLoop tg b ds ρ) Q
  | [], ρ, h => fin ρ h
  | d :: ds, ρ, h => by
    rw [wp_loop_cons]
    refine (step d ds ρ h).to fun f ρ1 q => ?_
    obtain ⟨rfl, q⟩ := q
    refine q.to fun f ρ2 q => ?_
    cases f with
    | nx => exact loop_wp I step fin ds ρ2 q
    | ct => exact loop_wp I step fin ds ρ2 q
    | bk => exact q
    | rt v => exact q
/-- for d in ds: if p: return v -/
theorem loop_find {ds : List D} {ρ : Rho} (S : Rho → Prop) (p : Nat → Bool) (v : Nat → D) (hs : ∀ j d, ds[j]? = some d → ∀ ρ0, S ρ0 → Wp (tg d ρ0) fun f ρ1 => f = .nx ∧ Wp (b ρ1) fun f ρ2 => S ρ2 ∧ f = if p j = true then Fl.rt (v j) else .nx)
    (h0 : S ρ) (hr : ∀ j, j < ds.length → p j = true → (∀ k < j, p k = false) → ∀ ρ', S ρ' → Q (.rt (v j)) ρ') (hn : (∀ j < ds.length, p j = false) → ∀ ρ', S ρ' → Q .nx ρ') : Wp (sLoop tg b ds ρ) Q := by
  refine loop_wp (fun r ρ' => ∃ j, r = ds.drop j ∧ j ≤ ds.length ∧ S ρ' ∧ ∀ k < j, p k = false) ?_ ?_ ds ρ ⟨0, rfl, Nat.zero_le _, h0, fun k h => absurd h (Nat.not_lt_zero _)⟩
  · rintro d r ρ' ⟨j, e, hj, hS, hk⟩
    have hlt : j < ds.length := by
      rcases Nat.lt_or_ge j ds.length with h | h
      · exact h
      · rw [List.drop_eq_nil_of_le h] at e; cases e
    have ed : ds[j]? = some d := by
      rw [← List.head?_drop, ← e]; rfl
    have er : r = ds.drop (j + 1) := by
      rw [drop_at ed] at e
      injection e
    refine (hs j d ed ρ' hS).to fun f ρ1 q => ⟨q.1, q.2.to fun f ρ2 q => ?_⟩
    obtain ⟨hS2, rfl⟩ := q
    cases hp : p j with
    | true => rw [if_pos rfl]; exact hr j hlt hp hk ρ2 hS2
    | false =>
      rw [if_neg (by decide)]
      exact ⟨j + 1, er, hlt, hS2, fun k hk' => by
        rcases Nat.lt_succ_iff_lt_or_eq.mp hk' with h | rfl
        · exact hk k h
        · exact hp⟩
  · rintro ρ' ⟨j, e, hj, hS, hk⟩
    have : ds.length ≤ j := by
      have := congrArg List.length e
      rw [List.length_drop] at this
      simp at this
      omega
    exact hn (fun k h => hk k (by omega)) ρ' hS
/-- for d in ds: (the state goes on) -/
theorem loop_fold {ds : List D} {ρ : Rho} (S : Nat → Rho → Prop) (hs : ∀ j d, ds[j]? = some d → ∀ ρ0, S j ρ0 → Wp (tg d ρ0) fun f ρ1 => f = .nx ∧ Wp (b ρ1) fun f ρ2 => (f = .nx ∨ f = .ct) ∧ S (j + 1) ρ2)
    (h0 : S 0 ρ) (hn : ∀ ρ', S ds.length ρ' → Q .nx ρ') : Wp (sLoop tg b ds ρ) Q := by
  refine loop_wp (fun r ρ' => ∃ j, r = ds.drop j ∧ j ≤ ds.length ∧ S j ρ') ?_ ?_ ds ρ ⟨0, rfl, Nat.zero_le _, h0⟩
  · rintro d r ρ' ⟨j, e, hj, hS⟩
    have hlt : j < ds.length := by
      rcases Nat.lt_or_ge j ds.length with h | h
      · exact h
      · rw [List.drop_eq_nil_of_le h] at e; cases e
    have ed : ds[j]? = some d := by
      rw [← List.head?_drop, ← e]; rfl
    have er : r = ds.drop (j + 1) := by
      rw [drop_at ed] at e
      injection e
    refine (hs j d ed ρ' hS).to fun f ρ1 q => ⟨q.1, q.2.to fun f ρ2 q => ?_⟩
    rcases q.1 with rfl | rfl
    · exact ⟨j + 1, er, hlt, q.2⟩
    · exact ⟨j + 1, er, hlt, q.2⟩
  · rintro ρ' ⟨j, e, hj, hS⟩
    have : ds.length ≤ j := by
      have := congrArg List.length e
      rw [List.length_drop] at this
      simp at this
      omega
    have : j = ds.length := by omega
    subst this
    exact hn ρ' hS
end
section
variable {tg : D → Rho → Rs Fl} {tt : Rho → Rs Bool} {e : Rho → Rs Vl} {vs : List Nat} {Q : List D → Rho → Prop}
theorem gat_wp (I : List D → List D → Rho → Prop) (step : ∀ d ds acc ρ, I (d :: ds) acc ρ → Wp (tg d ρ) fun f ρ1 => f = .nx ∧ Wp (tt ρ1) fun k ρ2 => if k = true then Wp (e ρ2) fun x ρ3 => Wp (frz x ρ3) fun y ρ4 => allVal ρ4 vs = true ∧ acc.length < sizeLine ∧ I ds (acc ++ [y]) (wipeR ρ4 vs)
      else allVal ρ2 vs = true ∧ I ds acc (wipeR ρ2 vs)) (fin : ∀ acc ρ, I [] acc ρ → Q acc ρ) : ∀ ds acc ρ, I ds acc ρ → Wp (sGather tg tt e vs ds acc ρ) Q
  | [], acc, ρ, h => fin acc ρ h
  | d :: ds, acc, ρ, h => by
    rw [wp_gat_cons]
    refine (step d ds acc ρ h).to fun f ρ1 q => ?_
    obtain ⟨rfl, q⟩ := q
    refine q.to fun k ρ2 q => ?_
    cases k with
    | false =>
      rw [if_neg (by decide)] at q ⊢
      rw [if_pos q.1]
      exact gat_wp I step fin ds acc _ q.2
    | true =>
      rw [if_pos rfl] at q ⊢
      refine q.to fun x ρ3 q => q.to fun y ρ4 q => ?_
      rw [if_pos (by rw [q.1, decide_eq_true q.2.1]; rfl)]
      exact gat_wp I step fin ds _ _ q.2.2
/-- [g d for d in ds if p d], nothing else happens -/
theorem gat_pure {ds : List D} {ρ : Rho} (p : D → Bool) (g : D → D) (hs : ∀ d ∈ ds, Wp (tg d ρ) fun f ρ1 => f = .nx ∧ allVal ρ1 vs = true ∧ wipeR ρ1 vs = ρ ∧ Wp (tt ρ1) fun k ρ2 => ρ2 = ρ1 ∧ k = p d ∧ (p d = true → Wp (e ρ1) fun x ρ3 => ρ3 = ρ1 ∧ x = .d (g d))) (hl : ds.length ≤ sizeLine)
    (h : Q ((ds.filter p).map g) ρ) : Wp (sGather tg tt e vs ds [] ρ) Q := by
  refine gat_wp (fun r acc ρ' => ρ' = ρ ∧ ∃ pre, ds = pre ++ r ∧ acc = (pre.filter p).map g) ?_ ?_ ds [] ρ ⟨rfl, [], rfl, rfl⟩
  · rintro d r acc ρ' ⟨rfl, pre, e1, rfl⟩
    have hm : d ∈ ds := by rw [e1]; simp
    refine (hs d hm).to fun f ρ1 q => ?_
    obtain ⟨rfl, av, wi, q⟩ := q
    refine ⟨rfl, q.to fun k ρ2 q => ?_⟩
    obtain ⟨rfl, rfl, q⟩ := q
    have ee : ds = (pre ++ [d]) ++ r := by rw [e1]; simp
    cases hp : p d with
    | true =>
      rw [if_pos rfl]
      refine (q hp).to fun x ρ3 q => ?_
      obtain ⟨rfl, rfl⟩ := q
      rw [wp_frz_d]
      refine ⟨av, ?_, wi, pre ++ [d], ee, ?_⟩
      · have l1 : (List.map g (List.filter p pre)).length ≤ pre.length := by rw [List.length_map]; exact List.length_filter_le _ _
        have l2 : pre.length < ds.length := by rw [e1, List.length_append, List.length_cons]; omega
        omega
      · rw [List.filter_append, List.map_append]
        simp [hp]
    | false =>
      rw [if_neg (by decide)]
      refine ⟨av, wi, pre ++ [d], ee, ?_⟩
      rw [List.filter_append, List.map_append]
      simp [hp]
  · rintro acc ρ' ⟨rfl, pre, e1, rfl⟩
    rw [List.append_nil] at e1
    subst e1
    exact h
end

/-! ### whole numbers in tuples and lists -/
def tupI (l : List Int) : D := .tuple (l.map .int)
def lstI (l : List Int) : D := .list (l.map .int)
theorem at_ints {l : List Int} {k : Int} (h0 : 0 ≤ k) (h1 : k < l.length) : atI (l.map PyData.int) k = some (.int (l.getD k.toNat 0)) := by
  have hk : k.toNat < l.length := by omega
  have e : k = ((k.toNat : Nat) : Int) := by omega
  rw [e]
  refine atI_nat ?_
  rw [List.getElem?_map, List.getElem?_eq_getElem hk]
  show some (PyData.int l[k.toNat]) = _
  rw [Int.toNat_natCast, List.getD_eq_getElem?_getD, List.getElem?_eq_getElem hk]
  rfl
theorem len_tupI {l : List Int} (h : l.length ≤ 1000000) : lenD [tupI l] = some (.int l.length) := by
  show (if szOk (l.map PyData.int).length = true then some (PyData.int ((l.map PyData.int).length : Nat)) else none) = _
  rw [List.length_map, if_pos (szOk_small h)]
theorem len_lstI {l : List Int} (h : l.length ≤ 1000000) : lenD [lstI l] = some (.int l.length) := by
  show (if szOk (l.map PyData.int).length = true then some (PyData.int ((l.map PyData.int).length : Nat)) else none) = _
  rw [List.length_map, if_pos (szOk_small h)]
theorem rng1 {j : Int} (h0 : -(2 ^ 62) ≤ j) (h1 : j < 2 ^ 62) : rngOf [j] = some (rngD 0 1 j.toNat) := by
  show (if in62 j = true then _ else _) = _
  rw [if_pos (in62_iff.mpr ⟨h0, h1⟩)]
theorem rng2 {i j : Int} (h0 : -(2 ^ 62) ≤ i) (h1 : i < 2 ^ 62) (h2 : -(2 ^ 62) ≤ j) (h3 : j < 2 ^ 62) : rngOf [i, j] = some (rngD i 1 (j - i).toNat) := by
  show (if (in62 i && in62 j) = true then _ else _) = _
  rw [in62_iff.mpr ⟨h0, h1⟩, in62_iff.mpr ⟨h2, h3⟩]
  rfl
theorem intsV1 {ρ : Rho} {x : Int} : intsV ρ [.d (.int x)] = some [x] := (rfl)
theorem intsV2 {ρ : Rho} {x y : Int} : intsV ρ [.d (.int x), .d (.int y)] = some [x, y] := (rfl)
theorem intsV3 {ρ : Rho} {x y z : Int} : intsV ρ [.d (.int x), .d (.int y), .d (.int z)] = some [x, y, z] := (rfl)
theorem rngD_at {lo : Int} {n j : Nat} {d : D} (h : (rngD lo 1 n)[j]? = some d) : j < n ∧ d = .int (lo + j) := by
  obtain ⟨h1, h2⟩ := rngD_get h
  rw [Int.mul_one] at h2
  exact ⟨h1, h2⟩

/-! ### _law_pick -/
def pickB : Rho → Rs Fl :=
 (sRet (sBin ixD (sVar 1) (sCallO [true, false] takenF (sCons (sVar 0) (sCons (sFun lenD (sCons (sVar 1) sNil)) sNil)))))
def pickF : Fn := defR 2 [true, false] pickB
theorem pick_wp {r : D} {xs : List D} {Q : D → List Cell → Prop} (hr : RowOk r) (h0 : 0 < xs.length) (h1 : xs.length < 1000000) (h : ∀ (j : Nat) (x : D) (r' : D), xs[j]? = some x → RowOk r' → Q x [.own true r', .no]) : WpF (pickF [r, .list xs]) Q := by
  refine wpf_go rfl ?_
  unfold pickB
  rw [init_r, init_c, init_c, init_n]
  simp only [List.cons_append, List.nil_append, if_true, Bool.false_eq_true, if_false, List.length_cons, List.length_nil, Nat.reduceAdd, Nat.reduceSub, List.replicate]
  array_get_dec
  rw [szOk_small (by omega), if_pos rfl]
  refine taken_wp hr (by omega) (by omega) fun d r' d0 d1 hr' => ?_
  array_get_dec
  obtain ⟨j, rfl⟩ := Int.eq_ofNat_of_zero_le d0
  have hd : j < xs.length := by omega
  have e : atI xs (j : Int) = some xs[j] := atI_nat (by rw [List.getElem?_eq_getElem hd])
  rw [e]
  exact h j _ r' (by rw [List.getElem?_eq_getElem hd]) hr'

/-! ### _law_alike -/
def alikeB (me : Fn) : Rho → Rs Fl :=
 (sSeq (sIfS (sUn (isiD [.tuple, .list]) (sVar 1)) (sSeq (sIfS (sOr (sNot (sUn (isiD [.tuple, .list]) (sVar 0))) (sBin neD (sUn (isiD [.list]) (sVar 0)) (sUn (isiD [.list]) (sVar 1)))) (sRet (sC (.bool false))) sNx)
 (sSeq (sIfS (sBin neD (sFun lenD (sCons (sVar 0) sNil)) (sFun lenD (sCons (sVar 1) sNil))) (sRet (sC (.bool false))) sNx)
 (sRet (sBin eqD (unF (sLc (sRng (sCons (sFun lenD (sCons (sVar 1) sNil)) sNil)) (gN 2) (asB (sNot (sCall me (sCons (sBin ixD (sVar 0) (sVar 2)) (sCons (sBin ixD (sVar 1) (sVar 2)) sNil))))) (sVar 2) [2])) (unF (sLst sNil)))))) sNx)
 (sSeq (sIfS (sOr (sBin isD (sVar 1) (sC .none)) (sUn (isiD [.str]) (sVar 1))) (sRet (sAnd (sBin eqD (sVar 0) (sVar 1)) (sBin eqD (sUn (isiD [.str]) (sVar 0)) (sUn (isiD [.str]) (sVar 1))))) sNx)
 (sRet (sAnd (sUn (isiD [.int]) (sVar 0)) (sAnd (sBin eqD (sUn (isiD [.bool]) (sVar 0)) (sUn (isiD [.bool]) (sVar 1))) (sBin eqD (sVar 0) (sVar 1)))))))
def alikeF : Nat → Fn
  | 0 => fun _ => .bad
  | n + 1 => defR 3 [false, false] (alikeB (alikeF n))
/-- a value that _law_alike takes as like itself with n calls -/
inductive Alk : Nat → D → Prop
  | non {n : Nat} : Alk (n + 1) .none
  | int {n : Nat} (i : Int) : Alk (n + 1) (.int i)
  | bool {n : Nat} (i : Bool) : Alk (n + 1) (.bool i)
  | str {n : Nat} (x : Str) : Alk (n + 1) (.str x)
  | tup {n : Nat} {xs : List D} : xs.length ≤ 1000000 → (∀ x ∈ xs, Alk n x) → Alk (n + 1) (.tuple xs)
  | lst {n : Nat} {xs : List D} : xs.length ≤ 1000000 → (∀ x ∈ xs, Alk n x) → Alk (n + 1) (.list xs)
theorem isT_def {t : Ty} {d : D} : isT t d = if isScr d = true then none else some (t.of d) := (rfl)
local macro_rules | `(tactic| array_mem_dec) => `(tactic| simp only [L3.isT_def, isScr, Ty.of, if_true, if_false, Bool.false_eq_true, Option.map_some, L3.wpo_some, Option.bind_some, Bool.not_true, Bool.not_false])
theorem filter_no {l : List D} : l.filter (fun _ => false) = [] := List.filter_eq_nil_iff.mpr (by simp)
theorem eq_nil : eqD (.list []) (.list []) = some (.bool true) := by
  simp [eqD, eqOk, PyData.plain, PyData.plainAll, PyData.depth, PyData.depthAll, PyData.eqv, PyData.eqvAll]
theorem eq_str' {x : Str} : eqD (.str x) (.str x) = some (.bool true) := by
  simp [eqD, eqOk, PyData.plain, PyData.depth, PyData.eqv]
theorem eq_non' : eqD .none .none = some (.bool true) := by
  simp [eqD, eqOk, PyData.plain, PyData.depth, PyData.eqv]
theorem alike_wp : ∀ {n : Nat} {d : D}, Alk n d → WpF (alikeF n [d, d]) fun z _ => z = .bool true := by
  intro n
  induction n with
  | zero => intro d h; cases h
  | succ n ih =>
    intro d h
    refine wpf_go rfl ?_
    unfold alikeB
    rw [init_r, init_c, init_c, init_n]
    simp only [List.cons_append, List.nil_append, if_true, Bool.false_eq_true, if_false, List.length_cons, List.length_nil, Nat.reduceAdd, Nat.reduceSub, List.replicate]
    array_get_dec
    cases h with
    | non => array_mem_dec; simp only [isNon, eq_non', wpo_some, if_true, eq_bool']; rfl
    | int i => array_mem_dec; simp only [isNon, eq_int', wpo_some, if_true, eq_bool', Bool.false_eq_true, if_false]; simp
    | bool i => array_mem_dec; simp only [isNon, eq_bool', wpo_some, if_true, Bool.false_eq_true, if_false]; simp
    | str x => array_mem_dec; simp only [isNon, eq_str', wpo_some, if_true, eq_bool', Bool.false_eq_true, if_false]; simp
    | tup hl hx =>
      rename_i xs
      array_mem_dec
      simp only [Bool.true_eq_false, if_false, beq_self_eq_true]
      rw [lenD_tuple, szOk_small hl, if_pos rfl]
      simp only [wpo_some, ne_int', decide_true, Bool.not_true, Bool.false_eq_true, if_false, intsV1]
      rw [rng1 (by omega) (by omega)]
      simp only [wpo_some]
      rw [if_pos (show allNo [Cell.val (PyData.tuple xs), Cell.val (PyData.tuple xs), Cell.no] [2] = true from rfl)]
      refine gat_pure (fun _ => false) (fun d => d) (fun d hd => ?_) (by rw [rngD_len, sizeLine_eq]; omega) ?_
      · obtain ⟨j, hj⟩ := List.mem_iff_getElem?.mp hd
        obtain ⟨h1, rfl⟩ := rngD_at hj
        have hj' : j < xs.length := by omega
        array_get_dec
        refine ⟨rfl, rfl, ?_⟩
        have e : atI xs (0 + (j : Int)) = some xs[j] := by
          rw [Int.zero_add]
          exact atI_nat (by rw [List.getElem?_eq_getElem hj'])
        simp only [e, wpo_some]
        refine (ih (hx _ (List.getElem_mem hj'))).to fun z _ hz => ?_
        subst hz
        exact ⟨rfl, fun h => h.elim⟩
      · rw [filter_no, List.map_nil, eq_nil]
        rfl
    | lst hl hx =>
      rename_i xs
      array_mem_dec
      simp only [Bool.true_eq_false, if_false, beq_self_eq_true]
      rw [lenD_list, szOk_small hl, if_pos rfl]
      simp only [wpo_some, ne_int', decide_true, Bool.not_true, Bool.false_eq_true, if_false, intsV1]
      rw [rng1 (by omega) (by omega)]
      simp only [wpo_some]
      rw [if_pos (show allNo [Cell.val (PyData.list xs), Cell.val (PyData.list xs), Cell.no] [2] = true from rfl)]
      refine gat_pure (fun _ => false) (fun d => d) (fun d hd => ?_) (by rw [rngD_len, sizeLine_eq]; omega) ?_
      · obtain ⟨j, hj⟩ := List.mem_iff_getElem?.mp hd
        obtain ⟨h1, rfl⟩ := rngD_at hj
        have hj' : j < xs.length := by omega
        array_get_dec
        refine ⟨rfl, rfl, ?_⟩
        have e : atI xs (0 + (j : Int)) = some xs[j] := by
          rw [Int.zero_add]
          exact atI_nat (by rw [List.getElem?_eq_getElem hj'])
        simp only [e, wpo_some]
        refine (ih (hx _ (List.getElem_mem hj'))).to fun z _ hz => ?_
        subst hz
        exact ⟨rfl, fun h => h.elim⟩
      · rw [filter_no, List.map_nil, eq_nil]
        rfl
end L3
/-! L3P, part 4: lists of whole numbers: sorted, in, first and last of what passes. -/
namespace L3
open PySem PySem.Spec PyProof.Rows L2

local macro_rules | `(tactic| decreasing_trivial_pre_omega) => `(tactic| (refine L3.wpf_go (rfl) ?_; simp only [L3.init_r, L3.init_c, L3.init_n, List.cons_append, List.nil_append, if_true, Bool.false_eq_true, if_false, List.length_cons, List.length_nil, Nat.reduceAdd, Nat.reduceSub, List.replicate]))
theorem nodup_le {α : Type} [BEq α] [LawfulBEq α] : ∀ {l m : List α}, l.Nodup → (∀ x ∈ l, x ∈ m) → l.length ≤ m.length
  | [], m, _, _ => Nat.zero_le _
  | x :: l, m, h, s => by
    have h' := List.nodup_cons.mp h
    have hx : x ∈ m := s x List.mem_cons_self
    have ih := nodup_le (l := l) (m := m.erase x) h'.2 fun y hy => (List.mem_erase_of_ne (fun e : y = x => h'.1 (by rw [← e]; exact hy))).mpr (s y (List.mem_cons_of_mem _ hy))
    rw [List.length_erase_of_mem hx] at ih
    have : 0 < m.length := List.length_pos_of_mem hx
    rw [List.length_cons]; omega
theorem eqv_int {i j : Int} : PyData.eqv (.int i) (.int j) = decide (i = j) := by
  rw [PyData.eqv]
  by_cases h : i = j <;> simp [h]
theorem plain_ints : ∀ l : List Int, PyData.plainAll (l.map PyData.int) = true
  | [] => by simp [PyData.plainAll]
  | x :: r => by simp [PyData.plainAll, PyData.plain, plain_ints r]
theorem depth_int {i : Int} : (PyData.int i).depth = 1 ∨ (PyData.int i).depth = 0 := by simp [PyData.depth]
theorem in_ints {neg : Bool} {x : Int} {l : List Int} : inD neg (.int x) (.list (l.map .int)) = some (.bool (decide (x ∈ l) != neg)) := by
  have ok : inOk (.int x) (l.map .int) = true := by
    rw [inOk_iff]
    refine ⟨by simp [PyData.plain], plain_ints l, ?_⟩
    rcases depth_int (i := x) with h | h <;> rw [h] <;> omega
  have e : inL (.int x) (l.map .int) = decide (x ∈ l) := by
    unfold inL
    rw [List.any_map]
    rw [Bool.eq_iff_iff, List.any_eq_true, decide_eq_true_eq]
    constructor
    · rintro ⟨y, hy, h⟩
      rw [Function.comp_apply, eqv_int, decide_eq_true_eq] at h
      exact h ▸ hy
    · exact fun h => ⟨x, h, by rw [Function.comp_apply, eqv_int]; simp⟩
  show (if inOk (.int x) (l.map .int) = true then some (PyData.bool (inL (.int x) (l.map .int) != neg)) else none) = _
  rw [if_pos ok, e]
theorem intsD_map : ∀ l : List Int, intsD (l.map PyData.int) = some l
  | [] => rfl
  | x :: r => by
    show (intsD (r.map PyData.int)).map _ = _
    rw [intsD_map r]; rfl
theorem sorted_ints {l : List Int} : sortedD [.list (l.map .int)] = some (.list ((sortI l).map .int)) := by
  show (intsD (l.map PyData.int)).map _ = _
  rw [intsD_map]; rfl
theorem max_ints {x : Int} {l : List Int} : maxD [.list ((x :: l).map .int)] = some (.int (maxI x l)) := by
  show (intsD ((x :: l).map PyData.int)).bind _ = _
  rw [intsD_map]; rfl
theorem min_ints {x : Int} {l : List Int} : minD [.list ((x :: l).map .int)] = some (.int (minI x l)) := by
  show (intsD ((x :: l).map PyData.int)).bind _ = _
  rw [intsD_map]; rfl
theorem max_two {i j : Int} : maxD [.int i, .int j] = some (.int (if j > i then j else i)) := (rfl)
theorem min_two {i j : Int} : minD [.int i, .int j] = some (.int (if j < i then j else i)) := (rfl)
theorem tuple_list {xs : List D} : tupleD [.list xs] = some (.tuple xs) := (rfl)
theorem tuple_tuple {xs : List D} : tupleD [.tuple xs] = some (.tuple xs) := (rfl)
theorem list_list {xs : List D} : listD [.list xs] = some (.list xs) := (rfl)
theorem list_tuple {xs : List D} : listD [.tuple xs] = some (.list xs) := (rfl)
/-- xs == [] -/
theorem eq_emptyL {xs : List D} (h : PyData.plainAll xs = true) : eqD (.list xs) (.list []) = some (.bool (decide (xs = []))) := by
  have ok : eqOk (.list xs) (.list []) = true := by
    rw [eqOk_iff]
    refine ⟨by simpa [PyData.plain] using h, by simp [PyData.plain, PyData.plainAll], ?_⟩
    have : (PyData.list []).depth ≤ 1 := by simp [PyData.depth, PyData.depthAll]
    omega
  unfold eqD
  rw [if_pos ok]
  cases xs <;> simp [PyData.eqv, PyData.eqvAll]
theorem ne_emptyL {xs : List D} (h : PyData.plainAll xs = true) : neD (.list xs) (.list []) = some (.bool (!decide (xs = []))) := by
  have ok : eqOk (.list xs) (.list []) = true := by
    rw [eqOk_iff]
    refine ⟨by simpa [PyData.plain] using h, by simp [PyData.plain, PyData.plainAll], ?_⟩
    have : (PyData.list []).depth ≤ 1 := by simp [PyData.depth, PyData.depthAll]
    omega
  unfold neD
  rw [if_pos ok]
  cases xs <;> simp [PyData.eqv, PyData.eqvAll]
theorem ne_emptyT {xs : List D} (h : PyData.plainAll xs = true) : neD (.tuple xs) (.tuple []) = some (.bool (!decide (xs = []))) := by
  have ok : eqOk (.tuple xs) (.tuple []) = true := by
    rw [eqOk_iff]
    refine ⟨by simpa [PyData.plain] using h, by simp [PyData.plain, PyData.plainAll], ?_⟩
    have : (PyData.tuple []).depth ≤ 1 := by simp [PyData.depth, PyData.depthAll]
    omega
  unfold neD
  rw [if_pos ok]
  cases xs <;> simp [PyData.eqv, PyData.eqvAll]
/-! strictly increasing lists: the first, the last -/
theorem first_of {l : List Int} (h : l.Pairwise (· < ·)) {m : Int} (hm : m ∈ l) (hle : ∀ x ∈ l, m ≤ x) : l[0]? = some m := by
  match l, h with
  | x :: r, h =>
    have h' := List.pairwise_cons.mp h
    rcases List.mem_cons.mp hm with e | e
    · rw [e]; rfl
    · have a := h'.1 m e
      have b := hle x List.mem_cons_self
      omega
theorem last_of : ∀ {l : List Int}, l.Pairwise (· < ·) → ∀ {m : Int}, m ∈ l → (∀ x ∈ l, x ≤ m) → l[l.length - 1]? = some m
  | [x], _, m, hm, _ => by simp at hm; rw [hm]; rfl
  | x :: y :: r, h, m, hm, hle => by
    have h' := List.pairwise_cons.mp h
    have ne : m ≠ x := fun e => by
      have a := h'.1 y List.mem_cons_self
      have b := hle y (List.mem_cons_of_mem _ List.mem_cons_self)
      omega
    have hm' : m ∈ y :: r := by
      rcases List.mem_cons.mp hm with e | e
      · exact absurd e ne
      · exact e
    have := last_of (l := y :: r) h'.2 hm' fun z hz => hle z (List.mem_cons_of_mem _ hz)
    rw [List.length_cons, Nat.add_sub_cancel] at this ⊢
    rw [List.length_cons, List.getElem?_cons_succ]
    exact this
/-- lo, lo + 1, .. -/
def runI (lo : Int) (n : Nat) : List Int := (List.range n).map fun i : Nat => lo + (i : Int)
theorem runI_mem {lo : Int} {n : Nat} {x : Int} : x ∈ runI lo n ↔ lo ≤ x ∧ x < lo + n := by
  unfold runI
  rw [List.mem_map]
  constructor
  · rintro ⟨i, hi, rfl⟩
    rw [List.mem_range] at hi
    omega
  · rintro ⟨h1, h2⟩
    exact ⟨(x - lo).toNat, by rw [List.mem_range]; omega, by omega⟩
theorem runI_sorted {lo : Int} {n : Nat} : (runI lo n).Pairwise (· < ·) := by
  unfold runI
  rw [List.pairwise_map]
  exact List.pairwise_lt_range.imp fun h => by omega
theorem rngD_run {lo : Int} {n : Nat} : rngD lo 1 n = (runI lo n).map .int := by
  unfold rngD runI
  rw [List.map_map]
  congr 1
  funext i
  simp
theorem filter_ints {p : D → Bool} {l : List Int} : (l.map PyData.int).filter p = (l.filter fun i => p (.int i)).map .int := by
  rw [List.filter_map]; rfl
theorem at_last {α : Type} {l : List α} {x : α} (h : l[l.length - 1]? = some x) : atI l (-1) = some x := by
  have hl : 0 < l.length := by
    rcases Nat.eq_zero_or_pos l.length with e | e
    · rw [List.length_eq_zero_iff.mp e] at h; cases h
    · exact e
  unfold atI ixN
  rw [if_neg (by decide), if_pos (by omega)]
  show l[((-1 : Int) + l.length).toNat]? = _
  rw [show ((-1 : Int) + l.length).toNat = l.length - 1 by omega]
  exact h
end L3
namespace L3
open PySem PySem.Spec PyProof.Rows L2
theorem wp_back {a : Rho → Rs Vl} {ρ : Rho} {QF : Vf → Rho → Prop} : Wp (sBack a ρ) QF = Wp (a ρ) fun x ρ => Wp (backOf ρ (x.cont ρ)) QF := by
  unfold sBack; rw [wp_bind]
theorem back_l {ρ : Rho} {xs : List D} : backOf ρ (some (.list xs)) = .ok (.fr (.list xs.reverse)) ρ := (rfl)
theorem back_t {ρ : Rho} {xs : List D} : backOf ρ (some (.tuple xs)) = .ok (.v (.d (.tuple xs.reverse))) ρ := (rfl)
theorem ite_of {c : Prop} [i : Decidable c] {P Q : Prop} (h : c) (p : P) : @ite Prop c i P Q := by rw [if_pos h]; exact p
theorem ite_no {c : Prop} [i : Decidable c] {P Q : Prop} (h : ¬ c) (q : Q) : @ite Prop c i P Q := by rw [if_neg h]; exact q
theorem filter_all {l : List D} : l.filter (fun _ => true) = l := List.filter_eq_self.mpr (by simp)
/-- [g d for d in ds] -/
theorem gat_map {tg : D → Rho → Rs Fl} {e : Rho → Rs Vl} {vs : List Nat} {Q : List D → Rho → Prop} {ds : List D} {ρ : Rho} (g : D → D) (hs : ∀ d ∈ ds, Wp (tg d ρ) fun f ρ1 => f = .nx ∧ allVal ρ1 vs = true ∧ wipeR ρ1 vs = ρ ∧ Wp (e ρ1) fun x ρ3 => ρ3 = ρ1 ∧ x = .d (g d)) (hl : ds.length ≤ sizeLine)
    (h : Q (ds.map g) ρ) : Wp (sGather tg sYes e vs ds [] ρ) Q := by
  refine gat_pure (fun _ => true) g (fun d hd => (hs d hd).to fun f ρ1 q => ⟨q.1, q.2.1, q.2.2.1, ?_⟩) hl (by rw [filter_all]; exact h)
  rw [wp_yes]
  exact ⟨rfl, rfl, fun _ => q.2.2.2⟩
/-- one statement, then the rest: P holds between -/
theorem seq_step {a b : Rho → Rs Fl} {ρ : Rho} {QS : Fl → Rho → Prop} (P : Rho → Prop) (h : Wp (a ρ) fun f ρ' => f = .nx ∧ P ρ') (k : ∀ ρ', P ρ' → Wp (b ρ') QS) : Wp (sSeq a b ρ) QS := by
  rw [wp_seq]
  refine h.to fun f ρ' q => ?_
  obtain ⟨rfl, q⟩ := q
  exact k ρ' q
/-- one statement that leaves all as it was -/
theorem seq_same {a b : Rho → Rs Fl} {ρ : Rho} {QS : Fl → Rho → Prop} (h : Wp (a ρ) fun f ρ' => f = .nx ∧ ρ' = ρ) (k : Wp (b ρ) QS) : Wp (sSeq a b ρ) QS :=
  seq_step (fun ρ' => ρ' = ρ) h fun ρ' e => by subst e; exact k
theorem eq_emptyT' {xs : List D} (h : PyData.plainAll xs = true) : eqD (.tuple xs) (.tuple []) = some (.bool (decide (xs = []))) := by
  have ok : eqOk (.tuple xs) (.tuple []) = true := by
    rw [eqOk_iff]
    refine ⟨by simpa [PyData.plain] using h, by simp [PyData.plain, PyData.plainAll], ?_⟩
    have : (PyData.tuple []).depth ≤ 1 := by simp [PyData.depth, PyData.depthAll]
    omega
  unfold eqD
  rw [if_pos ok]
  cases xs <;> simp [PyData.eqv, PyData.eqvAll]
/-- x != x -/
theorem ne_self {x : D} (h : eqOk x x = true) (r : PyData.eqv x x = true) : neD x x = some (.bool false) := by
  unfold neD
  rw [if_pos h, r]; rfl
theorem ne_pair {a b : Int} : neD (.tuple [.int a, .int b]) (.tuple [.int a, .int b]) = some (.bool false) := by
  refine ne_self ?_ ?_
  · rw [eqOk_iff]
    refine ⟨by simp [PyData.plain, PyData.plainAll], by simp [PyData.plain, PyData.plainAll], ?_⟩
    simp [PyData.depth, PyData.depthAll]
  · simp [PyData.eqv, PyData.eqvAll]
theorem ne_non : neD .none .none = some (.bool false) := by
  refine ne_self ?_ ?_
  · rw [eqOk_iff]
    refine ⟨by simp [PyData.plain], by simp [PyData.plain], ?_⟩
    simp [PyData.depth]
  · simp [PyData.eqv]
end L3
namespace Riv
open PySem PySem.Spec PyProof.Rows L2 L3
def k_MOST_PINS : D := .int 8
def k_MOST_PLACE : D := .int 40
def b__law_taken : Rho → Rs Fl :=
 (sSeq (sIfS (sBin gtD (sBin ixD (sVar 0) (sC (.int 3))) (sC (.int 0))) (sSeq (sAsg 3 (liF (sBin (binD .Mod) (sFun L3.intD (sCons (sBin ixD (sVar 0) (sC (.int 3))) sNil)) (sVar 1))))
 (sSeq (sSetIx 0 (sC (.int 3)) (sBin (binD .FloorDiv) (sBin ixD (sVar 0) (sC (.int 3))) (sVar 1)))
 (sRet (sVar 3)))) sNx)
 (sSeq (sSetIx 0 (sC (.int 1)) (sBin (binD .Add) (sBin ixD (sVar 0) (sC (.int 1))) (sC (.int 1))))
 (sSeq (sIfS (sBin gtD (sBin ixD (sVar 0) (sC (.int 1))) (sFun lenD (sCons (sBin ixD (sVar 0) (sC (.int 0))) sNil))) (sSeq (sSetIx 0 (sC (.int 2)) (sBin (binD .Mod) (sFun L3.intD (sCons (sBin (binD .Add) (sBin (binD .Mult) (sBin ixD (sVar 0) (sC (.int 2))) (sC (.int 48271))) (sC (.int 11))) sNil)) (sC (.int 2147483647))))
 (sRet (sBin (binD .Mod) (sFun L3.intD (sCons (sBin (binD .FloorDiv) (sBin ixD (sVar 0) (sC (.int 2))) (sC (.int 7))) sNil)) (sVar 1)))) sNx)
 (sSeq (sAsg 2 (liF (sBin ixD (sBin ixD (sVar 0) (sC (.int 0))) (sBin (binD .Sub) (sBin ixD (sVar 0) (sC (.int 1))) (sC (.int 1))))))
 (sSeq (sSetIx 0 (sC (.int 2)) (sBin (binD .Mod) (sFun L3.intD (sCons (sBin (binD .Add) (sBin (binD .Add) (sBin (binD .Mult) (sBin ixD (sVar 0) (sC (.int 2))) (sC (.int 48271))) (sVar 2)) (sC (.int 11))) sNil)) (sC (.int 2147483647))))
 (sSeq (sIfS (sBin geD (sVar 2) (sBin (binD .Pow) (sC (.int 10)) (sC (.int 18)))) (sSetIx 0 (sC (.int 3)) (sBin (binD .FloorDiv) (sVar 2) (sVar 1))) sNx)
 (sRet (sBin (binD .Mod) (sFun L3.intD (sCons (sVar 2) sNil)) (sVar 1)))))))))
def f__law_taken : Fn := defR 4 [true, false] b__law_taken
def b__law_pins : Rho → Rs Fl :=
 (sSeq (sAsg 3 (sLst sNil))
 (sSeq (sFor (sRng (sCons (sC (.int 200)) sNil)) (gN 4)
 (sSeq (sAsg 5 (liF (sCallO [true, false] f__law_taken (sCons (sVar 0) (sCons (sBin (binD .Add) (sVar 2) (sC (.int 1))) sNil)))))
 (sIfS (sAnd (sBin ltD (sFun lenD (sCons (sVar 3) sNil)) (sVar 1)) (sBin (inD true) (sVar 5) (sVar 3))) (sExp (sMut 3 appF (sCons (sVar 5) sNil))) sNx)))
 (sSeq (sFor (sRng (sCons (sBin (binD .Add) (sVar 2) (sC (.int 1))) sNil)) (gN 5)
 (sIfS (sAnd (sBin ltD (sFun lenD (sCons (sVar 3) sNil)) (sVar 1)) (sBin (inD true) (sVar 5) (sVar 3))) (sExp (sMut 3 appF (sCons (sVar 5) sNil))) sNx))
 (sRet (sFun tupleD (sCons (unF (sFunF sortedD (sCons (sVar 3) sNil))) sNil))))))
def f__law_pins : Fn := defR 6 [true, false, false] b__law_pins
def b__law_pick : Rho → Rs Fl :=
 (sRet (sBin ixD (sVar 1) (sCallO [true, false] f__law_taken (sCons (sVar 0) (sCons (sFun lenD (sCons (sVar 1) sNil)) sNil)))))
def f__law_pick : Fn := defR 2 [true, false] b__law_pick
def b__law_river : Rho → Rs Fl :=
 (sSeq (sPar 5 6 (sCons (sCallO [true, false] f__law_taken (sCons (sVar 0) (sCons (sC (.int 8)) sNil))) (sCons (sCallO [true, false] f__law_pick (sCons (sVar 0) (sCons (unF (sLst (sCons (sC (.int 8)) (sCons (sC (.int 12)) (sCons (sC (.int 20)) (sCons (sC (.int 40)) sNil)))))) sNil))) sNil)))
 (sSeq (sAsg 1 (liF (sCallO [true, false, false] f__law_pins (sCons (sVar 0) (sCons (sVar 5) (sCons (sVar 6) sNil))))))
 (sSeq (sIfS (sBin eqD (sCallO [true, false] f__law_taken (sCons (sVar 0) (sCons (sC (.int 2)) sNil))) (sC (.int 0))) (sRet (sTup (sCons (sVar 1) (sCons (sCallO [true, false, false] f__law_pins (sCons (sVar 0) (sCons (sVar 5) (sCons (sVar 6) sNil)))) sNil)))) sNx)
 (sSeq (sAsg 2 (liF (sCallO [true, false] f__law_taken (sCons (sVar 0) (sCons (sC (.int 4)) sNil)))))
 (sSeq (sAsg 3 (sLc (sIt (sVar 1)) (gN 7) sYes (sFun minD (sCons (sC (.int 40)) (sCons (sBin (binD .Add) (sBin (binD .Add) (sVar 7) (sVar 2)) (sCallO [true, false] f__law_taken (sCons (sVar 0) (sCons (sC (.int 2)) sNil)))) sNil))) [7]))
 (sSeq (sFor (sRng (sCons (sC (.int 1)) (sCons (sVar 5) sNil))) (gN 4)
 (sSetIx 3 (sVar 4) (sFun maxD (sCons (sBin ixD (sVar 3) (sVar 4)) (sCons (sBin (binD .Add) (sBin ixD (sVar 3) (sBin (binD .Sub) (sVar 4) (sC (.int 1)))) (sC (.int 1))) sNil)))))
 (sRet (sIf (sOr (sBin eqD (sVar 3) (unF (sLst sNil))) (sBin leD (sBin ixD (sVar 3) (sUn negD (sC (.int 1)))) (sC (.int 40)))) (sTup (sCons (sVar 1) (sCons (sFun tupleD (sCons (sVar 3) sNil)) sNil))) (sTup (sCons (sVar 1) (sCons (sVar 1) sNil)))))))))))
def f__law_river : Fn := defR 8 [true] b__law_river
def b__law_alike (me : Fn) : Rho → Rs Fl :=
 (sSeq (sIfS (sUn (isiD [.tuple, .list]) (sVar 1)) (sSeq (sIfS (sOr (sNot (sUn (isiD [.tuple, .list]) (sVar 0))) (sBin neD (sUn (isiD [.list]) (sVar 0)) (sUn (isiD [.list]) (sVar 1)))) (sRet (sC (.bool false))) sNx)
 (sSeq (sIfS (sBin neD (sFun lenD (sCons (sVar 0) sNil)) (sFun lenD (sCons (sVar 1) sNil))) (sRet (sC (.bool false))) sNx)
 (sRet (sBin eqD (unF (sLc (sRng (sCons (sFun lenD (sCons (sVar 1) sNil)) sNil)) (gN 2) (asB (sNot (sCall me (sCons (sBin ixD (sVar 0) (sVar 2)) (sCons (sBin ixD (sVar 1) (sVar 2)) sNil))))) (sVar 2) [2])) (unF (sLst sNil)))))) sNx)
 (sSeq (sIfS (sOr (sBin isD (sVar 1) (sC .none)) (sUn (isiD [.str]) (sVar 1))) (sRet (sAnd (sBin eqD (sVar 0) (sVar 1)) (sBin eqD (sUn (isiD [.str]) (sVar 0)) (sUn (isiD [.str]) (sVar 1))))) sNx)
 (sRet (sAnd (sUn (isiD [.int]) (sVar 0)) (sAnd (sBin eqD (sUn (isiD [.bool]) (sVar 0)) (sUn (isiD [.bool]) (sVar 1))) (sBin eqD (sVar 0) (sVar 1)))))))
def f__law_alike : Nat → Fn
  | 0 => fun _ => .bad
  | n + 1 => defR 3 [false, false] (b__law_alike (f__law_alike n))
def b__law_fits : Rho → Rs Fl :=
 (sSeq (sFor (sRng (sCons (sBin (binD .Sub) (sFun lenD (sCons (sVar 0) sNil)) (sVar 2)) sNil)) (gN 4)
 (sIfS (sOr (sBin ltD (sBin (binD .Sub) (sBin (binD .Add) (sBin ixD (sVar 1) (sBin (binD .Add) (sVar 4) (sVar 2))) (sVar 3)) (sBin ixD (sVar 0) (sVar 4))) (sVar 2)) (sBin ltD (sBin (binD .Sub) (sBin (binD .Sub) (sBin ixD (sVar 0) (sBin (binD .Add) (sVar 4) (sVar 2))) (sBin ixD (sVar 1) (sVar 4))) (sVar 3)) (sVar 2))) (sRet (sC (.bool false))) sNx))
 (sRet (sC (.bool true))))
def f__law_fits : Fn := defR 5 [false, false, false, false] b__law_fits
def b_is_list : Rho → Rs Fl :=
 (sRet (sAnd (sUn (isiD [.tuple]) (sVar 0)) (sChain leD leD (sVar 1) (sFun lenD (sCons (sVar 0) sNil)) (sVar 2))))
def f_is_list : Fn := defR 3 [false, false, false] b_is_list
def b_is_integer : Rho → Rs Fl :=
 (sRet (sAnd (sUn (isiD [.int]) (sVar 0)) (sNot (sUn (isiD [.bool]) (sVar 0)))))
def f_is_integer : Fn := defR 1 [false] b_is_integer
def b_is_in : Rho → Rs Fl :=
 (sRet (sAnd (sCall f_is_integer (sCons (sVar 0) sNil)) (sChain leD leD (sVar 1) (sVar 0) (sVar 2))))
def f_is_in : Fn := defR 3 [false, false, false] b_is_in
def b_need_pins : Rho → Rs Fl :=
 (sSeq (sIfS (sNot (sCall f_is_list (sCons (sVar 0) (sCons (sIf (sBin isD (sVar 1) (sC .none)) (sC (.int 0)) (sVar 1)) (sCons (sIf (sBin isD (sVar 1) (sC .none)) (sC k_MOST_PINS) (sVar 1)) sNil))))) sBad sNx)
 (sFor (one1 enumD (sCons (sVar 0) sNil)) (gTp 2 (gsC (gN 2) (gsC (gN 3) gsN)))
 (sIfS (sOr (sNot (sCall f_is_in (sCons (sVar 3) (sCons (sC (.int 0)) (sCons (sC k_MOST_PLACE) sNil))))) (sAnd (sBin gtD (sVar 2) (sC (.int 0))) (sBin leD (sVar 3) (sBin ixD (sVar 0) (sBin (binD .Sub) (sVar 2) (sC (.int 1))))))) sBad sNx)))
def f_need_pins : Fn := defR 4 [false, false] b_need_pins
def b_need_rows : Rho → Rs Fl :=
 (sSeq (sExp (sCall f_need_pins (sCons (sVar 0) (sCons (sC .none) sNil))))
 (sExp (sCall f_need_pins (sCons (sVar 1) (sCons (sFun lenD (sCons (sVar 0) sNil)) sNil)))))
def f_need_rows : Fn := defR 2 [false, false] b_need_rows
def b_shifts : Rho → Rs Fl :=
 (sSeq (sExp (sCall f_need_rows (sCons (sVar 0) (sCons (sVar 1) sNil))))
 (sSeq (sIfS (sNot (sCall f_is_in (sCons (sVar 2) (sCons (sC (.int 0)) (sCons (sC k_MOST_PINS) sNil))))) sBad sNx)
 (sSeq (sAsg 3 (sLc (sRng (sCons (sBin (binD .Sub) (sFun lenD (sCons (sVar 0) sNil)) (sVar 2)) sNil)) (gN 6) sYes (sTup (sCons (sBin ixD (sVar 0) (sVar 6)) (sCons (sBin ixD (sVar 0) (sBin (binD .Add) (sVar 6) (sVar 2))) (sCons (sBin ixD (sVar 1) (sVar 6)) (sCons (sBin ixD (sVar 1) (sBin (binD .Add) (sVar 6) (sVar 2))) sNil))))) [6]))
 (sSeq (sIfS (sBin eqD (sVar 3) (unF (sLst sNil))) (sRet (sC .none)) sNx)
 (sSeq (sAsg 4 (liF (sFun maxD (sCons (unF (sLc (sIt (sVar 3)) (gTp 4 (gsC (gN 7) (gsC (gN 8) (gsC (gN 9) (gsC (gN 10) gsN))))) sYes (sBin (binD .Sub) (sBin (binD .Add) (sVar 7) (sVar 2)) (sVar 10)) [7, 8, 9, 10])) sNil))))
 (sSeq (sAsg 5 (liF (sFun minD (sCons (unF (sLc (sIt (sVar 3)) (gTp 4 (gsC (gN 7) (gsC (gN 8) (gsC (gN 9) (gsC (gN 10) gsN))))) sYes (sBin (binD .Sub) (sBin (binD .Sub) (sVar 8) (sVar 2)) (sVar 9)) [7, 8, 9, 10])) sNil))))
 (sRet (sIf (sBin leD (sVar 4) (sVar 5)) (sTup (sCons (sVar 4) (sCons (sVar 5) sNil))) (sTup sNil)))))))))
def f_shifts : Fn := defR 11 [false, false, false] b_shifts
def b_does_fit : Rho → Rs Fl :=
 (sSeq (sFor (sRng (sCons (sBin (binD .Sub) (sFun lenD (sCons (sVar 0) sNil)) (sVar 2)) sNil)) (gN 4)
 (sIfS (sOr (sBin ltD (sBin (binD .Sub) (sBin (binD .Add) (sBin ixD (sVar 1) (sBin (binD .Add) (sVar 4) (sVar 2))) (sVar 3)) (sBin ixD (sVar 0) (sVar 4))) (sVar 2)) (sBin ltD (sBin (binD .Sub) (sBin (binD .Sub) (sBin ixD (sVar 0) (sBin (binD .Add) (sVar 4) (sVar 2))) (sBin ixD (sVar 1) (sVar 4))) (sVar 3)) (sVar 2))) (sRet (sC (.bool false))) sNx))
 (sRet (sC (.bool true))))
def f_does_fit : Fn := defR 5 [false, false, false, false] b_does_fit
def b_height_in : Rho → Rs Fl :=
 (sRet (sFun minD (sCons (unF (sLc (sRng (sCons (sBin (binD .Add) (sFun lenD (sCons (sVar 0) sNil)) (sC (.int 1))) sNil)) (gN 2) (asB (sCall f_does_fit (sCons (sVar 0) (sCons (sVar 1) (sCons (sVar 2) (sCons (sC (.int 0)) sNil)))))) (sVar 2) [2])) sNil)))
def f_height_in : Fn := defR 3 [false, false] b_height_in
def b_river_height : Rho → Rs Fl :=
 (sSeq (sExp (sCall f_need_rows (sCons (sVar 0) (sCons (sVar 1) sNil))))
 (sRet (sCall f_height_in (sCons (sVar 0) (sCons (sVar 1) sNil)))))
def f_river_height : Fn := defR 2 [false, false] b_river_height
def b_best_shift : Rho → Rs Fl :=
 (sSeq (sExp (sCall f_need_rows (sCons (sVar 0) (sCons (sVar 1) sNil))))
 (sSeq (sFor (sRng (sCons (sBin (binD .Add) (sFun lenD (sCons (sVar 0) sNil)) (sC (.int 1))) sNil)) (gN 2)
 (sSeq (sAsg 3 (liF (sCall f_shifts (sCons (sVar 0) (sCons (sVar 1) (sCons (sVar 2) sNil))))))
 (sSeq (sIfS (sBin isD (sVar 3) (sC .none)) (sRet (sTup (sCons (sVar 2) (sCons (sC (.int 0)) sNil)))) sNx)
 (sIfS (sBin neD (sVar 3) (sTup sNil)) (sRet (sTup (sCons (sVar 2) (sCons (sBin ixD (sVar 3) (sC (.int 0))) sNil)))) sNx))))
 (sRet (sC .none))))
def f_best_shift : Fn := defR 4 [false, false] b_best_shift
end Riv
namespace Riv
open PySem PySem.Spec PyProof.Rows L2 L3
local macro_rules | `(tactic| array_get_dec) => `(tactic| simp only [L3.wp_ok, L3.wp_bad, L3.wp_seq, L3.wp_ifS, L3.wp_ret, L3.wp_exp, L3.wp_asg, L3.wp_asgT, L3.wp_gN, L3.wp_gsN, L3.wp_gsC, L3.wp_gTpT, L3.wp_gTpL, L3.wp_par, L3.wp_put2, L3.wp_put, L3.putOk_v, L3.putOk_o, L3.putOk_n, L3.putOk_of, L3.wp_for, L3.wp_loop_nil, L3.wp_nx, L3.wp_sbad, L3.wp_thenG,
  L3.wp_var, L3.at_val, L3.at_own, L3.wp_c, L3.wp_bin, L3.wp_un, L3.cont_d, L3.cont_bv, L3.cont_val, L3.cont_own, L3.wp_asB, L3.wp_not, L3.wp_and, L3.wp_or, L3.wp_ifE, L3.wp_chain, L3.wp_nil, L3.wp_cons, L3.wp_frz_d, L3.wp_frz_bv, L3.fa_val, L3.fa_own, L3.wp_frzs_nil, L3.wp_frzs_cons, L3.wp_tup, L3.wp_lst, L3.wp_fun, L3.wp_funF, L3.conts_nil, L3.conts_cons, L3.wp_unF, L3.wp_liF,
  L3.wp_aug, L3.aa_val, L3.wp_setIx, L3.wp_setAt, L3.wp_mut, L3.own_def, L3.olc_own, L3.wp_it, L3.wp_rng, L3.wp_enum, L3.wp_lc, L3.wp_yes, L3.wp_slice, L3.wp_call, L3.wp_callO, L3.wp_prep_nil, L3.wp_prep_f, L3.wp_prep_t, L3.wp_callRO, L3.idx_nil, L3.idx_l, L3.idx_r, L3.ph2_nil, L3.ph2_l, L3.ph2_r, L3.oa_own, L3.so_nil, L3.so_l, L3.so_r, L3.back_own,
  L3.wpo_some, L3.wpo_none, L3.wpo_ite, L3.wpo_map, L3.wpo_bind, L3.bin_add, L3.bin_sub, L3.bin_mul, L3.bin_fdiv, L3.bin_mod, L3.bin_pow, L3.neg_intD, L3.lt_int', L3.le_int', L3.gt_int', L3.ge_int', L3.eq_int', L3.ne_int', L3.eq_bool', L3.ne_bool', L3.is_none', L3.isn_none', L3.isi_one, L3.isi_two, L3.lenD_list, L3.lenD_tuple, L3.ix_listD, L3.ix_tupD,
  L3.szOk0, L3.szOk1, L3.szOk2, L3.szOk3, L3.szOk4, L3.szOk5, L3.szOk6, L3.szOk7, L3.szOk8, L3.at0, L3.at1, L3.at2, L3.at3, L3.ix40, L3.ix41, L3.ix42, L3.ix43, L3.int_int, L3.len_scr, L3.ix_scr, L3.outC_t, L3.outC_f, L3.outC_v, L3.outC_n, List.map_cons, List.map_nil, List.take_succ_cons, List.take_zero, Int.reduceNeg,
  List.getElem?_cons_zero, List.getElem?_cons_succ, List.set_cons_zero, List.set_cons_succ, List.length_cons, List.length_nil, Option.bind_some, Option.bind_none, Option.map_some, Option.map_none, Option.isSome_some, Option.isSome_none, if_true, if_false, Bool.not_true, Bool.not_false, decide_true, decide_false, Bool.false_eq_true, Nat.reduceAdd, List.nodup_cons, List.not_mem_nil, not_false_eq_true, List.nodup_nil, and_self, and_true, true_and, ite_self, reduceIte, decide_eq_true_eq, Bool.not_eq_true'])
local macro_rules | `(tactic| array_mem_dec) => `(tactic| simp only [L3.isT_def, isScr, Ty.of, if_true, if_false, Bool.false_eq_true, Option.map_some, L3.wpo_some, Option.bind_some, Bool.not_true, Bool.not_false])
local macro_rules | `(tactic| decreasing_trivial_pre_omega) => `(tactic| (refine L3.wpf_go (rfl) ?_; simp only [L3.init_r, L3.init_c, L3.init_n, List.cons_append, List.nil_append, if_true, Bool.false_eq_true, if_false, List.length_cons, List.length_nil, Nat.reduceAdd, Nat.reduceSub, List.replicate]))
theorem tk : f__law_taken = takenF := rfl
theorem pk : f__law_pick = pickF := rfl
theorem al : ∀ n, f__law_alike n = alikeF n
  | 0 => rfl
  | n + 1 => by
    show defR 3 _ (b__law_alike (f__law_alike n)) = defR 3 _ (alikeB (alikeF n))
    rw [al n]; rfl

/-! ### small ones -/
theorem is_integer_wp {x : Int} : WpF (f_is_integer [.int x]) fun z _ => z = .bool true := by
  unfold f_is_integer
  decreasing_trivial_pre_omega
  unfold b_is_integer
  array_get_dec
  array_mem_dec
theorem is_in_wp {x a b : Int} : WpF (f_is_in [.int x, .int a, .int b]) fun z _ => z = .bool (decide (a ≤ x) && decide (x ≤ b)) := by
  unfold f_is_in
  decreasing_trivial_pre_omega
  unfold b_is_in
  array_get_dec
  refine is_integer_wp.to fun z _ hz => ?_
  subst hz
  array_get_dec
  by_cases h : a ≤ x <;> simp [h, wp_ok, wp_var, at_val]
theorem is_list_wp {l : List Int} {a b : Int} (hl : l.length ≤ 1000000) : WpF (f_is_list [tupI l, .int a, .int b]) fun z _ => z = .bool (decide (a ≤ l.length) && decide ((l.length : Int) ≤ b)) := by
  unfold f_is_list
  decreasing_trivial_pre_omega
  unfold b_is_list tupI
  array_get_dec
  array_mem_dec
  rw [List.length_map, szOk_small hl]
  array_get_dec
  by_cases h : a ≤ l.length <;> simp [h]
/-! ### rows of pins -/
structure Pins (l : List Int) : Prop where
  len : l.length ≤ 8
  b : ∀ x ∈ l, 0 ≤ x ∧ x ≤ 40
  s : l.Pairwise (· < ·)
theorem Pins.at {l : List Int} (h : Pins l) {k : Nat} (hk : k < l.length) : 0 ≤ l.getD k 0 ∧ l.getD k 0 ≤ 40 := by
  rw [List.getD_eq_getElem?_getD, List.getElem?_eq_getElem hk]
  exact h.b _ (List.getElem_mem hk)
theorem sorted_step {l : List Int} (h : l.Pairwise (· < ·)) {j : Nat} (hj : j + 1 < l.length) : l.getD j 0 < l.getD (j + 1) 0 := by
  rw [List.getD_eq_getElem?_getD, List.getD_eq_getElem?_getD, List.getElem?_eq_getElem hj, List.getElem?_eq_getElem (by omega)]
  exact List.pairwise_iff_getElem.mp h j (j + 1) (by omega) hj (by omega)
theorem need_pins_wp {l : List Int} {m : D} (hp : Pins l) (hm : m = .none ∨ m = .int l.length) : WpF (f_need_pins [tupI l, m]) fun _ _ => True := by
  have h8 := hp.len
  have key : ∀ a b : Int, a ≤ l.length → (l.length : Int) ≤ b → WpF (f_is_list [tupI l, .int a, .int b]) fun z _ => z = .bool true := fun a b h1 h2 => (is_list_wp (by omega)).to fun z _ hz => by rw [hz]; simp [h1, h2]
  have loop : ∀ m : D, Wp (sLoop (gTp 2 (gsC (gN 2) (gsC (gN 3) gsN))) (sIfS (sOr (sNot (sCall f_is_in (sCons (sVar 3) (sCons (sC (PyData.int 0)) (sCons (sC k_MOST_PLACE) sNil))))) (sAnd (sBin gtD (sVar 2) (sC (PyData.int 0))) (sBin leD (sVar 3) (sBin ixD (sVar 0) (sBin (binD Operator.Sub) (sVar 2) (sC (PyData.int 1))))))) sBad sNx)
      (enumD (l.map .int)) [Cell.val (tupI l), Cell.val m, Cell.no, Cell.no]) fun f ρ => f = .nx := by
    intro m
    refine loop_find (fun ρ => ∃ x y, ρ = [Cell.val (tupI l), Cell.val m, Cell.of x, Cell.of y]) (fun _ => false) (fun _ => .none) ?_ ⟨none, none, rfl⟩ (fun _ _ h => nomatch h) fun _ _ _ => rfl
    rintro j d hd ρ0 ⟨x, y, rfl⟩
    obtain ⟨z, hz, rfl⟩ := enumD_get hd
    rw [List.getElem?_map] at hz
    obtain ⟨v, hv, rfl⟩ := Option.map_eq_some_iff.mp hz
    obtain ⟨hj, ev⟩ := List.getElem?_eq_some_iff.mp hv
    have hb := hp.b v (ev ▸ List.getElem_mem hj)
    have gv : l.getD j 0 = v := by rw [List.getD_eq_getElem?_getD, hv]; rfl
    array_get_dec
    refine is_in_wp.to fun z _ hz => ?_
    subst hz
    rw [decide_eq_true hb.1, decide_eq_true hb.2]
    array_get_dec
    simp only [Bool.and_true, Bool.true_eq_false, if_false]
    split
    · rename_i h0
      have hj1 : (j - 1) + 1 < l.length := by omega
      have e1 : ixD (tupI l) (.int ((j : Int) - 1)) = some (.int (l.getD (j - 1) 0)) := by
        unfold tupI
        rw [ix_tupD, at_ints (by omega) (by omega)]
        congr 3; omega
      have lt := sorted_step hp.s hj1
      rw [show j - 1 + 1 = j by omega, gv] at lt
      rw [e1]
      array_get_dec
      rw [if_neg (by omega)]
      exact ⟨some _, some _, rfl⟩
    · exact ⟨some _, some _, rfl⟩
  unfold f_need_pins
  decreasing_trivial_pre_omega
  unfold b_need_pins
  array_get_dec
  rcases hm with rfl | rfl
  · simp only [L3.isNon, if_true]
    refine (key 0 8 (by omega) (by omega)).to fun z _ hz => ?_
    subst hz
    simp only [Bool.true_eq_false, if_false]
    refine (loop .none).to fun f ρ hf => ?_
    subst hf
    trivial
  · simp only [L3.isNon, if_false, Bool.false_eq_true]
    refine (key l.length l.length (by omega) (by omega)).to fun z _ hz => ?_
    subst hz
    simp only [Bool.true_eq_false, if_false]
    refine (loop _).to fun f ρ hf => ?_
    subst hf
    trivial
theorem len_pins {l : List Int} (h : Pins l) : lenD [tupI l] = some (.int l.length) := len_tupI (by have := h.len; omega)
theorem need_rows_wp {l m : List Int} (hl : Pins l) (hm : Pins m) (e : m.length = l.length) : WpF (f_need_rows [tupI l, tupI m]) fun _ _ => True := by
  unfold f_need_rows
  decreasing_trivial_pre_omega
  unfold b_need_rows
  array_get_dec
  refine (need_pins_wp hl (.inl rfl)).to fun _ _ _ => ?_
  rw [len_pins hl]
  array_get_dec
  rw [← e]
  exact (need_pins_wp hm (.inr rfl)).to fun _ _ _ => trivial

/-! ### fitting -/
def bad (L M : List Int) (h s : Int) (i : Nat) : Bool := decide (M.getD (i + h.toNat) 0 + s - L.getD i 0 < h) || decide (L.getD (i + h.toNat) 0 - M.getD i 0 - s < h)
def fitB (L M : List Int) (h s : Int) : Bool := (List.range (L.length - h.toNat)).all fun i => !bad L M h s i
theorem ix_at {l : List Int} {k : Int} {j : Nat} (e : k = j) (h : j < l.length) : ixD (tupI l) (.int k) = some (.int (l.getD j 0)) := by
  unfold tupI
  rw [ix_tupD, e, at_ints (by omega) (by omega), Int.toNat_natCast]
theorem fit_loop {L M : List Int} (hl : Pins L) (hm : M.length = L.length) {h s : Int} (h0 : 0 ≤ h) (body : Rho → Rs Fl)
    (hb : body = (sSeq (sFor (sRng (sCons (sBin (binD .Sub) (sFun lenD (sCons (sVar 0) sNil)) (sVar 2)) sNil)) (gN 4)
 (sIfS (sOr (sBin ltD (sBin (binD .Sub) (sBin (binD .Add) (sBin ixD (sVar 1) (sBin (binD .Add) (sVar 4) (sVar 2))) (sVar 3)) (sBin ixD (sVar 0) (sVar 4))) (sVar 2)) (sBin ltD (sBin (binD .Sub) (sBin (binD .Sub) (sBin ixD (sVar 0) (sBin (binD .Add) (sVar 4) (sVar 2))) (sBin ixD (sVar 1) (sVar 4))) (sVar 3)) (sVar 2))) (sRet (sC (.bool false))) sNx))
 (sRet (sC (.bool true))))) (hh : h ≤ 1000) : WpF (defR 5 [false, false, false, false] body [tupI L, tupI M, .int h, .int s]) fun z _ => z = .bool (fitB L M h s) := by
  subst hb
  have h8 := hl.len
  decreasing_trivial_pre_omega
  array_get_dec
  rw [len_pins hl]
  array_get_dec
  simp only [intsV1, wpo_some]
  rw [rng1 (by omega) (by omega)]
  array_get_dec
  have hn : ((L.length : Int) - h).toNat = L.length - h.toNat := by omega
  rw [hn]
  refine loop_find (fun ρ => ∃ x, ρ = [Cell.val (tupI L), Cell.val (tupI M), Cell.val (.int h), Cell.val (.int s), Cell.of x]) (bad L M h s) (fun _ => .bool false) ?_ ⟨none, rfl⟩ ?_ ?_
  · rintro j d hd ρ0 ⟨x, rfl⟩
    obtain ⟨hj, rfl⟩ := rngD_at hd
    array_get_dec
    rw [ix_at (j := j + h.toNat) (by omega) (by omega), ix_at (j := j) (by omega) (by omega), ix_at (j := j + h.toNat) (by omega) (by omega), ix_at (j := j) (by omega) (by omega)]
    array_get_dec
    unfold bad
    by_cases h1 : M.getD (j + h.toNat) 0 + s - L.getD j 0 < h
    · simp only [h1, decide_true, Bool.true_or, if_true, true_and]
      first | exact ⟨some _, rfl⟩ | exact ⟨⟨some _, rfl⟩, rfl⟩ | exact ⟨⟨some _, rfl⟩, trivial⟩
    · simp only [h1, decide_false, Bool.false_or, if_false, true_and]
      by_cases h2 : L.getD (j + h.toNat) 0 - M.getD j 0 - s < h
      · simp only [h2, decide_true, if_true, and_true]
        first | exact ⟨some _, rfl⟩ | exact ⟨⟨some _, rfl⟩, rfl⟩ | exact ⟨⟨some _, rfl⟩, trivial⟩
      · simp only [h2, decide_false, if_false, Bool.false_eq_true, and_true]
        first | exact ⟨some _, rfl⟩ | exact ⟨⟨some _, rfl⟩, rfl⟩ | exact ⟨⟨some _, rfl⟩, trivial⟩
  · intro j hj hp _ ρ' _
    rw [rngD_len] at hj
    have : fitB L M h s = false := by
      unfold fitB
      rw [List.all_eq_false]
      exact ⟨j, List.mem_range.mpr hj, by rw [hp]; decide⟩
    rw [this]
  · rintro hn ρ' ⟨x, rfl⟩
    rw [rngD_len] at hn
    array_get_dec
    have : fitB L M h s = true := by
      unfold fitB
      rw [List.all_eq_true]
      intro i hi
      rw [hn i (List.mem_range.mp hi)]; rfl
    rw [this]
theorem does_fit_wp {L M : List Int} (hl : Pins L) (hm : M.length = L.length) {h s : Int} (h0 : 0 ≤ h) (hh : h ≤ 1000) : WpF (f_does_fit [tupI L, tupI M, .int h, .int s]) fun z _ => z = .bool (fitB L M h s) := fit_loop hl hm h0 _ rfl hh
theorem fits_wp {L M : List Int} (hl : Pins L) (hm : M.length = L.length) {h s : Int} (h0 : 0 ≤ h) (hh : h ≤ 1000) : WpF (f__law_fits [tupI L, tupI M, .int h, .int s]) fun z _ => z = .bool (fitB L M h s) := fit_loop hl hm h0 _ rfl hh
/-! ### the drawn pins -/
theorem sorted_lt {l : List Int} (h : l.Nodup) : (sortI l).Pairwise (· < ·) := by
  have h1 := sortI_sorted l
  have h2 : (sortI l).Nodup := (sortI_perm l).nodup_iff.mpr h
  exact (h1.and h2).imp fun ⟨a, b⟩ => by omega
structure Got (most : Int) (many : Nat) (l : List Int) : Prop where
  nd : l.Nodup
  b : ∀ x ∈ l, 0 ≤ x ∧ x ≤ most
  len : l.length ≤ many
theorem pins_wp {r : D} {many : Nat} {most : Int} {Q : D → List Cell → Prop} (hr : RowOk r) (h8 : many ≤ 8) (h1 : (many : Int) ≤ most) (h2 : most ≤ 40)
    (h : ∀ l r', Pins l → l.length = many → RowOk r' → Q (tupI l) [.own true r', .no, .no]) : WpF (f__law_pins [r, .int many, .int most]) Q := by
  unfold f__law_pins
  decreasing_trivial_pre_omega
  unfold b__law_pins
  rw [tk]
  array_get_dec
  simp only [intsV1, wpo_some]
  rw [rng1 (by omega) (by omega)]
  array_get_dec
  refine loop_fold (fun _ ρ => ∃ r' l x y, ρ = [Cell.own true r', Cell.val (.int many), Cell.val (.int most), Cell.own false (.list (l.map .int)), Cell.of x, Cell.of y] ∧ RowOk r' ∧ Got most many l) ?_ ⟨r, [], none, none, rfl, hr, .nil, by simp, by simp⟩ ?_
  · rintro j d hd ρ0 ⟨r', l, x, y, rfl, hr', g⟩
    obtain ⟨hj, rfl⟩ := rngD_at hd
    array_get_dec
    refine taken_wp hr' (by omega) (by omega) fun d r' d0 d1 hr' => ?_
    array_get_dec
    have hl := g.len
    rw [List.length_map, szOk_small (by omega)]
    array_get_dec
    by_cases hlt : (l.length : Int) < many
    · rw [if_pos hlt, in_ints]
      array_get_dec
      by_cases hm : d ∈ l
      · simp only [hm, decide_true, bne_self_eq_false, Bool.false_eq_true, if_false]
        exact ⟨.inl trivial, r', l, some _, some _, rfl, hr', g⟩
      · simp only [hm, decide_false, Bool.false_bne, if_true]
        have e : appF (l.map PyData.int) [.int d] = some ((l ++ [d]).map .int, .none) := by
          show (if decide ((l.map PyData.int).length < sizeLine) = true then _ else _) = _
          rw [List.length_map, if_pos (by rw [sizeLine_eq, decide_eq_true_eq]; omega), List.map_append]
          rfl
        rw [e]
        array_get_dec
        refine ⟨.inl trivial, r', l ++ [d], some _, some _, rfl, hr', ?_, fun x hx => ?_, by rw [List.length_append, List.length_singleton]; omega⟩
        · rw [List.nodup_append]
          exact ⟨g.nd, by simp, fun a ha b hb eq => by simp at hb; subst hb; subst eq; exact hm (by simpa using ha)⟩
        · rcases List.mem_append.mp hx with h | h
          · exact g.b x h
          · simp at h; subst h; omega
    · rw [if_neg hlt]
      exact ⟨.inl trivial, r', l, some _, some _, rfl, hr', g⟩
  · rintro ρ' ⟨r', l, x, y, rfl, hr', g⟩
    array_get_dec
    simp only [intsV1, wpo_some]
    rw [rng1 (by omega) (by omega)]
    array_get_dec
    refine loop_fold (fun j ρ => ∃ l x y, ρ = [Cell.own true r', Cell.val (.int many), Cell.val (.int most), Cell.own false (.list (l.map .int)), Cell.of x, Cell.of y] ∧ Got most many l ∧ (l.length < many → ∀ k : Nat, k < j → (k : Int) ∈ l)) ?_ ⟨l, x, y, rfl, g, fun _ k hk => absurd hk (Nat.not_lt_zero _)⟩ ?_
    · rintro j d hd ρ0 ⟨l, x, y, rfl, g, full⟩
      obtain ⟨hj, rfl⟩ := rngD_at hd
      array_get_dec
      have hl := g.len
      rw [List.length_map, szOk_small (by omega)]
      array_get_dec
      by_cases hlt : (l.length : Int) < many
      · rw [if_pos hlt, in_ints]
        array_get_dec
        by_cases hm : (0 + (j : Int)) ∈ l
        · simp only [hm, decide_true, bne_self_eq_false, Bool.false_eq_true, if_false]
          refine ⟨.inl trivial, l, x, some _, rfl, g, fun h k hk => ?_⟩
          rcases Nat.lt_succ_iff_lt_or_eq.mp hk with h' | rfl
          · exact full h k h'
          · rwa [Int.zero_add] at hm
        · simp only [hm, decide_false, Bool.false_bne, if_true]
          have e : appF (l.map PyData.int) [.int (0 + (j : Int))] = some ((l ++ [0 + (j : Int)]).map .int, .none) := by
            show (if decide ((l.map PyData.int).length < sizeLine) = true then _ else _) = _
            rw [List.length_map, if_pos (by rw [sizeLine_eq, decide_eq_true_eq]; omega), List.map_append]
            rfl
          rw [e]
          array_get_dec
          refine ⟨.inl trivial, l ++ [0 + (j : Int)], x, some _, rfl, ⟨?_, fun x hx => ?_, by rw [List.length_append, List.length_singleton]; omega⟩, fun h k hk => ?_⟩
          · rw [List.nodup_append]
            exact ⟨g.nd, by simp, fun a ha b hb eq => by simp at hb; subst hb; subst eq; exact hm (by simpa using ha)⟩
          · rcases List.mem_append.mp hx with h | h
            · exact g.b x h
            · simp at h; subst h; omega
          · rw [List.mem_append]
            rcases Nat.lt_succ_iff_lt_or_eq.mp hk with h' | rfl
            · exact .inl (full (by omega) k h')
            · exact .inr (by simp)
      · rw [if_neg hlt]
        exact ⟨.inl trivial, l, x, some _, rfl, g, fun h k hk => by omega⟩
    · rintro ρ' ⟨l, x, y, rfl, g, full⟩
      rw [rngD_len] at full
      have len : l.length = many := by
        rcases Nat.lt_or_ge l.length many with hlt | hge
        · have hs : ∀ z ∈ runI 0 (most + 1).toNat, z ∈ l := fun z hz => by
            rw [runI_mem] at hz
            have := full hlt z.toNat (by omega)
            rwa [show ((z.toNat : Nat) : Int) = z by omega] at this
          have nd : (runI 0 (most + 1).toNat).Nodup := runI_sorted.imp fun h => by omega
          have := nodup_le nd hs
          unfold runI at this
          rw [List.length_map, List.length_range] at this
          omega
        · exact Nat.le_antisymm g.len hge
      array_get_dec
      rw [L3.sorted_ints]
      array_get_dec
      rw [tuple_list]
      array_get_dec
      refine h (sortI l) r' ⟨?_, fun x hx => ?_, sorted_lt g.nd⟩ ?_ hr'
      · rw [(sortI_perm l).length_eq]; omega
      · have := g.b x ((sortI_perm l).mem_iff.mp hx)
        omega
      · rw [(sortI_perm l).length_eq]; exact len


/-! ### the drawn river -/
theorem river_wp {r : D} {Q : D → List Cell → Prop} (hr : RowOk r) (h : ∀ L M r', Pins L → Pins M → M.length = L.length → RowOk r' → Q (.tuple [tupI L, tupI M]) [.own true r']) : WpF (f__law_river [r]) Q := by
  unfold f__law_river
  decreasing_trivial_pre_omega
  unfold b__law_river
  rw [tk, pk]
  array_get_dec
  refine taken_wp hr (by omega) (by omega) fun d r1 d0 d1 hr1 => ?_
  array_get_dec
  refine pick_wp hr1 (by decide) (by decide) fun j x r2 hx hr2 => ?_
  have hmost : ∃ most : Int, x = .int most ∧ 8 ≤ most ∧ most ≤ 40 := by
    match j, hx with
    | 0, hx => simp at hx; exact ⟨8, hx.symm, by omega⟩
    | 1, hx => simp at hx; exact ⟨12, hx.symm, by omega⟩
    | 2, hx => simp at hx; exact ⟨20, hx.symm, by omega⟩
    | 3, hx => simp at hx; exact ⟨40, hx.symm, by omega⟩
    | j + 4, hx => simp at hx
  obtain ⟨most, rfl, m0, m1⟩ := hmost
  obtain ⟨many, rfl⟩ := Int.eq_ofNat_of_zero_le d0
  array_get_dec
  refine pins_wp hr2 (by omega) (by omega) m1 fun L r3 hL eL hr3 => ?_
  array_get_dec
  refine taken_wp hr3 (by omega) (by omega) fun d r4 d0 d1 hr4 => ?_
  array_get_dec
  by_cases hd : d = 0
  · subst hd
    simp only [decide_true, if_true]
    refine pins_wp hr4 (by omega) (by omega) m1 fun M r5 hM eM hr5 => ?_
    array_get_dec
    exact h L M r5 hL hM (by omega) hr5
  · simp only [hd, decide_false, if_false, Bool.false_eq_true]
    refine taken_wp hr4 (by omega) (by omega) fun shift r5 s0 s1 hr5 => ?_
    array_get_dec
    have e0 : walkD (tupI L) = some (L.map .int) := rfl
    have an : ∀ r5, allNo [Cell.own true r5, Cell.val (tupI L), Cell.val (PyData.int shift), Cell.no, Cell.no, Cell.val (PyData.int many), Cell.val (PyData.int most), Cell.no] [7] = true := fun _ => rfl
    rw [e0, wpo_some, if_pos (an _)]
    have hlen := hL.len
    refine gat_wp (fun rest acc ρ => ∃ (a : List Int) (r' : D) (pre restI : List Int), L = pre ++ restI ∧ rest = restI.map .int ∧ acc = a.map .int ∧ a.length = pre.length ∧ (∀ x ∈ a, 0 ≤ x ∧ x ≤ 40) ∧ RowOk r' ∧ ρ = [Cell.own true r', Cell.val (tupI L), Cell.val (PyData.int shift), Cell.no, Cell.no, Cell.val (PyData.int many), Cell.val (PyData.int most), Cell.no])
      ?_ ?_ _ _ _ ⟨[], r5, [], L, rfl, rfl, rfl, rfl, by simp, hr5, rfl⟩
    · rintro dd rest acc ρ ⟨a, r', pre, restI, eL', er, rfl, la, ba, hr', rfl⟩
      match restI, er with
      | x :: restI, er =>
        simp only [List.map_cons, List.cons.injEq] at er
        obtain ⟨rfl, rfl⟩ := er
        have hx := hL.b x (by rw [eL']; simp)
        array_get_dec
        refine taken_wp hr' (by omega) (by omega) fun t r6 t0 t1 hr6 => ?_
        array_get_dec
        rw [L3.min_two]
        array_get_dec
        have ll : pre.length < L.length := by rw [eL', List.length_append, List.length_cons]; omega
        refine ⟨rfl, by rw [List.length_map, la, sizeLine_eq]; omega, a ++ [if x + shift + t < 40 then x + shift + t else 40], r6, pre ++ [x], restI, by simp [eL'], rfl, by simp, by simp [la], fun y hy => ?_, hr6, rfl⟩
        rcases List.mem_append.mp hy with h | h
        · exact ba y h
        · simp at h; subst h; split <;> omega
      | [], er => simp at er
    · rintro acc ρ ⟨a, r6, pre, restI, eL', er, rfl, la, ba, hr6, rfl⟩
      have : restI = [] := by simpa using er.symm
      subst this
      rw [List.append_nil] at eL'
      subst eL'
      array_get_dec
      simp only [intsV2, wpo_some]
      rw [rng2 (by omega) (by omega) (by omega) (by omega)]
      array_get_dec
      have la : a.length = many := la.trans eL
      refine loop_fold (fun j ρ => ∃ (a : List Int) (x : Option D), ρ = [Cell.own true r6, Cell.val (tupI L), Cell.val (PyData.int shift), Cell.own false (.list (a.map .int)), Cell.of x, Cell.val (PyData.int many), Cell.val (PyData.int most), Cell.no] ∧ a.length = many ∧ (∀ x ∈ a, 0 ≤ x) ∧ ∀ i, i + 1 ≤ j → i + 1 < many → a.getD i 0 < a.getD (i + 1) 0)
        ?_ ⟨a, none, rfl, la, fun x hx => (ba x hx).1, fun i hi => by omega⟩ ?_
      · rintro j d hd ρ0 ⟨a, x, rfl, la, pa, sa⟩
        obtain ⟨hj, rfl⟩ := rngD_at hd
        have hj' : j + 1 < many := by omega
        array_get_dec
        rw [at_ints (by omega) (by omega), at_ints (by omega) (by omega)]
        array_get_dec
        rw [L3.max_two]
        array_get_dec
        have e1 : ixN (a.map PyData.int).length (1 + (j : Int)) = some (j + 1) := by
          rw [List.length_map]
          unfold ixN
          rw [if_pos (by omega), if_pos (by omega)]
          congr 1; omega
        rw [e1]
        array_get_dec
        have t1 : (1 + (j : Int)).toNat = j + 1 := by omega
        have t2 : (1 + (j : Int) - 1).toNat = j := by omega
        rw [t1, t2]
        have mem : ∀ k, k < many → 0 ≤ a.getD k 0 := fun k hk => by
          rw [List.getD_eq_getElem?_getD, List.getElem?_eq_getElem (by omega)]
          exact pa _ (List.getElem_mem _)
        generalize hv : (if a.getD j 0 + 1 > a.getD (j + 1) 0 then a.getD j 0 + 1 else a.getD (j + 1) 0) = v
        have hv1 : a.getD j 0 < v := by rw [← hv]; split <;> omega
        refine ⟨.inl trivial, a.set (j + 1) v, some _, by rw [← List.map_set]; rfl, by rw [List.length_set]; exact la, fun y hy => ?_, fun i hi hi2 => ?_⟩
        · rcases List.mem_or_eq_of_mem_set hy with h | rfl
          · exact pa y h
          · have := mem j (by omega); omega
        · have g : ∀ k, (a.set (j + 1) v).getD k 0 = if k = j + 1 then v else a.getD k 0 := fun k => by
            rw [List.getD_eq_getElem?_getD, List.getElem?_set]
            by_cases hk : j + 1 = k
            · subst hk
              rw [if_pos rfl, if_pos (by omega), if_pos rfl]; rfl
            · rw [if_neg hk, if_neg (Ne.symm hk), List.getD_eq_getElem?_getD]
          rw [g, g]
          by_cases h1 : i = j
          · subst h1
            rw [if_neg (by omega), if_pos rfl]; exact hv1
          · rw [if_neg (by omega), if_neg (by omega)]
            exact sa i (by omega) hi2
      · rintro ρ' ⟨a, x, rfl, la, pa, sa⟩
        rw [rngD_len] at sa
        have sorted : a.Pairwise (· < ·) := by
          rw [List.pairwise_iff_getElem]
          have step : ∀ i, i + 1 < a.length → a.getD i 0 < a.getD (i + 1) 0 := fun i hi => sa i (by omega) (by omega)
          intro i j hi hj hij
          have ge : ∀ k (hk : k < a.length), a[k] = a.getD k 0 := fun k hk => by rw [List.getD_eq_getElem?_getD, List.getElem?_eq_getElem hk]; rfl
          rw [ge, ge]
          clear hi
          induction j with
          | zero => omega
          | succ j ih =>
            have := step j hj
            rcases Nat.lt_succ_iff_lt_or_eq.mp hij with h | h
            · have := ih (by omega) h; omega
            · subst h; exact this
        array_get_dec
        rw [eq_emptyL (plain_ints _)]
        array_get_dec
        by_cases hn : a = []
        · subst hn
          simp only [List.map_nil, decide_true, if_true]
          rw [tuple_list]
          array_get_dec
          exact h L [] r6 hL ⟨by simp, by simp, .nil⟩ (by simp at la; simp; omega) hr6
        · have hm : a.map PyData.int ≠ [] := by simpa using hn
          rw [if_neg hm]
          have pos : 0 < a.length := List.length_pos_iff.mpr hn
          have lst : (a.map PyData.int)[(a.map PyData.int).length - 1]? = some (.int (a.getD (a.length - 1) 0)) := by
            rw [List.length_map, List.getElem?_map, List.getD_eq_getElem?_getD, List.getElem?_eq_getElem (by omega)]
            rfl
          rw [at_last lst]
          array_get_dec
          by_cases h40 : a.getD (a.length - 1) 0 ≤ 40
          · rw [if_pos h40]
            rw [tuple_list]
            array_get_dec
            refine h L a r6 hL ⟨by omega, fun x hx => ⟨pa x hx, ?_⟩, sorted⟩ (by omega) hr6
            obtain ⟨k, hk, rfl⟩ := List.getElem_of_mem hx
            rcases Nat.lt_or_ge k (a.length - 1) with hlt | hge
            · have := List.pairwise_iff_getElem.mp sorted k (a.length - 1) hk (by omega) hlt
              rw [List.getD_eq_getElem?_getD, List.getElem?_eq_getElem (by omega : a.length - 1 < a.length)] at h40
              simp at h40
              omega
            · have : k = a.length - 1 := by omega
              subst this
              rw [List.getD_eq_getElem?_getD, List.getElem?_eq_getElem hk] at h40
              exact h40
          · rw [if_neg h40]
            exact h L L r6 hL hL rfl hr6
end Riv
namespace Riv
open PySem PySem.Spec PyProof.Rows L2 L3
local macro_rules | `(tactic| array_get_dec) => `(tactic| simp only [L3.wp_ok, L3.wp_bad, L3.wp_seq, L3.wp_ifS, L3.wp_ret, L3.wp_exp, L3.wp_asg, L3.wp_asgT, L3.wp_gN, L3.wp_gsN, L3.wp_gsC, L3.wp_gTpT, L3.wp_gTpL, L3.wp_par, L3.wp_put2, L3.wp_put, L3.putOk_v, L3.putOk_o, L3.putOk_n, L3.putOk_of, L3.wp_for, L3.wp_loop_nil, L3.wp_nx, L3.wp_sbad, L3.wp_thenG,
  L3.wp_var, L3.at_val, L3.at_own, L3.wp_c, L3.wp_bin, L3.wp_un, L3.cont_d, L3.cont_bv, L3.cont_val, L3.cont_own, L3.wp_asB, L3.wp_not, L3.wp_and, L3.wp_or, L3.wp_ifE, L3.wp_chain, L3.wp_nil, L3.wp_cons, L3.wp_frz_d, L3.wp_frz_bv, L3.fa_val, L3.fa_own, L3.wp_frzs_nil, L3.wp_frzs_cons, L3.wp_tup, L3.wp_lst, L3.wp_fun, L3.wp_funF, L3.conts_nil, L3.conts_cons, L3.wp_unF, L3.wp_liF,
  L3.wp_aug, L3.aa_val, L3.wp_setIx, L3.wp_setAt, L3.wp_mut, L3.own_def, L3.olc_own, L3.wp_it, L3.wp_rng, L3.wp_enum, L3.wp_lc, L3.wp_yes, L3.wp_slice, L3.wp_call, L3.wp_callO, L3.wp_prep_nil, L3.wp_prep_f, L3.wp_prep_t, L3.wp_callRO, L3.idx_nil, L3.idx_l, L3.idx_r, L3.ph2_nil, L3.ph2_l, L3.ph2_r, L3.oa_own, L3.so_nil, L3.so_l, L3.so_r, L3.back_own,
  L3.wpo_some, L3.wpo_none, L3.wpo_ite, L3.wpo_map, L3.wpo_bind, L3.bin_add, L3.bin_sub, L3.bin_mul, L3.bin_fdiv, L3.bin_mod, L3.bin_pow, L3.neg_intD, L3.lt_int', L3.le_int', L3.gt_int', L3.ge_int', L3.eq_int', L3.ne_int', L3.eq_bool', L3.ne_bool', L3.is_none', L3.isn_none', L3.isi_one, L3.isi_two, L3.lenD_list, L3.lenD_tuple, L3.ix_listD, L3.ix_tupD,
  L3.szOk0, L3.szOk1, L3.szOk2, L3.szOk3, L3.szOk4, L3.szOk5, L3.szOk6, L3.szOk7, L3.szOk8, L3.at0, L3.at1, L3.at2, L3.at3, L3.ix40, L3.ix41, L3.ix42, L3.ix43, L3.int_int, L3.len_scr, L3.ix_scr, L3.outC_t, L3.outC_f, L3.outC_v, L3.outC_n, List.map_cons, List.map_nil, List.take_succ_cons, List.take_zero, Int.reduceNeg,
  List.getElem?_cons_zero, List.getElem?_cons_succ, List.set_cons_zero, List.set_cons_succ, List.length_cons, List.length_nil, Option.bind_some, Option.bind_none, Option.map_some, Option.map_none, Option.isSome_some, Option.isSome_none, if_true, if_false, Bool.not_true, Bool.not_false, decide_true, decide_false, Bool.false_eq_true, Nat.reduceAdd, List.nodup_cons, List.not_mem_nil, not_false_eq_true, List.nodup_nil, and_self, and_true, true_and, ite_self, reduceIte, decide_eq_true_eq, Bool.not_eq_true'])
local macro_rules | `(tactic| decreasing_trivial_pre_omega) => `(tactic| (refine L3.wpf_go (rfl) ?_; simp only [L3.init_r, L3.init_c, L3.init_n, List.cons_append, List.nil_append, if_true, Bool.false_eq_true, if_false, List.length_cons, List.length_nil, Nat.reduceAdd, Nat.reduceSub, List.replicate]))
theorem ite_of {c : Prop} [i : Decidable c] {P Q : Prop} (h : c) (p : P) : @ite Prop c i P Q := by rw [if_pos h]; exact p
def loI (L M : List Int) (h : Int) (i : Nat) : Int := L.getD i 0 + h - M.getD (i + h.toNat) 0
def hiI (L M : List Int) (h : Int) (i : Nat) : Int := L.getD (i + h.toNat) 0 - h - M.getD i 0
def los (L M : List Int) (h : Int) : List Int := (List.range (L.length - h.toNat)).map (loI L M h)
def his (L M : List Int) (h : Int) : List Int := (List.range (L.length - h.toNat)).map (hiI L M h)
def mx : List Int → Int
  | [] => 0
  | x :: r => maxI x r
def mn : List Int → Int
  | [] => 0
  | x :: r => minI x r
def shD (L M : List Int) (h : Int) : D := if L.length ≤ h.toNat then .none else if mx (los L M h) ≤ mn (his L M h) then .tuple [.int (mx (los L M h)), .int (mn (his L M h))] else .tuple []
theorem mx_iff {l : List Int} (h : l ≠ []) {s : Int} : mx l ≤ s ↔ ∀ x ∈ l, x ≤ s := by
  match l, h with
  | x :: r, _ =>
    constructor
    · intro h y hy
      have := maxI_le x r y hy
      have h : maxI x r ≤ s := h
      omega
    · intro h
      exact h _ (maxI_mem x r)
theorem mn_iff {l : List Int} (h : l ≠ []) {s : Int} : s ≤ mn l ↔ ∀ x ∈ l, s ≤ x := by
  match l, h with
  | x :: r, _ =>
    constructor
    · intro h y hy
      have := minI_le x r y hy
      have h : s ≤ minI x r := h
      omega
    · intro h
      exact h _ (minI_mem x r)
theorem mx_mem {l : List Int} (h : l ≠ []) : mx l ∈ l := by
  match l, h with
  | x :: r, _ => exact maxI_mem x r
theorem mn_mem {l : List Int} (h : l ≠ []) : mn l ∈ l := by
  match l, h with
  | x :: r, _ => exact minI_mem x r
theorem los_ne {L M : List Int} {h : Int} (hh : h.toNat < L.length) : los L M h ≠ [] := by
  intro e
  have := congrArg List.length e
  unfold los at this
  rw [List.length_map, List.length_range] at this
  simp at this
  omega
theorem his_ne {L M : List Int} {h : Int} (hh : h.toNat < L.length) : his L M h ≠ [] := by
  intro e
  have := congrArg List.length e
  unfold his at this
  rw [List.length_map, List.length_range] at this
  simp at this
  omega
theorem fit_iff {L M : List Int} {h s : Int} (h0 : 0 ≤ h) : fitB L M h s = true ↔ ∀ i < L.length - h.toNat, loI L M h i ≤ s ∧ s ≤ hiI L M h i := by
  unfold fitB
  rw [List.all_eq_true]
  constructor
  · intro q i hi
    have := q i (List.mem_range.mpr hi)
    unfold bad at this
    simp only [Bool.not_eq_true', Bool.or_eq_false_iff, decide_eq_false_iff_not] at this
    unfold loI hiI
    omega
  · intro q i hi
    have := q i (List.mem_range.mp hi)
    unfold loI hiI at this
    unfold bad
    simp only [Bool.not_eq_true', Bool.or_eq_false_iff, decide_eq_false_iff_not]
    omega
theorem fit_all {L M : List Int} {h s : Int} (h0 : 0 ≤ h) (hh : L.length ≤ h.toNat) : fitB L M h s = true := by
  rw [fit_iff h0]
  intro i hi
  omega
theorem fit_mid {L M : List Int} {h s : Int} (h0 : 0 ≤ h) (hh : h.toNat < L.length) : fitB L M h s = true ↔ mx (los L M h) ≤ s ∧ s ≤ mn (his L M h) := by
  rw [fit_iff h0, mx_iff (los_ne hh), mn_iff (his_ne hh)]
  unfold los his
  constructor
  · intro q
    refine ⟨fun x hx => ?_, fun x hx => ?_⟩
    · obtain ⟨i, hi, rfl⟩ := List.mem_map.mp hx
      exact (q i (List.mem_range.mp hi)).1
    · obtain ⟨i, hi, rfl⟩ := List.mem_map.mp hx
      exact (q i (List.mem_range.mp hi)).2
  · rintro ⟨q1, q2⟩ i hi
    exact ⟨q1 _ (List.mem_map.mpr ⟨i, List.mem_range.mpr hi, rfl⟩), q2 _ (List.mem_map.mpr ⟨i, List.mem_range.mpr hi, rfl⟩)⟩
/-- the pairs -/
def prs (L M : List Int) (h : Int) : List D := (List.range (L.length - h.toNat)).map fun i => .tuple [.int (L.getD i 0), .int (L.getD (i + h.toNat) 0), .int (M.getD i 0), .int (M.getD (i + h.toNat) 0)]
def prOf (L M : List Int) (h : Int) : D → D
  | .int i => .tuple [.int (L.getD i.toNat 0), .int (L.getD (i.toNat + h.toNat) 0), .int (M.getD i.toNat 0), .int (M.getD (i.toNat + h.toNat) 0)]
  | _ => .none
theorem prOf_int {L M : List Int} {h i : Int} : prOf L M h (.int i) = .tuple [.int (L.getD i.toNat 0), .int (L.getD (i.toNat + h.toNat) 0), .int (M.getD i.toNat 0), .int (M.getD (i.toNat + h.toNat) 0)] := rfl
def loOf (h : Int) : D → D
  | .tuple [.int a, _, _, .int d] => .int (a + h - d)
  | _ => .none
def hiOf (h : Int) : D → D
  | .tuple [_, .int b, .int c, _] => .int (b - h - c)
  | _ => .none
theorem filter_yes {l : List D} : l.filter (fun _ => true) = l := List.filter_eq_self.mpr (by simp)
theorem plain_prs {L M : List Int} {h : Int} : PyData.plainAll (prs L M h) = true := by
  unfold prs
  generalize L.length - h.toNat = m
  induction (List.range m) with
  | nil => simp [PyData.plainAll]
  | cons i r ih => simp only [List.map_cons, PyData.plainAll, ih, Bool.and_true, PyData.plain]
theorem ix_at2 {l : List Int} {k : Int} {j : Nat} (e : k = j) (h : j < l.length) : ixD (tupI l) (.int k) = some (.int (l.getD j 0)) := ix_at e h
theorem shifts_wp {L M : List Int} (hL : Pins L) (hM : Pins M) (e : M.length = L.length) {h : Int} (h0 : 0 ≤ h) (h8 : h ≤ 8) : WpF (f_shifts [tupI L, tupI M, .int h]) fun z _ => z = shD L M h := by
  have hlen := hL.len
  unfold f_shifts
  decreasing_trivial_pre_omega
  unfold b_shifts
  array_get_dec
  refine (need_rows_wp hL hM e).to fun _ _ _ => ?_
  refine is_in_wp.to fun z _ hz => ?_
  subst hz
  rw [decide_eq_true h0, decide_eq_true (show h ≤ 8 from h8)]
  simp only [Bool.and_true, Bool.true_eq_false, if_false]
  rw [len_pins hL]
  array_get_dec
  simp only [intsV1, wpo_some]
  rw [rng1 (by omega) (by omega)]
  array_get_dec
  have hn : ((L.length : Int) - h).toNat = L.length - h.toNat := by omega
  rw [hn]
  refine ite_of rfl ?_
  refine gat_pure (fun _ => true) (prOf L M h) (fun d hd => ?_) (by rw [rngD_len, sizeLine_eq]; omega) ?_
  · obtain ⟨j, hj⟩ := List.mem_iff_getElem?.mp hd
    obtain ⟨hj, rfl⟩ := rngD_at hj
    array_get_dec
    refine ⟨rfl, rfl, fun _ => ?_⟩
    rw [ix_at (j := j) (by omega) (by omega), ix_at (j := j + h.toNat) (by omega) (by omega), ix_at (j := j) (by omega) (by omega), ix_at (j := j + h.toNat) (by omega) (by omega)]
    array_get_dec
    rw [prOf_int, show (0 + (j : Int)).toNat = j by omega]
  · have e1 : ((rngD 0 1 (L.length - h.toNat)).filter fun _ => true).map (prOf L M h) = prs L M h := by
      rw [filter_yes]
      unfold rngD prs
      rw [List.map_map]
      congr 1
      funext i
      show prOf L M h (.int (0 + (i : Int) * 1)) = _
      rw [prOf_int, show (0 + (i : Int) * 1).toNat = i by omega]
    rw [e1]
    array_get_dec
    rw [eq_emptyL plain_prs]
    array_get_dec
    by_cases hh : L.length ≤ h.toNat
    · have e2 : prs L M h = [] := by
        unfold prs
        rw [show L.length - h.toNat = 0 by omega]; rfl
      rw [if_pos e2]
      unfold shD
      rw [if_pos hh]
    · have hh' : h.toNat < L.length := by omega
      have e2 : prs L M h ≠ [] := fun q => by
        have := congrArg List.length q
        unfold prs at this
        rw [List.length_map, List.length_range] at this
        simp at this
        omega
      rw [if_neg e2]
      have w0 : walkD (.list (prs L M h)) = some (prs L M h) := rfl
      rw [w0]
      array_get_dec
      have hd0 : ∀ d ∈ prs L M h, ∃ a b c d' : Int, d = .tuple [.int a, .int b, .int c, .int d'] := fun d hd => by
        unfold prs at hd
        obtain ⟨i, _, rfl⟩ := List.mem_map.mp hd
        exact ⟨_, _, _, _, rfl⟩
      have hz : (prs L M h).length ≤ sizeLine := by
        unfold prs
        rw [List.length_map, List.length_range, sizeLine_eq]; omega
      refine ite_of rfl ?_
      refine gat_pure (fun _ => true) (loOf h) (fun d hd => ?_) hz ?_
      · obtain ⟨a, b, c, d', rfl⟩ := hd0 d hd
        array_get_dec
        exact ⟨rfl, rfl, fun _ => rfl⟩
      · have e3 : ((prs L M h).filter fun _ => true).map (loOf h) = (los L M h).map .int := by
          rw [filter_yes]
          unfold prs los
          rw [List.map_map, List.map_map]
          rfl
        rw [e3]
        array_get_dec
        have em : maxD [.list ((los L M h).map .int)] = some (.int (mx (los L M h))) := by
          match q : los L M h, los_ne hh' with
          | x :: r, _ => exact max_ints
        rw [em]
        array_get_dec
        rw [w0]
        array_get_dec
        refine ite_of rfl ?_
        refine gat_pure (fun _ => true) (hiOf h) (fun d hd => ?_) hz ?_
        · obtain ⟨a, b, c, d', rfl⟩ := hd0 d hd
          array_get_dec
          exact ⟨rfl, rfl, fun _ => rfl⟩
        · have e4 : ((prs L M h).filter fun _ => true).map (hiOf h) = (his L M h).map .int := by
            rw [filter_yes]
            unfold prs his
            rw [List.map_map, List.map_map]
            rfl
          rw [e4]
          array_get_dec
          have en : minD [.list ((his L M h).map .int)] = some (.int (mn (his L M h))) := by
            match q : his L M h, his_ne hh' with
            | x :: r, _ => exact min_ints
          rw [en]
          array_get_dec
          unfold shD
          rw [if_neg hh]
          split <;> rfl

/-! ### the heights -/
def okH (L M : List Int) (s : Int) (h : Nat) : Bool := fitB L M h s
theorem height_wp {L M : List Int} (hL : Pins L) (hM : Pins M) (e : M.length = L.length) : WpF (f_river_height [tupI L, tupI M]) fun z _ => ∃ t : Nat, z = .int t ∧ fitB L M t 0 = true := by
  have hlen := hL.len
  unfold f_river_height
  decreasing_trivial_pre_omega
  unfold b_river_height
  array_get_dec
  refine (need_rows_wp hL hM e).to fun _ _ _ => ?_
  unfold f_height_in
  decreasing_trivial_pre_omega
  unfold b_height_in
  array_get_dec
  rw [len_pins hL]
  array_get_dec
  simp only [intsV1, wpo_some]
  rw [rng1 (by omega) (by omega)]
  array_get_dec
  have hn : ((L.length : Int) + 1).toNat = L.length + 1 := by omega
  rw [hn]
  refine ite_of rfl ?_
  refine gat_pure (fun d => match d with | .int i => fitB L M i 0 | _ => false) (fun d => d) (fun d hd => ?_) (by rw [rngD_len, sizeLine_eq]; omega) ?_
  · obtain ⟨j, hj⟩ := List.mem_iff_getElem?.mp hd
    obtain ⟨hj, rfl⟩ := rngD_at hj
    array_get_dec
    refine ⟨rfl, rfl, ?_⟩
    refine (does_fit_wp hL e (by omega) (by omega)).to fun z _ hz => ?_
    subst hz
    exact ⟨rfl, fun _ => trivial⟩
  · have e1 : ((rngD 0 1 (L.length + 1)).filter fun d => match d with | .int i => fitB L M i 0 | _ => false).map (fun d => d) = ((runI 0 (L.length + 1)).filter fun i => fitB L M i 0).map .int := by
      rw [List.map_id', rngD_run, filter_ints]
    rw [e1]
    have hm : (L.length : Int) ∈ (runI 0 (L.length + 1)).filter fun i => fitB L M i 0 := by
      rw [List.mem_filter]
      exact ⟨runI_mem.mpr (by omega), fit_all (by omega) (by omega)⟩
    match q : (runI 0 (L.length + 1)).filter fun i => fitB L M i 0, hm with
    | x :: r, _ =>
      rw [min_ints]
      array_get_dec
      have := minI_mem x r
      rw [← q, List.mem_filter, runI_mem] at this
      refine ⟨(minI x r).toNat, by congr 1; omega, ?_⟩
      rw [show (((minI x r).toNat : Nat) : Int) = minI x r by omega]
      exact this.2

/-! ### the shifts that fit -/
def someL (L M : List Int) (h : Int) : List Int := (runI (-60) 121).filter fun s => fitB L M h s
theorem some_sorted {L M : List Int} {h : Int} : (someL L M h).Pairwise (· < ·) := runI_sorted.filter _
theorem Pins.at' {l : List Int} (h : Pins l) {k : Nat} (hk : k < l.length) : 0 ≤ l.getD k 0 ∧ l.getD k 0 ≤ 40 := h.at hk
theorem los_b {L M : List Int} (hL : Pins L) (hM : Pins M) (e : M.length = L.length) {h : Int} (h0 : 0 ≤ h) (h8 : h ≤ 8) (hh : h.toNat < L.length) : -60 ≤ mx (los L M h) ∧ mx (los L M h) ≤ 60 ∧ -60 ≤ mn (his L M h) ∧ mn (his L M h) ≤ 60 := by
  have a := mx_mem (los_ne (M := M) hh)
  have b := mn_mem (his_ne (M := M) hh)
  generalize hx : mx (los L M h) = X at a
  generalize hy : mn (his L M h) = Y at b
  unfold los at a
  unfold his at b
  obtain ⟨i, hi, ei⟩ := List.mem_map.mp a
  obtain ⟨j, hj, ej⟩ := List.mem_map.mp b
  rw [List.mem_range] at hi hj
  unfold loI at ei
  unfold hiI at ej
  have h1 := hL.at (k := i) (by omega)
  have h2 := hM.at (k := i + h.toNat) (by omega)
  have h3 := hL.at (k := j + h.toNat) (by omega)
  have h4 := hM.at (k := j) (by omega)
  omega
theorem some_mid {L M : List Int} (hL : Pins L) (hM : Pins M) (e : M.length = L.length) {h : Int} (h0 : 0 ≤ h) (h8 : h ≤ 8) (hh : h.toNat < L.length) :
    if mx (los L M h) ≤ mn (his L M h) then (someL L M h)[0]? = some (mx (los L M h)) ∧ (someL L M h)[(someL L M h).length - 1]? = some (mn (his L M h)) else someL L M h = [] := by
  obtain ⟨b1, b2, b3, b4⟩ := los_b hL hM e h0 h8 hh
  have mem : ∀ s, s ∈ someL L M h ↔ mx (los L M h) ≤ s ∧ s ≤ mn (his L M h) := fun s => by
    unfold someL
    rw [List.mem_filter, runI_mem, fit_mid h0 hh]
    omega
  split
  · rename_i hle
    refine ⟨first_of some_sorted ((mem _).mpr ⟨Int.le_refl _, hle⟩) fun x hx => ((mem x).mp hx).1, last_of some_sorted ((mem _).mpr ⟨hle, Int.le_refl _⟩) fun x hx => ((mem x).mp hx).2⟩
  · rename_i hle
    rw [List.eq_nil_iff_forall_not_mem]
    intro x hx
    have := (mem x).mp hx
    omega
theorem some_all {L M : List Int} {h : Int} (h0 : 0 ≤ h) (hh : L.length ≤ h.toNat) : someL L M h = runI (-60) 121 := by
  unfold someL
  rw [List.filter_eq_self]
  intro s _
  exact fit_all h0 hh
/-- what best_shift answers -/
def bestAt (L M : List Int) (t : Nat) : Bool := decide (someL L M t ≠ [])
def leastD (L M : List Int) (t : Nat) : D := .tuple [.int t, .int (if L.length ≤ t then 0 else mx (los L M t))]
theorem best_last {L M : List Int} : bestAt L M L.length = true := by
  unfold bestAt
  rw [some_all (by omega) (by omega)]
  decide
theorem best_wp {L M : List Int} (hL : Pins L) (hM : Pins M) (e : M.length = L.length) : WpF (f_best_shift [tupI L, tupI M]) fun z _ => ∃ t : Nat, t ≤ L.length ∧ z = leastD L M t ∧ bestAt L M t = true ∧ ∀ k < t, bestAt L M k = false := by
  have hlen := hL.len
  unfold f_best_shift
  decreasing_trivial_pre_omega
  unfold b_best_shift
  array_get_dec
  refine (need_rows_wp hL hM e).to fun _ _ _ => ?_
  rw [len_pins hL]
  array_get_dec
  simp only [intsV1, wpo_some]
  rw [rng1 (by omega) (by omega)]
  array_get_dec
  have hn : ((L.length : Int) + 1).toNat = L.length + 1 := by omega
  rw [hn]
  refine loop_find (fun ρ => ∃ x y, ρ = [Cell.val (tupI L), Cell.val (tupI M), Cell.of x, Cell.of y]) (bestAt L M) (leastD L M) ?_ ⟨none, none, rfl⟩ ?_ ?_
  · rintro j d hd ρ0 ⟨x, y, rfl⟩
    obtain ⟨hj, rfl⟩ := rngD_at hd
    array_get_dec
    refine (shifts_wp hL hM e (by omega) (by omega)).to fun z _ hz => ?_
    subst hz
    rw [Int.zero_add]
    unfold shD
    by_cases h1 : L.length ≤ (j : Int).toNat
    · have h1' : L.length ≤ j := by omega
      have b : bestAt L M j = true := by
        unfold bestAt
        rw [some_all (by omega) h1]
        decide
      rw [if_pos h1, b]
      array_get_dec
      simp only [L3.isNon, if_true]
      unfold leastD
      rw [if_pos h1']
      exact ⟨⟨some _, some _, rfl⟩, rfl⟩
    · have h1' : ¬ L.length ≤ j := by omega
      have sm := some_mid hL hM e (h := (j : Int)) (by omega) (by omega) (by omega)
      rw [if_neg h1]
      by_cases h2 : mx (los L M j) ≤ mn (his L M j)
      · rw [if_pos h2] at sm ⊢
        have b : bestAt L M j = true := by
          unfold bestAt
          rw [decide_eq_true_eq]
          intro q
          rw [q] at sm
          cases sm.1
        rw [b]
        array_get_dec
        simp only [L3.isNon, if_false, Bool.false_eq_true]
        rw [ne_emptyT (by simp [PyData.plainAll, PyData.plain])]
        array_get_dec
        unfold leastD
        rw [if_neg h1']
        simp only [List.cons_ne_nil, decide_false, Bool.not_false, if_true, reduceCtorEq]
        exact ⟨⟨some _, some _, rfl⟩, trivial⟩
      · rw [if_neg h2] at sm ⊢
        have b : bestAt L M j = false := by
          unfold bestAt
          rw [sm]; rfl
        rw [b]
        array_get_dec
        simp only [L3.isNon, if_false, Bool.false_eq_true]
        rw [ne_emptyT (by simp [PyData.plainAll])]
        array_get_dec
        exact ⟨some _, some _, rfl⟩
  · intro j hj hp hk ρ' _
    rw [rngD_len] at hj
    exact ⟨j, by omega, rfl, hp, hk⟩
  · intro hn
    rw [rngD_len] at hn
    have := hn L.length (by omega)
    rw [best_last] at this
    cases this
end Riv
namespace Riv
open PySem PySem.Spec PyProof.Rows L2 L3
local macro_rules | `(tactic| array_get_dec) => `(tactic| simp only [L3.wp_ok, L3.wp_bad, L3.wp_seq, L3.wp_ifS, L3.wp_ret, L3.wp_exp, L3.wp_asg, L3.wp_asgT, L3.wp_gN, L3.wp_gsN, L3.wp_gsC, L3.wp_gTpT, L3.wp_gTpL, L3.wp_par, L3.wp_put2, L3.wp_put, L3.putOk_v, L3.putOk_o, L3.putOk_n, L3.putOk_of, L3.wp_for, L3.wp_loop_nil, L3.wp_nx, L3.wp_sbad, L3.wp_thenG,
  L3.wp_var, L3.at_val, L3.at_own, L3.wp_c, L3.wp_bin, L3.wp_un, L3.cont_d, L3.cont_bv, L3.cont_val, L3.cont_own, L3.wp_asB, L3.wp_not, L3.wp_and, L3.wp_or, L3.wp_ifE, L3.wp_chain, L3.wp_nil, L3.wp_cons, L3.wp_frz_d, L3.wp_frz_bv, L3.fa_val, L3.fa_own, L3.wp_frzs_nil, L3.wp_frzs_cons, L3.wp_tup, L3.wp_lst, L3.wp_fun, L3.wp_funF, L3.conts_nil, L3.conts_cons, L3.wp_unF, L3.wp_liF,
  L3.wp_aug, L3.aa_val, L3.wp_setIx, L3.wp_setAt, L3.wp_mut, L3.own_def, L3.olc_own, L3.wp_it, L3.wp_rng, L3.wp_enum, L3.wp_lc, L3.wp_yes, L3.wp_slice, L3.wp_call, L3.wp_callO, L3.wp_prep_nil, L3.wp_prep_f, L3.wp_prep_t, L3.wp_callRO, L3.idx_nil, L3.idx_l, L3.idx_r, L3.ph2_nil, L3.ph2_l, L3.ph2_r, L3.oa_own, L3.so_nil, L3.so_l, L3.so_r, L3.back_own,
  L3.wpo_some, L3.wpo_none, L3.wpo_ite, L3.wpo_map, L3.wpo_bind, L3.bin_add, L3.bin_sub, L3.bin_mul, L3.bin_fdiv, L3.bin_mod, L3.bin_pow, L3.neg_intD, L3.lt_int', L3.le_int', L3.gt_int', L3.ge_int', L3.eq_int', L3.ne_int', L3.eq_bool', L3.ne_bool', L3.is_none', L3.isn_none', L3.isi_one, L3.isi_two, L3.lenD_list, L3.lenD_tuple, L3.ix_listD, L3.ix_tupD,
  L3.szOk0, L3.szOk1, L3.szOk2, L3.szOk3, L3.szOk4, L3.szOk5, L3.szOk6, L3.szOk7, L3.szOk8, L3.at0, L3.at1, L3.at2, L3.at3, L3.ix40, L3.ix41, L3.ix42, L3.ix43, L3.int_int, L3.len_scr, L3.ix_scr, L3.outC_t, L3.outC_f, L3.outC_v, L3.outC_n, List.map_cons, List.map_nil, List.take_succ_cons, List.take_zero, Int.reduceNeg,
  List.getElem?_cons_zero, List.getElem?_cons_succ, List.set_cons_zero, List.set_cons_succ, List.length_cons, List.length_nil, Option.bind_some, Option.bind_none, Option.map_some, Option.map_none, Option.isSome_some, Option.isSome_none, if_true, if_false, Bool.not_true, Bool.not_false, decide_true, decide_false, Bool.false_eq_true, Nat.reduceAdd, List.nodup_cons, List.not_mem_nil, not_false_eq_true, List.nodup_nil, and_self, and_true, true_and, ite_self, reduceIte, decide_eq_true_eq, Bool.not_eq_true'])
local macro_rules | `(tactic| decreasing_trivial_pre_omega) => `(tactic| (refine L3.wpf_go (rfl) ?_; simp only [L3.init_r, L3.init_c, L3.init_n, List.cons_append, List.nil_append, if_true, Bool.false_eq_true, if_false, List.length_cons, List.length_nil, Nat.reduceAdd, Nat.reduceSub, List.replicate]))
theorem fit_neg {L M : List Int} (e : M.length = L.length) {h s : Int} (h0 : 0 ≤ h) : fitB M L h s = fitB L M h (-s) := by
  rw [Bool.eq_iff_iff, fit_iff h0, fit_iff h0, e]
  unfold loI hiI
  constructor <;> intro q i hi <;> have := q i hi <;> omega
theorem fit_swap {L M : List Int} (e : M.length = L.length) {h : Int} (h0 : 0 ≤ h) : fitB M L h 0 = fitB L M h 0 := fit_neg e h0
theorem fit_self {L : List Int} : fitB L L 0 0 = true := by
  rw [fit_iff (by omega)]
  intro i hi
  unfold loI hiI
  simp
theorem fit_mono {L M : List Int} (hL : Pins L) (hM : Pins M) (e : M.length = L.length) {h : Nat} (f : fitB L M h 0 = true) : fitB L M (h + 1 : Nat) 0 = true := by
  rw [fit_iff (by omega)] at f ⊢
  intro i hi
  have q := f i (by omega)
  have a := sorted_step hL.s (j := i + h) (by omega)
  have b := sorted_step hM.s (j := i + h) (by omega)
  unfold loI hiI at q ⊢
  rw [show ((h : Nat) : Int).toNat = h by omega] at q
  rw [show ((h + 1 : Nat) : Int).toNat = h + 1 by omega, show i + (h + 1) = i + h + 1 by omega]
  omega
def IsH (L M : List Int) (t : Nat) : Prop := t ≤ L.length ∧ fitB L M t 0 = true ∧ ∀ k < t, fitB L M k 0 = false
theorem IsH.le {L M : List Int} (hL : Pins L) (hM : Pins M) (e : M.length = L.length) {t k : Nat} (h : IsH L M t) : t ≤ k ↔ fitB L M k 0 = true := by
  constructor
  · intro q
    induction k with
    | zero => rw [show t = 0 by omega] at h; exact h.2.1
    | succ k ih =>
      rcases Nat.lt_or_ge k t with g | g
      · have : t = k + 1 := by omega
        rw [← this]; exact h.2.1
      · exact fit_mono hL hM e (ih g)
  · intro f
    rcases Nat.lt_or_ge k t with g | g
    · rw [h.2.2 k g] at f; cases f
    · exact g
theorem IsH.one {L M L' M' : List Int} {t t' : Nat} (h : IsH L M t) (h' : IsH L' M' t') (s : ∀ k : Nat, fitB L' M' k 0 = fitB L M k 0) : t' = t := by
  rcases Nat.lt_trichotomy t' t with g | g | g
  · have := h.2.2 t' g; rw [← s, h'.2.1] at this; cases this
  · exact g
  · have := h'.2.2 t g; rw [s, h.2.1] at this; cases this
/-- the rows from the other side -/
def back (l : List Int) : List Int := l.reverse.map fun x => 40 - x
theorem back_len {l : List Int} : (back l).length = l.length := by unfold back; simp
theorem back_at {l : List Int} {i : Nat} (hi : i < l.length) : (back l).getD i 0 = 40 - l.getD (l.length - 1 - i) 0 := by
  unfold back
  rw [List.getD_eq_getElem?_getD, List.getElem?_map, List.getElem?_reverse hi, List.getD_eq_getElem?_getD, List.getElem?_eq_getElem (by omega)]
  rfl
theorem back_pins {l : List Int} (h : Pins l) : Pins (back l) := by
  refine ⟨by rw [back_len]; exact h.len, fun x hx => ?_, ?_⟩
  · unfold back at hx
    obtain ⟨y, hy, rfl⟩ := List.mem_map.mp hx
    have := h.b y (List.mem_reverse.mp hy)
    omega
  · unfold back
    rw [List.pairwise_map, List.pairwise_reverse]
    exact h.s.imp fun h => by omega
theorem fit_back {L M : List Int} (e : M.length = L.length) {h : Nat} : fitB (back L) (back M) h 0 = fitB L M h 0 := by
  rw [Bool.eq_iff_iff, fit_iff (by omega), fit_iff (by omega), back_len]
  unfold loI hiI
  rw [show ((h : Nat) : Int).toNat = h by omega]
  constructor
  · intro q i hi
    have := q (L.length - 1 - h - i) (by omega)
    rw [back_at (by omega), back_at (by omega), back_at (by omega), back_at (by omega), e] at this
    rw [show L.length - 1 - (L.length - 1 - h - i) = i + h by omega, show L.length - 1 - (L.length - 1 - h - i + h) = i by omega] at this
    omega
  · intro q i hi
    have := q (L.length - 1 - h - i) (by omega)
    rw [back_at (by omega), back_at (by omega), back_at (by omega), back_at (by omega), e]
    rw [show L.length - 1 - (i + h) = L.length - 1 - h - i by omega, show L.length - 1 - i = L.length - 1 - h - i + h by omega]
    omega
theorem sh_swap {L M : List Int} (e : M.length = L.length) {h : Int} (h0 : 0 ≤ h) (hh : h.toNat < L.length) : mx (los M L h) = - mn (his L M h) ∧ mn (his M L h) = - mx (los L M h) := by
  have hh' : h.toNat < M.length := by omega
  have e1 : los M L h = (his L M h).map fun x => -x := by
    unfold los his
    rw [List.map_map, e]
    congr 1; funext i
    unfold loI hiI
    simp only [Function.comp_apply]; omega
  have e2 : his M L h = (los L M h).map fun x => -x := by
    unfold los his
    rw [List.map_map, e]
    congr 1; funext i
    unfold loI hiI
    simp only [Function.comp_apply]; omega
  have n1 := los_ne (M := L) hh'
  have n2 := his_ne (M := L) hh'
  constructor
  · have a : mx (los M L h) ≤ - mn (his L M h) := (mx_iff n1).mpr fun x hx => by
      rw [e1] at hx
      obtain ⟨y, hy, rfl⟩ := List.mem_map.mp hx
      have := (mn_iff (his_ne (M := M) hh) (s := mn (his L M h))).mp (Int.le_refl _) y hy
      omega
    have b : - mn (his L M h) ≤ mx (los M L h) := (mx_iff n1).mp (Int.le_refl _) _ (by rw [e1]; exact List.mem_map.mpr ⟨_, mn_mem (his_ne (M := M) hh), rfl⟩)
    omega
  · have a : - mx (los L M h) ≤ mn (his M L h) := (mn_iff n2).mpr fun x hx => by
      rw [e2] at hx
      obtain ⟨y, hy, rfl⟩ := List.mem_map.mp hx
      have := (mx_iff (los_ne (M := M) hh) (s := mx (los L M h))).mp (Int.le_refl _) y hy
      omega
    have b : mn (his M L h) ≤ - mx (los L M h) := (mn_iff n2).mp (Int.le_refl _) _ (by rw [e2]; exact List.mem_map.mpr ⟨_, mx_mem (los_ne (M := M) hh), rfl⟩)
    omega
theorem best_swap {L M : List Int} (e : M.length = L.length) (t : Nat) : bestAt M L t = bestAt L M t := by
  unfold bestAt
  rw [Bool.eq_iff_iff, decide_eq_true_eq, decide_eq_true_eq]
  have key : ∀ {L M : List Int}, M.length = L.length → someL L M t ≠ [] → someL M L t ≠ [] := fun {L M} e h q => by
    obtain ⟨s, hs⟩ := List.exists_mem_of_ne_nil _ h
    unfold someL at hs
    rw [List.mem_filter, runI_mem] at hs
    have : -s ∈ someL M L t := by
      unfold someL
      rw [List.mem_filter, runI_mem]
      refine ⟨by omega, ?_⟩
      rw [fit_neg e (by omega), Int.neg_neg]
      exact hs.2
    rw [q] at this
    cases this
  exact ⟨key e.symm, key e⟩
theorem height2_wp {L M : List Int} (hL : Pins L) (hM : Pins M) (e : M.length = L.length) : WpF (f_river_height [tupI L, tupI M]) fun z _ => ∃ t : Nat, z = .int t ∧ IsH L M t := by
  have hlen := hL.len
  unfold f_river_height
  decreasing_trivial_pre_omega
  unfold b_river_height
  array_get_dec
  refine (need_rows_wp hL hM e).to fun _ _ _ => ?_
  unfold f_height_in
  decreasing_trivial_pre_omega
  unfold b_height_in
  array_get_dec
  rw [len_pins hL]
  array_get_dec
  simp only [intsV1, wpo_some]
  rw [rng1 (by omega) (by omega)]
  array_get_dec
  have hn : ((L.length : Int) + 1).toNat = L.length + 1 := by omega
  rw [hn]
  refine ite_of rfl ?_
  refine gat_pure (fun d => match d with | .int i => fitB L M i 0 | _ => false) (fun d => d) (fun d hd => ?_) (by rw [rngD_len, sizeLine_eq]; omega) ?_
  · obtain ⟨j, hj⟩ := List.mem_iff_getElem?.mp hd
    obtain ⟨hj, rfl⟩ := rngD_at hj
    array_get_dec
    refine ⟨rfl, rfl, ?_⟩
    refine (does_fit_wp hL e (by omega) (by omega)).to fun z _ hz => ?_
    subst hz
    exact ⟨rfl, fun _ => trivial⟩
  · have e1 : ((rngD 0 1 (L.length + 1)).filter fun d => match d with | .int i => fitB L M i 0 | _ => false).map (fun d => d) = ((runI 0 (L.length + 1)).filter fun i => fitB L M i 0).map .int := by
      rw [List.map_id', rngD_run, filter_ints]
    rw [e1]
    have hm : (L.length : Int) ∈ (runI 0 (L.length + 1)).filter fun i => fitB L M i 0 := by
      rw [List.mem_filter]
      exact ⟨runI_mem.mpr (by omega), fit_all (by omega) (by omega)⟩
    match q : (runI 0 (L.length + 1)).filter fun i => fitB L M i 0, hm with
    | x :: r, _ =>
      rw [min_ints]
      array_get_dec
      have me := minI_mem x r
      rw [← q, List.mem_filter, runI_mem] at me
      refine ⟨(minI x r).toNat, by congr 1; omega, by omega, ?_, fun k hk => ?_⟩
      · rw [show (((minI x r).toNat : Nat) : Int) = minI x r by omega]
        exact me.2
      · cases f : fitB L M k 0 with
        | false => rfl
        | true =>
          have : (k : Int) ∈ x :: r := by
            rw [← q, List.mem_filter, runI_mem]
            exact ⟨by omega, f⟩
          have := minI_le x r k this
          omega
end Riv
namespace K79
open PySem PySem.Spec PyProof.Rows L2 L3
def topS (i : Nat) : Stmt := PySem.Challenge.pw_chipfloor_k79_whole_turned_rivers.main.body.getD i (.Pass ⟨0, 0, 0, 0⟩)
section
variable {P : Program} {w : World} {K : PySem.W.Frag} {mg : Str → Option Value} {base : Heap} {cn : Str → Option Addr} {f : Addr} {fd : FuncData}
def k_MOST_PINS : D := .int 8
def k_MOST_PLACE : D := .int 40
abbrev s__law_taken : Stmt := topS 19
theorem sc__law_taken : FnScope ["_law_row", "_law_many", "_law_cell", "_law_found"] ["_law_row", "_law_many"] (defScope s__law_taken) := ⟨rfl, rfl, rfl, by decide +kernel, rfl, by decide +kernel, by decide +kernel⟩
def b__law_taken : Rho → Rs Fl :=
 (sSeq (sIfS (sBin gtD (sBin ixD (sVar 0) (sC (.int 3))) (sC (.int 0))) (sSeq (sAsg 3 (liF (sBin (binD .Mod) (sFun L3.intD (sCons (sBin ixD (sVar 0) (sC (.int 3))) sNil)) (sVar 1))))
 (sSeq (sSetIx 0 (sC (.int 3)) (sBin (binD .FloorDiv) (sBin ixD (sVar 0) (sC (.int 3))) (sVar 1)))
 (sRet (sVar 3)))) sNx)
 (sSeq (sSetIx 0 (sC (.int 1)) (sBin (binD .Add) (sBin ixD (sVar 0) (sC (.int 1))) (sC (.int 1))))
 (sSeq (sIfS (sBin gtD (sBin ixD (sVar 0) (sC (.int 1))) (sFun lenD (sCons (sBin ixD (sVar 0) (sC (.int 0))) sNil))) (sSeq (sSetIx 0 (sC (.int 2)) (sBin (binD .Mod) (sFun L3.intD (sCons (sBin (binD .Add) (sBin (binD .Mult) (sBin ixD (sVar 0) (sC (.int 2))) (sC (.int 48271))) (sC (.int 11))) sNil)) (sC (.int 2147483647))))
 (sRet (sBin (binD .Mod) (sFun L3.intD (sCons (sBin (binD .FloorDiv) (sBin ixD (sVar 0) (sC (.int 2))) (sC (.int 7))) sNil)) (sVar 1)))) sNx)
 (sSeq (sAsg 2 (liF (sBin ixD (sBin ixD (sVar 0) (sC (.int 0))) (sBin (binD .Sub) (sBin ixD (sVar 0) (sC (.int 1))) (sC (.int 1))))))
 (sSeq (sSetIx 0 (sC (.int 2)) (sBin (binD .Mod) (sFun L3.intD (sCons (sBin (binD .Add) (sBin (binD .Add) (sBin (binD .Mult) (sBin ixD (sVar 0) (sC (.int 2))) (sC (.int 48271))) (sVar 2)) (sC (.int 11))) sNil)) (sC (.int 2147483647))))
 (sSeq (sIfS (sBin geD (sVar 2) (sBin (binD .Pow) (sC (.int 10)) (sC (.int 18)))) (sSetIx 0 (sC (.int 3)) (sBin (binD .FloorDiv) (sVar 2) (sVar 1))) sNx)
 (sRet (sBin (binD .Mod) (sFun L3.intD (sCons (sVar 2) sNil)) (sVar 1)))))))))
def f__law_taken : Fn := defR 4 [true, false] b__law_taken
theorem ok__law_taken (F : Fun K "_law_taken" "_law_taken" s__law_taken f fd) (hx : mg "_law_taken" = some (.ref f)) (hb : Binds K fd ["_law_row", "_law_many"] []) (z_int : mg "int" = none) (z_len : mg "len" = none) : Kn P w K mg base cn (0 + 1) "_law_taken" [true, false] f__law_taken :=
  Kn.mk' (N := ["_law_row", "_law_many", "_law_cell", "_law_found"]) (s := b__law_taken) F sc__law_taken rfl hx hb fun cdv A outer s0 H E C =>
 (ds_cons (ds_if (wCmp cGt (wIx C ((v 0)).pe (de_int).pe) de_int) (ds_cons (kAsg C 3 (DE.f (wB C ((wInt z_int (wC ((wIx C ((v 0)).pe (de_int).pe)).pe wNil))).pe ((v 1)).pe)))
 (ds_cons (kSet 0 (de_int).pe ((wB C ((wIx C ((v 0)).pe (de_int).pe)).pe ((v 1)).pe)).pe)
 (ds_one (ds_ret ((v 3)).pe)))) ds_nil)
 (ds_cons (kSet 0 (de_int).pe ((wB C ((wIx C ((v 0)).pe (de_int).pe)).pe (de_int).pe)).pe)
 (ds_cons (ds_if (wCmp cGt (wIx C ((v 0)).pe (de_int).pe) (wLen C z_len (wC ((wIx C ((v 0)).pe (de_int).pe)).pe wNil))) (ds_cons (kSet 0 (de_int).pe ((wB C ((wInt z_int (wC ((wB C ((wB C ((wIx C ((v 0)).pe (de_int).pe)).pe (de_int).pe)).pe (de_int).pe)).pe wNil))).pe (de_int).pe)).pe)
 (ds_one (ds_ret ((wB C ((wInt z_int (wC ((wB C ((wIx C ((v 0)).pe (de_int).pe)).pe (de_int).pe)).pe wNil))).pe ((v 1)).pe)).pe))) ds_nil)
 (ds_cons (kAsg C 2 (DE.f (wIx C ((wIx C ((v 0)).pe (de_int).pe)).pe ((wB C ((wIx C ((v 0)).pe (de_int).pe)).pe (de_int).pe)).pe)))
 (ds_cons (kSet 0 (de_int).pe ((wB C ((wInt z_int (wC ((wB C ((wB C ((wB C ((wIx C ((v 0)).pe (de_int).pe)).pe (de_int).pe)).pe ((v 2)).pe)).pe (de_int).pe)).pe wNil))).pe (de_int).pe)).pe)
 (ds_cons (ds_if (wCmp cGe (v 2) (wB C (de_int).pe (de_int).pe)) (ds_one (kSet 0 (de_int).pe ((wB C ((v 2)).pe ((v 1)).pe)).pe)) ds_nil)
 (ds_one (ds_ret ((wB C ((wInt z_int (wC ((v 2)).pe wNil))).pe ((v 1)).pe)).pe))))))))
abbrev s__law_pins : Stmt := topS 21
theorem sc__law_pins : FnScope ["_law_row", "_law_many", "_law_most", "_law_found", "_law_turn", "_law_place"] ["_law_row", "_law_many", "_law_most"] (defScope s__law_pins) := ⟨rfl, rfl, rfl, by decide +kernel, rfl, by decide +kernel, by decide +kernel⟩
def b__law_pins : Rho → Rs Fl :=
 (sSeq (sAsg 3 (sLst sNil))
 (sSeq (sFor (sRng (sCons (sC (.int 200)) sNil)) (gN 4)
 (sSeq (sAsg 5 (liF (sCallO [true, false] f__law_taken (sCons (sVar 0) (sCons (sBin (binD .Add) (sVar 2) (sC (.int 1))) sNil)))))
 (sIfS (sAnd (sBin ltD (sFun lenD (sCons (sVar 3) sNil)) (sVar 1)) (sBin (inD true) (sVar 5) (sVar 3))) (sExp (sMut 3 appF (sCons (sVar 5) sNil))) sNx)))
 (sSeq (sFor (sRng (sCons (sBin (binD .Add) (sVar 2) (sC (.int 1))) sNil)) (gN 5)
 (sIfS (sAnd (sBin ltD (sFun lenD (sCons (sVar 3) sNil)) (sVar 1)) (sBin (inD true) (sVar 5) (sVar 3))) (sExp (sMut 3 appF (sCons (sVar 5) sNil))) sNx))
 (sRet (sFun tupleD (sCons (unF (sFunF sortedD (sCons (sVar 3) sNil))) sNil))))))
def f__law_pins : Fn := defR 6 [true, false, false] b__law_pins
theorem ok__law_pins (F : Fun K "_law_pins" "_law_pins" s__law_pins f fd) (hx : mg "_law_pins" = some (.ref f)) (hb : Binds K fd ["_law_row", "_law_many", "_law_most"] []) (c__law_taken : Kn P w K mg base cn 1 "_law_taken" [true, false] f__law_taken) (z_range : mg "range" = none) (z_len : mg "len" = none) (z_sorted : mg "sorted" = none) (z_tuple : mg "tuple" = none) : Kn P w K mg base cn (1 + 1) "_law_pins" [true, false, false] f__law_pins :=
  Kn.mk' (N := ["_law_row", "_law_many", "_law_most", "_law_found", "_law_turn", "_law_place"]) (s := b__law_pins) F sc__law_pins rfl hx hb fun cdv A outer s0 H E C =>
 (ds_cons (kAsg C 3 ((wLst wNil)).pf)
 (ds_cons (kFor C (ir1 z_range (wC (de_int).pe wNil)) (gv C 4)
 (ds_cons (kAsg C 5 (DE.f (wCallO C c__law_taken (wC ((v 0)).pe (wC ((wB C ((v 2)).pe (de_int).pe)).pe wNil)) (by first | omega | exact Nat.le_refl _ | exact Nat.le_trans (by decide) (Nat.le_add_right _ _)))))
 (ds_one (ds_if (dw_and (wCmp cLt (wLen C z_len (wC ((v 3)).pe wNil)) (v 1)) (dw_and1 (wCmp (cNi C) (v 5) (v 3)))).de (ds_one (kExp ((mApp C 3 (wC ((v 5)).pe wNil))).pe)) ds_nil))))
 (ds_cons (kFor C (ir1 z_range (wC ((wB C ((v 2)).pe (de_int).pe)).pe wNil)) (gv C 5)
 (ds_one (ds_if (dw_and (wCmp cLt (wLen C z_len (wC ((v 3)).pe wNil)) (v 1)) (dw_and1 (wCmp (cNi C) (v 5) (v 3)))).de (ds_one (kExp ((mApp C 3 (wC ((v 5)).pe wNil))).pe)) ds_nil)))
 (ds_one (ds_ret ((wTuple C z_tuple (wC ((wSorted C z_sorted (wC ((v 3)).pe wNil))).de.pe wNil))).pe)))))
abbrev s__law_pick : Stmt := topS 20
theorem sc__law_pick : FnScope ["_law_row", "_law_things"] ["_law_row", "_law_things"] (defScope s__law_pick) := ⟨rfl, rfl, rfl, by decide +kernel, rfl, by decide +kernel, by decide +kernel⟩
def b__law_pick : Rho → Rs Fl :=
 (sRet (sBin ixD (sVar 1) (sCallO [true, false] f__law_taken (sCons (sVar 0) (sCons (sFun lenD (sCons (sVar 1) sNil)) sNil)))))
def f__law_pick : Fn := defR 2 [true, false] b__law_pick
theorem ok__law_pick (F : Fun K "_law_pick" "_law_pick" s__law_pick f fd) (hx : mg "_law_pick" = some (.ref f)) (hb : Binds K fd ["_law_row", "_law_things"] []) (c__law_taken : Kn P w K mg base cn 1 "_law_taken" [true, false] f__law_taken) (z_len : mg "len" = none) : Kn P w K mg base cn (1 + 1) "_law_pick" [true, false] f__law_pick :=
  Kn.mk' (N := ["_law_row", "_law_things"]) (s := b__law_pick) F sc__law_pick rfl hx hb fun cdv A outer s0 H E C =>
 (ds_one (ds_ret ((wIx C ((v 1)).pe ((wCallO C c__law_taken (wC ((v 0)).pe (wC ((wLen C z_len (wC ((v 1)).pe wNil))).pe wNil)) (by first | omega | exact Nat.le_refl _ | exact Nat.le_trans (by decide) (Nat.le_add_right _ _)))).pe)).pe))
abbrev s__law_river : Stmt := topS 22
theorem sc__law_river : FnScope ["_law_row", "_law_lows", "_law_shift", "_law_highs", "_law_at", "_law_many", "_law_most", "_law_place"] ["_law_row"] (defScope s__law_river) := ⟨rfl, rfl, rfl, by decide +kernel, rfl, by decide +kernel, by decide +kernel⟩
def b__law_river : Rho → Rs Fl :=
 (sSeq (sPar 5 6 (sCons (sCallO [true, false] f__law_taken (sCons (sVar 0) (sCons (sC (.int 8)) sNil))) (sCons (sCallO [true, false] f__law_pick (sCons (sVar 0) (sCons (unF (sLst (sCons (sC (.int 8)) (sCons (sC (.int 12)) (sCons (sC (.int 20)) (sCons (sC (.int 40)) sNil)))))) sNil))) sNil)))
 (sSeq (sAsg 1 (liF (sCallO [true, false, false] f__law_pins (sCons (sVar 0) (sCons (sVar 5) (sCons (sVar 6) sNil))))))
 (sSeq (sIfS (sBin eqD (sCallO [true, false] f__law_taken (sCons (sVar 0) (sCons (sC (.int 2)) sNil))) (sC (.int 0))) (sRet (sTup (sCons (sVar 1) (sCons (sCallO [true, false, false] f__law_pins (sCons (sVar 0) (sCons (sVar 5) (sCons (sVar 6) sNil)))) sNil)))) sNx)
 (sSeq (sAsg 2 (liF (sCallO [true, false] f__law_taken (sCons (sVar 0) (sCons (sC (.int 4)) sNil)))))
 (sSeq (sAsg 3 (sLc (sIt (sVar 1)) (gN 7) sYes (sFun minD (sCons (sC (.int 40)) (sCons (sBin (binD .Add) (sBin (binD .Add) (sVar 7) (sVar 2)) (sCallO [true, false] f__law_taken (sCons (sVar 0) (sCons (sC (.int 2)) sNil)))) sNil))) [7]))
 (sSeq (sFor (sRng (sCons (sC (.int 1)) (sCons (sVar 5) sNil))) (gN 4)
 (sSetIx 3 (sVar 4) (sFun maxD (sCons (sBin ixD (sVar 3) (sVar 4)) (sCons (sBin (binD .Add) (sBin ixD (sVar 3) (sBin (binD .Sub) (sVar 4) (sC (.int 1)))) (sC (.int 1))) sNil)))))
 (sRet (sIf (sOr (sBin eqD (sVar 3) (unF (sLst sNil))) (sBin leD (sBin ixD (sVar 3) (sUn negD (sC (.int 1)))) (sC (.int 40)))) (sTup (sCons (sVar 1) (sCons (sFun tupleD (sCons (sVar 3) sNil)) sNil))) (sTup (sCons (sVar 1) (sCons (sVar 1) sNil)))))))))))
def f__law_river : Fn := defR 8 [true] b__law_river
theorem ok__law_river (F : Fun K "_law_river" "_law_river" s__law_river f fd) (hx : mg "_law_river" = some (.ref f)) (hb : Binds K fd ["_law_row"] []) (c__law_pick : Kn P w K mg base cn 2 "_law_pick" [true, false] f__law_pick) (c__law_taken : Kn P w K mg base cn 1 "_law_taken" [true, false] f__law_taken) (c__law_pins : Kn P w K mg base cn 2 "_law_pins" [true, false, false] f__law_pins) (z_min : mg "min" = none) (z_range : mg "range" = none) (z_max : mg "max" = none) (z_tuple : mg "tuple" = none) : Kn P w K mg base cn (2 + 1) "_law_river" [true] f__law_river :=
  Kn.mk' (N := ["_law_row", "_law_lows", "_law_shift", "_law_highs", "_law_at", "_law_many", "_law_most", "_law_place"]) (s := b__law_river) F sc__law_river rfl hx hb fun cdv A outer s0 H E C =>
 (ds_cons (kPar C 5 6 (wC ((wCallO C c__law_taken (wC ((v 0)).pe (wC (de_int).pe wNil)) (by first | omega | exact Nat.le_refl _ | exact Nat.le_trans (by decide) (Nat.le_add_right _ _)))).pe (wC ((wCallO C c__law_pick (wC ((v 0)).pe (wC ((wLst (wC (de_int).pe (wC (de_int).pe (wC (de_int).pe (wC (de_int).pe wNil)))))).de.pe wNil)) (by first | omega | exact Nat.le_refl _ | exact Nat.le_trans (by decide) (Nat.le_add_right _ _)))).pe wNil)))
 (ds_cons (kAsg C 1 (DE.f (wCallO C c__law_pins (wC ((v 0)).pe (wC ((v 5)).pe (wC ((v 6)).pe wNil))) (by first | omega | exact Nat.le_refl _ | exact Nat.le_trans (by decide) (Nat.le_add_right _ _)))))
 (ds_cons (ds_if (wCmp (cEq C) (wCallO C c__law_taken (wC ((v 0)).pe (wC (de_int).pe wNil)) (by first | omega | exact Nat.le_refl _ | exact Nat.le_trans (by decide) (Nat.le_add_right _ _))) de_int) (ds_one (ds_ret ((wTup (wC ((v 1)).pe (wC ((wCallO C c__law_pins (wC ((v 0)).pe (wC ((v 5)).pe (wC ((v 6)).pe wNil))) (by first | omega | exact Nat.le_refl _ | exact Nat.le_trans (by decide) (Nat.le_add_right _ _)))).pe wNil)))).pe)) ds_nil)
 (ds_cons (kAsg C 2 (DE.f (wCallO C c__law_taken (wC ((v 0)).pe (wC (de_int).pe wNil)) (by first | omega | exact Nat.le_refl _ | exact Nat.le_trans (by decide) (Nat.le_add_right _ _)))))
 (ds_cons (kSetLc C [("_law_place", 7)] 3 (iv C ((v 1)).pe) (LcOk.by fun s H C0 cl fp => ⟨(gv C.blk 7), dts_nil, ((wMin C.blk z_min (wC (de_int).pe (wC ((wB C.blk ((wB C.blk ((v 7)).pe ((v 2)).pe)).pe ((wCallO C.blk c__law_taken (wC ((v 0)).pe (wC (de_int).pe wNil)) (by first | omega | exact Nat.le_refl _ | exact Nat.le_trans (by decide) (Nat.le_add_right _ _)))).pe)).pe wNil)))).pe⟩))
 (ds_cons (kFor C (ir2 z_range (wC (de_int).pe (wC ((v 5)).pe wNil))) (gv C 4)
 (ds_one (kSet 3 ((v 4)).pe ((wMax C z_max (wC ((wIx C ((v 3)).pe ((v 4)).pe)).pe (wC ((wB C ((wIx C ((v 3)).pe ((wB C ((v 4)).pe (de_int).pe)).pe)).pe (de_int).pe)).pe wNil)))).pe)))
 (ds_one (ds_ret (wIfE (dw_or (wCmp (cEq C) (v 3) ((wLst wNil)).de) (dw_or1 (wCmp cLe (wIx C ((v 3)).pe ((wNeg (de_int).pe)).pe) de_int))).de ((wTup (wC ((v 1)).pe (wC ((wTuple C z_tuple (wC ((v 3)).pe wNil))).pe wNil)))).pe ((wTup (wC ((v 1)).pe (wC ((v 1)).pe wNil)))).pe)))))))))
abbrev s_is_list : Stmt := topS 3
theorem sc_is_list : FnScope ["value", "least", "most"] ["value", "least", "most"] (defScope s_is_list) := ⟨rfl, rfl, rfl, by decide +kernel, rfl, by decide +kernel, by decide +kernel⟩
def b_is_list : Rho → Rs Fl :=
 (sRet (sAnd (sUn (isiD [.tuple]) (sVar 0)) (sChain leD leD (sVar 1) (sFun lenD (sCons (sVar 0) sNil)) (sVar 2))))
def f_is_list : Fn := defR 3 [false, false, false] b_is_list
theorem ok_is_list (F : Fun K "is_list" "is_list" s_is_list f fd) (hx : mg "is_list" = some (.ref f)) (hb : Binds K fd ["value", "least", "most"] []) (z_isinstance : mg "isinstance" = none) (z_tuple : mg "tuple" = none) (z_len : mg "len" = none) : Kn P w K mg base cn (0 + 1) "is_list" (List.replicate 3 false) f_is_list :=
  Kn.mk' (N := ["value", "least", "most"]) (s := b_is_list) F sc_is_list rfl hx hb fun cdv A outer s0 H E C =>
 (ds_one (ds_ret ((dw_and (wIsi C .tuple z_isinstance z_tuple ((v 0)).pe) (dw_and1 (wCh cLe cLe (v 1) (wLen C z_len (wC ((v 0)).pe wNil)) (v 2)))).de).pe))
abbrev s_is_integer : Stmt := topS 1
theorem sc_is_integer : FnScope ["value"] ["value"] (defScope s_is_integer) := ⟨rfl, rfl, rfl, by decide +kernel, rfl, by decide +kernel, by decide +kernel⟩
def b_is_integer : Rho → Rs Fl :=
 (sRet (sAnd (sUn (isiD [.int]) (sVar 0)) (sNot (sUn (isiD [.bool]) (sVar 0)))))
def f_is_integer : Fn := defR 1 [false] b_is_integer
theorem ok_is_integer (F : Fun K "is_integer" "is_integer" s_is_integer f fd) (hx : mg "is_integer" = some (.ref f)) (hb : Binds K fd ["value"] []) (z_isinstance : mg "isinstance" = none) (z_int : mg "int" = none) (z_bool : mg "bool" = none) : Kn P w K mg base cn (0 + 1) "is_integer" (List.replicate 1 false) f_is_integer :=
  Kn.mk' (N := ["value"]) (s := b_is_integer) F sc_is_integer rfl hx hb fun cdv A outer s0 H E C =>
 (ds_one (ds_ret ((dw_and (wIsi C .int z_isinstance z_int ((v 0)).pe) (dw_and1 (de_not (wIsi C .bool z_isinstance z_bool ((v 0)).pe)))).de).pe))
abbrev s_is_in : Stmt := topS 2
theorem sc_is_in : FnScope ["value", "least", "most"] ["value", "least", "most"] (defScope s_is_in) := ⟨rfl, rfl, rfl, by decide +kernel, rfl, by decide +kernel, by decide +kernel⟩
def b_is_in : Rho → Rs Fl :=
 (sRet (sAnd (sCall f_is_integer (sCons (sVar 0) sNil)) (sChain leD leD (sVar 1) (sVar 0) (sVar 2))))
def f_is_in : Fn := defR 3 [false, false, false] b_is_in
theorem ok_is_in (F : Fun K "is_in" "is_in" s_is_in f fd) (hx : mg "is_in" = some (.ref f)) (hb : Binds K fd ["value", "least", "most"] []) (c_is_integer : Kn P w K mg base cn 1 "is_integer" (List.replicate 1 false) f_is_integer) : Kn P w K mg base cn (1 + 1) "is_in" (List.replicate 3 false) f_is_in :=
  Kn.mk' (N := ["value", "least", "most"]) (s := b_is_in) F sc_is_in rfl hx hb fun cdv A outer s0 H E C =>
 (ds_one (ds_ret ((dw_and (wCall (n := 1) C c_is_integer (wC ((v 0)).pe wNil) (by first | omega | exact Nat.le_refl _ | exact Nat.le_trans (by decide) (Nat.le_add_right _ _))) (dw_and1 (wCh cLe cLe (v 1) (v 0) (v 2)))).de).pe))
abbrev s_need_pins : Stmt := topS 11
theorem sc_need_pins : FnScope ["pins", "many", "index", "pin"] ["pins", "many"] (defScope s_need_pins) := ⟨rfl, rfl, rfl, by decide +kernel, rfl, by decide +kernel, by decide +kernel⟩
def b_need_pins : Rho → Rs Fl :=
 (sSeq (sIfS (sNot (sCall f_is_list (sCons (sVar 0) (sCons (sIf (sBin isD (sVar 1) (sC .none)) (sC (.int 0)) (sVar 1)) (sCons (sIf (sBin isD (sVar 1) (sC .none)) (sC k_MOST_PINS) (sVar 1)) sNil))))) sBad sNx)
 (sFor (one1 enumD (sCons (sVar 0) sNil)) (gTp 2 (gsC (gN 2) (gsC (gN 3) gsN)))
 (sIfS (sOr (sNot (sCall f_is_in (sCons (sVar 3) (sCons (sC (.int 0)) (sCons (sC k_MOST_PLACE) sNil))))) (sAnd (sBin gtD (sVar 2) (sC (.int 0))) (sBin leD (sVar 3) (sBin ixD (sVar 0) (sBin (binD .Sub) (sVar 2) (sC (.int 1))))))) sBad sNx)))
def f_need_pins : Fn := defR 4 [false, false] b_need_pins
theorem ok_need_pins (F : Fun K "need_pins" "need_pins" s_need_pins f fd) (hx : mg "need_pins" = some (.ref f)) (hb : Binds K fd ["pins", "many"] []) (c_is_list : Kn P w K mg base cn 1 "is_list" (List.replicate 3 false) f_is_list) (c_is_in : Kn P w K mg base cn 2 "is_in" (List.replicate 3 false) f_is_in) (z_enumerate : mg "enumerate" = none) (q_MOST_PINS : Kc mg "MOST_PINS" k_MOST_PINS) (q_MOST_PLACE : Kc mg "MOST_PLACE" k_MOST_PLACE) : Kn P w K mg base cn (2 + 1) "need_pins" (List.replicate 2 false) f_need_pins :=
  Kn.mk' (N := ["pins", "many", "index", "pin"]) (s := b_need_pins) F sc_need_pins rfl hx hb fun cdv A outer s0 H E C =>
 (ds_cons (ds_if (de_not (wCall (n := 3) C c_is_list (wC ((v 0)).pe (wC (wIfE (wCmp cmp_is (v 1) de_non) (de_int).pe ((v 1)).pe) (wC (wIfE (wCmp cmp_is (v 1) de_non) ((wGlob q_MOST_PINS)).pe ((v 1)).pe) wNil))) (by first | omega | exact Nat.le_refl _ | exact Nat.le_trans (by decide) (Nat.le_add_right _ _)))) (ds_one ds_never) ds_nil)
 (ds_one (kFor C (ie C z_enumerate (wC ((v 0)).pe wNil)) (gt C (gc (gv C 2) (gc (gv C 3) gn)))
 (ds_one (ds_if (dw_or (de_not (wCall (n := 3) C c_is_in (wC ((v 3)).pe (wC (de_int).pe (wC ((wGlob q_MOST_PLACE)).pe wNil))) (by first | omega | exact Nat.le_refl _ | exact Nat.le_trans (by decide) (Nat.le_add_right _ _)))) (dw_or1 (dw_and (wCmp cGt (v 2) de_int) (dw_and1 (wCmp cLe (v 3) (wIx C ((v 0)).pe ((wB C ((v 2)).pe (de_int).pe)).pe)))).de)).de (ds_one ds_never) ds_nil)))))
abbrev s_need_rows : Stmt := topS 12
theorem sc_need_rows : FnScope ["lows", "highs"] ["lows", "highs"] (defScope s_need_rows) := ⟨rfl, rfl, rfl, by decide +kernel, rfl, by decide +kernel, by decide +kernel⟩
def b_need_rows : Rho → Rs Fl :=
 (sSeq (sExp (sCall f_need_pins (sCons (sVar 0) (sCons (sC .none) sNil))))
 (sExp (sCall f_need_pins (sCons (sVar 1) (sCons (sFun lenD (sCons (sVar 0) sNil)) sNil)))))
def f_need_rows : Fn := defR 2 [false, false] b_need_rows
theorem ok_need_rows (F : Fun K "need_rows" "need_rows" s_need_rows f fd) (hx : mg "need_rows" = some (.ref f)) (hb : Binds K fd ["lows", "highs"] []) (c_need_pins : Kn P w K mg base cn 3 "need_pins" (List.replicate 2 false) f_need_pins) (z_len : mg "len" = none) : Kn P w K mg base cn (3 + 1) "need_rows" (List.replicate 2 false) f_need_rows :=
  Kn.mk' (N := ["lows", "highs"]) (s := b_need_rows) F sc_need_rows rfl hx hb fun cdv A outer s0 H E C =>
 (ds_cons (kExp ((wCall (n := 2) C c_need_pins (wC ((v 0)).pe (wC (de_non).pe wNil)) (by first | omega | exact Nat.le_refl _ | exact Nat.le_trans (by decide) (Nat.le_add_right _ _)))).pe)
 (ds_one (kExp ((wCall (n := 2) C c_need_pins (wC ((v 1)).pe (wC ((wLen C z_len (wC ((v 0)).pe wNil))).pe wNil)) (by first | omega | exact Nat.le_refl _ | exact Nat.le_trans (by decide) (Nat.le_add_right _ _)))).pe)))
abbrev s_does_fit : Stmt := topS 13
theorem sc_does_fit : FnScope ["lows", "highs", "height", "shift", "at"] ["lows", "highs", "height", "shift"] (defScope s_does_fit) := ⟨rfl, rfl, rfl, by decide +kernel, rfl, by decide +kernel, by decide +kernel⟩
def b_does_fit : Rho → Rs Fl :=
 (sSeq (sFor (sRng (sCons (sBin (binD .Sub) (sFun lenD (sCons (sVar 0) sNil)) (sVar 2)) sNil)) (gN 4)
 (sIfS (sOr (sBin ltD (sBin (binD .Sub) (sBin (binD .Add) (sBin ixD (sVar 1) (sBin (binD .Add) (sVar 4) (sVar 2))) (sVar 3)) (sBin ixD (sVar 0) (sVar 4))) (sVar 2)) (sBin ltD (sBin (binD .Sub) (sBin (binD .Sub) (sBin ixD (sVar 0) (sBin (binD .Add) (sVar 4) (sVar 2))) (sBin ixD (sVar 1) (sVar 4))) (sVar 3)) (sVar 2))) (sRet (sC (.bool false))) sNx))
 (sRet (sC (.bool true))))
def f_does_fit : Fn := defR 5 [false, false, false, false] b_does_fit
theorem ok_does_fit (F : Fun K "does_fit" "does_fit" s_does_fit f fd) (hx : mg "does_fit" = some (.ref f)) (hb : Binds K fd ["lows", "highs", "height", "shift"] []) (z_len : mg "len" = none) (z_range : mg "range" = none) : Kn P w K mg base cn (0 + 1) "does_fit" (List.replicate 4 false) f_does_fit :=
  Kn.mk' (N := ["lows", "highs", "height", "shift", "at"]) (s := b_does_fit) F sc_does_fit rfl hx hb fun cdv A outer s0 H E C =>
 (ds_cons (kFor C (ir1 z_range (wC ((wB C ((wLen C z_len (wC ((v 0)).pe wNil))).pe ((v 2)).pe)).pe wNil)) (gv C 4)
 (ds_one (ds_if (dw_or (wCmp cLt (wB C ((wB C ((wIx C ((v 1)).pe ((wB C ((v 4)).pe ((v 2)).pe)).pe)).pe ((v 3)).pe)).pe ((wIx C ((v 0)).pe ((v 4)).pe)).pe) (v 2)) (dw_or1 (wCmp cLt (wB C ((wB C ((wIx C ((v 0)).pe ((wB C ((v 4)).pe ((v 2)).pe)).pe)).pe ((wIx C ((v 1)).pe ((v 4)).pe)).pe)).pe ((v 3)).pe) (v 2)))).de (ds_one (ds_ret (de_bl).pe)) ds_nil)))
 (ds_one (ds_ret (de_bl).pe)))
abbrev s_height_in : Stmt := topS 15
theorem sc_height_in : FnScope ["lows", "highs", "height"] ["lows", "highs"] (defScope s_height_in) := ⟨rfl, rfl, rfl, by decide +kernel, rfl, by decide +kernel, by decide +kernel⟩
def b_height_in : Rho → Rs Fl :=
 (sRet (sFun minD (sCons (unF (sLc (sRng (sCons (sBin (binD .Add) (sFun lenD (sCons (sVar 0) sNil)) (sC (.int 1))) sNil)) (gN 2) (asB (sCall f_does_fit (sCons (sVar 0) (sCons (sVar 1) (sCons (sVar 2) (sCons (sC (.int 0)) sNil)))))) (sVar 2) [2])) sNil)))
def f_height_in : Fn := defR 3 [false, false] b_height_in
theorem ok_height_in (F : Fun K "height_in" "height_in" s_height_in f fd) (hx : mg "height_in" = some (.ref f)) (hb : Binds K fd ["lows", "highs"] []) (c_does_fit : Kn P w K mg base cn 1 "does_fit" (List.replicate 4 false) f_does_fit) (z_len : mg "len" = none) (z_range : mg "range" = none) (z_min : mg "min" = none) : Kn P w K mg base cn (1 + 1) "height_in" (List.replicate 2 false) f_height_in :=
  Kn.mk' (N := ["lows", "highs", "height"]) (s := b_height_in) F sc_height_in rfl hx hb fun cdv A outer s0 H E C =>
 (ds_one (ds_ret ((wMin C z_min (wC ((wLc C [("height", 2)] (ir1 z_range (wC ((wB C ((wLen C z_len (wC ((v 0)).pe wNil))).pe (de_int).pe)).pe wNil)) (LcOk.by fun s H C0 cl fp => ⟨(gv C.blk 2), dts_one (wCall (n := 4) C.blk c_does_fit (wC ((v 0)).pe (wC ((v 1)).pe (wC ((v 2)).pe (wC (de_int).pe wNil)))) (by first | omega | exact Nat.le_refl _ | exact Nat.le_trans (by decide) (Nat.le_add_right _ _))), ((v 2)).pe⟩))).de.pe wNil))).pe))
abbrev s_river_height : Stmt := topS 14
theorem sc_river_height : FnScope ["lows", "highs"] ["lows", "highs"] (defScope s_river_height) := ⟨rfl, rfl, rfl, by decide +kernel, rfl, by decide +kernel, by decide +kernel⟩
def b_river_height : Rho → Rs Fl :=
 (sSeq (sExp (sCall f_need_rows (sCons (sVar 0) (sCons (sVar 1) sNil))))
 (sRet (sCall f_height_in (sCons (sVar 0) (sCons (sVar 1) sNil)))))
def f_river_height : Fn := defR 2 [false, false] b_river_height
theorem ok_river_height (F : Fun K "river_height" "river_height" s_river_height f fd) (hx : mg "river_height" = some (.ref f)) (hb : Binds K fd ["lows", "highs"] []) (c_need_rows : Kn P w K mg base cn 4 "need_rows" (List.replicate 2 false) f_need_rows) (c_height_in : Kn P w K mg base cn 2 "height_in" (List.replicate 2 false) f_height_in) : Kn P w K mg base cn (4 + 1) "river_height" (List.replicate 2 false) f_river_height :=
  Kn.mk' (N := ["lows", "highs"]) (s := b_river_height) F sc_river_height rfl hx hb fun cdv A outer s0 H E C =>
 (ds_cons (kExp ((wCall (n := 2) C c_need_rows (wC ((v 0)).pe (wC ((v 1)).pe wNil)) (by first | omega | exact Nat.le_refl _ | exact Nat.le_trans (by decide) (Nat.le_add_right _ _)))).pe)
 (ds_one (ds_ret ((wCall (n := 2) C c_height_in (wC ((v 0)).pe (wC ((v 1)).pe wNil)) (by first | omega | exact Nat.le_refl _ | exact Nat.le_trans (by decide) (Nat.le_add_right _ _)))).pe)))
abbrev s_shifts : Stmt := topS 16
theorem sc_shifts : FnScope ["lows", "highs", "height", "pairs", "least", "most", "at", "low", "far_low", "high", "far_high"] ["lows", "highs", "height"] (defScope s_shifts) := ⟨rfl, rfl, rfl, by decide +kernel, rfl, by decide +kernel, by decide +kernel⟩
def b_shifts : Rho → Rs Fl :=
 (sSeq (sExp (sCall f_need_rows (sCons (sVar 0) (sCons (sVar 1) sNil))))
 (sSeq (sIfS (sNot (sCall f_is_in (sCons (sVar 2) (sCons (sC (.int 0)) (sCons (sC k_MOST_PINS) sNil))))) sBad sNx)
 (sSeq (sAsg 3 (sLc (sRng (sCons (sBin (binD .Sub) (sFun lenD (sCons (sVar 0) sNil)) (sVar 2)) sNil)) (gN 6) sYes (sTup (sCons (sBin ixD (sVar 0) (sVar 6)) (sCons (sBin ixD (sVar 0) (sBin (binD .Add) (sVar 6) (sVar 2))) (sCons (sBin ixD (sVar 1) (sVar 6)) (sCons (sBin ixD (sVar 1) (sBin (binD .Add) (sVar 6) (sVar 2))) sNil))))) [6]))
 (sSeq (sIfS (sBin eqD (sVar 3) (unF (sLst sNil))) (sRet (sC .none)) sNx)
 (sSeq (sAsg 4 (liF (sFun maxD (sCons (unF (sLc (sIt (sVar 3)) (gTp 4 (gsC (gN 7) (gsC (gN 8) (gsC (gN 9) (gsC (gN 10) gsN))))) sYes (sBin (binD .Sub) (sBin (binD .Add) (sVar 7) (sVar 2)) (sVar 10)) [7, 8, 9, 10])) sNil))))
 (sSeq (sAsg 5 (liF (sFun minD (sCons (unF (sLc (sIt (sVar 3)) (gTp 4 (gsC (gN 7) (gsC (gN 8) (gsC (gN 9) (gsC (gN 10) gsN))))) sYes (sBin (binD .Sub) (sBin (binD .Sub) (sVar 8) (sVar 2)) (sVar 9)) [7, 8, 9, 10])) sNil))))
 (sRet (sIf (sBin leD (sVar 4) (sVar 5)) (sTup (sCons (sVar 4) (sCons (sVar 5) sNil))) (sTup sNil)))))))))
def f_shifts : Fn := defR 11 [false, false, false] b_shifts
theorem ok_shifts (F : Fun K "shifts" "shifts" s_shifts f fd) (hx : mg "shifts" = some (.ref f)) (hb : Binds K fd ["lows", "highs", "height"] []) (c_need_rows : Kn P w K mg base cn 4 "need_rows" (List.replicate 2 false) f_need_rows) (c_is_in : Kn P w K mg base cn 2 "is_in" (List.replicate 3 false) f_is_in) (z_len : mg "len" = none) (z_range : mg "range" = none) (z_max : mg "max" = none) (z_min : mg "min" = none) (q_MOST_PINS : Kc mg "MOST_PINS" k_MOST_PINS) : Kn P w K mg base cn (4 + 1) "shifts" (List.replicate 3 false) f_shifts :=
  Kn.mk' (N := ["lows", "highs", "height", "pairs", "least", "most", "at", "low", "far_low", "high", "far_high"]) (s := b_shifts) F sc_shifts rfl hx hb fun cdv A outer s0 H E C =>
 (ds_cons (kExp ((wCall (n := 2) C c_need_rows (wC ((v 0)).pe (wC ((v 1)).pe wNil)) (by first | omega | exact Nat.le_refl _ | exact Nat.le_trans (by decide) (Nat.le_add_right _ _)))).pe)
 (ds_cons (ds_if (de_not (wCall (n := 3) C c_is_in (wC ((v 2)).pe (wC (de_int).pe (wC ((wGlob q_MOST_PINS)).pe wNil))) (by first | omega | exact Nat.le_refl _ | exact Nat.le_trans (by decide) (Nat.le_add_right _ _)))) (ds_one ds_never) ds_nil)
 (ds_cons (kSetLc C [("at", 6)] 3 (ir1 z_range (wC ((wB C ((wLen C z_len (wC ((v 0)).pe wNil))).pe ((v 2)).pe)).pe wNil)) (LcOk.by fun s H C0 cl fp => ⟨(gv C.blk 6), dts_nil, ((wTup (wC ((wIx C.blk ((v 0)).pe ((v 6)).pe)).pe (wC ((wIx C.blk ((v 0)).pe ((wB C.blk ((v 6)).pe ((v 2)).pe)).pe)).pe (wC ((wIx C.blk ((v 1)).pe ((v 6)).pe)).pe (wC ((wIx C.blk ((v 1)).pe ((wB C.blk ((v 6)).pe ((v 2)).pe)).pe)).pe wNil)))))).pe⟩))
 (ds_cons (ds_if (wCmp (cEq C) (v 3) ((wLst wNil)).de) (ds_one (ds_ret (de_non).pe)) ds_nil)
 (ds_cons (kAsg C 4 (DE.f (wMax C z_max (wC ((wLc C [("low", 7), ("far_low", 8), ("high", 9), ("far_high", 10)] (iv C ((v 3)).pe) (LcOk.by fun s H C0 cl fp => ⟨(gt C.blk (gc (gv C.blk 7) (gc (gv C.blk 8) (gc (gv C.blk 9) (gc (gv C.blk 10) gn))))), dts_nil, ((wB C.blk ((wB C.blk ((v 7)).pe ((v 2)).pe)).pe ((v 10)).pe)).pe⟩))).de.pe wNil))))
 (ds_cons (kAsg C 5 (DE.f (wMin C z_min (wC ((wLc C [("low", 7), ("far_low", 8), ("high", 9), ("far_high", 10)] (iv C ((v 3)).pe) (LcOk.by fun s H C0 cl fp => ⟨(gt C.blk (gc (gv C.blk 7) (gc (gv C.blk 8) (gc (gv C.blk 9) (gc (gv C.blk 10) gn))))), dts_nil, ((wB C.blk ((wB C.blk ((v 8)).pe ((v 2)).pe)).pe ((v 9)).pe)).pe⟩))).de.pe wNil))))
 (ds_one (ds_ret (wIfE (wCmp cLe (v 4) (v 5)) ((wTup (wC ((v 4)).pe (wC ((v 5)).pe wNil)))).pe ((wTup wNil)).pe)))))))))
abbrev s_best_shift : Stmt := topS 17
theorem sc_best_shift : FnScope ["lows", "highs", "height", "found"] ["lows", "highs"] (defScope s_best_shift) := ⟨rfl, rfl, rfl, by decide +kernel, rfl, by decide +kernel, by decide +kernel⟩
def b_best_shift : Rho → Rs Fl :=
 (sSeq (sExp (sCall f_need_rows (sCons (sVar 0) (sCons (sVar 1) sNil))))
 (sSeq (sFor (sRng (sCons (sBin (binD .Add) (sFun lenD (sCons (sVar 0) sNil)) (sC (.int 1))) sNil)) (gN 2)
 (sSeq (sAsg 3 (liF (sCall f_shifts (sCons (sVar 0) (sCons (sVar 1) (sCons (sVar 2) sNil))))))
 (sSeq (sIfS (sBin isD (sVar 3) (sC .none)) (sRet (sTup (sCons (sVar 2) (sCons (sC (.int 0)) sNil)))) sNx)
 (sIfS (sBin neD (sVar 3) (sTup sNil)) (sRet (sTup (sCons (sVar 2) (sCons (sBin ixD (sVar 3) (sC (.int 0))) sNil)))) sNx))))
 (sRet (sC .none))))
def f_best_shift : Fn := defR 4 [false, false] b_best_shift
theorem ok_best_shift (F : Fun K "best_shift" "best_shift" s_best_shift f fd) (hx : mg "best_shift" = some (.ref f)) (hb : Binds K fd ["lows", "highs"] []) (c_need_rows : Kn P w K mg base cn 4 "need_rows" (List.replicate 2 false) f_need_rows) (c_shifts : Kn P w K mg base cn 5 "shifts" (List.replicate 3 false) f_shifts) (z_len : mg "len" = none) (z_range : mg "range" = none) : Kn P w K mg base cn (5 + 1) "best_shift" (List.replicate 2 false) f_best_shift :=
  Kn.mk' (N := ["lows", "highs", "height", "found"]) (s := b_best_shift) F sc_best_shift rfl hx hb fun cdv A outer s0 H E C =>
 (ds_cons (kExp ((wCall (n := 2) C c_need_rows (wC ((v 0)).pe (wC ((v 1)).pe wNil)) (by first | omega | exact Nat.le_refl _ | exact Nat.le_trans (by decide) (Nat.le_add_right _ _)))).pe)
 (ds_cons (kFor C (ir1 z_range (wC ((wB C ((wLen C z_len (wC ((v 0)).pe wNil))).pe (de_int).pe)).pe wNil)) (gv C 2)
 (ds_cons (kAsg C 3 (DE.f (wCall (n := 3) C c_shifts (wC ((v 0)).pe (wC ((v 1)).pe (wC ((v 2)).pe wNil))) (by first | omega | exact Nat.le_refl _ | exact Nat.le_trans (by decide) (Nat.le_add_right _ _)))))
 (ds_cons (ds_if (wCmp cmp_is (v 3) de_non) (ds_one (ds_ret ((wTup (wC ((v 2)).pe (wC (de_int).pe wNil)))).pe)) ds_nil)
 (ds_one (ds_if (wCmp (cNe C) (v 3) (wTup wNil)) (ds_one (ds_ret ((wTup (wC ((v 2)).pe (wC ((wIx C ((v 3)).pe (de_int).pe)).pe wNil)))).pe)) ds_nil)))))
 (ds_one (ds_ret (de_non).pe))))
abbrev s_law : Stmt := topS 23
theorem sc_law : FnScope ["_law_script", "_law_row", "_law_turn", "_law_height", "_law_back", "_law_tall", "_law_lows", "_law_highs", "_law_one", "_law_other", "_law_pins_here", "_law_place"] ["_law_script"] (defScope s_law) := ⟨rfl, rfl, rfl, by decide +kernel, rfl, by decide +kernel, by decide +kernel⟩
def b_law : Rho → Rs Fl :=
 (sSeq (sAsg 1 (sLst (sCons (sVar 0) (sCons (sC (.int 0)) (sCons (sC (.int 3879)) (sCons (sC (.int 0)) sNil))))))
 (sSeq (sFor (sRng (sCons (sC (.int 3)) sNil)) (gN 2)
 (sSeq (sAsgT (gTp 2 (gsC (gN 6) (gsC (gN 7) gsN))) (sCallO [true] f__law_river (sCons (sVar 1) sNil)))
 (sSeq (sAsg 3 (liF (sCall f_river_height (sCons (sVar 6) (sCons (sVar 7) sNil)))))
 (sSeq (sAsg 4 (sLc (sIt (unF (sLst (sCons (sVar 6) (sCons (sVar 7) sNil))))) (gN 10) sYes (sFun tupleD (sCons (unF (sLc (sIt (unF (sBack (sVar 10)))) (gN 11) sYes (sBin (binD .Sub) (sC (.int 40)) (sVar 11)) [11])) sNil)) [10]))
 (sSeq (sIfS (sOr (sBin neD (sCall f_river_height (sCons (sVar 7) (sCons (sVar 6) sNil))) (sVar 3)) (sBin neD (sCall f_river_height (sCons (sBin ixD (sVar 4) (sC (.int 0))) (sCons (sBin ixD (sVar 4) (sC (.int 1))) sNil))) (sVar 3))) (sRet (sC (.bool false))) sNx)
 (sSeq (sAsg 5 (liF (sCallO [true, false] f__law_taken (sCons (sVar 1) (sCons (sC (.int 9)) sNil)))))
 (sSeq (sPar 8 9 (sCons (sCall f_shifts (sCons (sVar 6) (sCons (sVar 7) (sCons (sVar 5) sNil)))) (sCons (sCall f_shifts (sCons (sVar 7) (sCons (sVar 6) (sCons (sVar 5) sNil)))) sNil)))
 (sSeq (sIfS (sOr (sBin isD (sVar 8) (sC .none)) (sBin eqD (sVar 8) (sTup sNil))) (sIfS (sBin neD (sVar 9) (sVar 8)) (sRet (sC (.bool false))) sNx) (sIfS (sOr (sBin neD (sVar 9) (sTup (sCons (sBin (binD .Sub) (sC (.int 0)) (sBin ixD (sVar 8) (sC (.int 1)))) (sCons (sBin (binD .Sub) (sC (.int 0)) (sBin ixD (sVar 8) (sC (.int 0)))) sNil)))) (sAnd (sChain leD leD (sBin ixD (sVar 8) (sC (.int 0))) (sC (.int 0)) (sBin ixD (sVar 8) (sC (.int 1)))) (sBin gtD (sVar 3) (sVar 5)))) (sRet (sC (.bool false))) sNx))
 (sSeq (sIfS (sBin neD (sOr (sBin isD (sVar 8) (sC .none)) (sAnd (sBin neD (sVar 8) (sTup sNil)) (sChain leD leD (sBin ixD (sVar 8) (sC (.int 0))) (sC (.int 0)) (sBin ixD (sVar 8) (sC (.int 1)))))) (sBin leD (sVar 3) (sVar 5))) (sRet (sC (.bool false))) sNx)
 (sIfS (sOr (sBin neD (sBin ixD (sCall f_best_shift (sCons (sVar 7) (sCons (sVar 6) sNil))) (sC (.int 0))) (sBin ixD (sCall f_best_shift (sCons (sVar 6) (sCons (sVar 7) sNil))) (sC (.int 0)))) (sAnd (sBin neD (sVar 6) (sTup sNil)) (sBin neD (sCall f_river_height (sCons (sVar 6) (sCons (sVar 6) sNil))) (sC (.int 0))))) (sRet (sC (.bool false))) sNx))))))))))
 (sRet (sC (.bool true)))))
def f_law : Fn := defR 12 [false] b_law
theorem ok_law (F : Fun K "law" "law" s_law f fd) (c__law_river : Kn P w K mg base cn 3 "_law_river" [true] f__law_river) (c_river_height : Kn P w K mg base cn 5 "river_height" (List.replicate 2 false) f_river_height) (c__law_taken : Kn P w K mg base cn 1 "_law_taken" [true, false] f__law_taken) (c_shifts : Kn P w K mg base cn 5 "shifts" (List.replicate 3 false) f_shifts) (c_best_shift : Kn P w K mg base cn 6 "best_shift" (List.replicate 2 false) f_best_shift) (z_range : mg "range" = none) (z_tuple : mg "tuple" = none) : FnOk P w K mg base (L2.CX P w) (6 + 1) f fd ["_law_script"] (spD K cn [false] f_law) :=
  fnD (N := ["_law_script", "_law_row", "_law_turn", "_law_height", "_law_back", "_law_tall", "_law_lows", "_law_highs", "_law_one", "_law_other", "_law_pins_here", "_law_place"]) (s := b_law) F sc_law rfl fun cdv A outer s0 H E hr =>
  have C := Cok.of (cn := cn) sc_law.nd hr
 (ds_cons (kAsg C 1 ((wLst (wC ((v 0)).pe (wC (de_int).pe (wC (de_int).pe (wC (de_int).pe wNil)))))).pf)
 (ds_cons (kFor C (ir1 z_range (wC (de_int).pe wNil)) (gv C 2)
 (ds_cons (kAsgT ((wCallO C c__law_river (wC ((v 1)).pe wNil) (by first | omega | exact Nat.le_refl _ | exact Nat.le_trans (by decide) (Nat.le_add_right _ _)))).pe (gt C (gc (gv C 6) (gc (gv C 7) gn))))
 (ds_cons (kAsg C 3 (DE.f (wCall (n := 2) C c_river_height (wC ((v 6)).pe (wC ((v 7)).pe wNil)) (by first | omega | exact Nat.le_refl _ | exact Nat.le_trans (by decide) (Nat.le_add_right _ _)))))
 (ds_cons (kSetLc C [("_law_pins_here", 10)] 4 (iv C ((wLst (wC ((v 6)).pe (wC ((v 7)).pe wNil)))).de.pe) (LcOk.by fun s H C0 cl fp => ⟨(gv C.blk 10), dts_nil, ((wTuple C.blk z_tuple (wC ((wLc C.blk [("_law_place", 11)] (iv C.blk ((wBack C.blk ((v 10)).pe)).de.pe) (LcOk.by fun s H C0 cl fp => ⟨(gv C.blk.blk 11), dts_nil, ((wB C.blk.blk (de_int).pe ((v 11)).pe)).pe⟩))).de.pe wNil))).pe⟩))
 (ds_cons (ds_if (dw_or (wCmp (cNe C) (wCall (n := 2) C c_river_height (wC ((v 7)).pe (wC ((v 6)).pe wNil)) (by first | omega | exact Nat.le_refl _ | exact Nat.le_trans (by decide) (Nat.le_add_right _ _))) (v 3)) (dw_or1 (wCmp (cNe C) (wCall (n := 2) C c_river_height (wC ((wIx C ((v 4)).pe (de_int).pe)).pe (wC ((wIx C ((v 4)).pe (de_int).pe)).pe wNil)) (by first | omega | exact Nat.le_refl _ | exact Nat.le_trans (by decide) (Nat.le_add_right _ _))) (v 3)))).de (ds_one (ds_ret (de_bl).pe)) ds_nil)
 (ds_cons (kAsg C 5 (DE.f (wCallO C c__law_taken (wC ((v 1)).pe (wC (de_int).pe wNil)) (by first | omega | exact Nat.le_refl _ | exact Nat.le_trans (by decide) (Nat.le_add_right _ _)))))
 (ds_cons (kPar C 8 9 (wC ((wCall (n := 3) C c_shifts (wC ((v 6)).pe (wC ((v 7)).pe (wC ((v 5)).pe wNil))) (by first | omega | exact Nat.le_refl _ | exact Nat.le_trans (by decide) (Nat.le_add_right _ _)))).pe (wC ((wCall (n := 3) C c_shifts (wC ((v 7)).pe (wC ((v 6)).pe (wC ((v 5)).pe wNil))) (by first | omega | exact Nat.le_refl _ | exact Nat.le_trans (by decide) (Nat.le_add_right _ _)))).pe wNil)))
 (ds_cons (ds_if (dw_or (wCmp cmp_is (v 8) de_non) (dw_or1 (wCmp (cEq C) (v 8) (wTup wNil)))).de (ds_one (ds_if (wCmp (cNe C) (v 9) (v 8)) (ds_one (ds_ret (de_bl).pe)) ds_nil)) (ds_one (ds_if (dw_or (wCmp (cNe C) (v 9) (wTup (wC ((wB C (de_int).pe ((wIx C ((v 8)).pe (de_int).pe)).pe)).pe (wC ((wB C (de_int).pe ((wIx C ((v 8)).pe (de_int).pe)).pe)).pe wNil)))) (dw_or1 (dw_and (wCh cLe cLe (wIx C ((v 8)).pe (de_int).pe) de_int (wIx C ((v 8)).pe (de_int).pe)) (dw_and1 (wCmp cGt (v 3) (v 5)))).de)).de (ds_one (ds_ret (de_bl).pe)) ds_nil)))
 (ds_cons (ds_if (wCmp (cNe C) (dw_or (wCmp cmp_is (v 8) de_non) (dw_or1 (dw_and (wCmp (cNe C) (v 8) (wTup wNil)) (dw_and1 (wCh cLe cLe (wIx C ((v 8)).pe (de_int).pe) de_int (wIx C ((v 8)).pe (de_int).pe)))).de)).de (wCmp cLe (v 3) (v 5))) (ds_one (ds_ret (de_bl).pe)) ds_nil)
 (ds_one (ds_if (dw_or (wCmp (cNe C) (wIx C ((wCall (n := 2) C c_best_shift (wC ((v 7)).pe (wC ((v 6)).pe wNil)) (by first | omega | exact Nat.le_refl _ | exact Nat.le_trans (by decide) (Nat.le_add_right _ _)))).pe (de_int).pe) (wIx C ((wCall (n := 2) C c_best_shift (wC ((v 6)).pe (wC ((v 7)).pe wNil)) (by first | omega | exact Nat.le_refl _ | exact Nat.le_trans (by decide) (Nat.le_add_right _ _)))).pe (de_int).pe)) (dw_or1 (dw_and (wCmp (cNe C) (v 6) (wTup wNil)) (dw_and1 (wCmp (cNe C) (wCall (n := 2) C c_river_height (wC ((v 6)).pe (wC ((v 6)).pe wNil)) (by first | omega | exact Nat.le_refl _ | exact Nat.le_trans (by decide) (Nat.le_add_right _ _))) de_int))).de)).de (ds_one (ds_ret (de_bl).pe)) ds_nil)))))))))))
 (ds_one (ds_ret (de_bl).pe))))
end
theorem all_mk {P : Program} {w : World} {K : PySem.W.Frag} {h : Heap} {mg : Str → Option Value} {fa f0 f1 f2 f3 f4 f5 f6 f7 f8 f9 f10 f11 f12 f13 f14 : Addr} (X : K.In h) (G : h.Ns mainGlobals mg) (hfa : mg "law" = some (.ref fa))
    {od0 an0 od1 an1 od2 an2 od3 an3 od4 an4 od5 an5 od6 an6 od7 an7 od8 an8 od9 an9 od10 an10 od11 an11 od12 an12 od13 an13 od14 an14 : Option Addr} {sl0 sl1 sl2 sl3 sl4 sl5 sl6 sl7 sl8 sl9 sl10 sl11 sl12 sl13 sl14 : Array (Option Value)} {oc0 kV0 dc0 pm0 cd0 ct0 oc1 kV1 dc1 pm1 cd1 ct1 oc2 kV2 dc2 pm2 cd2 ct2 oc3 kV3 dc3 pm3 cd3 ct3 oc4 kV4 dc4 pm4 cd4 ct4 oc5 kV5 dc5 pm5 cd5 ct5 oc6 kV6 dc6 pm6 cd6 ct6 oc7 kV7 dc7 pm7 cd7 ct7 oc8 kV8 dc8 pm8 cd8 ct8 oc9 kV9 dc9 pm9 cd9 ct9 oc10 kV10 dc10 pm10 cd10 ct10 oc11 kV11 dc11 pm11 cd11 ct11 oc12 kV12 dc12 pm12 cd12 ct12 oc13 kV13 dc13 pm13 cd13 ct13 oc14 kV14 dc14 pm14 cd14 ct14 : Value} {t_MOST_PINS t_MOST_PLACE : Tok}
    (a0 : PySem.W.nsIn K mainGlobals "_law_taken" = some (some (.ref f0))) (l0 : K.lookup f0 = some ⟨oc0, od0, .func (PySem.W.fnOf "_law_taken" "_law_taken" (defArgs s__law_taken) (defBody s__law_taken) (defScope s__law_taken) .none kV0 dc0 pm0 an0 cd0 ct0), sl0⟩) (c0 : PySem.W.codeIn K cd0 "_law_taken" = true) (k0 : PySem.W.keepIn K (.ref f0) = true)
    (a1 : PySem.W.nsIn K mainGlobals "_law_pins" = some (some (.ref f1))) (l1 : K.lookup f1 = some ⟨oc1, od1, .func (PySem.W.fnOf "_law_pins" "_law_pins" (defArgs s__law_pins) (defBody s__law_pins) (defScope s__law_pins) .none kV1 dc1 pm1 an1 cd1 ct1), sl1⟩) (c1 : PySem.W.codeIn K cd1 "_law_pins" = true) (k1 : PySem.W.keepIn K (.ref f1) = true)
    (a2 : PySem.W.nsIn K mainGlobals "_law_pick" = some (some (.ref f2))) (l2 : K.lookup f2 = some ⟨oc2, od2, .func (PySem.W.fnOf "_law_pick" "_law_pick" (defArgs s__law_pick) (defBody s__law_pick) (defScope s__law_pick) .none kV2 dc2 pm2 an2 cd2 ct2), sl2⟩) (c2 : PySem.W.codeIn K cd2 "_law_pick" = true) (k2 : PySem.W.keepIn K (.ref f2) = true)
    (a3 : PySem.W.nsIn K mainGlobals "_law_river" = some (some (.ref f3))) (l3 : K.lookup f3 = some ⟨oc3, od3, .func (PySem.W.fnOf "_law_river" "_law_river" (defArgs s__law_river) (defBody s__law_river) (defScope s__law_river) .none kV3 dc3 pm3 an3 cd3 ct3), sl3⟩) (c3 : PySem.W.codeIn K cd3 "_law_river" = true) (k3 : PySem.W.keepIn K (.ref f3) = true)
    (a4 : PySem.W.nsIn K mainGlobals "is_list" = some (some (.ref f4))) (l4 : K.lookup f4 = some ⟨oc4, od4, .func (PySem.W.fnOf "is_list" "is_list" (defArgs s_is_list) (defBody s_is_list) (defScope s_is_list) .none kV4 dc4 pm4 an4 cd4 ct4), sl4⟩) (c4 : PySem.W.codeIn K cd4 "is_list" = true) (k4 : PySem.W.keepIn K (.ref f4) = true)
    (a5 : PySem.W.nsIn K mainGlobals "is_integer" = some (some (.ref f5))) (l5 : K.lookup f5 = some ⟨oc5, od5, .func (PySem.W.fnOf "is_integer" "is_integer" (defArgs s_is_integer) (defBody s_is_integer) (defScope s_is_integer) .none kV5 dc5 pm5 an5 cd5 ct5), sl5⟩) (c5 : PySem.W.codeIn K cd5 "is_integer" = true) (k5 : PySem.W.keepIn K (.ref f5) = true)
    (a6 : PySem.W.nsIn K mainGlobals "is_in" = some (some (.ref f6))) (l6 : K.lookup f6 = some ⟨oc6, od6, .func (PySem.W.fnOf "is_in" "is_in" (defArgs s_is_in) (defBody s_is_in) (defScope s_is_in) .none kV6 dc6 pm6 an6 cd6 ct6), sl6⟩) (c6 : PySem.W.codeIn K cd6 "is_in" = true) (k6 : PySem.W.keepIn K (.ref f6) = true)
    (a7 : PySem.W.nsIn K mainGlobals "need_pins" = some (some (.ref f7))) (l7 : K.lookup f7 = some ⟨oc7, od7, .func (PySem.W.fnOf "need_pins" "need_pins" (defArgs s_need_pins) (defBody s_need_pins) (defScope s_need_pins) .none kV7 dc7 pm7 an7 cd7 ct7), sl7⟩) (c7 : PySem.W.codeIn K cd7 "need_pins" = true) (k7 : PySem.W.keepIn K (.ref f7) = true)
    (a8 : PySem.W.nsIn K mainGlobals "need_rows" = some (some (.ref f8))) (l8 : K.lookup f8 = some ⟨oc8, od8, .func (PySem.W.fnOf "need_rows" "need_rows" (defArgs s_need_rows) (defBody s_need_rows) (defScope s_need_rows) .none kV8 dc8 pm8 an8 cd8 ct8), sl8⟩) (c8 : PySem.W.codeIn K cd8 "need_rows" = true) (k8 : PySem.W.keepIn K (.ref f8) = true)
    (a9 : PySem.W.nsIn K mainGlobals "does_fit" = some (some (.ref f9))) (l9 : K.lookup f9 = some ⟨oc9, od9, .func (PySem.W.fnOf "does_fit" "does_fit" (defArgs s_does_fit) (defBody s_does_fit) (defScope s_does_fit) .none kV9 dc9 pm9 an9 cd9 ct9), sl9⟩) (c9 : PySem.W.codeIn K cd9 "does_fit" = true) (k9 : PySem.W.keepIn K (.ref f9) = true)
    (a10 : PySem.W.nsIn K mainGlobals "height_in" = some (some (.ref f10))) (l10 : K.lookup f10 = some ⟨oc10, od10, .func (PySem.W.fnOf "height_in" "height_in" (defArgs s_height_in) (defBody s_height_in) (defScope s_height_in) .none kV10 dc10 pm10 an10 cd10 ct10), sl10⟩) (c10 : PySem.W.codeIn K cd10 "height_in" = true) (k10 : PySem.W.keepIn K (.ref f10) = true)
    (a11 : PySem.W.nsIn K mainGlobals "river_height" = some (some (.ref f11))) (l11 : K.lookup f11 = some ⟨oc11, od11, .func (PySem.W.fnOf "river_height" "river_height" (defArgs s_river_height) (defBody s_river_height) (defScope s_river_height) .none kV11 dc11 pm11 an11 cd11 ct11), sl11⟩) (c11 : PySem.W.codeIn K cd11 "river_height" = true) (k11 : PySem.W.keepIn K (.ref f11) = true)
    (a12 : PySem.W.nsIn K mainGlobals "shifts" = some (some (.ref f12))) (l12 : K.lookup f12 = some ⟨oc12, od12, .func (PySem.W.fnOf "shifts" "shifts" (defArgs s_shifts) (defBody s_shifts) (defScope s_shifts) .none kV12 dc12 pm12 an12 cd12 ct12), sl12⟩) (c12 : PySem.W.codeIn K cd12 "shifts" = true) (k12 : PySem.W.keepIn K (.ref f12) = true)
    (a13 : PySem.W.nsIn K mainGlobals "best_shift" = some (some (.ref f13))) (l13 : K.lookup f13 = some ⟨oc13, od13, .func (PySem.W.fnOf "best_shift" "best_shift" (defArgs s_best_shift) (defBody s_best_shift) (defScope s_best_shift) .none kV13 dc13 pm13 an13 cd13 ct13), sl13⟩) (c13 : PySem.W.codeIn K cd13 "best_shift" = true) (k13 : PySem.W.keepIn K (.ref f13) = true)
    (a14 : PySem.W.nsIn K mainGlobals "law" = some (some (.ref f14))) (l14 : K.lookup f14 = some ⟨oc14, od14, .func (PySem.W.fnOf "law" "law" (defArgs s_law) (defBody s_law) (defScope s_law) .none kV14 dc14 pm14 an14 cd14 ct14), sl14⟩) (c14 : PySem.W.codeIn K cd14 "law" = true) (k14 : PySem.W.keepIn K (.ref f14) = true)
    (z_int : PySem.W.nsIn K mainGlobals "int" = some none)
    (z_len : PySem.W.nsIn K mainGlobals "len" = some none)
    (z_range : PySem.W.nsIn K mainGlobals "range" = some none)
    (z_sorted : PySem.W.nsIn K mainGlobals "sorted" = some none)
    (z_tuple : PySem.W.nsIn K mainGlobals "tuple" = some none)
    (z_min : PySem.W.nsIn K mainGlobals "min" = some none)
    (z_max : PySem.W.nsIn K mainGlobals "max" = some none)
    (z_isinstance : PySem.W.nsIn K mainGlobals "isinstance" = some none)
    (z_bool : PySem.W.nsIn K mainGlobals "bool" = some none)
    (z_enumerate : PySem.W.nsIn K mainGlobals "enumerate" = some none)
    (q_MOST_PINS : PySem.W.nsIn K mainGlobals "MOST_PINS" = some (some (.int 8 t_MOST_PINS)))
    (q_MOST_PLACE : PySem.W.nsIn K mainGlobals "MOST_PLACE" = some (some (.int 40 t_MOST_PLACE))) :
    ∃ fd : FuncData, (∀ (s : Shared) (v : Value), BindsTo s fd ⟨[v], []⟩ [("_law_script", v)]) ∧ ∀ base : Heap, K.In base → base.Ns mainGlobals mg → FnOk P w K mg base (L2.CX P w) 7 fa fd ["_law_script"] (spD K (fun _ => none) [false] f_law) := by
  have e := hfa.symm.trans (PySem.W.mg_of X G a14)
  cases e
  have z_int := PySem.W.mg_none_of X G z_int
  have z_len := PySem.W.mg_none_of X G z_len
  have z_range := PySem.W.mg_none_of X G z_range
  have z_sorted := PySem.W.mg_none_of X G z_sorted
  have z_tuple := PySem.W.mg_none_of X G z_tuple
  have z_min := PySem.W.mg_none_of X G z_min
  have z_max := PySem.W.mg_none_of X G z_max
  have z_isinstance := PySem.W.mg_none_of X G z_isinstance
  have z_bool := PySem.W.mg_none_of X G z_bool
  have z_enumerate := PySem.W.mg_none_of X G z_enumerate
  have q_MOST_PINS : Kc mg "MOST_PINS" k_MOST_PINS := ⟨.int 8, _, PySem.W.mg_of X G q_MOST_PINS, ⟨_, rfl⟩, fun _ _ => .int _⟩
  have q_MOST_PLACE : Kc mg "MOST_PLACE" k_MOST_PLACE := ⟨.int 40, _, PySem.W.mg_of X G q_MOST_PLACE, ⟨_, rfl⟩, fun _ _ => .int _⟩
  have F0 := fun_mk (st := s__law_taken) l0 c0 k0
  have b0 : Binds K _ ["_law_row", "_law_many"] [] := F0.binds fun _ _ _ _ _ _ us hl => match us, hl with | [_, _], _ => rfl
  have g0 := PySem.W.mg_of X G a0
  have F1 := fun_mk (st := s__law_pins) l1 c1 k1
  have b1 : Binds K _ ["_law_row", "_law_many", "_law_most"] [] := F1.binds fun _ _ _ _ _ _ us hl => match us, hl with | [_, _, _], _ => rfl
  have g1 := PySem.W.mg_of X G a1
  have F2 := fun_mk (st := s__law_pick) l2 c2 k2
  have b2 : Binds K _ ["_law_row", "_law_things"] [] := F2.binds fun _ _ _ _ _ _ us hl => match us, hl with | [_, _], _ => rfl
  have g2 := PySem.W.mg_of X G a2
  have F3 := fun_mk (st := s__law_river) l3 c3 k3
  have b3 : Binds K _ ["_law_row"] [] := F3.binds fun _ _ _ _ _ _ us hl => match us, hl with | [_], _ => rfl
  have g3 := PySem.W.mg_of X G a3
  have F4 := fun_mk (st := s_is_list) l4 c4 k4
  have b4 : Binds K _ ["value", "least", "most"] [] := F4.binds fun _ _ _ _ _ _ us hl => match us, hl with | [_, _, _], _ => rfl
  have g4 := PySem.W.mg_of X G a4
  have F5 := fun_mk (st := s_is_integer) l5 c5 k5
  have b5 : Binds K _ ["value"] [] := F5.binds fun _ _ _ _ _ _ us hl => match us, hl with | [_], _ => rfl
  have g5 := PySem.W.mg_of X G a5
  have F6 := fun_mk (st := s_is_in) l6 c6 k6
  have b6 : Binds K _ ["value", "least", "most"] [] := F6.binds fun _ _ _ _ _ _ us hl => match us, hl with | [_, _, _], _ => rfl
  have g6 := PySem.W.mg_of X G a6
  have F7 := fun_mk (st := s_need_pins) l7 c7 k7
  have b7 : Binds K _ ["pins", "many"] [] := F7.binds fun _ _ _ _ _ _ us hl => match us, hl with | [_, _], _ => rfl
  have g7 := PySem.W.mg_of X G a7
  have F8 := fun_mk (st := s_need_rows) l8 c8 k8
  have b8 : Binds K _ ["lows", "highs"] [] := F8.binds fun _ _ _ _ _ _ us hl => match us, hl with | [_, _], _ => rfl
  have g8 := PySem.W.mg_of X G a8
  have F9 := fun_mk (st := s_does_fit) l9 c9 k9
  have b9 : Binds K _ ["lows", "highs", "height", "shift"] [] := F9.binds fun _ _ _ _ _ _ us hl => match us, hl with | [_, _, _, _], _ => rfl
  have g9 := PySem.W.mg_of X G a9
  have F10 := fun_mk (st := s_height_in) l10 c10 k10
  have b10 : Binds K _ ["lows", "highs"] [] := F10.binds fun _ _ _ _ _ _ us hl => match us, hl with | [_, _], _ => rfl
  have g10 := PySem.W.mg_of X G a10
  have F11 := fun_mk (st := s_river_height) l11 c11 k11
  have b11 : Binds K _ ["lows", "highs"] [] := F11.binds fun _ _ _ _ _ _ us hl => match us, hl with | [_, _], _ => rfl
  have g11 := PySem.W.mg_of X G a11
  have F12 := fun_mk (st := s_shifts) l12 c12 k12
  have b12 : Binds K _ ["lows", "highs", "height"] [] := F12.binds fun _ _ _ _ _ _ us hl => match us, hl with | [_, _, _], _ => rfl
  have g12 := PySem.W.mg_of X G a12
  have F13 := fun_mk (st := s_best_shift) l13 c13 k13
  have b13 : Binds K _ ["lows", "highs"] [] := F13.binds fun _ _ _ _ _ _ us hl => match us, hl with | [_, _], _ => rfl
  have g13 := PySem.W.mg_of X G a13
  have F14 := fun_mk (st := s_law) l14 c14 k14
  refine ⟨PySem.W.fnOf "law" "law" (defArgs s_law) (defBody s_law) (defScope s_law) .none kV14 dc14 pm14 an14 cd14 ct14, fun s v => .of_eq rfl, fun base _ _ => ?_⟩
  have c__law_taken := ok__law_taken (P := P) (w := w) (base := base) (cn := fun _ => none) F0 g0 b0 z_int z_len
  have c__law_pins := ok__law_pins (P := P) (w := w) (base := base) (cn := fun _ => none) F1 g1 b1 c__law_taken z_range z_len z_sorted z_tuple
  have c__law_pick := ok__law_pick (P := P) (w := w) (base := base) (cn := fun _ => none) F2 g2 b2 c__law_taken z_len
  have c__law_river := ok__law_river (P := P) (w := w) (base := base) (cn := fun _ => none) F3 g3 b3 c__law_pick c__law_taken c__law_pins z_min z_range z_max z_tuple
  have c_is_list := ok_is_list (P := P) (w := w) (base := base) (cn := fun _ => none) F4 g4 b4 z_isinstance z_tuple z_len
  have c_is_integer := ok_is_integer (P := P) (w := w) (base := base) (cn := fun _ => none) F5 g5 b5 z_isinstance z_int z_bool
  have c_is_in := ok_is_in (P := P) (w := w) (base := base) (cn := fun _ => none) F6 g6 b6 c_is_integer
  have c_need_pins := ok_need_pins (P := P) (w := w) (base := base) (cn := fun _ => none) F7 g7 b7 c_is_list c_is_in z_enumerate q_MOST_PINS q_MOST_PLACE
  have c_need_rows := ok_need_rows (P := P) (w := w) (base := base) (cn := fun _ => none) F8 g8 b8 c_need_pins z_len
  have c_does_fit := ok_does_fit (P := P) (w := w) (base := base) (cn := fun _ => none) F9 g9 b9 z_len z_range
  have c_height_in := ok_height_in (P := P) (w := w) (base := base) (cn := fun _ => none) F10 g10 b10 c_does_fit z_len z_range z_min
  have c_river_height := ok_river_height (P := P) (w := w) (base := base) (cn := fun _ => none) F11 g11 b11 c_need_rows c_height_in
  have c_shifts := ok_shifts (P := P) (w := w) (base := base) (cn := fun _ => none) F12 g12 b12 c_need_rows c_is_in z_len z_range z_max z_min q_MOST_PINS
  have c_best_shift := ok_best_shift (P := P) (w := w) (base := base) (cn := fun _ => none) F13 g13 b13 c_need_rows c_shifts z_len z_range
  exact ok_law F14 c__law_river c_river_height c__law_taken c_shifts c_best_shift z_range z_tuple
end K79
namespace K79
open PySem PySem.Spec PyProof.Rows L2 L3
local macro_rules | `(tactic| array_get_dec) => `(tactic| simp only [L3.wp_ok, L3.wp_bad, L3.wp_seq, L3.wp_ifS, L3.wp_ret, L3.wp_exp, L3.wp_asg, L3.wp_asgT, L3.wp_gN, L3.wp_gsN, L3.wp_gsC, L3.wp_gTpT, L3.wp_gTpL, L3.wp_par, L3.wp_put2, L3.wp_put, L3.putOk_v, L3.putOk_o, L3.putOk_n, L3.putOk_of, L3.wp_for, L3.wp_loop_nil, L3.wp_nx, L3.wp_sbad, L3.wp_thenG,
  L3.wp_var, L3.at_val, L3.at_own, L3.wp_c, L3.wp_bin, L3.wp_un, L3.cont_d, L3.cont_bv, L3.cont_val, L3.cont_own, L3.wp_asB, L3.wp_not, L3.wp_and, L3.wp_or, L3.wp_ifE, L3.wp_chain, L3.wp_nil, L3.wp_cons, L3.wp_frz_d, L3.wp_frz_bv, L3.fa_val, L3.fa_own, L3.wp_frzs_nil, L3.wp_frzs_cons, L3.wp_tup, L3.wp_lst, L3.wp_fun, L3.wp_funF, L3.conts_nil, L3.conts_cons, L3.wp_unF, L3.wp_liF,
  L3.wp_aug, L3.aa_val, L3.wp_setIx, L3.wp_setAt, L3.wp_mut, L3.own_def, L3.olc_own, L3.wp_it, L3.wp_rng, L3.wp_enum, L3.wp_lc, L3.wp_yes, L3.wp_slice, L3.wp_call, L3.wp_callO, L3.wp_prep_nil, L3.wp_prep_f, L3.wp_prep_t, L3.wp_callRO, L3.idx_nil, L3.idx_l, L3.idx_r, L3.ph2_nil, L3.ph2_l, L3.ph2_r, L3.oa_own, L3.so_nil, L3.so_l, L3.so_r, L3.back_own,
  L3.wpo_some, L3.wpo_none, L3.wpo_ite, L3.wpo_map, L3.wpo_bind, L3.bin_add, L3.bin_sub, L3.bin_mul, L3.bin_fdiv, L3.bin_mod, L3.bin_pow, L3.neg_intD, L3.lt_int', L3.le_int', L3.gt_int', L3.ge_int', L3.eq_int', L3.ne_int', L3.eq_bool', L3.ne_bool', L3.is_none', L3.isn_none', L3.isi_one, L3.isi_two, L3.lenD_list, L3.lenD_tuple, L3.ix_listD, L3.ix_tupD,
  L3.szOk0, L3.szOk1, L3.szOk2, L3.szOk3, L3.szOk4, L3.szOk5, L3.szOk6, L3.szOk7, L3.szOk8, L3.at0, L3.at1, L3.at2, L3.at3, L3.ix40, L3.ix41, L3.ix42, L3.ix43, L3.int_int, L3.len_scr, L3.ix_scr, L3.outC_t, L3.outC_f, L3.outC_v, L3.outC_n, List.map_cons, List.map_nil, List.take_succ_cons, List.take_zero, Int.reduceNeg,
  List.getElem?_cons_zero, List.getElem?_cons_succ, List.set_cons_zero, List.set_cons_succ, List.length_cons, List.length_nil, Option.bind_some, Option.bind_none, Option.map_some, Option.map_none, Option.isSome_some, Option.isSome_none, if_true, if_false, Bool.not_true, Bool.not_false, decide_true, decide_false, Bool.false_eq_true, Nat.reduceAdd, List.nodup_cons, List.not_mem_nil, not_false_eq_true, List.nodup_nil, and_self, and_true, true_and, ite_self, reduceIte, decide_eq_true_eq, Bool.not_eq_true'])
local macro_rules | `(tactic| decreasing_trivial_pre_omega) => `(tactic| (refine L3.wpf_go (rfl) ?_; simp only [L3.init_r, L3.init_c, L3.init_n, List.cons_append, List.nil_append, if_true, Bool.false_eq_true, if_false, List.length_cons, List.length_nil, Nat.reduceAdd, Nat.reduceSub, List.replicate]))
theorem e1 : f__law_river = Riv.f__law_river := rfl
theorem e2 : f_river_height = Riv.f_river_height := rfl
theorem e3 : f_shifts = Riv.f_shifts := rfl
theorem e4 : f_best_shift = Riv.f_best_shift := rfl
theorem e5 : f__law_taken = takenF := rfl
theorem law_wp (ns : List Int) : WpF (f_law [scrD ns]) fun z _ => z = .bool true := by
  unfold f_law
  decreasing_trivial_pre_omega
  unfold b_law
  rw [e1, e2, e3, e4, e5]
  array_get_dec
  simp only [intsV1, wpo_some]
  rw [rng1 (by omega) (by omega)]
  array_get_dec
  refine loop_fold (fun _ ρ => ∃ (r : D) (c2 c3 c4 c5 c6 c7 c8 c9 : Cell), ρ = [Cell.val (scrD ns), Cell.own false r, c2, c3, c4, c5, c6, c7, c8, c9, Cell.no, Cell.no] ∧ RowOk r ∧ putOk (some c2) = true ∧ putOk (some c3) = true ∧ putOk (some c4) = true ∧ putOk (some c5) = true ∧ putOk (some c6) = true ∧ putOk (some c7) = true ∧ putOk (some c8) = true ∧ putOk (some c9) = true)
    ?_ ⟨_, .no, .no, .no, .no, .no, .no, .no, .no, rfl, ⟨ns, 0, 3879, 0, rfl, by omega⟩, rfl, rfl, rfl, rfl, rfl, rfl, rfl, rfl⟩ ?_
  · rintro j d hd ρ0 ⟨r, c2, c3, c4, c5, c6, c7, c8, c9, rfl, hr, p2, p3, p4, p5, p6, p7, p8, p9⟩
    obtain ⟨hj, rfl⟩ := rngD_at hd
    rw [wp_gN, wp_put]
    refine ite_of p2 ?_
    simp only [List.set_cons_zero, List.set_cons_succ]
    refine ⟨trivial, ?_⟩
    refine seq_step (fun ρ => ∃ L M r1, Riv.Pins L ∧ Riv.Pins M ∧ M.length = L.length ∧ RowOk r1 ∧ ρ = [Cell.val (scrD ns), Cell.own false r1, Cell.val (.int (0 + (j : Int))), c3, c4, c5, Cell.val (tupI L), Cell.val (tupI M), c8, c9, Cell.no, Cell.no]) ?_ ?_
    · array_get_dec
      refine Riv.river_wp hr fun L M r1 hL hM e hr1 => ?_
      array_get_dec
      simp only [p6, p7, if_true]
      exact ⟨L, M, r1, hL, hM, e, hr1, rfl⟩
    rintro ρ ⟨L, M, r1, hL, hM, e, hr1, rfl⟩
    have hlen := hL.len
    refine seq_step (fun ρ => ∃ t : Nat, Riv.IsH L M t ∧ ρ = [Cell.val (scrD ns), Cell.own false r1, Cell.val (.int (0 + (j : Int))), Cell.val (.int t), c4, c5, Cell.val (tupI L), Cell.val (tupI M), c8, c9, Cell.no, Cell.no]) ?_ ?_
    · array_get_dec
      refine (Riv.height2_wp hL hM e).to fun z _ hz => ?_
      obtain ⟨t, rfl, ht⟩ := hz
      simp only [p3, if_true]
      exact ⟨t, ht, rfl⟩
    rintro ρ ⟨t, ht, rfl⟩
    have bk : ∀ l : List Int, (l.map PyData.int).reverse.map (fun d => match d with | .int i => PyData.int (40 - i) | x => x) = (Riv.back l).map .int := fun l => by
      unfold Riv.back
      rw [← List.map_reverse, List.map_map, List.map_map]
      rfl
    refine seq_step (fun ρ => ρ = [Cell.val (scrD ns), Cell.own false r1, Cell.val (.int (0 + (j : Int))), Cell.val (.int t), Cell.own false (.list [tupI (Riv.back L), tupI (Riv.back M)]), c5, Cell.val (tupI L), Cell.val (tupI M), c8, c9, Cell.no, Cell.no]) ?_ ?_
    · array_get_dec
      have wd : walkD (.list [tupI L, tupI M]) = some [tupI L, tupI M] := rfl
      rw [wd]
      array_get_dec
      refine ite_of rfl ?_
      refine gat_map (fun d => match d with | .tuple xs => .tuple (xs.reverse.map (fun d => match d with | .int i => PyData.int (40 - i) | x => x)) | x => x) (fun d hd => ?_) (by rw [sizeLine_eq]; simp) ?_
      · have hl : ∃ l : List Int, d = tupI l ∧ l.length ≤ 8 := by
          simp only [List.mem_cons, List.not_mem_nil, or_false] at hd
          rcases hd with rfl | rfl
          · exact ⟨L, rfl, hlen⟩
          · exact ⟨M, rfl, hM.len⟩
        obtain ⟨l, rfl, hl⟩ := hl
        unfold tupI
        array_get_dec
        refine ⟨rfl, rfl, ?_⟩
        rw [wp_back]
        array_get_dec
        rw [back_t]
        array_get_dec
        have wl : walkD (.tuple (l.map PyData.int).reverse) = some (l.map PyData.int).reverse := rfl
        rw [wl]
        array_get_dec
        refine ite_of rfl ?_
        refine gat_map (fun d => match d with | .int i => .int (40 - i) | x => x) (fun d hd => ?_) (by rw [sizeLine_eq]; simp; omega) ?_
        · obtain ⟨i, _, rfl⟩ := List.mem_map.mp (List.mem_reverse.mp hd)
          array_get_dec
          first | rfl | exact ⟨rfl, rfl⟩ | exact ⟨rfl, rfl, rfl⟩
        · array_get_dec
          rw [tuple_list]
          first | rfl | exact ⟨rfl, rfl⟩
      · simp only [List.map_cons, List.map_nil, tupI]
        rw [bk, bk]
        array_get_dec
        simp only [p4, if_true]
    rintro ρ rfl
    -- the first test
    refine seq_step (fun ρ => ρ = [Cell.val (scrD ns), Cell.own false r1, Cell.val (.int (0 + (j : Int))), Cell.val (.int t), Cell.own false (.list [tupI (Riv.back L), tupI (Riv.back M)]), c5, Cell.val (tupI L), Cell.val (tupI M), c8, c9, Cell.no, Cell.no]) ?_ ?_
    · array_get_dec
      refine (Riv.height2_wp hM hL e.symm).to fun z _ hz => ?_
      obtain ⟨t', rfl, ht'⟩ := hz
      have q1 : t' = t := ht.one ht' fun k => Riv.fit_swap e (by omega)
      subst q1
      array_get_dec
      refine (Riv.height2_wp (Riv.back_pins hL) (Riv.back_pins hM) (by rw [Riv.back_len, Riv.back_len]; exact e)).to fun z _ hz => ?_
      obtain ⟨t2, rfl, ht2⟩ := hz
      have q2 : t2 = t' := ht.one ht2 fun k => Riv.fit_back e
      subst q2
      array_get_dec
    rintro ρ rfl
    refine seq_step (fun ρ => ∃ (h : Int) (r2 : D), 0 ≤ h ∧ h < 9 ∧ RowOk r2 ∧ ρ = [Cell.val (scrD ns), Cell.own false r2, Cell.val (.int (0 + (j : Int))), Cell.val (.int t), Cell.own false (.list [tupI (Riv.back L), tupI (Riv.back M)]), Cell.val (.int h), Cell.val (tupI L), Cell.val (tupI M), c8, c9, Cell.no, Cell.no]) ?_ ?_
    · array_get_dec
      refine taken_wp hr1 (by omega) (by omega) fun h r2 h0 h9 hr2 => ?_
      array_get_dec
      simp only [p5, if_true]
      exact ⟨h, r2, h0, h9, hr2, rfl⟩
    rintro ρ ⟨h, r2, h0, h9, hr2, rfl⟩
    refine seq_step (fun ρ => ρ = [Cell.val (scrD ns), Cell.own false r2, Cell.val (.int (0 + (j : Int))), Cell.val (.int t), Cell.own false (.list [tupI (Riv.back L), tupI (Riv.back M)]), Cell.val (.int h), Cell.val (tupI L), Cell.val (tupI M), Cell.val (Riv.shD L M h), Cell.val (Riv.shD M L h), Cell.no, Cell.no]) ?_ ?_
    · array_get_dec
      refine (Riv.shifts_wp hL hM e h0 (by omega)).to fun z _ hz => ?_
      subst hz
      refine (Riv.shifts_wp hM hL e.symm h0 (by omega)).to fun z _ hz => ?_
      subst hz
      simp only [p8, p9, if_true]
    rintro ρ rfl
    have hk : (t ≤ h.toNat) ↔ Riv.fitB L M h 0 = true := by
      rw [ht.le hL hM e, show ((h.toNat : Nat) : Int) = h by omega]
    -- what is left behind the three tests
    have last : Wp ((sIfS (sOr (sBin neD (sBin ixD (sCall Riv.f_best_shift (sCons (sVar 7) (sCons (sVar 6) sNil))) (sC (.int 0))) (sBin ixD (sCall Riv.f_best_shift (sCons (sVar 6) (sCons (sVar 7) sNil))) (sC (.int 0)))) (sAnd (sBin neD (sVar 6) (sTup sNil)) (sBin neD (sCall Riv.f_river_height (sCons (sVar 6) (sCons (sVar 6) sNil))) (sC (.int 0))))) (sRet (sC (.bool false))) sNx)
        [Cell.val (scrD ns), Cell.own false r2, Cell.val (.int (0 + (j : Int))), Cell.val (.int t), Cell.own false (.list [tupI (Riv.back L), tupI (Riv.back M)]), Cell.val (.int h), Cell.val (tupI L), Cell.val (tupI M), Cell.val (Riv.shD L M h), Cell.val (Riv.shD M L h), Cell.no, Cell.no]) fun f ρ => (f = .nx ∨ f = .ct) ∧ ∃ (r : D) (c2 c3 c4 c5 c6 c7 c8 c9 : Cell), ρ = [Cell.val (scrD ns), Cell.own false r, c2, c3, c4, c5, c6, c7, c8, c9, Cell.no, Cell.no] ∧ RowOk r ∧ putOk (some c2) = true ∧ putOk (some c3) = true ∧ putOk (some c4) = true ∧ putOk (some c5) = true ∧ putOk (some c6) = true ∧ putOk (some c7) = true ∧ putOk (some c8) = true ∧ putOk (some c9) = true := by
      array_get_dec
      refine (Riv.best_wp hM hL e.symm).to fun z _ hz => ?_
      obtain ⟨u, u1, rfl, u2, u3⟩ := hz
      have l0 : ∀ (L M : List Int) u, ixD (Riv.leastD L M u) (.int 0) = some (.int u) := fun _ _ _ => rfl
      rw [l0]
      array_get_dec
      refine (Riv.best_wp hL hM e).to fun z _ hz => ?_
      obtain ⟨v, v1, rfl, v2, v3⟩ := hz
      rw [l0]
      have uv : u = v := by
        rcases Nat.lt_trichotomy u v with g | g | g
        · have := v3 u g; rw [← Riv.best_swap e, u2] at this; cases this
        · exact g
        · have := u3 v g; rw [Riv.best_swap e, v2] at this; cases this
      subst uv
      array_get_dec
      rw [show tupI L = .tuple (L.map .int) from rfl, ne_emptyT (plain_ints _)]
      have fin : (Fl.nx = .nx ∨ Fl.nx = .ct) ∧ ∃ (r : D) (c2 c3 c4 c5 c6 c7 c8 c9 : Cell), [Cell.val (scrD ns), Cell.own false r2, Cell.val (.int (0 + (j : Int))), Cell.val (.int t), Cell.own false (.list [tupI (Riv.back L), tupI (Riv.back M)]), Cell.val (.int h), Cell.val (.tuple (L.map .int)), Cell.val (tupI M), Cell.val (Riv.shD L M h), Cell.val (Riv.shD M L h), Cell.no, Cell.no] = [Cell.val (scrD ns), Cell.own false r, c2, c3, c4, c5, c6, c7, c8, c9, Cell.no, Cell.no] ∧ RowOk r ∧ putOk (some c2) = true ∧ putOk (some c3) = true ∧ putOk (some c4) = true ∧ putOk (some c5) = true ∧ putOk (some c6) = true ∧ putOk (some c7) = true ∧ putOk (some c8) = true ∧ putOk (some c9) = true :=
        ⟨.inl rfl, _, _, _, _, _, _, _, _, _, rfl, hr2, rfl, rfl, rfl, rfl, rfl, rfl, rfl, rfl⟩
      array_get_dec
      have hs : WpF (Riv.f_river_height [.tuple (L.map .int), .tuple (L.map .int)]) fun z _ => z = .int 0 := (Riv.height2_wp hL hL rfl).to fun z _ hz => by
        obtain ⟨w, rfl, hw⟩ := hz
        have : w = 0 := by
          rcases Nat.eq_zero_or_pos w with g | g
          · exact g
          · have := hw.2.2 0 g
            rw [show ((0 : Nat) : Int) = 0 from rfl, Riv.fit_self] at this
            cases this
        rw [this]; rfl
      split
      · refine hs.to fun z _ hz => ?_
        subst hz
        array_get_dec
        simpa using fin
      · simpa using fin
    by_cases hA : L.length ≤ h.toNat
    · have sA : Riv.shD L M h = .none := by unfold Riv.shD; rw [if_pos hA]
      have sB : Riv.shD M L h = .none := by unfold Riv.shD; rw [if_pos (by omega)]
      have ok : t ≤ h.toNat := hk.mpr (Riv.fit_all h0 hA)
      rw [sA, sB] at last ⊢
      refine seq_same ?_ (seq_same ?_ last)
      · array_get_dec
        refine ite_of rfl ?_
        rw [ne_non]
        array_get_dec
      · array_get_dec
        refine ite_of rfl ?_
        have tle : (t : Int) ≤ h := by omega
        rw [decide_eq_true tle]
        trivial
    · have hB : h.toNat < L.length := by omega
      obtain ⟨x1, x2⟩ := Riv.sh_swap e h0 hB
      have hfit := Riv.fit_mid (L := L) (M := M) (s := 0) h0 hB
      by_cases hle : Riv.mx (Riv.los L M h) ≤ Riv.mn (Riv.his L M h)
      · have sA : Riv.shD L M h = .tuple [.int (Riv.mx (Riv.los L M h)), .int (Riv.mn (Riv.his L M h))] := by unfold Riv.shD; rw [if_neg hA, if_pos hle]
        have sB : Riv.shD M L h = .tuple [.int (-Riv.mn (Riv.his L M h)), .int (-Riv.mx (Riv.los L M h))] := by
          unfold Riv.shD
          rw [if_neg (by omega), if_pos (by omega), x1, x2]
        rw [sA, sB] at last ⊢
        generalize Riv.mx (Riv.los L M h) = lo at *
        generalize Riv.mn (Riv.his L M h) = hi at *
        refine seq_same ?_ (seq_same ?_ last)
        · array_get_dec
          simp only [L3.isNon, if_false, Bool.false_eq_true]
          rw [eq_emptyT' (by simp [PyData.plainAll, PyData.plain])]
          array_get_dec
          simp only [List.cons_ne_nil, reduceCtorEq, decide_false, if_false, Bool.false_eq_true, Int.zero_sub]
          rw [ne_pair]
          array_get_dec
          by_cases c1 : lo ≤ 0
          · rw [decide_eq_true c1]
            array_get_dec
            split
            · rename_i c2
              have : (t : Int) ≤ h := by
                have := hk.mpr (hfit.mpr ⟨c1, c2⟩)
                omega
              rw [if_neg (by omega)]
              trivial
            · trivial
          · rw [decide_eq_false c1]
            trivial
        · array_get_dec
          refine ite_no (fun q => by cases q) ?_
          rw [ne_emptyT (by simp [PyData.plainAll, PyData.plain])]
          array_get_dec
          have key : decide ((t : Int) ≤ h) = (decide (lo ≤ 0) && decide (0 ≤ hi)) := by
            rw [Bool.eq_iff_iff, Bool.and_eq_true, decide_eq_true_eq, decide_eq_true_eq, decide_eq_true_eq, ← hfit, ← hk]
            omega
          rw [key]
          simp only [List.cons_ne_nil, reduceCtorEq, decide_false, if_true]
          by_cases c1 : lo ≤ 0
          · simp [c1]
          · simp [c1]
      · have sA : Riv.shD L M h = .tuple [] := by unfold Riv.shD; rw [if_neg hA, if_neg hle]
        have sB : Riv.shD M L h = .tuple [] := by
          unfold Riv.shD
          rw [if_neg (by omega), if_neg (by omega)]
        rw [sA, sB] at last ⊢
        have tgt : ¬ (t : Int) ≤ h := fun q => by
          have := hfit.mp (hk.mp (by omega))
          omega
        refine seq_same ?_ (seq_same ?_ last)
        · array_get_dec
          refine ite_no (fun q => by cases q) ?_
          rw [eq_emptyT' (by simp [PyData.plainAll])]
          array_get_dec
          rw [ne_self (x := .tuple []) (by rw [eqOk_iff]; refine ⟨by simp [PyData.plain, PyData.plainAll], by simp [PyData.plain, PyData.plainAll], by simp [PyData.depth, PyData.depthAll]⟩) (by simp [PyData.eqv, PyData.eqvAll])]
          array_get_dec
        · array_get_dec
          refine ite_no (fun q => by cases q) ?_
          rw [ne_emptyT (by simp [PyData.plainAll])]
          array_get_dec
          rw [decide_eq_false tgt]
          simp
  · rintro ρ' ⟨r, c2, c3, c4, c5, c6, c7, c8, c9, rfl, hr, _⟩
    array_get_dec
theorem pure : ∀ ns : List Int, ns.length ≤ 63 → ∃ outs, f_law [scrD ns] = .ok (.bool true) outs := fun ns _ => by
  obtain ⟨a, o, h1, h2⟩ := (law_wp ns).ex
  exact ⟨o, by rw [h1, h2]⟩
end K79
open PySem PySem.W PyProof.Rows
set_option maxRecDepth 100000 in
set_option maxHeartbeats 8000000 in
open_top hd for PySem.Challenge.rw_chipfloor_k79_whole_turned_rivers
set_option maxHeartbeats 0 in
theorem PySem.Challenge.cw_chipfloor_k79_whole_turned_rivers_holds : PySem.Challenge.rw_chipfloor_k79_whole_turned_rivers.Holds := by
  refine hd (L2.walk_of (l := PySem.Challenge.rw_chipfloor_k79_whole_turned_rivers) (n := 63) (k := 7) (x := "_law_script") (CX := fun w => L2.CX PySem.Challenge.rw_chipfloor_k79_whole_turned_rivers.prog w) (sp := fun w => L3.spD _ (fun _ => none) [false] K79.f_law) rfl (by decide) rfl ⟨rfl, by decide, by decide⟩ (fun w h Y => PySem.W.kIn_of Y) ?F (fun w H a ns hl _ hS => L3.law_sp hS (K79.pure ns hl)) (fun _ _ _ _ _ h => L3.cx_false h))
  case F =>
    intro w mg fa h KX G hmg
    refine' K79.all_mk KX G hmg ?a0 ?l0 ?c0 ?k0 ?a1 ?l1 ?c1 ?k1 ?a2 ?l2 ?c2 ?k2 ?a3 ?l3 ?c3 ?k3 ?a4 ?l4 ?c4 ?k4 ?a5 ?l5 ?c5 ?k5 ?a6 ?l6 ?c6 ?k6 ?a7 ?l7 ?c7 ?k7 ?a8 ?l8 ?c8 ?k8 ?a9 ?l9 ?c9 ?k9 ?a10 ?l10 ?c10 ?k10 ?a11 ?l11 ?c11 ?k11 ?a12 ?l12 ?c12 ?k12 ?a13 ?l13 ?c13 ?k13 ?a14 ?l14 ?c14 ?k14 ?z_int ?z_len ?z_range ?z_sorted ?z_tuple ?z_min ?z_max ?z_isinstance ?z_bool ?z_enumerate ?q_MOST_PINS ?q_MOST_PLACE
    (case a0 => k_is)
    (case l0 => k_is)
    (case c0 => k_is)
    (case k0 => k_is)
    (case a1 => k_is)
    (case l1 => k_is)
    (case c1 => k_is)
    (case k1 => k_is)
    (case a2 => k_is)
    (case l2 => k_is)
    (case c2 => k_is)
    (case k2 => k_is)
    (case a3 => k_is)
    (case l3 => k_is)
    (case c3 => k_is)
    (case k3 => k_is)
    (case a4 => k_is)
    (case l4 => k_is)
    (case c4 => k_is)
    (case k4 => k_is)
    (case a5 => k_is)
    (case l5 => k_is)
    (case c5 => k_is)
    (case k5 => k_is)
    (case a6 => k_is)
    (case l6 => k_is)
    (case c6 => k_is)
    (case k6 => k_is)
    (case a7 => k_is)
    (case l7 => k_is)
    (case c7 => k_is)
    (case k7 => k_is)
    (case a8 => k_is)
    (case l8 => k_is)
    (case c8 => k_is)
    (case k8 => k_is)
    (case a9 => k_is)
    (case l9 => k_is)
    (case c9 => k_is)
    (case k9 => k_is)
    (case a10 => k_is)
    (case l10 => k_is)
    (case c10 => k_is)
    (case k10 => k_is)
    (case a11 => k_is)
    (case l11 => k_is)
    (case c11 => k_is)
    (case k11 => k_is)
    (case a12 => k_is)
    (case l12 => k_is)
    (case c12 => k_is)
    (case k12 => k_is)
    (case a13 => k_is)
    (case l13 => k_is)
    (case c13 => k_is)
    (case k13 => k_is)
    (case a14 => k_is)
    (case l14 => k_is)
    (case c14 => k_is)
    (case k14 => k_is)
    (case z_int => k_is)
    (case z_len => k_is)
    (case z_range => k_is)
    (case z_sorted => k_is)
    (case z_tuple => k_is)
    (case z_min => k_is)
    (case z_max => k_is)
    (case z_isinstance => k_is)
    (case z_bool => k_is)
    (case z_enumerate => k_is)
    (case q_MOST_PINS => k_is)
    (case q_MOST_PLACE => k_is)
