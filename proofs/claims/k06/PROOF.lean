import PyProof.Rows.All
import Wide.All
import OpenK.AllK
import Wide.FinOn
import HandS.ForMost
import HandS.ForExc
import HandS.Deep
import HandS.IsInst
import HandS.Zip
import HandS.Rev
import HandS.DictTup
import HandS.TupAny
import HandS.TupMul
import HandS.Evl
import PyProof.WalkInts
import PyProof.Rows.SumAny
import PySem.Challenge.RW_weavehall_k06_twills_and_satins
set_option Elab.async false
set_option linter.all false
set_option maxRecDepth 100000
set_option maxHeartbeats 4000000
namespace DL
open PySem PySem.Spec PyProof.Rows L2
open Evl (Ex fresh_back)

inductive Res (α : Type) where
  | ok (a : α) | exc (c : Str) | bad
def Res.bind {α β : Type} (r : Res α) (f : α → Res β) : Res β := match r with
  | .ok a => f a
  | .exc c => .exc c
  | .bad => .bad
@[simp] theorem bind_ok {α β : Type} (a : α) (f : α → Res β) : (Res.ok a).bind f = f a := rfl
@[simp] theorem bind_exc {α β : Type} (c : Str) (f : α → Res β) : (Res.exc c : Res α).bind f = .exc c := rfl
@[simp] theorem bind_bad {α β : Type} (f : α → Res β) : (Res.bad : Res α).bind f = .bad := rfl

/-- a slot: nothing known, a value that nobody changes, an object of this frame alone -/
inductive Sl where
  | un | im (d : PyData) | own (d : PyData)
abbrev En := List Sl
abbrev EF := En → Res PyData
abbrev BF := En → Res Bool

/-- a list of the written part -/
def LstK (K : PySem.W.Frag) (a : Addr) (xs : List V) : Prop :=
  ∃ (o : Obj) (its : Array Value) (n : Nat), K.lookup a = some o ∧ o.cls = .type "list" ∧ o.dict = none ∧ o.data = .seq its n ∧ its.size ≤ sizeLine ∧ Vals xs its.toList
/-- the script: a list of ints that the frames know -/
def ScrK (K : PySem.W.Frag) (H : Hp) (a : Addr) (ns : List Int) : Prop := (∃ o, H a = some (.frz o (.lst (ns.map V.int)))) ∨ LstK K a (ns.map V.int)
/-- its data: no dict has such a key -/
def scrE (ns : List Int) : List (PyData × PyData) := (.none, .none) :: ns.map fun n => (.none, .int n)
abbrev scrD (ns : List Int) : PyData := .dict (scrE ns)
def kD : Key → PyData
  | .inl i => .int i
  | .inr s => .str s
def keyD (k : List Key) : PyData := .tuple (k.map kD)

mutual
/-- v bears d; it leads to no list and no dict at an address of O -/
inductive Rp (K : PySem.W.Frag) (H : Hp) (O : List Addr) : V → PyData → Prop
  | non : Rp K H O .non .none
  | bl (b : Bool) : Rp K H O (.bl b) (.bool b)
  | int (i : Int) : Rp K H O (.int i) (.int i)
  | str (x : Str) : Rp K H O (.str x) (.str x)
  | lst {a : Addr} {xs : List V} {ds : List PyData} : H a = some (.lst xs) → a ∉ O → RpA K H O xs ds → Rp K H O (.ref a) (.list ds)
  | tup {a : Addr} {xs : List V} {ds : List PyData} : H a = some (.tup xs) → RpA K H O xs ds → Rp K H O (.ref a) (.tuple ds)
  | dic {a : Addr} {kvs : List (List Key × V)} {es : List (PyData × PyData)} : H a = some (.dT kvs) → a ∉ O → RpD K H O kvs es → Rp K H O (.ref a) (.dict es)
  /-- the law's script -/
  | scr {a : Addr} {ns : List Int} {es : List (PyData × PyData)} : ScrK K H a ns → es = scrE ns → Rp K H O (.ref a) (.dict es)
inductive RpA (K : PySem.W.Frag) (H : Hp) (O : List Addr) : List V → List PyData → Prop
  | nil : RpA K H O [] []
  | cons {v : V} {vs : List V} {d : PyData} {ds : List PyData} : Rp K H O v d → RpA K H O vs ds → RpA K H O (v :: vs) (d :: ds)
inductive RpD (K : PySem.W.Frag) (H : Hp) (O : List Addr) : List (List Key × V) → List (PyData × PyData) → Prop
  | nil : RpD K H O [] []
  | cons {k : List Key} {v : V} {r : List (List Key × V)} {d : PyData} {es : List (PyData × PyData)} : Rp K H O v d → RpD K H O r es → RpD K H O ((k, v) :: r) ((keyD k, d) :: es)
end

section
variable {K : PySem.W.Frag} {H H' : Hp} {O O' : List Addr}
/-- what carries a bearing from one heap to another -/
structure Car (H H' : Hp) (O O' : List Addr) : Prop where
  l : ∀ a xs, H a = some (.lst xs) → a ∉ O → H' a = some (.lst xs) ∧ a ∉ O'
  f : ∀ a o u, H a = some (.frz o u) → H' a = some (.frz o u)
  t : ∀ a xs, H a = some (.tup xs) → H' a = some (.tup xs)
  d : ∀ a kvs, H a = some (.dT kvs) → a ∉ O → H' a = some (.dT kvs) ∧ a ∉ O'

mutual
theorem Rp.car (c : Car H H' O O') : ∀ (d : PyData) (v : V), Rp K H O v d → Rp K H' O' v d
  | _, _, .non => .non
  | _, _, .bl b => .bl b
  | _, _, .int i => .int i
  | _, _, .str x => .str x
  | .list ds, _, .lst h n r => .lst (c.l _ _ h n).1 (c.l _ _ h n).2 (RpA.car c ds _ r)
  | .tuple ds, _, .tup h r => .tup (c.t _ _ h) (RpA.car c ds _ r)
  | .dict es, _, .dic h n r => .dic (c.d _ _ h n).1 (c.d _ _ h n).2 (RpD.car c es _ r)
  | .dict es, _, .scr h e => .scr (h.elim (fun ⟨o, z⟩ => .inl ⟨o, c.f _ _ _ z⟩) .inr) e
theorem RpA.car (c : Car H H' O O') : ∀ (ds : List PyData) (vs : List V), RpA K H O vs ds → RpA K H' O' vs ds
  | _, _, .nil => .nil
  | d :: ds, v :: vs, .cons h r => .cons (Rp.car c d v h) (RpA.car c ds vs r)
theorem RpD.car (c : Car H H' O O') : ∀ (es : List (PyData × PyData)) (kvs : List (List Key × V)), RpD K H O kvs es → RpD K H' O' kvs es
  | _, _, .nil => .nil
  | (_, d) :: es, (_, v) :: r, .cons h q => .cons (Rp.car c d v h) (RpD.car c es r q)
end
end

section
variable {K : PySem.W.Frag} {H H' H1 H2 : Hp} {O O' Ob : List Addr} {v : V} {d : PyData} {vs xs : List V} {ds : List PyData} {a p : Addr}
theorem rd_ex {u : HO} (e : Ex H H') (h : Rd H a u) : Rd H' a u := Evl.ex_rd e h
theorem Car.ex (e : Ex H H') : Car H H' O O := ⟨fun _ _ h n => ⟨e _ _ h, n⟩, fun _ _ _ h => e _ _ h, fun _ _ h => e _ _ h, fun _ _ h n => ⟨e _ _ h, n⟩⟩
theorem Rp.ex (e : Ex H H') (h : Rp K H O v d) : Rp K H' O v d := Rp.car (Car.ex e) d v h
theorem RpA.ex (e : Ex H H') (h : RpA K H O vs ds) : RpA K H' O vs ds := RpA.car (Car.ex e) ds vs h
theorem Car.sub (s : ∀ b ∈ O', b ∈ O) : Car H H O O' := ⟨fun _ _ h n => ⟨h, fun z => n (s _ z)⟩, fun _ _ _ h => h, fun _ _ h => h, fun _ _ h n => ⟨h, fun z => n (s _ z)⟩⟩
theorem Rp.sub (s : ∀ b ∈ O', b ∈ O) (h : Rp K H O v d) : Rp K H O' v d := Rp.car (Car.sub s) d v h
theorem RpA.sub (s : ∀ b ∈ O', b ∈ O) (h : RpA K H O vs ds) : RpA K H O' vs ds := RpA.car (Car.sub s) ds vs h
theorem rd_ne {u : HO} (h : Rd H a u) (n : H p = none) : a ≠ p := by
  rintro rfl
  rcases h with h | ⟨o, h⟩ <;> (rw [n] at h; cases h)
/-- addresses that nothing stands at -/
theorem Car.free (s : ∀ b ∈ O', b ∈ O ∨ H b = none) : Car H H O O' :=
  ⟨fun _ _ h n => ⟨h, fun z => (s _ z).elim n fun q => ne_of_none h q rfl⟩, fun _ _ _ h => h, fun _ _ h => h, fun _ _ h n => ⟨h, fun z => (s _ z).elim n fun q => ne_of_none h q rfl⟩⟩
theorem Rp.free (s : ∀ b ∈ O', b ∈ O ∨ H b = none) (h : Rp K H O v d) : Rp K H O' v d := Rp.car (Car.free s) d v h
theorem RpA.free (s : ∀ b ∈ O', b ∈ O ∨ H b = none) (h : RpA K H O vs ds) : RpA K H O' vs ds := RpA.car (Car.free s) ds vs h
/-- what may be an object of the frame alone -/
def Mu : HO → Prop
  | .lst _ => True
  | .dT _ => True
  | _ => False
theorem Car.mut {o u : HO} (hp : H p = some o) (mu : Mu o) (hO : p ∈ O) : Car H (upd H p u) O O := by
  refine ⟨fun a xs h n => ⟨?_, n⟩, fun a ob v h => ?_, fun a xs h => ?_, fun a xs h n => ⟨?_, n⟩⟩
  · have ne : a ≠ p := fun z => n (z ▸ hO)
    rw [upd_ne ne]
    exact h
  · have ne : a ≠ p := fun z => by
      rw [z, hp] at h
      cases h
      exact mu
    rw [upd_ne ne]
    exact h
  · have ne : a ≠ p := fun z => by
      rw [z, hp] at h
      cases h
      exact mu
    rw [upd_ne ne]
    exact h
  · have ne : a ≠ p := fun z => n (z ▸ hO)
    rw [upd_ne ne]
    exact h
/-- from a heap that does not know the frame's own objects -/
theorem Car.base (e : Ex H H') (s : ∀ b ∈ O', b ∈ O ∨ H b = none) : Car H H' O O' :=
  ⟨fun _ _ h n => ⟨e _ _ h, fun z => (s _ z).elim n fun q => ne_of_none h q rfl⟩, fun _ _ _ h => e _ _ h, fun _ _ h => e _ _ h, fun _ _ h n => ⟨e _ _ h, fun z => (s _ z).elim n fun q => ne_of_none h q rfl⟩⟩

theorem RpA.length : ∀ {vs : List V} {ds : List PyData}, RpA K H O vs ds → vs.length = ds.length
  | _, _, .nil => rfl
  | _, _, .cons _ r => congrArg (· + 1) (RpA.length r)
theorem RpA.get : ∀ {vs : List V} {ds : List PyData} {i : Nat} {d : PyData}, RpA K H O vs ds → ds[i]? = some d → ∃ v, vs[i]? = some v ∧ Rp K H O v d
  | _, _, _, _, .nil, e => by simp at e
  | _, _, 0, _, .cons h _, e => by
    simp at e
    subst e
    exact ⟨_, rfl, h⟩
  | _, _, i + 1, _, .cons _ r, e => by
    obtain ⟨v, h1, h2⟩ := RpA.get (i := i) r (by simpa using e)
    exact ⟨v, by simpa using h1, h2⟩
theorem RpA.getV : ∀ {vs : List V} {ds : List PyData} {i : Nat} {v : V}, RpA K H O vs ds → vs[i]? = some v → ∃ d, ds[i]? = some d ∧ Rp K H O v d
  | _, _, _, _, .nil, e => by simp at e
  | _, _, 0, _, .cons h _, e => by
    simp at e
    subst e
    exact ⟨_, rfl, h⟩
  | _, _, i + 1, _, .cons _ r, e => by
    obtain ⟨v, h1, h2⟩ := RpA.getV (i := i) r (by simpa using e)
    exact ⟨v, by simpa using h1, h2⟩
theorem RpA.append : ∀ {xs ys : List V} {ds es : List PyData}, RpA K H O xs ds → RpA K H O ys es → RpA K H O (xs ++ ys) (ds ++ es)
  | _, _, _, _, .nil, s => s
  | _, _, _, _, .cons h r, s => .cons h (RpA.append r s)
theorem RpA.one (h : Rp K H O v d) : RpA K H O [v] [d] := .cons h .nil
theorem RpA.take : ∀ {xs : List V} {ds : List PyData} (n : Nat), RpA K H O xs ds → RpA K H O (xs.take n) (ds.take n)
  | _, _, 0, _ => .nil
  | _, _, _ + 1, .nil => .nil
  | _, _, n + 1, .cons h r => .cons h (RpA.take n r)
theorem RpA.drop : ∀ {xs : List V} {ds : List PyData} (n : Nat), RpA K H O xs ds → RpA K H O (xs.drop n) (ds.drop n)
  | _, _, 0, r => r
  | _, _, _ + 1, .nil => .nil
  | _, _, n + 1, .cons _ r => RpA.drop n r
theorem RpA.reverse : ∀ {xs : List V} {ds : List PyData}, RpA K H O xs ds → RpA K H O xs.reverse ds.reverse
  | _, _, .nil => .nil
  | _, _, .cons h r => by
    rw [List.reverse_cons, List.reverse_cons]
    exact (RpA.reverse r).append (.one h)
theorem RpA.dropLast : ∀ {xs : List V} {ds : List PyData}, RpA K H O xs ds → RpA K H O xs.dropLast ds.dropLast
  | _, _, .nil => .nil
  | _, _, .cons _ .nil => .nil
  | _, _, .cons h (.cons h2 r) => .cons h (RpA.dropLast (.cons h2 r))
theorem RpA.eraseIdx : ∀ {xs : List V} {ds : List PyData} (n : Nat), RpA K H O xs ds → RpA K H O (xs.eraseIdx n) (ds.eraseIdx n)
  | _, _, _, .nil => .nil
  | _, _, 0, .cons _ r => r
  | _, _, n + 1, .cons h r => .cons h (RpA.eraseIdx n r)
theorem RpA.ints : ∀ {xs : List V} (ns : List Int), RpA K H O xs (ns.map PyData.int) → xs = ns.map V.int
  | _, [], .nil => rfl
  | _, _ :: ns, .cons (.int i) r => by rw [List.map_cons, RpA.ints ns r]
theorem RpA.of_ints : ∀ (ns : List Int), RpA K H O (ns.map V.int) (ns.map PyData.int)
  | [] => .nil
  | i :: ns => .cons (.int i) (RpA.of_ints ns)
theorem RpA.strs : ∀ {xs : List V} (ns : List Str), RpA K H O xs (ns.map PyData.str) → xs = ns.map V.str
  | _, [], .nil => rfl
  | _, _ :: ns, .cons (.str i) r => by rw [List.map_cons, RpA.strs ns r]
theorem RpA.of_strs : ∀ (ns : List Str), RpA K H O (ns.map V.str) (ns.map PyData.str)
  | [] => .nil
  | i :: ns => .cons (.str i) (RpA.of_strs ns)

theorem sqL_of (h : H a = some (.lst xs)) : SqL K H a xs := .inl (.inl h)
theorem ScrK.sq {ns : List Int} (h : ScrK K H a ns) : SqL K H a (ns.map V.int) := h.elim (fun ⟨o, z⟩ => .inl (.inr ⟨o, z⟩)) .inr
theorem sqT_of (h : H a = some (.tup xs)) : SqT K H a xs := .inl (.inl h)
end

/-- beside a new object -/
theorem Car.new {K : PySem.W.Frag} {H : Hp} {O : List Addr} {p : Addr} {o : HO} (n : H p = none) : Car H (upd H p o) O (p :: O) :=
  Car.base (Evl.Ex.new n) fun b hb => (List.mem_cons.mp hb).elim (fun z => .inr (z ▸ n)) .inl
theorem RpA.new {K : PySem.W.Frag} {H : Hp} {O : List Addr} {p : Addr} {o : HO} {vs : List V} {ds : List PyData} (n : H p = none) (h : RpA K H O vs ds) : RpA K (upd H p o) (p :: O) vs ds := RpA.car (Car.new (K := K) n) _ _ h

def Own (K : PySem.W.Frag) (H : Hp) (O : List Addr) (a : Addr) : PyData → Prop
  | .list ds => ∃ xs, H a = some (.lst xs) ∧ RpA K H O xs ds
  | .dict es => ∃ kvs, H a = some (.dT kvs) ∧ RpD K H O kvs es
  | _ => False
section
variable {K : PySem.W.Frag} {H H' H1 H2 : Hp} {O O' Ob : List Addr} {v : V} {d : PyData} {a p : Addr}
theorem Own.mu (h : Own K H O a d) : ∃ o, H a = some o ∧ Mu o := by
  cases d with
  | list ds =>
    obtain ⟨xs, h, _⟩ := h
    exact ⟨_, h, trivial⟩
  | dict es =>
    obtain ⟨xs, h, _⟩ := h
    exact ⟨_, h, trivial⟩
  | _ => exact h.elim
theorem Own.there (h : Own K H O a d) : H a ≠ none := by
  obtain ⟨o, e, _⟩ := h.mu
  rw [e]
  exact fun z => by cases z
theorem Own.car (c : Car H H' O O') (k : ∀ o, Mu o → H a = some o → H' a = some o) (h : Own K H O a d) : Own K H' O' a d := by
  cases d with
  | list ds =>
    obtain ⟨xs, h, r⟩ := h
    exact ⟨xs, k _ trivial h, RpA.car c ds xs r⟩
  | dict es =>
    obtain ⟨kvs, h, r⟩ := h
    exact ⟨kvs, k _ trivial h, RpD.car c es kvs r⟩
  | _ => exact h.elim
theorem Own.ex (e : Ex H H') (h : Own K H O a d) : Own K H' O a d := h.car (Car.ex e) fun _ _ q => e _ _ q
theorem Own.rp (h : Own K H O a d) (n : a ∉ O) : Rp K H O (.ref a) d := by
  cases d with
  | list ds =>
    obtain ⟨xs, h, r⟩ := h
    exact .lst h n r
  | dict es =>
    obtain ⟨kvs, h, r⟩ := h
    exact .dic h n r
  | _ => exact h.elim

inductive Mode where
  | S | E | B
  deriving DecidableEq
/-- strictly: no object of any frame is met; leaving: no object of the callers; lent: it may be an object of the frame itself -/
def RpM (K : PySem.W.Frag) (H : Hp) (O Ob : List Addr) : Mode → V → PyData → Prop
  | .S, v, d => Rp K H O v d
  | .E, v, d => Rp K H Ob v d
  | .B, v, d => Rp K H O v d ∨ ∃ a, v = .ref a ∧ Own K H O a d
def Mode.av (O Ob : List Addr) : Mode → List Addr
  | .E => Ob
  | _ => O
theorem RpM.ex {m : Mode} (e : Ex H H') (h : RpM K H O Ob m v d) : RpM K H' O Ob m v d := by
  cases m with
  | S => exact Rp.ex e h
  | E => exact Rp.ex e h
  | B => exact h.elim (fun z => .inl (z.ex e)) fun ⟨a, r, z⟩ => .inr ⟨a, r, z.ex e⟩
theorem RpM.of_av {m : Mode} (h : Rp K H (m.av O Ob) v d) : RpM K H O Ob m v d := by
  cases m with
  | S => exact h
  | E => exact h
  | B => exact .inl h
theorem RpM.of_S (s : ∀ b ∈ Ob, b ∈ O) {m : Mode} (h : Rp K H O v d) : RpM K H O Ob m v d := by
  cases m with
  | S => exact h
  | E => exact h.sub s
  | B => exact .inl h

def SlR (K : PySem.W.Frag) (H : Hp) (O Ob : List Addr) (ov : Option (Option V)) : Sl → Prop
  | .un => True
  | .im d => ∃ v, ov = some (some v) ∧ Rp K H O v d
  | .own d => ∃ a, ov = some (some (.ref a)) ∧ a ∈ O ∧ a ∉ Ob ∧ Own K H O a d
structure Sls (K : PySem.W.Frag) (H : Hp) (O Ob : List Addr) (σ : L2.St) (ρ : En) : Prop where
  len : ρ.length = σ.length
  at_ : ∀ (i : Nat) (sl : Sl), ρ[i]? = some sl → SlR K H O Ob σ[i]? sl
  dist : ∀ (i j : Nat) (a : Addr) (d e : PyData), ρ[i]? = some (.own d) → ρ[j]? = some (.own e) → σ[i]? = some (some (.ref a)) → σ[j]? = some (some (.ref a)) → i = j
  liv : ∀ b ∈ O, H b ≠ none
  sub : ∀ b ∈ Ob, b ∈ O
  mine : ∀ b ∈ O, b ∈ Ob ∨ ∃ o, H b = some o ∧ Mu o
variable {σ : L2.St} {ρ : En}
theorem SlR.ex {ov : Option (Option V)} {sl : Sl} (e : Ex H H') (h : SlR K H O Ob ov sl) : SlR K H' O Ob ov sl := by
  cases sl with
  | un => trivial
  | im d =>
    obtain ⟨v, h1, h2⟩ := h
    exact ⟨v, h1, h2.ex e⟩
  | own d =>
    obtain ⟨a, h1, h2, h3, h4⟩ := h
    exact ⟨a, h1, h2, h3, h4.ex e⟩
theorem ex_live (e : Ex H H') (h : H p ≠ none) : H' p ≠ none := by
  cases q : H p with
  | none => exact absurd q h
  | some o =>
    rw [e p o q]
    exact fun z => by cases z
theorem Sls.ex (e : Ex H H') (s : Sls K H O Ob σ ρ) : Sls K H' O Ob σ ρ :=
  ⟨s.len, fun i sl h => (s.at_ i sl h).ex e, s.dist, fun b hb => ex_live e (s.liv b hb), s.sub, fun b hb => (s.mine b hb).imp id fun ⟨o, h, mu⟩ => ⟨o, e b o h, mu⟩⟩
theorem Sls.fresh (s : Sls K H O Ob σ ρ) (h : H p = none) : p ∉ O := fun z => s.liv p z h
theorem Sls.fresh_av (s : Sls K H O Ob σ ρ) (h : H p = none) (m : Mode) : p ∉ m.av O Ob := by
  cases m with
  | S => exact s.fresh h
  | E => exact fun z => s.fresh h (s.sub _ z)
  | B => exact s.fresh h
end
end DL
namespace DL
open PySem PySem.Spec PyProof.Rows L2
open Evl (Ex fresh_back)

def ofO {α : Type} : Option α → Res α
  | some a => .ok a
  | none => .bad
@[simp] theorem ofO_some {α : Type} (a : α) : ofO (some a) = .ok a := rfl
@[simp] theorem ofO_none {α : Type} : ofO (none : Option α) = .bad := rfl

def OutE (K : PySem.W.Frag) (mg : Str → Option Value) (W : WX) (m : Mode) (O Ob : List Addr) (σ : L2.St) (H : Hp) (Q : VK) : Res PyData → Prop
  | .ok d => ∀ v H', Ex H H' → RpM K H' O Ob m v d → Q v H'
  | .exc c => ∀ H' C, Ex H H' → mg c = some (.ref C) → W (.ref C) none σ H'
  | .bad => False
def rdE (K : PySem.W.Frag) (mg : Str → Option Value) (W : WX) (m : Mode) (f : EF) : TE := fun σ H Q => ∃ ρ O Ob, Sls K H O Ob σ ρ ∧ OutE K mg W m O Ob σ H Q (f ρ)
def ED (X : Cx) (W : WX) (m : Mode) (e : Expr) (f : EF) : Prop := PE X e (rdE X.K X.mg W m f)
/-- tests -/
def OutB (mg : Str → Option Value) (W : WX) (σ : L2.St) (H : Hp) (Q : Bool → Hp → Prop) : Res Bool → Prop
  | .ok b => ∀ H', Ex H H' → Q b H'
  | .exc c => ∀ H' C, Ex H H' → mg c = some (.ref C) → W (.ref C) none σ H'
  | .bad => False
def rdT (K : PySem.W.Frag) (mg : Str → Option Value) (W : WX) (f : BF) : TT := fun σ H Q => ∃ ρ O Ob, Sls K H O Ob σ ρ ∧ OutB mg W σ H Q (f ρ)
def TD (X : Cx) (W : WX) (e : Expr) (f : BF) : Prop := PT X e (rdT X.K X.mg W f)
def TWD (X : Cx) (W : WX) (e : Expr) (f : BF) : Prop := PW X e (rdT X.K X.mg W f)
/-- argument lists -/
def OutA (K : PySem.W.Frag) (mg : Str → Option Value) (W : WX) (m : Mode) (O Ob : List Addr) (σ : L2.St) (H : Hp) (Q : List V → Hp → Prop) : Res (List PyData) → Prop
  | .ok ds => ∀ vs H', Ex H H' → RpA K H' (m.av O Ob) vs ds → Q vs H'
  | .exc c => ∀ H' C, Ex H H' → mg c = some (.ref C) → W (.ref C) none σ H'
  | .bad => False
abbrev AF := En → Res (List PyData)
def rdA (K : PySem.W.Frag) (mg : Str → Option Value) (W : WX) (m : Mode) (f : AF) : TA := fun σ H Q => ∃ ρ O Ob, Sls K H O Ob σ ρ ∧ OutA K mg W m O Ob σ H Q (f ρ)
def AD (X : Cx) (W : WX) (m : Mode) (es : List Expr) (f : AF) : Prop := PA X es (rdA X.K X.mg W m f)
/-- a new list, a new dict -/
def OutF (K : PySem.W.Frag) (mg : Str → Option Value) (W : WX) (m : Mode) (O Ob : List Addr) (σ : L2.St) (H : Hp) (Q : VK) : Res PyData → Prop
  | .ok d => ∀ a H', H a = none → Ex H H' → Own K H' (a :: m.av O Ob) a d → Q (.ref a) H'
  | .exc c => ∀ H' C, Ex H H' → mg c = some (.ref C) → W (.ref C) none σ H'
  | .bad => False
def rdF (K : PySem.W.Frag) (mg : Str → Option Value) (W : WX) (m : Mode) (f : EF) : TE := fun σ H Q => ∃ ρ O Ob, Sls K H O Ob σ ρ ∧ OutF K mg W m O Ob σ H Q (f ρ)
def FD (X : Cx) (W : WX) (m : Mode) (e : Expr) (f : EF) : Prop := PE X e (rdF X.K X.mg W m f)

section
variable {X : Cx} {W : WX} {m ma mb mc : Mode} {e a b c : Expr} {f fa fb fc : EF} {pos : Pos}
theorem pe_imp {t t' : TE} (h : PE X e t) (i : ∀ σ H Q, t' σ H Q → t σ H Q) : PE X e t' := ⟨fun pins s σ H Q I q => h.run pins s σ H Q I (i _ _ _ q)⟩
theorem pt_imp {t t' : TT} (h : PT X e t) (i : ∀ σ H Q, t' σ H Q → t σ H Q) : PT X e t' := ⟨fun pins s σ H Q I q => h.run pins s σ H Q I (i _ _ _ q)⟩
theorem pw_imp {t t' : TT} (h : PW X e t) (i : ∀ σ H Q, t' σ H Q → t σ H Q) : PW X e t' := ⟨fun w pins s σ H Q I q => h.run w pins s σ H Q I (i _ _ _ q)⟩
theorem pa_imp {es : List Expr} {t t' : TA} (h : PA X es t) (i : ∀ σ H Q, t' σ H Q → t σ H Q) : PA X es t' := ⟨fun w pins s σ H Q I q => h.run w pins s σ H Q I (i _ _ _ q)⟩
/-- what is asked of a frame's objects -/
structure Frm (H : Hp) (O Ob : List Addr) : Prop where
  liv : ∀ b ∈ O, H b ≠ none
  sub : ∀ b ∈ Ob, b ∈ O
theorem Frm.of {K : PySem.W.Frag} {H : Hp} {O Ob : List Addr} {σ : L2.St} {ρ : En} (s : Sls K H O Ob σ ρ) : Frm H O Ob := ⟨s.liv, s.sub⟩
theorem Frm.ex {H H' : Hp} {O Ob : List Addr} (e : Ex H H') (s : Frm H O Ob) : Frm H' O Ob := ⟨fun b hb => ex_live e (s.liv b hb), s.sub⟩
theorem Frm.fresh {H : Hp} {O Ob : List Addr} {p : Addr} (s : Frm H O Ob) (h : H p = none) (m : Mode) : p ∉ m.av O Ob := by
  cases m with
  | S => exact fun z => s.liv p z h
  | E => exact fun z => s.liv p (s.sub _ z) h
  | B => exact fun z => s.liv p z h

/-- FD gives ED -/
theorem FD.ed (h : FD X W m e f) : ED X W m e f := pe_imp h fun σ H Q ⟨ρ, O, Ob, s, o⟩ => ⟨ρ, O, Ob, s, by
  cases q : f ρ with
  | ok d =>
    rw [q] at o
    exact fun a H' n ex ow => o _ H' ex (RpM.of_av (Own.rp (ow.car (Car.sub fun b hb => List.mem_cons_of_mem _ hb) fun _ _ q => q) ((Frm.of s).fresh n m)))
  | exc c =>
    rw [q] at o
    exact o
  | bad =>
    rw [q] at o
    exact o⟩
/-- S serves E and B -/
theorem ED.s (h : ED X W .S e f) : ED X W m e f := pe_imp h fun σ H Q ⟨ρ, O, Ob, s, o⟩ => ⟨ρ, O, Ob, s, by
  cases q : f ρ with
  | ok d =>
    rw [q] at o
    exact fun v H' ex r => o _ H' ex (RpM.of_S s.sub r)
  | exc c =>
    rw [q] at o
    exact o
  | bad =>
    rw [q] at o
    exact o⟩
/-- another function that gives the same -/
theorem ED.eq (h : ED X W m e f) {f' : EF} (i : ∀ ρ, f' ρ = f ρ) : ED X W m e f' := by
  have : f' = f := funext i
  rw [this]
  exact h

def eK (d : PyData) : EF := fun _ => .ok d
def eVar (i : Nat) : EF := fun ρ => match ρ[i]? with
  | some (.im d) => .ok d
  | _ => .bad
/-- lent, or for good at the end -/
def eVarB (i : Nat) : EF := fun ρ => match ρ[i]? with
  | some (.im d) => .ok d
  | some (.own d) => .ok d
  | _ => .bad
theorem d_var {i : Nat} {x : Str} (h : PE X (.Name x pos) (tVar i)) : ED X W m (.Name x pos) (eVar i) := ED.s <| pe_imp h fun σ H Q ⟨ρ, O, Ob, s, o⟩ => by
  unfold eVar at o
  cases q : ρ[i]? with
  | none => simp only [q] at o; exact o.elim
  | some sl =>
    cases sl with
    | un => simp only [q] at o; exact o.elim
    | own d => simp only [q] at o; exact o.elim
    | im d =>
      simp only [q] at o
      obtain ⟨v, h1, h2⟩ := s.at_ i _ q
      exact ⟨v, h1, o v H (Ex.refl H) h2⟩
theorem d_varB {i : Nat} {x : Str} (h : PE X (.Name x pos) (tVar i)) : ED X W .B (.Name x pos) (eVarB i) := pe_imp h fun σ H Q ⟨ρ, O, Ob, s, o⟩ => by
  unfold eVarB at o
  cases q : ρ[i]? with
  | none => simp only [q] at o; exact o.elim
  | some sl =>
    cases sl with
    | un => simp only [q] at o; exact o.elim
    | own d =>
      simp only [q] at o
      obtain ⟨a, h1, h2, h3, h4⟩ := s.at_ i _ q
      exact ⟨_, h1, o _ H (Ex.refl H) (.inr ⟨a, rfl, h4⟩)⟩
    | im d =>
      simp only [q] at o
      obtain ⟨v, h1, h2⟩ := s.at_ i _ q
      exact ⟨v, h1, o v H (Ex.refl H) (.inl h2)⟩
theorem d_varE {i : Nat} {x : Str} (h : PE X (.Name x pos) (tVar i)) : ED X W .E (.Name x pos) (eVarB i) := pe_imp h fun σ H Q ⟨ρ, O, Ob, s, o⟩ => by
  unfold eVarB at o
  cases q : ρ[i]? with
  | none => simp only [q] at o; exact o.elim
  | some sl =>
    cases sl with
    | un => simp only [q] at o; exact o.elim
    | own d =>
      simp only [q] at o
      obtain ⟨a, h1, h2, h3, h4⟩ := s.at_ i _ q
      refine ⟨_, h1, o _ H (Ex.refl H) (Own.rp (h4.car (Car.sub s.sub) fun _ _ z => z) h3)⟩
    | im d =>
      simp only [q] at o
      obtain ⟨v, h1, h2⟩ := s.at_ i _ q
      exact ⟨v, h1, o v H (Ex.refl H) (h2.sub s.sub)⟩
theorem d_c {v : V} {d : PyData} (h : PE X e (tC v)) (r : ∀ K H O, Rp K H O v d) : ED X W m e (eK d) := pe_imp h fun σ H Q ⟨ρ, O, Ob, s, o⟩ => o v H (Ex.refl H) (RpM.of_av (r _ _ _))
theorem d_int {i : Int} {j : Nat} : ED X W m (.Constant (.int i) j pos) (eK (.int i)) := d_c pe_int fun _ _ _ => .int i
theorem d_str {x : Str} {j : Nat} : ED X W m (.Constant (.str x) j pos) (eK (.str x)) := d_c pe_str fun _ _ _ => .str x
theorem d_bl {x : Bool} {j : Nat} : ED X W m (.Constant (.bool x) j pos) (eK (.bool x)) := d_c pe_bl fun _ _ _ => .bl x
theorem d_non {j : Nat} : ED X W m (.Constant .none j pos) (eK .none) := d_c pe_non fun _ _ _ => .non
/-- a number of the module's top -/
theorem d_gint {x : Str} {i : Int} {t : Tok} (hg : Gl X x) (hm : X.mg x = some (.int i t)) (hd : (x == ("__debug__" : Str)) = false := by decide) : ED X W m (.Name x pos) (eK (.int i)) := d_c (v := .int i) (pe_glob hg hm ⟨t, rfl⟩ hd) fun _ _ _ => .int i

def eOp2 (g : PyData → PyData → Option PyData) (fa fb : EF) : EF := fun ρ => (fa ρ).bind fun d => (fb ρ).bind fun d' => ofO (g d d')
def eOp1 (g : PyData → Option PyData) (fa : EF) : EF := fun ρ => (fa ρ).bind fun d => ofO (g d)
/-- two expressions, then an operation -/
theorem d_op2 {r : R2} {g : PyData → PyData → Option PyData} (ha : ED X W ma a fa) (hb : ED X W mb b fb) (h : ∀ {ta tb : TE}, PE X a ta → PE X b tb → PE X e (tOp r ta tb))
    (hr : ∀ (x y : V) (d d' z : PyData) (H : Hp) (O Ob : List Addr) (Q : VK), Frm H O Ob → RpM X.K H O Ob ma x d → RpM X.K H O Ob mb y d' → g d d' = some z → (∀ v H', Ex H H' → RpM X.K H' O Ob m v z → Q v H') → r x y H Q) :
    ED X W m e (eOp2 g fa fb) := pe_imp (h ha hb) fun σ H Q ⟨ρ, O, Ob, s, o⟩ => by
  refine ⟨ρ, O, Ob, s, ?_⟩
  unfold eOp2 at o
  cases qa : fa ρ with
  | bad => simp only [qa] at o; exact o.elim
  | exc c => simp only [qa] at o; exact o
  | ok d =>
    simp only [qa, bind_ok] at o
    intro x H1 e1 r1
    refine ⟨ρ, O, Ob, s.ex e1, ?_⟩
    cases qb : fb ρ with
    | bad => simp only [qb] at o; exact o.elim
    | exc c =>
      simp only [qb] at o
      exact fun H' C e2 hC => o H' C (e1.trans e2) hC
    | ok d' =>
      simp only [qb, bind_ok] at o
      intro y H2 e2 r2
      cases qz : g d d' with
      | none => rw [qz] at o; exact o.elim
      | some z =>
        rw [qz] at o
        exact hr x y d d' z H2 O Ob Q ((Frm.of s).ex (e1.trans e2)) (r1.ex e2) r2 qz fun v H' e3 r3 => o v H' ((e1.trans e2).trans e3) r3
/-- the same where the answer is a new object -/
theorem f_op2 {r : R2} {g : PyData → PyData → Option PyData} (ha : ED X W ma a fa) (hb : ED X W mb b fb) (h : ∀ {ta tb : TE}, PE X a ta → PE X b tb → PE X e (tOp r ta tb))
    (hr : ∀ (x y : V) (d d' z : PyData) (H : Hp) (O Ob : List Addr) (Q : VK), Frm H O Ob → RpM X.K H O Ob ma x d → RpM X.K H O Ob mb y d' → g d d' = some z → (∀ p H', H p = none → Ex H H' → Own X.K H' (p :: m.av O Ob) p z → Q (.ref p) H') → r x y H Q) :
    FD X W m e (eOp2 g fa fb) := pe_imp (h ha hb) fun σ H Q ⟨ρ, O, Ob, s, o⟩ => by
  refine ⟨ρ, O, Ob, s, ?_⟩
  unfold eOp2 at o
  cases qa : fa ρ with
  | bad => simp only [qa] at o; exact o.elim
  | exc c => simp only [qa] at o; exact o
  | ok d =>
    simp only [qa, bind_ok] at o
    intro x H1 e1 r1
    refine ⟨ρ, O, Ob, s.ex e1, ?_⟩
    cases qb : fb ρ with
    | bad => simp only [qb] at o; exact o.elim
    | exc c =>
      simp only [qb] at o
      exact fun H' C e2 hC => o H' C (e1.trans e2) hC
    | ok d' =>
      simp only [qb, bind_ok] at o
      intro y H2 e2 r2
      cases qz : g d d' with
      | none => rw [qz] at o; exact o.elim
      | some z =>
        rw [qz] at o
        exact hr x y d d' z H2 O Ob Q ((Frm.of s).ex (e1.trans e2)) (r1.ex e2) r2 qz fun p H' n e3 r3 => o p H' (fresh_back (e1.trans e2) n) ((e1.trans e2).trans e3) r3
theorem d_op1 {r : V → Hp → VK → Prop} {g : PyData → Option PyData} (ha : ED X W ma a fa) (h : ∀ {ta : TE}, PE X a ta → PE X e (fun σ H Q => ta σ H fun x H1 => r x H1 Q))
    (hr : ∀ (x : V) (d z : PyData) (H : Hp) (O Ob : List Addr) (Q : VK), Frm H O Ob → RpM X.K H O Ob ma x d → g d = some z → (∀ v H', Ex H H' → RpM X.K H' O Ob m v z → Q v H') → r x H Q) :
    ED X W m e (eOp1 g fa) := pe_imp (h ha) fun σ H Q ⟨ρ, O, Ob, s, o⟩ => by
  refine ⟨ρ, O, Ob, s, ?_⟩
  unfold eOp1 at o
  cases qa : fa ρ with
  | bad => simp only [qa] at o; exact o.elim
  | exc c => simp only [qa] at o; exact o
  | ok d =>
    simp only [qa, bind_ok] at o
    intro x H1 e1 r1
    cases qz : g d with
    | none => rw [qz] at o; exact o.elim
    | some z =>
      rw [qz] at o
      exact hr x d z H1 O Ob Q ((Frm.of s).ex e1) r1 qz fun v H' e3 r3 => o v H' (e1.trans e3) r3
theorem f_op1 {r : V → Hp → VK → Prop} {g : PyData → Option PyData} (ha : ED X W ma a fa) (h : ∀ {ta : TE}, PE X a ta → PE X e (fun σ H Q => ta σ H fun x H1 => r x H1 Q))
    (hr : ∀ (x : V) (d z : PyData) (H : Hp) (O Ob : List Addr) (Q : VK), Frm H O Ob → RpM X.K H O Ob ma x d → g d = some z → (∀ p H', H p = none → Ex H H' → Own X.K H' (p :: m.av O Ob) p z → Q (.ref p) H') → r x H Q) :
    FD X W m e (eOp1 g fa) := pe_imp (h ha) fun σ H Q ⟨ρ, O, Ob, s, o⟩ => by
  refine ⟨ρ, O, Ob, s, ?_⟩
  unfold eOp1 at o
  cases qa : fa ρ with
  | bad => simp only [qa] at o; exact o.elim
  | exc c => simp only [qa] at o; exact o
  | ok d =>
    simp only [qa, bind_ok] at o
    intro x H1 e1 r1
    cases qz : g d with
    | none => rw [qz] at o; exact o.elim
    | some z =>
      rw [qz] at o
      exact hr x d z H1 O Ob Q ((Frm.of s).ex e1) r1 qz fun p H' n e3 r3 => o p H' (fresh_back e1 n) (e1.trans e3) r3
end
end DL
namespace DL
open PySem PySem.Spec PyProof.Rows L2
open Evl (Ex fresh_back)

/-- more than any list here, less than the model's line -/
abbrev lim : Nat := 1000000
theorem lim_line {n : Nat} (h : n ≤ lim) : n ≤ sizeLine := Nat.le_trans h (by decide)
theorem lim_lt {n : Nat} (h : n < lim) : n < sizeLine := Nat.lt_of_lt_of_le h (by decide)

section
variable {K : PySem.W.Frag} {H : Hp} {O Ob : List Addr} {m : Mode} {x : V}
theorem rpm_int {i : Int} (h : RpM K H O Ob m x (.int i)) : x = .int i := by
  cases m with
  | S => cases h; rfl
  | E => cases h; rfl
  | B =>
    rcases h with h | ⟨a, _, h⟩
    · cases h; rfl
    · exact h.elim
theorem rpm_bl {b : Bool} (h : RpM K H O Ob m x (.bool b)) : x = .bl b := by
  cases m with
  | S => cases h; rfl
  | E => cases h; rfl
  | B =>
    rcases h with h | ⟨a, _, h⟩
    · cases h; rfl
    · exact h.elim
theorem rpm_str {b : Str} (h : RpM K H O Ob m x (.str b)) : x = .str b := by
  cases m with
  | S => cases h; rfl
  | E => cases h; rfl
  | B =>
    rcases h with h | ⟨a, _, h⟩
    · cases h; rfl
    · exact h.elim
theorem rpm_non (h : RpM K H O Ob m x .none) : x = .non := by
  cases m with
  | S => cases h; rfl
  | E => cases h; rfl
  | B =>
    rcases h with h | ⟨a, _, h⟩
    · cases h; rfl
    · exact h.elim
theorem rpm_lst {ds : List PyData} (h : RpM K H O Ob m x (.list ds)) : ∃ a xs, x = .ref a ∧ H a = some (.lst xs) ∧ RpA K H (m.av O Ob) xs ds := by
  cases m with
  | S =>
    cases h with
    | lst h n r => exact ⟨_, _, rfl, h, r⟩
  | E =>
    cases h with
    | lst h n r => exact ⟨_, _, rfl, h, r⟩
  | B =>
    rcases h with h | ⟨a, rfl, xs, h, r⟩
    · cases h with
      | lst h n r => exact ⟨_, _, rfl, h, r⟩
    · exact ⟨a, xs, rfl, h, r⟩
theorem rpm_tup {ds : List PyData} (h : RpM K H O Ob m x (.tuple ds)) : ∃ a xs, x = .ref a ∧ H a = some (.tup xs) ∧ RpA K H (m.av O Ob) xs ds := by
  cases m with
  | S =>
    cases h with
    | tup h r => exact ⟨_, _, rfl, h, r⟩
  | E =>
    cases h with
    | tup h r => exact ⟨_, _, rfl, h, r⟩
  | B =>
    rcases h with h | ⟨a, _, h⟩
    · cases h with
      | tup h r => exact ⟨_, _, rfl, h, r⟩
    · exact h.elim
/-- a dict, and not the script -/
def okD : List (PyData × PyData) → Bool
  | (.none, _) :: _ => false
  | _ => true
theorem rpm_dic {es : List (PyData × PyData)} (k : okD es = true) (h : RpM K H O Ob m x (.dict es)) : ∃ a kvs, x = .ref a ∧ H a = some (.dT kvs) ∧ RpD K H (m.av O Ob) kvs es := by
  cases m with
  | S =>
    cases h with
    | dic h _ r => exact ⟨_, _, rfl, h, r⟩
    | scr h e => subst e; cases k
  | E =>
    cases h with
    | dic h _ r => exact ⟨_, _, rfl, h, r⟩
    | scr h e => subst e; cases k
  | B =>
    rcases h with h | ⟨a, rfl, xs, h, r⟩
    · cases h with
      | dic h _ r => exact ⟨_, _, rfl, h, r⟩
      | scr h e => subst e; cases k
    · exact ⟨a, xs, rfl, h, r⟩
theorem scrE_inj : ∀ {ms ns : List Int}, scrE ms = scrE ns → ms = ns := by
  have go : ∀ (ms ns : List Int), (ms.map fun n => ((PyData.none, PyData.int n) : PyData × PyData)) = (ns.map fun n => (PyData.none, PyData.int n)) → ms = ns := by
    intro ms
    induction ms with
    | nil => intro ns e; cases ns with
      | nil => rfl
      | cons n r => cases e
    | cons m r ih => intro ns e; cases ns with
      | nil => cases e
      | cons n q =>
        rw [List.map_cons, List.map_cons] at e
        injection e with e1 e2
        injection e1 with _ e1
        injection e1 with e1
        rw [e1, ih q e2]
  intro ms ns e
  unfold scrE at e
  injection e with _ e
  exact go ms ns e
theorem rp_scr {d : PyData} {ns : List Int} (h : Rp K H O x d) (e : d = scrD ns) : ∃ a, x = .ref a ∧ SqL K H a (ns.map V.int) := by
  cases h with
  | dic h n r =>
    injection e with e
    subst e
    cases r
  | scr h e2 =>
    injection e with e
    have e3 := scrE_inj (e2.symm.trans e)
    subst e3
    exact ⟨_, rfl, h.sq⟩
  | _ => cases e
theorem rpm_scr {ns : List Int} (h : RpM K H O Ob m x (scrD ns)) : ∃ a, x = .ref a ∧ SqL K H a (ns.map V.int) := by
  cases m with
  | S => exact rp_scr h rfl
  | E => exact rp_scr h rfl
  | B =>
    rcases h with h | ⟨a, rfl, xs, h, r⟩
    · exact rp_scr h rfl
    · cases r
/-- an item, taken out of something lent or of something that may leave -/
theorem RpM.item {d : PyData} (F : Frm H O Ob) {mx m : Mode} (c : mx = .E → m = .E) (h : Rp K H (mx.av O Ob) x d) : RpM K H O Ob m x d := by
  cases mx with
  | S => exact RpM.of_S F.sub h
  | B => exact RpM.of_S F.sub h
  | E => rw [c rfl]; exact h
end

section
variable {X : Cx} {W : WX} {m ma mb mc : Mode} {e a b c : Expr} {f fa fb fc : EF} {pos : Pos}

def g2I (p : Int → Int → Bool) (g : Int → Int → PyData) : PyData → PyData → Option PyData
  | .int i, .int j => if p i j then some (g i j) else none
  | _, _ => none
theorem g2I_some {p : Int → Int → Bool} {g : Int → Int → PyData} {d d' z : PyData} (h : g2I p g d d' = some z) : ∃ i j, d = .int i ∧ d' = .int j ∧ p i j = true ∧ z = g i j := by
  unfold g2I at h
  split at h
  · split at h
    · rename_i i j q
      exact ⟨i, j, rfl, rfl, q, (Option.some.inj h).symm⟩
    · cases h
  · cases h
def gSubI : PyData → PyData → Option PyData := g2I (fun _ _ => true) fun i j => .int (i - j)
theorem d_sub (ha : ED X W ma a fa) (hb : ED X W mb b fb) : ED X W m (.BinOp a .Sub b pos) (eOp2 gSubI fa fb) :=
  d_op2 ha hb (fun h1 h2 => pe_op op_sub h1 h2) fun x y d d' z H O Ob Q F r1 r2 qz o => by
    obtain ⟨i, j, rfl, rfl, _, rfl⟩ := g2I_some qz
    exact ⟨i, j, rpm_int r1, rpm_int r2, o _ H (Ex.refl H) (RpM.of_av (.int _))⟩
/-- one factor within 64 bits -/
def smallI (i : Int) : Bool := decide (-(2 ^ 64) < i) && decide (i < 2 ^ 64)
def gMul : PyData → PyData → Option PyData := g2I (fun i j => smallI i || smallI j) fun i j => .int (i * j)
theorem d_mul (ha : ED X W ma a fa) (hb : ED X W mb b fb) : ED X W m (.BinOp a .Mult b pos) (eOp2 gMul fa fb) :=
  d_op2 ha hb (fun h1 h2 => pe_op op_mul h1 h2) fun x y d d' z H O Ob Q F r1 r2 qz o => by
    obtain ⟨i, j, rfl, rfl, q, rfl⟩ := g2I_some qz
    refine ⟨i, j, rpm_int r1, rpm_int r2, ?_, o _ H (Ex.refl H) (RpM.of_av (.int _))⟩
    rcases Bool.or_eq_true_iff.mp q with q | q
    · have q' := Bool.and_eq_true_iff.mp q
      exact .inl ⟨of_decide_eq_true q'.1, of_decide_eq_true q'.2⟩
    · have q' := Bool.and_eq_true_iff.mp q
      exact .inr ⟨of_decide_eq_true q'.1, of_decide_eq_true q'.2⟩
def gMod : PyData → PyData → Option PyData := g2I (fun _ j => decide (0 < j)) fun i j => .int (i % j)
theorem d_mod (ha : ED X W ma a fa) (hb : ED X W mb b fb) : ED X W m (.BinOp a .Mod b pos) (eOp2 gMod fa fb) :=
  d_op2 ha hb (fun h1 h2 => pe_op op_mod h1 h2) fun x y d d' z H O Ob Q F r1 r2 qz o => by
    obtain ⟨i, j, rfl, rfl, q, rfl⟩ := g2I_some qz
    exact ⟨i, j, rpm_int r1, rpm_int r2, of_decide_eq_true q, o _ H (Ex.refl H) (RpM.of_av (.int _))⟩
def gDiv : PyData → PyData → Option PyData := g2I (fun _ j => decide (0 < j) && decide (j < 1073741824)) fun i j => .int (i / j)
theorem d_fdiv (ha : ED X W ma a fa) (hb : ED X W mb b fb) : ED X W m (.BinOp a .FloorDiv b pos) (eOp2 gDiv fa fb) :=
  d_op2 ha hb (fun h1 h2 => pe_op op_fdiv h1 h2) fun x y d d' z H O Ob Q F r1 r2 qz o => by
    obtain ⟨i, j, rfl, rfl, q, rfl⟩ := g2I_some qz
    have q' := Bool.and_eq_true_iff.mp q
    exact ⟨i, j, rpm_int r1, rpm_int r2, ⟨of_decide_eq_true q'.1, of_decide_eq_true q'.2⟩, o _ H (Ex.refl H) (RpM.of_av (.int _))⟩
def gPow : PyData → PyData → Option PyData := g2I (fun i j => decide (0 ≤ j) && decide (j ≤ 1000000) && decide (i.natAbs < 2 ^ 64)) fun i j => .int (i ^ j.toNat)
theorem d_pow (ha : ED X W ma a fa) (hb : ED X W mb b fb) : ED X W m (.BinOp a .Pow b pos) (eOp2 gPow fa fb) :=
  d_op2 ha hb (fun h1 h2 => pe_op op_pow h1 h2) fun x y d d' z H O Ob Q F r1 r2 qz o => by
    obtain ⟨i, j, rfl, rfl, q, rfl⟩ := g2I_some qz
    have q1 := Bool.and_eq_true_iff.mp q
    have q2 := Bool.and_eq_true_iff.mp q1.1
    exact ⟨i, j, rpm_int r1, rpm_int r2, ⟨of_decide_eq_true q2.1, of_decide_eq_true q2.2, of_decide_eq_true q1.2⟩, o _ H (Ex.refl H) (RpM.of_av (.int _))⟩
def gNeg : PyData → Option PyData
  | .int i => some (.int (-i))
  | _ => none
theorem d_neg (ha : ED X W ma a fa) : ED X W m (.UnaryOp .USub a pos) (eOp1 gNeg fa) :=
  d_op1 ha (fun h => pe_un un_neg h) fun x d z H O Ob Q F r qz o => by
    cases d with
    | int i =>
      cases qz
      exact ⟨i, rpm_int r, o _ H (Ex.refl H) (RpM.of_av (.int _))⟩
    | _ => cases qz

def gAdd : PyData → PyData → Option PyData
  | .int i, .int j => some (.int (i + j))
  | .list xs, .list ys => if xs.length + ys.length ≤ lim then some (.list (xs ++ ys)) else none
  | .tuple xs, .tuple ys => if xs.length + ys.length ≤ lim then some (.tuple (xs ++ ys)) else none
  | .str a, .str b => if a.length + b.length ≤ lim then some (.str (a ++ b)) else none
  | _, _ => none
theorem d_add (ha : ED X W ma a fa) (hb : ED X W mb b fb) (cm : ma = mb) (ce : m = .E ↔ ma = .E) : ED X W m (.BinOp a .Add b pos) (eOp2 gAdd fa fb) := by
  subst cm
  refine d_op2 ha hb (fun h1 h2 => pe_op (((op_add.or op_cat).or op_catA).or op_add_str) h1 h2) fun x y d d' z H O Ob Q F r1 r2 qz o => ?_
  have av : m.av O Ob = ma.av O Ob := by
    cases m <;> cases ma <;> first | rfl | (exact nomatch ce.mp rfl) | (exact nomatch ce.mpr rfl)
  unfold gAdd at qz
  split at qz
  · cases qz
    exact .inl (.inl (.inl ⟨_, _, rpm_int r1, rpm_int r2, o _ H (Ex.refl H) (RpM.of_av (.int _))⟩))
  · split at qz
    · rename_i xs ys hl
      cases qz
      obtain ⟨p, us, rfl, hp, q1⟩ := rpm_lst r1
      obtain ⟨q, ws, rfl, hq, q2⟩ := rpm_lst r2
      refine .inl (.inl (.inr ⟨p, q, us, ws, rfl, rfl, hp, hq, lim_line (by rw [q1.length, q2.length]; exact hl), fun n hn => ?_⟩))
      have ex : Ex H (upd H n (.lst (us ++ ws))) := Evl.Ex.new hn
      exact o _ _ ex (RpM.of_av (.lst upd_same (F.fresh hn m) (av ▸ (q1.append q2).ex ex)))
    · cases qz
  · split at qz
    · rename_i xs ys hl
      cases qz
      obtain ⟨p, us, rfl, hp, q1⟩ := rpm_tup r1
      obtain ⟨q, ws, rfl, hq, q2⟩ := rpm_tup r2
      refine .inl (.inr ⟨p, q, us, ws, rfl, rfl, sqT_of hp, sqT_of hq, lim_line (by rw [q1.length, q2.length]; exact hl), fun e => ?_, fun _ e => ?_, fun _ _ n hn => ?_⟩)
      · subst e
        refine o _ H (Ex.refl H) (RpM.of_av (.tup hq (av ▸ ?_)))
        have := q1.append q2
        exact this
      · subst e
        refine o _ H (Ex.refl H) (RpM.of_av (.tup hp (av ▸ ?_)))
        have := q1.append q2
        rw [List.append_nil] at this
        exact this
      · have ex : Ex H (upd H n (.tup (us ++ ws))) := Evl.Ex.new hn
        exact o _ _ ex (RpM.of_av (.tup upd_same (av ▸ (q1.append q2).ex ex)))
    · cases qz
  · split at qz
    · rename_i u w hl
      cases qz
      exact .inr ⟨_, _, rpm_str r1, rpm_str r2, lim_line hl, o _ H (Ex.refl H) (RpM.of_av (.str _))⟩
    · cases qz
  · cases qz
end
end DL
namespace DL
open PySem PySem.Spec PyProof.Rows L2
open Evl (Ex fresh_back)

section
variable {K : PySem.W.Frag} {H : Hp} {O Ob : List Addr} {m : Mode}
mutual
theorem rp_dp : ∀ (d : PyData) (v : V), Rp K H O v d → d.canLay0 = true → Dp K H v d
  | _, _, .non, _ => .non
  | _, _, .bl b, _ => .bl b
  | _, _, .int i, _ => .int i
  | _, _, .str x, _ => .str x
  | .list ds, _, .lst h n r, c => .lst (sqL_of h) (rp_dpA ds _ r c)
  | .tuple ds, _, .tup h r, c => .tup (sqT_of h) (rp_dpA ds _ r c)
  | .dict _, _, _, c => by simp [PyData.canLay0] at c
theorem rp_dpA : ∀ (ds : List PyData) (vs : List V), RpA K H O vs ds → PyData.canLayAll0 ds = true → DpAll K H vs ds
  | _, _, .nil, _ => .nil
  | d :: ds, v :: vs, .cons h r, c => by
    have c' := Bool.and_eq_true_iff.mp (show (d.canLay0 && PyData.canLayAll0 ds) = true from c)
    exact .cons (rp_dp d v h c'.1) (rp_dpA ds vs r c'.2)
end
theorem rpm_dp {d : PyData} {v : V} (h : RpM K H O Ob m v d) (c : d.canLay0 = true) : Dp K H v d := by
  cases m with
  | S => exact rp_dp d v h c
  | E => exact rp_dp d v h c
  | B =>
    rcases h with h | ⟨a, rfl, h⟩
    · exact rp_dp d v h c
    · cases d with
      | list ds =>
        obtain ⟨xs, h, r⟩ := h
        exact .lst (sqL_of h) (rp_dpA ds _ r c)
      | dict es => simp [PyData.canLay0] at c
      | _ => exact h.elim
end

/-- an operator's comparison of data -/
def CmpR (X : Cx) (op : CmpOp) (ma mb : Mode) (c : PyData → PyData → Option Bool) : Prop :=
  ∃ r : R2, OpR X (compareOp op) r ∧ ∀ (x y : V) (d d' : PyData) (b : Bool) (H : Hp) (O Ob : List Addr) (Q : VK), Frm H O Ob → RpM X.K H O Ob ma x d → RpM X.K H O Ob mb y d' → c d d' = some b → Q (.bl b) H → r x y H Q
def eCmp (k : PyData → PyData → Option Bool) (fa fb : EF) : EF := eOp2 (fun d d' => (k d d').map .bool) fa fb
def bCmp (k : PyData → PyData → Option Bool) (fa fb : EF) : BF := fun ρ => (fa ρ).bind fun d => (fb ρ).bind fun d' => ofO (k d d')
section
variable {X : Cx} {W : WX} {m ma mb mc : Mode} {e a b c : Expr} {f fa fb fc : EF} {pos : Pos} {op op' : CmpOp} {k k' : PyData → PyData → Option Bool}
theorem d_cmp (h : CmpR X op ma mb k) (ha : ED X W ma a fa) (hb : ED X W mb b fb) (hm : behindInMarks op b = false) :
    ED X W m (.Compare a [op] [b] pos) (eCmp k fa fb) := by
  obtain ⟨r, ho, hr⟩ := h
  refine d_op2 ha hb (fun h1 h2 => pe_cmpR ho h1 h2 hm) fun x y d d' z H O Ob Q F r1 r2 qz o => ?_
  cases q : k d d' with
  | none => rw [q] at qz; cases qz
  | some b =>
    rw [q] at qz
    cases qz
    exact hr x y d d' b H O Ob Q F r1 r2 q (o _ H (Ex.refl H) (RpM.of_av (.bl b)))
/-- a comparison as a test -/
theorem t_cmp (h : CmpR X op ma mb k) (ha : ED X W ma a fa) (hb : ED X W mb b fb) (hm : behindInMarks op b = false) :
    TD X W (.Compare a [op] [b] pos) (bCmp k fa fb) := by
  obtain ⟨r, ho, hr⟩ := h
  refine pt_imp (pt_cmpR ho ha hb hm) fun σ H Q ⟨ρ, O, Ob, s, o⟩ => ?_
  refine ⟨ρ, O, Ob, s, ?_⟩
  unfold bCmp at o
  cases qa : fa ρ with
  | bad => simp only [qa] at o; exact o.elim
  | exc c => simp only [qa] at o; exact o
  | ok d =>
    simp only [qa, bind_ok] at o
    intro x H1 e1 r1
    refine ⟨ρ, O, Ob, s.ex e1, ?_⟩
    cases qb : fb ρ with
    | bad => simp only [qb] at o; exact o.elim
    | exc c =>
      simp only [qb] at o
      exact fun H' C e2 hC => o H' C (e1.trans e2) hC
    | ok d' =>
      simp only [qb, bind_ok] at o
      intro y H2 e2 r2
      cases qz : k d d' with
      | none => rw [qz] at o; exact o.elim
      | some z =>
        rw [qz] at o
        exact hr x y d d' z H2 O Ob _ ((Frm.of s).ex (e1.trans e2)) (r1.ex e2) r2 qz ⟨z, rfl, o H2 (e1.trans e2)⟩
/-- a op b op' c -/
def fChain (k k' : PyData → PyData → Option Bool) (fa fb fc : EF) : BF := fun ρ => (fa ρ).bind fun d => (fb ρ).bind fun d' => (ofO (k d d')).bind fun b =>
  if b = true then (fc ρ).bind fun d'' => ofO (k' d' d'') else .ok false
theorem chain_core {r r' : R2} (ha : ED X W ma a fa) (hb : ED X W mb b fb) (hc : ED X W mc c fc)
    (hr : ∀ (x y : V) (d d' : PyData) (b : Bool) (H : Hp) (O Ob : List Addr) (Q : VK), Frm H O Ob → RpM X.K H O Ob ma x d → RpM X.K H O Ob mb y d' → k d d' = some b → Q (.bl b) H → r x y H Q)
    (hr' : ∀ (x y : V) (d d' : PyData) (b : Bool) (H : Hp) (O Ob : List Addr) (Q : VK), Frm H O Ob → RpM X.K H O Ob mb x d → RpM X.K H O Ob mc y d' → k' d d' = some b → Q (.bl b) H → r' x y H Q)
    {σ : L2.St} {H : Hp} {ρ : En} {O Ob : List Addr} (s : Sls X.K H O Ob σ ρ) (Q : Bool → Hp → Prop) (Qv : VK) (hq : ∀ b H', Q b H' → Qv (.bl b) H') (o : OutB X.mg W σ H Q (fChain k k' fa fb fc ρ)) :
    tChain r r' (rdE X.K X.mg W ma fa) (rdE X.K X.mg W mb fb) (rdE X.K X.mg W mc fc) σ H Qv := by
  refine ⟨ρ, O, Ob, s, ?_⟩
  unfold fChain at o
  cases qa : fa ρ with
  | bad => simp only [qa] at o; exact o.elim
  | exc c => simp only [qa] at o; exact o
  | ok d =>
    simp only [qa, bind_ok] at o
    intro x H1 e1 r1
    refine ⟨ρ, O, Ob, s.ex e1, ?_⟩
    cases qb : fb ρ with
    | bad => simp only [qb] at o; exact o.elim
    | exc c =>
      simp only [qb] at o
      exact fun H' C e2 hC => o H' C (e1.trans e2) hC
    | ok d' =>
      simp only [qb, bind_ok] at o
      intro y H2 e2 r2
      cases qz : k d d' with
      | none => rw [qz] at o; exact o.elim
      | some z =>
        rw [qz] at o
        refine hr x y d d' z H2 O Ob _ ((Frm.of s).ex (e1.trans e2)) (r1.ex e2) r2 qz ⟨z, rfl, ?_⟩
        cases z with
        | false => exact hq _ _ (o H2 (e1.trans e2))
        | true =>
          refine ⟨ρ, O, Ob, s.ex (e1.trans e2), ?_⟩
          simp only [ofO_some, bind_ok, if_pos rfl] at o
          cases qc : fc ρ with
          | bad => simp only [qc] at o; exact o.elim
          | exc c =>
            simp only [qc] at o
            exact fun H' C e3 hC => o H' C ((e1.trans e2).trans e3) hC
          | ok d'' =>
            simp only [qc, bind_ok] at o
            intro w H3 e3 r3
            cases qy : k' d' d'' with
            | none => rw [qy] at o; exact o.elim
            | some b =>
              rw [qy] at o
              exact hr' y w d' d'' b H3 O Ob _ ((Frm.of s).ex ((e1.trans e2).trans e3)) (r2.ex e3) r3 qy (hq _ _ (o H3 ((e1.trans e2).trans e3)))
theorem t_chain (h : CmpR X op ma mb k) (h' : CmpR X op' mb mc k') (ha : ED X W ma a fa) (hb : ED X W mb b fb) (hc : ED X W mc c fc) (hm : lastMarks [op, op'] [b, c] = false) :
    TD X W (.Compare a [op, op'] [b, c] pos) (fChain k k' fa fb fc) := by
  obtain ⟨r, ho, hr⟩ := h
  obtain ⟨r', ho', hr'⟩ := h'
  exact pt_imp (pt_chain ho ho' ha hb hc hm) fun σ H Q ⟨ρ, O, Ob, s, o⟩ => chain_core ha hb hc hr hr' s Q _ (fun b H' z => ⟨b, rfl, z⟩) o

/-- a test as an expression's value -/
def asV (f : BF) : EF := fun ρ => (f ρ).bind fun b => .ok (.bool b)
theorem d_chain (h : CmpR X op ma mb k) (h' : CmpR X op' mb mc k') (ha : ED X W ma a fa) (hb : ED X W mb b fb) (hc : ED X W mc c fc) (hm : lastMarks [op, op'] [b, c] = false) :
    ED X W m (.Compare a [op, op'] [b, c] pos) (asV (fChain k k' fa fb fc)) := by
  obtain ⟨r, ho, hr⟩ := h
  obtain ⟨r', ho', hr'⟩ := h'
  refine pe_imp (pe_chain ho ho' ha hb hc hm) fun σ H Q ⟨ρ, O, Ob, s, o⟩ => ?_
  refine chain_core ha hb hc hr hr' s (fun b H' => Q (.bl b) H') Q (fun _ _ z => z) ?_
  unfold asV at o
  cases q : fChain k k' fa fb fc ρ with
  | ok b =>
    rw [q] at o
    exact fun H' ex => o _ H' ex (RpM.of_av (.bl b))
  | exc c => rw [q] at o; exact o
  | bad => rw [q] at o; exact o
/-- a value that is a bool, as a test -/
def asB (f : EF) : BF := fun ρ => (f ρ).bind fun d => match d with
  | .bool b => .ok b
  | _ => .bad
theorem t_val (h : ED X W m e f) (he : ∀ whole, isTrue e X.env whole = (do let v ← whole; standAt e.pos; holding [v] (truthy v)) := by intro _; rfl) : TD X W e (asB f) := by
  refine pt_imp (pt_val h he) fun σ H Q ⟨ρ, O, Ob, s, o⟩ => ⟨ρ, O, Ob, s, ?_⟩
  unfold asB at o
  cases q : f ρ with
  | bad => simp only [q] at o; exact o.elim
  | exc c => simp only [q] at o; exact o
  | ok d =>
    simp only [q, bind_ok] at o
    cases d with
    | bool b => exact fun v H' ex r => ⟨b, rpm_bl r, o H' ex⟩
    | _ => exact o.elim
/-- truth -/
def tru : PyData → Option Bool
  | .none => some false
  | .bool b => some b
  | .int i => some (i != 0)
  | .list xs => some (!xs.isEmpty)
  | .tuple xs => some (!xs.isEmpty)
  | .str a => if a.length ≤ lim then some ((a.length : Int) != 0) else none
  | _ => none
def asT (f : EF) : BF := fun ρ => (f ρ).bind fun d => ofO (tru d)
theorem isEmpty_len {α β : Type} {xs : List α} {ys : List β} (h : xs.length = ys.length) : (!xs.isEmpty) = !ys.isEmpty := by
  cases xs <;> cases ys <;> simp_all
theorem t_tru (h : ED X W m e f) (he : ∀ whole, isTrue e X.env whole = (do let v ← whole; standAt e.pos; holding [v] (truthy v)) := by intro _; rfl) : TD X W e (asT f) := by
  refine pt_imp (pt_truth h he) fun σ H Q ⟨ρ, O, Ob, s, o⟩ => ⟨ρ, O, Ob, s, ?_⟩
  unfold asT at o
  cases q : f ρ with
  | bad => simp only [q] at o; exact o.elim
  | exc c => simp only [q] at o; exact o
  | ok d =>
    simp only [q, bind_ok] at o
    intro v H' ex r
    cases d with
    | none => rw [rpm_non r]; exact ⟨false, rfl, o H' ex⟩
    | bool b => rw [rpm_bl r]; exact ⟨b, rfl, o H' ex⟩
    | int i => rw [rpm_int r]; exact ⟨_, rfl, o H' ex⟩
    | str a =>
      rw [rpm_str r]
      by_cases hl : a.length ≤ lim
      · simp only [tru, if_pos hl, ofO_some] at o
        exact ⟨_, ⟨lim_line hl, rfl⟩, o H' ex⟩
      · simp only [tru, if_neg hl, ofO_none] at o
        exact o.elim
    | list xs =>
      obtain ⟨a, us, rfl, hp, ra⟩ := rpm_lst r
      exact ⟨_, .inl ⟨us, sqL_of hp, (isEmpty_len ra.length).symm⟩, o H' ex⟩
    | tuple xs =>
      obtain ⟨a, us, rfl, hp, ra⟩ := rpm_tup r
      exact ⟨_, .inr (.inl ⟨us, sqT_of hp, (isEmpty_len ra.length).symm⟩), o H' ex⟩
    | dict es => exact o.elim
def fAnd (f g : BF) : BF := fun ρ => (f ρ).bind fun b => if b = true then g ρ else .ok false
def fOr (f g : BF) : BF := fun ρ => (f ρ).bind fun b => if b = true then .ok true else g ρ
def fNot (f : BF) : BF := fun ρ => (f ρ).bind fun b => .ok (!b)
variable {t u : BF} {rest : List Expr}
theorem TWD.td (h : TWD X W e t) : TD X W e t := PW.pt h
theorem w_and1 (h : TD X W a t) : TWD X W (.BoolOp .And [a] pos) t := pw_and1 h
theorem w_or1 (h : TD X W a t) : TWD X W (.BoolOp .Or [a] pos) t := pw_or1 h
theorem w_and (h : TD X W a t) (h2 : TWD X W (.BoolOp .And (b :: rest) pos) u) : TWD X W (.BoolOp .And (a :: b :: rest) pos) (fAnd t u) := pw_imp (pw_and h h2) fun σ H Q ⟨ρ, O, Ob, s, o⟩ => by
  refine ⟨ρ, O, Ob, s, ?_⟩
  unfold fAnd at o
  cases q : t ρ with
  | bad => simp only [q] at o; exact o.elim
  | exc c => simp only [q] at o; exact o
  | ok d =>
    simp only [q, bind_ok] at o
    intro H1 e1
    cases d with
    | false => exact o H1 e1
    | true =>
      refine ⟨ρ, O, Ob, s.ex e1, ?_⟩
      simp only [if_pos rfl] at o
      cases q2 : u ρ with
      | bad => simp only [q2] at o; exact o.elim
      | exc c => simp only [q2] at o; exact fun H' C e2 hC => o H' C (e1.trans e2) hC
      | ok d => simp only [q2] at o; exact fun H' e2 => o H' (e1.trans e2)
theorem w_or (h : TD X W a t) (h2 : TWD X W (.BoolOp .Or (b :: rest) pos) u) : TWD X W (.BoolOp .Or (a :: b :: rest) pos) (fOr t u) := pw_imp (pw_or h h2) fun σ H Q ⟨ρ, O, Ob, s, o⟩ => by
  refine ⟨ρ, O, Ob, s, ?_⟩
  unfold fOr at o
  cases q : t ρ with
  | bad => simp only [q] at o; exact o.elim
  | exc c => simp only [q] at o; exact o
  | ok d =>
    simp only [q, bind_ok] at o
    intro H1 e1
    cases d with
    | true => exact o H1 e1
    | false =>
      refine ⟨ρ, O, Ob, s.ex e1, ?_⟩
      simp only [Bool.false_eq_true, if_neg (fun z => nomatch z : ¬ (false = true))] at o
      cases q2 : u ρ with
      | bad => simp only [q2] at o; exact o.elim
      | exc c => simp only [q2] at o; exact fun H' C e2 hC => o H' C (e1.trans e2) hC
      | ok d => simp only [q2] at o; exact fun H' e2 => o H' (e1.trans e2)
theorem t_not (h : TD X W a t) : TD X W (.UnaryOp .Not a pos) (fNot t) := pt_imp (pt_not h) fun σ H Q ⟨ρ, O, Ob, s, o⟩ => by
  refine ⟨ρ, O, Ob, s, ?_⟩
  unfold fNot at o
  cases q : t ρ with
  | bad => simp only [q] at o; exact o.elim
  | exc c => simp only [q] at o; exact o
  | ok d => simp only [q, bind_ok] at o; exact o
/-- the same as values: all parts bools -/
def eAnd (f g : EF) : EF := fun ρ => (f ρ).bind fun d => match d with
  | .bool true => g ρ
  | .bool false => .ok (.bool false)
  | _ => .bad
def eOr (f g : EF) : EF := fun ρ => (f ρ).bind fun d => match d with
  | .bool false => g ρ
  | .bool true => .ok (.bool true)
  | _ => .bad
def eNot (f : EF) : EF := fun ρ => (f ρ).bind fun d => match d with
  | .bool b => .ok (.bool (!b))
  | _ => .bad
theorem d_one {op : BoolOp} (h : ED X W m a fa) : ED X W m (.BoolOp op [a] pos) fa := pe_one h
theorem d_and (h : ED X W ma a fa) (h2 : ED X W m (.BoolOp .And (b :: rest) pos) fb) : ED X W m (.BoolOp .And (a :: b :: rest) pos) (eAnd fa fb) := pe_imp (pe_and h h2) fun σ H Q ⟨ρ, O, Ob, s, o⟩ => by
  refine ⟨ρ, O, Ob, s, ?_⟩
  unfold eAnd at o
  cases q : fa ρ with
  | bad => simp only [q] at o; exact o.elim
  | exc c => simp only [q] at o; exact o
  | ok d =>
    simp only [q, bind_ok] at o
    intro v H1 e1 r
    cases d with
    | bool b =>
      refine ⟨b, rpm_bl r, ?_⟩
      cases b with
      | false => exact o _ H1 e1 (RpM.of_av (.bl false))
      | true =>
        refine ⟨ρ, O, Ob, s.ex e1, ?_⟩
        cases q2 : fb ρ with
        | bad => simp only [q2] at o; exact o.elim
        | exc c => simp only [q2] at o; exact fun H' C e2 hC => o H' C (e1.trans e2) hC
        | ok d => simp only [q2] at o; exact fun v H' e2 r => o v H' (e1.trans e2) r
    | _ => exact o.elim
theorem d_or (h : ED X W ma a fa) (h2 : ED X W m (.BoolOp .Or (b :: rest) pos) fb) : ED X W m (.BoolOp .Or (a :: b :: rest) pos) (eOr fa fb) := pe_imp (pe_or h h2) fun σ H Q ⟨ρ, O, Ob, s, o⟩ => by
  refine ⟨ρ, O, Ob, s, ?_⟩
  unfold eOr at o
  cases q : fa ρ with
  | bad => simp only [q] at o; exact o.elim
  | exc c => simp only [q] at o; exact o
  | ok d =>
    simp only [q, bind_ok] at o
    intro v H1 e1 r
    cases d with
    | bool b =>
      refine ⟨b, rpm_bl r, ?_⟩
      cases b with
      | true => exact o _ H1 e1 (RpM.of_av (.bl true))
      | false =>
        refine ⟨ρ, O, Ob, s.ex e1, ?_⟩
        cases q2 : fb ρ with
        | bad => simp only [q2] at o; exact o.elim
        | exc c => simp only [q2] at o; exact fun H' C e2 hC => o H' C (e1.trans e2) hC
        | ok d => simp only [q2] at o; exact fun v H' e2 r => o v H' (e1.trans e2) r
    | _ => exact o.elim
theorem d_not (h : ED X W ma a fa) : ED X W m (.UnaryOp .Not a pos) (eNot fa) := pe_imp (pe_not h) fun σ H Q ⟨ρ, O, Ob, s, o⟩ => by
  refine ⟨ρ, O, Ob, s, ?_⟩
  unfold eNot at o
  cases q : fa ρ with
  | bad => simp only [q] at o; exact o.elim
  | exc c => simp only [q] at o; exact o
  | ok d =>
    simp only [q, bind_ok] at o
    intro v H1 e1 r
    cases d with
    | bool b => exact ⟨b, rpm_bl r, o _ H1 e1 (RpM.of_av (.bl (!b)))⟩
    | _ => exact o.elim
/-- a if t else b -/
def eIf (t : BF) (f g : EF) : EF := fun ρ => (t ρ).bind fun b => if b = true then f ρ else g ρ
theorem d_if (h : TD X W c t) (ha : ED X W m a fa) (hb : ED X W m b fb) : ED X W m (.IfExp c a b pos) (eIf t fa fb) := pe_imp (pe_ifExp h ha hb) fun σ H Q ⟨ρ, O, Ob, s, o⟩ => by
  refine ⟨ρ, O, Ob, s, ?_⟩
  unfold eIf at o
  have step : ∀ {g : EF} {H1 : Hp}, Ex H H1 → OutE X.K X.mg W m O Ob σ H Q (g ρ) → rdE X.K X.mg W m g σ H1 Q := fun {g H1} e1 o => by
    refine ⟨ρ, O, Ob, s.ex e1, ?_⟩
    cases q2 : g ρ with
    | bad => simp only [q2] at o; exact o.elim
    | exc c => simp only [q2] at o; exact fun H' C e2 hC => o H' C (e1.trans e2) hC
    | ok d => simp only [q2] at o; exact fun v H' e2 r => o v H' (e1.trans e2) r
  cases q : t ρ with
  | bad => simp only [q] at o; exact o.elim
  | exc c => simp only [q] at o; exact o
  | ok d =>
    simp only [q, bind_ok] at o
    intro H1 e1
    cases d with
    | true => exact step e1 o
    | false => exact step e1 o
end
end DL
namespace DL
open PySem PySem.Spec PyProof.Rows L2
open Evl (Ex fresh_back)
section
variable {X : Cx} {W : WX} {m ma mb mc : Mode} {e a b c : Expr} {f fa fb fc : EF} {pos : Pos} {op op' : CmpOp} {k k' : PyData → PyData → Option Bool}

def c2I (p : Int → Int → Bool) : PyData → PyData → Option Bool
  | .int i, .int j => some (p i j)
  | _, _ => none
theorem c2I_some {p : Int → Int → Bool} {d d' : PyData} {b : Bool} (h : c2I p d d' = some b) : ∃ i j, d = .int i ∧ d' = .int j ∧ b = p i j := by
  unfold c2I at h
  split at h
  · exact ⟨_, _, rfl, rfl, (Option.some.inj h).symm⟩
  · cases h
abbrev cLt := c2I fun i j => decide (i < j)
abbrev cLe := c2I fun i j => decide (i ≤ j)
abbrev cGt := c2I fun i j => decide (j < i)
abbrev cGe := c2I fun i j => decide (j ≤ i)
theorem cmp_I {p : Int → Int → Bool} (h : OpR X (compareOp op) (rI0 fun i j => .bl (p i j))) : CmpR X op ma mb (c2I p) :=
  ⟨_, h, fun x y d d' b H O Ob Q F r1 r2 q z => by
    obtain ⟨i, j, rfl, rfl, rfl⟩ := c2I_some q
    exact ⟨i, j, rpm_int r1, rpm_int r2, z⟩⟩
theorem cmp_lt : CmpR X .Lt ma mb cLt := cmp_I op_lt
theorem cmp_le : CmpR X .LtE ma mb cLe := cmp_I op_le
theorem cmp_gt : CmpR X .Gt ma mb cGt := cmp_I op_gt
theorem cmp_ge : CmpR X .GtE ma mb cGe := cmp_I op_ge
def cEq : PyData → PyData → Option Bool
  | .int i, .int j => some (i == j)
  | .str a, .str b => some (a == b)
  | .bool a, .bool b => some (a == b)
  | d, e => if SeqAt.shaped d && SeqAt.shaped e then some (PyData.eqv d e) else none
theorem cEq_cases {P : PyData → PyData → Bool → Prop} (h1 : ∀ i j, P (.int i) (.int j) (i == j)) (h2 : ∀ i j, P (.str i) (.str j) (i == j)) (h3 : ∀ i j, P (.bool i) (.bool j) (i == j))
    (h4 : ∀ d e, SeqAt.shaped d = true → SeqAt.shaped e = true → P d e (PyData.eqv d e)) {d e : PyData} {b : Bool} (h : cEq d e = some b) : P d e b := by
  unfold cEq at h
  split at h
  · cases h; exact h1 _ _
  · cases h; exact h2 _ _
  · cases h; exact h3 _ _
  · split at h
    · rename_i q
      cases h
      have q' := Bool.and_eq_true_iff.mp q
      exact h4 _ _ q'.1 q'.2
    · cases h
theorem cmp_eq (hu : X.A.units + 64 < cLine) : CmpR X .Eq ma mb cEq :=
  ⟨_, op_eq.or (op_eqD hu), fun x y d d' b H O Ob Q F r1 r2 q z => by
    revert r1 r2 z
    refine cEq_cases (P := fun d d' b => RpM X.K H O Ob ma x d → RpM X.K H O Ob mb y d' → Q (.bl b) H → _) ?_ ?_ ?_ ?_ q
    · intro i j r1 r2 z
      rw [rpm_int r1, rpm_int r2]
      exact .inl ⟨rfl, by rw [dec_int]; exact z⟩
    · intro i j r1 r2 z
      rw [rpm_str r1, rpm_str r2]
      exact .inl ⟨rfl, by rw [dec_str]; exact z⟩
    · intro i j r1 r2 z
      rw [rpm_bl r1, rpm_bl r2]
      exact .inl ⟨rfl, by rw [dec_bl]; exact z⟩
    · intro d e s1 s2 r1 r2 z
      exact .inr ⟨d, e, rpm_dp r1 (SeqAt.canLay_of_shaped s1), rpm_dp r2 (SeqAt.canLay_of_shaped s2), s1, s2, z⟩⟩
def cNe (d e : PyData) : Option Bool := (cEq d e).map (!·)
theorem cmp_ne (hu : X.A.units + 64 < cLine) : CmpR X .NotEq ma mb cNe :=
  ⟨_, op_ne.or (op_neD hu), fun x y d d' b H O Ob Q F r1 r2 q z => by
    unfold cNe at q
    cases q' : cEq d d' with
    | none => rw [q'] at q; cases q
    | some b' =>
      rw [q'] at q
      cases q
      revert r1 r2 z
      refine cEq_cases (P := fun d d' b => RpM X.K H O Ob ma x d → RpM X.K H O Ob mb y d' → Q (.bl (!b)) H → _) ?_ ?_ ?_ ?_ q'
      · intro i j r1 r2 z
        rw [rpm_int r1, rpm_int r2]
        exact .inl ⟨rfl, by rw [dec_int]; exact z⟩
      · intro i j r1 r2 z
        rw [rpm_str r1, rpm_str r2]
        exact .inl ⟨rfl, by rw [dec_str]; exact z⟩
      · intro i j r1 r2 z
        rw [rpm_bl r1, rpm_bl r2]
        exact .inl ⟨rfl, by rw [dec_bl]; exact z⟩
      · intro d e s1 s2 r1 r2 z
        exact .inr ⟨d, e, rpm_dp r1 (SeqAt.canLay_of_shaped s1), rpm_dp r2 (SeqAt.canLay_of_shaped s2), s1, s2, z⟩⟩
/-- is None -/
def isNo : PyData → Bool
  | .none => true
  | _ => false
def cIsN : PyData → PyData → Option Bool
  | d, .none => some (isNo d)
  | _, _ => none
def cNotN : PyData → PyData → Option Bool
  | d, .none => some (!isNo d)
  | _, _ => none
theorem isNo_dec {H : Hp} {O Ob : List Addr} {x : V} {d : PyData} (r : RpM X.K H O Ob ma x d) : decide (x = .non) = isNo d := by
  cases d with
  | none => rw [rpm_non r]; rfl
  | bool b => rw [rpm_bl r]; rfl
  | int i => rw [rpm_int r]; rfl
  | str s => rw [rpm_str r]; rfl
  | list ds =>
    obtain ⟨a, _, rfl, _⟩ := rpm_lst r
    rfl
  | tuple ds =>
    obtain ⟨a, _, rfl, _⟩ := rpm_tup r
    rfl
  | dict es =>
    have go : ∀ (O : List Addr), Rp X.K H O x (.dict es) → ∃ a, x = .ref a := fun O h => by
      cases h with
      | dic _ _ _ => exact ⟨_, rfl⟩
      | scr _ _ => exact ⟨_, rfl⟩
    have : ∃ a, x = .ref a := by
      cases ma with
      | S => exact go _ r
      | E => exact go _ r
      | B =>
        rcases r with r | ⟨a, h, _⟩
        · exact go _ r
        · exact ⟨a, h⟩
    obtain ⟨a, rfl⟩ := this
    rfl
theorem cmp_isN : CmpR X .Is ma mb cIsN := ⟨_, op_isN, fun x y d d' b H O Ob Q F r1 r2 q z => by
  unfold cIsN at q
  split at q
  · cases q
    exact ⟨rpm_non r2, by rw [isNo_dec r1]; exact z⟩
  · cases q⟩
theorem cmp_notN : CmpR X .IsNot ma mb cNotN := ⟨_, op_notN, fun x y d d' b H O Ob Q F r1 r2 q z => by
  unfold cNotN at q
  split at q
  · cases q
    exact ⟨rpm_non r2, by rw [isNo_dec r1]; exact z⟩
  · cases q⟩
def flatD : PyData → Bool
  | .none => true
  | .bool _ => true
  | .int _ => true
  | .str _ => true
  | _ => false
def dV : PyData → V
  | .bool b => .bl b
  | .int i => .int i
  | .str s => .str s
  | _ => .non
theorem flat_dV {K : PySem.W.Frag} {H : Hp} {O : List Addr} {x : V} {d : PyData} (f : flatD d = true) (r : Rp K H O x d) : x = dV d ∧ flatV x = true := by
  cases r <;> first | exact ⟨rfl, rfl⟩ | cases f
theorem flats_dV {K : PySem.W.Frag} {H : Hp} {O : List Addr} : ∀ {xs : List V} {ds : List PyData}, ds.all flatD = true → RpA K H O xs ds → xs = ds.map dV ∧ xs.all flatV = true
  | _, _, _, .nil => ⟨rfl, rfl⟩
  | _, _, f, .cons h r => by
    rw [List.all_cons] at f
    have f' := Bool.and_eq_true_iff.mp f
    obtain ⟨e1, e2⟩ := flat_dV f'.1 h
    obtain ⟨e3, e4⟩ := flats_dV f'.2 r
    subst e1
    subst e3
    exact ⟨rfl, by rw [List.all_cons, e2, e4]; rfl⟩
theorem eqV_eqv {d e : PyData} (h : flatD d = true) (h' : flatD e = true) : eqV (dV d) (dV e) = PyData.eqv d e := by
  cases d <;> cases e <;> simp_all [flatD, dV, eqV, PyData.eqv]
theorem inV_any {d : PyData} : ∀ {ds : List PyData}, flatD d = true → ds.all flatD = true → inV (dV d) (ds.map dV) = ds.any fun z => PyData.eqv z d
  | [], _, _ => rfl
  | x :: ds, h, f => by
    rw [List.all_cons] at f
    have f' := Bool.and_eq_true_iff.mp f
    have ih := inV_any h f'.2
    unfold inV at ih ⊢
    rw [List.map_cons, List.any_cons, List.any_cons, ih, eqV_eqv f'.1 h]
def cIn : PyData → PyData → Option Bool
  | d, .list ds => if flatD d && ds.all flatD then some (ds.any fun z => PyData.eqv z d) else if SeqAt.shaped d && SeqAt.shaped (.list ds) then some (ds.any fun z => PyData.eqv z d) else none
  | d, .tuple ds => if flatD d && ds.all flatD then some (ds.any fun z => PyData.eqv z d) else none
  | .str a, .str b => (match a.cps.toList with
    | [c] => some (decide (c ∈ b.cps.toList))
    | _ => none)
  | _, _ => none
theorem cps_one {a : Str} {c : Nat} (h : a.cps.toList = [c]) : a = ⟨#[c]⟩ := by
  cases a with
  | mk cps =>
    have : cps = #[c] := by
      rw [← Array.toArray_toList (xs := cps)]
      exact congrArg List.toArray h
    rw [this]
theorem in_core {neg : Bool} {r1 : R2} {P : Bool → Bool} (hP : P = if neg then (!·) else id)
    (h1 : ∀ x y H Q, rIn X.K neg x y H Q → r1 x y H Q)
    (h2 : ∀ x y H Q, (∃ d ds, Dp X.K H x d ∧ Dp X.K H y (.list ds) ∧ SeqAt.shaped d = true ∧ SeqAt.shaped (.list ds) = true ∧ Q (.bl (P (ds.any fun z => PyData.eqv z d))) H) → r1 x y H Q)
    (h3 : ∀ x y H Q, (∃ (c : Nat) (z : Str), x = .str ⟨#[c]⟩ ∧ y = .str z ∧ Q (.bl (P (decide (c ∈ z.cps.toList)))) H) → r1 x y H Q)
    {x y : V} {d d' : PyData} {b : Bool} {H : Hp} {O Ob : List Addr} {Q : VK} (q1 : RpM X.K H O Ob ma x d) (q2 : RpM X.K H O Ob mb y d') (q : cIn d d' = some b) (z : Q (.bl (P b)) H) : r1 x y H Q := by
  have flat : ∀ {ds : List PyData} {p : Addr} {xs : List V}, (flatD d && ds.all flatD) = true → b = (ds.any fun z => PyData.eqv z d) → y = .ref p → (SqL X.K H p xs ∨ SqT X.K H p xs) → RpA X.K H (mb.av O Ob) xs ds → r1 x y H Q := by
    intro ds p xs f hb hy hs ra
    have f' := Bool.and_eq_true_iff.mp f
    have fx : x = dV d ∧ flatV x = true := by
      cases ma with
      | S => exact flat_dV f'.1 q1
      | E => exact flat_dV f'.1 q1
      | B =>
        rcases q1 with q1 | ⟨a, _, q1⟩
        · exact flat_dV f'.1 q1
        · cases d <;> first | (exact q1.elim) | (exact nomatch f'.1)
    obtain ⟨e3, e4⟩ := flats_dV f'.2 ra
    refine h1 _ _ _ _ ⟨p, xs, hy, hs, fx.2, e4, ?_⟩
    have ei : inV x xs = b := by
      rw [fx.1, e3, inV_any f'.1 f'.2, hb]
    rw [ei]
    have : (if neg then !b else b) = P b := by
      rw [hP]
      cases neg <;> rfl
    rw [this]
    exact z
  unfold cIn at q
  split at q
  · obtain ⟨p, xs, hy, hp, ra⟩ := rpm_lst q2
    split at q
    · rename_i f
      cases q
      exact flat f rfl hy (.inl (sqL_of hp)) ra
    · split at q
      · rename_i f
        cases q
        have f' := Bool.and_eq_true_iff.mp f
        exact h2 _ _ _ _ ⟨_, _, rpm_dp q1 (SeqAt.canLay_of_shaped f'.1), rpm_dp q2 (SeqAt.canLay_of_shaped f'.2), f'.1, f'.2, z⟩
      · cases q
  · obtain ⟨p, xs, hy, hp, ra⟩ := rpm_tup q2
    split at q
    · rename_i f
      cases q
      exact flat f rfl hy (.inr (sqT_of hp)) ra
    · cases q
  · split at q
    · rename_i c hc
      cases q
      exact h3 _ _ _ _ ⟨c, _, by rw [rpm_str q1, cps_one hc], rpm_str q2, z⟩
    · cases q
  · cases q
theorem cmp_in (hu : X.A.units + 65 < cLine) : CmpR X .In ma mb cIn :=
  ⟨_, (op_in_seq.or (op_inD hu)).or op_in_sign, fun x y d d' b H O Ob Q F q1 q2 q z =>
    in_core (neg := false) (P := id) (r1 := fun x y H Q => (rIn X.K false x y H Q ∨ rInD X.K x y H Q) ∨ ∃ (c : Nat) (z : Str), x = .str ⟨#[c]⟩ ∧ y = .str z ∧ Q (.bl (decide (c ∈ z.cps.toList))) H) rfl (fun _ _ _ _ h => .inl (.inl h)) (fun _ _ _ _ h => .inl (.inr h)) (fun _ _ _ _ h => .inr h) q1 q2 q z⟩
def cNotIn (d e : PyData) : Option Bool := (cIn d e).map (!·)
theorem cmp_notIn (hu : X.A.units + 65 < cLine) : CmpR X .NotIn ma mb cNotIn :=
  ⟨_, (op_notIn_seq.or (op_notInD hu)).or op_notIn_sign, fun x y d d' b H O Ob Q F q1 q2 q z => by
    unfold cNotIn at q
    cases q' : cIn d d' with
    | none => rw [q'] at q; cases q
    | some b' =>
      rw [q'] at q
      cases q
      exact in_core (neg := true) (P := (!·)) (r1 := fun x y H Q => (rIn X.K true x y H Q ∨ rNotInD X.K x y H Q) ∨ ∃ (c : Nat) (z : Str), x = .str ⟨#[c]⟩ ∧ y = .str z ∧ Q (.bl (!decide (c ∈ z.cps.toList))) H) rfl (fun _ _ _ _ h => .inl (.inl h)) (fun _ _ _ _ h => .inl (.inr h)) (fun _ _ _ _ h => .inr h) q1 q2 q' z⟩
end

def toKeyI : PyData → Option Key
  | .int i => some (.inl i)
  | .str s => some (.inr s)
  | _ => none
def toKeyL : List PyData → Option (List Key)
  | [] => some []
  | d :: ds => match toKeyI d, toKeyL ds with
    | some k, some ks => some (k :: ks)
    | _, _ => none
def toKey : PyData → Option (List Key)
  | .tuple ds => toKeyL ds
  | _ => none
theorem toKeyI_kD {d : PyData} {k : Key} (h : toKeyI d = some k) : d = kD k := by
  cases d <;> cases h <;> rfl
theorem toKeyL_kD : ∀ {ds : List PyData} {ks : List Key}, toKeyL ds = some ks → ds = ks.map kD
  | [], ks, h => by cases h; rfl
  | d :: ds, ks, h => by
    unfold toKeyL at h
    split at h
    · rename_i k r h1 h2
      cases h
      rw [List.map_cons, ← toKeyI_kD h1, ← toKeyL_kD h2]
    · cases h
theorem toKey_kD {d : PyData} {k : List Key} (h : toKey d = some k) : d = keyD k := by
  cases d with
  | tuple ds => exact congrArg PyData.tuple (toKeyL_kD h)
  | _ => cases h
theorem rp_kD {K : PySem.W.Frag} {H : Hp} {O : List Addr} {x : V} {k : Key} (h : Rp K H O x (kD k)) : x = kV k := by
  cases k <;> (cases h; rfl)
theorem rpA_kD {K : PySem.W.Frag} {H : Hp} {O : List Addr} : ∀ {xs : List V} {ks : List Key}, RpA K H O xs (ks.map kD) → xs = ks.map kV
  | _, [], .nil => rfl
  | _, _ :: _, .cons h r => by rw [rp_kD h, rpA_kD r]; rfl
theorem kD_eqv (k j : Key) : PyData.eqv (kD k) (kD j) = decide (k = j) := by
  cases k with
  | inl a =>
    cases j with
    | inl b => show (a == b) = _; rw [key_ll]
    | inr b => show false = _; rw [key_lr]
  | inr a =>
    cases j with
    | inl b => show false = _; rw [key_rl]
    | inr b => show (a == b) = _; rw [key_rr]; rfl
theorem kDs_eqv : ∀ (k j : List Key), PyData.eqvAll (k.map kD) (j.map kD) = decide (k = j)
  | [], [] => rfl
  | [], _ :: _ => rfl
  | _ :: _, [] => rfl
  | a :: k, b :: j => by
    show (PyData.eqv (kD a) (kD b) && PyData.eqvAll (k.map kD) (j.map kD)) = _
    rw [kD_eqv, kDs_eqv k j]
    by_cases h : a = b
    · by_cases h2 : k = j
      · subst h h2; simp
      · simp [h, h2]
    · simp [h]
theorem keyD_eqv (k j : List Key) : PyData.eqv (keyD k) (keyD j) = decide (k = j) := kDs_eqv k j
def esGet (es : List (PyData × PyData)) (d : PyData) : Option PyData := (es.find? fun p => PyData.eqv p.1 d).map (·.2)
def esPut (es : List (PyData × PyData)) (d v : PyData) : List (PyData × PyData) :=
  if (es.any fun p => PyData.eqv p.1 d) = true then es.map (fun p => if PyData.eqv p.1 d then (p.1, v) else p) else es ++ [(d, v)]
section
variable {K : PySem.W.Frag} {H : Hp} {O Ob : List Addr}
theorem RpD.get : ∀ {kvs : List (List Key × V)} {es : List (PyData × PyData)} (k : List Key), RpD K H O kvs es →
    (valV kvs k = none ∧ esGet es (keyD k) = none) ∨ ∃ v d, valV kvs k = some v ∧ esGet es (keyD k) = some d ∧ Rp K H O v d
  | _, _, _, .nil => .inl ⟨rfl, rfl⟩
  | _, _, k, .cons (k := j) (v := v) (r := r) (d := d) (es := es) h q => by
    by_cases e : j = k
    · refine .inr ⟨v, d, valV_pos e, ?_, h⟩
      unfold esGet
      rw [List.find?_cons, keyD_eqv, decide_eq_true e]
      rfl
    · have eg : esGet ((keyD j, d) :: es) (keyD k) = esGet es (keyD k) := by
        unfold esGet
        rw [List.find?_cons, keyD_eqv, decide_eq_false e]
      rw [valV_neg e, eg]
      exact RpD.get k q
theorem RpD.any : ∀ {kvs : List (List Key × V)} {es : List (PyData × PyData)} (k : List Key), RpD K H O kvs es → (es.any fun p => PyData.eqv p.1 (keyD k)) = kvs.any fun kv => decide (kv.1 = k)
  | _, _, _, .nil => rfl
  | _, _, k, .cons h q => by
    rw [List.any_cons, List.any_cons, keyD_eqv, RpD.any k q]
theorem RpD.mapPut {v : V} {d : PyData} (hv : Rp K H O v d) : ∀ {kvs : List (List Key × V)} {es : List (PyData × PyData)} (k : List Key), RpD K H O kvs es →
    RpD K H O (kvs.map fun kv => if kv.1 = k then (kv.1, v) else kv) (es.map fun p => if PyData.eqv p.1 (keyD k) then (p.1, d) else p)
  | _, _, _, .nil => .nil
  | _, _, k, .cons (k := j) (v := w) (d := e) h q => by
    rw [List.map_cons, List.map_cons]
    by_cases z : j = k
    · rw [if_pos z, if_pos (by rw [keyD_eqv]; exact decide_eq_true z)]
      exact .cons hv (RpD.mapPut hv k q)
    · rw [if_neg z, if_neg (by rw [keyD_eqv, decide_eq_false z]; exact fun x => nomatch x)]
      exact .cons h (RpD.mapPut hv k q)
theorem RpD.snoc {v : V} {d : PyData} (hv : Rp K H O v d) (k : List Key) : ∀ {kvs : List (List Key × V)} {es : List (PyData × PyData)}, RpD K H O kvs es → RpD K H O (kvs ++ [(k, v)]) (es ++ [(keyD k, d)])
  | _, _, .nil => .cons hv .nil
  | _, _, .cons h q => .cons h (RpD.snoc hv k q)
theorem RpD.put {v : V} {d : PyData} {kvs : List (List Key × V)} {es : List (PyData × PyData)} (hv : Rp K H O v d) (k : List Key) (h : RpD K H O kvs es) : RpD K H O (putK kvs k v) (esPut es (keyD k) d) := by
  unfold putK esPut
  rw [h.any k]
  split
  · exact RpD.mapPut hv k h
  · exact RpD.snoc hv k h
theorem RpD.length : ∀ {kvs : List (List Key × V)} {es : List (PyData × PyData)}, RpD K H O kvs es → kvs.length = es.length
  | _, _, .nil => rfl
  | _, _, .cons _ q => congrArg (· + 1) q.length
theorem rpm_key {m : Mode} {x : V} {k : List Key} (h : RpM K H O Ob m x (keyD k)) : ∃ b, x = .ref b ∧ H b = some (.tup (k.map kV)) := by
  obtain ⟨b, xs, rfl, hb, r⟩ := rpm_tup h
  rw [rpA_kD r] at hb
  exact ⟨b, rfl, hb⟩
end
section
variable {X : Cx} {W : WX} {m ma mb mc : Mode} {e a b c : Expr} {f fa fb fc : EF} {pos : Pos}
def cInD : PyData → PyData → Option Bool
  | d, .dict es => if okD es then (toKey d).map fun _ => (esGet es d).isSome else none
  | _, _ => none
theorem cInD_some {d d' : PyData} {b : Bool} (h : cInD d d' = some b) : ∃ k es, d = keyD k ∧ d' = .dict es ∧ okD es = true ∧ b = (esGet es (keyD k)).isSome := by
  unfold cInD at h
  split at h
  · rename_i es
    split at h
    · rename_i ok
      cases q : toKey d with
      | none => rw [q] at h; cases h
      | some k =>
        rw [q] at h
        cases h
        have := toKey_kD q
        subst this
        exact ⟨k, es, rfl, rfl, ok, rfl⟩
    · cases h
  · cases h
theorem cmp_inD (hu : X.A.units + 1 < cLine) : CmpR X .In ma mb cInD := by
  refine ⟨fun x y H Q => ∃ a o, y = .ref a ∧ DGet H a x o ∧ Q (.bl o.isSome) H, fun pins s σ H x y v u Q I rx ry h => ?_, fun x y d d' b H O Ob Q F q1 q2 q z => ?_⟩
  · obtain ⟨a, o, rfl, g, q⟩ := h
    cases ry
    exact d_in hu I g rx fun s' I' => ⟨.bl o.isSome, H, I', rfl, q⟩
  · obtain ⟨k, es, rfl, rfl, ok, rfl⟩ := cInD_some q
    obtain ⟨p, kvs, rfl, hp, r⟩ := rpm_dic ok q2
    obtain ⟨b, rfl, hb⟩ := rpm_key q1
    refine ⟨p, _, rfl, DGet.t hp hb, ?_⟩
    rcases r.get k with ⟨h1, h2⟩ | ⟨v, d, h1, h2, _⟩
    · rw [h1]; rw [h2] at z; exact z
    · rw [h1]; rw [h2] at z; exact z
def cNotInD (d e : PyData) : Option Bool := (cInD d e).map (!·)
theorem cmp_notInD (hu : X.A.units + 1 < cLine) : CmpR X .NotIn ma mb cNotInD := by
  refine ⟨fun x y H Q => ∃ a o, y = .ref a ∧ DGet H a x o ∧ Q (.bl (!o.isSome)) H, fun pins s σ H x y v u Q I rx ry h => ?_, fun x y d d' b H O Ob Q F q1 q2 q z => ?_⟩
  · obtain ⟨a, o, rfl, g, q⟩ := h
    cases ry
    exact d_notIn hu I g rx fun s' I' => ⟨.bl (!o.isSome), H, I', rfl, q⟩
  · unfold cNotInD at q
    cases q' : cInD d d' with
    | none => rw [q'] at q; cases q
    | some b' =>
      rw [q'] at q
      cases q
      obtain ⟨k, es, rfl, rfl, ok, rfl⟩ := cInD_some q'
      obtain ⟨p, kvs, rfl, hp, r⟩ := rpm_dic ok q2
      obtain ⟨b, rfl, hb⟩ := rpm_key q1
      refine ⟨p, _, rfl, DGet.t hp hb, ?_⟩
      rcases r.get k with ⟨h1, h2⟩ | ⟨v, d, h1, h2, _⟩
      · rw [h1]; rw [h2] at z; exact z
      · rw [h1]; rw [h2] at z; exact z
end
end DL
namespace DL
open PySem PySem.Spec PyProof.Rows L2
open Evl (Ex fresh_back)
section
variable {K : PySem.W.Frag} {H : Hp} {O Ob : List Addr}
theorem RpA.av {ma m : Mode} {vs : List V} {ds : List PyData} (F : Frm H O Ob) (c : ma = .E → m = .E) (h : RpA K H (ma.av O Ob) vs ds) : RpA K H (m.av O Ob) vs ds := by
  cases ma with
  | S =>
    cases m with
    | E => exact h.sub F.sub
    | _ => exact h
  | B =>
    cases m with
    | E => exact h.sub F.sub
    | _ => exact h
  | E => rw [c rfl]; exact h
theorem RpM.to_av {m : Mode} {v : V} {d : PyData} (n : m ≠ .B) (h : RpM K H O Ob m v d) : Rp K H (m.av O Ob) v d := by
  cases m with
  | S => exact h
  | E => exact h
  | B => exact absurd rfl n
end

def spD (K : PySem.W.Frag) (mg : Str → Option Value) (F : List PyData → Res PyData) : Sp := fun vs H Q E => ∃ (O : List Addr) (ds : List PyData), (∀ b ∈ O, H b ≠ none) ∧ RpA K H O vs ds ∧
  match F ds with
  | .ok d => ∀ v H', Ex H H' → Rp K H' O v d → Q v H'
  | .exc c => ∀ H' C, Ex H H' → mg c = some (.ref C) → E (.ref C) none H'
  | .bad => False

section
variable {X : Cx} {W : WX} {m ma mb mc : Mode} {e a b c : Expr} {f fa fb fc : EF} {pos p pos2 : Pos} {es : List Expr} {g : AF}
def aNil : AF := fun _ => .ok []
def aCons (f : EF) (g : AF) : AF := fun ρ => (f ρ).bind fun d => (g ρ).bind fun ds => .ok (d :: ds)
theorem a_nil : AD X W m [] aNil := pa_imp pa_nil fun σ H Q ⟨ρ, O, Ob, s, o⟩ => o [] H (Ex.refl H) .nil
theorem a_cons (h : ED X W m e f) (hr : AD X W m es g) (n : m ≠ .B := by decide) (hs : starEach (e :: es) X.env = (false, eval e X.env) :: starEach es X.env := by rfl) :
    AD X W m (e :: es) (aCons f g) := pa_imp (pa_cons h hr hs) fun σ H Q ⟨ρ, O, Ob, s, o⟩ => by
  refine ⟨ρ, O, Ob, s, ?_⟩
  unfold aCons at o
  cases qa : f ρ with
  | bad => simp only [qa] at o; exact o.elim
  | exc c => simp only [qa] at o; exact o
  | ok d =>
    simp only [qa, bind_ok] at o
    intro x H1 e1 r1
    refine ⟨ρ, O, Ob, s.ex e1, ?_⟩
    cases qb : g ρ with
    | bad => simp only [qb] at o; exact o.elim
    | exc c =>
      simp only [qb] at o
      exact fun H' C e2 hC => o H' C (e1.trans e2) hC
    | ok ds =>
      simp only [qb, bind_ok] at o
      exact fun xs H2 e2 r2 => o (x :: xs) H2 (e1.trans e2) (.cons ((r1.to_av n).ex e2) r2)
def eTup (g : AF) : EF := fun ρ => (g ρ).bind fun ds => if ds.length ≤ lim then .ok (.tuple ds) else .bad
def eLst (g : AF) : EF := fun ρ => (g ρ).bind fun ds => if ds.length ≤ lim then .ok (.list ds) else .bad
theorem d_tup {k : Nat} (h : AD X W m es g) : ED X W m (.Tuple es k pos) (eTup g) := pe_imp (pe_tup h) fun σ H Q ⟨ρ, O, Ob, s, o⟩ => by
  refine ⟨ρ, O, Ob, s, ?_⟩
  unfold eTup at o
  cases qa : g ρ with
  | bad => simp only [qa] at o; exact o.elim
  | exc c => simp only [qa] at o; exact o
  | ok ds =>
    simp only [qa, bind_ok] at o
    intro xs H1 e1 r1
    split at o
    · rename_i hl
      refine ⟨lim_line (by rw [r1.length]; exact hl), fun q hq => ?_⟩
      exact o _ _ (e1.trans (Evl.Ex.new hq)) (RpM.of_av (.tup upd_same (r1.ex (Evl.Ex.new hq))))
    · exact o.elim
theorem f_lst (h : AD X W m es g) : FD X W m (.List es pos) (eLst g) := pe_imp (pe_lst h) fun σ H Q ⟨ρ, O, Ob, s, o⟩ => by
  refine ⟨ρ, O, Ob, s, ?_⟩
  unfold eLst at o
  cases qa : g ρ with
  | bad => simp only [qa] at o; exact o.elim
  | exc c => simp only [qa] at o; exact o
  | ok ds =>
    simp only [qa, bind_ok] at o
    intro xs H1 e1 r1
    split at o
    · rename_i hl
      refine ⟨lim_line (by rw [r1.length]; exact hl), fun q hq => ?_⟩
      exact o q _ (fresh_back e1 hq) (e1.trans (Evl.Ex.new hq)) ⟨xs, upd_same, r1.new hq⟩
    · exact o.elim
theorem f_dict0 : FD X W m (.Dict [] [] pos) (eK (.dict [])) := pe_imp pe_dnewT fun σ H Q ⟨ρ, O, Ob, s, o⟩ q hq => o q _ hq (Evl.Ex.new hq) ⟨[], upd_same, .nil⟩
def gCat : PyData → PyData → Option PyData
  | .list xs, .list ys => if xs.length + ys.length ≤ lim then some (.list (xs ++ ys)) else none
  | _, _ => none
theorem f_cat (ha : ED X W ma a fa) (hb : ED X W mb b fb) (ca : ma = .E → m = .E := by decide) (cb : mb = .E → m = .E := by decide) :
    FD X W m (.BinOp a .Add b pos) (eOp2 gCat fa fb) := by
  refine f_op2 ha hb (fun h1 h2 => pe_op op_cat h1 h2) fun x y d d' z H O Ob Q F r1 r2 qz o => ?_
  unfold gCat at qz
  split at qz
  · split at qz
    · rename_i xs ys hl
      cases qz
      obtain ⟨p, us, rfl, hp, q1⟩ := rpm_lst r1
      obtain ⟨q, ws, rfl, hq, q2⟩ := rpm_lst r2
      refine ⟨p, q, us, ws, rfl, rfl, hp, hq, lim_line (by rw [q1.length, q2.length]; exact hl), fun n hn => ?_⟩
      have ex : Ex H (upd H n (.lst (us ++ ws))) := Evl.Ex.new hn
      exact o n _ hn ex ⟨_, upd_same, ((q1.av F ca).append (q2.av F cb)).new hn⟩
    · cases qz
  · cases qz
def gRep : PyData → PyData → Option PyData
  | .list xs, .int k => if decide (-(2 ^ 63) ≤ k) && decide (k < 2 ^ 63) && decide (xs.length * k.toNat ≤ lim) then some (.list (List.replicate k.toNat xs).flatten) else none
  | _, _ => none
theorem RpA.rep {vs : List V} {ds : List PyData} {K : PySem.W.Frag} {H : Hp} {O : List Addr} (h : RpA K H O vs ds) : ∀ k : Nat, RpA K H O (List.replicate k vs).flatten (List.replicate k ds).flatten
  | 0 => .nil
  | k + 1 => by
    rw [List.replicate_succ, List.replicate_succ, List.flatten_cons, List.flatten_cons]
    exact h.append (RpA.rep h k)
theorem f_rep (ha : ED X W ma a fa) (hb : ED X W mb b fb) (ca : ma = .E → m = .E := by decide) :
    FD X W m (.BinOp a .Mult b pos) (eOp2 gRep fa fb) := by
  refine f_op2 ha hb (fun h1 h2 => pe_op op_rep h1 h2) fun x y d d' z H O Ob Q F r1 r2 qz o => ?_
  unfold gRep at qz
  split at qz
  · split at qz
    · rename_i xs k hl
      cases qz
      have h1 := Bool.and_eq_true_iff.mp hl
      have h2 := Bool.and_eq_true_iff.mp h1.1
      obtain ⟨p, us, rfl, hp, q1⟩ := rpm_lst r1
      refine ⟨p, k, us, rfl, rpm_int r2, hp, of_decide_eq_true h2.1, of_decide_eq_true h2.2, lim_line (by rw [q1.length]; exact of_decide_eq_true h1.2), fun n hn => ?_⟩
      exact o n _ hn (Evl.Ex.new hn) ⟨_, upd_same, ((q1.av F ca).rep _).new hn⟩
    · cases qz
  · cases qz
/-- tuple * int -/
def gRepT : PyData → PyData → Option PyData
  | .tuple xs, .int k => if !xs.isEmpty && decide (2 ≤ k) && decide (k ≤ 1000) && decide (xs.length ≤ 1000) then some (.tuple (List.replicate k.toNat xs).flatten) else none
  | _, _ => none
theorem d_repT (ha : ED X W ma a fa) (hb : ED X W mb b fb) (ca : ma = .E → m = .E := by decide) :
    ED X W m (.BinOp a .Mult b pos) (eOp2 gRepT fa fb) := by
  refine d_op2 ha hb (fun h1 h2 => pe_op op_repT h1 h2) fun x y d d' z H O Ob Q F r1 r2 qz o => ?_
  unfold gRepT at qz
  split at qz
  · split at qz
    · rename_i xs k hl
      cases qz
      have h1 := Bool.and_eq_true_iff.mp hl
      have h2 := Bool.and_eq_true_iff.mp h1.1
      have h3 := Bool.and_eq_true_iff.mp h2.1
      obtain ⟨p, us, rfl, hp, q1⟩ := rpm_tup r1
      refine ⟨p, k, us, rfl, rpm_int r2, sqT_of hp, fun z => ?_, of_decide_eq_true h3.2, of_decide_eq_true h2.2, by rw [q1.length]; exact of_decide_eq_true h1.2, fun n hn => ?_⟩
      · subst z
        cases q1
        cases h3.1
      · exact o _ _ (Evl.Ex.new hn) (RpM.of_av (.tup upd_same (((q1.av F ca).rep _).ex (Evl.Ex.new hn))))
    · cases qz
  · cases qz
theorem d_callB {x : Str} {id : String} {r : List V → Hp → VK → Prop} {gg : PyData → Option PyData} (hc : CallR X (.builtin id) r) (hm : X.mg x = none) (hv : bootBuiltins x = some (.builtin id)) (ha : ED X W ma a fa)
    (hr : ∀ (x : V) (d z : PyData) (H : Hp) (O Ob : List Addr) (Q : VK), Frm H O Ob → RpM X.K H O Ob ma x d → gg d = some z → (∀ v H', Ex H H' → RpM X.K H' O Ob m v z → Q v H') → r [x] H Q)
    (hg : Gl X x) (hn : x ≠ "__name__") (hdb : (x == ("__debug__" : Str)) = false)
    (hs : starEach [a] X.env = (false, eval a X.env) :: starEach [] X.env) (hpl : (backTo pos (starEach [] X.env)).any (·.1) = false) :
    ED X W m (.Call (.Name x p) [a] [] pos) (eOp1 gg fa) :=
  d_op1 ha (fun h => pe_imp (pe_callB hc hg hm hv (pa_cons h pa_nil hs) hn hdb hs hpl) fun σ H Q z => z) hr
theorem d_callTy {x : Str} {T : String} {r : List V → Hp → VK → Prop} {gg : PyData → Option PyData} (hc : CallR X (.type T) r) (hm : X.mg x = none) (hv : bootBuiltins x = some (.type T)) (ha : ED X W ma a fa)
    (hr : ∀ (x : V) (d z : PyData) (H : Hp) (O Ob : List Addr) (Q : VK), Frm H O Ob → RpM X.K H O Ob ma x d → gg d = some z → (∀ v H', Ex H H' → RpM X.K H' O Ob m v z → Q v H') → r [x] H Q)
    (hg : Gl X x) (hn : x ≠ "__name__") (hdb : (x == ("__debug__" : Str)) = false)
    (hs : starEach [a] X.env = (false, eval a X.env) :: starEach [] X.env) (hpl : (backTo pos (starEach [] X.env)).any (·.1) = false) :
    ED X W m (.Call (.Name x p) [a] [] pos) (eOp1 gg fa) :=
  d_op1 ha (fun h => pe_imp (pe_callTy hc hg hm hv (pa_cons h pa_nil hs) hn hdb hs hpl) fun σ H Q z => z) hr
theorem f_callTy {x : Str} {T : String} {r : List V → Hp → VK → Prop} {gg : PyData → Option PyData} (hc : CallR X (.type T) r) (hm : X.mg x = none) (hv : bootBuiltins x = some (.type T)) (ha : ED X W ma a fa)
    (hr : ∀ (x : V) (d z : PyData) (H : Hp) (O Ob : List Addr) (Q : VK), Frm H O Ob → RpM X.K H O Ob ma x d → gg d = some z → (∀ p H', H p = none → Ex H H' → Own X.K H' (p :: m.av O Ob) p z → Q (.ref p) H') → r [x] H Q)
    (hg : Gl X x) (hn : x ≠ "__name__") (hdb : (x == ("__debug__" : Str)) = false)
    (hs : starEach [a] X.env = (false, eval a X.env) :: starEach [] X.env) (hpl : (backTo pos (starEach [] X.env)).any (·.1) = false) :
    FD X W m (.Call (.Name x p) [a] [] pos) (eOp1 gg fa) :=
  f_op1 ha (fun h => pe_imp (pe_callTy hc hg hm hv (pa_cons h pa_nil hs) hn hdb hs hpl) fun σ H Q z => z) hr
def gLen : PyData → Option PyData
  | .list xs => some (.int xs.length)
  | .tuple xs => some (.int xs.length)
  | .str s => if s.length ≤ lim then some (.int s.length) else none
  | _ => none
theorem d_len (hm : X.mg "len" = none) (ha : ED X W ma a fa) (hg : Gl X "len" := by rfl) (hs : starEach [a] X.env = (false, eval a X.env) :: starEach [] X.env := by rfl) (hpl : (backTo pos (starEach [] X.env)).any (·.1) = false := by rfl) :
    ED X W m (.Call (.Name "len" p) [a] [] pos) (eOp1 gLen fa) :=
  d_callB call_len hm PySem.boot_len ha (fun x d z H O Ob Q F r qz o => by
    cases d with
    | list xs =>
      cases qz
      obtain ⟨p, us, rfl, hp, q1⟩ := rpm_lst r
      exact ⟨_, xs.length, rfl, .inl ⟨us, sqL_of hp, q1.length.symm⟩, o _ H (Ex.refl H) (RpM.of_av (.int _))⟩
    | tuple xs =>
      cases qz
      obtain ⟨p, us, rfl, hp, q1⟩ := rpm_tup r
      exact ⟨_, xs.length, rfl, .inr ⟨us, sqT_of hp, q1.length.symm⟩, o _ H (Ex.refl H) (RpM.of_av (.int _))⟩
    | str s =>
      by_cases hl : s.length ≤ lim
      · simp only [gLen, if_pos hl, Option.some.injEq] at qz
        subst qz
        exact ⟨_, s.length, rfl, by rw [rpm_str r]; exact ⟨lim_line hl, rfl⟩, o _ H (Ex.refl H) (RpM.of_av (.int _))⟩
      · simp only [gLen, if_neg hl] at qz
        cases qz
    | _ => cases qz) hg (by decide) (by decide) hs hpl
/-- of the script -/
def isScr : List (PyData × PyData) → Bool
  | (.none, .none) :: _ => true
  | _ => false
theorem rpm_scr' {H : Hp} {O Ob : List Addr} {x : V} {es : List (PyData × PyData)} (k : isScr es = true) (h : RpM X.K H O Ob m x (.dict es)) : ∃ a ns, x = .ref a ∧ es = scrE ns ∧ SqL X.K H a (ns.map V.int) := by
  have go : ∀ (O : List Addr), Rp X.K H O x (.dict es) → ∃ a ns, x = .ref a ∧ es = scrE ns ∧ SqL X.K H a (ns.map V.int) := fun O hk => by
    cases hk with
    | dic _ _ r => cases r <;> cases k
    | scr hk e => exact ⟨_, _, rfl, e, hk.sq⟩
  cases m with
  | S => exact go _ h
  | E => exact go _ h
  | B =>
    rcases h with h | ⟨a, rfl, kvs, _, r⟩
    · exact go _ h
    · cases r <;> cases k
def gLenS : PyData → Option PyData
  | .dict es => if isScr es then some (.int ((es.length - 1 : Nat) : Int)) else none
  | _ => none
theorem scrE_len (ns : List Int) : (scrE ns).length - 1 = ns.length := by simp [scrE]
theorem d_lenS (hm : X.mg "len" = none) (ha : ED X W ma a fa) (hg : Gl X "len" := by rfl) (hs : starEach [a] X.env = (false, eval a X.env) :: starEach [] X.env := by rfl) (hpl : (backTo pos (starEach [] X.env)).any (·.1) = false := by rfl) :
    ED X W m (.Call (.Name "len" p) [a] [] pos) (eOp1 gLenS fa) :=
  d_callB call_len hm PySem.boot_len ha (fun x d z H O Ob Q F r qz o => by
    cases d with
    | dict es =>
      by_cases k : isScr es = true
      · simp only [gLenS, if_pos k, Option.some.injEq] at qz
        subst qz
        obtain ⟨p, ns, rfl, rfl, hp⟩ := rpm_scr' k r
        exact ⟨_, _, rfl, .inl ⟨_, hp, by rw [List.length_map, scrE_len]⟩, o _ H (Ex.refl H) (RpM.of_av (.int _))⟩
      · simp only [gLenS, if_neg k] at qz
        cases qz
    | _ => cases qz) hg (by decide) (by decide) hs hpl
def gIxS : PyData → PyData → Option PyData
  | .dict es, .int i => if isScr es && decide (0 ≤ i) then (es[i.toNat + 1]?).map (·.2) else none
  | _, _ => none
theorem d_ixS (ha : ED X W ma a fa) (hb : ED X W mb b fb) (hs : PlainIx b := by intro _ _; rfl) : ED X W m (.Subscript a b pos) (eOp2 gIxS fa fb) := by
  refine d_op2 ha hb (fun h1 h2 => pe_ix ix_list h1 h2 hs) fun x y d d' z H O Ob Q F r1 r2 qz o => ?_
  unfold gIxS at qz
  split at qz
  · rename_i es i
    split at qz
    · rename_i k
      have k' := Bool.and_eq_true_iff.mp k
      obtain ⟨p, ns, rfl, rfl, hp⟩ := rpm_scr' k'.1 r1
      have e1 : (scrE ns)[i.toNat + 1]? = (ns[i.toNat]?).map fun n => (.none, .int n) := by
        simp [scrE]
      rw [e1] at qz
      cases q : ns[i.toNat]? with
      | none => rw [q] at qz; cases qz
      | some n =>
        rw [q] at qz
        cases qz
        have hi : 0 ≤ i := of_decide_eq_true k'.2
        refine ⟨p, _, i, .int n, rfl, rpm_int r2, hp, ?_, o _ H (Ex.refl H) (RpM.of_av (.int _))⟩
        exact at_of (j := i.toNat) (by omega) (by rw [List.getElem?_map, q]; rfl)
    · cases qz
  · cases qz
def gList : PyData → Option PyData
  | .list xs => some (.list xs)
  | .tuple xs => some (.list xs)
  | _ => none
theorem f_list (hm : X.mg "list" = none) (ha : ED X W ma a fa) (ca : ma = .E → m = .E := by decide) (hg : Gl X "list" := by rfl) (hs : starEach [a] X.env = (false, eval a X.env) :: starEach [] X.env := by rfl) (hpl : (backTo pos (starEach [] X.env)).any (·.1) = false := by rfl) :
    FD X W m (.Call (.Name "list" p) [a] [] pos) (eOp1 gList fa) :=
  f_callTy call_list_of hm (by decide +kernel) ha (fun x d z H O Ob Q F r qz o => by
    cases d with
    | list xs =>
      cases qz
      obtain ⟨p, us, rfl, hp, q1⟩ := rpm_lst r
      exact ⟨p, us, rfl, .inl (sqL_of hp), fun l hl => o l _ hl (Evl.Ex.new hl) ⟨us, upd_same, (q1.av F ca).new hl⟩⟩
    | tuple xs =>
      cases qz
      obtain ⟨p, us, rfl, hp, q1⟩ := rpm_tup r
      exact ⟨p, us, rfl, .inr (sqT_of hp), fun l hl => o l _ hl (Evl.Ex.new hl) ⟨us, upd_same, (q1.av F ca).new hl⟩⟩
    | _ => cases qz) hg (by decide) (by decide) hs hpl
def gTuple : PyData → Option PyData
  | .list xs => some (.tuple xs)
  | .tuple xs => some (.tuple xs)
  | _ => none
theorem d_tuple (hm : X.mg "tuple" = none) (ha : ED X W ma a fa) (ca : ma = .E → m = .E := by decide) (hg : Gl X "tuple" := by rfl) (hs : starEach [a] X.env = (false, eval a X.env) :: starEach [] X.env := by rfl) (hpl : (backTo pos (starEach [] X.env)).any (·.1) = false := by rfl) :
    ED X W m (.Call (.Name "tuple" p) [a] [] pos) (eOp1 gTuple fa) :=
  d_callTy call_tuple_of hm (by decide +kernel) ha (fun x d z H O Ob Q F r qz o => by
    cases d with
    | list xs =>
      cases qz
      obtain ⟨p, us, rfl, hp, q1⟩ := rpm_lst r
      exact ⟨p, us, rfl, .inl ⟨sqL_of hp, fun l hl => o _ _ (Evl.Ex.new hl) (RpM.of_av (.tup upd_same ((q1.av F ca).ex (Evl.Ex.new hl))))⟩⟩
    | tuple xs =>
      cases qz
      obtain ⟨p, us, rfl, hp, q1⟩ := rpm_tup r
      exact ⟨p, us, rfl, .inr ⟨sqT_of hp, o _ H (Ex.refl H) (RpM.of_av (.tup hp (q1.av F ca)))⟩⟩
    | _ => cases qz) hg (by decide) (by decide) hs hpl
def gInt1 : PyData → Option PyData
  | .int i => some (.int i)
  | .bool b => some (.int (if b then 1 else 0))
  | _ => none
theorem d_int1 (hm : X.mg "int" = none) (ha : ED X W ma a fa) (hg : Gl X "int" := by rfl) (hs : starEach [a] X.env = (false, eval a X.env) :: starEach [] X.env := by rfl) (hpl : (backTo pos (starEach [] X.env)).any (·.1) = false := by rfl) :
    ED X W m (.Call (.Name "int" p) [a] [] pos) (eOp1 gInt1 fa) :=
  d_callTy call_int1 hm (by decide +kernel) ha (fun x d z H O Ob Q F r qz o => by
    cases d with
    | int i => cases qz; exact .inl ⟨i, by rw [rpm_int r], o _ H (Ex.refl H) (RpM.of_av (.int _))⟩
    | bool i => cases qz; exact .inr ⟨i, by rw [rpm_bl r], o _ H (Ex.refl H) (RpM.of_av (.int _))⟩
    | _ => cases qz) hg (by decide) (by decide) hs hpl
def gIx : PyData → PyData → Option PyData
  | .list xs, .int i => atI xs i
  | .tuple xs, .int i => atI xs i
  | .str s, .int i => if s.length ≤ lim then (atI s.cps.toList i).map fun c => .str ⟨#[c]⟩ else none
  | _, _ => none
theorem RpA.at {K : PySem.W.Frag} {H : Hp} {O : List Addr} {vs : List V} {ds : List PyData} {i : Int} {d : PyData} (r : RpA K H O vs ds) (h : atI ds i = some d) : ∃ v, atI vs i = some v ∧ Rp K H O v d := by
  unfold atI at h ⊢
  rw [r.length]
  cases q : ixN ds.length i with
  | none => rw [q] at h; cases h
  | some j =>
    rw [q] at h
    exact r.get h
theorem d_ix (ha : ED X W ma a fa) (hb : ED X W mb b fb) (ca : ma = .E → m = .E := by decide) (hs : PlainIx b := by intro _ _; rfl) : ED X W m (.Subscript a b pos) (eOp2 gIx fa fb) := by
  refine d_op2 ha hb (fun h1 h2 => pe_ix ix_seq h1 h2 hs) fun x y d d' z H O Ob Q F r1 r2 qz o => ?_
  unfold gIx at qz
  split at qz
  · obtain ⟨p, us, rfl, hp, q1⟩ := rpm_lst r1
    obtain ⟨v, h1, h2⟩ := q1.at qz
    exact .inl ⟨p, us, _, v, rfl, rpm_int r2, sqL_of hp, h1, o v H (Ex.refl H) (RpM.item F ca h2)⟩
  · obtain ⟨p, us, rfl, hp, q1⟩ := rpm_tup r1
    obtain ⟨v, h1, h2⟩ := q1.at qz
    exact .inr (.inl ⟨p, us, _, v, rfl, rpm_int r2, sqT_of hp, h1, o v H (Ex.refl H) (RpM.item F ca h2)⟩)
  · split at qz
    · rename_i s i hl
      cases q : atI s.cps.toList i with
      | none => rw [q] at qz; cases qz
      | some c =>
        rw [q] at qz
        cases qz
        exact .inr (.inr ⟨s, i, c, rpm_str r1, rpm_int r2, lim_line hl, q, o _ H (Ex.refl H) (RpM.of_av (.str _))⟩)
    · cases qz
  · cases qz
/-- d[k] -/
def gGetD : PyData → PyData → Option PyData
  | .dict es, k => if okD es then (toKey k).bind fun _ => esGet es k else none
  | _, _ => none
theorem d_getD (hu : X.A.units + 1 < cLine) (ha : ED X W ma a fa) (hb : ED X W mb b fb) (ca : ma = .E → m = .E := by decide) (hs : NoSl b := by exact fun _ _ => rfl) : ED X W m (.Subscript a b pos) (eOp2 gGetD fa fb) := by
  refine d_op2 (r := fun x y H Q => ∃ a v, x = .ref a ∧ DGet H a y (some v) ∧ Q v H) ha hb (fun h1 h2 => pe_imp (pe_dget hu h1 h2 hs) fun _ _ _ z => z) fun x y d d' z H O Ob Q F r1 r2 qz o => ?_
  · unfold gGetD at qz
    split at qz
    · rename_i es
      split at qz
      · rename_i ok
        cases q : toKey d' with
        | none => rw [q] at qz; cases qz
        | some k =>
          rw [q] at qz
          have := toKey_kD q
          subst this
          have qz : esGet es (keyD k) = some z := qz
          obtain ⟨p, kvs, rfl, hp, r⟩ := rpm_dic ok r1
          obtain ⟨b, rfl, hb⟩ := rpm_key r2
          rcases r.get k with ⟨h1, h2⟩ | ⟨v, d, h1, h2, h3⟩
          · rw [h2] at qz; cases qz
          · rw [h2] at qz
            cases qz
            exact ⟨p, v, rfl, h1 ▸ DGet.t hp hb, o v H (Ex.refl H) (RpM.item F ca h3)⟩
      · cases qz
    · cases qz
end
end DL
namespace DL
open PySem PySem.Spec PyProof.Rows L2
open Evl (Ex fresh_back)

/-- the def x keeps the promise Fm, at level k -/
def DefOk (P : Program) (w : World) (K : PySem.W.Frag) (mg : Str → Option Value) (base : Heap) (x : Str) (ps : List Str) (k : Nat) (Fm : List PyData → Res PyData) : Prop :=
  ∃ f fd, FnOk P w K mg base (L2.CX P w) k f fd ps (spD K mg Fm) ∧ mg x = some (.ref f) ∧ PySem.W.keepIn K (.ref f) = true ∧ Binds K fd ps []
section
variable {X : Cx} {W : WX} {m ma mb mc : Mode} {e a b c : Expr} {f fa fb fc : EF} {pos p pos2 : Pos} {es : List Expr} {g : AF}
def eCall (Fm : List PyData → Res PyData) (g : AF) : EF := fun ρ => (g ρ).bind Fm
theorem d_call {x : Str} {ps : List Str} {k : Nat} {Fm : List PyData → Res PyData} (D : DefOk X.prog X.w X.K X.mg X.base x ps k Fm) (hr : Room k X.A) (tk : Takes X W) (ha : AD X W m (e :: es) g) (hg : Gl X x := by rfl)
    (hdb : (x == ("__debug__" : Str)) = false := by decide) (he : starEach (e :: es) X.env = (false, eval e X.env) :: starEach es X.env := by rfl) (hpl : (backTo pos (starEach es X.env)).any (·.1) = false := by rfl) :
    ED X W m (.Call (.Name x p) (e :: es) [] pos) (eCall Fm g) := by
  obtain ⟨fA, fd, F, hm, hk, hb⟩ := D
  refine pe_imp (pe_callS F hr hg hm hk hb (fun σ => passAt tk σ) ha hdb he hpl) fun σ H Q ⟨ρ, O, Ob, s, o⟩ => ?_
  refine ⟨ρ, O, Ob, s, ?_⟩
  unfold eCall at o
  cases qa : g ρ with
  | bad => simp only [qa] at o; exact o.elim
  | exc c => simp only [qa] at o; exact o
  | ok ds =>
    simp only [qa, bind_ok] at o
    intro vs H1 e1 r1
    refine ⟨m.av O Ob, ds, fun b hb => ex_live e1 (s.liv b ?_), r1, ?_⟩
    · cases m with
      | E => exact s.sub b hb
      | _ => exact hb
    · cases qb : Fm ds with
      | bad => rw [qb] at o; exact o.elim
      | exc c =>
        rw [qb] at o
        exact fun H' C e2 hC => o H' C (e1.trans e2) hC
      | ok d =>
        rw [qb] at o
        exact fun v H' e2 r => o v H' (e1.trans e2) (RpM.of_av r)
end

/-- the heap without this frame's own objects -/
def frz (H : Hp) (O Ob : List Addr) : Hp := fun a => if a ∈ O ∧ a ∉ Ob then none else H a
theorem frz_ex (H : Hp) (O Ob : List Addr) : Ex (frz H O Ob) H := fun a o h => by
  unfold frz at h
  split at h
  · cases h
  · exact h
theorem frz_none {H : Hp} {O Ob : List Addr} {b : Addr} (h : b ∈ O) : b ∈ Ob ∨ frz H O Ob b = none := by
  by_cases q : b ∈ Ob
  · exact .inl q
  · exact .inr (by unfold frz; rw [if_pos ⟨h, q⟩])
theorem frz_out {H : Hp} {O Ob : List Addr} {b : Addr} (h : b ∉ O) : frz H O Ob b = H b := by
  unfold frz
  rw [if_neg fun z => h z.1]
theorem Car.frz {K : PySem.W.Frag} {H : Hp} {O Ob : List Addr} {σ : L2.St} {ρ : En} (s : Sls K H O Ob σ ρ) : Car H (frz H O Ob) O Ob := by
  have ne : ∀ (b : Addr) (o : HO), H b = some o → ¬ Mu o → DL.frz H O Ob b = some o := fun b o h n => by
    unfold DL.frz
    split
    · rename_i q
      rcases s.mine b q.1 with z | ⟨o', h', mu⟩
      · exact absurd z q.2
      · rw [h] at h'
        cases h'
        exact absurd mu n
    · exact h
  exact ⟨fun a xs h n => ⟨by rw [frz_out n]; exact h, fun z => n (s.sub _ z)⟩, fun a o u h => ne a _ h id, fun a xs h => ne a _ h id, fun a xs h n => ⟨by rw [frz_out n]; exact h, fun z => n (s.sub _ z)⟩⟩
structure Walks (K : PySem.W.Frag) (J : It) (ds : List PyData) (Oc : List Addr) (B : Hp) : Prop where
  go : ∀ i H', Ex B H' → i < ds.length → J.go i H'
  yld : ∀ i d x H' H'', Ex B H' → ds[i]? = some d → J.yld i H' x H'' → Ex H' H'' ∧ ∀ O', (∀ b ∈ O', H' b ≠ none) → (∀ b ∈ O', b ∈ Oc ∨ B b = none) → Rp K H'' O' x d
  stop : ∀ i H', Ex B H' → ds.length ≤ i → J.stop i H'
/-- what stands while it is walked: all but the frame's own objects; lent: all -/
def Mode.bas (H : Hp) (O Ob : List Addr) : Mode → Hp
  | .B => H
  | _ => frz H O Ob
def Mode.cor (O Ob : List Addr) : Mode → List Addr
  | .B => O
  | _ => Ob
theorem bas_ex (H : Hp) (O Ob : List Addr) (m : Mode) : Ex (m.bas H O Ob) H := by
  cases m with
  | B => exact Ex.refl H
  | _ => exact frz_ex H O Ob
theorem bas_cor {H : Hp} {O Ob : List Addr} {m : Mode} {b : Addr} (h : b ∈ O) : b ∈ m.cor O Ob ∨ m.bas H O Ob b = none := by
  cases m with
  | B => exact .inl h
  | _ => exact frz_none h
theorem bas_free {H : Hp} {O Ob : List Addr} {m : Mode} {b : Addr} (h : H b = none) : m.bas H O Ob b = none := by
  have : ∀ o, m.bas H O Ob b = some o → False := fun o z => by
    have := bas_ex H O Ob m b o z
    rw [h] at this
    cases this
  cases q : m.bas H O Ob b with
  | none => rfl
  | some o => exact (this o q).elim
theorem Car.bas {K : PySem.W.Frag} {H : Hp} {O Ob : List Addr} {σ : L2.St} {ρ : En} (s : Sls K H O Ob σ ρ) (m : Mode) : Car H (m.bas H O Ob) O (m.cor O Ob) := by
  cases m with
  | B => exact Car.ex (Ex.refl H)
  | _ => exact Car.frz s
abbrev IF := En → Res (List PyData)
def OutI (K : PySem.W.Frag) (mg : Str → Option Value) (W : WX) (m : Mode) (O Ob : List Addr) (σ : L2.St) (H : Hp) (R : It → Hp → Prop) : Res (List PyData) → Prop
  | .ok ds => ∀ J H1, Ex H H1 → Walks K J ds (m.cor O Ob) (m.bas H1 O Ob) → R J H1
  | .exc c => ∀ H' C, Ex H H' → mg c = some (.ref C) → W (.ref C) none σ H'
  | .bad => False
def rdI (K : PySem.W.Frag) (mg : Str → Option Value) (W : WX) (m : Mode) (f : IF) : TI := fun σ H R => ∃ ρ O Ob, Sls K H O Ob σ ρ ∧ OutI K mg W m O Ob σ H R (f ρ)
def ID (X : Cx) (W : WX) (m : Mode) (tg iter : Expr) (f : IF) : Prop := PI X tg iter (rdI X.K X.mg W m f)
theorem pi_imp {X : Cx} {tg iter : Expr} {t t' : TI} (h : PI X tg iter t) (i : ∀ σ H R, t' σ H R → t σ H R) : PI X tg iter t' := ⟨fun pins s σ H R I q => h.run pins s σ H R I (i _ _ _ q)⟩

section
variable {X : Cx} {W : WX} {m ma mb mc : Mode} {e a b c tg : Expr} {f fa fb fc : EF} {pos p pos2 : Pos} {es : List Expr} {g : AF}
/-- a list or a tuple -/
def iSeq (K : PySem.W.Frag) (tl : TE) : TI := fun σ H R => tl σ H fun x H1 => ∃ a, x = .ref a ∧ (((∃ xs, SqL K H1 a xs) ∧ R (Itl K a) H1) ∨ ((∃ xs, SqT K H1 a xs) ∧ R (Itt K a) H1))
theorem pi_seq {l : Expr} {tl : TE} (hl : PE X l tl) : PI X tg l (iSeq X.K tl) := by
  refine ⟨fun pins s σ H R I h => ?_⟩
  refine thn (hl.run pins s σ H _ I h) fun v s1 ⟨x, H1, I1, r1, q1⟩ => ?_
  obtain ⟨a, e, q1⟩ := q1
  subst e
  cases r1
  rcases q1 with ⟨⟨xs, hq⟩, q⟩ | ⟨⟨xs, hq⟩, q⟩
  · obtain ⟨its, rv, p, hz⟩ := I1.list hq
    refine wpAny_pyIter_list p.isList ?_
    refine ⟨s1.heap.objs.size, [s1.heap.objs.size], _, _, H1, rfl, I1.kept (t' := s1.toks) fun b o e => Heap.get?_push_of_some _ e, turn_list a _, ⟨_, Heap.get?_push_size _ rfl, rfl, rfl⟩, fun b hb => ?_, q⟩
    have e : b = s1.heap.objs.size := by simpa using hb
    subst e
    exact I1.fpOk (Nat.le_refl _) (I1.hok.fresh (Nat.le_refl _))
  · obtain ⟨its, rv, p, hz⟩ := I1.tuple hq
    refine wpAny_pyIter_tuple (show s1.heap.IsTuple a its.toArray from p) ?_
    refine ⟨s1.heap.objs.size, [s1.heap.objs.size], _, _, H1, rfl, I1.kept (t' := s1.toks) fun b o e => Heap.get?_push_of_some _ e, turn_tuple a _, ⟨_, Heap.get?_push_size _ rfl, rfl, rfl⟩, fun b hb => ?_, q⟩
    have e : b = s1.heap.objs.size := by simpa using hb
    subst e
    exact I1.fpOk (Nat.le_refl _) (I1.hok.fresh (Nat.le_refl _))
def items : PyData → Res (List PyData)
  | .list ds => .ok ds
  | .tuple ds => .ok ds
  | _ => .bad
theorem SqL.uniq {K : PySem.W.Frag} {H : Hp} {a : Addr} {xs : List V} (h : H a = some (.lst xs)) : ∀ (P : List V → Prop), P xs → SqL K H a xs := fun _ _ => .inl (.inl h)
theorem walks_list {K : PySem.W.Frag} {B : Hp} {Oc : List Addr} {a : Addr} {xs : List V} {ds : List PyData} (h : B a = some (.lst xs)) (r : RpA K B Oc xs ds) : Walks K (Itl K a) ds Oc B where
  go := fun i H' e hi => by
    have hx : i < xs.length := by rw [r.length]; exact hi
    exact ⟨xs, xs[i], sqL_of (e a _ h), List.getElem?_eq_getElem hx⟩
  yld := fun i d x H' H'' e hd hy => by
    obtain ⟨rfl, hx⟩ := hy
    refine ⟨Ex.refl _, fun O' h1 h2 => ?_⟩
    obtain ⟨v, hv, rv⟩ := r.get hd
    have := hx xs (sqL_of (e a _ h))
    rw [hv] at this
    cases this
    exact Rp.car (Car.base e h2) _ _ rv
  stop := fun i H' e hi => ⟨xs, sqL_of (e a _ h), by rw [r.length]; exact hi⟩
theorem walks_tup {K : PySem.W.Frag} {B : Hp} {Oc : List Addr} {a : Addr} {xs : List V} {ds : List PyData} (h : B a = some (.tup xs)) (r : RpA K B Oc xs ds) : Walks K (Itt K a) ds Oc B where
  go := fun i H' e hi => by
    have hx : i < xs.length := by rw [r.length]; exact hi
    exact ⟨xs, xs[i], sqT_of (e a _ h), List.getElem?_eq_getElem hx⟩
  yld := fun i d x H' H'' e hd hy => by
    obtain ⟨rfl, hx⟩ := hy
    refine ⟨Ex.refl _, fun O' h1 h2 => ?_⟩
    obtain ⟨v, hv, rv⟩ := r.get hd
    have := hx xs (sqT_of (e a _ h))
    rw [hv] at this
    cases this
    exact Rp.car (Car.base e h2) _ _ rv
  stop := fun i H' e hi => ⟨xs, sqT_of (e a _ h), by rw [r.length]; exact hi⟩
/-- a value that is walked, in the heap that stands -/
theorem rpm_bas_lst {H : Hp} {O Ob : List Addr} {σ : L2.St} {ρ : En} {x : V} {ds : List PyData} (s : Sls X.K H O Ob σ ρ) (n : m ≠ .E) (h : RpM X.K H O Ob m x (.list ds)) :
    ∃ a xs, x = .ref a ∧ H a = some (.lst xs) ∧ m.bas H O Ob a = some (.lst xs) ∧ RpA X.K (m.bas H O Ob) (m.cor O Ob) xs ds := by
  cases m with
  | E => exact absurd rfl n
  | S =>
    cases h with
    | lst h n r => exact ⟨_, _, rfl, h, ((Car.frz s).l _ _ h n).1, RpA.car (Car.frz s) _ _ r⟩
  | B =>
    obtain ⟨a, xs, rfl, h, r⟩ := rpm_lst h
    exact ⟨a, xs, rfl, h, h, r⟩
theorem rpm_bas_tup {H : Hp} {O Ob : List Addr} {σ : L2.St} {ρ : En} {x : V} {ds : List PyData} (s : Sls X.K H O Ob σ ρ) (n : m ≠ .E) (h : RpM X.K H O Ob m x (.tuple ds)) :
    ∃ a xs, x = .ref a ∧ H a = some (.tup xs) ∧ m.bas H O Ob a = some (.tup xs) ∧ RpA X.K (m.bas H O Ob) (m.cor O Ob) xs ds := by
  cases m with
  | E => exact absurd rfl n
  | S =>
    cases h with
    | tup h r => exact ⟨_, _, rfl, h, (Car.frz s).t _ _ h, RpA.car (Car.frz s) _ _ r⟩
  | B =>
    obtain ⟨a, xs, rfl, h, r⟩ := rpm_tup h
    exact ⟨a, xs, rfl, h, h, r⟩
def itSeq (f : EF) : IF := fun ρ => (f ρ).bind items
theorem i_seq (h : ED X W m e f) (n : m ≠ .E := by decide) : ID X W m tg e (itSeq f) := pi_imp (pi_seq h) fun σ H R ⟨ρ, O, Ob, s, o⟩ => by
  refine ⟨ρ, O, Ob, s, ?_⟩
  unfold itSeq at o
  cases qa : f ρ with
  | bad => simp only [qa] at o; exact o.elim
  | exc c => simp only [qa] at o; exact o
  | ok d =>
    simp only [qa, bind_ok] at o
    intro x H1 e1 r1
    cases d with
    | list ds =>
      obtain ⟨a, xs, rfl, h1, h2, r⟩ := rpm_bas_lst (s.ex e1) n r1
      exact ⟨a, rfl, .inl ⟨⟨xs, sqL_of h1⟩, o _ H1 e1 (walks_list h2 r)⟩⟩
    | tuple ds =>
      obtain ⟨a, xs, rfl, h1, h2, r⟩ := rpm_bas_tup (s.ex e1) n r1
      exact ⟨a, rfl, .inr ⟨⟨xs, sqT_of h1⟩, o _ H1 e1 (walks_tup h2 r)⟩⟩
    | _ => exact o.elim
/-- range(n) -/
def rangeD (lo : Int) (n : Nat) : List PyData := (List.range n).map fun i => .int (lo + (i : Nat))
theorem walks_range {K : PySem.W.Frag} {B : Hp} {Oc : List Addr} (lo : Int) (n : Nat) : Walks K (Itr lo n) (rangeD lo n) Oc B where
  go := fun i H' e hi => by
    have : i < n := by simpa [rangeD] using hi
    exact this
  yld := fun i d x H' H'' e hd hy => by
    obtain ⟨rfl, rfl⟩ := hy
    have : d = .int (lo + (i : Nat)) := by
      unfold rangeD at hd
      rw [List.getElem?_map] at hd
      cases q : (List.range n)[i]? with
      | none => rw [q] at hd; cases hd
      | some j =>
        rw [q] at hd
        cases hd
        have := List.getElem?_eq_some_iff.mp q
        obtain ⟨h1, h2⟩ := this
        rw [List.getElem_range] at h2
        rw [h2]
    subst this
    exact ⟨Ex.refl _, fun O' _ _ => .int _⟩
  stop := fun i H' e hi => by
    have : n ≤ i := by simpa [rangeD] using hi
    exact this
def fRng1 (d : List PyData) : Res (List PyData) := match d with
  | [.int j] => if -1000000 ≤ j ∧ j ≤ 1000000 then .ok (rangeD 0 j.toNat) else .bad
  | _ => .bad
def itRng1 (g : AF) : IF := fun ρ => (g ρ).bind fRng1
theorem i_range1 (hm : X.mg "range" = none) (ha : AD X W .S [a] g) (hg : Gl X "range" := by rfl) (hs : starEach [a] X.env = [(false, eval a X.env)] := by rfl) : ID X W m tg (.Call (.Name "range" p) [a] [] pos) (itRng1 g) := pi_imp (pi_range1 hg hm ha hs) fun σ H R ⟨ρ, O, Ob, s, o⟩ => by
  refine ⟨ρ, O, Ob, s, ?_⟩
  unfold itRng1 at o
  cases qa : g ρ with
  | bad => simp only [qa] at o; exact o.elim
  | exc c => simp only [qa] at o; exact o
  | ok d =>
    simp only [qa, bind_ok] at o
    intro x H1 e1 r1
    unfold fRng1 at o
    split at o
    · split at o
      · rename_i j hj
        cases r1 with
        | cons h r =>
          cases h
          cases r
          exact ⟨j, rfl, by omega, by omega, o _ H1 e1 (walks_range 0 _)⟩
      · exact o.elim
    · exact o.elim
def fRng2 (d : List PyData) : Res (List PyData) := match d with
  | [.int i, .int j] => if (-1000000 ≤ i ∧ i ≤ 1000000) ∧ (-1000000 ≤ j ∧ j ≤ 1000000) then .ok (rangeD i (j - i).toNat) else .bad
  | _ => .bad
def itRng2 (g : AF) : IF := fun ρ => (g ρ).bind fRng2
theorem i_range2 (hm : X.mg "range" = none) (ha : AD X W .S [a, b] g) (hg : Gl X "range" := by rfl) (hs : starEach [a, b] X.env = [(false, eval a X.env), (false, eval b X.env)] := by rfl) (hs2 : starEach [b] X.env = [(false, eval b X.env)] := by rfl) :
    ID X W m tg (.Call (.Name "range" p) [a, b] [] pos) (itRng2 g) := pi_imp (pi_range2 hg hm ha hs hs2) fun σ H R ⟨ρ, O, Ob, s, o⟩ => by
  refine ⟨ρ, O, Ob, s, ?_⟩
  unfold itRng2 at o
  cases qa : g ρ with
  | bad => simp only [qa] at o; exact o.elim
  | exc c => simp only [qa] at o; exact o
  | ok d =>
    simp only [qa, bind_ok] at o
    intro x H1 e1 r1
    unfold fRng2 at o
    split at o
    · split at o
      · rename_i i j hj
        cases r1 with
        | cons h r =>
          cases h
          cases r with
          | cons h r =>
            cases h
            cases r
            exact ⟨i, j, rfl, ⟨by omega, by omega, by omega, by omega⟩, o _ H1 e1 (walks_range i _)⟩
      · exact o.elim
    · exact o.elim
end
end DL
namespace DL
open PySem PySem.Spec PyProof.Rows L2
open Evl (Ex fresh_back)

section
variable {K : PySem.W.Frag} {H H' : Hp} {O Ob : List Addr} {σ : L2.St} {ρ : En}
theorem Sls.im {i : Nat} {v : V} {d : PyData} (s : Sls K H O Ob σ ρ) (r : Rp K H O v d) : Sls K H O Ob (σ.set i (some v)) (ρ.set i (.im d)) := by
  refine ⟨by rw [List.length_set, List.length_set]; exact s.len, fun j sl h => ?_, fun j k a d1 d2 h1 h2 h3 h4 => ?_, s.liv, s.sub, s.mine⟩
  · by_cases e : i = j
    · subst e
      have hl : i < ρ.length := by
        have := (List.getElem?_eq_some_iff.mp h).1
        rwa [List.length_set] at this
      rw [List.getElem?_set_self hl] at h
      cases h
      exact ⟨v, by rw [List.getElem?_set_self (by rw [← s.len]; exact hl)], r⟩
    · rw [List.getElem?_set_ne e] at h ⊢
      exact s.at_ j sl h
  · have ne : ∀ {k : Nat} {d : PyData}, (ρ.set i (.im d))[k]? = some (.own d1) → False ∨ i ≠ k := fun {k d} h => by
      by_cases e : i = k
      · subst e
        have hl : i < ρ.length := by
          have := (List.getElem?_eq_some_iff.mp h).1
          rwa [List.length_set] at this
        rw [List.getElem?_set_self hl] at h
        cases h
      · exact .inr e
    have n1 : i ≠ j := fun e => by
      subst e
      have hl : i < ρ.length := by
        have := (List.getElem?_eq_some_iff.mp h1).1
        rwa [List.length_set] at this
      rw [List.getElem?_set_self hl] at h1
      cases h1
    have n2 : i ≠ k := fun e => by
      subst e
      have hl : i < ρ.length := by
        have := (List.getElem?_eq_some_iff.mp h2).1
        rwa [List.length_set] at this
      rw [List.getElem?_set_self hl] at h2
      cases h2
    rw [List.getElem?_set_ne n1] at h1 h3
    rw [List.getElem?_set_ne n2] at h2 h4
    exact s.dist j k a d1 d2 h1 h2 h3 h4
/-- a slot is forgotten -/
theorem Sls.un {i : Nat} {ov : Option V} (s : Sls K H O Ob σ ρ) : Sls K H O Ob (σ.set i ov) (ρ.set i .un) := by
  refine ⟨by rw [List.length_set, List.length_set]; exact s.len, fun j sl h => ?_, fun j k a d1 d2 h1 h2 h3 h4 => ?_, s.liv, s.sub, s.mine⟩
  · by_cases e : i = j
    · subst e
      have hl : i < ρ.length := by
        have := (List.getElem?_eq_some_iff.mp h).1
        rwa [List.length_set] at this
      rw [List.getElem?_set_self hl] at h
      cases h
      trivial
    · rw [List.getElem?_set_ne e] at h ⊢
      exact s.at_ j sl h
  · have n1 : i ≠ j := fun e => by
      subst e
      have hl : i < ρ.length := by
        have := (List.getElem?_eq_some_iff.mp h1).1
        rwa [List.length_set] at this
      rw [List.getElem?_set_self hl] at h1
      cases h1
    have n2 : i ≠ k := fun e => by
      subst e
      have hl : i < ρ.length := by
        have := (List.getElem?_eq_some_iff.mp h2).1
        rwa [List.length_set] at this
      rw [List.getElem?_set_self hl] at h2
      cases h2
    rw [List.getElem?_set_ne n1] at h1 h3
    rw [List.getElem?_set_ne n2] at h2 h4
    exact s.dist j k a d1 d2 h1 h2 h3 h4
end
abbrev GF := PyData → En → Option En
abbrev GsF := List PyData → En → Option En
def rdG (K : PySem.W.Frag) (is : List Nat) (st : GF) : TG := fun v σ H Q => ∃ d ρ O Ob ρ', Sls K H O Ob σ ρ ∧ Rp K H O v d ∧ st d ρ = some ρ' ∧ ∀ σ', Sls K H O Ob σ' ρ' → σ'.length = σ.length → (∀ j, j ∉ is → σ'[j]? = σ[j]?) → Q σ' H
def rdGs (K : PySem.W.Frag) (is : List Nat) (st : GsF) : TGs := fun vs σ H Q => ∃ ds ρ O Ob ρ', Sls K H O Ob σ ρ ∧ RpA K H O vs ds ∧ st ds ρ = some ρ' ∧ ∀ σ', Sls K H O Ob σ' ρ' → σ'.length = σ.length → (∀ j, j ∉ is → σ'[j]? = σ[j]?) → Q σ' H
def GD (X : Cx) (tg : Expr) (is : List Nat) (st : GF) : Prop := PG X tg (rdG X.K is st)
def GsD (X : Cx) (ts : List Expr) (is : List Nat) (st : GsF) : Prop := PGs X ts (rdGs X.K is st)
theorem pg_imp {X : Cx} {tg : Expr} {t t' : TG} (h : PG X tg t) (i : ∀ v σ H Q, t' v σ H Q → t v σ H Q) : PG X tg t' := ⟨fun pins s σ H v u Q I r q => h.run pins s σ H v u Q I r (i _ _ _ _ q)⟩
theorem pgs_imp {X : Cx} {tg : List Expr} {t t' : TGs} (h : PGs X tg t) (i : ∀ v σ H Q, t' v σ H Q → t v σ H Q) : PGs X tg t' := ⟨fun pins s σ H v u Q I r q => h.run pins s σ H v u Q I r (i _ _ _ _ q)⟩
section
variable {X : Cx} {tg e : Expr} {es : List Expr} {is js : List Nat} {st : GF} {sts : GsF} {pos : Pos}
def gtN (i : Nat) : GF := fun d ρ => some (ρ.set i (.im d))
def gtNil : GsF := fun ds ρ => match ds with
  | [] => some ρ
  | _ => none
def gtCons (st : GF) (sts : GsF) : GsF := fun ds ρ => match ds with
  | d :: r => (st d ρ).bind (sts r)
  | _ => none
theorem g_name {i : Nat} {x : Str} (h : PG X (.Name x pos) (gName i)) : GD X (.Name x pos) [i] (gtN i) := pg_imp h fun v σ H Q ⟨d, ρ, O, Ob, ρ', s, r, e, k⟩ => by
  cases e
  exact k _ (s.im r) (List.length_set ..) fun j hj => List.getElem?_set_ne fun z => hj (by rw [z]; exact List.mem_singleton.mpr rfl)
theorem gs_nil : GsD X [] [] gtNil := pgs_imp pgs_nil fun v σ H Q ⟨ds, ρ, O, Ob, ρ', s, r, e, k⟩ => by
  cases r with
  | nil =>
    cases e
    exact ⟨rfl, k _ s rfl fun _ _ => rfl⟩
  | cons _ _ => cases e
theorem gs_cons (h : GD X e is st) (hr : GsD X es js sts) (hs : (assignEach (e :: es) X.env).map (·.2) = assign e X.env :: (assignEach es X.env).map (·.2) := by rfl) :
    GsD X (e :: es) (is ++ js) (gtCons st sts) := pgs_imp (pgs_cons h hr hs) fun v σ H Q ⟨ds, ρ, O, Ob, ρ', s, r, e, k⟩ => by
  cases r with
  | nil => cases e
  | @cons v vs d ds h1 h2 =>
    cases q : st d ρ with
    | none => simp only [gtCons, q] at e; cases e
    | some ρ1 =>
      simp only [gtCons, q, Option.bind_some] at e
      refine ⟨v, vs, rfl, d, ρ, O, Ob, ρ1, s, h1, q, fun σ1 s1 l1 k1 => ?_⟩
      refine ⟨ds, ρ1, O, Ob, ρ', s1, h2, e, fun σ2 s2 l2 k2 => k σ2 s2 (l2.trans l1) fun j hj => ?_⟩
      rw [List.mem_append] at hj
      exact (k2 j fun z => hj (.inr z)).trans (k1 j fun z => hj (.inl z))
def ofTup (n : Nat) (sts : GsF) : GF := fun d ρ => match d with
  | .tuple ds => if ds.length = n then sts ds ρ else none
  | _ => none
theorem g_tup {k n : Nat} (hc : X.calm = true) (h : GsD X es is sts) (hn : (assignEach es X.env).length = n := by rfl) (hst : (assignEach es X.env).findIdx? (·.1) = none := by rfl) : GD X (.Tuple es k pos) is (ofTup n sts) := pg_imp (pg_tup hc h hn hst) fun v σ H Q ⟨d, ρ, O, Ob, ρ', s, r, e, k⟩ => by
  unfold ofTup at e
  split at e
  · rename_i ds
    split at e
    · rename_i hl
      obtain ⟨a, xs, rfl, hp, ra⟩ := rpm_tup (m := .S) (Ob := Ob) r
      exact ⟨a, xs, rfl, sqT_of hp, ra.length.trans hl, ds, ρ, O, Ob, ρ', s, ra, e, k⟩
    · cases e
  · cases e
end

def TsD (X : Cx) (W : WX) (ifs : List Expr) (f : BF) : Prop := PTs X ifs (rdT X.K X.mg W f)
theorem pts_imp {X : Cx} {ifs : List Expr} {t t' : TT} (h : PTs X ifs t) (i : ∀ σ H Q, t' σ H Q → t σ H Q) : PTs X ifs t' := ⟨fun pins s σ H Q I q => h.run pins s σ H Q I (i _ _ _ q)⟩
def bYes : BF := fun _ => .ok true
theorem ts_nil {X : Cx} {W : WX} : TsD X W [] bYes := pts_imp pts_nil fun σ H Q ⟨ρ, O, Ob, s, o⟩ => o H (Ex.refl H)
theorem ts_one {X : Cx} {W : WX} {c : Expr} {f : BF} (h : TD X W c f) : TsD X W [c] f := pts_one h

abbrev W0 : WX := fun _ _ _ _ => False
def wipeE (ρ : En) : List Nat → En
  | [] => ρ
  | v :: vs => (wipeE ρ vs).set v .un
def compGo (st : GF) (t : BF) (el : EF) (ρ0 : En) : List PyData → Res (List PyData)
  | [] => .ok []
  | d :: ds => match st d ρ0 with
    | none => .bad
    | some ρ => match t ρ with
      | .ok true => (match el ρ with
        | .ok x => (compGo st t el ρ0 ds).bind fun xs => .ok (x :: xs)
        | _ => .bad)
      | .ok false => compGo st t el ρ0 ds
      | _ => .bad
def eComp (vs : List Nat) (fi : IF) (st : GF) (t : BF) (el : EF) : EF := fun ρ => (fi ρ).bind fun ds => if ds.length ≤ lim then (compGo st t el (wipeE ρ vs) ds).bind fun xs => .ok (.list xs) else .bad
theorem wipe_len (σ : L2.St) : ∀ vs : List Nat, (wipe σ vs).length = σ.length
  | [] => rfl
  | v :: vs => by
    show ((wipe σ vs).set v none).length = _
    rw [List.length_set, wipe_len σ vs]
theorem wipe_get (σ : L2.St) : ∀ (vs : List Nat) (j : Nat), (wipe σ vs)[j]? = if j ∈ vs then (σ[j]?).map (fun _ => none) else σ[j]?
  | [], j => by simp [wipe]
  | v :: vs, j => by
    show ((wipe σ vs).set v none)[j]? = _
    by_cases e : v = j
    · subst e
      rw [if_pos (List.mem_cons_self)]
      by_cases hl : v < σ.length
      · rw [List.getElem?_set_self (by rw [wipe_len]; exact hl), List.getElem?_eq_getElem hl]
        rfl
      · rw [List.getElem?_eq_none (by rw [List.length_set, wipe_len]; omega), List.getElem?_eq_none (by omega)]
        rfl
    · rw [List.getElem?_set_ne e, wipe_get σ vs j]
      by_cases h : j ∈ vs
      · rw [if_pos h, if_pos (List.mem_cons_of_mem _ h)]
      · rw [if_neg h, if_neg (fun z => (List.mem_cons.mp z).elim (fun q => e q.symm) h)]
theorem wipe_same {σ σ2 : L2.St} {vs : List Nat} (hl : σ2.length = σ.length) (h : ∀ j, j ∉ vs → σ2[j]? = σ[j]?) : wipe σ2 vs = wipe σ vs := by
  refine List.ext_getElem? fun j => ?_
  rw [wipe_get, wipe_get]
  by_cases q : j ∈ vs
  · rw [if_pos q, if_pos q]
    by_cases hj : j < σ.length
    · rw [List.getElem?_eq_getElem hj, List.getElem?_eq_getElem (by rw [hl]; exact hj)]
      rfl
    · rw [List.getElem?_eq_none (by omega), List.getElem?_eq_none (by omega)]
  · rw [if_neg q, if_neg q]
    exact h j q
theorem Sls.wipe {K : PySem.W.Frag} {H : Hp} {O Ob : List Addr} {σ : L2.St} {ρ : En} (s : Sls K H O Ob σ ρ) : ∀ vs : List Nat, Sls K H O Ob (L2.wipe σ vs) (wipeE ρ vs)
  | [] => s
  | _ :: vs => (Sls.wipe s vs).un
theorem Mode.av_cons {m : Mode} {D : Addr} {O Ob : List Addr} : m.av (D :: O) (D :: Ob) = D :: m.av O Ob := by cases m <;> rfl
/-- a new object beside -/
theorem Sls.beside {K : PySem.W.Frag} {H H' : Hp} {O Ob : List Addr} {σ : L2.St} {ρ : En} {D : Addr} {o : HO} (s : Sls K H O Ob σ ρ) (n : H D = none) (e : Ex H H') (h : H' D = some o) : Sls K H' (D :: O) (D :: Ob) σ ρ := by
  have c : Car H H' O (D :: O) := Car.base e fun b hb => (List.mem_cons.mp hb).elim (fun z => .inr (z ▸ n)) .inl
  refine ⟨s.len, fun i sl q => ?_, s.dist, fun b hb => ?_, fun b hb => ?_, fun b hb => ?_⟩
  · have := s.at_ i sl q
    cases sl with
    | un => trivial
    | im d =>
      obtain ⟨v, h1, h2⟩ := this
      exact ⟨v, h1, Rp.car c _ _ h2⟩
    | own d =>
      obtain ⟨a, h1, h2, h3, h4⟩ := this
      refine ⟨a, h1, List.mem_cons_of_mem _ h2, fun z => ?_, h4.car c fun o _ q => e _ _ q⟩
      rcases List.mem_cons.mp z with rfl | z
      · exact s.liv _ h2 n
      · exact h3 z
  · rcases List.mem_cons.mp hb with rfl | hb
    · rw [h]; exact fun z => nomatch z
    · exact ex_live e (s.liv b hb)
  · rcases List.mem_cons.mp hb with rfl | hb
    · exact List.mem_cons_self
    · exact List.mem_cons_of_mem _ (s.sub b hb)
  · rcases List.mem_cons.mp hb with rfl | hb
    · exact .inl List.mem_cons_self
    · rcases s.mine b hb with z | ⟨o, h, mu⟩
      · exact .inl (List.mem_cons_of_mem _ z)
      · exact .inr ⟨o, e b o h, mu⟩
/-- the reading of a comprehension -/
theorem comp_imp {K : PySem.W.Frag} {mg : Str → Option Value} {W : WX} {m mm : Mode} {fi : IF} {is vs : List Nat} {st : GF} {t : BF} {el : EF} (hm : m ≠ .B) (hv : ∀ i ∈ is, i ∈ vs) {σ : L2.St} {H : Hp} {Q : VK}
    (h : rdF K mg W m (eComp vs fi st t el) σ H Q) : tLc (rdI K mg W mm fi) (rdG K is st) (rdT K mg W0 t) (rdE K mg W0 m el) vs σ H Q := by
  obtain ⟨ρ, O, Ob, s, o⟩ := h
  refine ⟨ρ, O, Ob, s, ?_⟩
  unfold eComp at o
  cases qa : fi ρ with
  | bad => simp only [qa] at o; exact o.elim
  | exc c => simp only [qa] at o; exact o
  | ok ds =>
    simp only [qa, bind_ok] at o
    by_cases hl : ds.length ≤ lim
    case neg => rw [if_neg hl] at o; exact o.elim
    rw [if_pos hl] at o
    cases qg : compGo st t el (wipeE ρ vs) ds with
    | bad => simp only [qg] at o; exact o.elim
    | exc c => 
      exfalso
      have go : ∀ ds : List PyData, compGo st t el (wipeE ρ vs) ds ≠ .exc c := by
        intro ds
        induction ds with
        | nil => intro z; cases z
        | cons d ds ih =>
          intro z
          unfold compGo at z
          split at z
          · cases z
          · split at z
            · split at z
              · cases q : compGo st t el (wipeE ρ vs) ds with
                | ok xs => rw [q] at z; cases z
                | exc c' => rw [q] at z; cases z; exact ih q
                | bad => rw [q] at z; cases z
              · cases z
            · exact ih z
            · cases z
      exact go ds qg
    | ok total =>
      simp only [qg, bind_ok] at o
      intro J H1 e1 wk D nD
      have eB := bas_ex H1 O Ob mm
      have nB : mm.bas H1 O Ob D = none := bas_free nD
      refine ⟨fun i n H' => n = ds.length - i ∧ i ≤ ds.length ∧ Ex H1 H' ∧ ∃ acc done rest, H' D = some (.lst acc) ∧ RpA K H' (D :: m.av O Ob) acc done ∧ done.length ≤ i ∧ compGo st t el (wipeE ρ vs) (ds.drop i) = .ok rest ∧ total = done ++ rest,
        ⟨_, rfl, Nat.zero_le _, Evl.Ex.new nD, [], [], total, upd_same, .nil, Nat.le_refl _, qg, rfl⟩, ?_⟩
      intro i n H' hW
      obtain ⟨rfl, hi, e2, acc, done, rest, hD, ra, hdl, qr, et⟩ := hW
      by_cases hlt : i < ds.length
      case neg =>
        have hge : ds.length ≤ i := Nat.le_of_not_lt hlt
        refine .inl ⟨wk.stop i H' (eB.trans e2) hge, ?_⟩
        rw [List.drop_of_length_le hge] at qr
        cases qr
        rw [List.append_nil] at et
        subst et
        exact o D H' (by
          cases q : H D with
          | none => rfl
          | some z => rw [e1 D z q] at nD; cases nD) (e1.trans e2) ⟨acc, hD, ra⟩
      case pos =>
        refine .inr ⟨wk.go i H' (eB.trans e2) hlt, _, fun H'' z => ⟨ds.length - (i + 1), by omega, z⟩, fun x H2 hy => ?_⟩
        have hd : ds[i]? = some ds[i] := List.getElem?_eq_getElem hlt
        obtain ⟨e3, rx⟩ := wk.yld i _ x H' H2 (eB.trans e2) hd hy
        rw [List.drop_eq_getElem_cons hlt] at qr
        unfold compGo at qr
        cases qs : st ds[i] (wipeE ρ vs) with
        | none => rw [qs] at qr; cases qr
        | some ρ2 =>
          simp only [qs] at qr
          have s1 : Sls K H2 (D :: O) (D :: Ob) (L2.wipe σ vs) (wipeE ρ vs) := ((s.ex e1).beside nD (e2.trans e3) (e3 D _ hD)).wipe vs
          have rx' : Rp K H2 (D :: O) x ds[i] := by
            refine rx (D :: O) (fun b hb => ?_) fun b hb => ?_
            · rcases List.mem_cons.mp hb with rfl | hb
              · rw [hD]; exact fun z => nomatch z
              · exact ex_live (e1.trans e2) (s.liv b hb)
            · rcases List.mem_cons.mp hb with rfl | hb
              · exact .inr nB
              · exact bas_cor hb
          refine ⟨ds[i], _, _, _, ρ2, s1, rx', qs, fun σ2 s2 l2 k2 => ⟨?_, ρ2, _, _, s2, ?_⟩⟩
          · have : L2.wipe σ2 vs = L2.wipe (L2.wipe σ vs) vs := wipe_same l2 fun j hj => k2 j fun z => hj (hv j z)
            rw [this]
            refine wipe_same (wipe_len σ vs) fun j hj => ?_
            rw [wipe_get, if_neg hj]
          · cases qt : t ρ2 with
            | bad => simp only [qt] at qr; cases qr
            | exc c => simp only [qt] at qr; cases qr
            | ok b =>
              intro H3 e4
              cases b with
              | false =>
                simp only [qt] at qr
                show _ = _ ∧ _
                exact ⟨rfl, hlt, (e2.trans e3).trans e4, acc, done, rest, e4 D _ (e3 D _ hD), (ra.ex e3).ex e4, by omega, qr, et⟩
              | true =>
                simp only [qt] at qr
                refine ⟨ρ2, _, _, s2.ex e4, ?_⟩
                cases qe : el ρ2 with
                | bad => simp only [qe] at qr; cases qr
                | exc c => simp only [qe] at qr; cases qr
                | ok y =>
                  simp only [qe] at qr
                  intro v H4 e5 r5
                  have r5' := r5.to_av hm
                  rw [Mode.av_cons] at r5'
                  have hD4 : H4 D = some (.lst acc) := e5 D _ (e4 D _ (e3 D _ hD))
                  have ra4 := ((ra.ex e3).ex e4).ex e5
                  refine ⟨acc, hD4, lim_lt (by rw [ra.length]; omega), ?_⟩
                  cases qx : compGo st t el (wipeE ρ vs) (ds.drop (i + 1)) with
                  | bad => rw [qx] at qr; cases qr
                  | exc c => rw [qx] at qr; cases qr
                  | ok xs =>
                    rw [qx] at qr
                    cases qr
                    have c6 : Car H4 (upd H4 D (.lst (acc ++ [v]))) (D :: m.av O Ob) (D :: m.av O Ob) := Car.mut hD4 trivial List.mem_cons_self
                    refine ⟨rfl, hlt, ((e2.trans e3).trans (e4.trans e5)).mut nD, acc ++ [v], done ++ [y], xs, upd_same, ?_, ?_, qx, ?_⟩
                    · exact (RpA.car c6 _ _ ra4).append (.one (Rp.car c6 _ _ r5'))
                    · rw [List.length_append]
                      show done.length + 1 ≤ i + 1
                      omega
                    · rw [et, List.append_assoc]
                      rfl
end DL
namespace DL
open PySem PySem.Spec PyProof.Rows L2
open Evl (Ex fresh_back)

theorem f_comp {X : Cx} {W : WX} {m mm : Mode} {elt tg iter : Expr} {ifs : List Expr} {scope : Scope} {own : List (Str × Nat)} {pos : Pos} {fi : IF} {is : List Nat} {st : GF} {t : BF} {el : EF} (hc : X.calm = true) (hN : X.N.Nodup) (hi : ID X W mm tg iter fi) (ok : BlkOk X.N X.env.scope scope own)
    (hg : ∀ (s : Shared) (H : Hp) (C : Addr) (cl : List (Str × Addr)) (fp : List Addr), GD (X.blk s H scope (compEnvC scope cl C X.env) fp) tg is st) (ht : ∀ (s : Shared) (H : Hp) (C : Addr) (cl : List (Str × Addr)) (fp : List Addr), TsD (X.blk s H scope (compEnvC scope cl C X.env) fp) W0 ifs t)
    (he : ∀ (s : Shared) (H : Hp) (C : Addr) (cl : List (Str × Addr)) (fp : List Addr), ED (X.blk s H scope (compEnvC scope cl C X.env) fp) W0 m elt el) (hv : ∀ i ∈ is, i ∈ own.map (·.2) := by decide) (hm : m ≠ .B := by decide) (hs : ∀ x, foldedSetIterable iter X.env x = pure x := by intro _; rfl) :
    FD X W m (.ListComp elt [⟨tg, iter, ifs, 0⟩] scope pos) (eComp (own.map (·.2)) fi st t el) :=
  pe_imp (pe_lc (g := rdG X.K is st) (tt := rdT X.K X.mg W0 t) (te := rdE X.K X.mg W0 m el) hc hN hi ok hg ht he hs) fun σ H Q h => comp_imp hm hv h

inductive SRes where
  | nx (ρ : En) | rt (d : PyData) | bk (ρ : En) | ct (ρ : En) | exc (c : Str) (ρ : En) | bad
abbrev SF := En → SRes
/-- the slots, from the frame's entry H0 on -/
def StR (K : PySem.W.Frag) (H0 : Hp) (Ob : List Addr) (ρ : En) (σ : L2.St) (H : Hp) : Prop := ∃ O, Sls K H O Ob σ ρ ∧ Ex H0 H ∧ ∀ a ∈ O, a ∈ Ob ∨ H0 a = none
theorem StR.base {K : PySem.W.Frag} {H0 B H : Hp} {Ob : List Addr} {ρ : En} {σ : L2.St} (e : Ex H0 B) (s : StR K B Ob ρ σ H) : StR K H0 Ob ρ σ H := by
  obtain ⟨O, s, ex, h⟩ := s
  refine ⟨O, s, e.trans ex, fun a ha => (h a ha).imp id fun z => ?_⟩
  cases q : H0 a with
  | none => rfl
  | some o => rw [e a o q] at z; cases z
def OutS (K : PySem.W.Frag) (mg : Str → Option Value) (W : WX) (H0 : Hp) (Ob : List Addr) (D : Ends) : SRes → Prop
  | .nx ρ => ∀ σ' H', StR K H0 Ob ρ σ' H' → D.nx σ' H'
  | .rt d => ∀ v H', Ex H0 H' → Rp K H' Ob v d → D.rt v H'
  | .bk ρ => ∀ σ' H', StR K H0 Ob ρ σ' H' → D.bk σ' H'
  | .ct ρ => ∀ σ' H', StR K H0 Ob ρ σ' H' → D.ct σ' H'
  | .exc c ρ => ∀ σ' H' C, StR K H0 Ob ρ σ' H' → mg c = some (.ref C) → W (.ref C) none σ' H'
  | .bad => False
def rdS (K : PySem.W.Frag) (mg : Str → Option Value) (W : WX) (g : SF) : TS := fun D σ H => ∃ ρ H0 Ob, StR K H0 Ob ρ σ H ∧ OutS K mg W H0 Ob D (g ρ)
def SD (X : Cx) (W : WX) (st : Stmt) (g : SF) : Prop := PS X st (rdS X.K X.mg W g)
def SsD (X : Cx) (W : WX) (st : List Stmt) (g : SF) : Prop := PSs X st (rdS X.K X.mg W g)
theorem ps_imp {X : Cx} {st : Stmt} {t t' : TS} (h : PS X st t) (i : ∀ D σ H, t' D σ H → t D σ H) : PS X st t' := ⟨fun pins s σ H D I q => h.run pins s σ H D I (i _ _ _ q)⟩
theorem pss_imp {X : Cx} {st : List Stmt} {t t' : TS} (h : PSs X st t) (i : ∀ D σ H, t' D σ H → t D σ H) : PSs X st t' := ⟨fun pins s σ H D I q => h.run pins s σ H D I (i _ _ _ q)⟩
section
variable {X : Cx} {W : WX} {m ma mb : Mode} {e a b c o tg : Expr} {f fa fb : EF} {t : BF} {st : Stmt} {sts : List Stmt} {g h : SF} {pos pos' : Pos} {i j : Nat}
def sNx : SF := .nx
def sSeq (g h : SF) : SF := fun ρ => match g ρ with
  | .nx ρ' => h ρ'
  | r => r
theorem ss_nil : SsD X W [] sNx := pss_imp pss_nil fun D σ H ⟨ρ, H0, Ob, s, o⟩ => o σ H s
theorem ss_cons (h1 : SD X W st g) (h2 : SsD X W sts h) : SsD X W (st :: sts) (sSeq g h) := pss_imp (pss_cons h1 h2) fun D σ H ⟨ρ, H0, Ob, s, o⟩ => by
  refine ⟨ρ, H0, Ob, s, ?_⟩
  unfold sSeq at o
  cases q : g ρ with
  | nx ρ' =>
    rw [q] at o
    exact fun σ' H' s' => ⟨ρ', H0, Ob, s', o⟩
  | _ => rw [q] at o; exact o
theorem ss_one (h1 : SD X W st g) : SsD X W [st] g := pss_imp (pss_one h1) fun _ _ _ z => z
def sBk : SF := .bk
def sCt : SF := .ct
theorem s_pass : SD X W (.Pass pos) sNx := ps_imp ps_pass fun D σ H ⟨ρ, H0, Ob, s, o⟩ => o σ H s
theorem s_break : SD X W (.Break pos) sBk := ps_imp ps_break fun D σ H ⟨ρ, H0, Ob, s, o⟩ => o σ H s
theorem s_cont : SD X W (.Continue pos) sCt := ps_imp ps_continue fun D σ H ⟨ρ, H0, Ob, s, o⟩ => o σ H s
/-- a docstring -/
theorem s_doc {x j pos pos'} : SD X W (.Expr (.Constant (.str x) j pos) pos') sNx := ps_imp ps_doc fun D σ H ⟨ρ, H0, Ob, s, o⟩ => o σ H s
/-- name = value -/
def sAsg (i : Nat) (f : EF) : SF := fun ρ => match f ρ with
  | .ok d => .nx (ρ.set i (.im d))
  | .exc c => .exc c ρ
  | .bad => .bad
theorem s_asg' {te : TE} (mk : PS X st (tAsg te (gName i))) (imp : ∀ σ H Q, rdE X.K X.mg W .S f σ H Q → te σ H Q) : SD X W st (sAsg i f) := ps_imp mk fun D σ H ⟨ρ, H0, Ob, ⟨O, s, ex, hO⟩, o⟩ => by
  refine imp σ H _ ⟨ρ, O, Ob, s, ?_⟩
  unfold sAsg at o
  cases q : f ρ with
  | bad => rw [q] at o; exact o
  | exc c =>
    rw [q] at o
    exact fun H' C e hC => o σ H' C ⟨O, s.ex e, ex.trans e, hO⟩ hC
  | ok d =>
    rw [q] at o
    exact fun v H' e r => o _ H' ⟨O, (s.ex e).im r, ex.trans e, hO⟩
theorem s_asg (h : ED X W .S e f) (mk : ∀ {te : TE}, PE X e te → PS X st (tAsg te (gName i))) : SD X W st (sAsg i f) := s_asg' (mk h) fun _ _ _ z => z
theorem Sls.own {K : PySem.W.Frag} {H H' : Hp} {O Ob : List Addr} {σ : L2.St} {ρ : En} {a : Addr} {d : PyData} (s : Sls K H O Ob σ ρ) (n : H a = none) (e : Ex H H') (ow : Own K H' (a :: O) a d) : Sls K H' (a :: O) Ob (σ.set i (some (.ref a))) (ρ.set i (.own d)) := by
  have c : Car H H' O (a :: O) := Car.base e fun b hb => (List.mem_cons.mp hb).elim (fun z => .inr (z ▸ n)) .inl
  have nO : a ∉ O := s.fresh n
  have inR : ∀ {j : Nat} {sl : Sl}, (ρ.set i (.own d))[j]? = some sl → i = j → sl = .own d := fun {j sl} h e => by
    subst e
    have hl : i < ρ.length := by
      have := (List.getElem?_eq_some_iff.mp h).1
      rwa [List.length_set] at this
    rw [List.getElem?_set_self hl] at h
    cases h
    rfl
  have inS : ∀ {j : Nat} {v : V}, (σ.set i (some (.ref a)))[j]? = some (some v) → i = j → v = .ref a := fun {j v} h e => by
    subst e
    have hl : i < σ.length := by
      have := (List.getElem?_eq_some_iff.mp h).1
      rwa [List.length_set] at this
    rw [List.getElem?_set_self hl] at h
    cases h
    rfl
  refine ⟨by rw [List.length_set, List.length_set]; exact s.len, fun j sl h => ?_, fun j k b d1 d2 h1 h2 h3 h4 => ?_, fun b hb => ?_, fun b hb => List.mem_cons_of_mem _ (s.sub b hb), fun b hb => ?_⟩
  · by_cases q : i = j
    · have := inR h q
      subst this
      subst q
      have hl : i < ρ.length := by
        have := (List.getElem?_eq_some_iff.mp h).1
        rwa [List.length_set] at this
      exact ⟨a, List.getElem?_set_self (by rw [← s.len]; exact hl), List.mem_cons_self, fun z => nO (s.sub _ z), ow⟩
    · rw [List.getElem?_set_ne q] at h ⊢
      have := s.at_ j sl h
      cases sl with
      | un => trivial
      | im d =>
        obtain ⟨v, h1, h2⟩ := this
        exact ⟨v, h1, Rp.car c _ _ h2⟩
      | own d =>
        obtain ⟨b, h1, h2, h3, h4⟩ := this
        exact ⟨b, h1, List.mem_cons_of_mem _ h2, h3, h4.car c fun o _ z => e _ _ z⟩
  · by_cases q1 : i = j
    · by_cases q2 : i = k
      · exact q1.symm.trans q2
      · exfalso
        have hb := inS h3 q1
        cases hb
        rw [List.getElem?_set_ne q2] at h2 h4
        obtain ⟨b, g1, g2, _⟩ := s.at_ k _ h2
        rw [h4] at g1
        cases g1
        exact nO g2
    · by_cases q2 : i = k
      · exfalso
        have hb := inS h4 q2
        cases hb
        rw [List.getElem?_set_ne q1] at h1 h3
        obtain ⟨b, g1, g2, _⟩ := s.at_ j _ h1
        rw [h3] at g1
        cases g1
        exact nO g2
      · rw [List.getElem?_set_ne q1] at h1 h3
        rw [List.getElem?_set_ne q2] at h2 h4
        exact s.dist j k b d1 d2 h1 h2 h3 h4
  · rcases List.mem_cons.mp hb with rfl | hb
    · exact ow.there
    · exact ex_live e (s.liv b hb)
  · rcases List.mem_cons.mp hb with rfl | hb
    · obtain ⟨o, h, mu⟩ := ow.mu
      exact .inr ⟨o, h, mu⟩
    · exact (s.mine b hb).imp id fun ⟨o, h, mu⟩ => ⟨o, e b o h, mu⟩
/-- name = a new list or dict, this frame's own -/
def sOwn (i : Nat) (f : EF) : SF := fun ρ => match f ρ with
  | .ok d => .nx (ρ.set i (.own d))
  | .exc c => .exc c ρ
  | .bad => .bad
theorem ex_none {H H' : Hp} {p : Addr} (e : Ex H H') (h : H' p = none) : H p = none := fresh_back e h
theorem s_own' {te : TE} (mk : PS X st (tAsg te (gName i))) (imp : ∀ σ H Q, rdF X.K X.mg W .S f σ H Q → te σ H Q) : SD X W st (sOwn i f) := ps_imp mk fun D σ H ⟨ρ, H0, Ob, ⟨O, s, ex, hO⟩, o⟩ => by
  refine imp σ H _ ⟨ρ, O, Ob, s, ?_⟩
  unfold sOwn at o
  cases q : f ρ with
  | bad => rw [q] at o; exact o
  | exc c =>
    rw [q] at o
    exact fun H' C e hC => o σ H' C ⟨O, s.ex e, ex.trans e, hO⟩ hC
  | ok d =>
    rw [q] at o
    exact fun a H' n e ow => o _ H' ⟨a :: O, s.own n e ow, ex.trans e, fun b hb => (List.mem_cons.mp hb).elim (fun z => .inr (z ▸ ex_none ex n)) (hO b)⟩
theorem s_own (h : FD X W .S e f) (mk : ∀ {te : TE}, PE X e te → PS X st (tAsg te (gName i))) : SD X W st (sOwn i f) := s_own' (mk h) fun _ _ _ z => z
/-- FD as a plain value -/
theorem rdE_F {K : PySem.W.Frag} {mg : Str → Option Value} {σ : L2.St} {H : Hp} {Q : VK} (h : rdE K mg W m f σ H Q) : rdF K mg W m f σ H Q := by
  obtain ⟨ρ, O, Ob, s, o⟩ := h
  refine ⟨ρ, O, Ob, s, ?_⟩
  cases q : f ρ with
  | ok d =>
    rw [q] at o
    exact fun a H' n ex ow => o _ H' ex (RpM.of_av (Own.rp (ow.car (Car.sub fun b hb => List.mem_cons_of_mem _ hb) fun _ _ q => q) ((Frm.of s).fresh n m)))
  | exc c => rw [q] at o; exact o
  | bad => rw [q] at o; exact o
/-- a, b = e -/
def sTgt (f : EF) (sg : GF) : SF := fun ρ => match f ρ with
  | .ok d => (match sg d ρ with
    | some ρ' => .nx ρ'
    | none => .bad)
  | .exc c => .exc c ρ
  | .bad => .bad
theorem s_tgt {is : List Nat} {sg : GF} (h : ED X W .S e f) (hg : GD X tg is sg) (hs : swapsWithSole [tg] e pos.line X.env = pure false := by rfl) (hw : swappedStores [tg] e X.env = pure none := by rfl) (hl : ∀ {te : TE} {gg : TG}, PE X e te → PG X tg gg → PS X st (tAsg te gg)) : SD X W st (sTgt f sg) := ps_imp (hl h hg) fun D σ H ⟨ρ, H0, Ob, ⟨O, s, ex, hO⟩, o⟩ => by
  refine ⟨ρ, O, Ob, s, ?_⟩
  unfold sTgt at o
  cases q : f ρ with
  | bad => rw [q] at o; exact o
  | exc c =>
    rw [q] at o
    exact fun H' C e hC => o σ H' C ⟨O, s.ex e, ex.trans e, hO⟩ hC
  | ok d =>
    simp only [q] at o
    intro v H' e r
    cases q2 : sg d ρ with
    | none => rw [q2] at o; exact o.elim
    | some ρ' =>
      rw [q2] at o
      exact ⟨d, ρ, O, Ob, ρ', s.ex e, r, q2, fun σ' s' _ _ => o σ' H' ⟨O, s', ex.trans e, hO⟩⟩
/-- return -/
def sRet (f : EF) : SF := fun ρ => match f ρ with
  | .ok d => .rt d
  | .exc c => .exc c ρ
  | .bad => .bad
theorem s_ret (h : ED X W .E e f) : SD X W (.Return (some e) pos) (sRet f) := ps_imp (ps_ret h) fun D σ H ⟨ρ, H0, Ob, ⟨O, s, ex, hO⟩, o⟩ => by
  refine ⟨ρ, O, Ob, s, ?_⟩
  unfold sRet at o
  cases q : f ρ with
  | bad => rw [q] at o; exact o
  | exc c =>
    rw [q] at o
    exact fun H' C e hC => o σ H' C ⟨O, s.ex e, ex.trans e, hO⟩ hC
  | ok d =>
    rw [q] at o
    exact fun v H' e r => o v H' (ex.trans e) r
def sRetN : SF := fun _ => .rt .none
theorem s_retN : SD X W (.Return none pos) sRetN := ps_imp ps_retN fun D σ H ⟨ρ, H0, Ob, ⟨O, s, ex, hO⟩, o⟩ => o _ H ex .non
/-- a value that is dropped -/
def sDrop (f : EF) : SF := fun ρ => match f ρ with
  | .ok _ => .nx ρ
  | .exc c => .exc c ρ
  | .bad => .bad
theorem s_drop (h : ED X W .S e f) (mk : ∀ {te : TE}, PE X e te → PS X st (tDrop te)) : SD X W st (sDrop f) := ps_imp (mk h) fun D σ H ⟨ρ, H0, Ob, ⟨O, s, ex, hO⟩, o⟩ => by
  refine ⟨ρ, O, Ob, s, ?_⟩
  unfold sDrop at o
  cases q : f ρ with
  | bad => rw [q] at o; exact o
  | exc c =>
    rw [q] at o
    exact fun H' C e hC => o σ H' C ⟨O, s.ex e, ex.trans e, hO⟩ hC
  | ok d =>
    rw [q] at o
    exact fun v H' e r => o σ H' ⟨O, s.ex e, ex.trans e, hO⟩
/-- if -/
def sIf (t : BF) (g h : SF) : SF := fun ρ => match t ρ with
  | .ok true => g ρ
  | .ok false => h ρ
  | .exc c => .exc c ρ
  | .bad => .bad
theorem s_if {sa sb : List Stmt} (ht : TD X W c t) (ha : SsD X W sa g) (hb : SsD X W sb h) : SD X W (.If c sa sb pos) (sIf t g h) := ps_imp (ps_if ht ha hb) fun D σ H ⟨ρ, H0, Ob, ⟨O, s, ex, hO⟩, o⟩ => by
  refine ⟨ρ, O, Ob, s, ?_⟩
  unfold sIf at o
  cases q : t ρ with
  | bad => rw [q] at o; exact o
  | exc c =>
    rw [q] at o
    exact fun H' C e hC => o σ H' C ⟨O, s.ex e, ex.trans e, hO⟩ hC
  | ok d =>
    rw [q] at o
    intro H' e
    cases d with
    | true => exact ⟨ρ, H0, Ob, ⟨O, s.ex e, ex.trans e, hO⟩, o⟩
    | false => exact ⟨ρ, H0, Ob, ⟨O, s.ex e, ex.trans e, hO⟩, o⟩
end
end DL
namespace DL
open PySem PySem.Spec PyProof.Rows L2
open Evl (Ex fresh_back)
section
variable {X : Cx} {W : WX} {m ma mb : Mode} {e a b c o tg iter : Expr} {f fa fb : EF} {t : BF} {st : Stmt} {sts body : List Stmt} {g h : SF} {pos pos' apos cpos : Pos} {i j : Nat}
theorem Sls.mut {K : PySem.W.Frag} {H : Hp} {O Ob : List Addr} {σ : L2.St} {ρ : En} {a : Addr} {d d' : PyData} {u : HO} (s : Sls K H O Ob σ ρ) (h1 : ρ[i]? = some (.own d)) (h2 : σ[i]? = some (some (.ref a))) (mu : Mu u) (ow : Own K (upd H a u) O a d') : Sls K (upd H a u) O Ob σ (ρ.set i (.own d')) := by
  obtain ⟨a', q1, q2, q3, q4⟩ := s.at_ i _ h1
  rw [h2] at q1
  cases q1
  obtain ⟨o, ho, muo⟩ := q4.mu
  have c : Car H (upd H a u) O O := Car.mut ho muo q2
  refine ⟨by rw [List.length_set]; exact s.len, fun j sl h => ?_, fun j k b d1 d2 g1 g2 g3 g4 => ?_, fun b hb => ?_, s.sub, fun b hb => ?_⟩
  · by_cases q : i = j
    · subst q
      have hl : i < ρ.length := (List.getElem?_eq_some_iff.mp h1).1
      rw [List.getElem?_set_self hl] at h
      cases h
      exact ⟨a, h2, q2, q3, ow⟩
    · rw [List.getElem?_set_ne q] at h
      have := s.at_ j sl h
      cases sl with
      | un => trivial
      | im d =>
        obtain ⟨v, g1, g2⟩ := this
        exact ⟨v, g1, Rp.car c _ _ g2⟩
      | own d =>
        obtain ⟨b, g1, g2, g3, g4⟩ := this
        have ne : b ≠ a := fun z => by
          subst z
          exact q (s.dist i j b _ _ h1 h h2 g1)
        exact ⟨b, g1, g2, g3, g4.car c fun o _ z => by rw [upd_ne ne]; exact z⟩
  · have own : ∀ {j : Nat} {d : PyData}, (ρ.set i (.own d'))[j]? = some (.own d) → ∃ d0, ρ[j]? = some (.own d0) := fun {j d} z => by
      by_cases q : i = j
      · subst q
        exact ⟨_, h1⟩
      · rw [List.getElem?_set_ne q] at z
        exact ⟨_, z⟩
    obtain ⟨e1, z1⟩ := own g1
    obtain ⟨e2, z2⟩ := own g2
    exact s.dist j k b e1 e2 z1 z2 g3 g4
  · by_cases z : b = a
    · subst z
      rw [upd_same]
      exact fun z => nomatch z
    · rw [upd_ne z]
      exact s.liv b hb
  · by_cases z : b = a
    · subst z
      exact .inr ⟨u, upd_same, mu⟩
    · exact (s.mine b hb).imp id fun ⟨o, q, mu⟩ => ⟨o, by rw [upd_ne z]; exact q, mu⟩
theorem ex_mut {H0 H : Hp} {a : Addr} {u : HO} (e : Ex H0 H) (n : H0 a = none) : Ex H0 (upd H a u) := Evl.Ex.mut e n
/-- x.append(e) -/
def sApp (i : Nat) (f : EF) : SF := fun ρ => match ρ[i]? with
  | some (.own (.list ds)) => (match f ρ with
    | .ok d => if ds.length < lim then .nx (ρ.set i (.own (.list (ds ++ [d])))) else .bad
    | .exc c => .exc c ρ
    | .bad => .bad)
  | _ => .bad
theorem s_app (h : ED X W .S e f) (mk : ∀ {te : TE}, PE X e te → PS X st (tDrop (tBM X.K "list" rAppend (tVar i) (tCons te tNil)))) : SD X W st (sApp i f) := ps_imp (mk h) fun D σ H ⟨ρ, H0, Ob, ⟨O, s, ex, hO⟩, o⟩ => by
  unfold sApp at o
  split at o
  · rename_i ds hq
    obtain ⟨a, h1, h2, h3, xs, h4, h5⟩ := s.at_ i _ hq
    have n0 : H0 a = none := (hO a h2).elim (fun z => absurd z h3) id
    refine ⟨.ref a, h1, .inl ⟨rfl, _, sqL_of h4⟩, ρ, O, Ob, s, ?_⟩
    cases q : f ρ with
    | bad => simp only [q] at o; exact o
    | exc c =>
      simp only [q] at o
      exact fun H' C e hC => o σ H' C ⟨O, s.ex e, ex.trans e, hO⟩ hC
    | ok d =>
      simp only [q] at o
      split at o
      · rename_i hl
        intro v H' e r
        refine ⟨a, xs, v, rfl, rfl, e a _ h4, lim_lt (by rw [h5.length]; exact hl), o σ _ ⟨O, (s.ex e).mut hq h1 trivial ⟨_, upd_same, ?_⟩, ex_mut (ex.trans e) n0, hO⟩⟩
        have c : Car H' (upd H' a (.lst (xs ++ [v]))) O O := Car.mut (e a _ h4) trivial h2
        exact (RpA.car c _ _ (h5.ex e)).append (.one (Rp.car c _ _ r))
      · exact o.elim
  · exact o.elim
/-- y = x.pop() -/
def sPop (j i : Nat) : SF := fun ρ => match ρ[i]? with
  | some (.own (.list ds)) => (match ds.getLast? with
    | some d => .nx ((ρ.set i (.own (.list ds.dropLast))).set j (.im d))
    | none => .bad)
  | _ => .bad
theorem s_pop (mk : PS X st (tAsg (tBM0 X.K "list" rPop (tVar i)) (gName j))) : SD X W st (sPop j i) := ps_imp mk fun D σ H ⟨ρ, H0, Ob, ⟨O, s, ex, hO⟩, o⟩ => by
  unfold sPop at o
  split at o
  · rename_i ds hq
    obtain ⟨a, h1, h2, h3, xs, h4, h5⟩ := s.at_ i _ hq
    have n0 : H0 a = none := (hO a h2).elim (fun z => absurd z h3) id
    refine ⟨.ref a, h1, .inl ⟨rfl, _, sqL_of h4⟩, ?_⟩
    cases q : ds.getLast? with
    | none => rw [q] at o; exact o.elim
    | some d =>
      simp only [q] at o
      have q' : ds[ds.length - 1]? = some d := by rw [← List.getLast?_eq_getElem?]; exact q
      obtain ⟨v, g1, g2⟩ := h5.get q'
      have c : Car H (upd H a (.lst xs.dropLast)) O O := Car.mut h4 trivial h2
      refine ⟨a, xs, v, rfl, rfl, h4, by rw [h5.length]; exact g1, ?_⟩
      have s2 := s.mut (u := .lst xs.dropLast) (d' := .list ds.dropLast) hq h1 trivial ⟨_, upd_same, RpA.car c _ _ h5.dropLast⟩
      exact o _ _ ⟨O, s2.im (Rp.car c _ _ g2), ex_mut ex n0, hO⟩
  · exact o.elim
/-- y = x.pop(0) -/
def sPop0 (j i : Nat) : SF := fun ρ => match ρ[i]? with
  | some (.own (.list (d :: ds))) => .nx ((ρ.set i (.own (.list ds))).set j (.im d))
  | _ => .bad
theorem s_pop0 (mk : PS X st (tAsg (tBM X.K "list" rPopAt (tVar i) (tCons (tC (.int 0)) tNil)) (gName j))) : SD X W st (sPop0 j i) := ps_imp mk fun D σ H ⟨ρ, H0, Ob, ⟨O, s, ex, hO⟩, o⟩ => by
  unfold sPop0 at o
  split at o
  · rename_i d ds hq
    obtain ⟨a, h1, h2, h3, xs, h4, h5⟩ := s.at_ i _ hq
    have n0 : H0 a = none := (hO a h2).elim (fun z => absurd z h3) id
    cases h5 with
    | @cons v vs d ds g2 g3 =>
      have c : Car H (upd H a (.lst vs)) O O := Car.mut h4 trivial h2
      refine ⟨.ref a, h1, .inl ⟨rfl, _, sqL_of h4⟩, a, v :: vs, 0, 0, v, rfl, rfl, h4, by decide, by decide, ?_, rfl, ?_⟩
      · exact (ixN_seq (n := (v :: vs).length) (i := 0) (j := 0) (by simp [ixN])).1
      · have s2 := s.mut (u := .lst vs) (d' := .list ds) hq h1 trivial ⟨_, upd_same, RpA.car c _ _ g3⟩
        exact o _ _ ⟨O, s2.im (Rp.car c _ _ g2), ex_mut ex n0, hO⟩
  · exact o.elim
/-- x.reverse() -/
def sRev (i : Nat) : SF := fun ρ => match ρ[i]? with
  | some (.own (.list ds)) => .nx (ρ.set i (.own (.list ds.reverse)))
  | _ => .bad
theorem s_rev (mk : PS X st (tDrop (tBM0 X.K "list" rReverse (tVar i)))) : SD X W st (sRev i) := ps_imp mk fun D σ H ⟨ρ, H0, Ob, ⟨O, s, ex, hO⟩, o⟩ => by
  unfold sRev at o
  split at o
  · rename_i ds hq
    obtain ⟨a, h1, h2, h3, xs, h4, h5⟩ := s.at_ i _ hq
    have n0 : H0 a = none := (hO a h2).elim (fun z => absurd z h3) id
    have c : Car H (upd H a (.lst xs.reverse)) O O := Car.mut h4 trivial h2
    exact ⟨.ref a, h1, .inl ⟨rfl, _, sqL_of h4⟩, a, xs, rfl, rfl, h4, o _ _ ⟨O, s.mut hq h1 trivial ⟨_, upd_same, RpA.car c _ _ h5.reverse⟩, ex_mut ex n0, hO⟩⟩
  · exact o.elim
/-- d[k] = v -/
def sPut (i : Nat) (fk fv : EF) : SF := fun ρ => match fv ρ with
  | .ok v => (match fk ρ with
    | .ok k => (match ρ[i]? with
      | some (.own (.dict es)) => if es.length < lim && (toKey k).isSome then .nx (ρ.set i (.own (.dict (esPut es k v)))) else .bad
      | _ => .bad)
    | _ => .bad)
  | .exc c => .exc c ρ
  | .bad => .bad
/-- d[k] = v, by values -/
def rPutD : V → V → V → Hp → (Hp → Prop) → Prop := fun x y v H Q => ∃ a H', x = .ref a ∧ DPut H a y v H' ∧ Q H'
theorem set_dict (hu : X.A.units + 1 < cLine) : PSet X rPutD := fun pins s σ H o i v ov iv u Q I ro ri rv h => by
  obtain ⟨a, H', rfl, g, q⟩ := h
  cases ro
  exact d_setItem hu I g ri rv fun s' I' => ⟨H', I', q⟩
theorem s_put (hk : ED X W .S a fa) (hv : ED X W .S e f) (mk : ∀ {tk tv : TE}, PE X a tk → PE X e tv → PS X st (tAsg tv (gSub (tVar i) tk rPutD))) : SD X W st (sPut i fa f) := ps_imp (mk hk hv) fun D σ H ⟨ρ, H0, Ob, ⟨O, s, ex, hO⟩, o⟩ => by
  refine ⟨ρ, O, Ob, s, ?_⟩
  unfold sPut at o
  cases q : f ρ with
  | bad => simp only [q] at o; exact o
  | exc c =>
    simp only [q] at o
    exact fun H' C e hC => o σ H' C ⟨O, s.ex e, ex.trans e, hO⟩ hC
  | ok d =>
    simp only [q] at o
    intro v H1 e1 r1
    cases q2 : fa ρ with
    | bad => 
      simp only [q2] at o
      exact o.elim
    | exc c =>
      simp only [q2] at o
      exact o.elim
    | ok k =>
      simp only [q2] at o
      split at o
      · rename_i es hq
        split at o
        · rename_i hl
          have hl' := Bool.and_eq_true_iff.mp hl
          obtain ⟨p, h1, h2, h3, kvs, h4, h5⟩ := s.at_ i _ hq
          have n0 : H0 p = none := (hO p h2).elim (fun z => absurd z h3) id
          refine ⟨.ref p, h1, ρ, O, Ob, s.ex e1, ?_⟩
          rw [q2]
          intro y H2 e2 r2
          obtain ⟨kk, hkk⟩ := Option.isSome_iff_exists.mp hl'.2
          have := toKey_kD hkk
          subst this
          obtain ⟨b, rfl, hb⟩ := rpm_key r2
          have h4' := e2 p _ (e1 p _ h4)
          refine ⟨p, _, rfl, DPut.t h4' hb (lim_lt (by rw [h5.length]; exact of_decide_eq_true hl'.1)), o _ _ ⟨O, ((s.ex e1).ex e2).mut hq h1 trivial ⟨_, upd_same, ?_⟩, ex_mut ((ex.trans e1).trans e2) n0, hO⟩⟩
          have c : Car H2 (upd H2 p (.dT (putK kvs kk v))) O O := Car.mut h4' trivial h2
          exact RpD.put (Rp.car c _ _ (r1.ex e2)) kk (RpD.car c _ _ (RpD.car ((Car.ex (e1.trans e2))) _ _ h5))
        · exact o.elim
      · exact o.elim
end
end DL
namespace DL
open PySem PySem.Spec PyProof.Rows L2
open Evl (Ex fresh_back)
section
variable {X : Cx} {W : WX} {m ma mb : Mode} {e a b c o tg iter : Expr} {f fa fb : EF} {t : BF} {st : Stmt} {sts body : List Stmt} {g h : SF} {pos pos' apos cpos : Pos} {i j : Nat}
def sWhile (t : BF) (g : SF) : Nat → SF
  | 0 => fun _ => .bad
  | n + 1 => fun ρ => match t ρ with
    | .ok true => (match g ρ with
      | .nx ρ' => sWhile t g n ρ'
      | .ct ρ' => sWhile t g n ρ'
      | .bk ρ' => .nx ρ'
      | r => r)
    | .ok false => .nx ρ
    | .exc c => .exc c ρ
    | .bad => .bad
theorem s_while (n : Nat) (hp : PassesOwn (model X.prog X.w) X.A X.env X.xe) (ht : TD X W c t) (hb : SsD X W body g) : SD X W (.While c body [] pos) (sWhile t g n) := ps_imp (ps_while hp ht hb) fun D σ H ⟨ρ, H0, Ob, s, o⟩ => by
  refine ⟨fun n σ H => ∃ ρ, StR X.K H0 Ob ρ σ H ∧ OutS X.K X.mg W H0 Ob D (sWhile t g n ρ), ⟨n, ρ, s, o⟩, fun n σ H hW => ?_⟩
  obtain ⟨ρ, ⟨O, s, ex, hO⟩, o⟩ := hW
  refine ⟨ρ, O, Ob, s, ?_⟩
  cases n with
  | zero => exact o.elim
  | succ n =>
    unfold sWhile at o
    cases q : t ρ with
    | bad => simp only [q] at o; exact o.elim
    | exc c =>
      simp only [q] at o
      exact fun H' C e hC => o σ H' C ⟨O, s.ex e, ex.trans e, hO⟩ hC
    | ok b =>
      intro H1 e1
      have s1 : StR X.K H0 Ob ρ σ H1 := ⟨O, s.ex e1, ex.trans e1, hO⟩
      cases b with
      | false =>
        simp only [q] at o
        exact o σ H1 s1
      | true =>
        simp only [q] at o
        refine ⟨fun σ' H' => ∃ ρ, StR X.K H0 Ob ρ σ' H' ∧ OutS X.K X.mg W H0 Ob D (sWhile t g n ρ), fun σ' H' z => ⟨n, Nat.lt_succ_self n, z⟩, ρ, H0, Ob, s1, ?_⟩
        cases q2 : g ρ with
        | nx ρ' => simp only [q2] at o; exact fun σ' H' z => ⟨ρ', z, o⟩
        | ct ρ' => simp only [q2] at o; exact fun σ' H' z => ⟨ρ', z, o⟩
        | bk ρ' => simp only [q2] at o; exact o
        | rt d => simp only [q2] at o; exact o
        | exc c ρ' => simp only [q2] at o; exact o
        | bad => simp only [q2] at o; exact o.elim
def forGo (sg : GF) (g : SF) : List PyData → SF
  | [] => .nx
  | d :: ds => fun ρ => match sg d ρ with
    | none => .bad
    | some ρ1 => match g ρ1 with
      | .nx ρ' => forGo sg g ds ρ'
      | .ct ρ' => forGo sg g ds ρ'
      | .bk ρ' => .nx ρ'
      | r => r
def sFor (fi : IF) (sg : GF) (g : SF) : SF := fun ρ => match fi ρ with
  | .ok ds => forGo sg g ds ρ
  | .exc c => .exc c ρ
  | .bad => .bad
theorem ex_frz {K : PySem.W.Frag} {H0 H : Hp} {O Ob : List Addr} (e : Ex H0 H) (hO : ∀ a ∈ O, a ∈ Ob ∨ H0 a = none) : Ex H0 (frz H O Ob) := fun a o h => by
  unfold frz
  split
  · rename_i q
    rcases hO a q.1 with z | z
    · exact absurd z q.2
    · rw [z] at h; cases h
  · exact e a o h
theorem OutS.base {K : PySem.W.Frag} {mg : Str → Option Value} {H0 B : Hp} {Ob : List Addr} {D : Ends} {r : SRes} (e : Ex H0 B) (o : OutS K mg W H0 Ob D r) : OutS K mg W B Ob D r := by
  cases r with
  | nx ρ => exact fun σ' H' s => o σ' H' (s.base e)
  | rt d => exact fun v H' ex r => o v H' (e.trans ex) r
  | bk ρ => exact fun σ' H' s => o σ' H' (s.base e)
  | ct ρ => exact fun σ' H' s => o σ' H' (s.base e)
  | exc c ρ => exact fun σ' H' C s hC => o σ' H' C (s.base e) hC
  | bad => exact o
theorem s_for {fi : IF} {is : List Nat} {sg : GF} (hp : PassesOwn (model X.prog X.w) X.A X.env X.xe) (hc : X.calm = true) (hi : ID X W .S tg iter fi) (hg : GD X tg is sg) (hb : SsD X W body g) (hs : ∀ x, foldedSetIterable iter X.env x = pure x := by intro _; rfl) :
    SD X W (.For tg iter body [] pos) (sFor fi sg g) := ps_imp (ps_for hp hc hi hg hb hs) fun D σ H ⟨ρ, H0, Ob, ⟨O, s, ex, hO⟩, o⟩ => by
  refine ⟨ρ, O, Ob, s, ?_⟩
  unfold sFor at o
  cases q : fi ρ with
  | bad => rw [q] at o; exact o.elim
  | exc c =>
    rw [q] at o
    exact fun H' C e hC => o σ H' C ⟨O, s.ex e, ex.trans e, hO⟩ hC
  | ok ds =>
    rw [q] at o
    intro J H1 e1 wk
    have wk : Walks X.K J ds Ob (frz H1 O Ob) := wk
    have eB : Ex H0 (frz H1 O Ob) := ex_frz (K := X.K) (ex.trans e1) hO
    refine ⟨fun i n σ H => n = ds.length - i ∧ i ≤ ds.length ∧ ∃ ρ, StR X.K (frz H1 O Ob) Ob ρ σ H ∧ OutS X.K X.mg W H0 Ob D (forGo sg g (ds.drop i) ρ),
      ⟨_, rfl, Nat.zero_le _, ρ, ⟨O, s.ex e1, frz_ex _ _ _, fun a ha => frz_none ha⟩, o⟩, fun i n σ H hW => ?_⟩
    obtain ⟨rfl, hi, ρ, ⟨O', s', ex', hO'⟩, o⟩ := hW
    by_cases hlt : i < ds.length
    case neg =>
      have hge : ds.length ≤ i := Nat.le_of_not_lt hlt
      rw [List.drop_of_length_le hge] at o
      exact .inl ⟨wk.stop i H ex' hge, o σ H (StR.base eB ⟨O', s', ex', hO'⟩)⟩
    case pos =>
      refine .inr ⟨wk.go i H ex' hlt, _, fun σ' H' z => ⟨ds.length - (i + 1), by omega, z⟩, fun x H2 hy => ?_⟩
      have hd : ds[i]? = some ds[i] := List.getElem?_eq_getElem hlt
      obtain ⟨e2, rx⟩ := wk.yld i _ x H H2 ex' hd hy
      rw [List.drop_eq_getElem_cons hlt] at o
      unfold forGo at o
      cases qs : sg ds[i] ρ with
      | none => simp only [qs] at o; exact o.elim
      | some ρ1 =>
        simp only [qs] at o
        refine ⟨ds[i], ρ, O', Ob, ρ1, s'.ex e2, rx O' s'.liv hO', qs, fun σ2 s2 _ _ => ⟨ρ1, frz H1 O Ob, Ob, ⟨O', s2, ex'.trans e2, hO'⟩, ?_⟩⟩
        cases q2 : g ρ1 with
        | nx ρ' => simp only [q2] at o; exact fun σ' H' z => ⟨rfl, hlt, ρ', z, o⟩
        | ct ρ' => simp only [q2] at o; exact fun σ' H' z => ⟨rfl, hlt, ρ', z, o⟩
        | bk ρ' => simp only [q2] at o; exact fun σ' H' z => o σ' H' (z.base eB)
        | rt d => simp only [q2] at o; exact fun v H' e r => o v H' (eB.trans e) r
        | exc c ρ' => simp only [q2] at o; exact fun σ' H' C z hC => o σ' H' C (z.base eB) hC
        | bad => simp only [q2] at o; exact o.elim
def sRaise (c : Str) : SF := fun ρ => .exc c ρ
theorem s_raise {x : Str} (hc : X.calm = true) (tk : Takes X W) {C : Addr} (hm : X.mg x = some (.ref C)) (he : PMk X e (fun _ H Q => Q (.ref C) none H)) : SD X W (.Raise (some e) none pos) (sRaise x) := ps_imp (ps_raise hc tk he) fun D σ H ⟨ρ, H0, Ob, s, o⟩ => o σ H C s hm
/-- a ghost: what is this frame's own is from here on changed by nobody -/
def sRel (i : Nat) (g : SF) : SF := fun ρ => match ρ[i]? with
  | some (.own d) => g (ρ.set i (.im d))
  | _ => g ρ
end

def fin : SRes → Res PyData
  | .nx _ => .ok .none
  | .rt d => .ok d
  | .exc c _ => .exc c
  | _ => .bad
def runDef (n k : Nat) (body : SF) (ds : List PyData) : Res PyData := if ds.length = k then fin (body (ds.map .im ++ List.replicate (n - k) .un)) else .bad
theorem RpA.slot {K : PySem.W.Frag} {H : Hp} {O : List Addr} {vs : List V} {ds : List PyData} (r : RpA K H O vs ds) {i : Nat} {d : PyData} (h : ds[i]? = some d) : ∃ v, vs[i]? = some v ∧ Rp K H O v d := r.get h
theorem sls_start {K : PySem.W.Frag} {H : Hp} {O : List Addr} {vs : List V} {ds : List PyData} {n k : Nat} (N : List Str) (hn : N.length = n) (hk : ds.length = k) (r : RpA K H O vs ds) (hO : ∀ b ∈ O, H b ≠ none) : Sls K H O O (L2.start N vs) (ds.map .im ++ List.replicate (n - k) .un) := by
  have hl : vs.length = ds.length := r.length
  refine ⟨?_, fun i sl h => ?_, fun i j a d e h _ _ _ => ?_, hO, fun b hb => hb, fun b hb => .inl hb⟩
  · show _ = (vs.map some ++ List.replicate (N.length - vs.length) none).length
    simp [hl, hn, hk]
  · by_cases q : i < ds.length
    · rw [List.getElem?_append_left (by simpa using q), List.getElem?_map, List.getElem?_eq_getElem q] at h
      cases h
      obtain ⟨v, h1, h2⟩ := r.get (List.getElem?_eq_getElem q)
      refine ⟨v, ?_, h2⟩
      show (vs.map some ++ _)[i]? = _
      rw [List.getElem?_append_left (by rw [List.length_map, hl]; exact q), List.getElem?_map, h1]
      rfl
    · rw [List.getElem?_append_right (by simpa using q)] at h
      have := List.getElem?_eq_some_iff.mp h
      obtain ⟨z, e⟩ := this
      rw [List.getElem_replicate] at e
      subst e
      trivial
  · exfalso
    by_cases q : i < ds.length
    · rw [List.getElem?_append_left (by simpa using q), List.getElem?_map, List.getElem?_eq_getElem q] at h
      cases h
    · rw [List.getElem?_append_right (by simpa using q)] at h
      obtain ⟨z, e⟩ := List.getElem?_eq_some_iff.mp h
      rw [List.getElem_replicate] at e
      cases e
section
variable {P : Program} {w : World} {K : PySem.W.Frag} {mg : Str → Option Value} {base : Heap}
theorem spD_len {Fm : List PyData → Res PyData} {n k : Nat} {body : SF} (hF : ∀ ds, Fm ds = runDef n k body ds) : ∀ vs H Q E, spD K mg Fm vs H Q E → vs.length = k := fun vs H Q E ⟨O, ds, _, r, o⟩ => by
  rw [r.length]
  rw [hF] at o
  unfold runDef at o
  split at o
  · rename_i h
    split at h
    · assumption
    · cases h
  · rename_i h
    split at h
    · assumption
    · cases h
  · exact o.elim
/-- what a body's wish is -/
abbrev WE0 (E : XK) : WX := fun cls d _ H => E cls d H
theorem fn_D0 {x qual : Str} {st : Stmt} {f : Addr} {fd : FuncData} {N ps : List Str} {k n : Nat} {Fm : List PyData → Res PyData} {g : SF} (F : Fun K x qual st f fd) (S : FnScope N ps (defScope st)) (hn : N.length = n) (hF : ∀ ds, Fm ds = runDef n ps.length g ds)
    (hbody : ∀ (cdv : Value) (A : Around) (outer : List PySem.Env) (s : Shared) (H : Hp) (E : XK), Room k (A.deeper (envOfC qual (defScope st) s.heap.objs.size f cdv)) → SsD (cxOf (L2.CX P w) P w K mg base N qual (defScope st) f cdv A outer s H E) (WE0 E) (defBody st) g) :
    FnOk P w K mg base (L2.CX P w) (k + 1) f fd ps (spD K mg Fm) := by
  refine F.okX S (spD_len hF) (fun cdv A outer s H vs Q E hr h => ?_)
  refine ⟨_, hbody cdv A outer s H E hr, ?_⟩
  obtain ⟨O, ds, hO, r, o⟩ := h
  rw [hF] at o
  unfold runDef at o
  by_cases hl : ds.length = ps.length
  case neg => rw [if_neg hl] at o; exact o.elim
  rw [if_pos hl] at o
  refine ⟨ds.map Sl.im ++ List.replicate (n - ps.length) Sl.un, H, O, ⟨O, sls_start N hn hl r hO, Ex.refl H, fun a ha => .inl ha⟩, ?_⟩
  cases q : g (ds.map Sl.im ++ List.replicate (n - ps.length) Sl.un) with
  | nx ρ =>
    rw [q] at o
    exact fun σ' H' ⟨_, _, ex, _⟩ => o .non H' ex .non
  | rt d =>
    rw [q] at o
    exact o
  | exc c ρ =>
    rw [q] at o
    exact fun σ' H' C ⟨_, _, ex, _⟩ hC => o H' C ex hC
  | bk ρ => rw [q] at o; exact o.elim
  | ct ρ => rw [q] at o; exact o.elim
  | bad => rw [q] at o; exact o.elim
theorem fn_D {x qual : Str} {st : Stmt} {f : Addr} {fd : FuncData} {N ps : List Str} {k n : Nat} {Fm : List PyData → Res PyData} {g : SF} (F : Fun K x qual st f fd) (S : FnScope N ps (defScope st)) (hn : N.length = n) (hF : ∀ ds, Fm ds = runDef n ps.length g ds)
    (hm : mg x = some (.ref f)) (hb : Binds K fd ps [])
    (hbody : ∀ (cdv : Value) (A : Around) (outer : List PySem.Env) (s : Shared) (H : Hp) (E : XK), Room k (A.deeper (envOfC qual (defScope st) s.heap.objs.size f cdv)) → SsD (cxOf (L2.CX P w) P w K mg base N qual (defScope st) f cdv A outer s H E) (WE0 E) (defBody st) g) :
    DefOk P w K mg base x ps (k + 1) Fm := ⟨f, fd, fn_D0 F S hn hF hbody, hm, F.kp, hb⟩
end
def spLaw (K : PySem.W.Frag) : Sp := fun vs H Q _ => ∃ (a : Addr) (ns : List Int), vs = [.ref a] ∧ Only H ∧ SqL K H a (ns.map V.int) ∧ ns.length ≤ 63 ∧ ∀ H', Q (.bl true) H'
theorem spLaw_D {K : PySem.W.Frag} {mg : Str → Option Value} {Fm : List PyData → Res PyData} (hF : ∀ ns : List Int, ns.length ≤ 63 → Fm [scrD ns] = .ok (.bool true)) : ∀ vs H Q E, spLaw K vs H Q E → spD K mg Fm vs H Q E := by
  intro vs H Q E ⟨a, ns, e, on, hS, hl, q⟩
  subst e
  have sk : ScrK K H a ns := by
    rcases hS with (h | ⟨o, h⟩) | h
    · rcases on a with z | ⟨o, xs, z⟩
      · rw [z] at h; cases h
      · rw [z] at h; cases h
    · exact .inl ⟨o, h⟩
    · exact .inr h
  refine ⟨[], [scrD ns], (fun b hb => nomatch hb), .cons (.scr sk rfl) .nil, ?_⟩
  rw [hF ns hl]
  intro v H' _ r
  cases r
  exact q H'
theorem cx_end {P : Program} {w : World} {H : Hp} {s : Shared} {e : Value} {s' : Shared} (h : L2.CX P w [] H s (fun _ _ _ => False) e s') : False := by
  obtain ⟨_, _, _, _, _, _, _, _, _, _, _, _, z⟩ := h
  exact z
/-- an own class of errors over ValueError -/
structure ExcOk (K : PySem.W.Frag) (mg : Str → Option Value) (x : Str) (C : Addr) : Prop where
  g : mg x = some (.ref C)
  x : PySem.W.excIn K C [.type "ValueError", .type "Exception", .type "BaseException", .type "object"] "ValueError.__new__" = true
  k : PySem.W.keepIn K (.ref C) = true
  b : PySem.W.subIn K (.ref C) (.type "BaseException") = some true
  t : PySem.W.typeIn K (.ref C) = some (.type "type")
end DL
namespace DL
open PySem PySem.Spec PyProof.Rows L2
open Evl (Ex fresh_back)
theorem hu65_of {A : Around} {k : Nat} (hr : Room k A) : A.units + 65 < cLine := by
  have := hr.un
  omega
def tyName : PyData → String
  | .none => "NoneType"
  | .bool _ => "bool"
  | .int _ => "int"
  | .str _ => "str"
  | .list _ => "list"
  | .tuple _ => "tuple"
  | .dict _ => "dict"
def isiB (a b : String) : Bool := a == b || (a == "bool" && b == "int")
def isiOk (T : String) : Bool := ["NoneType", "bool", "int", "str", "list", "tuple", "dict"].all fun a => kitB a T == some (isiB a T)
def notScr : PyData → Bool
  | .dict es => okD es
  | _ => true
def gIsi (T : String) (d : PyData) : Option PyData := if notScr d then some (.bool (isiB (tyName d) T)) else none
theorem tyName_mem (d : PyData) : tyName d ∈ ["NoneType", "bool", "int", "str", "list", "tuple", "dict"] := by cases d <;> simp [tyName]
section
variable {X : Cx} {W : WX} {m ma mb mc : Mode} {e a b c : Expr} {f fa fb fc : EF} {pos p pos2 p2 : Pos} {es : List Expr} {g : AF}
theorem rpm_ty {H : Hp} {O Ob : List Addr} {x : V} {d : PyData} (n : notScr d = true) (r : RpM X.K H O Ob ma x d) : TyX X.K H x (.type (tyName d)) := by
  cases d with
  | none => rw [rpm_non r]; exact .base .non
  | bool b => rw [rpm_bl r]; exact .base (.bl b)
  | int i => rw [rpm_int r]; exact .base (.int i)
  | str s => rw [rpm_str r]; exact .base (.str s)
  | list ds =>
    obtain ⟨a, xs, rfl, h, _⟩ := rpm_lst r
    exact .base (.lst h)
  | tuple ds =>
    obtain ⟨a, xs, rfl, h, _⟩ := rpm_tup r
    exact .base (.tup h)
  | dict es =>
    obtain ⟨a, xs, rfl, h, _⟩ := rpm_dic n r
    exact .base (.dT h)
theorem d_isi {T : String} {x2 : Str} (mi : X.mg "isinstance" = none) (mT : X.mg x2 = none) (ha : ED X W ma a fa) (hk : isiOk T = true := by decide +kernel) (hv : bootBuiltins x2 = some (.type T) := by decide +kernel)
    (hg : Gl X "isinstance" := by rfl) (hg2 : Gl X x2 := by rfl) (hn : x2 ≠ "__name__" := by decide) (hd : (x2 == ("__debug__" : Str)) = false := by decide)
    (hs : starEach [a, .Name x2 p2] X.env = (false, eval a X.env) :: starEach [.Name x2 p2] X.env := by rfl) (hs2 : starEach [.Name x2 p2] X.env = (false, eval (.Name x2 p2) X.env) :: starEach [] X.env := by rfl) (hpl : (backTo pos (starEach [.Name x2 p2] X.env)).any (·.1) = false := by rfl) :
    ED X W m (.Call (.Name "isinstance" p) [a, .Name x2 p2] [] pos) (eOp1 (gIsi T) fa) := by
  refine d_op1 (r := fun x H Q => rIsi X.K [x, .ty T] H Q) ha (fun h => pe_imp (pe_callB call_isi hg mi PyProof.Rows.boot_isinstance (pa_cons h (pa_cons (pe_bltn (v := .ty T) hg2 mT hv rfl hn hd) pa_nil hs2) hs) (by decide) (by decide) hs hpl) fun σ H Q z => z) fun x d z H O Ob Q F r qz o => ?_
  unfold gIsi at qz
  split at qz
  · rename_i n
    cases qz
    refine ⟨x, .ty T, .type (tyName d), .type T, isiB (tyName d) T, rfl, .ty T, rpm_ty n r, ?_, o _ H (Ex.refl H) (RpM.of_av (.bl _))⟩
    have := List.all_eq_true.mp hk (tyName d) (tyName_mem d)
    exact kit_ty (by simpa using this)
  · cases qz
end
end DL
namespace PySem
open PySem PySem.Spec PyProof.Rows L2
section
variable {prog : Program} {w : World} {A : Around} {E : Value → Shared → Prop} {s : Shared} {l : Addr} {its : List Value} {ns : List Int} {Q : Value → Shared → Prop}
theorem iter_intTup {l : Addr} {xs : Array (Int × Tok)} {Q : Value → Shared → Prop} (hl : s.heap.IsTuple l (intItems xs))
    (h : ∀ s₂ : Shared, s₂ = { s with heap := s.heap.push { cls := .type "tuple_iterator", data := .fields #[.ref l, .int 0 0] } } → (s₂.heap.IsTupleIter s.heap.objs.size l 0 ∧ s₂.heap.IsTuple l (intItems xs)) → (∀ b ∈ [s.heap.objs.size, l], b < s₂.heap.objs.size) → l ≠ s.heap.objs.size → Q (.ref s.heap.objs.size) s₂) :
    wpAny (model prog w) A (pyIter (.ref l)) Q E s := by
  have hlt : l < s.heap.objs.size := by obtain ⟨_, e, _⟩ := hl; exact Heap.lt_size e
  refine wpAny_pyIter_tuple hl (h _ rfl ⟨⟨_, Heap.get?_push_size _ rfl, rfl, rfl⟩, hl.push _⟩ (fun b hb => ?_) (Nat.ne_of_lt hlt))
  show b < (s.heap.push _).objs.size
  rw [Heap.size_push]
  rcases List.mem_cons.mp hb with rfl | hb
  · exact Nat.lt_succ_self _
  · rw [List.mem_singleton.mp hb]; exact Nat.lt_succ_of_lt hlt
theorem old_keptT {h' : Heap} (hk : ∀ b o, b ∉ [s.heap.objs.size] → (s.heap.push { cls := .type "tuple_iterator", data := .fields #[.ref l, .int 0 0] }).get? b = some o → h'.get? b = some o) :
    ∀ b o, s.heap.get? b = some o → h'.get? b = some o := fun b o e => by
  refine hk b o (fun hm => ?_) (Heap.get?_push_of_some _ e)
  rcases List.mem_cons.mp hm with e1 | hm
  · exact absurd (e1 ▸ Heap.lt_size e) (Nat.lt_irrefl _)
  · cases hm
theorem sum_rawT (hh : A.handled = none) (hl : s.heap.IsTuple l its.toArray) (hi : IntsAre its ns)
    (h : ∀ h' tk t', (∀ b o, s.heap.get? b = some o → h'.get? b = some o) → Q (.int ns.sum t') { s with heap := h', toks := tk }) : wpAny (model prog w) A (call (.builtin "sum") [.ref l]) Q E s := by
  obtain ⟨xs, e⟩ := hi.allInts.items
  have hn : numsOf (intItems xs).toList = ns := by rw [← e]; exact hi.numsOf
  rw [nums_intItems] at hn
  rw [e] at hl
  refine call_sum_walkG (iter_intTup hl fun s₂ e st hfp hlI => ?_)
  subst e
  refine ⟨_, _, _, _, _, _, numAt xs, rfl, Walks.tuple (A := A.in1) hh _ l hlI (intItems xs), st, hfp, (fun _ _ => intItems_at), fun h' tk t' hk => ?_⟩
  have := h h' tk t' (old_keptT hk)
  rw [preSum_eq, List.take_of_length_le (by simp [intItems]), hn]; exact this
theorem max_rawT (hh : A.handled = none) (hl : s.heap.IsTuple l its.toArray) (hi : IntsAre its ns) (hne : 0 < ns.length)
    (h : ∀ h' tk M t', (∀ b o, s.heap.get? b = some o → h'.get? b = some o) → M ∈ ns → (∀ a, a ∈ ns → a ≤ M) → Q (.int M t') { s with heap := h', toks := tk }) : wpAny (model prog w) A (call (.builtin "max") [.ref l]) Q E s := by
  obtain ⟨xs, e⟩ := hi.allInts.items
  have hn : numsOf (intItems xs).toList = ns := by rw [← e]; exact hi.numsOf
  rw [nums_intItems] at hn
  subst hn
  rw [e] at hl
  have hsz : 0 < xs.size := by simpa using hne
  refine call_max_walk (iter_intTup hl fun s₂ e st hfp hlI => ?_)
  subst e
  refine ⟨_, _, _, _, _, _, _, rfl, Walks.tuple (A := A.in1) hh _ l hlI (intItems xs), st, hfp, by simpa [intItems] using hsz, CmpOf.ints_gt (numAt xs) (fun _ _ => intItems_at), fun v h' tk hv hk => ?_⟩
  obtain ⟨t, rfl⟩ := intItems_at hv
  have e3 : (intItems xs).size = xs.size := by simp [intItems]
  rw [e3] at *
  obtain ⟨h1, h2⟩ := argBest_gt (numAt xs) (xs.size - 1)
  refine h h' tk _ t (old_keptT hk) ?_ fun a ha => ?_
  · rw [numAt_eq]; exact PySem.getD_mem (by rw [List.length_map, Array.length_toList]; omega)
  · obtain ⟨j, hj, rfl⟩ := mem_getD ha
    rw [List.length_map, Array.length_toList] at hj
    rw [← numAt_eq]; exact h2 j (by omega)
theorem min_rawT (hh : A.handled = none) (hl : s.heap.IsTuple l its.toArray) (hi : IntsAre its ns) (hne : 0 < ns.length)
    (h : ∀ h' tk M t', (∀ b o, s.heap.get? b = some o → h'.get? b = some o) → M ∈ ns → (∀ a, a ∈ ns → M ≤ a) → Q (.int M t') { s with heap := h', toks := tk }) : wpAny (model prog w) A (call (.builtin "min") [.ref l]) Q E s := by
  obtain ⟨xs, e⟩ := hi.allInts.items
  have hn : numsOf (intItems xs).toList = ns := by rw [← e]; exact hi.numsOf
  rw [nums_intItems] at hn
  subst hn
  rw [e] at hl
  have hsz : 0 < xs.size := by simpa using hne
  refine call_min_walk (iter_intTup hl fun s₂ e st hfp hlI => ?_)
  subst e
  refine ⟨_, _, _, _, _, _, _, rfl, Walks.tuple (A := A.in1) hh _ l hlI (intItems xs), st, hfp, by simpa [intItems] using hsz, CmpOf.ints_lt (numAt xs) (fun _ _ => intItems_at), fun v h' tk hv hk => ?_⟩
  obtain ⟨t, rfl⟩ := intItems_at hv
  have e3 : (intItems xs).size = xs.size := by simp [intItems]
  rw [e3] at *
  obtain ⟨h1, h2⟩ := argBest_lt (numAt xs) (xs.size - 1)
  refine h h' tk _ t (old_keptT hk) ?_ fun a ha => ?_
  · rw [numAt_eq]; exact PySem.getD_mem (by rw [List.length_map, Array.length_toList]; omega)
  · obtain ⟨j, hj, rfl⟩ := mem_getD ha
    rw [List.length_map, Array.length_toList] at hj
    rw [← numAt_eq]; exact h2 j (by omega)
end
end PySem
namespace DL
open PySem PySem.Spec PyProof.Rows L2
open Evl (Ex fresh_back)
section
variable {X : Cx} {W : WX} {m ma mb mc mm : Mode} {e a b c : Expr} {f fa fb fc : EF} {pos p p2 pos2 : Pos} {es : List Expr} {g : AF} {i : Nat}
theorem s_asgC {y : Str} {py spos : Pos} {elt tg iter : Expr} {ifs : List Expr} {scope : Scope} {own : List (Str × Nat)} {fi : IF} {is : List Nat} {st : GF} {t : BF} {el : EF} (hy : X.N[i]? = some y) (hyl : X.env.scope.names.lookup y = some .local)
    (hsw : swapsWith (.ListComp elt [⟨tg, iter, ifs, 0⟩] scope pos) (some (.Name y py)) spos.line X.env = pure true) (hc : X.calm = true) (hN : X.N.Nodup) (hi : ID X W mm tg iter fi) (ok : BlkOk X.N X.env.scope scope own)
    (hg : ∀ (s : Shared) (H : Hp) (C : Addr) (cl : List (Str × Addr)) (fp : List Addr), GD (X.blk s H scope (compEnvC scope cl C X.env) fp) tg is st) (ht : ∀ (s : Shared) (H : Hp) (C : Addr) (cl : List (Str × Addr)) (fp : List Addr), TsD (X.blk s H scope (compEnvC scope cl C X.env) fp) W0 ifs t)
    (he : ∀ (s : Shared) (H : Hp) (C : Addr) (cl : List (Str × Addr)) (fp : List Addr), ED (X.blk s H scope (compEnvC scope cl C X.env) fp) W0 .S elt el) (hv : ∀ i ∈ is, i ∈ own.map (·.2) := by decide) (hs : ∀ x, foldedSetIterable iter X.env x = pure x := by intro _; rfl) :
    SD X W (.Assign [.Name y py] (.ListComp elt [⟨tg, iter, ifs, 0⟩] scope pos) spos) (sAsg i (eComp (own.map (·.2)) fi st t el)) :=
  s_asg' (ps_setLc (g := rdG X.K is st) (tt := rdT X.K X.mg W0 t) (te := rdE X.K X.mg W0 .S el) hc hN hy hyl hsw hi ok hg ht he hs) fun σ H Q h => comp_imp (m := .S) (by decide) hv (rdE_F h)
theorem s_ownC {y : Str} {py spos : Pos} {elt tg iter : Expr} {ifs : List Expr} {scope : Scope} {own : List (Str × Nat)} {fi : IF} {is : List Nat} {st : GF} {t : BF} {el : EF} (hy : X.N[i]? = some y) (hyl : X.env.scope.names.lookup y = some .local)
    (hsw : swapsWith (.ListComp elt [⟨tg, iter, ifs, 0⟩] scope pos) (some (.Name y py)) spos.line X.env = pure true) (hc : X.calm = true) (hN : X.N.Nodup) (hi : ID X W mm tg iter fi) (ok : BlkOk X.N X.env.scope scope own)
    (hg : ∀ (s : Shared) (H : Hp) (C : Addr) (cl : List (Str × Addr)) (fp : List Addr), GD (X.blk s H scope (compEnvC scope cl C X.env) fp) tg is st) (ht : ∀ (s : Shared) (H : Hp) (C : Addr) (cl : List (Str × Addr)) (fp : List Addr), TsD (X.blk s H scope (compEnvC scope cl C X.env) fp) W0 ifs t)
    (he : ∀ (s : Shared) (H : Hp) (C : Addr) (cl : List (Str × Addr)) (fp : List Addr), ED (X.blk s H scope (compEnvC scope cl C X.env) fp) W0 .S elt el) (hv : ∀ i ∈ is, i ∈ own.map (·.2) := by decide) (hs : ∀ x, foldedSetIterable iter X.env x = pure x := by intro _; rfl) :
    SD X W (.Assign [.Name y py] (.ListComp elt [⟨tg, iter, ifs, 0⟩] scope pos) spos) (sOwn i (eComp (own.map (·.2)) fi st t el)) :=
  s_own' (ps_setLc (g := rdG X.K is st) (tt := rdT X.K X.mg W0 t) (te := rdE X.K X.mg W0 .S el) hc hN hy hyl hsw hi ok hg ht he hs) fun σ H Q h => comp_imp (m := .S) (by decide) hv h
abbrev OF := En → Res (Option Int)
def OutO (mg : Str → Option Value) (W : WX) (σ : L2.St) (H : Hp) (Q : Option Int → Hp → Prop) : Res (Option Int) → Prop
  | .ok b => ∀ H', Ex H H' → Q b H'
  | .exc c => ∀ H' C, Ex H H' → mg c = some (.ref C) → W (.ref C) none σ H'
  | .bad => False
def rdO (K : PySem.W.Frag) (mg : Str → Option Value) (W : WX) (f : OF) : TO := fun σ H Q => ∃ ρ O Ob, Sls K H O Ob σ ρ ∧ OutO mg W σ H Q (f ρ)
def OD (X : Cx) (W : WX) (e : Option Expr) (f : OF) : Prop := PO X e (rdO X.K X.mg W f)
theorem po_imp {e : Option Expr} {t t' : TO} (h : PO X e t) (i : ∀ σ H Q, t' σ H Q → t σ H Q) : PO X e t' := ⟨fun pins s σ H Q I q => h.run pins s σ H Q I (i _ _ _ q)⟩
def oNone : OF := fun _ => .ok none
def asI : PyData → Res (Option Int)
  | .int i => .ok (some i)
  | _ => .bad
def oSome (f : EF) : OF := fun ρ => (f ρ).bind asI
theorem o_none : OD X W none oNone := po_imp po_none fun σ H Q ⟨ρ, O, Ob, s, o⟩ => o H (Ex.refl H)
theorem o_some (h : ED X W m e f) : OD X W (some e) (oSome f) := po_imp (po_some h) fun σ H Q ⟨ρ, O, Ob, s, o⟩ => by
  refine ⟨ρ, O, Ob, s, ?_⟩
  unfold oSome at o
  cases qa : f ρ with
  | bad => simp only [qa] at o; exact o.elim
  | exc c => simp only [qa] at o; exact o
  | ok d =>
    simp only [qa, bind_ok] at o
    intro x H1 e1 r1
    cases d with
    | int i => exact ⟨i, rpm_int r1, o H1 e1⟩
    | _ => exact o.elim
def cutD {α : Type} (xs : List α) (lo hi : Option Int) : List α := (xs.drop (HT.sIx xs.length 0 lo)).take (HT.sIx xs.length xs.length hi - HT.sIx xs.length 0 lo)
def gSl (d : PyData) (lo hi : Option Int) : Res PyData := match d with
  | .list xs => .ok (.list (cutD xs lo hi))
  | .tuple xs => .ok (.tuple (cutD xs lo hi))
  | .str s => if s.length ≤ lim then .ok (.str (cutS s lo hi)) else .bad
  | _ => .bad
def eSl (f : EF) (lo hi : OF) : EF := fun ρ => (f ρ).bind fun d => (lo ρ).bind fun l => (hi ρ).bind fun h => gSl d l h
theorem RpA.cut {K : PySem.W.Frag} {H : Hp} {O : List Addr} {vs : List V} {ds : List PyData} (r : RpA K H O vs ds) (lo hi : Option Int) : RpA K H O (cutV vs lo hi) (cutD ds lo hi) := by
  unfold cutV cutD
  rw [r.length]
  exact (r.drop _).take _
theorem cut_whole {α : Type} {xs : List α} {lo hi : Option Int} (h : HT.sIx xs.length 0 lo = 0 ∧ HT.sIx xs.length xs.length hi = xs.length) : cutD xs lo hi = xs := by
  unfold cutD
  rw [h.1, h.2]
  simp
theorem d_slice {lo hi : Option Expr} {flo fhi : OF} (ha : ED X W ma a fa) (hl : OD X W lo flo) (hh : OD X W hi fhi) (ca : ma = .E → m = .E := by decide) : ED X W m (.Subscript a (.Slice lo hi none p2) pos) (eSl fa flo fhi) := by
  refine pe_imp (pe_slice (SlR.or sl_tupA (SlR.or sl_list sl_str)) ha hl hh) fun σ H Q ⟨ρ, O, Ob, s, o⟩ => ?_
  refine ⟨ρ, O, Ob, s, ?_⟩
  unfold eSl at o
  cases qa : fa ρ with
  | bad => simp only [qa] at o; exact o.elim
  | exc c => simp only [qa] at o; exact o
  | ok d =>
    simp only [qa, bind_ok] at o
    intro x H1 e1 r1
    refine ⟨ρ, O, Ob, s.ex e1, ?_⟩
    cases qb : flo ρ with
    | bad => simp only [qb] at o; exact o.elim
    | exc c =>
      simp only [qb] at o
      exact fun H' C e2 hC => o H' C (e1.trans e2) hC
    | ok l =>
      simp only [qb, bind_ok] at o
      intro H2 e2
      refine ⟨ρ, O, Ob, (s.ex e1).ex e2, ?_⟩
      cases qc : fhi ρ with
      | bad => simp only [qc] at o; exact o.elim
      | exc c =>
        simp only [qc] at o
        exact fun H' C e3 hC => o H' C ((e1.trans e2).trans e3) hC
      | ok u =>
        simp only [qc, bind_ok] at o
        intro H3 e3
        have F : Frm H3 O Ob := (Frm.of s).ex ((e1.trans e2).trans e3)
        have r3 := (r1.ex e2).ex e3
        have ex := (e1.trans e2).trans e3
        unfold gSl at o
        cases d with
        | tuple ds =>
          obtain ⟨p, us, rfl, hp, q1⟩ := rpm_tup r3
          refine .inl ⟨p, us, rfl, sqT_of hp, fun z => ?_, fun z n hn => ?_⟩
          · have z' := z
            rw [q1.length] at z'
            have o : ∀ v H', Ex H H' → RpM X.K H' O Ob m v (.tuple (cutD ds l u)) → Q v H' := o
            rw [cut_whole z'] at o
            exact o _ H3 ex (RpM.of_av (.tup hp (q1.av F ca)))
          · exact o _ _ (ex.trans (Evl.Ex.new hn)) (RpM.of_av (.tup upd_same ((q1.av F ca).cut l u |>.ex (Evl.Ex.new hn))))
        | list ds =>
          obtain ⟨p, us, rfl, hp, q1⟩ := rpm_lst r3
          refine .inr (.inl ⟨p, us, rfl, sqL_of hp, fun n hn => ?_⟩)
          exact o _ _ (ex.trans (Evl.Ex.new hn)) (RpM.of_av (.lst upd_same (F.fresh hn m) ((q1.av F ca).cut l u |>.ex (Evl.Ex.new hn))))
        | str z =>
          by_cases hl : z.length ≤ lim
          · simp only [if_pos hl] at o
            exact .inr (.inr ⟨z, rpm_str r3, lim_line hl, o _ H3 ex (RpM.of_av (.str _))⟩)
          · simp only [if_neg hl] at o
            exact o.elim
        | _ => exact o.elim
def intsOf : List PyData → Option (List Int)
  | [] => some []
  | .int i :: r => (intsOf r).map (i :: ·)
  | _ :: _ => none
theorem intsOf_map {ds : List PyData} {ns : List Int} (h : intsOf ds = some ns) : ds = ns.map PyData.int := by
  induction ds generalizing ns with
  | nil => cases h; rfl
  | cons d ds ih =>
    cases d with
    | int i =>
      simp only [intsOf] at h
      cases q : intsOf ds with
      | none => rw [q] at h; cases h
      | some ms => rw [q] at h; cases h; rw [ih q]; rfl
    | _ => cases h
@[simp] theorem intsOf_ints (ns : List Int) : intsOf (ns.map PyData.int) = some ns := by
  induction ns with
  | nil => rfl
  | cons n ns ih => simp only [List.map_cons, intsOf, ih]; rfl
def gSum : PyData → Option PyData
  | .list xs => (intsOf xs).map fun ns => .int ns.sum
  | .tuple xs => (intsOf xs).map fun ns => .int ns.sum
  | _ => none
/-- sum, max, min: what is asked of a list or a tuple of ints -/
def rNums (K : PySem.W.Frag) (P : List Int → Prop) (R : List Int → Int → Prop) : List V → Hp → VK → Prop := fun vs H Q => ∃ (a : Addr) (ns : List Int), vs = [V.ref a] ∧ (SqL K H a (ns.map V.int) ∨ SqT K H a (ns.map V.int)) ∧ P ns ∧ ∀ i, R ns i → Q (.int i) H
theorem call_sumA (hc : X.calm = true) : CallR X (.builtin "sum") (rNums X.K (fun _ => True) (fun ns i => i = ns.sum)) := by
  intro pins s σ H vs us Q I r h
  obtain ⟨a, ns, rfl, hs, _, q⟩ := h
  rw [Vals.ref1 r]
  rcases hs with hs | hs
  · obtain ⟨its, rv, hl, _⟩ := I.list hs
    exact sum_raw (I.ok.hd hc) hl.isList rv.ints fun h' tk t' hk => ⟨.int _, H, I.kept hk, ⟨_, rfl⟩, q _ rfl⟩
  · obtain ⟨its, rv, hl, _⟩ := I.tuple hs
    exact PySem.sum_rawT (I.ok.hd hc) (show s.heap.IsTuple a its.toArray from hl) rv.ints fun h' tk t' hk => ⟨.int _, H, I.kept hk, ⟨_, rfl⟩, q _ rfl⟩
theorem call_maxA (hc : X.calm = true) : CallR X (.builtin "max") (rNums X.K (fun ns => 0 < ns.length) (fun ns m => m ∈ ns ∧ ∀ y, y ∈ ns → y ≤ m)) := by
  intro pins s σ H vs us Q I r h
  obtain ⟨a, ns, rfl, hs, hne, q⟩ := h
  rw [Vals.ref1 r]
  rcases hs with hs | hs
  · obtain ⟨its, rv, hl, _⟩ := I.list hs
    exact max_raw (I.ok.hd hc) hl.isList rv.ints hne fun h' tk m t' hk h1 h2 => ⟨.int _, H, I.kept hk, ⟨_, rfl⟩, q m ⟨h1, h2⟩⟩
  · obtain ⟨its, rv, hl, _⟩ := I.tuple hs
    exact PySem.max_rawT (I.ok.hd hc) (show s.heap.IsTuple a its.toArray from hl) rv.ints hne fun h' tk m t' hk h1 h2 => ⟨.int _, H, I.kept hk, ⟨_, rfl⟩, q m ⟨h1, h2⟩⟩
theorem call_minA (hc : X.calm = true) : CallR X (.builtin "min") (rNums X.K (fun ns => 0 < ns.length) (fun ns m => m ∈ ns ∧ ∀ y, y ∈ ns → m ≤ y)) := by
  intro pins s σ H vs us Q I r h
  obtain ⟨a, ns, rfl, hs, hne, q⟩ := h
  rw [Vals.ref1 r]
  rcases hs with hs | hs
  · obtain ⟨its, rv, hl, _⟩ := I.list hs
    exact min_raw (I.ok.hd hc) hl.isList rv.ints hne fun h' tk m t' hk h1 h2 => ⟨.int _, H, I.kept hk, ⟨_, rfl⟩, q m ⟨h1, h2⟩⟩
  · obtain ⟨its, rv, hl, _⟩ := I.tuple hs
    exact PySem.min_rawT (I.ok.hd hc) (show s.heap.IsTuple a its.toArray from hl) rv.ints hne fun h' tk m t' hk h1 h2 => ⟨.int _, H, I.kept hk, ⟨_, rfl⟩, q m ⟨h1, h2⟩⟩
theorem foldl_max_spec (n : Int) : ∀ ns : List Int, (ns.foldl max n = n ∨ ns.foldl max n ∈ ns) ∧ n ≤ ns.foldl max n ∧ ∀ y ∈ ns, y ≤ ns.foldl max n := by
  intro ns
  induction ns generalizing n with
  | nil => exact ⟨.inl rfl, Int.le_refl _, fun _ h => nomatch h⟩
  | cons k r ih =>
    obtain ⟨h1, h2, h3⟩ := ih (max n k)
    rw [List.foldl_cons]
    refine ⟨?_, by omega, fun y hy => ?_⟩
    · rcases h1 with h | h
      · rw [h]
        by_cases q : n ≤ k
        · right; rw [show max n k = k by omega]; exact List.mem_cons_self
        · left; omega
      · right; exact List.mem_cons_of_mem _ h
    · rcases List.mem_cons.mp hy with rfl | hy
      · omega
      · exact h3 y hy
theorem foldl_min_spec (n : Int) : ∀ ns : List Int, (ns.foldl min n = n ∨ ns.foldl min n ∈ ns) ∧ ns.foldl min n ≤ n ∧ ∀ y ∈ ns, ns.foldl min n ≤ y := by
  intro ns
  induction ns generalizing n with
  | nil => exact ⟨.inl rfl, Int.le_refl _, fun _ h => nomatch h⟩
  | cons k r ih =>
    obtain ⟨h1, h2, h3⟩ := ih (min n k)
    rw [List.foldl_cons]
    refine ⟨?_, by omega, fun y hy => ?_⟩
    · rcases h1 with h | h
      · rw [h]
        by_cases q : k ≤ n
        · right; rw [show min n k = k by omega]; exact List.mem_cons_self
        · left; omega
      · right; exact List.mem_cons_of_mem _ h
    · rcases List.mem_cons.mp hy with rfl | hy
      · omega
      · exact h3 y hy
def maxI : List Int → Int
  | [] => 0
  | n :: r => r.foldl max n
def minI : List Int → Int
  | [] => 0
  | n :: r => r.foldl min n
theorem maxI_mem {ns : List Int} (h : 0 < ns.length) : maxI ns ∈ ns ∧ ∀ y ∈ ns, y ≤ maxI ns := by
  cases ns with
  | nil => cases h
  | cons n r =>
    obtain ⟨h1, h2, h3⟩ := foldl_max_spec n r
    refine ⟨?_, fun y hy => ?_⟩
    · show r.foldl max n ∈ n :: r
      rcases h1 with h | h
      · rw [h]; exact List.mem_cons_self
      · exact List.mem_cons_of_mem _ h
    · show y ≤ r.foldl max n
      rcases List.mem_cons.mp hy with rfl | hy
      · exact h2
      · exact h3 y hy
theorem minI_mem {ns : List Int} (h : 0 < ns.length) : minI ns ∈ ns ∧ ∀ y ∈ ns, minI ns ≤ y := by
  cases ns with
  | nil => cases h
  | cons n r =>
    obtain ⟨h1, h2, h3⟩ := foldl_min_spec n r
    refine ⟨?_, fun y hy => ?_⟩
    · show r.foldl min n ∈ n :: r
      rcases h1 with h | h
      · rw [h]; exact List.mem_cons_self
      · exact List.mem_cons_of_mem _ h
    · show r.foldl min n ≤ y
      rcases List.mem_cons.mp hy with rfl | hy
      · exact h2
      · exact h3 y hy
theorem maxI_eq {ns : List Int} {m : Int} (h : m ∈ ns) (h2 : ∀ y ∈ ns, y ≤ m) : m = maxI ns := by
  have l : 0 < ns.length := List.length_pos_of_mem h
  obtain ⟨a, b⟩ := maxI_mem l
  have := h2 _ a
  have := b _ h
  omega
theorem minI_eq {ns : List Int} {m : Int} (h : m ∈ ns) (h2 : ∀ y ∈ ns, m ≤ y) : m = minI ns := by
  have l : 0 < ns.length := List.length_pos_of_mem h
  obtain ⟨a, b⟩ := minI_mem l
  have := h2 _ a
  have := b _ h
  omega
def numsD : PyData → Option (List Int)
  | .list xs => intsOf xs
  | .tuple xs => intsOf xs
  | _ => none
theorem rpm_nums {H : Hp} {O Ob : List Addr} {x : V} {d : PyData} {ns : List Int} (h : numsD d = some ns) (r : RpM X.K H O Ob ma x d) : ∃ a, x = .ref a ∧ (SqL X.K H a (ns.map V.int) ∨ SqT X.K H a (ns.map V.int)) := by
  cases d with
  | list xs =>
    obtain ⟨p, us, rfl, hp, q1⟩ := rpm_lst r
    have := intsOf_map h
    subst this
    have := RpA.ints ns q1
    subst this
    exact ⟨p, rfl, .inl (sqL_of hp)⟩
  | tuple xs =>
    obtain ⟨p, us, rfl, hp, q1⟩ := rpm_tup r
    have := intsOf_map h
    subst this
    have := RpA.ints ns q1
    subst this
    exact ⟨p, rfl, .inr (sqT_of hp)⟩
  | _ => cases h
def gSumA (d : PyData) : Option PyData := (numsD d).map fun ns => .int ns.sum
def gMax (d : PyData) : Option PyData := match numsD d with
  | some (n :: ns) => some (.int (maxI (n :: ns)))
  | _ => none
def gMin (d : PyData) : Option PyData := match numsD d with
  | some (n :: ns) => some (.int (minI (n :: ns)))
  | _ => none
theorem d_sum (hm : X.mg "sum" = none) (ha : ED X W ma a fa) (hc : X.calm = true := by rfl) (hg : Gl X "sum" := by rfl) (hs : starEach [a] X.env = (false, eval a X.env) :: starEach [] X.env := by rfl) (hpl : (backTo pos (starEach [] X.env)).any (·.1) = false := by rfl) :
    ED X W m (.Call (.Name "sum" p) [a] [] pos) (eOp1 gSumA fa) :=
  d_callB (call_sumA hc) hm PyProof.Rows.boot_sum ha (fun x d z H O Ob Q F r qz o => by
    unfold gSumA at qz
    cases q : numsD d with
    | none => rw [q] at qz; cases qz
    | some ns =>
      rw [q] at qz
      cases qz
      obtain ⟨p, rfl, h⟩ := rpm_nums q r
      exact ⟨p, ns, rfl, h, trivial, fun i hi => hi ▸ o _ H (Ex.refl H) (RpM.of_av (.int _))⟩) hg (by decide) (by decide) hs hpl
theorem d_max (hm : X.mg "max" = none) (ha : ED X W ma a fa) (hc : X.calm = true := by rfl) (hg : Gl X "max" := by rfl) (hs : starEach [a] X.env = (false, eval a X.env) :: starEach [] X.env := by rfl) (hpl : (backTo pos (starEach [] X.env)).any (·.1) = false := by rfl) :
    ED X W m (.Call (.Name "max" p) [a] [] pos) (eOp1 gMax fa) :=
  d_callB (call_maxA hc) hm PyProof.Rows.boot_max ha (fun x d z H O Ob Q F r qz o => by
    unfold gMax at qz
    split at qz
    · rename_i n ns q
      cases qz
      obtain ⟨p, rfl, h⟩ := rpm_nums q r
      exact ⟨p, _, rfl, h, Nat.zero_lt_succ _, fun i hi => (maxI_eq hi.1 hi.2) ▸ o _ H (Ex.refl H) (RpM.of_av (.int _))⟩
    · cases qz) hg (by decide) (by decide) hs hpl
theorem d_min (hm : X.mg "min" = none) (ha : ED X W ma a fa) (hc : X.calm = true := by rfl) (hg : Gl X "min" := by rfl) (hs : starEach [a] X.env = (false, eval a X.env) :: starEach [] X.env := by rfl) (hpl : (backTo pos (starEach [] X.env)).any (·.1) = false := by rfl) :
    ED X W m (.Call (.Name "min" p) [a] [] pos) (eOp1 gMin fa) :=
  d_callB (call_minA hc) hm PyProof.Rows.boot_min ha (fun x d z H O Ob Q F r qz o => by
    unfold gMin at qz
    split at qz
    · rename_i n ns q
      cases qz
      obtain ⟨p, rfl, h⟩ := rpm_nums q r
      exact ⟨p, _, rfl, h, Nat.zero_lt_succ _, fun i hi => (minI_eq hi.1 hi.2) ▸ o _ H (Ex.refl H) (RpM.of_av (.int _))⟩
    · cases qz) hg (by decide) (by decide) hs hpl
/-- max(a, b) -/
def gMax2 : PyData → PyData → Option PyData
  | .int i, .int j => some (.int (if j > i then j else i))
  | _, _ => none
theorem d_max2 (hm : X.mg "max" = none) (ha : ED X W ma a fa) (hb : ED X W mb b fb) (hc : X.calm = true := by rfl) (hg : Gl X "max" := by rfl) (hs : starEach [a, b] X.env = (false, eval a X.env) :: starEach [b] X.env := by rfl) (hs2 : starEach [b] X.env = (false, eval b X.env) :: starEach [] X.env := by rfl) (hpl : (backTo pos (starEach [b] X.env)).any (·.1) = false := by rfl) :
    ED X W m (.Call (.Name "max" p) [a, b] [] pos) (eOp2 gMax2 fa fb) :=
  d_op2 (r := fun x y H Q => ∃ i j, [x, y] = [V.int i, V.int j] ∧ Q (.int (if j > i then j else i)) H) ha hb (fun h h2 => pe_imp (pe_callB (call_max2 hc) hg hm PyProof.Rows.boot_max (pa_cons h (pa_cons h2 pa_nil hs2) hs) (by decide) (by decide) hs hpl) fun σ H Q z => z) fun x y d d' z H O Ob Q F r1 r2 qz o => by
    unfold gMax2 at qz
    split at qz
    · cases qz
      exact ⟨_, _, by rw [rpm_int r1, rpm_int r2], o _ H (Ex.refl H) (RpM.of_av (.int _))⟩
    · cases qz
end
end DL
namespace DL
open PySem PySem.Spec PyProof.Rows L2
open Evl (Ex fresh_back)
def dedupI (ns : List Int) : List Int := ns.foldl PyProof.Rows.step_dedup []
theorem firstMet_all (ns : List Int) : PyProof.Rows.firstMet (fun i => ns.getD i 0) ns.length = dedupI ns := by
  unfold PyProof.Rows.firstMet dedupI
  congr 1
  apply List.ext_getElem?
  intro j
  by_cases hj : j < ns.length
  · rw [List.getElem?_map, List.getElem?_range hj, List.getElem?_eq_getElem hj]
    show some (ns.getD j 0) = _
    rw [List.getD_eq_getElem?_getD, List.getElem?_eq_getElem hj]
    rfl
  · rw [List.getElem?_eq_none (by simpa using hj), List.getElem?_eq_none (by omega)]
def tLenSetA (K : PySem.W.Frag) (ta : TE) : TE := fun σ H Q => ta σ H fun x H1 => ∃ (l : Addr) (ns : List Int), x = .ref l ∧ SqL K H1 l (ns.map V.int) ∧ ns.length ≤ 1000 ∧ Q (.int ((dedupI ns).length : Nat)) H1
theorem pe_lenSetA {X : Cx} {a : Expr} {ta : TE} {p p2 q pos : Pos} (hg : Gl X "len") (hm : X.mg "len" = none) (hg2 : Gl X "set") (hm2 : X.mg "set" = none) (ha : PE X a ta) (hc : X.calm = true := by rfl)
    (na : starEach [a] X.env = (false, eval a X.env) :: starEach [] X.env := by rfl) : PE X (.Call (.Name "len" p) [.Call (.Name "set" p2) [a] [] q] [] pos) (tLenSetA X.K ta) := by
  refine ⟨fun pins s σ H Q I h => ?_⟩
  refine Call_ (ld_blt I hg hm boot_len ?_)
  refine PyProof.Rows.callWith_builtin1 (PyProof.Rows.args_cons ?_ rfl) rfl rfl
  refine Call_ (ld_blt I hg2 hm2 boot_set ?_)
  refine PyProof.Rows.callWith_type1 (PyProof.Rows.args_cons (thn (ha.run pins s σ H _ I h) fun v s1 ⟨x, H1, I1, r1, q1⟩ => PyProof.Rows.args_nil ?_) na) na rfl
  obtain ⟨l, ns, rfl, hq, hl, q1⟩ := q1
  cases r1
  obtain ⟨its, r, pl, hz⟩ := I1.list hq
  have hlen : its.toArray.size = ns.length := by rw [List.size_toArray, ← r.length, List.length_map]
  refine call_set_list (I1.ok.hd hc) pl.isList (by simpa using RZ.intsAre_vals r) (by rw [hlen]; unfold scanBound; omega) fun h' tk hS hk => ?_
  refine PyProof.Rows.args_nil ?_
  have hle := PyProof.Rows.firstMet_length_le (fun i => ns.getD i 0) ns.length
  rw [hlen, firstMet_all] at hS
  rw [firstMet_all] at hle
  obtain ⟨o, es, ep, t, ho, hex, hd, _, _, _, hf, hn⟩ := hS
  have I2 : Inv X pins σ H1 { s1 with heap := h', toks := tk } := I1.kept fun b o e => hk b o (Heap.lt_size e) e
  exact call_len_set ho hex hd hf (by rw [hn] <;> omega) ⟨.int ((dedupI ns).length : Nat), H1, I2.tok _, ⟨_, by rw [hn]⟩, q1⟩
def gLenSet : PyData → Option PyData
  | .list xs => (intsOf xs).bind fun ns => if ns.length ≤ 1000 then some (.int ((dedupI ns).length : Nat)) else none
  | _ => none
section
variable {X : Cx} {W : WX} {m ma mb mc mm : Mode} {e a b c : Expr} {f fa fb fc : EF} {pos p p2 pos2 q : Pos} {es : List Expr} {g : AF} {i : Nat}
theorem d_lenSet (hm : X.mg "len" = none) (hm2 : X.mg "set" = none) (ha : ED X W ma a fa) (hc : X.calm = true := by rfl) (hg : Gl X "len" := by rfl) (hg2 : Gl X "set" := by rfl) (na : starEach [a] X.env = (false, eval a X.env) :: starEach [] X.env := by rfl) :
    ED X W m (.Call (.Name "len" p) [.Call (.Name "set" p2) [a] [] q] [] pos) (eOp1 gLenSet fa) :=
  d_op1 (r := fun x H1 Q => ∃ (l : Addr) (ns : List Int), x = .ref l ∧ SqL X.K H1 l (ns.map V.int) ∧ ns.length ≤ 1000 ∧ Q (.int ((dedupI ns).length : Nat)) H1) ha (fun h => pe_imp (pe_lenSetA hg hm hg2 hm2 h hc na) fun σ H Q z => z) fun x d z H O Ob Q F r qz o => by
    cases d with
    | list xs =>
      simp only [gLenSet] at qz
      cases qn : intsOf xs with
      | none => rw [qn] at qz; cases qz
      | some ns =>
        simp only [qn, Option.bind_some] at qz
        split at qz
        · rename_i hl
          cases qz
          obtain ⟨p, us, rfl, hp, q1⟩ := rpm_lst r
          have := intsOf_map qn
          subst this
          have := RpA.ints ns q1
          subst this
          exact ⟨p, ns, rfl, sqL_of hp, hl, o _ H (Ex.refl H) (RpM.of_av (.int _))⟩
        · cases qz
    | _ => cases qz
end
end DL
namespace DL
open PySem L2

def slI : Option Sl → Res PyData
  | some (.im d) => .ok d
  | _ => .bad
def slB : Option Sl → Res PyData
  | some (.im d) => .ok d
  | some (.own d) => .ok d
  | _ => .bad
@[simp] theorem slI_im (d : PyData) : slI (some (.im d)) = .ok d := (rfl)
@[simp] theorem slB_im (d : PyData) : slB (some (.im d)) = .ok d := (rfl)
@[simp] theorem slB_own (d : PyData) : slB (some (.own d)) = .ok d := (rfl)
@[simp] theorem eVar_ap (i : Nat) (ρ : En) : eVar i ρ = slI ρ[i]? := by
  unfold eVar slI
  rfl
@[simp] theorem eVarB_ap (i : Nat) (ρ : En) : eVarB i ρ = slB ρ[i]? := by
  unfold eVarB slB
  rfl
@[simp] theorem eK_ap (d : PyData) (ρ : En) : eK d ρ = .ok d := (rfl)
def op2 (g : PyData → PyData → Option PyData) (a b : Res PyData) : Res PyData := a.bind fun d => b.bind fun d' => ofO (g d d')
def op1 (g : PyData → Option PyData) (a : Res PyData) : Res PyData := a.bind fun d => ofO (g d)
@[simp] theorem op2_ok (g : PyData → PyData → Option PyData) (x y : PyData) : op2 g (.ok x) (.ok y) = ofO (g x y) := (rfl)
@[simp] theorem op1_ok (g : PyData → Option PyData) (x : PyData) : op1 g (.ok x) = ofO (g x) := (rfl)
@[simp] theorem eOp2_ap (g : PyData → PyData → Option PyData) (a b : EF) (ρ : En) : eOp2 g a b ρ = op2 g (a ρ) (b ρ) := (rfl)
@[simp] theorem eOp1_ap (g : PyData → Option PyData) (a : EF) (ρ : En) : eOp1 g a ρ = op1 g (a ρ) := (rfl)
def cm2 (k : PyData → PyData → Option Bool) (a b : Res PyData) : Res Bool := a.bind fun d => b.bind fun d' => ofO (k d d')
@[simp] theorem cm2_ok (k : PyData → PyData → Option Bool) (x y : PyData) : cm2 k (.ok x) (.ok y) = ofO (k x y) := (rfl)
@[simp] theorem bCmp_ap (k : PyData → PyData → Option Bool) (a b : EF) (ρ : En) : bCmp k a b ρ = cm2 k (a ρ) (b ρ) := (rfl)
def rB (a : Res Bool) : Res PyData := a.bind fun b => .ok (.bool b)
@[simp] theorem rB_ok (b : Bool) : rB (.ok b) = .ok (.bool b) := (rfl)
@[simp] theorem asV_ap (f : BF) (ρ : En) : asV f ρ = rB (f ρ) := (rfl)
@[simp] theorem eCmp_ap (k : PyData → PyData → Option Bool) (a b : EF) (ρ : En) : eCmp k a b ρ = rB (cm2 k (a ρ) (b ρ)) := by
  unfold eCmp eOp2 rB cm2
  cases a ρ with
  | ok x => 
    cases b ρ with
    | ok y =>
      simp only [bind_ok]
      cases k x y <;> rfl
    | _ => rfl
  | _ => rfl
def chn (k k' : PyData → PyData → Option Bool) (a b c : Res PyData) : Res Bool := a.bind fun d => b.bind fun d' => (ofO (k d d')).bind fun t => if t = true then c.bind fun d'' => ofO (k' d' d'') else .ok false
@[simp] theorem fChain_ap (k k' : PyData → PyData → Option Bool) (a b c : EF) (ρ : En) : fChain k k' a b c ρ = chn k k' (a ρ) (b ρ) (c ρ) := (rfl)
theorem chn_ok (k k' : PyData → PyData → Option Bool) (x y z : PyData) : chn k k' (.ok x) (.ok y) (.ok z) = (ofO (k x y)).bind fun t => if t = true then ofO (k' y z) else .ok false := (rfl)
@[simp] theorem chn_int (p p' : Int → Int → Bool) (i j l : Int) : chn (c2I p) (c2I p') (.ok (.int i)) (.ok (.int j)) (.ok (.int l)) = .ok (p i j && p' j l) := by
  rw [chn_ok]
  show (if p i j = true then Res.ok (p' j l) else .ok false) = _
  cases p i j <;> rfl
def unB (a : Res PyData) : Res Bool := a.bind fun d => match d with
  | .bool b => .ok b
  | _ => .bad
@[simp] theorem unB_ok (b : Bool) : unB (.ok (.bool b)) = .ok b := (rfl)
@[simp] theorem asB_ap (f : EF) (ρ : En) : asB f ρ = unB (f ρ) := (rfl)
def tr1 (a : Res PyData) : Res Bool := a.bind fun d => ofO (tru d)
@[simp] theorem tr1_ok (d : PyData) : tr1 (.ok d) = ofO (tru d) := (rfl)
@[simp] theorem asT_ap (f : EF) (ρ : En) : asT f ρ = tr1 (f ρ) := (rfl)
def bAnd (a b : Res Bool) : Res Bool := a.bind fun t => if t = true then b else .ok false
def bOr (a b : Res Bool) : Res Bool := a.bind fun t => if t = true then .ok true else b
def bNot (a : Res Bool) : Res Bool := a.bind fun t => .ok (!t)
@[simp] theorem bAnd_t (b : Res Bool) : bAnd (.ok true) b = b := (rfl)
@[simp] theorem bAnd_f (b : Res Bool) : bAnd (.ok false) b = .ok false := (rfl)
@[simp] theorem bAnd_ok (a b : Bool) : bAnd (.ok a) (.ok b) = .ok (a && b) := by cases a <;> rfl
@[simp] theorem bOr_t (b : Res Bool) : bOr (.ok true) b = .ok true := (rfl)
@[simp] theorem bOr_f (b : Res Bool) : bOr (.ok false) b = b := (rfl)
@[simp] theorem bOr_ok (a b : Bool) : bOr (.ok a) (.ok b) = .ok (a || b) := by cases a <;> rfl
@[simp] theorem bNot_ok (a : Bool) : bNot (.ok a) = .ok (!a) := (rfl)
@[simp] theorem fAnd_ap (f g : BF) (ρ : En) : fAnd f g ρ = bAnd (f ρ) (g ρ) := (rfl)
@[simp] theorem fOr_ap (f g : BF) (ρ : En) : fOr f g ρ = bOr (f ρ) (g ρ) := (rfl)
@[simp] theorem fNot_ap (f : BF) (ρ : En) : fNot f ρ = bNot (f ρ) := (rfl)
@[simp] theorem bYes_ap (ρ : En) : bYes ρ = .ok true := (rfl)
def vAnd (a b : Res PyData) : Res PyData := a.bind fun d => match d with
  | .bool true => b
  | .bool false => .ok (.bool false)
  | _ => .bad
def vOr (a b : Res PyData) : Res PyData := a.bind fun d => match d with
  | .bool false => b
  | .bool true => .ok (.bool true)
  | _ => .bad
def vNot (a : Res PyData) : Res PyData := a.bind fun d => match d with
  | .bool b => .ok (.bool (!b))
  | _ => .bad
@[simp] theorem vAnd_t (b : Res PyData) : vAnd (.ok (.bool true)) b = b := (rfl)
@[simp] theorem vAnd_f (b : Res PyData) : vAnd (.ok (.bool false)) b = .ok (.bool false) := (rfl)
@[simp] theorem vAnd_ok (a b : Bool) : vAnd (.ok (.bool a)) (.ok (.bool b)) = .ok (.bool (a && b)) := by cases a <;> rfl
@[simp] theorem vOr_t (b : Res PyData) : vOr (.ok (.bool true)) b = .ok (.bool true) := (rfl)
@[simp] theorem vOr_f (b : Res PyData) : vOr (.ok (.bool false)) b = b := (rfl)
@[simp] theorem vOr_ok (a b : Bool) : vOr (.ok (.bool a)) (.ok (.bool b)) = .ok (.bool (a || b)) := by cases a <;> rfl
@[simp] theorem vNot_ok (a : Bool) : vNot (.ok (.bool a)) = .ok (.bool (!a)) := (rfl)
@[simp] theorem eAnd_ap (f g : EF) (ρ : En) : eAnd f g ρ = vAnd (f ρ) (g ρ) := by
  unfold eAnd vAnd
  rfl
@[simp] theorem eOr_ap (f g : EF) (ρ : En) : eOr f g ρ = vOr (f ρ) (g ρ) := by
  unfold eOr vOr
  rfl
@[simp] theorem eNot_ap (f : EF) (ρ : En) : eNot f ρ = vNot (f ρ) := (rfl)
def sel (t : Res Bool) (a b : Res PyData) : Res PyData := t.bind fun t => if t = true then a else b
@[simp] theorem sel_t (a b : Res PyData) : sel (.ok true) a b = a := (rfl)
@[simp] theorem sel_f (a b : Res PyData) : sel (.ok false) a b = b := (rfl)
@[simp] theorem sel_ok (t : Bool) (a b : PyData) : sel (.ok t) (.ok a) (.ok b) = .ok (if t then a else b) := by cases t <;> rfl
@[simp] theorem eIf_ap (t : BF) (f g : EF) (ρ : En) : eIf t f g ρ = sel (t ρ) (f ρ) (g ρ) := (rfl)
def acs (a : Res PyData) (b : Res (List PyData)) : Res (List PyData) := a.bind fun d => b.bind fun ds => .ok (d :: ds)
@[simp] theorem acs_ok (d : PyData) (ds : List PyData) : acs (.ok d) (.ok ds) = .ok (d :: ds) := (rfl)
@[simp] theorem aNil_ap (ρ : En) : aNil ρ = .ok [] := (rfl)
@[simp] theorem aCons_ap (f : EF) (g : AF) (ρ : En) : aCons f g ρ = acs (f ρ) (g ρ) := (rfl)
def cal (F : List PyData → Res PyData) (a : Res (List PyData)) : Res PyData := a.bind F
@[simp] theorem cal_ok (F : List PyData → Res PyData) (ds : List PyData) : cal F (.ok ds) = F ds := (rfl)
@[simp] theorem eCall_ap (F : List PyData → Res PyData) (g : AF) (ρ : En) : eCall F g ρ = cal F (g ρ) := (rfl)
def tupR (a : Res (List PyData)) : Res PyData := a.bind fun ds => if ds.length ≤ lim then .ok (.tuple ds) else .bad
def lstR (a : Res (List PyData)) : Res PyData := a.bind fun ds => if ds.length ≤ lim then .ok (.list ds) else .bad
@[simp] theorem eTup_ap (g : AF) (ρ : En) : eTup g ρ = tupR (g ρ) := (rfl)
@[simp] theorem eLst_ap (g : AF) (ρ : En) : eLst g ρ = lstR (g ρ) := (rfl)
theorem tupR_ok (ds : List PyData) (h : ds.length ≤ lim) : tupR (.ok ds) = .ok (.tuple ds) := by
  show (if ds.length ≤ lim then Res.ok (PyData.tuple ds) else .bad) = _
  rw [if_pos h]
theorem lstR_ok (ds : List PyData) (h : ds.length ≤ lim) : lstR (.ok ds) = .ok (.list ds) := by
  show (if ds.length ≤ lim then Res.ok (PyData.list ds) else .bad) = _
  rw [if_pos h]
@[simp] theorem tupR_0 : tupR (.ok []) = .ok (.tuple []) := tupR_ok _ (by decide)
@[simp] theorem tupR_1 (a : PyData) : tupR (.ok [a]) = .ok (.tuple [a]) := tupR_ok _ (Nat.le_of_ble_eq_true rfl)
@[simp] theorem tupR_2 (a b : PyData) : tupR (.ok [a, b]) = .ok (.tuple [a, b]) := tupR_ok _ (Nat.le_of_ble_eq_true rfl)
@[simp] theorem tupR_3 (a b c : PyData) : tupR (.ok [a, b, c]) = .ok (.tuple [a, b, c]) := tupR_ok _ (Nat.le_of_ble_eq_true rfl)
@[simp] theorem tupR_4 (a b c d : PyData) : tupR (.ok [a, b, c, d]) = .ok (.tuple [a, b, c, d]) := tupR_ok _ (Nat.le_of_ble_eq_true rfl)
@[simp] theorem lstR_0 : lstR (.ok []) = .ok (.list []) := lstR_ok _ (by decide)
@[simp] theorem lstR_1 (a : PyData) : lstR (.ok [a]) = .ok (.list [a]) := lstR_ok _ (Nat.le_of_ble_eq_true rfl)
@[simp] theorem lstR_2 (a b : PyData) : lstR (.ok [a, b]) = .ok (.list [a, b]) := lstR_ok _ (Nat.le_of_ble_eq_true rfl)
@[simp] theorem lstR_3 (a b c : PyData) : lstR (.ok [a, b, c]) = .ok (.list [a, b, c]) := lstR_ok _ (Nat.le_of_ble_eq_true rfl)
@[simp] theorem lstR_4 (a b c d : PyData) : lstR (.ok [a, b, c, d]) = .ok (.list [a, b, c, d]) := lstR_ok _ (Nat.le_of_ble_eq_true rfl)
def SRes.seq (r : SRes) (h : SF) : SRes := match r with
  | .nx ρ' => h ρ'
  | r => r
@[simp] theorem seq_nx (ρ : En) (h : SF) : (SRes.nx ρ).seq h = h ρ := (rfl)
@[simp] theorem seq_rt (d : PyData) (h : SF) : (SRes.rt d).seq h = .rt d := (rfl)
@[simp] theorem seq_exc (c : Str) (ρ : En) (h : SF) : (SRes.exc c ρ).seq h = .exc c ρ := (rfl)
@[simp] theorem seq_bk (ρ : En) (h : SF) : (SRes.bk ρ).seq h = .bk ρ := (rfl)
@[simp] theorem seq_ct (ρ : En) (h : SF) : (SRes.ct ρ).seq h = .ct ρ := (rfl)
@[simp] theorem sSeq_ap (g h : SF) (ρ : En) : sSeq g h ρ = (g ρ).seq h := by
  unfold sSeq SRes.seq
  cases g ρ <;> rfl
@[simp] theorem sNx_ap (ρ : En) : sNx ρ = .nx ρ := (rfl)
@[simp] theorem sBk_ap (ρ : En) : sBk ρ = .bk ρ := (rfl)
@[simp] theorem sCt_ap (ρ : En) : sCt ρ = .ct ρ := (rfl)
def asgR (i : Nat) (ρ : En) : Res PyData → SRes
  | .ok d => .nx (ρ.set i (.im d))
  | .exc c => .exc c ρ
  | .bad => .bad
def ownR (i : Nat) (ρ : En) : Res PyData → SRes
  | .ok d => .nx (ρ.set i (.own d))
  | .exc c => .exc c ρ
  | .bad => .bad
@[simp] theorem asgR_ok (i : Nat) (ρ : En) (d : PyData) : asgR i ρ (.ok d) = .nx (ρ.set i (.im d)) := (rfl)
@[simp] theorem ownR_ok (i : Nat) (ρ : En) (d : PyData) : ownR i ρ (.ok d) = .nx (ρ.set i (.own d)) := (rfl)
@[simp] theorem asgR_exc (i : Nat) (ρ : En) (c : Str) : asgR i ρ (.exc c) = .exc c ρ := (rfl)
@[simp] theorem sAsg_ap (i : Nat) (f : EF) (ρ : En) : sAsg i f ρ = asgR i ρ (f ρ) := by
  unfold sAsg asgR
  cases f ρ <;> rfl
@[simp] theorem sOwn_ap (i : Nat) (f : EF) (ρ : En) : sOwn i f ρ = ownR i ρ (f ρ) := by
  unfold sOwn ownR
  cases f ρ <;> rfl
def tgtR (sg : GF) (ρ : En) : Res PyData → SRes
  | .ok d => (match sg d ρ with
    | some ρ' => .nx ρ'
    | none => .bad)
  | .exc c => .exc c ρ
  | .bad => .bad
@[simp] theorem sTgt_ap (f : EF) (sg : GF) (ρ : En) : sTgt f sg ρ = tgtR sg ρ (f ρ) := by
  unfold sTgt tgtR
  cases f ρ <;> rfl
theorem tgtR_ok {sg : GF} {ρ ρ' : En} {d : PyData} (h : sg d ρ = some ρ') : tgtR sg ρ (.ok d) = .nx ρ' := by
  show (match sg d ρ with
    | some ρ' => SRes.nx ρ'
    | none => .bad) = _
  rw [h]
def retR (ρ : En) : Res PyData → SRes
  | .ok d => .rt d
  | .exc c => .exc c ρ
  | .bad => .bad
@[simp] theorem retR_ok (ρ : En) (d : PyData) : retR ρ (.ok d) = .rt d := (rfl)
@[simp] theorem retR_exc (ρ : En) (c : Str) : retR ρ (.exc c) = .exc c ρ := (rfl)
@[simp] theorem sRet_ap (f : EF) (ρ : En) : sRet f ρ = retR ρ (f ρ) := by
  unfold sRet retR
  cases f ρ <;> rfl
@[simp] theorem sRetN_ap (ρ : En) : sRetN ρ = .rt .none := (rfl)
def drpR (ρ : En) : Res PyData → SRes
  | .ok _ => .nx ρ
  | .exc c => .exc c ρ
  | .bad => .bad
@[simp] theorem drpR_ok (ρ : En) (d : PyData) : drpR ρ (.ok d) = .nx ρ := (rfl)
@[simp] theorem drpR_exc (ρ : En) (c : Str) : drpR ρ (.exc c) = .exc c ρ := (rfl)
@[simp] theorem sDrop_ap (f : EF) (ρ : En) : sDrop f ρ = drpR ρ (f ρ) := by
  unfold sDrop drpR
  cases f ρ <;> rfl
def ifR (ρ : En) (g h : SF) : Res Bool → SRes
  | .ok true => g ρ
  | .ok false => h ρ
  | .exc c => .exc c ρ
  | .bad => .bad
@[simp] theorem ifR_t (ρ : En) (g h : SF) : ifR ρ g h (.ok true) = g ρ := (rfl)
@[simp] theorem ifR_f (ρ : En) (g h : SF) : ifR ρ g h (.ok false) = h ρ := (rfl)
@[simp] theorem sIf_ap (t : BF) (g h : SF) (ρ : En) : sIf t g h ρ = ifR ρ g h (t ρ) := by
  unfold sIf ifR
  rfl
def appR (i : Nat) (ρ : En) : Option Sl → Res PyData → SRes
  | some (.own (.list ds)), .ok d => if ds.length < lim then .nx (ρ.set i (.own (.list (ds ++ [d])))) else .bad
  | some (.own (.list _)), .exc c => .exc c ρ
  | _, _ => .bad
@[simp] theorem sApp_ap (i : Nat) (f : EF) (ρ : En) : sApp i f ρ = appR i ρ ρ[i]? (f ρ) := by
  unfold sApp appR
  split
  · rename_i h
    rw [h]
    cases f ρ <;> rfl
  · rename_i h
    split
    · rename_i h2 _
      exact absurd h2 (h _)
    · rename_i h2 _
      exact absurd h2 (h _)
    · rfl
theorem appR_ok {i : Nat} {ρ : En} {ds : List PyData} {d : PyData} (h : ds.length < lim) : appR i ρ (some (.own (.list ds))) (.ok d) = .nx (ρ.set i (.own (.list (ds ++ [d])))) := by
  show (if ds.length < lim then SRes.nx (ρ.set i (.own (.list (ds ++ [d])))) else .bad) = _
  rw [if_pos h]
def forR (ρ : En) (sg : GF) (g : SF) : Res (List PyData) → SRes
  | .ok ds => forGo sg g ds ρ
  | .exc c => .exc c ρ
  | .bad => .bad
@[simp] theorem forR_ok (ρ : En) (sg : GF) (g : SF) (ds : List PyData) : forR ρ sg g (.ok ds) = forGo sg g ds ρ := (rfl)
@[simp] theorem sFor_ap (fi : IF) (sg : GF) (g : SF) (ρ : En) : sFor fi sg g ρ = forR ρ sg g (fi ρ) := by
  unfold sFor forR
  cases fi ρ <;> rfl
@[simp] theorem sRaise_ap (c : Str) (ρ : En) : sRaise c ρ = .exc c ρ := (rfl)
@[simp] theorem fin_nx (ρ : En) : fin (.nx ρ) = .ok .none := (rfl)
@[simp] theorem fin_rt (d : PyData) : fin (.rt d) = .ok d := (rfl)
@[simp] theorem fin_exc (c : Str) (ρ : En) : fin (.exc c ρ) = .exc c := (rfl)
def seqR (a : Res PyData) : Res (List PyData) := a.bind items
@[simp] theorem seqR_l (ds : List PyData) : seqR (.ok (.list ds)) = .ok ds := (rfl)
@[simp] theorem seqR_t (ds : List PyData) : seqR (.ok (.tuple ds)) = .ok ds := (rfl)
@[simp] theorem itSeq_ap (f : EF) (ρ : En) : itSeq f ρ = seqR (f ρ) := (rfl)
def rng1R (a : Res (List PyData)) : Res (List PyData) := a.bind fRng1
def rng2R (a : Res (List PyData)) : Res (List PyData) := a.bind fRng2
@[simp] theorem itRng1_ap (g : AF) (ρ : En) : itRng1 g ρ = rng1R (g ρ) := (rfl)
@[simp] theorem itRng2_ap (g : AF) (ρ : En) : itRng2 g ρ = rng2R (g ρ) := (rfl)
theorem rng1R_ok {j : Int} (h : -1000000 ≤ j ∧ j ≤ 1000000) : rng1R (.ok [.int j]) = .ok (rangeD 0 j.toNat) := by
  simp only [rng1R, bind_ok, fRng1]
  rw [if_pos h]
theorem rng1R_nat {j : Nat} (h : j < 1000000) : rng1R (.ok [.int (j : Nat)]) = .ok (rangeD 0 j) := by
  rw [rng1R_ok (by omega)]
  rfl
theorem rng2R_nat {i j : Nat} (h : i < 1000000) (h' : j < 1000000) : rng2R (.ok [.int (i : Nat), .int (j : Nat)]) = .ok (rangeD i (j - i)) := by
  simp only [rng2R, bind_ok, fRng2]
  rw [if_pos (by omega), show ((j : Int) - (i : Int)).toNat = j - i by omega]
def cmpR (st : GF) (t : BF) (el : EF) (ρ0 : En) (a : Res (List PyData)) : Res PyData := a.bind fun ds => if ds.length ≤ lim then (compGo st t el ρ0 ds).bind fun xs => .ok (.list xs) else .bad
@[simp] theorem eComp_ap (vs : List Nat) (fi : IF) (st : GF) (t : BF) (el : EF) (ρ : En) : eComp vs fi st t el ρ = cmpR st t el (wipeE ρ vs) (fi ρ) := (rfl)
theorem cmpR_ok {st : GF} {t : BF} {el : EF} {ρ0 : En} {ds xs : List PyData} (h : ds.length ≤ lim) (c : compGo st t el ρ0 ds = .ok xs) : cmpR st t el ρ0 (.ok ds) = .ok (.list xs) := by
  show (if ds.length ≤ lim then (compGo st t el ρ0 ds).bind fun xs => Res.ok (PyData.list xs) else .bad) = _
  rw [if_pos h, c]
  rfl
@[simp] theorem gtN_ap (i : Nat) (d : PyData) (ρ : En) : gtN i d ρ = some (ρ.set i (.im d)) := (rfl)
@[simp] theorem gtCons_ap (st : GF) (sts : GsF) (d : PyData) (r : List PyData) (ρ : En) : gtCons st sts (d :: r) ρ = (st d ρ).bind (sts r) := (rfl)
@[simp] theorem gtNil_ap (ρ : En) : gtNil [] ρ = some ρ := (rfl)
theorem ofTup_ap {n : Nat} {sts : GsF} {ds : List PyData} {ρ : En} (h : ds.length = n) : ofTup n sts (.tuple ds) ρ = sts ds ρ := if_pos h
@[simp] theorem ofTup_2 {sts : GsF} {a b : PyData} {ρ : En} : ofTup 2 sts (.tuple [a, b]) ρ = sts [a, b] ρ := (rfl)
@[simp] theorem ofTup_3 {sts : GsF} {a b c : PyData} {ρ : En} : ofTup 3 sts (.tuple [a, b, c]) ρ = sts [a, b, c] ρ := (rfl)
@[simp] theorem g2I_int (p : Int → Int → Bool) (g : Int → Int → PyData) (i j : Int) : g2I p g (.int i) (.int j) = if p i j then some (g i j) else none := (rfl)
@[simp] theorem gAdd_int (i j : Int) : gAdd (.int i) (.int j) = some (.int (i + j)) := (rfl)
theorem gAdd_lst {xs ys : List PyData} (h : xs.length + ys.length ≤ lim) : gAdd (.list xs) (.list ys) = some (.list (xs ++ ys)) := if_pos h
theorem gAdd_tup {xs ys : List PyData} (h : xs.length + ys.length ≤ lim) : gAdd (.tuple xs) (.tuple ys) = some (.tuple (xs ++ ys)) := if_pos h
theorem gAdd_str {a b : Str} (h : a.length + b.length ≤ lim) : gAdd (.str a) (.str b) = some (.str (a ++ b)) := if_pos h
theorem gCat_lst {xs ys : List PyData} (h : xs.length + ys.length ≤ lim) : gCat (.list xs) (.list ys) = some (.list (xs ++ ys)) := if_pos h
@[simp] theorem gSubI_int (i j : Int) : gSubI (.int i) (.int j) = some (.int (i - j)) := (rfl)
theorem gMul_l {i j : Int} (h : smallI i = true) : gMul (.int i) (.int j) = some (.int (i * j)) := by
  show (if (smallI i || smallI j) = true then some (PyData.int (i * j)) else none) = _
  rw [h]; rfl
theorem gMul_r {i j : Int} (h : smallI j = true) : gMul (.int i) (.int j) = some (.int (i * j)) := by
  show (if (smallI i || smallI j) = true then some (PyData.int (i * j)) else none) = _
  rw [h, Bool.or_true]; rfl
theorem smallI_of {i : Int} (h : -1000000 ≤ i ∧ i ≤ 1000000) : smallI i = true := by
  simp only [smallI, Bool.and_eq_true, decide_eq_true_eq]
  omega
theorem gMod_pos {i j : Int} (h : 0 < j) : gMod (.int i) (.int j) = some (.int (i % j)) := if_pos (decide_eq_true h)
theorem gDiv_pos {i j : Int} (h : 0 < j ∧ j < 1073741824) : gDiv (.int i) (.int j) = some (.int (i / j)) := if_pos (by simp [h.1, h.2])
@[simp] theorem gNeg_int (i : Int) : gNeg (.int i) = some (.int (-i)) := (rfl)
@[simp] theorem c2I_int (p : Int → Int → Bool) (i j : Int) : c2I p (.int i) (.int j) = some (p i j) := (rfl)
@[simp] theorem cEq_int (i j : Int) : cEq (.int i) (.int j) = some (i == j) := (rfl)
@[simp] theorem cEq_str (i j : Str) : cEq (.str i) (.str j) = some (i == j) := (rfl)
@[simp] theorem cEq_bool (i j : Bool) : cEq (.bool i) (.bool j) = some (i == j) := (rfl)
@[simp] theorem cNe_int (i j : Int) : cNe (.int i) (.int j) = some (!(i == j)) := (rfl)
@[simp] theorem cNe_str (i j : Str) : cNe (.str i) (.str j) = some (!(i == j)) := (rfl)
@[simp] theorem cNe_bool (i j : Bool) : cNe (.bool i) (.bool j) = some (!(i == j)) := (rfl)
@[simp] theorem cIsN_ap (d : PyData) : cIsN d .none = some (isNo d) := (rfl)
@[simp] theorem cNotN_ap (d : PyData) : cNotN d .none = some (!isNo d) := (rfl)
@[simp] theorem gLen_l (ds : List PyData) : gLen (.list ds) = some (.int ds.length) := (rfl)
@[simp] theorem gLen_t (ds : List PyData) : gLen (.tuple ds) = some (.int ds.length) := (rfl)
@[simp] theorem gList_l (ds : List PyData) : gList (.list ds) = some (.list ds) := (rfl)
@[simp] theorem gList_t (ds : List PyData) : gList (.tuple ds) = some (.list ds) := (rfl)
@[simp] theorem gTuple_l (ds : List PyData) : gTuple (.list ds) = some (.tuple ds) := (rfl)
@[simp] theorem gTuple_t (ds : List PyData) : gTuple (.tuple ds) = some (.tuple ds) := (rfl)
@[simp] theorem gInt1_i (i : Int) : gInt1 (.int i) = some (.int i) := (rfl)
@[simp] theorem gInt1_b (b : Bool) : gInt1 (.bool b) = some (.int (if b then 1 else 0)) := (rfl)
@[simp] theorem gIx_l (ds : List PyData) (i : Int) : gIx (.list ds) (.int i) = atI ds i := (rfl)
@[simp] theorem gIx_t (ds : List PyData) (i : Int) : gIx (.tuple ds) (.int i) = atI ds i := (rfl)
@[simp] theorem atI_ofNat {α : Type} (xs : List α) (j : Nat) : atI xs (j : Int) = xs[j]? := by
  cases h : xs[j]? with
  | some v => exact atI_nat h
  | none =>
    unfold atI ixN
    have := List.getElem?_eq_none_iff.mp h
    rw [if_pos (by omega), if_neg (by omega)]
    rfl
@[simp] theorem atI_0 {α : Type} (xs : List α) : atI xs 0 = xs[0]? := atI_ofNat xs 0
@[simp] theorem atI_1 {α : Type} (xs : List α) : atI xs 1 = xs[1]? := atI_ofNat xs 1
@[simp] theorem atI_2 {α : Type} (xs : List α) : atI xs 2 = xs[2]? := atI_ofNat xs 2
theorem gLenS_scr (ns : List Int) : gLenS (scrD ns) = some (.int ns.length) := by
  show (if isScr (scrE ns) then some (PyData.int (((scrE ns).length - 1 : Nat) : Int)) else none) = _
  rw [scrE_len]; rfl
theorem gIxS_scr (ns : List Int) {k : Int} (h : 0 ≤ k) : gIxS (scrD ns) (.int k) = (ns[k.toNat]?).map .int := by
  show (if isScr (scrE ns) && decide (0 ≤ k) then ((scrE ns)[k.toNat + 1]?).map (·.2) else none) = _
  have e2 : (scrE ns)[k.toNat + 1]? = (ns[k.toNat]?).map fun n => (.none, .int n) := by simp [scrE]
  rw [e2, decide_eq_true h]
  cases ns[k.toNat]? <;> rfl
theorem gIsi_of {T : String} {d : PyData} {r : Bool} (h : notScr d = true) (hr : isiB (tyName d) T = r) : gIsi T d = some (.bool r) := by
  unfold gIsi
  rw [if_pos h, hr]
@[simp] theorem gIsi_int_non : gIsi "int" .none = some (.bool false) := gIsi_of (by rfl) (by show isiB "NoneType" "int" = false; decide +kernel)
@[simp] theorem gIsi_int_bl (x : Bool) : gIsi "int" (.bool x) = some (.bool true) := gIsi_of (by rfl) (by show isiB "bool" "int" = true; decide +kernel)
@[simp] theorem gIsi_int_int (x : Int) : gIsi "int" (.int x) = some (.bool true) := gIsi_of (by rfl) (by show isiB "int" "int" = true; decide +kernel)
@[simp] theorem gIsi_int_str (x : Str) : gIsi "int" (.str x) = some (.bool false) := gIsi_of (by rfl) (by show isiB "str" "int" = false; decide +kernel)
@[simp] theorem gIsi_int_lst (x : List PyData) : gIsi "int" (.list x) = some (.bool false) := gIsi_of (by rfl) (by show isiB "list" "int" = false; decide +kernel)
@[simp] theorem gIsi_int_tup (x : List PyData) : gIsi "int" (.tuple x) = some (.bool false) := gIsi_of (by rfl) (by show isiB "tuple" "int" = false; decide +kernel)
@[simp] theorem gIsi_bool_non : gIsi "bool" .none = some (.bool false) := gIsi_of (by rfl) (by show isiB "NoneType" "bool" = false; decide +kernel)
@[simp] theorem gIsi_bool_bl (x : Bool) : gIsi "bool" (.bool x) = some (.bool true) := gIsi_of (by rfl) (by show isiB "bool" "bool" = true; decide +kernel)
@[simp] theorem gIsi_bool_int (x : Int) : gIsi "bool" (.int x) = some (.bool false) := gIsi_of (by rfl) (by show isiB "int" "bool" = false; decide +kernel)
@[simp] theorem gIsi_bool_str (x : Str) : gIsi "bool" (.str x) = some (.bool false) := gIsi_of (by rfl) (by show isiB "str" "bool" = false; decide +kernel)
@[simp] theorem gIsi_bool_lst (x : List PyData) : gIsi "bool" (.list x) = some (.bool false) := gIsi_of (by rfl) (by show isiB "list" "bool" = false; decide +kernel)
@[simp] theorem gIsi_bool_tup (x : List PyData) : gIsi "bool" (.tuple x) = some (.bool false) := gIsi_of (by rfl) (by show isiB "tuple" "bool" = false; decide +kernel)
@[simp] theorem gIsi_str_non : gIsi "str" .none = some (.bool false) := gIsi_of (by rfl) (by show isiB "NoneType" "str" = false; decide +kernel)
@[simp] theorem gIsi_str_bl (x : Bool) : gIsi "str" (.bool x) = some (.bool false) := gIsi_of (by rfl) (by show isiB "bool" "str" = false; decide +kernel)
@[simp] theorem gIsi_str_int (x : Int) : gIsi "str" (.int x) = some (.bool false) := gIsi_of (by rfl) (by show isiB "int" "str" = false; decide +kernel)
@[simp] theorem gIsi_str_str (x : Str) : gIsi "str" (.str x) = some (.bool true) := gIsi_of (by rfl) (by show isiB "str" "str" = true; decide +kernel)
@[simp] theorem gIsi_str_lst (x : List PyData) : gIsi "str" (.list x) = some (.bool false) := gIsi_of (by rfl) (by show isiB "list" "str" = false; decide +kernel)
@[simp] theorem gIsi_str_tup (x : List PyData) : gIsi "str" (.tuple x) = some (.bool false) := gIsi_of (by rfl) (by show isiB "tuple" "str" = false; decide +kernel)
@[simp] theorem gIsi_list_non : gIsi "list" .none = some (.bool false) := gIsi_of (by rfl) (by show isiB "NoneType" "list" = false; decide +kernel)
@[simp] theorem gIsi_list_bl (x : Bool) : gIsi "list" (.bool x) = some (.bool false) := gIsi_of (by rfl) (by show isiB "bool" "list" = false; decide +kernel)
@[simp] theorem gIsi_list_int (x : Int) : gIsi "list" (.int x) = some (.bool false) := gIsi_of (by rfl) (by show isiB "int" "list" = false; decide +kernel)
@[simp] theorem gIsi_list_str (x : Str) : gIsi "list" (.str x) = some (.bool false) := gIsi_of (by rfl) (by show isiB "str" "list" = false; decide +kernel)
@[simp] theorem gIsi_list_lst (x : List PyData) : gIsi "list" (.list x) = some (.bool true) := gIsi_of (by rfl) (by show isiB "list" "list" = true; decide +kernel)
@[simp] theorem gIsi_list_tup (x : List PyData) : gIsi "list" (.tuple x) = some (.bool false) := gIsi_of (by rfl) (by show isiB "tuple" "list" = false; decide +kernel)
@[simp] theorem gIsi_tuple_non : gIsi "tuple" .none = some (.bool false) := gIsi_of (by rfl) (by show isiB "NoneType" "tuple" = false; decide +kernel)
@[simp] theorem gIsi_tuple_bl (x : Bool) : gIsi "tuple" (.bool x) = some (.bool false) := gIsi_of (by rfl) (by show isiB "bool" "tuple" = false; decide +kernel)
@[simp] theorem gIsi_tuple_int (x : Int) : gIsi "tuple" (.int x) = some (.bool false) := gIsi_of (by rfl) (by show isiB "int" "tuple" = false; decide +kernel)
@[simp] theorem gIsi_tuple_str (x : Str) : gIsi "tuple" (.str x) = some (.bool false) := gIsi_of (by rfl) (by show isiB "str" "tuple" = false; decide +kernel)
@[simp] theorem gIsi_tuple_lst (x : List PyData) : gIsi "tuple" (.list x) = some (.bool false) := gIsi_of (by rfl) (by show isiB "list" "tuple" = false; decide +kernel)
@[simp] theorem gIsi_tuple_tup (x : List PyData) : gIsi "tuple" (.tuple x) = some (.bool true) := gIsi_of (by rfl) (by show isiB "tuple" "tuple" = true; decide +kernel)
end DL
namespace DL
open PySem L2
def sl3 (a : Res PyData) (l h : Res (Option Int)) : Res PyData := a.bind fun d => l.bind fun l => h.bind fun h => gSl d l h
@[simp] theorem eSl_ap (f : EF) (lo hi : OF) (ρ : En) : eSl f lo hi ρ = sl3 (f ρ) (lo ρ) (hi ρ) := (rfl)
@[simp] theorem sl3_ok (d : PyData) (l h : Option Int) : sl3 (.ok d) (.ok l) (.ok h) = gSl d l h := (rfl)
def oI (a : Res PyData) : Res (Option Int) := a.bind asI
@[simp] theorem oI_ok (i : Int) : oI (.ok (.int i)) = .ok (some i) := (rfl)
@[simp] theorem oNone_ap (ρ : En) : oNone ρ = .ok none := (rfl)
@[simp] theorem oSome_ap (f : EF) (ρ : En) : oSome f ρ = oI (f ρ) := (rfl)
@[simp] theorem gSl_l (ds : List PyData) (l h : Option Int) : gSl (.list ds) l h = .ok (.list (cutD ds l h)) := (rfl)
@[simp] theorem gSl_t (ds : List PyData) (l h : Option Int) : gSl (.tuple ds) l h = .ok (.tuple (cutD ds l h)) := (rfl)
theorem gSl_s {s : Str} (hs : s.length ≤ lim) (l h : Option Int) : gSl (.str s) l h = .ok (.str (cutS s l h)) := if_pos hs
theorem cut_take {α : Type} (xs : List α) {n : Nat} (h : n ≤ xs.length) : cutD xs none (some (n : Int)) = xs.take n := by
  unfold cutD
  rw [HT.sIx_none, HT.sIx_nat, Nat.min_eq_left h, Nat.sub_zero, List.drop_zero]
theorem cut_drop {α : Type} (xs : List α) {n : Nat} (h : n ≤ xs.length) : cutD xs (some (n : Int)) none = xs.drop n := by
  unfold cutD
  rw [HT.sIx_none, HT.sIx_nat, Nat.min_eq_left h, List.take_of_length_le (by rw [List.length_drop] <;> omega)]
@[simp] theorem gSumA_l (ns : List Int) : gSumA (.list (ns.map .int)) = some (.int ns.sum) := by simp [gSumA, numsD]
@[simp] theorem gSumA_t (ns : List Int) : gSumA (.tuple (ns.map .int)) = some (.int ns.sum) := by simp [gSumA, numsD]
theorem gMax_l {ns : List Int} (h : 0 < ns.length) : gMax (.list (ns.map .int)) = some (.int (maxI ns)) := by
  cases ns with
  | nil => cases h
  | cons n r => simp [gMax, numsD, intsOf]
theorem gMax_t {ns : List Int} (h : 0 < ns.length) : gMax (.tuple (ns.map .int)) = some (.int (maxI ns)) := by
  cases ns with
  | nil => cases h
  | cons n r => simp [gMax, numsD, intsOf]
theorem gMin_l {ns : List Int} (h : 0 < ns.length) : gMin (.list (ns.map .int)) = some (.int (minI ns)) := by
  cases ns with
  | nil => cases h
  | cons n r => simp [gMin, numsD, intsOf]
theorem gMin_t {ns : List Int} (h : 0 < ns.length) : gMin (.tuple (ns.map .int)) = some (.int (minI ns)) := by
  cases ns with
  | nil => cases h
  | cons n r => simp [gMin, numsD, intsOf]
@[simp] theorem gMax2_ap (i j : Int) : gMax2 (.int i) (.int j) = some (.int (max i j)) := by
  show some (PyData.int (if j > i then j else i)) = _
  split
  · rw [show max i j = j by omega]
  · rw [show max i j = i by omega]
theorem gLenSet_l {ns : List Int} (h : ns.length ≤ 1000) : gLenSet (.list (ns.map .int)) = some (.int ((dedupI ns).length : Nat)) := by
  simp [gLenSet, h]
theorem gRep_nat {xs : List PyData} {k : Nat} (h : xs.length * k ≤ lim) (hk : k ≤ lim) : gRep (.list xs) (.int (k : Nat)) = some (.list (List.replicate k xs).flatten) := by
  have hk' : k ≤ 1000000 := hk
  have h1 : decide (-(2 ^ 63) ≤ (k : Int)) = true := decide_eq_true (by omega)
  have h2 : decide ((k : Int) < 2 ^ 63) = true := decide_eq_true (by omega)
  have h3 : decide (xs.length * ((k : Nat) : Int).toNat ≤ lim) = true := decide_eq_true (by rw [Int.toNat_natCast]; exact h)
  unfold gRep
  dsimp only
  rw [h1, h2, h3, Int.toNat_natCast, Bool.and_self, Bool.and_self, if_pos rfl]
theorem flat_one {α : Type} (x : α) : ∀ k : Nat, (List.replicate k [x]).flatten = List.replicate k x
  | 0 => rfl
  | k + 1 => by rw [List.replicate_succ, List.flatten_cons, flat_one x k]; rfl
theorem gRep_one {x : PyData} {k : Nat} (hk : k ≤ lim) : gRep (.list [x]) (.int (k : Nat)) = some (.list (List.replicate k x)) := by
  rw [gRep_nat (by simpa using hk) hk, flat_one]
end DL

namespace DM
open PySem DL
def b_crossing : SF := (sSeq (sIf (bCmp cEq (eOp2 gIx (eVar 1) (eK (.int 0))) (eK (.str "warp"))) (sRet (eOp2 gIx (eOp2 gIx (eVar 0) (eOp2 gIx (eVar 2) (eK (.int 1)))) (eOp2 gIx (eVar 1) (eK (.int 1))))) sNx)
  (sRet (eOp2 gIx (eOp2 gIx (eVar 0) (eOp2 gIx (eVar 1) (eK (.int 1)))) (eOp2 gIx (eVar 2) (eK (.int 1))))))
def m_crossing : List PyData → Res PyData := runDef 3 3 b_crossing
theorem run_crossing (x0 x1 x2 : PyData) : m_crossing [x0, x1, x2] = fin (b_crossing [.im x0, .im x1, .im x2]) := rfl
def b_above : SF := (sRet (eCmp cEq (eCmp cEq (eCall m_crossing (aCons (eVar 0) (aCons (eVar 1) (aCons (eVar 2) aNil)))) (eK (.int 1))) (eCmp cEq (eOp2 gIx (eVar 1) (eK (.int 0))) (eK (.str "warp")))))
def m_above : List PyData → Res PyData := runDef 3 3 b_above
theorem run_above (x0 x1 x2 : PyData) : m_above [x0, x1, x2] = fin (b_above [.im x0, .im x1, .im x2]) := rfl
def b__law_cell : SF := (sSeq (sIf (bCmp cLt (eVar 1) (eOp1 gLenS (eVar 0))) (sRet (eOp2 gIxS (eVar 0) (eVar 1))) sNx)
  (sRet (eK (.int 0))))
def m__law_cell : List PyData → Res PyData := runDef 2 2 b__law_cell
theorem run__law_cell (x0 x1 : PyData) : m__law_cell [x0, x1] = fin (b__law_cell [.im x0, .im x1]) := rfl
def b__law_mix : SF := (sRet (eOp2 gMod (eOp2 gMod (eOp2 gMul (eVar 0) (eK (.int 48271))) (eVar 1)) (eVar 2)))
def m__law_mix : List PyData → Res PyData := runDef 3 3 b__law_mix
theorem run__law_mix (x0 x1 x2 : PyData) : m__law_mix [x0, x1, x2] = fin (b__law_mix [.im x0, .im x1, .im x2]) := rfl
def b__law_size : SF := (sSeq (sIf (bCmp cEq (eCall m__law_mix (aCons (eVar 0) (aCons (eK (.int 9901)) (aCons (eK (.int 8)) aNil)))) (eK (.int 3))) (sRet (eOp2 gAdd (eK (.int 1)) (eCall m__law_mix (aCons (eVar 0) (aCons (eK (.int 9973)) (aCons (eK (.int 16)) aNil)))))) sNx)
  (sRet (eOp2 gAdd (eK (.int 1)) (eCall m__law_mix (aCons (eVar 0) (aCons (eK (.int 9973)) (aCons (eK (.int 6)) aNil)))))))
def m__law_size : List PyData → Res PyData := runDef 1 1 b__law_size
theorem run__law_size (x0 : PyData) : m__law_size [x0] = fin (b__law_size [.im x0]) := rfl
def l1__law_cloth : SF := (sSeq (sAsg 9 (eOp2 gAdd (eOp2 gAdd (eCall m__law_cell (aCons (eVar 0) (aCons (eOp2 gAdd (eOp2 gAdd (eVar 1) (eK (.int 2))) (eOp2 gMod (eOp2 gAdd (eOp2 gMul (eK (.int 3)) (eVar 6)) (eVar 8)) (eK (.int 12)))) aNil))) (eOp2 gMul (eOp2 gMul (eK (.int 31)) (eVar 6)) (eVar 6))) (eOp2 gMul (eOp2 gMul (eK (.int 57)) (eVar 8)) (eVar 8))))
  (sSeq (sAsg 10 (eCall m__law_mix (aCons (eVar 9) (aCons (eK (.int 9949)) (aCons (eK (.int 2)) aNil)))))
  (sSeq (sIf (bCmp cEq (eVar 4) (eK (.int 1))) (sAsg 10 (eOp1 gInt1 (eCmp cGt (eOp2 gMod (eOp2 gAdd (eOp2 gAdd (eVar 6) (eVar 8)) (eOp2 gDiv (eCall m__law_mix (aCons (eVar 9) (aCons (eK (.int 9941)) (aCons (eK (.int 12)) aNil)))) (eK (.int 11)))) (eK (.int 3))) (eK (.int 0))))) sNx)
  (sSeq (sIf (bCmp cEq (eVar 4) (eK (.int 2))) (sAsg 10 (eOp1 gInt1 (eCmp cEq (eCall m__law_mix (aCons (eVar 9) (aCons (eK (.int 9931)) (aCons (eK (.int 6)) aNil)))) (eK (.int 0))))) sNx)
  (sApp 7 (eVar 10))))))
def l2__law_cloth : SF := (sSeq (sOwn 7 (eLst aNil))
  (sSeq (sFor (itRng1 (aCons (eVar 3) aNil)) (gtN 8) l1__law_cloth)
  (sApp 5 (eOp1 gTuple (eVarB 7)))))
def b__law_cloth : SF := (sSeq (sAsg 2 (eCall m__law_size (aCons (eCall m__law_cell (aCons (eVar 0) (aCons (eVar 1) aNil))) aNil)))
  (sSeq (sAsg 3 (eCall m__law_size (aCons (eCall m__law_cell (aCons (eVar 0) (aCons (eOp2 gAdd (eVar 1) (eK (.int 1))) aNil))) aNil)))
  (sSeq (sAsg 4 (eCall m__law_mix (aCons (eOp2 gAdd (eCall m__law_cell (aCons (eVar 0) (aCons (eVar 1) aNil))) (eOp2 gMul (eK (.int 3)) (eCall m__law_cell (aCons (eVar 0) (aCons (eOp2 gAdd (eVar 1) (eK (.int 1))) aNil))))) (aCons (eK (.int 9871)) (aCons (eK (.int 3)) aNil)))))
  (sSeq (sOwn 5 (eLst aNil))
  (sSeq (sFor (itRng1 (aCons (eVar 2) aNil)) (gtN 6) l2__law_cloth)
  (sRet (eOp1 gTuple (eVarB 5))))))))
def m__law_cloth : List PyData → Res PyData := runDef 11 2 b__law_cloth
theorem run__law_cloth (x0 x1 : PyData) : m__law_cloth [x0, x1] = fin (b__law_cloth [.im x0, .im x1, .un, .un, .un, .un, .un, .un, .un, .un, .un]) := rfl
def b_columns : SF := (sRet (eComp [2] (itRng1 (aCons (eOp1 gLen (eOp2 gIx (eVar 0) (eK (.int 0)))) aNil)) (gtN 2) bYes (eOp1 gTuple (eComp [1] (itSeq (eVar 0)) (gtN 1) bYes (eOp2 gIx (eVar 1) (eVar 2))))))
def m_columns : List PyData → Res PyData := runDef 3 1 b_columns
theorem run_columns (x0 : PyData) : m_columns [x0] = fin (b_columns [.im x0, .un, .un]) := rfl
def b_twill : SF := (sSeq (sAsg 2 (eOp1 gLen (eVar 0)))
  (sRet (eOp1 gTuple (eComp [4] (itRng1 (aCons (eVar 2) aNil)) (gtN 4) bYes (eOp1 gTuple (eComp [3] (itRng1 (aCons (eVar 2) aNil)) (gtN 3) bYes (eOp2 gIx (eVar 0) (eOp2 gMod (eOp2 gSubI (eVar 3) (eOp2 gMul (eVar 4) (eVar 1))) (eVar 2)))))))))
def m_twill : List PyData → Res PyData := runDef 5 2 b_twill
theorem run_twill (x0 x1 : PyData) : m_twill [x0, x1] = fin (b_twill [.im x0, .im x1, .un, .un, .un]) := rfl
def b_satin : SF := (sRet (eCall m_twill (aCons (eOp2 gAdd (eLst (aCons (eK (.int 1)) aNil)) (eOp2 gRep (eLst (aCons (eK (.int 0)) aNil)) (eOp2 gSubI (eVar 0) (eK (.int 1))))) (aCons (eVar 1) aNil))))
def m_satin : List PyData → Res PyData := runDef 2 2 b_satin
theorem run_satin (x0 x1 : PyData) : m_satin [x0, x1] = fin (b_satin [.im x0, .im x1]) := rfl
def b_is_even : SF := (sSeq (sAsg 1 (eComp [2] (itSeq (eVar 0)) (gtN 2) bYes (eOp1 gSumA (eVar 2))))
  (sSeq (sAsg 3 (eComp [4] (itSeq (eCall m_columns (aCons (eVar 0) aNil))) (gtN 4) bYes (eOp1 gSumA (eVar 4))))
  (sRet (eAnd (eCmp cEq (eOp1 gMin (eVar 1)) (eOp1 gMax (eVar 1))) (eCmp cEq (eOp1 gMin (eVar 3)) (eOp1 gMax (eVar 3)))))))
def m_is_even : List PyData → Res PyData := runDef 5 1 b_is_even
theorem run_is_even (x0 : PyData) : m_is_even [x0] = fin (b_is_even [.im x0, .un, .un, .un, .un]) := rfl
def b__law_even : SF := (sSeq (sAsg 1 (eComp [2] (itSeq (eVar 0)) (gtN 2) bYes (eOp1 gSumA (eVar 2))))
  (sSeq (sAsg 3 (eComp [4] (itRng1 (aCons (eOp1 gLen (eOp2 gIx (eVar 0) (eK (.int 0)))) aNil)) (gtN 4) bYes (eOp1 gSumA (eComp [2] (itSeq (eVar 0)) (gtN 2) bYes (eOp2 gIx (eVar 2) (eVar 4))))))
  (sRet (eAnd (eCmp cEq (eOp1 gLenSet (eVar 1)) (eK (.int 1))) (eCmp cEq (eOp1 gLenSet (eVar 3)) (eK (.int 1)))))))
def m__law_even : List PyData → Res PyData := runDef 5 1 b__law_even
theorem run__law_even (x0 : PyData) : m__law_even [x0] = fin (b__law_even [.im x0, .un, .un, .un, .un]) := rfl
end DM
namespace DM
open PySem DL L2

theorem forGo_nx {sg : GF} {g : SF} (P : Nat → En → Prop) : ∀ (ds : List PyData) (i : Nat) (ρ : En), P i ρ →
    (∀ j d ρ, ds[j]? = some d → P (i + j) ρ → ∃ ρ1 ρ', sg d ρ = some ρ1 ∧ g ρ1 = .nx ρ' ∧ P (i + j + 1) ρ') → ∃ ρ', forGo sg g ds ρ = .nx ρ' ∧ P (i + ds.length) ρ'
  | [], i, ρ, h, _ => ⟨ρ, rfl, h⟩
  | d :: ds, i, ρ, h, hs => by
    obtain ⟨ρ1, ρ', h1, h2, h3⟩ := hs 0 d ρ rfl h
    obtain ⟨ρ2, h4, h5⟩ := forGo_nx P ds (i + 1) ρ' h3 (fun j d ρ hd hp => by
      have := hs (j + 1) d ρ (by simpa using hd) (by rw [show i + (j + 1) = i + 1 + j by omega]; exact hp)
      rw [show i + (j + 1) + 1 = i + 1 + j + 1 by omega] at this
      exact this)
    refine ⟨ρ2, ?_, by rw [List.length_cons, show i + (ds.length + 1) = i + 1 + ds.length by omega]; exact h5⟩
    unfold forGo
    simp only [h1, h2]
    exact h4
theorem for_range {sg : GF} {g : SF} (P : Nat → En → Prop) (n : Nat) (ρ : En) (h0 : P 0 ρ)
    (hs : ∀ j ρ, j < n → P j ρ → ∃ ρ1 ρ', sg (.int (j : Nat)) ρ = some ρ1 ∧ g ρ1 = .nx ρ' ∧ P (j + 1) ρ') : ∃ ρ', forGo sg g (rangeD 0 n) ρ = .nx ρ' ∧ P n ρ' := by
  have hl : (rangeD 0 n).length = n := by simp [rangeD]
  obtain ⟨ρ', h1, h2⟩ := forGo_nx (sg := sg) (g := g) P (rangeD 0 n) 0 ρ h0 (fun j d ρ hd hp => by
    have hj : j < n := by
      have := (List.getElem?_eq_some_iff.mp hd).1
      rwa [hl] at this
    have : d = .int (j : Nat) := by
      unfold rangeD at hd
      rw [List.getElem?_map, List.getElem?_range hj] at hd
      simpa using hd.symm
    subst this
    rw [Nat.zero_add] at hp ⊢
    exact hs j ρ hj hp)
  rw [hl, Nat.zero_add] at h2
  exact ⟨ρ', h1, h2⟩
theorem compGo_ok {st : GF} {t : BF} {el : EF} {ρ0 : En} (p : PyData → Bool) (f : PyData → PyData) : ∀ (ds : List PyData), (∀ d ∈ ds, ∃ ρ, st d ρ0 = some ρ ∧ t ρ = .ok (p d) ∧ (p d = true → el ρ = .ok (f d))) →
    compGo st t el ρ0 ds = .ok ((ds.filter p).map f)
  | [], _ => rfl
  | d :: ds, h => by
    obtain ⟨ρ, h1, h2, h3⟩ := h d List.mem_cons_self
    have ih := compGo_ok p f ds fun d hd => h d (List.mem_cons_of_mem _ hd)
    unfold compGo
    simp only [h1, h2]
    cases q : p d with
    | false => simp only [q, ih, List.filter_cons, Bool.false_eq_true, if_false]
    | true => simp only [h3 q, q, ih, List.filter_cons, if_true, bind_ok, List.map_cons]
theorem compGo_map {st : GF} {el : EF} {ρ0 : En} (f : PyData → PyData) (ds : List PyData) (h : ∀ d ∈ ds, ∃ ρ, st d ρ0 = some ρ ∧ el ρ = .ok (f d)) : compGo st bYes el ρ0 ds = .ok (ds.map f) := by
  have := compGo_ok (st := st) (t := bYes) (el := el) (ρ0 := ρ0) (fun _ => true) f ds fun d hd => by
    obtain ⟨ρ, h1, h2⟩ := h d hd
    exact ⟨ρ, h1, rfl, fun _ => h2⟩
  rw [this, List.filter_eq_self.mpr fun _ _ => rfl]

def cell (ns : List Int) (k : Int) : Int := ns.getD k.toNat 0
theorem cell_ok (ns : List Int) (k : Int) (hk : 0 ≤ k) : m__law_cell [scrD ns, .int k] = .ok (.int (cell ns k)) := by
  rw [run__law_cell]
  by_cases h : k < ns.length
  · have hk2 : k.toNat < ns.length := by omega
    simp [b__law_cell, gLenS_scr, gIxS_scr ns hk, h, List.getElem?_eq_getElem hk2, cell]
  · have hk2 : ns.length ≤ k.toNat := by omega
    simp [b__law_cell, gLenS_scr, h, List.getElem?_eq_none hk2, cell]
def mix (a p n : Int) : Int := a * 48271 % p % n
theorem mix_ok (a p n : Int) (hp : 0 < p) (hn : 0 < n) : m__law_mix [.int a, .int p, .int n] = .ok (.int (mix a p n)) := by
  rw [run__law_mix]
  simp [b__law_mix, gMul_r (show smallI 48271 = true by decide), gMod_pos hp, gMod_pos hn, mix]
theorem mix_range (a p n : Int) (hn : 0 < n) : 0 ≤ mix a p n ∧ mix a p n < n := ⟨Int.emod_nonneg _ (by omega), Int.emod_lt_of_pos _ hn⟩
def size (a : Int) : Int := if mix a 9901 8 = 3 then 1 + mix a 9973 16 else 1 + mix a 9973 6
theorem size_ok (a : Int) : m__law_size [.int a] = .ok (.int (size a)) := by
  rw [run__law_size]
  by_cases h : mix a 9901 8 = 3
  · simp [b__law_size, mix_ok, h, size]
  · have h' : (mix a 9901 8 == 3) = false := by simpa using h
    simp [b__law_size, mix_ok, h, h', size]
theorem size_range (a : Int) : 1 ≤ size a ∧ size a ≤ 16 := by
  have h1 := mix_range a 9973 16 (by decide)
  have h2 := mix_range a 9973 6 (by decide)
  unfold size
  split <;> omega

def dRow (r : List Int) : PyData := .tuple (r.map .int)
def dCloth (c : List (List Int)) : PyData := .tuple (c.map dRow)
def Bit (b : Int) : Prop := b = 0 ∨ b = 1
/-- a cloth of n wefts and k warps -/
structure Cl (c : List (List Int)) (n k : Nat) : Prop where
  n1 : 1 ≤ n
  n16 : n ≤ 16
  k1 : 1 ≤ k
  k16 : k ≤ 16
  len : c.length = n
  wide : ∀ r ∈ c, r.length = k
  bit : ∀ r ∈ c, ∀ b ∈ r, Bit b
theorem bit_mix (a p : Int) : Bit (mix a p 2) := by
  have := mix_range a p 2 (by decide)
  unfold Bit
  omega
theorem bit_b (b : Bool) : Bit (if b then 1 else 0) := by cases b <;> simp [Bit]
/-- the state of the cloth's loops -/
abbrev clS (ns : List Int) (at_ rows wide way : Int) (fnd : PyData) (x6 x7 x8 x9 x10 : Sl) : En := [.im (scrD ns), .im (.int at_), .im (.int rows), .im (.int wide), .im (.int way), .own fnd, x6, x7, x8, x9, x10]
theorem cloth_turn (ns : List Int) (at_ rows wide way : Int) (hat : 0 ≤ at_) (fnd : PyData) (r j : Nat) (hr : r < 16) (hj : j < 16) (row : List Int) (hl : row.length = j) (x9 x10 : Sl) :
    ∃ (b : Int) (y9 y10 : Sl), Bit b ∧ l1__law_cloth (clS ns at_ rows wide way fnd (.im (.int (r : Nat))) (.own (.list (row.map .int))) (.im (.int (j : Nat))) x9 x10) = .nx (clS ns at_ rows wide way fnd (.im (.int (r : Nat))) (.own (.list ((row ++ [b]).map .int))) (.im (.int (j : Nat))) y9 y10) := by
  have hm : 0 ≤ (3 * (r : Int) + (j : Int)) % 12 := Int.emod_nonneg _ (by decide)
  have hk : 0 ≤ at_ + 2 + (3 * (r : Int) + (j : Int)) % 12 := by omega
  have h3 := gMul_l (i := 3) (j := (r : Int)) (by decide)
  have h31 := gMul_l (i := 31) (j := (r : Int)) (by decide)
  have h57 := gMul_l (i := 57) (j := (j : Int)) (by decide)
  have hr2 := gMul_l (i := 31 * (r : Int)) (j := (r : Int)) (smallI_of (by omega))
  have hj2 := gMul_l (i := 57 * (j : Int)) (j := (j : Int)) (smallI_of (by omega))
  have m12 : ∀ i, gMod (.int i) (.int 12) = some (.int (i % 12)) := fun i => gMod_pos (by decide)
  have m3 : ∀ i, gMod (.int i) (.int 3) = some (.int (i % 3)) := fun i => gMod_pos (by decide)
  have d11 : ∀ i, gDiv (.int i) (.int 11) = some (.int (i / 11)) := fun i => gDiv_pos (by decide)
  have happ : ∀ (ρ : En) (d : PyData), appR 7 ρ (some (.own (.list (row.map .int)))) (.ok d) = .nx (ρ.set 7 (.own (.list (row.map .int ++ [d])))) := fun ρ d => appR_ok (by rw [List.length_map, hl]; simp only [lim]; omega)
  by_cases w1 : way = 1
  · subst w1
    refine ⟨_, .im (.int (cell ns (at_ + 2 + (3 * (r : Int) + (j : Int)) % 12) + 31 * (r : Int) * r + 57 * (j : Int) * j)), .im (.int (if decide (0 < ((r : Int) + j + mix (cell ns (at_ + 2 + (3 * (r : Int) + (j : Int)) % 12) + 31 * (r : Int) * r + 57 * (j : Int) * j) 9941 12 / 11) % 3) then 1 else 0)), bit_b (decide (0 < ((r : Int) + j + mix (cell ns (at_ + 2 + (3 * (r : Int) + (j : Int)) % 12) + 31 * (r : Int) * r + 57 * (j : Int) * j) 9941 12 / 11) % 3)), ?_⟩
    simp [l1__law_cloth, clS, h3, h31, h57, hr2, hj2, m12, m3, d11, cell_ok _ _ hk, mix_ok, happ]
  · by_cases w2 : way = 2
    · subst w2
      refine ⟨_, .im (.int (cell ns (at_ + 2 + (3 * (r : Int) + (j : Int)) % 12) + 31 * (r : Int) * r + 57 * (j : Int) * j)), .im (.int (if (mix (cell ns (at_ + 2 + (3 * (r : Int) + (j : Int)) % 12) + 31 * (r : Int) * r + 57 * (j : Int) * j) 9931 6 == 0) then 1 else 0)), bit_b (mix (cell ns (at_ + 2 + (3 * (r : Int) + (j : Int)) % 12) + 31 * (r : Int) * r + 57 * (j : Int) * j) 9931 6 == 0), ?_⟩
      simp [l1__law_cloth, clS, h3, h31, h57, hr2, hj2, m12, m3, d11, cell_ok _ _ hk, mix_ok, happ]
    · have w1' : (way == 1) = false := by simpa using w1
      have w2' : (way == 2) = false := by simpa using w2
      refine ⟨_, .im (.int (cell ns (at_ + 2 + (3 * (r : Int) + (j : Int)) % 12) + 31 * (r : Int) * r + 57 * (j : Int) * j)), .im (.int (mix (cell ns (at_ + 2 + (3 * (r : Int) + (j : Int)) % 12) + 31 * (r : Int) * r + 57 * (j : Int) * j) 9949 2)), bit_mix (cell ns (at_ + 2 + (3 * (r : Int) + (j : Int)) % 12) + 31 * (r : Int) * r + 57 * (j : Int) * j) 9949, ?_⟩
      simp [l1__law_cloth, clS, h3, h31, h57, hr2, hj2, m12, cell_ok _ _ hk, mix_ok, happ, w1', w2']
theorem cloth_row (ns : List Int) (at_ rows wide way : Int) (hat : 0 ≤ at_) (fnd : PyData) (r : Nat) (hr : r < 16) (hw : wide ≤ 16) (x8 x9 x10 : Sl) :
    ∃ row : List Int, row.length = wide.toNat ∧ (∀ b ∈ row, Bit b) ∧ ∃ y8 y9 y10, forGo (gtN 8) l1__law_cloth (rangeD 0 wide.toNat) (clS ns at_ rows wide way fnd (.im (.int (r : Nat))) (.own (.list [])) x8 x9 x10)
      = .nx (clS ns at_ rows wide way fnd (.im (.int (r : Nat))) (.own (.list (row.map .int))) y8 y9 y10) := by
  obtain ⟨ρ, h1, row, y8, y9, y10, rfl, hl, hb⟩ := for_range (sg := gtN 8) (g := l1__law_cloth) (fun j ρ => ∃ (row : List Int) (y8 y9 y10 : Sl), ρ = clS ns at_ rows wide way fnd (.im (.int (r : Nat))) (.own (.list (row.map .int))) y8 y9 y10 ∧ row.length = j ∧ ∀ b ∈ row, Bit b) wide.toNat (clS ns at_ rows wide way fnd (.im (.int (r : Nat))) (.own (.list [])) x8 x9 x10) ⟨[], x8, x9, x10, rfl, rfl, fun b hb => nomatch hb⟩ (fun j ρ hj hp => by
    obtain ⟨row, y8, y9, y10, rfl, hl, hb⟩ := hp
    obtain ⟨b, z9, z10, hbb, e⟩ := cloth_turn ns at_ rows wide way hat fnd r j hr (by omega) row hl y9 y10
    exact ⟨_, _, rfl, e, row ++ [b], _, _, _, rfl, by simp [hl], fun x hx => (List.mem_append.mp hx).elim (hb x) fun z => by rw [List.mem_singleton.mp z]; exact hbb⟩)
  exact ⟨row, hl, hb, y8, y9, y10, h1⟩
theorem cloth_ok (ns : List Int) (at_ : Int) (hat : 0 ≤ at_) : ∃ c n k, Cl c n k ∧ m__law_cloth [scrD ns, .int at_] = .ok (dCloth c) := by
  obtain ⟨rows, er⟩ : ∃ r, r = size (cell ns at_) := ⟨_, rfl⟩
  obtain ⟨wide, ew⟩ : ∃ r, r = size (cell ns (at_ + 1)) := ⟨_, rfl⟩
  obtain ⟨way, ey⟩ : ∃ r, r = mix (cell ns at_ + 3 * cell ns (at_ + 1)) 9871 3 := ⟨_, rfl⟩
  have hrows : 1 ≤ rows ∧ rows ≤ 16 := er ▸ size_range _
  have hwide : 1 ≤ wide ∧ wide ≤ 16 := ew ▸ size_range _
  obtain ⟨ρ, h1, c, y6, y7, y8, y9, y10, rfl, hl, hb⟩ := for_range (sg := gtN 6) (g := l2__law_cloth) (fun j ρ => ∃ (c : List (List Int)) (y6 y7 y8 y9 y10 : Sl), ρ = clS ns at_ rows wide way (.list (c.map dRow)) y6 y7 y8 y9 y10 ∧ c.length = j ∧ ∀ r ∈ c, r.length = wide.toNat ∧ ∀ b ∈ r, Bit b) rows.toNat (clS ns at_ rows wide way (.list []) .un .un .un .un .un) ⟨[], .un, .un, .un, .un, .un, rfl, rfl, fun b hb => nomatch hb⟩ (fun j ρ hj hp => by
    obtain ⟨c, y6, y7, y8, y9, y10, rfl, hl, hb⟩ := hp
    obtain ⟨row, hrl, hrb, z8, z9, z10, e⟩ := cloth_row ns at_ rows wide way hat (.list (c.map dRow)) j (by omega) hwide.2 y8 y9 y10
    have hw0 := rng1R_ok (j := wide) (by omega)
    have happ : ∀ (ρ : En) (d : PyData), appR 5 ρ (some (.own (.list (c.map dRow)))) (.ok d) = .nx (ρ.set 5 (.own (.list (c.map dRow ++ [d])))) := fun ρ d => appR_ok (by rw [List.length_map, hl]; exact Nat.lt_of_lt_of_le hj (by simp only [lim]; omega))
    refine ⟨_, clS ns at_ rows wide way (.list ((c ++ [row]).map dRow)) (.im (.int (j : Nat))) (.own (.list (row.map .int))) z8 z9 z10, rfl, ?_, c ++ [row], _, _, _, _, _, rfl, by simp [hl], fun x hx => (List.mem_append.mp hx).elim (hb x) fun z => by rw [List.mem_singleton.mp z]; exact ⟨hrl, hrb⟩⟩
    simp only [clS] at e
    simp [l2__law_cloth, clS, hw0, e, happ, dRow])
  refine ⟨c, rows.toNat, wide.toNat, ⟨by omega, by omega, by omega, by omega, hl, fun r hr => (hb r hr).1, fun r hr => (hb r hr).2⟩, ?_⟩
  have hr0 := rng1R_ok (j := rows) (by omega)
  have hat1 : 0 ≤ at_ + 1 := by omega
  simp only [clS] at h1
  rw [run__law_cloth]
  simp [b__law_cloth, gMul_l (show smallI 3 = true by decide), cell_ok _ _ hat, cell_ok _ _ hat1, size_ok, mix_ok, ← er, ← ew, ← ey, hr0, h1, dCloth]

abbrev sW : Str := "warp"
abbrev sF : Str := "weft"
@[simp] theorem wf_ne : ((sW : Str) == sF) = false := by decide +kernel
@[simp] theorem fw_ne : ((sF : Str) == sW) = false := by decide +kernel
@[simp] theorem ww_eq : ((sW : Str) == sW) = true := by decide +kernel
@[simp] theorem ff_eq : ((sF : Str) == sF) = true := by decide +kernel
/-- a thread: true the warps -/
structure Th where
  w : Bool
  i : Nat
  deriving DecidableEq
def kindS (w : Bool) : Str := if w then sW else sF
def dTh (t : Th) : PyData := .tuple [.str (kindS t.w), .int (t.i : Nat)]
@[simp] theorem kindS_t : kindS true = sW := rfl
@[simp] theorem kindS_f : kindS false = sF := rfl
/-- what stands at weft j, warp i -/
def cat (c : List (List Int)) (j i : Nat) : Int := (c.getD j []).getD i 0
section
variable {c : List (List Int)} {n k : Nat} (C : Cl c n k)
include C
theorem Cl.row {j : Nat} (hj : j < n) : ∃ r, c[j]? = some r ∧ r.length = k ∧ (∀ b ∈ r, Bit b) ∧ ∀ i, cat c j i = r.getD i 0 := by
  have hj' : j < c.length := by rw [C.len]; exact hj
  refine ⟨c[j], List.getElem?_eq_getElem hj', C.wide _ (List.getElem_mem hj'), C.bit _ (List.getElem_mem hj'), fun i => ?_⟩
  unfold cat
  have : c.getD j [] = c[j] := by rw [List.getD_eq_getElem?_getD, List.getElem?_eq_getElem hj']; rfl
  rw [this]
theorem Cl.dRow {j : Nat} (hj : j < n) : ∃ r : List Int, (c.map DM.dRow)[j]? = some (DM.dRow r) ∧ c[j]? = some r ∧ r.length = k ∧ ∀ i, cat c j i = r.getD i 0 := by
  obtain ⟨r, h1, h2, _, h3⟩ := C.row hj
  exact ⟨r, by rw [List.getElem?_map, h1]; rfl, h1, h2, h3⟩
theorem Cl.at {j i : Nat} (hj : j < n) (hi : i < k) : ∃ r : List Int, (c.map DM.dRow)[j]? = some (.tuple (r.map .int)) ∧ (r.map PyData.int)[i]? = some (.int (cat c j i)) := by
  obtain ⟨r, h1, _, h2, h3⟩ := C.dRow hj
  have hi' : i < r.length := by rw [h2]; exact hi
  refine ⟨r, h1, ?_⟩
  rw [List.getElem?_map, List.getElem?_eq_getElem hi', h3 i, List.getD_eq_getElem?_getD, List.getElem?_eq_getElem hi']
  rfl
theorem Cl.catBit {j i : Nat} (hj : j < n) (hi : i < k) : Bit (cat c j i) := by
  obtain ⟨r, _, h2, hb, h3⟩ := C.row hj
  have hi' : i < r.length := by rw [h2]; exact hi
  rw [h3 i, List.getD_eq_getElem?_getD, List.getElem?_eq_getElem hi']
  exact hb _ (List.getElem_mem hi')
theorem crossing_wf {j i : Nat} (hj : j < n) (hi : i < k) : m_crossing [dCloth c, dTh ⟨true, i⟩, dTh ⟨false, j⟩] = .ok (.int (cat c j i)) := by
  obtain ⟨r, h1, h2⟩ := C.at hj hi
  rw [run_crossing]
  simp [b_crossing, dTh, dCloth, h1, h2]
theorem crossing_fw {j i : Nat} (hj : j < n) (hi : i < k) : m_crossing [dCloth c, dTh ⟨false, j⟩, dTh ⟨true, i⟩] = .ok (.int (cat c j i)) := by
  obtain ⟨r, h1, h2⟩ := C.at hj hi
  rw [run_crossing]
  simp [b_crossing, dTh, dCloth, h1, h2]
/-- which lies above -/
theorem above_wf {j i : Nat} (hj : j < n) (hi : i < k) : m_above [dCloth c, dTh ⟨true, i⟩, dTh ⟨false, j⟩] = .ok (.bool (cat c j i == 1)) := by
  have h := crossing_wf C hj hi
  rw [run_above]
  simp only [dTh, kindS_t, kindS_f] at h ⊢
  simp [b_above, h]
theorem above_fw {j i : Nat} (hj : j < n) (hi : i < k) : m_above [dCloth c, dTh ⟨false, j⟩, dTh ⟨true, i⟩] = .ok (.bool (!(cat c j i == 1))) := by
  have h := crossing_fw C hj hi
  rw [run_above]
  simp only [dTh, kindS_t, kindS_f] at h ⊢
  simp [b_above, h]
end
end DM
namespace DM
open PySem DL L2
def Sh (k : Nat) (d : PyData) : Prop := d.canLay0 = true ∧ d.depth ≤ k
theorem Sh.int (k : Nat) (i : Int) : Sh k (.int i) := ⟨by simp only [PyData.canLay0], by simp only [PyData.depth]; exact Nat.zero_le _⟩
theorem Sh.bool (k : Nat) (i : Bool) : Sh k (.bool i) := ⟨by simp only [PyData.canLay0], by simp only [PyData.depth]; exact Nat.zero_le _⟩
theorem Sh.non (k : Nat) : Sh k .none := ⟨by simp only [PyData.canLay0], by simp only [PyData.depth]; exact Nat.zero_le _⟩
theorem Sh.str (k : Nat) {s : Str} (h : PyData.strOk s = true) : Sh k (.str s) := ⟨by simp only [PyData.canLay0]; exact h, by simp only [PyData.depth]; exact Nat.zero_le _⟩
theorem canLayAll0_of {ds : List PyData} (h : ∀ d ∈ ds, d.canLay0 = true) : PyData.canLayAll0 ds = true := by
  induction ds with
  | nil => simp only [PyData.canLayAll0]
  | cons d ds ih =>
    simp only [PyData.canLayAll0, h d List.mem_cons_self, ih fun d hd => h d (List.mem_cons_of_mem _ hd), Bool.and_self]
theorem depthAll_of {ds : List PyData} {k : Nat} (h : ∀ d ∈ ds, d.depth ≤ k) : PyData.depthAll ds ≤ k := by
  induction ds with
  | nil => simp only [PyData.depthAll]; exact Nat.zero_le _
  | cons d ds ih =>
    simp only [PyData.depthAll]
    exact Nat.max_le.mpr ⟨h d List.mem_cons_self, ih fun d hd => h d (List.mem_cons_of_mem _ hd)⟩
theorem Sh.tup {k : Nat} {ds : List PyData} (h : ∀ d ∈ ds, Sh k d) : Sh (k + 1) (.tuple ds) := ⟨by simp only [PyData.canLay0]; exact canLayAll0_of fun d hd => (h d hd).1, by simp only [PyData.depth]; exact Nat.succ_le_succ (depthAll_of fun d hd => (h d hd).2)⟩
theorem Sh.lst {k : Nat} {ds : List PyData} (h : ∀ d ∈ ds, Sh k d) : Sh (k + 1) (.list ds) := ⟨by simp only [PyData.canLay0]; exact canLayAll0_of fun d hd => (h d hd).1, by simp only [PyData.depth]; exact Nat.succ_le_succ (depthAll_of fun d hd => (h d hd).2)⟩
theorem Sh.mono {k k' : Nat} {d : PyData} (h : Sh k d) (l : k ≤ k') : Sh k' d := ⟨h.1, Nat.le_trans h.2 l⟩
theorem Sh.shaped {d : PyData} (h : Sh 64 d) : SeqAt.shaped d = true := by
  unfold SeqAt.shaped
  rw [h.1, decide_eq_true h.2]
  rfl
theorem Sh.map {α : Type} {k : Nat} {f : α → PyData} (h : ∀ a, Sh k (f a)) (xs : List α) : ∀ d ∈ xs.map f, Sh k d := fun d hd => by
  obtain ⟨a, _, rfl⟩ := List.mem_map.mp hd
  exact h a
theorem Sh.dRow (r : List Int) : Sh 1 (DM.dRow r) := .tup (.map (.int 0) r)
theorem Sh.dCloth (c : List (List Int)) : Sh 2 (DM.dCloth c) := .tup (.map .dRow c)
theorem cEq_tup {xs ys : List PyData} (h : Sh 64 (.tuple xs)) (h2 : Sh 64 (.tuple ys)) : cEq (.tuple xs) (.tuple ys) = some (PyData.eqvAll xs ys) := by
  show (if SeqAt.shaped (.tuple xs) && SeqAt.shaped (.tuple ys) then some (PyData.eqv (.tuple xs) (.tuple ys)) else none) = _
  rw [h.shaped, h2.shaped]
  simp only [Bool.and_self, if_true, PyData.eqv]
theorem cEq_lst {xs ys : List PyData} (h : Sh 64 (.list xs)) (h2 : Sh 64 (.list ys)) : cEq (.list xs) (.list ys) = some (PyData.eqvAll xs ys) := by
  show (if SeqAt.shaped (.list xs) && SeqAt.shaped (.list ys) then some (PyData.eqv (.list xs) (.list ys)) else none) = _
  rw [h.shaped, h2.shaped]
  simp only [Bool.and_self, if_true, PyData.eqv]
theorem cNe_tup {xs ys : List PyData} (h : Sh 64 (.tuple xs)) (h2 : Sh 64 (.tuple ys)) : cNe (.tuple xs) (.tuple ys) = some (!PyData.eqvAll xs ys) := by
  unfold cNe
  rw [cEq_tup h h2]
  rfl
theorem cNe_lst {xs ys : List PyData} (h : Sh 64 (.list xs)) (h2 : Sh 64 (.list ys)) : cNe (.list xs) (.list ys) = some (!PyData.eqvAll xs ys) := by
  unfold cNe
  rw [cEq_lst h h2]
  rfl
/-- == by what the data stand for -/
def Faith {α : Type} [DecidableEq α] (f : α → PyData) : Prop := ∀ a b, PyData.eqv (f a) (f b) = decide (a = b)
theorem eqvAll_f {α : Type} [DecidableEq α] {f : α → PyData} (F : Faith f) : ∀ xs ys : List α, PyData.eqvAll (xs.map f) (ys.map f) = decide (xs = ys)
  | [], [] => by simp only [List.map_nil, PyData.eqvAll, decide_true]
  | [], _ :: _ => by simp [PyData.eqvAll]
  | _ :: _, [] => by simp [PyData.eqvAll]
  | x :: xs, y :: ys => by
    rw [List.map_cons, List.map_cons, PyData.eqvAll, F x y, eqvAll_f F xs ys, ← Bool.decide_and]
    exact decide_eq_decide.mpr (by rw [List.cons.injEq])
theorem faith_int : Faith PyData.int := fun a b => by
  simp only [PyData.eqv]
  rw [Bool.eq_iff_iff, beq_iff_eq, decide_eq_true_eq]
theorem faith_str : Faith PyData.str := fun a b => by
  simp only [PyData.eqv]
  rw [Bool.eq_iff_iff, beq_iff_eq, decide_eq_true_eq]
theorem faith_dRow : Faith dRow := fun a b => by
  show PyData.eqv (.tuple _) (.tuple _) = _
  simp only [PyData.eqv]
  exact eqvAll_f faith_int a b
theorem faith_dCloth : Faith dCloth := fun a b => by
  show PyData.eqv (.tuple _) (.tuple _) = _
  simp only [PyData.eqv]
  exact eqvAll_f faith_dRow a b
theorem cEq_dRow (a b : List Int) : cEq (dRow a) (dRow b) = some (decide (a = b)) := by
  show cEq (.tuple _) (.tuple _) = _
  rw [cEq_tup ((Sh.dRow a).mono (by decide)) ((Sh.dRow b).mono (by decide)), eqvAll_f faith_int]
theorem cEq_dCloth (a b : List (List Int)) : cEq (dCloth a) (dCloth b) = some (decide (a = b)) := by
  show cEq (.tuple _) (.tuple _) = _
  rw [cEq_tup ((Sh.dCloth a).mono (by decide)) ((Sh.dCloth b).mono (by decide)), eqvAll_f faith_dRow]
theorem cNe_dRow (a b : List Int) : cNe (dRow a) (dRow b) = some (!decide (a = b)) := by unfold cNe; rw [cEq_dRow]; rfl
theorem cNe_dCloth (a b : List (List Int)) : cNe (dCloth a) (dCloth b) = some (!decide (a = b)) := by unfold cNe; rw [cEq_dCloth]; rfl
theorem cEq_ints (a b : List Int) : cEq (.list (a.map .int)) (.list (b.map .int)) = some (decide (a = b)) := by
  rw [cEq_lst ((Sh.lst (.map (.int 0) a)).mono (by decide)) ((Sh.lst (.map (.int 0) b)).mono (by decide)), eqvAll_f faith_int]
theorem cNe_ints (a b : List Int) : cNe (.list (a.map .int)) (.list (b.map .int)) = some (!decide (a = b)) := by unfold cNe; rw [cEq_ints]; rfl
theorem comp_range {st : GF} {el : EF} {ρ0 : En} (n : Nat) (f : Nat → PyData) (hn : n ≤ lim) (h : ∀ i, i < n → ∃ ρ, st (.int (i : Nat)) ρ0 = some ρ ∧ el ρ = .ok (f i)) : cmpR st bYes el ρ0 (.ok (rangeD 0 n)) = .ok (.list ((List.range n).map f)) := by
  refine cmpR_ok (by simpa [rangeD] using hn) ?_
  have e : rangeD 0 n = (List.range n).map fun i => PyData.int (i : Nat) := by
    unfold rangeD
    exact List.map_congr_left fun i _ => by rw [Int.zero_add]
  rw [e]
  have go : ∀ is : List Nat, (∀ i ∈ is, i < n) → compGo st bYes el ρ0 (is.map fun i => PyData.int (i : Nat)) = .ok (is.map f) := by
    intro is
    induction is with
    | nil => intro _; rfl
    | cons i is ih =>
      intro hi
      obtain ⟨ρ, h1, h2⟩ := h i (hi i List.mem_cons_self)
      rw [List.map_cons]
      unfold compGo
      simp only [h1, bYes_ap, h2, ih fun j hj => hi j (List.mem_cons_of_mem _ hj), bind_ok, List.map_cons]
  exact go _ fun i hi => List.mem_range.mp hi
theorem comp_list {α : Type} {st : GF} {el : EF} {ρ0 : En} (g f : α → PyData) (xs : List α) (hn : xs.length ≤ lim) (h : ∀ a ∈ xs, ∃ ρ, st (g a) ρ0 = some ρ ∧ el ρ = .ok (f a)) : cmpR st bYes el ρ0 (.ok (xs.map g)) = .ok (.list (xs.map f)) := by
  refine cmpR_ok (by simpa using hn) ?_
  have go : ∀ is : List α, (∀ i ∈ is, i ∈ xs) → compGo st bYes el ρ0 (is.map g) = .ok (is.map f) := by
    intro is
    induction is with
    | nil => intro _; rfl
    | cons i is ih =>
      intro hi
      obtain ⟨ρ, h1, h2⟩ := h i (hi i List.mem_cons_self)
      rw [List.map_cons]
      unfold compGo
      simp only [h1, bYes_ap, h2, ih fun j hj => hi j (List.mem_cons_of_mem _ hj), bind_ok, List.map_cons]
  exact go _ fun i hi => hi
/-- with a test -/
theorem comp_filter {α : Type} {st : GF} {t : BF} {el : EF} {ρ0 : En} (p : α → Bool) (g f : α → PyData) (xs : List α) (hn : xs.length ≤ lim) (h : ∀ a ∈ xs, ∃ ρ, st (g a) ρ0 = some ρ ∧ t ρ = .ok (p a) ∧ (p a = true → el ρ = .ok (f a))) : cmpR st t el ρ0 (.ok (xs.map g)) = .ok (.list ((xs.filter p).map f)) := by
  refine cmpR_ok (by simpa using hn) ?_
  have go : ∀ is : List α, (∀ i ∈ is, i ∈ xs) → compGo st t el ρ0 (is.map g) = .ok ((is.filter p).map f) := by
    intro is
    induction is with
    | nil => intro _; rfl
    | cons i is ih =>
      intro hi
      obtain ⟨ρ, h1, h2, h3⟩ := h i (hi i List.mem_cons_self)
      rw [List.map_cons]
      unfold compGo
      cases q : p i with
      | false => simp only [h1, h2, q, ih fun j hj => hi j (List.mem_cons_of_mem _ hj), List.filter_cons, Bool.false_eq_true, if_false]
      | true => simp only [h1, h2, q, h3 q, ih fun j hj => hi j (List.mem_cons_of_mem _ hj), List.filter_cons, if_true, bind_ok, List.map_cons]
  exact go _ fun i hi => hi
theorem range_data (lo n : Nat) : rangeD lo n = (List.range n).map fun i => PyData.int ((lo + i : Nat) : Int) := by
  unfold rangeD
  exact List.map_congr_left fun i _ => by rw [Int.natCast_add]
/-- a loop over range(n), its name the slot i -/
theorem for_rangeN {i : Nat} {g : SF} (P : Nat → En → Prop) (n : Nat) (ρ : En) (h0 : P 0 ρ)
    (hs : ∀ j ρ, j < n → P j ρ → ∃ ρ', g (ρ.set i (.im (.int (j : Nat)))) = .nx ρ' ∧ P (j + 1) ρ') : ∃ ρ', forGo (gtN i) g (rangeD 0 n) ρ = .nx ρ' ∧ P n ρ' :=
  for_range P n ρ h0 fun j ρ hj hp => by
    obtain ⟨ρ', h1, h2⟩ := hs j ρ hj hp
    exact ⟨_, ρ', rfl, h1, h2⟩
/-- a loop over a list of data, its name the slot i -/
theorem for_listN {α : Type} {i : Nat} {g : SF} (f : α → PyData) (xs : List α) (P : Nat → En → Prop) (ρ : En) (h0 : P 0 ρ)
    (hs : ∀ j a ρ, xs[j]? = some a → P j ρ → ∃ ρ', g (ρ.set i (.im (f a))) = .nx ρ' ∧ P (j + 1) ρ') : ∃ ρ', forGo (gtN i) g (xs.map f) ρ = .nx ρ' ∧ P xs.length ρ' := by
  obtain ⟨ρ', h1, h2⟩ := forGo_nx (sg := gtN i) (g := g) P (xs.map f) 0 ρ h0 (fun j d ρ hd hp => by
    rw [List.getElem?_map] at hd
    cases q : xs[j]? with
    | none => rw [q] at hd; cases hd
    | some a =>
      rw [q] at hd
      cases hd
      rw [Nat.zero_add] at hp ⊢
      obtain ⟨ρ', h1, h2⟩ := hs j a ρ q hp
      exact ⟨_, ρ', rfl, h1, h2⟩)
  rw [Nat.zero_add, List.length_map] at h2
  exact ⟨ρ', h1, h2⟩
@[simp] theorem isi_dCloth (c : List (List Int)) : gIsi "tuple" (dCloth c) = some (.bool true) := gIsi_tuple_tup _
@[simp] theorem isi_dRow (c : List Int) : gIsi "tuple" (DM.dRow c) = some (.bool true) := gIsi_tuple_tup _
@[simp] theorem len_dCloth (c : List (List Int)) : gLen (dCloth c) = some (.int (c.length : Nat)) := by simp [dCloth]
@[simp] theorem len_dRow (c : List Int) : gLen (DM.dRow c) = some (.int (c.length : Nat)) := by simp [DM.dRow]
@[simp] theorem seq_dCloth (c : List (List Int)) : seqR (.ok (dCloth c)) = .ok (c.map DM.dRow) := (rfl)
@[simp] theorem seq_dRow (c : List Int) : seqR (.ok (DM.dRow c)) = .ok (c.map .int) := (rfl)
def col (c : List (List Int)) (i : Nat) : List Int := c.map fun r => r.getD i 0
theorem ix_int (b : List Int) (i : Nat) (hi : i < b.length) : (b.map PyData.int)[i]? = some (.int (b.getD i 0)) := by
  rw [List.getElem?_map, List.getElem?_eq_getElem hi, List.getD_eq_getElem?_getD, List.getElem?_eq_getElem hi]
  rfl
theorem Cl.first {c : List (List Int)} {n k : Nat} (C : Cl c n k) : ∃ r, c[0]? = some r ∧ (c.map DM.dRow)[0]? = some (.tuple (r.map .int)) ∧ r.length = k := by
  obtain ⟨r, h1, h2, h3, _⟩ := C.dRow (j := 0) (by have := C.n1; omega)
  exact ⟨r, h2, h1, h3⟩
theorem columns_ok {c : List (List Int)} {n k : Nat} (C : Cl c n k) : m_columns [dCloth c] = .ok (.list ((List.range k).map fun i => dRow (col c i))) := by
  obtain ⟨r0, _, h0, hl⟩ := C.first
  have hk := C.k16
  have hn := C.n16
  have hr : rng1R (.ok [.int (k : Nat)]) = .ok (rangeD 0 k) := rng1R_nat (by omega)
  rw [run_columns]
  simp [b_columns, dCloth, h0, hl, hr]
  rw [comp_range k (fun i => dRow (col c i)) (by simp only [lim]; omega) fun i hi => ⟨_, rfl, ?_⟩]
  · simp
  · simp [wipeE]
    rw [comp_list DM.dRow (fun r => .int (r.getD i 0)) c (by simp only [lim]; have := C.len; omega) fun r hr => ⟨_, rfl, ?_⟩]
    · simp [DM.dRow, col]
    · have := ix_int r i (by rw [C.wide r hr]; exact hi)
      simp [wipeE, DM.dRow, this]
end DM
namespace K06
open PySem PySem.Spec PyProof.Rows L2 DL DM
def topS (i : Nat) : Stmt := PySem.Challenge.pw_weavehall_k06_twills_and_satins.main.body.getD i (.Pass ⟨0, 0, 0, 0⟩)
abbrev s_columns : Stmt := topS 1
abbrev n_columns : List Str := ["cloth", "row", "at"]
theorem sc_columns : FnScope n_columns ["cloth"] (defScope s_columns) := ⟨rfl, rfl, rfl, by decide +kernel, rfl, by decide +kernel, by decide +kernel⟩
theorem ok_columns {P : Program} {w : World} {K : PySem.W.Frag} {mg : Str → Option Value} {base : Heap} {f : Addr} {fd : FuncData} (F : Fun K "columns" "columns" s_columns f fd) (gf : mg "columns" = some (.ref f)) (bf : Binds K fd ["cloth"] []) (m_range : mg "range" = none) (m_len : mg "len" = none) (m_tuple : mg "tuple" = none) : DefOk P w K mg base "columns" ["cloth"] 1 m_columns :=
  fn_D F sc_columns rfl (fun _ => rfl) gf bf fun cdv A outer s H E hr => (ss_one (s_ret (ED.s (FD.ed (f_comp (own := [("at", 2)]) (is := [2]) (mm := .S) (m := .S) rfl sc_columns.nd (i_range1 m_range (a_cons (d_len (ma := .S) m_len (d_ix (ma := .S) (mb := .S) (m := .S) (d_var (pv 0)) d_int)) a_nil)) (blkOk_by (own := [("at", 2)]) (N := n_columns) (sc := defScope s_columns) (by decide +kernel)) (fun _ _ _ _ _ => (g_name (i := 2) (pg_name (i := 2) sc_columns.nd rfl (by first | exact .inl rfl | exact .inr rfl)))) (fun _ _ _ _ _ => ts_nil) (fun _ _ _ _ _ => (d_tuple (ma := .S) (m := .S) m_tuple (FD.ed (f_comp (own := [("row", 1)]) (is := [1]) (mm := .S) (m := .S) rfl sc_columns.nd (i_seq (m := .S) (d_var (pv 0))) (blkOk_by (own := [("row", 1)]) (N := n_columns) (by with_unfolding_all rfl)) (fun _ _ _ _ _ => (g_name (i := 1) (pg_name (i := 1) sc_columns.nd rfl (by first | exact .inl rfl | exact .inr rfl)))) (fun _ _ _ _ _ => ts_nil) (fun _ _ _ _ _ => (d_ix (ma := .S) (mb := .S) (m := .S) (d_var (pv 1)) (d_var (pv 2)))))))))))))
abbrev s_twill : Stmt := topS 3
abbrev n_twill : List Str := ["bits", "step", "size", "at", "row"]
theorem sc_twill : FnScope n_twill ["bits", "step"] (defScope s_twill) := ⟨rfl, rfl, rfl, by decide +kernel, rfl, by decide +kernel, by decide +kernel⟩
theorem ok_twill {P : Program} {w : World} {K : PySem.W.Frag} {mg : Str → Option Value} {base : Heap} {f : Addr} {fd : FuncData} (F : Fun K "twill" "twill" s_twill f fd) (gf : mg "twill" = some (.ref f)) (bf : Binds K fd ["bits", "step"] []) (m_len : mg "len" = none) (m_tuple : mg "tuple" = none) (m_range : mg "range" = none) : DefOk P w K mg base "twill" ["bits", "step"] 1 m_twill :=
  fn_D F sc_twill rfl (fun _ => rfl) gf bf fun cdv A outer s H E hr => (ss_cons (s_asg (i := 2) (d_len (ma := .S) m_len (d_var (pv 0))) (fun h => ps_set (i := 2) sc_twill.nd rfl (by first | exact .inl rfl | exact .inr rfl) h))
  (ss_one (s_ret (ED.s (d_tuple (ma := .S) (m := .S) m_tuple (FD.ed (f_comp (own := [("row", 4)]) (is := [4]) (mm := .S) (m := .S) rfl sc_twill.nd (i_range1 m_range (a_cons (d_var (pv 2)) a_nil)) (blkOk_by (own := [("row", 4)]) (N := n_twill) (sc := defScope s_twill) (by decide +kernel)) (fun _ _ _ _ _ => (g_name (i := 4) (pg_name (i := 4) sc_twill.nd rfl (by first | exact .inl rfl | exact .inr rfl)))) (fun _ _ _ _ _ => ts_nil) (fun _ _ _ _ _ => (d_tuple (ma := .S) (m := .S) m_tuple (FD.ed (f_comp (own := [("at", 3)]) (is := [3]) (mm := .S) (m := .S) rfl sc_twill.nd (i_range1 m_range (a_cons (d_var (pv 2)) a_nil)) (blkOk_by (own := [("at", 3)]) (N := n_twill) (by with_unfolding_all rfl)) (fun _ _ _ _ _ => (g_name (i := 3) (pg_name (i := 3) sc_twill.nd rfl (by first | exact .inl rfl | exact .inr rfl)))) (fun _ _ _ _ _ => ts_nil) (fun _ _ _ _ _ => (d_ix (ma := .S) (mb := .S) (m := .S) (d_var (pv 0)) (d_mod (ma := .S) (mb := .S) (d_sub (ma := .S) (mb := .S) (d_var (pv 3)) (d_mul (ma := .S) (mb := .S) (d_var (pv 4)) (d_var (pv 1)))) (d_var (pv 2))))))))))))))))
abbrev s_satin : Stmt := topS 4
abbrev n_satin : List Str := ["size", "step"]
theorem sc_satin : FnScope n_satin ["size", "step"] (defScope s_satin) := ⟨rfl, rfl, rfl, by decide +kernel, rfl, by decide +kernel, by decide +kernel⟩
theorem ok_satin {P : Program} {w : World} {K : PySem.W.Frag} {mg : Str → Option Value} {base : Heap} {f : Addr} {fd : FuncData} (F : Fun K "satin" "satin" s_satin f fd) (gf : mg "satin" = some (.ref f)) (bf : Binds K fd ["size", "step"] []) (D_twill : DefOk P w K mg base "twill" ["bits", "step"] 1 m_twill) : DefOk P w K mg base "satin" ["size", "step"] 2 m_satin :=
  fn_D F sc_satin rfl (fun _ => rfl) gf bf fun cdv A outer s H E hr => (ss_one (s_ret (ED.s (d_call D_twill (hr.mono (by decide)) (takes_of rfl rfl rfl rfl) (a_cons (d_add (ma := .S) (mb := .S) (m := .S) (FD.ed (f_lst (m := .S) (a_cons d_int a_nil))) (FD.ed (f_rep (ma := .S) (mb := .S) (m := .S) (FD.ed (f_lst (m := .S) (a_cons d_int a_nil))) (d_sub (ma := .S) (mb := .S) (d_var (pv 0)) d_int))) rfl (by decide)) (a_cons (d_var (pv 1)) a_nil))))))
abbrev s_is_even : Stmt := topS 5
abbrev n_is_even : List Str := ["cloth", "rows", "row", "others", "column"]
theorem sc_is_even : FnScope n_is_even ["cloth"] (defScope s_is_even) := ⟨rfl, rfl, rfl, by decide +kernel, rfl, by decide +kernel, by decide +kernel⟩
theorem ok_is_even {P : Program} {w : World} {K : PySem.W.Frag} {mg : Str → Option Value} {base : Heap} {f : Addr} {fd : FuncData} (F : Fun K "is_even" "is_even" s_is_even f fd) (gf : mg "is_even" = some (.ref f)) (bf : Binds K fd ["cloth"] []) (m_sum : mg "sum" = none) (D_columns : DefOk P w K mg base "columns" ["cloth"] 1 m_columns) (m_min : mg "min" = none) (m_max : mg "max" = none) : DefOk P w K mg base "is_even" ["cloth"] 2 m_is_even :=
  fn_D F sc_is_even rfl (fun _ => rfl) gf bf fun cdv A outer s H E hr => (ss_cons (s_asgC (i := 1) (own := [("row", 2)]) (is := [2]) (mm := .S) rfl rfl (sw_true rfl rfl rfl (by decide +kernel)) rfl sc_is_even.nd (i_seq (m := .S) (d_var (pv 0))) (blkOk_by (own := [("row", 2)]) (N := n_is_even) (sc := defScope s_is_even) (by decide +kernel)) (fun _ _ _ _ _ => (g_name (i := 2) (pg_name (i := 2) sc_is_even.nd rfl (by first | exact .inl rfl | exact .inr rfl)))) (fun _ _ _ _ _ => ts_nil) (fun _ _ _ _ _ => (d_sum (ma := .S) m_sum (d_var (pv 2)))))
  (ss_cons (s_asgC (i := 3) (own := [("column", 4)]) (is := [4]) (mm := .S) rfl rfl (sw_true rfl rfl rfl (by decide +kernel)) rfl sc_is_even.nd (i_seq (m := .S) (d_call D_columns (hr.mono (by decide)) (takes_of rfl rfl rfl rfl) (a_cons (d_var (pv 0)) a_nil))) (blkOk_by (own := [("column", 4)]) (N := n_is_even) (sc := defScope s_is_even) (by decide +kernel)) (fun _ _ _ _ _ => (g_name (i := 4) (pg_name (i := 4) sc_is_even.nd rfl (by first | exact .inl rfl | exact .inr rfl)))) (fun _ _ _ _ _ => ts_nil) (fun _ _ _ _ _ => (d_sum (ma := .S) m_sum (d_var (pv 4)))))
  (ss_one (s_ret (ED.s (d_and (ma := .S) (d_cmp (ma := .S) (mb := .S) (cmp_eq hr.units) (d_min (ma := .S) m_min (d_var (pv 1))) (d_max (ma := .S) m_max (d_var (pv 1))) (nomark _)) (d_one (d_cmp (ma := .S) (mb := .S) (cmp_eq hr.units) (d_min (ma := .S) m_min (d_var (pv 3))) (d_max (ma := .S) m_max (d_var (pv 3))) (nomark _)))))))))
abbrev s__law_cell : Stmt := topS 7
abbrev n__law_cell : List Str := ["_law_script", "_law_k"]
theorem sc__law_cell : FnScope n__law_cell ["_law_script", "_law_k"] (defScope s__law_cell) := ⟨rfl, rfl, rfl, by decide +kernel, rfl, by decide +kernel, by decide +kernel⟩
theorem ok__law_cell {P : Program} {w : World} {K : PySem.W.Frag} {mg : Str → Option Value} {base : Heap} {f : Addr} {fd : FuncData} (F : Fun K "_law_cell" "_law_cell" s__law_cell f fd) (gf : mg "_law_cell" = some (.ref f)) (bf : Binds K fd ["_law_script", "_law_k"] []) (m_len : mg "len" = none) : DefOk P w K mg base "_law_cell" ["_law_script", "_law_k"] 1 m__law_cell :=
  fn_D F sc__law_cell rfl (fun _ => rfl) gf bf fun cdv A outer s H E hr => (ss_cons (s_if (t_cmp (ma := .S) (mb := .S) cmp_lt (d_var (pv 1)) (d_lenS (ma := .S) m_len (d_var (pv 0))) (nomark _)) (ss_one (s_ret (ED.s (d_ixS (ma := .S) (mb := .S) (d_var (pv 0)) (d_var (pv 1)))))) ss_nil)
  (ss_one (s_ret (ED.s d_int))))
abbrev s__law_mix : Stmt := topS 8
abbrev n__law_mix : List Str := ["_law_cell_here", "_law_prime", "_law_many"]
theorem sc__law_mix : FnScope n__law_mix ["_law_cell_here", "_law_prime", "_law_many"] (defScope s__law_mix) := ⟨rfl, rfl, rfl, by decide +kernel, rfl, by decide +kernel, by decide +kernel⟩
theorem ok__law_mix {P : Program} {w : World} {K : PySem.W.Frag} {mg : Str → Option Value} {base : Heap} {f : Addr} {fd : FuncData} (F : Fun K "_law_mix" "_law_mix" s__law_mix f fd) (gf : mg "_law_mix" = some (.ref f)) (bf : Binds K fd ["_law_cell_here", "_law_prime", "_law_many"] [])  : DefOk P w K mg base "_law_mix" ["_law_cell_here", "_law_prime", "_law_many"] 1 m__law_mix :=
  fn_D F sc__law_mix rfl (fun _ => rfl) gf bf fun cdv A outer s H E hr => (ss_one (s_ret (ED.s (d_mod (ma := .S) (mb := .S) (d_mod (ma := .S) (mb := .S) (d_mul (ma := .S) (mb := .S) (d_var (pv 0)) d_int) (d_var (pv 1))) (d_var (pv 2))))))
abbrev s__law_even : Stmt := topS 9
abbrev n__law_even : List Str := ["_law_cloth", "_law_rows", "_law_row", "_law_columns_of", "_law_k"]
theorem sc__law_even : FnScope n__law_even ["_law_cloth"] (defScope s__law_even) := ⟨rfl, rfl, rfl, by decide +kernel, rfl, by decide +kernel, by decide +kernel⟩
theorem ok__law_even {P : Program} {w : World} {K : PySem.W.Frag} {mg : Str → Option Value} {base : Heap} {f : Addr} {fd : FuncData} (F : Fun K "_law_even" "_law_even" s__law_even f fd) (gf : mg "_law_even" = some (.ref f)) (bf : Binds K fd ["_law_cloth"] []) (m_sum : mg "sum" = none) (m_range : mg "range" = none) (m_len : mg "len" = none) (m_set : mg "set" = none) : DefOk P w K mg base "_law_even" ["_law_cloth"] 1 m__law_even :=
  fn_D F sc__law_even rfl (fun _ => rfl) gf bf fun cdv A outer s H E hr => (ss_cons (s_asgC (i := 1) (own := [("_law_row", 2)]) (is := [2]) (mm := .S) rfl rfl (sw_true rfl rfl rfl (by decide +kernel)) rfl sc__law_even.nd (i_seq (m := .S) (d_var (pv 0))) (blkOk_by (own := [("_law_row", 2)]) (N := n__law_even) (sc := defScope s__law_even) (by decide +kernel)) (fun _ _ _ _ _ => (g_name (i := 2) (pg_name (i := 2) sc__law_even.nd rfl (by first | exact .inl rfl | exact .inr rfl)))) (fun _ _ _ _ _ => ts_nil) (fun _ _ _ _ _ => (d_sum (ma := .S) m_sum (d_var (pv 2)))))
  (ss_cons (s_asgC (i := 3) (own := [("_law_k", 4)]) (is := [4]) (mm := .S) rfl rfl (sw_true rfl rfl rfl (by decide +kernel)) rfl sc__law_even.nd (i_range1 m_range (a_cons (d_len (ma := .S) m_len (d_ix (ma := .S) (mb := .S) (m := .S) (d_var (pv 0)) d_int)) a_nil)) (blkOk_by (own := [("_law_k", 4)]) (N := n__law_even) (sc := defScope s__law_even) (by decide +kernel)) (fun _ _ _ _ _ => (g_name (i := 4) (pg_name (i := 4) sc__law_even.nd rfl (by first | exact .inl rfl | exact .inr rfl)))) (fun _ _ _ _ _ => ts_nil) (fun _ _ _ _ _ => (d_sum (ma := .S) m_sum (FD.ed (f_comp (own := [("_law_row", 2)]) (is := [2]) (mm := .S) (m := .S) rfl sc__law_even.nd (i_seq (m := .S) (d_var (pv 0))) (blkOk_by (own := [("_law_row", 2)]) (N := n__law_even) (by with_unfolding_all rfl)) (fun _ _ _ _ _ => (g_name (i := 2) (pg_name (i := 2) sc__law_even.nd rfl (by first | exact .inl rfl | exact .inr rfl)))) (fun _ _ _ _ _ => ts_nil) (fun _ _ _ _ _ => (d_ix (ma := .S) (mb := .S) (m := .S) (d_var (pv 2)) (d_var (pv 4)))))))))
  (ss_one (s_ret (ED.s (d_and (ma := .S) (d_cmp (ma := .S) (mb := .S) (cmp_eq hr.units) (d_lenSet (ma := .S) m_len m_set (d_var (pv 1))) d_int (nomark _)) (d_one (d_cmp (ma := .S) (mb := .S) (cmp_eq hr.units) (d_lenSet (ma := .S) m_len m_set (d_var (pv 3))) d_int (nomark _)))))))))
abbrev s_law : Stmt := topS 10
abbrev n_law : List Str := ["_law_script", "_law_size", "_law_step", "_law_bits", "_law_k", "_law_kept", "_law_found", "_law_r", "_law_c", "_law_one", "_law_row", "_law_both", "_law_told"]
theorem sc_law : FnScope n_law ["_law_script"] (defScope s_law) := ⟨rfl, rfl, rfl, by decide +kernel, rfl, by decide +kernel, by decide +kernel⟩
def l1_law : SF := (sIf (fAnd (bCmp cNe (eOp2 gIx (eOp2 gIx (eVar 6) (eOp2 gMod (eOp2 gAdd (eVar 7) (eK (.int 1))) (eVar 1))) (eOp2 gMod (eOp2 gAdd (eVar 8) (eVar 2)) (eVar 1))) (eOp2 gIx (eOp2 gIx (eVar 6) (eVar 7)) (eVar 8))) (bCmp cLt (eOp2 gAdd (eVar 7) (eK (.int 1))) (eVar 1))) (sRet (eK (.bool false))) sNx)
def l2_law : SF := (sFor (itRng1 (aCons (eVar 1) aNil)) (gtN 8) l1_law)
def b_law : SF := (sSeq (sAsg 1 (eOp2 gAdd (eK (.int 1)) (eOp2 gMod (eCall m__law_cell (aCons (eVar 0) (aCons (eK (.int 0)) aNil))) (eK (.int 16)))))
  (sSeq (sAsg 2 (eOp2 gMod (eCall m__law_cell (aCons (eVar 0) (aCons (eK (.int 1)) aNil))) (eK (.int 16))))
  (sSeq (sAsg 3 (eComp [4] (itRng1 (aCons (eVar 1) aNil)) (gtN 4) bYes (eCall m__law_mix (aCons (eOp2 gAdd (eCall m__law_cell (aCons (eVar 0) (aCons (eOp2 gAdd (eK (.int 2)) (eVar 4)) aNil))) (eOp2 gMul (eOp2 gMul (eK (.int 7)) (eVar 4)) (eVar 4))) (aCons (eK (.int 9949)) (aCons (eK (.int 2)) aNil))))))
  (sSeq (sAsg 5 (eOp1 gList (eVar 3)))
  (sSeq (sAsg 6 (eCall m_twill (aCons (eVar 5) (aCons (eVar 2) aNil))))
  (sSeq (sIf (fOr (fNot (asB (eOp1 (gIsi "tuple") (eVar 6)))) (fOr (bCmp cNe (eOp1 gLen (eVar 6)) (eVar 1)) (fOr (bCmp cNe (eOp2 gIx (eVar 6) (eK (.int 0))) (eOp1 gTuple (eVar 3))) (bCmp cNe (eVar 5) (eVar 3))))) (sRet (eK (.bool false))) sNx)
  (sSeq (sFor (itRng1 (aCons (eVar 1) aNil)) (gtN 7) l2_law)
  (sSeq (sAsg 9 (eCall m_satin (aCons (eVar 1) (aCons (eVar 2) aNil))))
  (sSeq (sIf (fOr (bCmp cNe (eVar 9) (eCall m_twill (aCons (eOp2 gAdd (eLst (aCons (eK (.int 1)) aNil)) (eOp2 gRep (eLst (aCons (eK (.int 0)) aNil)) (eOp2 gSubI (eVar 1) (eK (.int 1))))) (aCons (eVar 2) aNil)))) (bCmp cNe (eComp [10] (itSeq (eVar 9)) (gtN 10) bYes (eOp1 gSumA (eVar 10))) (eOp2 gRep (eLst (aCons (eK (.int 1)) aNil)) (eVar 1)))) (sRet (eK (.bool false))) sNx)
  (sSeq (sAsg 11 (eComp [4] (itRng2 (aCons (eK (.int 2)) (aCons (eK (.int 17)) aNil))) (gtN 4) (fAnd (bCmp cEq (eOp2 gMod (eVar 1) (eVar 4)) (eK (.int 0))) (bCmp cEq (eOp2 gMod (eVar 2) (eVar 4)) (eK (.int 0)))) (eVar 4)))
  (sSeq (sAsg 12 (eCall m_is_even (aCons (eVar 9) aNil)))
  (sSeq (sIf (fOr (fNot (asB (eOp1 (gIsi "bool") (eVar 12)))) (fOr (bCmp cNe (eVar 12) (eCall m__law_even (aCons (eVar 9) aNil))) (bCmp cNe (eVar 12) (eCmp cEq (eVar 11) (eLst aNil))))) (sRet (eK (.bool false))) sNx)
  (sRet (eAnd (eCmp cEq (eCall m_is_even (aCons (eVar 6) aNil)) (eCall m__law_even (aCons (eVar 6) aNil))) (eOr (eCmp cNe (eVar 11) (eLst aNil)) (eCall m__law_even (aCons (eVar 6) aNil)))))))))))))))))
def m_law : List PyData → Res PyData := runDef 13 1 b_law
theorem run_law (x0 : PyData) : m_law [x0] = fin (b_law [.im x0, .un, .un, .un, .un, .un, .un, .un, .un, .un, .un, .un, .un]) := rfl
theorem ok_law {P : Program} {w : World} {K : PySem.W.Frag} {mg : Str → Option Value} {base : Heap} {f : Addr} {fd : FuncData} (F : Fun K "law" "law" s_law f fd) (D__law_cell : DefOk P w K mg base "_law_cell" ["_law_script", "_law_k"] 1 m__law_cell) (m_range : mg "range" = none) (D__law_mix : DefOk P w K mg base "_law_mix" ["_law_cell_here", "_law_prime", "_law_many"] 1 m__law_mix) (m_list : mg "list" = none) (D_twill : DefOk P w K mg base "twill" ["bits", "step"] 1 m_twill) (m_isinstance : mg "isinstance" = none) (m_tuple : mg "tuple" = none) (m_len : mg "len" = none) (D_satin : DefOk P w K mg base "satin" ["size", "step"] 2 m_satin) (m_sum : mg "sum" = none) (D_is_even : DefOk P w K mg base "is_even" ["cloth"] 2 m_is_even) (m_bool : mg "bool" = none) (D__law_even : DefOk P w K mg base "_law_even" ["_law_cloth"] 1 m__law_even) : FnOk P w K mg base (L2.CX P w) 3 f fd ["_law_script"] (spD K mg m_law) :=
  fn_D0 F sc_law rfl (fun _ => rfl) fun cdv A outer s H E hr => (ss_cons (s_asg (i := 1) (d_add (ma := .S) (mb := .S) (m := .S) d_int (d_mod (ma := .S) (mb := .S) (d_call D__law_cell (hr.mono (by decide)) (takes_of rfl rfl rfl rfl) (a_cons (d_var (pv 0)) (a_cons d_int a_nil))) d_int) rfl (by decide)) (fun h => ps_set (i := 1) sc_law.nd rfl (by first | exact .inl rfl | exact .inr rfl) h))
  (ss_cons (s_asg (i := 2) (d_mod (ma := .S) (mb := .S) (d_call D__law_cell (hr.mono (by decide)) (takes_of rfl rfl rfl rfl) (a_cons (d_var (pv 0)) (a_cons d_int a_nil))) d_int) (fun h => ps_set (i := 2) sc_law.nd rfl (by first | exact .inl rfl | exact .inr rfl) h))
  (ss_cons (s_asgC (i := 3) (own := [("_law_k", 4)]) (is := [4]) (mm := .S) rfl rfl (sw_true rfl rfl rfl (by decide +kernel)) rfl sc_law.nd (i_range1 m_range (a_cons (d_var (pv 1)) a_nil)) (blkOk_by (own := [("_law_k", 4)]) (N := n_law) (sc := defScope s_law) (by decide +kernel)) (fun _ _ _ _ _ => (g_name (i := 4) (pg_name (i := 4) sc_law.nd rfl (by first | exact .inl rfl | exact .inr rfl)))) (fun _ _ _ _ _ => ts_nil) (fun _ _ _ _ _ => (d_call D__law_mix (hr.mono (by decide)) takes0 (a_cons (d_add (ma := .S) (mb := .S) (m := .S) (d_call D__law_cell (hr.mono (by decide)) takes0 (a_cons (d_var (pv 0)) (a_cons (d_add (ma := .S) (mb := .S) (m := .S) d_int (d_var (pv 4)) rfl (by decide)) a_nil))) (d_mul (ma := .S) (mb := .S) (d_mul (ma := .S) (mb := .S) d_int (d_var (pv 4))) (d_var (pv 4))) rfl (by decide)) (a_cons d_int (a_cons d_int a_nil))))))
  (ss_cons (s_asg (i := 5) (FD.ed (f_list (ma := .S) (m := .S) m_list (d_var (pv 3)))) (fun h => ps_set (i := 5) sc_law.nd rfl (by first | exact .inl rfl | exact .inr rfl) h))
  (ss_cons (s_asg (i := 6) (d_call D_twill (hr.mono (by decide)) (takes_of rfl rfl rfl rfl) (a_cons (d_var (pv 5)) (a_cons (d_var (pv 2)) a_nil))) (fun h => ps_set (i := 6) sc_law.nd rfl (by first | exact .inl rfl | exact .inr rfl) h))
  (ss_cons (s_if (TWD.td (w_or (t_not (t_val (m := .S) (d_isi (ma := .S) (T := "tuple") m_isinstance m_tuple (d_var (pv 6))))) (w_or (t_cmp (ma := .S) (mb := .S) (cmp_ne hr.units) (d_len (ma := .S) m_len (d_var (pv 6))) (d_var (pv 1)) (nomark _)) (w_or (t_cmp (ma := .S) (mb := .S) (cmp_ne hr.units) (d_ix (ma := .S) (mb := .S) (m := .S) (d_var (pv 6)) d_int) (d_tuple (ma := .S) (m := .S) m_tuple (d_var (pv 3))) (nomark _)) (w_or1 (t_cmp (ma := .S) (mb := .S) (cmp_ne hr.units) (d_var (pv 5)) (d_var (pv 3)) (nomark _))))))) (ss_one (s_ret (ED.s d_bl))) ss_nil)
  (ss_cons (s_for (is := [7]) (passes_of rfl) rfl (i_range1 m_range (a_cons (d_var (pv 1)) a_nil)) (g_name (i := 7) (pg_name (i := 7) sc_law.nd rfl (by first | exact .inl rfl | exact .inr rfl))) (ss_one (s_for (is := [8]) (passes_of rfl) rfl (i_range1 m_range (a_cons (d_var (pv 1)) a_nil)) (g_name (i := 8) (pg_name (i := 8) sc_law.nd rfl (by first | exact .inl rfl | exact .inr rfl))) (ss_one (s_if (TWD.td (w_and (t_cmp (ma := .S) (mb := .S) (cmp_ne hr.units) (d_ix (ma := .S) (mb := .S) (m := .S) (d_ix (ma := .S) (mb := .S) (m := .S) (d_var (pv 6)) (d_mod (ma := .S) (mb := .S) (d_add (ma := .S) (mb := .S) (m := .S) (d_var (pv 7)) d_int rfl (by decide)) (d_var (pv 1)))) (d_mod (ma := .S) (mb := .S) (d_add (ma := .S) (mb := .S) (m := .S) (d_var (pv 8)) (d_var (pv 2)) rfl (by decide)) (d_var (pv 1)))) (d_ix (ma := .S) (mb := .S) (m := .S) (d_ix (ma := .S) (mb := .S) (m := .S) (d_var (pv 6)) (d_var (pv 7))) (d_var (pv 8))) (nomark _)) (w_and1 (t_cmp (ma := .S) (mb := .S) cmp_lt (d_add (ma := .S) (mb := .S) (m := .S) (d_var (pv 7)) d_int rfl (by decide)) (d_var (pv 1)) (nomark _))))) (ss_one (s_ret (ED.s d_bl))) ss_nil)))))
  (ss_cons (s_asg (i := 9) (d_call D_satin (hr.mono (by decide)) (takes_of rfl rfl rfl rfl) (a_cons (d_var (pv 1)) (a_cons (d_var (pv 2)) a_nil))) (fun h => ps_set (i := 9) sc_law.nd rfl (by first | exact .inl rfl | exact .inr rfl) h))
  (ss_cons (s_if (TWD.td (w_or (t_cmp (ma := .S) (mb := .S) (cmp_ne hr.units) (d_var (pv 9)) (d_call D_twill (hr.mono (by decide)) (takes_of rfl rfl rfl rfl) (a_cons (d_add (ma := .S) (mb := .S) (m := .S) (FD.ed (f_lst (m := .S) (a_cons d_int a_nil))) (FD.ed (f_rep (ma := .S) (mb := .S) (m := .S) (FD.ed (f_lst (m := .S) (a_cons d_int a_nil))) (d_sub (ma := .S) (mb := .S) (d_var (pv 1)) d_int))) rfl (by decide)) (a_cons (d_var (pv 2)) a_nil))) (nomark _)) (w_or1 (t_cmp (ma := .S) (mb := .S) (cmp_ne hr.units) (FD.ed (f_comp (own := [("_law_row", 10)]) (is := [10]) (mm := .S) (m := .S) rfl sc_law.nd (i_seq (m := .S) (d_var (pv 9))) (blkOk_by (own := [("_law_row", 10)]) (N := n_law) (sc := defScope s_law) (by decide +kernel)) (fun _ _ _ _ _ => (g_name (i := 10) (pg_name (i := 10) sc_law.nd rfl (by first | exact .inl rfl | exact .inr rfl)))) (fun _ _ _ _ _ => ts_nil) (fun _ _ _ _ _ => (d_sum (ma := .S) m_sum (d_var (pv 10)))))) (FD.ed (f_rep (ma := .S) (mb := .S) (m := .S) (FD.ed (f_lst (m := .S) (a_cons d_int a_nil))) (d_var (pv 1)))) (nomark _))))) (ss_one (s_ret (ED.s d_bl))) ss_nil)
  (ss_cons (s_asgC (i := 11) (own := [("_law_k", 4)]) (is := [4]) (mm := .S) rfl rfl (sw_true rfl rfl rfl (by decide +kernel)) rfl sc_law.nd (i_range2 m_range (a_cons d_int (a_cons d_int a_nil))) (blkOk_by (own := [("_law_k", 4)]) (N := n_law) (sc := defScope s_law) (by decide +kernel)) (fun _ _ _ _ _ => (g_name (i := 4) (pg_name (i := 4) sc_law.nd rfl (by first | exact .inl rfl | exact .inr rfl)))) (fun _ _ _ _ _ => (ts_one (TWD.td (w_and (t_cmp (ma := .S) (mb := .S) (cmp_eq hr.units) (d_mod (ma := .S) (mb := .S) (d_var (pv 1)) (d_var (pv 4))) d_int (nomark _)) (w_and1 (t_cmp (ma := .S) (mb := .S) (cmp_eq hr.units) (d_mod (ma := .S) (mb := .S) (d_var (pv 2)) (d_var (pv 4))) d_int (nomark _))))))) (fun _ _ _ _ _ => (d_var (pv 4))))
  (ss_cons (s_asg (i := 12) (d_call D_is_even (hr.mono (by decide)) (takes_of rfl rfl rfl rfl) (a_cons (d_var (pv 9)) a_nil)) (fun h => ps_set (i := 12) sc_law.nd rfl (by first | exact .inl rfl | exact .inr rfl) h))
  (ss_cons (s_if (TWD.td (w_or (t_not (t_val (m := .S) (d_isi (ma := .S) (T := "bool") m_isinstance m_bool (d_var (pv 12))))) (w_or (t_cmp (ma := .S) (mb := .S) (cmp_ne hr.units) (d_var (pv 12)) (d_call D__law_even (hr.mono (by decide)) (takes_of rfl rfl rfl rfl) (a_cons (d_var (pv 9)) a_nil)) (nomark _)) (w_or1 (t_cmp (ma := .S) (mb := .S) (cmp_ne hr.units) (d_var (pv 12)) (d_cmp (ma := .S) (mb := .S) (cmp_eq hr.units) (d_var (pv 11)) (FD.ed (f_lst (m := .S) a_nil)) (nomark _)) (nomark _)))))) (ss_one (s_ret (ED.s d_bl))) ss_nil)
  (ss_one (s_ret (ED.s (d_and (ma := .S) (d_cmp (ma := .S) (mb := .S) (cmp_eq hr.units) (d_call D_is_even (hr.mono (by decide)) (takes_of rfl rfl rfl rfl) (a_cons (d_var (pv 6)) a_nil)) (d_call D__law_even (hr.mono (by decide)) (takes_of rfl rfl rfl rfl) (a_cons (d_var (pv 6)) a_nil)) (nomark _)) (d_one (d_or (ma := .S) (d_cmp (ma := .S) (mb := .S) (cmp_ne hr.units) (d_var (pv 11)) (FD.ed (f_lst (m := .S) a_nil)) (nomark _)) (d_one (d_call D__law_even (hr.mono (by decide)) (takes_of rfl rfl rfl rfl) (a_cons (d_var (pv 6)) a_nil)))))))))))))))))))))
theorem idx (b : List Int) (n : Nat) (i : Int) (hb : b.length = n) (hi : 0 ≤ i ∧ i < n) : atI (b.map PyData.int) i = some (.int (b.getD i.toNat 0)) := by
  obtain ⟨j, rfl⟩ : ∃ j : Nat, i = j := ⟨_, (Int.toNat_of_nonneg hi.1).symm⟩
  have hj : j < b.length := by omega
  rw [atI_ofNat, List.getElem?_map, List.getElem?_eq_getElem hj, Int.toNat_natCast, List.getD_eq_getElem?_getD, List.getElem?_eq_getElem hj]
  rfl
def twc (b : List Int) (n st : Nat) (r c : Nat) : Int := b.getD (((c : Int) - (r : Int) * (st : Int)) % (n : Int)).toNat 0
def tw (b : List Int) (n st : Nat) : List (List Int) := (List.range n).map fun r => (List.range n).map fun c => twc b n st r c
theorem twill_ok (b : List Int) (n st : Nat) (hb : b.length = n) (hn : 1 ≤ n ∧ n ≤ 16) (hs : st < 16) : m_twill [.list (b.map .int), .int (st : Nat)] = .ok (dCloth (tw b n st)) := by
  have hm : ∀ i, gMod (.int i) (.int (n : Nat)) = some (.int (i % n)) := fun i => gMod_pos (by omega)
  have hr : rng1R (.ok [.int (n : Nat)]) = .ok (rangeD 0 n) := rng1R_nat (by omega)
  rw [run_twill]
  simp [b_twill, hb, hr]
  rw [comp_range n (fun r => dRow ((List.range n).map fun c => twc b n st r c)) (by simp only [lim]; omega) fun r hr0 => ⟨_, rfl, ?_⟩]
  · simp [tw, dCloth, Function.comp_def]
  · have hmul : gMul (.int (r : Nat)) (.int (st : Nat)) = some (.int ((r : Int) * (st : Int))) := gMul_l (smallI_of (by omega))
    simp [wipeE, hr]
    rw [comp_range n (fun c => .int (twc b n st r c)) (by simp only [lim]; omega) fun c hc => ⟨_, rfl, ?_⟩]
    · simp [dRow, Function.comp_def]
    · have := idx b n (((c : Int) - (r : Int) * (st : Int)) % (n : Int)) hb ⟨Int.emod_nonneg _ (by omega), Int.emod_lt_of_pos _ (by omega)⟩
      simp [wipeE, hm, hmul, this, twc]
theorem tw_cl (b : List Int) (n st : Nat) (hb : b.length = n) (hn : 1 ≤ n ∧ n ≤ 16) (hB : ∀ x ∈ b, Bit x) : Cl (tw b n st) n n := by
  refine ⟨hn.1, hn.2, hn.1, hn.2, by simp [tw], fun r hr => ?_, fun r hr x hx => ?_⟩
  · simp only [tw, List.mem_map, List.mem_range] at hr
    obtain ⟨j, _, rfl⟩ := hr
    simp
  · simp only [tw, List.mem_map, List.mem_range] at hr
    obtain ⟨j, _, rfl⟩ := hr
    simp only [List.mem_map, List.mem_range] at hx
    obtain ⟨i, _, rfl⟩ := hx
    unfold twc
    have h0 : 0 ≤ ((i : Int) - (j : Int) * (st : Int)) % (n : Int) := Int.emod_nonneg _ (by omega)
    have h1 : ((i : Int) - (j : Int) * (st : Int)) % (n : Int) < n := Int.emod_lt_of_pos _ (by omega)
    have hj : (((i : Int) - (j : Int) * (st : Int)) % (n : Int)).toNat < b.length := by omega
    rw [List.getD_eq_getElem?_getD, List.getElem?_eq_getElem hj]
    exact hB _ (List.getElem_mem hj)
/-- all alike -/
def alk (l : List Int) : Bool := l.all fun x => x == l.headD 0
theorem alk_iff (l : List Int) : alk l = true ↔ ∀ x ∈ l, x = l.headD 0 := by simp [alk]
theorem minmax_alk {l : List Int} (h : 0 < l.length) : (minI l == maxI l) = alk l := by
  obtain ⟨a1, a2⟩ := minI_mem h
  obtain ⟨b1, b2⟩ := maxI_mem h
  rw [Bool.eq_iff_iff, beq_iff_eq, alk_iff]
  constructor
  · intro e x hx
    have h1 := a2 x hx
    have h2 := b2 x hx
    cases l with
    | nil => cases h
    | cons y r =>
      have h3 := a2 y List.mem_cons_self
      have h4 := b2 y List.mem_cons_self
      show x = y
      omega
  · intro e
    rw [e _ a1, e _ b1]
theorem dedup_mem (l : List Int) : ∀ acc : List Int, (∀ x, x ∈ l.foldl PyProof.Rows.step_dedup acc ↔ x ∈ acc ∨ x ∈ l) := by
  induction l with
  | nil => intro acc x; simp
  | cons y r ih =>
    intro acc x
    rw [List.foldl_cons, ih]
    unfold PyProof.Rows.step_dedup
    split
    · rename_i h
      obtain ⟨z, hz, e⟩ := List.any_eq_true.mp h
      have := eq_of_beq e
      subst this
      constructor
      · rintro (h | h)
        · exact .inl h
        · exact .inr (List.mem_cons_of_mem _ h)
      · rintro (h | h)
        · exact .inl h
        · rcases List.mem_cons.mp h with rfl | h
          · exact .inl hz
          · exact .inr h
    · simp only [List.mem_append, List.mem_cons, List.not_mem_nil, or_false]
      constructor
      · rintro ((h | h) | h)
        · exact .inl h
        · exact .inr (.inl h)
        · exact .inr (.inr h)
      · rintro (h | h | h)
        · exact .inl (.inl h)
        · exact .inl (.inr h)
        · exact .inr h
theorem dedup_one {l : List Int} (h : 0 < l.length) : (((dedupI l).length : Int) == 1) = alk l := by
  cases l with
  | nil => cases h
  | cons y r =>
    rw [Bool.eq_iff_iff, beq_iff_eq, alk_iff]
    have hm := dedup_mem (y :: r) []
    constructor
    · intro e x hx
      have h1 : x ∈ dedupI (y :: r) := (hm x).mpr (.inr hx)
      have h2 : y ∈ dedupI (y :: r) := (hm y).mpr (.inr List.mem_cons_self)
      have e' : (dedupI (y :: r)).length = 1 := by omega
      obtain ⟨z, hz⟩ := List.length_eq_one_iff.mp e'
      rw [hz, List.mem_singleton] at h1 h2
      rw [h1, ← h2]
      rfl
    · intro e
      have go : ∀ r : List Int, (∀ x ∈ r, x = y) → r.foldl PyProof.Rows.step_dedup [y] = [y] := by
        intro r
        induction r with
        | nil => intro _; rfl
        | cons z r ih =>
          intro hz
          have := hz z List.mem_cons_self
          subst this
          rw [List.foldl_cons]
          have : PyProof.Rows.step_dedup [z] z = [z] := by simp [PyProof.Rows.step_dedup]
          rw [this]
          exact ih fun x hx => hz x (List.mem_cons_of_mem _ hx)
      have e2 : dedupI (y :: r) = [y] := by
        show r.foldl PyProof.Rows.step_dedup (PyProof.Rows.step_dedup [] y) = [y]
        have : PyProof.Rows.step_dedup [] y = [y] := by simp [PyProof.Rows.step_dedup]
        rw [this]
        exact go r fun x hx => e x (List.mem_cons_of_mem _ hx)
      rw [e2]
      rfl
def rsum (c : List (List Int)) : List Int := c.map List.sum
def csum (c : List (List Int)) (k : Nat) : List Int := (List.range k).map fun i => (col c i).sum
def ev (c : List (List Int)) (k : Nat) : Bool := alk (rsum c) && alk (csum c k)
section
variable {c : List (List Int)} {n k : Nat} (C : Cl c n k)
include C
theorem is_even_ok : m_is_even [dCloth c] = .ok (.bool (ev c k)) := by
  have hcol := columns_ok C
  have hk := C.k16
  have hn := C.n16
  have hk1 := C.k1
  have hn1 := C.n1
  have hl := C.len
  have e1 : cmpR (gtN 2) bYes (eOp1 gSumA (eVar 2)) (wipeE [.im (dCloth c), .un, .un, .un, .un] [2]) (.ok (c.map DM.dRow)) = .ok (.list ((rsum c).map .int)) := by
    rw [comp_list DM.dRow (fun r => .int r.sum) c (by simp only [lim]; omega) fun r hr => ⟨_, rfl, ?_⟩]
    · simp [rsum, Function.comp_def]
    · simp [wipeE, DM.dRow]
  have e2 : ∀ d, cmpR (gtN 4) bYes (eOp1 gSumA (eVar 4)) (wipeE [.im (dCloth c), .im d, .un, .un, .un] [4]) (.ok ((List.range k).map fun i => DM.dRow (col c i))) = .ok (.list ((csum c k).map .int)) := by
    intro d
    rw [comp_list (fun i => DM.dRow (col c i)) (fun i => .int (col c i).sum) (List.range k) (by simp [lim]; omega) fun r hr => ⟨_, rfl, ?_⟩]
    · simp [csum, Function.comp_def]
    · simp [wipeE, DM.dRow]
  have lr : 0 < (rsum c).length := by simp [rsum]; omega
  have lc : 0 < (csum c k).length := by simp [csum]; omega
  simp only [dCloth] at e1 e2 hcol
  rw [run_is_even]
  simp [b_is_even, dCloth, e1, hcol, e2, gMin_l lr, gMax_l lr, gMin_l lc, gMax_l lc, minmax_alk lr, minmax_alk lc, ev]
theorem law_even_ok : m__law_even [dCloth c] = .ok (.bool (ev c k)) := by
  obtain ⟨r0, _, h0, hl0⟩ := C.first
  have hk := C.k16
  have hn := C.n16
  have hk1 := C.k1
  have hn1 := C.n1
  have hl := C.len
  have hr : rng1R (.ok [.int (k : Nat)]) = .ok (rangeD 0 k) := rng1R_nat (by omega)
  have e1 : cmpR (gtN 2) bYes (eOp1 gSumA (eVar 2)) (wipeE [.im (dCloth c), .un, .un, .un, .un] [2]) (.ok (c.map DM.dRow)) = .ok (.list ((rsum c).map .int)) := by
    rw [comp_list DM.dRow (fun r => .int r.sum) c (by simp only [lim]; omega) fun r hr => ⟨_, rfl, ?_⟩]
    · simp [rsum, Function.comp_def]
    · simp [wipeE, DM.dRow]
  have e2 : ∀ d, cmpR (gtN 4) bYes (eOp1 gSumA (eComp [2] (itSeq (eVar 0)) (gtN 2) bYes (eOp2 gIx (eVar 2) (eVar 4)))) (wipeE [.im (dCloth c), .im d, .un, .un, .un] [4]) (.ok (rangeD 0 k)) = .ok (.list ((csum c k).map .int)) := by
    intro d
    rw [comp_range k (fun i => .int (col c i).sum) (by simp only [lim]; omega) fun i hi => ⟨_, rfl, ?_⟩]
    · simp [csum, Function.comp_def]
    · simp [wipeE, dCloth]
      rw [comp_list DM.dRow (fun r => .int (r.getD i 0)) c (by simp only [lim]; omega) fun r hr => ⟨_, rfl, ?_⟩]
      · have e : (c.map fun r => PyData.int (r.getD i 0)) = (col c i).map .int := by simp [col]
        rw [e]
        simp
      · have := ix_int r i (by rw [C.wide r hr]; exact hi)
        simp [wipeE, DM.dRow, this]
  have lr : 0 < (rsum c).length := by simp [rsum]; omega
  have lc : 0 < (csum c k).length := by simp [csum]; omega
  have d1 := gLenSet_l (ns := rsum c) (by simp [rsum]; omega)
  have d2 := gLenSet_l (ns := csum c k) (by simp [csum]; omega)
  simp only [dCloth] at e1 e2
  rw [run__law_even]
  simp [b__law_even, dCloth, e1, h0, hl0, hr, e2, d1, d2, dedup_one lr, dedup_one lc, ev]
end

theorem sum_range_shift (h : Nat → Int) (n : Nat) (e : h 0 = h n) : ((List.range n).map fun r => h (r + 1)).sum = ((List.range n).map h).sum := by
  have h1 : ((List.range (n + 1)).map h).sum = ((List.range n).map h).sum + h n := by
    rw [List.range_succ, List.map_append, List.sum_append]
    simp
  have h2 : ((List.range (n + 1)).map h).sum = h 0 + ((List.range n).map fun r => h (r + 1)).sum := by
    rw [List.range_succ_eq_map, List.map_cons, List.sum_cons, List.map_map]
    rfl
  omega
/-- what stands at a place, going round -/
def gg (b : List Int) (n : Nat) (x : Int) : Int := b.getD (x % (n : Int)).toNat 0
theorem gg_per (b : List Int) (n : Nat) {x y : Int} (h : x % (n : Int) = y % (n : Int)) : gg b n x = gg b n y := by unfold gg; rw [h]
def ff (b : List Int) (n : Nat) (st : Int) (x : Int) : Int := ((List.range n).map fun r : Nat => gg b n (x - (r : Int) * st)).sum
theorem ff_step (b : List Int) (n : Nat) (st x : Int) : ff b n st (x - st) = ff b n st x := by
  unfold ff
  have := sum_range_shift (fun r => gg b n (x - (r : Int) * st)) n (gg_per b n (by
    show (x - ((0 : Nat) : Int) * st) % (n : Int) = (x - (n : Int) * st) % (n : Int)
    rw [Int.sub_mul_emod_self_left]
    simp))
  rw [← this]
  congr 1
  refine List.map_congr_left fun r _ => ?_
  show gg b n _ = gg b n _
  congr 1
  rw [Int.natCast_add, Int.add_mul]
  omega
theorem ff_steps (b : List Int) (n : Nat) (st x : Int) : ∀ u : Nat, ff b n st (x - (u : Int) * st) = ff b n st x
  | 0 => by simp
  | u + 1 => by
    rw [← ff_steps b n st x u, ← ff_step b n st (x - (u : Int) * st)]
    congr 1
    rw [Int.natCast_add, Int.add_mul]
    omega
theorem ff_per (b : List Int) (n : Nat) (st : Int) {x y : Int} (h : x % (n : Int) = y % (n : Int)) : ff b n st x = ff b n st y := by
  unfold ff
  congr 1
  exact List.map_congr_left fun r _ => gg_per b n (by rw [Int.sub_emod, h, ← Int.sub_emod])
theorem ff_const (b : List Int) (n : Nat) (st : Int) (u : Nat) (hu : ((u : Int) * st) % (n : Int) = 1 % (n : Int)) (x : Int) : ff b n st (x - 1) = ff b n st x := by
  rw [← ff_steps b n st x u]
  exact ff_per b n st (by rw [Int.sub_emod, ← hu, ← Int.sub_emod])
theorem ff_all (b : List Int) (n : Nat) (st : Int) (u : Nat) (hu : ((u : Int) * st) % (n : Int) = 1 % (n : Int)) : ∀ i : Nat, ff b n st (i : Int) = ff b n st 0
  | 0 => rfl
  | i + 1 => by
    rw [← ff_all b n st u hu i, ← ff_const b n st u hu ((i + 1 : Nat) : Int)]
    congr 1
    omega
theorem gg_row (b : List Int) (n : Nat) (hb : b.length = n) (h0 : 0 < n) (a : Int) : ((List.range n).map fun c : Nat => gg b n ((c : Int) - a)).sum = b.sum := by
  have base : ((List.range n).map fun c : Nat => gg b n (c : Int)) = b := by
    apply List.ext_getElem?
    intro j
    by_cases hj : j < n
    · rw [List.getElem?_map, List.getElem?_range hj, List.getElem?_eq_getElem (by omega)]
      show some (b.getD (((j : Nat) : Int) % (n : Int)).toNat 0) = _
      rw [Int.emod_eq_of_lt (by omega) (by omega), Int.toNat_natCast, List.getD_eq_getElem?_getD, List.getElem?_eq_getElem (by omega)]
      rfl
    · rw [List.getElem?_eq_none (by simpa using hj), List.getElem?_eq_none (by omega)]
  -- a step to the right changes nothing
  have st1 : ∀ x : Int, ((List.range n).map fun c : Nat => gg b n ((c : Int) + (x + 1))).sum = ((List.range n).map fun c : Nat => gg b n ((c : Int) + x)).sum := fun x => by
    rw [← sum_range_shift (fun c => gg b n ((c : Int) + x)) n (gg_per b n (by
      show (((0 : Nat) : Int) + x) % (n : Int) = ((n : Int) + x) % (n : Int)
      rw [Int.add_comm (n : Int) x, Int.add_emod_right]
      simp))]
    congr 1
    refine List.map_congr_left fun r _ => ?_
    show gg b n _ = gg b n _
    congr 1
    omega
  have up : ∀ u : Nat, ((List.range n).map fun c : Nat => gg b n ((c : Int) + (u : Int))).sum = b.sum := by
    intro u
    induction u with
    | zero =>
      have : (fun c : Nat => gg b n ((c : Int) + ((0 : Nat) : Int))) = fun c : Nat => gg b n (c : Int) := by funext c; congr 1
      rw [this, base]
    | succ u ih =>
      have := st1 (u : Int)
      rw [← ih, ← this]
      congr 1
  have hs : 0 ≤ (-a) % (n : Int) := Int.emod_nonneg _ (by omega)
  obtain ⟨s, es⟩ : ∃ s : Nat, (-a) % (n : Int) = s := ⟨_, (Int.toNat_of_nonneg hs).symm⟩
  rw [← up s]
  congr 1
  refine List.map_congr_left fun c _ => gg_per b n ?_
  rw [← es, Int.add_emod_emod, Int.sub_eq_add_neg]

def unit (n : Nat) : List Int := 1 :: List.replicate (n - 1) 0
theorem twc_gg (b : List Int) (n st r c : Nat) : twc b n st r c = gg b n ((c : Int) - (r : Int) * (st : Int)) := rfl
theorem rsum_tw (b : List Int) (n st : Nat) (hb : b.length = n) (hn : 0 < n) : rsum (tw b n st) = List.replicate n b.sum := by
  unfold rsum tw
  rw [List.map_map]
  refine List.eq_replicate_iff.mpr ⟨by simp, fun x hx => ?_⟩
  obtain ⟨r, _, rfl⟩ := List.mem_map.mp hx
  exact gg_row b n hb hn ((r : Int) * (st : Int))
theorem csum_tw (b : List Int) (n st : Nat) : csum (tw b n st) n = (List.range n).map fun i : Nat => ff b n (st : Int) (i : Int) := by
  unfold csum
  refine List.map_congr_left fun i hi => ?_
  have hi' : i < n := List.mem_range.mp hi
  unfold ff col tw
  rw [List.map_map]
  congr 1
  refine List.map_congr_left fun r _ => ?_
  show ((List.range n).map fun c => twc b n st r c).getD i 0 = _
  rw [List.getD_eq_getElem?_getD, List.getElem?_map, List.getElem?_range hi']
  rfl
theorem alk_rep (n : Nat) (x : Int) : alk (List.replicate n x) = true := by
  rw [alk_iff]
  intro y hy
  have := List.eq_of_mem_replicate hy
  subst this
  cases n with
  | zero => cases hy
  | succ n => rfl
def boths (n st : Nat) : List Int := ((List.range 15).filter fun i => ((n : Int) % ((2 + i : Nat) : Int) == 0) && ((st : Int) % ((2 + i : Nat) : Int) == 0)).map fun i => ((2 + i : Nat) : Int)
def bothN (n st : Nat) : Bool := (List.range 15).all fun i => !(n % (2 + i) == 0 && st % (2 + i) == 0)
theorem boths_nil (n st : Nat) : boths n st = [] ↔ bothN n st = true := by
  unfold boths bothN
  rw [List.map_eq_nil_iff, List.filter_eq_nil_iff, List.all_eq_true]
  refine forall_congr' fun i => forall_congr' fun _ => ?_
  have e : ∀ x : Nat, ((x : Int) % ((2 + i : Nat) : Int) == 0) = (x % (2 + i) == 0) := fun x => by
    rw [Bool.eq_iff_iff, beq_iff_eq, beq_iff_eq]
    omega
  rw [e, e]
  simp
  exact Decidable.imp_iff_not_or
theorem unitary : ∀ n, n < 17 → ∀ st, st < 16 → 1 ≤ n → bothN n st = true → ∃ u, u < 16 ∧ (u * st) % n = 1 % n := by decide +kernel
theorem even_cop (b : List Int) (n st : Nat) (hb : b.length = n) (hn : 1 ≤ n ∧ n ≤ 16) (hs : st < 16) (h : boths n st = []) : ev (tw b n st) n = true := by
  obtain ⟨u, _, hu⟩ := unitary n (by omega) st hs hn.1 ((boths_nil n st).mp h)
  have hu' : ((u : Int) * (st : Int)) % (n : Int) = 1 % (n : Int) := by exact_mod_cast hu
  unfold ev
  rw [rsum_tw b n st hb (by omega), alk_rep, csum_tw, Bool.true_and]
  have e : ((List.range n).map fun i : Nat => ff b n (st : Int) (i : Int)) = List.replicate n (ff b n st 0) := by
    refine List.eq_replicate_iff.mpr ⟨by simp, fun x hx => ?_⟩
    obtain ⟨i, _, rfl⟩ := List.mem_map.mp hx
    exact ff_all b n st u hu' i
  rw [e, alk_rep]
theorem unit_len (n : Nat) (h : 1 ≤ n) : (unit n).length = n := by simp [unit]; omega
theorem unit_sum (n : Nat) : (unit n).sum = 1 := by simp [unit]
theorem unit_bit (n : Nat) : ∀ x ∈ unit n, Bit x := by
  intro x hx
  rcases List.mem_cons.mp hx with rfl | hx
  · exact .inr rfl
  · exact .inl (List.eq_of_mem_replicate hx)
theorem gg_unit (n : Nat) (hn : 1 ≤ n) (x : Int) : gg (unit n) n x = if x % (n : Int) = 0 then 1 else 0 := by
  unfold gg
  have h0 : 0 ≤ x % (n : Int) := Int.emod_nonneg _ (by omega)
  have h1 : x % (n : Int) < n := Int.emod_lt_of_pos _ (by omega)
  split
  · rename_i h
    rw [h]
    rfl
  · rename_i h
    obtain ⟨j, hj⟩ : ∃ j : Nat, (x % (n : Int)).toNat = j + 1 := ⟨(x % (n : Int)).toNat - 1, by omega⟩
    rw [hj]
    show (List.replicate (n - 1) (0 : Int)).getD j 0 = 0
    rw [List.getD_eq_getElem?_getD, List.getElem?_replicate]
    split <;> rfl
theorem sum_nonneg {l : List Int} (h : ∀ x ∈ l, 0 ≤ x) : 0 ≤ l.sum := by
  induction l with
  | nil => simp
  | cons x r ih =>
    rw [List.sum_cons]
    have := h x List.mem_cons_self
    have := ih fun y hy => h y (List.mem_cons_of_mem _ hy)
    omega
theorem even_unit (n st : Nat) (hn : 1 ≤ n ∧ n ≤ 16) (hs : st < 16) : ev (tw (unit n) n st) n = decide (boths n st = []) := by
  by_cases h : boths n st = []
  · rw [even_cop (unit n) n st (unit_len n hn.1) hn hs h, decide_eq_true h]
  · rw [decide_eq_false h]
    -- a number above 1 that divides both
    have hb : ¬ bothN n st = true := fun z => h ((boths_nil n st).mpr z)
    have : ∃ k, 2 ≤ k ∧ n % k = 0 ∧ st % k = 0 := by
      apply Classical.byContradiction
      intro no
      apply hb
      unfold bothN
      rw [List.all_eq_true]
      intro i _
      cases q : (n % (2 + i) == 0 && st % (2 + i) == 0) with
      | false => rfl
      | true =>
        obtain ⟨q1, q2⟩ := Bool.and_eq_true_iff.mp q
        exact absurd ⟨2 + i, by omega, eq_of_beq q1, eq_of_beq q2⟩ no
    obtain ⟨k, hk, hkn, hks⟩ := this
    have hn2 : 2 ≤ n := by
      rcases Nat.lt_or_ge n 2 with z | z
      · have : n = 1 := by omega
        subst this
        rw [Nat.mod_eq_of_lt (by omega)] at hkn
        omega
      · exact z
    have c1 : ff (unit n) n st ((1 : Nat) : Int) = 0 := by
      unfold ff
      have e : ((List.range n).map fun r : Nat => gg (unit n) n (((1 : Nat) : Int) - (r : Int) * (st : Int))) = List.replicate n 0 := by
        refine List.eq_replicate_iff.mpr ⟨by simp, fun x hx => ?_⟩
        obtain ⟨r, _, rfl⟩ := List.mem_map.mp hx
        rw [gg_unit n hn.1, if_neg]
        intro z
        have d1 : (k : Int) ∣ (n : Int) := Int.natCast_dvd_natCast.mpr (Nat.dvd_of_mod_eq_zero hkn)
        have d2 : (k : Int) ∣ (st : Int) := Int.natCast_dvd_natCast.mpr (Nat.dvd_of_mod_eq_zero hks)
        have d3 : (n : Int) ∣ ((1 : Nat) : Int) - (r : Int) * (st : Int) := Int.dvd_of_emod_eq_zero z
        have d4 : (k : Int) ∣ ((1 : Nat) : Int) - (r : Int) * (st : Int) := Int.dvd_trans d1 d3
        have d5 : (k : Int) ∣ (r : Int) * (st : Int) := Int.dvd_trans d2 (Int.dvd_mul_left _ _)
        have d6 : (k : Int) ∣ ((1 : Nat) : Int) := by
          have := Int.dvd_add d4 d5
          rwa [Int.sub_add_cancel] at this
        have := Nat.le_of_dvd (by decide) (Int.natCast_dvd_natCast.mp d6)
        omega
      rw [e]
      simp
    have c0 : 0 < ff (unit n) n st ((0 : Nat) : Int) := by
      unfold ff
      obtain ⟨m, rfl⟩ : ∃ m, n = m + 1 := ⟨n - 1, by omega⟩
      rw [List.range_succ_eq_map, List.map_cons, List.sum_cons, gg_unit _ hn.1, if_pos (by simp)]
      have : 0 ≤ (((List.range m).map Nat.succ).map fun r : Nat => gg (unit (m + 1)) (m + 1) (((0 : Nat) : Int) - (r : Int) * (st : Int))).sum := sum_nonneg fun x hx => by
        obtain ⟨r, _, rfl⟩ := List.mem_map.mp hx
        rw [gg_unit _ hn.1]
        split <;> decide
      omega
    unfold ev
    rw [csum_tw]
    cases q : alk ((List.range n).map fun i : Nat => ff (unit n) n (st : Int) (i : Int)) with
    | false => exact Bool.and_false _
    | true =>
      exfalso
      rw [alk_iff] at q
      have m0 := q _ (List.mem_map.mpr ⟨0, List.mem_range.mpr (by omega), rfl⟩)
      have m1 := q _ (List.mem_map.mpr ⟨1, List.mem_range.mpr (by omega), rfl⟩)
      rw [c1] at m1
      rw [← m1] at m0
      omega

theorem bits_lem (ns : List Int) (n : Nat) (hn : n ≤ 16) (x2 : Sl) : ∃ b : List Int, b.length = n ∧ (∀ x ∈ b, Bit x) ∧
    cmpR (gtN 4) bYes (eCall m__law_mix (aCons (eOp2 gAdd (eCall m__law_cell (aCons (eVar 0) (aCons (eOp2 gAdd (eK (.int 2)) (eVar 4)) aNil))) (eOp2 gMul (eOp2 gMul (eK (.int 7)) (eVar 4)) (eVar 4))) (aCons (eK (.int 9949)) (aCons (eK (.int 2)) aNil))))
      (wipeE [.im (scrD ns), .im (.int n), x2, .un, .un, .un, .un, .un, .un, .un, .un, .un, .un] [4]) (.ok (rangeD 0 n)) = .ok (.list (b.map .int)) := by
  refine ⟨(List.range n).map fun k : Nat => mix (cell ns (2 + (k : Int)) + 7 * (k : Int) * (k : Int)) 9949 2, by simp, fun x hx => ?_, ?_⟩
  · obtain ⟨k, _, rfl⟩ := List.mem_map.mp hx
    exact bit_mix _ _
  · rw [comp_range n (fun k => .int (mix (cell ns (2 + (k : Int)) + 7 * (k : Int) * (k : Int)) 9949 2)) (by simp only [lim]; omega) fun k hk => ⟨_, rfl, ?_⟩]
    · simp [Function.comp_def]
    · have h7 := gMul_l (i := 7) (j := (k : Int)) (by decide)
      have hk2 := gMul_l (i := 7 * (k : Int)) (j := (k : Int)) (smallI_of (by omega))
      have hc := cell_ok ns (2 + (k : Int)) (by omega)
      simp [wipeE, h7, hk2, hc, mix_ok]
theorem satin_ok (n st : Nat) (hn : 1 ≤ n ∧ n ≤ 16) (hs : st < 16) : m_satin [.int (n : Nat), .int (st : Nat)] = .ok (dCloth (tw (unit n) n st)) := by
  have t := twill_ok (unit n) n st (unit_len n hn.1) hn hs
  have e : gRep (.list [.int 0]) (.int ((n : Int) - 1)) = some (.list (List.replicate (n - 1) (.int 0))) := by
    rw [show (n : Int) - 1 = ((n - 1 : Nat) : Int) by omega]
    exact gRep_one (by simp only [lim]; omega)
  have e3 := gAdd_lst (xs := [.int 1]) (ys := List.replicate (n - 1) (.int 0)) (by simp [lim]; omega)
  have e4 : (unit n).map PyData.int = [.int 1] ++ List.replicate (n - 1) (.int 0) := by simp [unit]
  rw [e4] at t
  rw [run_satin]
  simp [b_satin, e]
  simp at e3 t
  simp [e3, t]
theorem loop_lem (ns : List Int) (b kept : List PyData) (n st : Nat) (hn : 1 ≤ n ∧ n ≤ 16) (hs : st < 16) (bb : List Int) (hb : bb.length = n) (hB : ∀ x ∈ bb, Bit x) :
    ∃ y7 y8, forGo (gtN 7) l2_law (rangeD 0 n) [.im (scrD ns), .im (.int (n : Nat)), .im (.int (st : Nat)), .im (.list b), .un, .im (.list kept), .im (dCloth (tw bb n st)), .un, .un, .un, .un, .un, .un]
      = .nx [.im (scrD ns), .im (.int (n : Nat)), .im (.int (st : Nat)), .im (.list b), .un, .im (.list kept), .im (dCloth (tw bb n st)), y7, y8, .un, .un, .un, .un] := by
  have C := tw_cl bb n st hb hn hB
  have hm : ∀ i, gMod (.int i) (.int (n : Nat)) = some (.int (i % n)) := fun i => gMod_pos (by omega)
  have hr : rng1R (.ok [.int (n : Nat)]) = .ok (rangeD 0 n) := rng1R_nat (by omega)
  have at_ : ∀ r c, r < n → c < n → ∃ row : List Int, ((tw bb n st).map DM.dRow)[r]? = some (.tuple (row.map .int)) ∧ (row.map PyData.int)[c]? = some (.int (twc bb n st r c)) := fun r c hr0 hc0 => by
    obtain ⟨row, h1, h2⟩ := C.at (j := r) (i := c) hr0 hc0
    refine ⟨row, h1, h2.trans ?_⟩
    congr 2
    unfold cat tw
    rw [List.getD_eq_getElem?_getD, List.getD_eq_getElem?_getD, List.getElem?_map, List.getElem?_range hr0]
    show ((List.map _ _)[c]?).getD 0 = _
    rw [List.getElem?_map, List.getElem?_range hc0]
    rfl
  obtain ⟨ρ, h1, y7, y8, rfl⟩ := for_rangeN (i := 7) (g := l2_law) (fun j ρ => ∃ y7 y8, ρ = [.im (scrD ns), .im (.int (n : Nat)), .im (.int (st : Nat)), .im (.list b), .un, .im (.list kept), .im (dCloth (tw bb n st)), y7, y8, .un, .un, .un, .un]) n [.im (scrD ns), .im (.int (n : Nat)), .im (.int (st : Nat)), .im (.list b), .un, .im (.list kept), .im (dCloth (tw bb n st)), .un, .un, .un, .un, .un, .un] ⟨_, _, rfl⟩ (fun r ρ hr0 hp => by
    obtain ⟨y7, y8, rfl⟩ := hp
    obtain ⟨ρ2, g1, z8, rfl⟩ := for_rangeN (i := 8) (g := l1_law) (fun j ρ => ∃ y8, ρ = [.im (scrD ns), .im (.int (n : Nat)), .im (.int (st : Nat)), .im (.list b), .un, .im (.list kept), .im (dCloth (tw bb n st)), .im (.int (r : Nat)), y8, .un, .un, .un, .un]) n [.im (scrD ns), .im (.int (n : Nat)), .im (.int (st : Nat)), .im (.list b), .un, .im (.list kept), .im (dCloth (tw bb n st)), .im (.int (r : Nat)), y8, .un, .un, .un, .un] ⟨_, rfl⟩ (fun c ρ hc0 hp => by
      obtain ⟨y8, rfl⟩ := hp
      refine ⟨[.im (scrD ns), .im (.int (n : Nat)), .im (.int (st : Nat)), .im (.list b), .un, .im (.list kept), .im (dCloth (tw bb n st)), .im (.int (r : Nat)), .im (.int (c : Nat)), .un, .un, .un, .un], ?_, _, rfl⟩
      obtain ⟨r', er⟩ : ∃ r', r' = (r + 1) % n := ⟨_, rfl⟩
      obtain ⟨c', ec⟩ : ∃ c', c' = (c + st) % n := ⟨_, rfl⟩
      have e1 : ((r : Int) + 1) % (n : Int) = (r' : Int) := by rw [er, Int.natCast_emod, Int.natCast_add]; rfl
      have e2 : ((c : Int) + (st : Int)) % (n : Int) = (c' : Int) := by rw [ec, Int.natCast_emod, Int.natCast_add]
      obtain ⟨ra, a1, a2⟩ := at_ r' c' (er ▸ Nat.mod_lt _ (by omega)) (ec ▸ Nat.mod_lt _ (by omega))
      obtain ⟨rb, b1, b2⟩ := at_ r c hr0 hc0
      by_cases hlt : r + 1 < n
      · have e : twc bb n st r' c' = twc bb n st r c := by
          rw [er, Nat.mod_eq_of_lt hlt, twc_gg, twc_gg]
          refine gg_per bb n ?_
          rw [← e2, Int.emod_sub_emod]
          congr 1
          rw [Int.natCast_add, Int.add_mul]
          omega
        simp [l1_law, dCloth, hm, e1, e2, a1, a2, b1, b2, e]
      · have hlt' : ¬ (r : Int) + 1 < n := by omega
        cases q : (twc bb n st r' c' == twc bb n st r c) <;> simp [l1_law, dCloth, hm, e1, e2, a1, a2, b1, b2, q, hlt'])
    exact ⟨[.im (scrD ns), .im (.int (n : Nat)), .im (.int (st : Nat)), .im (.list b), .un, .im (.list kept), .im (dCloth (tw bb n st)), .im (.int (r : Nat)), z8, .un, .un, .un, .un], by simp [l2_law, hr, g1], _, _, rfl⟩)
  exact ⟨y7, y8, h1⟩
theorem tw_row0 (b : List Int) (n st : Nat) (hb : b.length = n) (hn : 1 ≤ n) : ((tw b n st).map DM.dRow)[0]? = some (DM.dRow b) := by
  have e : (List.range n).map (fun c => twc b n st 0 c) = b := by
    apply List.ext_getElem?
    intro j
    by_cases hj : j < n
    · rw [List.getElem?_map, List.getElem?_range hj, List.getElem?_eq_getElem (by omega)]
      have e : ((j : Int) - ((0 : Nat) : Int) * (st : Int)) % (n : Int) = j := by
        rw [show (j : Int) - ((0 : Nat) : Int) * (st : Int) = j by simp]
        exact Int.emod_eq_of_lt (by omega) (by omega)
      have : twc b n st 0 j = b[j] := by
        unfold twc
        rw [e, Int.toNat_natCast, List.getD_eq_getElem?_getD, List.getElem?_eq_getElem (by omega)]
        rfl
      exact congrArg some this
    · rw [List.getElem?_eq_none (by simpa using hj), List.getElem?_eq_none (by omega)]
  rw [List.getElem?_map]
  unfold tw
  rw [List.getElem?_map, List.getElem?_range (by omega)]
  exact congrArg (fun x => some (DM.dRow x)) e
theorem boths_lem (n st : Nat) (x0 x3 x5 x6 x7 x8 x9 x10 x11 x12 : Sl) : cmpR (gtN 4) (fAnd (bCmp cEq (eOp2 gMod (eVar 1) (eVar 4)) (eK (.int 0))) (bCmp cEq (eOp2 gMod (eVar 2) (eVar 4)) (eK (.int 0)))) (eVar 4)
      (wipeE [x0, .im (.int (n : Nat)), .im (.int (st : Nat)), x3, .un, x5, x6, x7, x8, x9, x10, x11, x12] [4]) (.ok ((List.range 15).map fun i : Nat => PyData.int (2 + (i : Int)))) = .ok (.list ((boths n st).map .int)) := by
  rw [show ((List.range 15).map fun i : Nat => PyData.int (2 + (i : Int))) = (List.range 15).map fun i => PyData.int ((2 + i : Nat) : Int) from List.map_congr_left fun i _ => by rw [Int.natCast_add]; rfl]
  rw [comp_filter (fun i => ((n : Int) % ((2 + i : Nat) : Int) == 0) && ((st : Int) % ((2 + i : Nat) : Int) == 0)) (fun i => PyData.int ((2 + i : Nat) : Int)) (fun i => PyData.int ((2 + i : Nat) : Int)) (List.range 15) (by simp [lim]) fun i hi => ⟨_, rfl, ?_, fun _ => ?_⟩]
  · simp [boths, Function.comp_def]
  · have h1 : ∀ x, gMod (.int x) (.int (2 + (i : Int))) = some (.int (x % (2 + (i : Int)))) := fun x => gMod_pos (by omega)
    simp [wipeE, h1]
  · simp [wipeE]
theorem law_true (ns : List Int) (h : ns.length ≤ 63) : m_law [scrD ns] = .ok (.bool true) := by
  have c0 := cell_ok ns 0 (by decide)
  have c1 := cell_ok ns 1 (by decide)
  have m16 : ∀ i, gMod (.int i) (.int 16) = some (.int (i % 16)) := fun i => gMod_pos (by decide)
  have h0 : 0 ≤ cell ns 0 % 16 ∧ cell ns 0 % 16 < 16 := ⟨Int.emod_nonneg _ (by decide), Int.emod_lt_of_pos _ (by decide)⟩
  have h1 : 0 ≤ cell ns 1 % 16 ∧ cell ns 1 % 16 < 16 := ⟨Int.emod_nonneg _ (by decide), Int.emod_lt_of_pos _ (by decide)⟩
  obtain ⟨n, en⟩ : ∃ n : Nat, 1 + cell ns 0 % 16 = n := ⟨(1 + cell ns 0 % 16).toNat, by omega⟩
  obtain ⟨st, es⟩ : ∃ n : Nat, cell ns 1 % 16 = n := ⟨(cell ns 1 % 16).toNat, by omega⟩
  have hn : 1 ≤ n ∧ n ≤ 16 := by omega
  have hs : st < 16 := by omega
  have hr : rng1R (.ok [.int (n : Nat)]) = .ok (rangeD 0 n) := rng1R_nat (by omega)
  have hr2 : rng2R (.ok [.int 2, .int 17]) = .ok ((List.range 15).map fun i : Nat => PyData.int (2 + (i : Int))) := rng2R_nat (i := 2) (j := 17) (by decide) (by decide)
  obtain ⟨b, hb, hB, eb⟩ := bits_lem ns n hn.2 (.im (.int (st : Nat)))
  have t1 := twill_ok b n st hb hn hs
  have C := tw_cl b n st hb hn hB
  have C1 := tw_cl (unit n) n st (unit_len n hn.1) hn (unit_bit n)
  obtain ⟨y7, y8, lp⟩ := loop_lem ns (b.map .int) (b.map .int) n st hn hs b hb hB
  have t2 := satin_ok n st hn hs
  have t3 := twill_ok (unit n) n st (unit_len n hn.1) hn hs
  have gr0 : gRep (.list [.int 0]) (.int ((n : Int) - 1)) = some (.list (List.replicate (n - 1) (.int 0))) := by
    rw [show (n : Int) - 1 = ((n - 1 : Nat) : Int) by omega]
    exact gRep_one (by simp only [lim]; omega)
  have gr1 : gRep (.list [.int 1]) (.int (n : Int)) = some (.list (List.replicate n (.int 1))) := gRep_one (by simp only [lim]; omega)
  have ga := gAdd_lst (xs := [.int 1]) (ys := List.replicate (n - 1) (.int 0)) (by simp [lim]; omega)
  have e4 : (unit n).map PyData.int = [.int 1] ++ List.replicate (n - 1) (.int 0) := by simp [unit]
  rw [e4] at t3
  have ie1 := is_even_ok C1
  have ie2 := is_even_ok C
  have le1 := law_even_ok C1
  have le2 := law_even_ok C
  rw [even_unit n st hn hs] at ie1 le1
  have g0 : gIx (dCloth (tw b n st)) (.int 0) = some (DM.dRow b) := by
    rw [dCloth, gIx_t, atI_0]
    exact tw_row0 b n st hb hn.1
  have k1 : cNe (DM.dRow b) (.tuple (b.map .int)) = some false := by
    have := cNe_dRow b b
    rw [decide_eq_true rfl] at this
    exact this
  have k2 : cNe (.list (b.map .int)) (.list (b.map .int)) = some false := by simp [cNe_ints]
  have k3 : cNe (dCloth (tw (unit n) n st)) (dCloth (tw (unit n) n st)) = some false := by simp [cNe_dCloth]
  have e9 : ∀ x0 x1 x2 x3 x4 x5 x6 x7 x8 x9 x11 x12 : Sl, cmpR (gtN 10) bYes (eOp1 gSumA (eVar 10)) (wipeE [x0, x1, x2, x3, x4, x5, x6, x7, x8, x9, .un, x11, x12] [10]) (.ok ((tw (unit n) n st).map DM.dRow)) = .ok (.list (List.replicate n (.int 1))) := by
    intro x0 x1 x2 x3 x4 x5 x6 x7 x8 x9 x11 x12
    rw [comp_list DM.dRow (fun r => .int r.sum) (tw (unit n) n st) (by simp only [lim]; rw [C1.len]; omega) fun r hr => ⟨_, rfl, ?_⟩]
    · have : (tw (unit n) n st).map (fun r => PyData.int r.sum) = (rsum (tw (unit n) n st)).map .int := by simp [rsum, Function.comp_def]
      rw [this, rsum_tw (unit n) n st (unit_len n hn.1) (by omega), unit_sum]
      simp
    · simp [wipeE, DM.dRow]
  have k4 : cNe (.list (List.replicate n (.int 1))) (.list (List.replicate n (.int 1))) = some false := by
    have := cNe_ints (List.replicate n 1) (List.replicate n 1)
    simpa using this
  have k5 : cEq (.list ((boths n st).map .int)) (.list []) = some (decide (boths n st = [])) := cEq_ints (boths n st) []
  have k6 : cNe (.list ((boths n st).map .int)) (.list []) = some (!decide (boths n st = [])) := cNe_ints (boths n st) []
  have ev2 : boths n st = [] → ev (tw b n st) n = true := even_cop b n st hb hn hs
  rw [run_law]
  simp at ga t3
  simp [b_law, c0, c1, m16, en, es, hr, eb, t1, C.len, hb, g0, k1, k2, lp, t2, gr0, ga, t3, k3, C1.len, e9, gr1, k4, hr2, boths_lem, ie1, ie2, le1, le2, k5, k6]
  by_cases hh : boths n st = []
  · simp [hh, ev2 hh]
  · simp [hh]
theorem all_mk {l : PySem.W.OpenLaw} {w : World} {K : PySem.W.Frag} {h : Heap} {mg : Str → Option Value} (X : K.In h) (G : h.Ns mainGlobals mg) {fa : Addr} (hfa : mg "law" = some (.ref fa))
    {f0 : Addr} {od0 an0 : Option Addr} {sl0 : Array (Option Value)} {oc0 kV0 dc0 pm0 cd0 ct0 : Value} (a0 : PySem.W.nsIn K mainGlobals "columns" = some (some (.ref f0))) (l0 : K.lookup f0 = some ⟨oc0, od0, .func (PySem.W.fnOf "columns" "columns" (defArgs s_columns) (defBody s_columns) (defScope s_columns) .none kV0 dc0 pm0 an0 cd0 ct0), sl0⟩) (c0 : PySem.W.codeIn K cd0 "columns" = true) (k0 : PySem.W.keepIn K (.ref f0) = true)
    {f1 : Addr} {od1 an1 : Option Addr} {sl1 : Array (Option Value)} {oc1 kV1 dc1 pm1 cd1 ct1 : Value} (a1 : PySem.W.nsIn K mainGlobals "twill" = some (some (.ref f1))) (l1 : K.lookup f1 = some ⟨oc1, od1, .func (PySem.W.fnOf "twill" "twill" (defArgs s_twill) (defBody s_twill) (defScope s_twill) .none kV1 dc1 pm1 an1 cd1 ct1), sl1⟩) (c1 : PySem.W.codeIn K cd1 "twill" = true) (k1 : PySem.W.keepIn K (.ref f1) = true)
    {f2 : Addr} {od2 an2 : Option Addr} {sl2 : Array (Option Value)} {oc2 kV2 dc2 pm2 cd2 ct2 : Value} (a2 : PySem.W.nsIn K mainGlobals "satin" = some (some (.ref f2))) (l2 : K.lookup f2 = some ⟨oc2, od2, .func (PySem.W.fnOf "satin" "satin" (defArgs s_satin) (defBody s_satin) (defScope s_satin) .none kV2 dc2 pm2 an2 cd2 ct2), sl2⟩) (c2 : PySem.W.codeIn K cd2 "satin" = true) (k2 : PySem.W.keepIn K (.ref f2) = true)
    {f3 : Addr} {od3 an3 : Option Addr} {sl3 : Array (Option Value)} {oc3 kV3 dc3 pm3 cd3 ct3 : Value} (a3 : PySem.W.nsIn K mainGlobals "is_even" = some (some (.ref f3))) (l3 : K.lookup f3 = some ⟨oc3, od3, .func (PySem.W.fnOf "is_even" "is_even" (defArgs s_is_even) (defBody s_is_even) (defScope s_is_even) .none kV3 dc3 pm3 an3 cd3 ct3), sl3⟩) (c3 : PySem.W.codeIn K cd3 "is_even" = true) (k3 : PySem.W.keepIn K (.ref f3) = true)
    {f4 : Addr} {od4 an4 : Option Addr} {sl4 : Array (Option Value)} {oc4 kV4 dc4 pm4 cd4 ct4 : Value} (a4 : PySem.W.nsIn K mainGlobals "_law_cell" = some (some (.ref f4))) (l4 : K.lookup f4 = some ⟨oc4, od4, .func (PySem.W.fnOf "_law_cell" "_law_cell" (defArgs s__law_cell) (defBody s__law_cell) (defScope s__law_cell) .none kV4 dc4 pm4 an4 cd4 ct4), sl4⟩) (c4 : PySem.W.codeIn K cd4 "_law_cell" = true) (k4 : PySem.W.keepIn K (.ref f4) = true)
    {f5 : Addr} {od5 an5 : Option Addr} {sl5 : Array (Option Value)} {oc5 kV5 dc5 pm5 cd5 ct5 : Value} (a5 : PySem.W.nsIn K mainGlobals "_law_mix" = some (some (.ref f5))) (l5 : K.lookup f5 = some ⟨oc5, od5, .func (PySem.W.fnOf "_law_mix" "_law_mix" (defArgs s__law_mix) (defBody s__law_mix) (defScope s__law_mix) .none kV5 dc5 pm5 an5 cd5 ct5), sl5⟩) (c5 : PySem.W.codeIn K cd5 "_law_mix" = true) (k5 : PySem.W.keepIn K (.ref f5) = true)
    {f6 : Addr} {od6 an6 : Option Addr} {sl6 : Array (Option Value)} {oc6 kV6 dc6 pm6 cd6 ct6 : Value} (a6 : PySem.W.nsIn K mainGlobals "_law_even" = some (some (.ref f6))) (l6 : K.lookup f6 = some ⟨oc6, od6, .func (PySem.W.fnOf "_law_even" "_law_even" (defArgs s__law_even) (defBody s__law_even) (defScope s__law_even) .none kV6 dc6 pm6 an6 cd6 ct6), sl6⟩) (c6 : PySem.W.codeIn K cd6 "_law_even" = true) (k6 : PySem.W.keepIn K (.ref f6) = true)
    {f7 : Addr} {od7 an7 : Option Addr} {sl7 : Array (Option Value)} {oc7 kV7 dc7 pm7 cd7 ct7 : Value} (a7 : PySem.W.nsIn K mainGlobals "law" = some (some (.ref f7))) (l7 : K.lookup f7 = some ⟨oc7, od7, .func (PySem.W.fnOf "law" "law" (defArgs s_law) (defBody s_law) (defScope s_law) .none kV7 dc7 pm7 an7 cd7 ct7), sl7⟩) (c7 : PySem.W.codeIn K cd7 "law" = true) (k7 : PySem.W.keepIn K (.ref f7) = true)
    (z_range : PySem.W.nsIn K mainGlobals "range" = some none)
    (z_len : PySem.W.nsIn K mainGlobals "len" = some none)
    (z_tuple : PySem.W.nsIn K mainGlobals "tuple" = some none)
    (z_sum : PySem.W.nsIn K mainGlobals "sum" = some none)
    (z_min : PySem.W.nsIn K mainGlobals "min" = some none)
    (z_max : PySem.W.nsIn K mainGlobals "max" = some none)
    (z_set : PySem.W.nsIn K mainGlobals "set" = some none)
    (z_list : PySem.W.nsIn K mainGlobals "list" = some none)
    (z_isinstance : PySem.W.nsIn K mainGlobals "isinstance" = some none)
    (z_bool : PySem.W.nsIn K mainGlobals "bool" = some none)
    : ∃ fd : FuncData, (∀ (s : Shared) (v : Value), BindsTo s fd ⟨[v], []⟩ [("_law_script", v)]) ∧ ∀ base : Heap, K.In base → base.Ns mainGlobals mg → FnOk l.prog w K mg base (L2.CX l.prog w) 3 fa fd ["_law_script"] (spLaw K) := by
  have m_range := PySem.W.mg_none_of X G z_range
  have m_len := PySem.W.mg_none_of X G z_len
  have m_tuple := PySem.W.mg_none_of X G z_tuple
  have m_sum := PySem.W.mg_none_of X G z_sum
  have m_min := PySem.W.mg_none_of X G z_min
  have m_max := PySem.W.mg_none_of X G z_max
  have m_set := PySem.W.mg_none_of X G z_set
  have m_list := PySem.W.mg_none_of X G z_list
  have m_isinstance := PySem.W.mg_none_of X G z_isinstance
  have m_bool := PySem.W.mg_none_of X G z_bool
  have e := hfa.symm.trans (PySem.W.mg_of X G a7)
  cases e
  refine ⟨PySem.W.fnOf "law" "law" (defArgs s_law) (defBody s_law) (defScope s_law) .none kV7 dc7 pm7 an7 cd7 ct7, fun s v => .of_eq rfl, fun base _ _ => ?_⟩
  have F0 := fun_mk (st := s_columns) l0 c0 k0
  have b0 := F0.binds (ps := ["cloth"]) fun _ _ _ _ _ _ us hl => match us, hl with | [_], _ => rfl
  have D_columns := ok_columns (P := l.prog) (w := w) (base := base) F0 (PySem.W.mg_of X G a0) b0 m_range m_len m_tuple
  have F1 := fun_mk (st := s_twill) l1 c1 k1
  have b1 := F1.binds (ps := ["bits", "step"]) fun _ _ _ _ _ _ us hl => match us, hl with | [_, _], _ => rfl
  have D_twill := ok_twill (P := l.prog) (w := w) (base := base) F1 (PySem.W.mg_of X G a1) b1 m_len m_tuple m_range
  have F2 := fun_mk (st := s_satin) l2 c2 k2
  have b2 := F2.binds (ps := ["size", "step"]) fun _ _ _ _ _ _ us hl => match us, hl with | [_, _], _ => rfl
  have D_satin := ok_satin (P := l.prog) (w := w) (base := base) F2 (PySem.W.mg_of X G a2) b2 D_twill
  have F3 := fun_mk (st := s_is_even) l3 c3 k3
  have b3 := F3.binds (ps := ["cloth"]) fun _ _ _ _ _ _ us hl => match us, hl with | [_], _ => rfl
  have D_is_even := ok_is_even (P := l.prog) (w := w) (base := base) F3 (PySem.W.mg_of X G a3) b3 m_sum D_columns m_min m_max
  have F4 := fun_mk (st := s__law_cell) l4 c4 k4
  have b4 := F4.binds (ps := ["_law_script", "_law_k"]) fun _ _ _ _ _ _ us hl => match us, hl with | [_, _], _ => rfl
  have D__law_cell := ok__law_cell (P := l.prog) (w := w) (base := base) F4 (PySem.W.mg_of X G a4) b4 m_len
  have F5 := fun_mk (st := s__law_mix) l5 c5 k5
  have b5 := F5.binds (ps := ["_law_cell_here", "_law_prime", "_law_many"]) fun _ _ _ _ _ _ us hl => match us, hl with | [_, _, _], _ => rfl
  have D__law_mix := ok__law_mix (P := l.prog) (w := w) (base := base) F5 (PySem.W.mg_of X G a5) b5 
  have F6 := fun_mk (st := s__law_even) l6 c6 k6
  have b6 := F6.binds (ps := ["_law_cloth"]) fun _ _ _ _ _ _ us hl => match us, hl with | [_], _ => rfl
  have D__law_even := ok__law_even (P := l.prog) (w := w) (base := base) F6 (PySem.W.mg_of X G a6) b6 m_sum m_range m_len m_set
  have F7 := fun_mk (st := s_law) l7 c7 k7
  have b7 := F7.binds (ps := ["_law_script"]) fun _ _ _ _ _ _ us hl => match us, hl with | [_], _ => rfl
  exact (ok_law (P := l.prog) (w := w) (base := base) F7 D__law_cell m_range D__law_mix m_list D_twill m_isinstance m_tuple m_len D_satin m_sum D_is_even m_bool D__law_even).imp (spLaw_D law_true)
end K06
open PySem PySem.W PyProof.Rows
set_option maxHeartbeats 0 in
theorem PySem.Challenge.cw_weavehall_k06_twills_and_satins_holds : PySem.Challenge.rw_weavehall_k06_twills_and_satins.Holds := by
  w_on; o_law; k_head; (case hw => w_witness2)
  k_fill
  refine L2.walk_of (l := PySem.Challenge.rw_weavehall_k06_twills_and_satins) (n := 63) (k := 3) (x := "_law_script") (CX := fun w => L2.CX PySem.Challenge.rw_weavehall_k06_twills_and_satins.prog w) (sp := fun w => DL.spLaw _) rfl (by decide) rfl ⟨rfl, by decide, by decide⟩ (fun w h Y => PySem.W.kIn_of Y) ?F (fun _ _ a ns hl on hS => ⟨a, ns, rfl, on, hS, hl, fun _ => rfl⟩) (fun _ _ _ _ _ h => DL.cx_end h)
  case F =>
    intro w mg fa h KX G hmg
    refine' K06.all_mk KX G hmg ?a0 ?l0 ?c0 ?k0 ?a1 ?l1 ?c1 ?k1 ?a2 ?l2 ?c2 ?k2 ?a3 ?l3 ?c3 ?k3 ?a4 ?l4 ?c4 ?k4 ?a5 ?l5 ?c5 ?k5 ?a6 ?l6 ?c6 ?k6 ?a7 ?l7 ?c7 ?k7 ?z_range ?z_len ?z_tuple ?z_sum ?z_min ?z_max ?z_set ?z_list ?z_isinstance ?z_bool
    (case a0 => k_is); (case l0 => k_is); (case c0 => k_is); (case k0 => k_is); (case a1 => k_is); (case l1 => k_is); (case c1 => k_is); (case k1 => k_is); (case a2 => k_is); (case l2 => k_is); (case c2 => k_is); (case k2 => k_is); (case a3 => k_is); (case l3 => k_is); (case c3 => k_is); (case k3 => k_is); (case a4 => k_is); (case l4 => k_is); (case c4 => k_is); (case k4 => k_is); (case a5 => k_is); (case l5 => k_is); (case c5 => k_is); (case k5 => k_is); (case a6 => k_is); (case l6 => k_is); (case c6 => k_is); (case k6 => k_is); (case a7 => k_is); (case l7 => k_is); (case c7 => k_is); (case k7 => k_is); (case z_range => k_is); (case z_len => k_is); (case z_tuple => k_is); (case z_sum => k_is); (case z_min => k_is); (case z_max => k_is); (case z_set => k_is); (case z_list => k_is); (case z_isinstance => k_is); (case z_bool => k_is)
