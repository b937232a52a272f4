import PyProof.Rows.All
import Wide.All
import OpenK.AllK
import Wide.FinOn
import HandS.ForMost
import HandS.Exc
import HandS.Conv
import HandS.TupAny
import HandS.Style
import HandS.SortInts
import HandS.IsInst
import HandS.Wide
import HandS.Flow
import HandS.Star
import HandS.Defaults
import HandS.DictComp
import KE.KRevSl
import HandS.Strs
import HandS.SetFor
import HandS.Zip
import HandS.TupMul
import HandS.NoneIn
import PySem.Challenge.RW_thingsclear_k64_whole_many_groups
set_option Elab.async false
set_option autoImplicit false
set_option linter.all false
set_option maxRecDepth 100000
set_option maxHeartbeats 4000000
/-! Data-level layer: what a def does, told over trees of data instead of a heap. -/
namespace DL
open PySem PySem.Spec L2 PyProof.Rows

abbrev St := L2.St
/-- data -/
inductive D where
  | non | bl (b : Bool) | int (i : Int) | str (s : Str)
  | lst (xs : List D) | tup (xs : List D)
  | ins (C : Addr) (fs : List (Str × D))
  | dic (kvs : List (Key × D))
  /-- the law's script -/
  | scr (ns : List Int)
  | box

mutual
inductive Den (K : PySem.W.Frag) (H : Hp) : V → D → Prop
  | non : Den K H .non .non
  | bl (b : Bool) : Den K H (.bl b) (.bl b)
  | int (i : Int) : Den K H (.int i) (.int i)
  | str (x : Str) : Den K H (.str x) (.str x)
  | lst {a : Addr} {xs : List V} {ds : List D} : H a = some (.lst xs) → Dens K H xs ds → Den K H (.ref a) (.lst ds)
  | tup {a : Addr} {xs : List V} {ds : List D} : SqT K H a xs → Dens K H xs ds → Den K H (.ref a) (.tup ds)
  | ins {a C dx : Addr} {fs : List (Str × V)} {gs : List (Str × D)} : H a = some (.ins C dx fs) → DenF K H fs gs → Den K H (.ref a) (.ins C gs)
  | dic {a : Addr} {es : List (Key × V)} {kvs : List (Key × D)} : H a = some (.dK es) → DenK K H es kvs → Den K H (.ref a) (.dic kvs)
  | scr {a : Addr} {ns : List Int} : SqL K H a (ns.map V.int) → Den K H (.ref a) (.scr ns)
inductive Dens (K : PySem.W.Frag) (H : Hp) : List V → List D → Prop
  | nil : Dens K H [] []
  | cons {v : V} {vs : List V} {d : D} {ds : List D} : Den K H v d → Dens K H vs ds → Dens K H (v :: vs) (d :: ds)
inductive DenF (K : PySem.W.Frag) (H : Hp) : List (Str × V) → List (Str × D) → Prop
  | nil : DenF K H [] []
  | cons {x : Str} {v : V} {vs : List (Str × V)} {d : D} {ds : List (Str × D)} : Den K H v d → DenF K H vs ds → DenF K H ((x, v) :: vs) ((x, d) :: ds)
inductive DenK (K : PySem.W.Frag) (H : Hp) : List (Key × V) → List (Key × D) → Prop
  | nil : DenK K H [] []
  | cons {x : Key} {v : V} {vs : List (Key × V)} {d : D} {ds : List (Key × D)} : Den K H v d → DenK K H vs ds → DenK K H ((x, v) :: vs) ((x, d) :: ds)
end

theorem rd_same {H H' : Hp} {a : Addr} {u : HO} (e : Same H H') (h : Rd H a u) : Rd H' a u := by
  rcases h with h | ⟨o, h⟩
  · exact Or.inl (e a _ h)
  · exact Or.inr ⟨o, e a _ h⟩
theorem sqt_same {K : PySem.W.Frag} {H H' : Hp} {a : Addr} {xs : List V} (e : Same H H') (h : SqT K H a xs) : SqT K H' a xs := by
  rcases h with h | h
  · exact Or.inl (rd_same e h)
  · exact Or.inr h

section
variable {K : PySem.W.Frag} {H H' : Hp}
mutual
theorem Den.mono (e : Same H H') : ∀ {v : V} {d : D}, Den K H v d → Den K H' v d
  | _, _, .non => .non
  | _, _, .bl b => .bl b
  | _, _, .int i => .int i
  | _, _, .str x => .str x
  | _, _, .lst h r => .lst (e _ _ h) (Dens.mono e r)
  | _, _, .tup h r => .tup (sqt_same e h) (Dens.mono e r)
  | _, _, .ins h r => .ins (e _ _ h) (DenF.mono e r)
  | _, _, .dic h r => .dic (e _ _ h) (DenK.mono e r)
  | _, _, .scr h => .scr (e.seq h)
theorem Dens.mono (e : Same H H') : ∀ {v : List V} {d : List D}, Dens K H v d → Dens K H' v d
  | _, _, .nil => .nil
  | _, _, .cons h r => .cons (Den.mono e h) (Dens.mono e r)
theorem DenF.mono (e : Same H H') : ∀ {v : List (Str × V)} {d : List (Str × D)}, DenF K H v d → DenF K H' v d
  | _, _, .nil => .nil
  | _, _, .cons h r => .cons (Den.mono e h) (DenF.mono e r)
theorem DenK.mono (e : Same H H') : ∀ {v : List (Key × V)} {d : List (Key × D)}, DenK K H v d → DenK K H' v d
  | _, _, .nil => .nil
  | _, _, .cons h r => .cons (Den.mono e h) (DenK.mono e r)
end
theorem Dens.length : ∀ {v : List V} {d : List D}, Dens K H v d → v.length = d.length
  | _, _, .nil => rfl
  | _, _, .cons _ r => congrArg (· + 1) (Dens.length r)
theorem Dens.get : ∀ {v : List V} {d : List D} {i : Nat} {x : D}, Dens K H v d → d[i]? = some x → ∃ u, v[i]? = some u ∧ Den K H u x
  | _, _, _, _, .nil, e => by simp at e
  | _, _, 0, _, .cons h _, e => by simp at e; subst e; exact ⟨_, rfl, h⟩
  | _, _, i + 1, x, .cons _ r, e => by
    obtain ⟨u, h1, h2⟩ := Dens.get (i := i) (x := x) r (by simpa using e)
    exact ⟨u, by simpa using h1, h2⟩
theorem Dens.getV : ∀ {v : List V} {d : List D} {i : Nat} {u : V}, Dens K H v d → v[i]? = some u → ∃ x, d[i]? = some x ∧ Den K H u x
  | _, _, _, _, .nil, e => by simp at e
  | _, _, 0, _, .cons h _, e => by simp at e; subst e; exact ⟨_, rfl, h⟩
  | _, _, i + 1, x, .cons _ r, e => by
    obtain ⟨u, h1, h2⟩ := Dens.getV (i := i) (u := x) r (by simpa using e)
    exact ⟨u, by simpa using h1, h2⟩
theorem Dens.append : ∀ {v v' : List V} {d d' : List D}, Dens K H v d → Dens K H v' d' → Dens K H (v ++ v') (d ++ d')
  | _, _, _, _, .nil, h => h
  | _, _, _, _, .cons a r, h => .cons a (Dens.append r h)
theorem Dens.take : ∀ {v : List V} {d : List D} (n : Nat), Dens K H v d → Dens K H (v.take n) (d.take n)
  | _, _, 0, _ => by simpa using Dens.nil
  | _, _, n + 1, .nil => by simpa using Dens.nil
  | _, _, n + 1, .cons a r => by simpa using Dens.cons a (Dens.take n r)
theorem Dens.drop : ∀ {v : List V} {d : List D} (n : Nat), Dens K H v d → Dens K H (v.drop n) (d.drop n)
  | _, _, 0, h => by simpa using h
  | _, _, n + 1, .nil => by simpa using Dens.nil
  | _, _, n + 1, .cons _ r => by simpa using Dens.drop n r
theorem Dens.snoc {v : List V} {d : List D} {u : V} {x : D} (h : Dens K H v d) (a : Den K H u x) : Dens K H (v ++ [u]) (d ++ [x]) := h.append (.cons a .nil)
theorem Dens.rev : ∀ {v : List V} {d : List D}, Dens K H v d → Dens K H v.reverse d.reverse
  | _, _, .nil => by simpa using Dens.nil
  | _, _, .cons a r => by simpa using (Dens.rev r).snoc a
theorem Dens.set : ∀ {v : List V} {d : List D} {u : V} {x : D} (i : Nat), Dens K H v d → Den K H u x → Dens K H (v.set i u) (d.set i x)
  | _, _, _, _, _, .nil, _ => by simpa using Dens.nil
  | _, _, _, _, 0, .cons _ r, h => by simpa using Dens.cons h r
  | _, _, _, _, i + 1, .cons a r, h => by simpa using Dens.cons a (Dens.set i r h)
theorem Dens.erase : ∀ {v : List V} {d : List D} (i : Nat), Dens K H v d → Dens K H (v.eraseIdx i) (d.eraseIdx i)
  | _, _, _, .nil => by simpa using Dens.nil
  | _, _, 0, .cons _ r => by simpa using r
  | _, _, i + 1, .cons a r => by simpa using Dens.cons a (Dens.erase i r)
theorem Dens.ints : ∀ (ns : List Int), Dens K H (ns.map V.int) (ns.map D.int)
  | [] => .nil
  | n :: r => .cons (.int n) (Dens.ints r)
theorem Dens.ints_inv : ∀ {v : List V} {ns : List Int}, Dens K H v (ns.map D.int) → v = ns.map V.int
  | _, [], .nil => rfl
  | _, n :: r, .cons a b => by
    cases a
    rw [Dens.ints_inv b]
    rfl
theorem Dens.bls_inv : ∀ {v : List V} {ns : List Bool}, Dens K H v (ns.map D.bl) → v = ns.map V.bl
  | _, [], .nil => rfl
  | _, n :: r, .cons a b => by
    cases a
    rw [Dens.bls_inv b]
    rfl
end

/-! ### a sealed list: what it holds is told by a predicate that stays as it changes -/
def SealF (l : Addr) (P : List V → Prop) : Heap → Prop := fun h => ∃ (xs : List V) (its : List Value) (n : Nat), P xs ∧ xs.length ≤ sizeLine ∧ Vals xs its ∧ h.get? l = some { cls := .type "list", data := .seq its.toArray n }
/-- the box of digits: at most N drawn -/
def BoxP (N : Nat) : List V → Prop := fun xs => ∃ (g : Int) (b : Bool) (m c : Int), xs = [.int g, .bl b, .int m, .int c] ∧ 0 ≤ g ∧ 0 ≤ m ∧ m < 2147483648 ∧ 0 ≤ c ∧ c ≤ (N : Int)
abbrev BoxO (l : Addr) (N : Nat) : HO := .ext (SealF l (BoxP N))
def lineB : Nat := 68719476736

structure Grow (U H : Hp) (n : Nat) (U' H' : Hp) (n' : Nat) : Prop where
  le : n' ≤ n
  u : Same U U'
  uh : Same U' H'
  no : ∀ a, H a ≠ none → U a = none → U' a = none
  h : ∀ a o, H a = some o → H' a = some o ∨ ∃ N, o = BoxO a N
  b : ∀ a N, H a = some (BoxO a N) → ∃ N', H' a = some (BoxO a N') ∧ N' + n' ≤ N + n
theorem Grow.refl {U H : Hp} {n : Nat} (e : Same U H) : Grow U H n U H n := ⟨Nat.le_refl _, Same.refl _, e, fun _ _ h => h, fun _ _ h => .inl h, fun _ N h => ⟨N, h, Nat.le_refl _⟩⟩
theorem Grow.trans {U H U1 H1 U2 H2 : Hp} {n n1 n2 : Nat} (a : Grow U H n U1 H1 n1) (b : Grow U1 H1 n1 U2 H2 n2) : Grow U H n U2 H2 n2 where
  le := Nat.le_trans b.le a.le
  u := a.u.trans b.u
  uh := b.uh
  no := fun x h1 h2 => by
    refine b.no x ?_ (a.no x h1 h2)
    cases q : H x with
    | none => exact absurd q h1
    | some o =>
      rcases a.h x o q with z | ⟨N, rfl⟩
      · rw [z]; simp
      · obtain ⟨N', z, _⟩ := a.b x N q
        rw [z]; simp
  h := fun x o q => by
    rcases a.h x o q with z | z
    · exact b.h x o z
    · exact .inr z
  b := fun x N q => by
    obtain ⟨N1, q1, l1⟩ := a.b x N q
    obtain ⟨N2, q2, l2⟩ := b.b x N1 q1
    exact ⟨N2, q2, Nat.le_trans l2 l1⟩
theorem Grow.keepS {U H U' H' : Hp} {n n' : Nat} (g : Grow U H n U' H' n') {a : Addr} (h : H a ≠ none) : H' a ≠ none := by
  cases q : H a with
  | none => exact absurd q h
  | some o =>
    rcases g.h a o q with z | ⟨N, rfl⟩
    · rw [z]; simp
    · obtain ⟨N', z, _⟩ := g.b a N q
      rw [z]; simp
theorem Grow.fresh {U H U' H' : Hp} {n n' : Nat} (g : Grow U H n U' H' n') {a : Addr} (h : H' a = none) : H a = none := by
  cases q : H a with
  | none => rfl
  | some o => exact absurd h (g.keepS (by rw [q]; simp))
theorem Grow.lst {U H U' H' : Hp} {n n' : Nat} (g : Grow U H n U' H' n') {a : Addr} {xs : List V} (h : H a = some (.lst xs)) : H' a = some (.lst xs) := by
  rcases g.h a _ h with z | ⟨N, z⟩
  · exact z
  · cases z
theorem Grow.dK {U H U' H' : Hp} {n n' : Nat} (g : Grow U H n U' H' n') {a : Addr} {xs : List (Key × V)} (h : H a = some (.dK xs)) : H' a = some (.dK xs) := by
  rcases g.h a _ h with z | ⟨N, z⟩
  · exact z
  · cases z
/-- a new object that the view takes in -/
theorem Grow.new {U H : Hp} {n : Nat} {p : Addr} {o : HO} (e : Same U H) (hp : H p = none) : Grow U H n (upd U p o) (upd H p o) n := by
  have up : U p = none := e.free hp
  refine ⟨Nat.le_refl _, fun a x h => ?_, fun a x h => ?_, fun a h1 h2 => ?_, fun a x h => .inl ?_, fun a N h => ⟨N, ?_, Nat.le_refl _⟩⟩
  · rw [upd_ne (ne_of_none h up)]; exact h
  · by_cases q : a = p
    · subst q; rw [upd_same] at h ⊢; exact h
    · rw [upd_ne q] at h ⊢; exact e a x h
  · rw [upd_ne (fun z => h1 (by rw [z]; exact hp))]; exact h2
  · rw [upd_ne (ne_of_none h hp)]; exact h
  · rw [upd_ne (ne_of_none h hp)]; exact h
/-- a new object that the view leaves out -/
theorem Grow.out {U H : Hp} {n : Nat} {p : Addr} {o : HO} (e : Same U H) (hp : H p = none) : Grow U H n U (upd H p o) n := by
  refine ⟨Nat.le_refl _, Same.refl _, fun a x h => ?_, fun a h1 h2 => h2, fun a x h => .inl ?_, fun a N h => ⟨N, ?_, Nat.le_refl _⟩⟩
  · rw [upd_ne (ne_of_none (e a x h) hp)]; exact e a x h
  · rw [upd_ne (ne_of_none h hp)]; exact h
  · rw [upd_ne (ne_of_none h hp)]; exact h
/-- an object that came later is written; the view does not hold it -/
theorem Grow.put {U H U' H' : Hp} {n n' : Nat} {p : Addr} {o : HO} (g : Grow U H n U' H' n') (hp : H p = none) (hu : U' p = none) : Grow U H n U' (upd H' p o) n' := by
  refine ⟨g.le, g.u, fun a x h => ?_, g.no, fun a x h => ?_, fun a N h => ?_⟩
  · rw [upd_ne (ne_of_none h hu)]; exact g.uh a x h
  · rw [upd_ne (ne_of_none h hp)]; exact g.h a x h
  · rw [upd_ne (ne_of_none h hp)]; exact g.b a N h

/-! ### what a value tells in a view -/
def DenX (K : PySem.W.Frag) (U H : Hp) (n : Nat) (v : V) (d : D) : Prop := match d with
  | .box => ∃ l N, v = .ref l ∧ H l = some (BoxO l N) ∧ U l = none ∧ N + n ≤ lineB
  | d => Den K U v d
theorem DenX.grow {K : PySem.W.Frag} {U H U' H' : Hp} {n n' : Nat} (g : Grow U H n U' H' n') {v : V} {d : D} (h : DenX K U H n v d) : DenX K U' H' n' v d := by
  cases d with
  | box =>
    obtain ⟨l, N, e, h1, h2, h3⟩ := h
    obtain ⟨N', q, z⟩ := g.b l N h1
    exact ⟨l, N', e, q, g.no l (by rw [h1]; simp) h2, Nat.le_trans z h3⟩
  | _ => exact Den.mono g.u h
theorem DenX.of {K : PySem.W.Frag} {U H : Hp} {n : Nat} {v : V} {d : D} (h : Den K U v d) : DenX K U H n v d := by
  cases d with
  | box => cases h
  | _ => exact h
/-- all but the box -/
def D.nb : D → Prop
  | .box => False
  | _ => True
theorem DenX.den {K : PySem.W.Frag} {U H : Hp} {n : Nat} {v : V} {d : D} (h : DenX K U H n v d) (q : d.nb) : Den K U v d := by
  cases d with
  | box => exact q.elim
  | _ => exact h
inductive DensX (K : PySem.W.Frag) (U H : Hp) (n : Nat) : List V → List D → Prop
  | nil : DensX K U H n [] []
  | cons {v : V} {vs : List V} {d : D} {ds : List D} : DenX K U H n v d → DensX K U H n vs ds → DensX K U H n (v :: vs) (d :: ds)
theorem DensX.length {K : PySem.W.Frag} {U H : Hp} {n : Nat} : ∀ {v : List V} {d : List D}, DensX K U H n v d → v.length = d.length
  | _, _, .nil => rfl
  | _, _, .cons _ r => congrArg (· + 1) (DensX.length r)
theorem DensX.get {K : PySem.W.Frag} {U H : Hp} {n : Nat} : ∀ {v : List V} {d : List D} {i : Nat} {x : D}, DensX K U H n v d → d[i]? = some x → ∃ u, v[i]? = some u ∧ DenX K U H n u x
  | _, _, _, _, .nil, e => by simp at e
  | _, _, 0, _, .cons h _, e => by simp at e; subst e; exact ⟨_, rfl, h⟩
  | _, _, i + 1, x, .cons _ r, e => by
    obtain ⟨u, h1, h2⟩ := DensX.get (i := i) (x := x) r (by simpa using e)
    exact ⟨u, by simpa using h1, h2⟩
theorem DensX.grow {K : PySem.W.Frag} {U H U' H' : Hp} {n n' : Nat} (g : Grow U H n U' H' n') : ∀ {v : List V} {d : List D}, DensX K U H n v d → DensX K U' H' n' v d
  | _, _, .nil => .nil
  | _, _, .cons a r => .cons (a.grow g) (DensX.grow g r)
def nbs : List D → Prop
  | [] => True
  | d :: r => d.nb ∧ nbs r
theorem DensX.dens {K : PySem.W.Frag} {U H : Hp} {n : Nat} : ∀ {v : List V} {d : List D}, DensX K U H n v d → nbs d → Dens K U v d
  | _, _, .nil, _ => .nil
  | _, _, .cons a r, q => .cons (a.den q.1) (DensX.dens r q.2)

/-! ### slots -/
inductive Sl where
  | val (d : D)
  /-- a list that this def owns -/
  | own (ds : List D)
  /-- a dict that this def owns -/
  | ownK (kvs : List (Key × D))
abbrev REnv := List (Option Sl)
structure Bs where
  U : Hp
  H : Hp
  n : Nat
def SlOk (K : PySem.W.Frag) (b : Bs) (U H : Hp) (n : Nat) (v : V) : Sl → Prop
  | .val d => DenX K U H n v d
  | .own ds => ∃ l vs, v = .ref l ∧ H l = some (.lst vs) ∧ U l = none ∧ b.H l = none ∧ Dens K U vs ds
  | .ownK kvs => ∃ l es, v = .ref l ∧ H l = some (.dK es) ∧ U l = none ∧ b.H l = none ∧ DenK K U es kvs
theorem SlOk.grow {K : PySem.W.Frag} {b : Bs} {U H U' H' : Hp} {n n' : Nat} (g : Grow U H n U' H' n') {v : V} {s : Sl} (h : SlOk K b U H n v s) : SlOk K b U' H' n' v s := by
  cases s with
  | val d => exact DenX.grow g h
  | own ds =>
    obtain ⟨l, vs, e, h1, h2, h3, h4⟩ := h
    exact ⟨l, vs, e, g.lst h1, g.no l (by rw [h1]; simp) h2, h3, h4.mono g.u⟩
  | ownK ds =>
    obtain ⟨l, vs, e, h1, h2, h3, h4⟩ := h
    exact ⟨l, vs, e, g.dK h1, g.no l (by rw [h1]; simp) h2, h3, h4.mono g.u⟩
def Sl.isOwn : Sl → Prop
  | .val _ => False
  | _ => True
structure Rel (K : PySem.W.Frag) (b : Bs) (U H : Hp) (n : Nat) (σ : St) (ρ : REnv) : Prop where
  g : Grow b.U b.H b.n U H n
  len : σ.length = ρ.length
  sl : ∀ (i : Nat) (s : Sl), ρ[i]? = some (some s) → ∃ v, σ[i]? = some (some v) ∧ SlOk K b U H n v s
  dis : ∀ (i j : Nat) (s t : Sl) (l : Addr), i ≠ j → ρ[i]? = some (some s) → ρ[j]? = some (some t) → s.isOwn → t.isOwn → σ[i]? = some (some (V.ref l)) → σ[j]? = some (some (V.ref l)) → False
section
variable {K : PySem.W.Frag} {b : Bs} {U H U' H' : Hp} {n n' : Nat} {σ : St} {ρ : REnv}
theorem Rel.grow (r : Rel K b U H n σ ρ) (g : Grow U H n U' H' n') : Rel K b U' H' n' σ ρ :=
  ⟨r.g.trans g, r.len, fun i s e => let ⟨v, h1, h2⟩ := r.sl i s e; ⟨v, h1, h2.grow g⟩, r.dis⟩
theorem Rel.same (r : Rel K b U H n σ ρ) : Same U H := r.g.uh
theorem Rel.set {i : Nat} {v : V} {d : D} (r : Rel K b U H n σ ρ) (h : DenX K U H n v d) : Rel K b U H n (σ.set i (some v)) (ρ.set i (some (.val d))) := by
  refine ⟨r.g, by simp [r.len], fun j s e => ?_, fun j k s t l ne e1 e2 o1 o2 q1 q2 => ?_⟩
  · by_cases hj : i = j
    · subst hj
      by_cases hl : i < ρ.length
      · rw [List.getElem?_set_self hl] at e
        simp at e
        subst e
        exact ⟨v, by rw [List.getElem?_set_self (by rw [r.len]; exact hl)], h⟩
      · rw [List.getElem?_eq_none (by simpa using hl)] at e
        cases e
    · rw [List.getElem?_set_ne hj] at e ⊢
      exact r.sl j s e
  · have hne : ∀ {m : Nat} {u : Sl}, (ρ.set i (some (.val d)))[m]? = some (some u) → u.isOwn → i ≠ m ∧ ρ[m]? = some (some u) := fun {m u} e o => by
      by_cases hm : i = m
      · subst hm
        by_cases hl : i < ρ.length
        · rw [List.getElem?_set_self hl] at e
          simp at e
          subst e
          exact o.elim
        · rw [List.getElem?_eq_none (by simpa using hl)] at e
          cases e
      · rw [List.getElem?_set_ne hm] at e
        exact ⟨hm, e⟩
    obtain ⟨n1, e1⟩ := hne e1 o1
    obtain ⟨n2, e2⟩ := hne e2 o2
    rw [List.getElem?_set_ne n1] at q1
    rw [List.getElem?_set_ne n2] at q2
    exact r.dis j k s t l ne e1 e2 o1 o2 q1 q2
/-- no owner slot stands at l -/
def NoOwn (σ : St) (ρ : REnv) (l : Addr) : Prop := ∀ (j : Nat) (t : Sl), ρ[j]? = some (some t) → t.isOwn → σ[j]? = some (some (V.ref l)) → False
theorem Rel.setO {i : Nat} {l : Addr} {s : Sl} (r : Rel K b U H n σ ρ) (h : SlOk K b U H n (.ref l) s) (no : ∀ (j : Nat) (t : Sl), j ≠ i → ρ[j]? = some (some t) → t.isOwn → σ[j]? = some (some (V.ref l)) → False) :
    Rel K b U H n (σ.set i (some (.ref l))) (ρ.set i (some s)) := by
  have look : ∀ {m : Nat} {u : Sl}, (ρ.set i (some s))[m]? = some (some u) → (i = m ∧ u = s ∧ i < ρ.length) ∨ (i ≠ m ∧ ρ[m]? = some (some u)) := fun {m u} e => by
    by_cases hm : i = m
    · subst hm
      by_cases hl : i < ρ.length
      · rw [List.getElem?_set_self hl] at e
        simp at e
        exact .inl ⟨rfl, e.symm, hl⟩
      · rw [List.getElem?_eq_none (by simpa using hl)] at e
        cases e
    · rw [List.getElem?_set_ne hm] at e
      exact .inr ⟨hm, e⟩
  refine ⟨r.g, by simp [r.len], fun j t e => ?_, fun j k t u m ne e1 e2 o1 o2 q1 q2 => ?_⟩
  · rcases look e with ⟨hj, rfl, hl⟩ | ⟨hj, e⟩
    · subst hj
      exact ⟨.ref l, by rw [List.getElem?_set_self (by rw [r.len]; exact hl)], h⟩
    · rw [List.getElem?_set_ne hj]
      exact r.sl j t e
  · rcases look e1 with ⟨hj, rfl, hl⟩ | ⟨hj, f1⟩
    · subst hj
      rw [List.getElem?_set_self (by rw [r.len]; exact hl)] at q1
      simp at q1
      subst q1
      rcases look e2 with ⟨hk, _, _⟩ | ⟨hk, f2⟩
      · exact ne hk
      · rw [List.getElem?_set_ne hk] at q2
        exact no k u (fun z => hk z.symm) f2 o2 q2
    · rw [List.getElem?_set_ne hj] at q1
      rcases look e2 with ⟨hk, rfl, hl⟩ | ⟨hk, f2⟩
      · subst hk
        rw [List.getElem?_set_self (by rw [r.len]; exact hl)] at q2
        simp at q2
        subst q2
        exact no j t (fun z => hj z.symm) f1 o1 q1
      · rw [List.getElem?_set_ne hk] at q2
        exact r.dis j k t u m ne f1 f2 o1 o2 q1 q2
theorem Rel.noOwn {l : Addr} (r : Rel K b U H n σ ρ) (h : H l = none) : NoOwn σ ρ l := fun j t e o q => by
  obtain ⟨v, e', k⟩ := r.sl j t e
  rw [q] at e'
  cases e'
  cases t with
  | val d => exact o
  | own ds =>
    obtain ⟨l', vs, e1, h1, _⟩ := k
    cases e1
    rw [h] at h1; cases h1
  | ownK ds =>
    obtain ⟨l', vs, e1, h1, _⟩ := k
    cases e1
    rw [h] at h1; cases h1
end
def wipeD (ρ : REnv) : List Nat → REnv
  | [] => ρ
  | v :: vs => (wipeD ρ vs).set v none
theorem Rel.wipe {K : PySem.W.Frag} {b : Bs} {U H : Hp} {n : Nat} {σ : St} {ρ : REnv} (r : Rel K b U H n σ ρ) : ∀ vs, Rel K b U H n (wipe σ vs) (wipeD ρ vs)
  | [] => r
  | v :: vs => by
    have ih := Rel.wipe r vs
    have look : ∀ {m : Nat} {u : Sl}, ((wipeD ρ vs).set v none)[m]? = some (some u) → v ≠ m ∧ (wipeD ρ vs)[m]? = some (some u) := fun {m u} e => by
      by_cases hm : v = m
      · subst hm
        by_cases hl : v < (wipeD ρ vs).length
        · rw [List.getElem?_set_self hl] at e
          cases e
        · rw [List.getElem?_eq_none (by simpa using hl)] at e
          cases e
      · rw [List.getElem?_set_ne hm] at e
        exact ⟨hm, e⟩
    refine ⟨ih.g, ?_, fun j t e => ?_, fun j k t u m ne e1 e2 o1 o2 q1 q2 => ?_⟩
    · show ((L2.wipe σ vs).set v none).length = ((wipeD ρ vs).set v none).length
      simp [ih.len]
    · obtain ⟨hj, e⟩ := look e
      show ∃ u, ((L2.wipe σ vs).set v none)[j]? = _ ∧ _
      rw [List.getElem?_set_ne hj]
      exact ih.sl j t e
    · obtain ⟨hj, e1⟩ := look e1
      obtain ⟨hk, e2⟩ := look e2
      have q1 : ((L2.wipe σ vs).set v none)[j]? = _ := q1
      have q2 : ((L2.wipe σ vs).set v none)[k]? = _ := q2
      rw [List.getElem?_set_ne hj] at q1
      rw [List.getElem?_set_ne hk] at q2
      exact ih.dis j k t u m ne e1 e2 o1 o2 q1 q2

/-! ### readings over data -/
abbrev WE := REnv → Nat → (D → Nat → Prop) → Prop
abbrev WF := REnv → Nat → (List D → Nat → Prop) → Prop
abbrev WT := REnv → Nat → (Bool → Nat → Prop) → Prop
structure DEnds where
  nx : REnv → Nat → Prop
  rt : D → Nat → Prop
  bk : REnv → Nat → Prop := fun _ _ => False
  ct : REnv → Nat → Prop := fun _ _ => False
abbrev WS := DEnds → REnv → Nat → Prop
/-- read, perhaps of a list that the def owns -/
def DenB (K : PySem.W.Frag) (U H : Hp) (n : Nat) (v : V) (d : D) : Prop := DenX K U H n v d ∨ (∃ l vs ds, d = .lst ds ∧ v = .ref l ∧ H l = some (.lst vs) ∧ Dens K U vs ds) ∨ (∃ l es kvs, d = .dic kvs ∧ v = .ref l ∧ H l = some (.dK es) ∧ DenK K U es kvs)
theorem DenB.grow {K : PySem.W.Frag} {U H U' H' : Hp} {n n' : Nat} (g : Grow U H n U' H' n') {v : V} {d : D} (h : DenB K U H n v d) : DenB K U' H' n' v d := by
  rcases h with h | ⟨l, vs, ds, e, e', h1, h2⟩ | ⟨l, vs, ds, e, e', h1, h2⟩
  · exact .inl (h.grow g)
  · exact .inr (.inl ⟨l, vs, ds, e, e', g.lst h1, h2.mono g.u⟩)
  · exact .inr (.inr ⟨l, vs, ds, e, e', g.dK h1, h2.mono g.u⟩)
/-- read off the heap as it stands -/
theorem DenB.den {K : PySem.W.Frag} {U H : Hp} {n : Nat} (e : Same U H) {v : V} {d : D} (h : DenB K U H n v d) (q : d.nb) : Den K H v d := by
  rcases h with h | ⟨l, vs, ds, rfl, rfl, h1, h2⟩ | ⟨l, vs, ds, rfl, rfl, h1, h2⟩
  · exact (h.den q).mono e
  · exact .lst h1 (h2.mono e)
  · exact .dic h1 (h2.mono e)
/-- the items of what is read -/
theorem DenB.items {K : PySem.W.Frag} {U H : Hp} {n : Nat} (e : Same U H) {v : V} {ds : List D} (h : DenB K U H n v (.lst ds)) : ∃ l vs, v = .ref l ∧ H l = some (.lst vs) ∧ Dens K U vs ds := by
  rcases h with h | ⟨l, vs, ds', e1, rfl, h1, h2⟩ | ⟨l, vs, ds, e1, rfl, h1, h2⟩
  · cases h with
    | lst h1 h2 => exact ⟨_, _, rfl, e _ _ h1, h2⟩
  · cases e1
    exact ⟨l, vs, rfl, h1, h2⟩
  · cases e1
theorem DenB.itemsT {K : PySem.W.Frag} {U H : Hp} {n : Nat} (e : Same U H) {v : V} {ds : List D} (h : DenB K U H n v (.tup ds)) : ∃ l vs, v = .ref l ∧ SqT K H l vs ∧ SqT K U l vs ∧ Dens K U vs ds := by
  rcases h with h | ⟨l, vs, ds', e1, rfl, h1, h2⟩ | ⟨l, vs, ds, e1, rfl, h1, h2⟩
  · cases h with
    | tup h1 h2 => exact ⟨_, _, rfl, sqt_same e h1, h1, h2⟩
  · cases e1
  · cases e1
theorem DenB.dict {K : PySem.W.Frag} {U H : Hp} {n : Nat} (e : Same U H) {v : V} {ds : List (Key × D)} (h : DenB K U H n v (.dic ds)) : ∃ l vs, v = .ref l ∧ H l = some (.dK vs) ∧ DenK K U vs ds := by
  rcases h with h | ⟨l, vs, ds', e1, rfl, h1, h2⟩ | ⟨l, vs, ds, e1, rfl, h1, h2⟩
  · cases h with
    | dic h1 h2 => exact ⟨_, _, rfl, e _ _ h1, h2⟩
  · cases e1
  · cases e1
    exact ⟨l, vs, rfl, h1, h2⟩
theorem DenB.int {K : PySem.W.Frag} {U H : Hp} {n : Nat} {v : V} {i : Int} (h : DenB K U H n v (.int i)) : v = .int i := by
  rcases h with h | ⟨_, _, _, e, _⟩ | ⟨_, _, _, e, _⟩
  · cases h; rfl
  · cases e
  · cases e
theorem DenB.bl {K : PySem.W.Frag} {U H : Hp} {n : Nat} {v : V} {i : Bool} (h : DenB K U H n v (.bl i)) : v = .bl i := by
  rcases h with h | ⟨_, _, _, e, _⟩ | ⟨_, _, _, e, _⟩
  · cases h; rfl
  · cases e
  · cases e
theorem DenB.str {K : PySem.W.Frag} {U H : Hp} {n : Nat} {v : V} {i : Str} (h : DenB K U H n v (.str i)) : v = .str i := by
  rcases h with h | ⟨_, _, _, e, _⟩ | ⟨_, _, _, e, _⟩
  · cases h; rfl
  · cases e
  · cases e

def lift (K : PySem.W.Frag) (b : Bs) (w : WE) : TE := fun σ H Q => ∃ U ρ n P, Rel K b U H n σ ρ ∧ w ρ n P ∧ ∀ d n' U' H' v, P d n' → Grow U H n U' H' n' → DenX K U' H' n' v d → Q v H'
def liftB (K : PySem.W.Frag) (b : Bs) (w : WE) : TE := fun σ H Q => ∃ U ρ n P, Rel K b U H n σ ρ ∧ w ρ n P ∧ ∀ d n' U' H' v, P d n' → Grow U H n U' H' n' → DenB K U' H' n' v d → Q v H'
/-- a new list, in no view -/
def liftF (K : PySem.W.Frag) (b : Bs) (w : WF) : TE := fun σ H Q => ∃ U ρ n P, Rel K b U H n σ ρ ∧ w ρ n P ∧ ∀ ds n' U' H' l vs, P ds n' → Grow U H n U' H' n' → H l = none → H' l = some (.lst vs) → U' l = none → Dens K U' vs ds → Q (.ref l) H'
def liftT (K : PySem.W.Frag) (b : Bs) (w : WT) : TT := fun σ H Q => ∃ U ρ n P, Rel K b U H n σ ρ ∧ w ρ n P ∧ ∀ c n' U' H', P c n' → Grow U H n U' H' n' → Q c H'
def liftA (K : PySem.W.Frag) (b : Bs) (w : WF) : TA := fun σ H Q => ∃ U ρ n P, Rel K b U H n σ ρ ∧ w ρ n P ∧ ∀ ds n' U' H' vs, P ds n' → Grow U H n U' H' n' → DensX K U' H' n' vs ds → Q vs H'
structure EndsOk (K : PySem.W.Frag) (b : Bs) (DD : DEnds) (E : Ends) : Prop where
  nx : ∀ U H n σ ρ, Rel K b U H n σ ρ → DD.nx ρ n → E.nx σ H
  rt : ∀ U H n v d, Grow b.U b.H b.n U H n → DenX K U H n v d → DD.rt d n → E.rt v H
  bk : ∀ U H n σ ρ, Rel K b U H n σ ρ → DD.bk ρ n → E.bk σ H
  ct : ∀ U H n σ ρ, Rel K b U H n σ ρ → DD.ct ρ n → E.ct σ H
def liftS (K : PySem.W.Frag) (b : Bs) (w : WS) : TS := fun E σ H => ∃ U ρ n DD, Rel K b U H n σ ρ ∧ w DD ρ n ∧ EndsOk K b DD E

def DE (X : Cx) (b : Bs) (e : Expr) (w : WE) : Prop := PE X e (lift X.K b w)
def DB (X : Cx) (b : Bs) (e : Expr) (w : WE) : Prop := PE X e (liftB X.K b w)
def DF (X : Cx) (b : Bs) (e : Expr) (w : WF) : Prop := PE X e (liftF X.K b w)
def DT (X : Cx) (b : Bs) (e : Expr) (w : WT) : Prop := PT X e (liftT X.K b w)
def DW (X : Cx) (b : Bs) (e : Expr) (w : WT) : Prop := PW X e (liftT X.K b w)
def DA (X : Cx) (b : Bs) (es : List Expr) (w : WF) : Prop := PA X es (liftA X.K b w)
def DS (X : Cx) (b : Bs) (st : Stmt) (w : WS) : Prop := PS X st (liftS X.K b w)
def DSs (X : Cx) (b : Bs) (st : List Stmt) (w : WS) : Prop := PSs X st (liftS X.K b w)

section
variable {X : Cx} {b : Bs} {e e1 e2 : Expr} {w w1 w2 : WE}
theorem pe_weak {t t' : TE} (h : PE X e t) (i : ∀ σ H Q, t' σ H Q → t σ H Q) : PE X e t' := ⟨fun pins s σ H Q I q => h.run pins s σ H Q I (i σ H Q q)⟩
theorem pt_weak {t t' : TT} (h : PT X e t) (i : ∀ σ H Q, t' σ H Q → t σ H Q) : PT X e t' := ⟨fun pins s σ H Q I q => h.run pins s σ H Q I (i σ H Q q)⟩
theorem pw_weak {t t' : TT} (h : PW X e t) (i : ∀ σ H Q, t' σ H Q → t σ H Q) : PW X e t' := ⟨fun wh pins s σ H Q I q => h.run wh pins s σ H Q I (i σ H Q q)⟩
theorem pa_weak {es : List Expr} {t t' : TA} (h : PA X es t) (i : ∀ σ H Q, t' σ H Q → t σ H Q) : PA X es t' := ⟨fun pos pins s σ H Q I q => h.run pos pins s σ H Q I (i σ H Q q)⟩
theorem ps_weak {st : Stmt} {t t' : TS} (h : PS X st t) (i : ∀ D σ H, t' D σ H → t D σ H) : PS X st t' := ⟨fun pins s σ H D I q => h.run pins s σ H D I (i D σ H q)⟩
theorem pss_weak {st : List Stmt} {t t' : TS} (h : PSs X st t) (i : ∀ D σ H, t' D σ H → t D σ H) : PSs X st t' := ⟨fun pins s σ H D I q => h.run pins s σ H D I (i D σ H q)⟩
theorem DE.toB (h : DE X b e w) : DB X b e w := pe_weak h fun σ H Q ⟨U, ρ, n, P, r, hw, k⟩ => ⟨U, ρ, n, P, r, hw, fun d n' U' H' v p g x => k d n' U' H' v p g (.inl x)⟩
/-- what came later is taken into the view -/
theorem Grow.take {U H U' H' : Hp} {n n' : Nat} {l : Addr} {o : HO} (g : Grow U H n U' H' n') (h0 : H l = none) (hl : H' l = some o) (hu : U' l = none) : Grow U H n (upd U' l o) H' n' := by
  refine ⟨g.le, fun a x h => ?_, fun a x h => ?_, fun a h1 h2 => ?_, g.h, g.b⟩
  · have q := g.u a x h
    rw [upd_ne (ne_of_none q hu)]; exact q
  · by_cases q : a = l
    · subst q; rw [upd_same] at h; rw [hl]; exact h
    · rw [upd_ne q] at h; exact g.uh a x h
  · rw [upd_ne (fun z => h1 (by rw [z]; exact h0))]; exact g.no a h1 h2
theorem same_new {U : Hp} {l : Addr} {o : HO} (hu : U l = none) : Same U (upd U l o) := fun a x h => by
  rw [upd_ne (ne_of_none h hu)]; exact h
/-- a new list handed on as a value -/
def wOf (w : WF) : WE := fun ρ n P => w ρ n fun ds n' => P (.lst ds) n'
theorem DF.toE {w : WF} (h : DF X b e w) : DE X b e (wOf w) := pe_weak h fun σ H Q ⟨U, ρ, n, P, r, hw, k⟩ => ⟨U, ρ, n, _, r, hw, fun ds n' U' H' l vs p g h0 hl hu hd =>
  k (.lst ds) n' _ H' (.ref l) p (g.take h0 hl hu) (Den.lst upd_same (hd.mono (same_new hu)))⟩
end
end DL
/-! Data-level layer, 2: expressions. -/
namespace DL
open PySem PySem.Spec L2 PyProof.Rows

/-! ### == of data, as Python asks it -/
mutual
def eqd : D → D → Bool
  | .non, .non => true
  | .bl a, .bl b => a == b
  | .bl a, .int j => (if a then 1 else 0) == j
  | .int i, .bl b => i == (if b then 1 else 0)
  | .int i, .int j => i == j
  | .str x, .str y => x == y
  | .lst xs, .lst ys => eqds xs ys
  | .tup xs, .tup ys => eqds xs ys
  | _, _ => false
def eqds : List D → List D → Bool
  | [], [] => true
  | x :: xs, y :: ys => eqd x y && eqds xs ys
  | _, _ => false
end
/-! data that == reads: k nestings at most -/
mutual
def okd : Nat → D → Bool
  | _, .non => true
  | _, .bl _ => true
  | _, .int _ => true
  | _, .str x => PyData.strOk x
  | 0, .lst _ => false
  | 0, .tup _ => false
  | k + 1, .lst xs => okds k xs
  | k + 1, .tup xs => okds k xs
  | _, _ => false
def okds : Nat → List D → Bool
  | _, [] => true
  | k, x :: xs => okd k x && okds k xs
end
mutual
def toP : D → PyData
  | .bl b => .bool b
  | .int i => .int i
  | .str s => .str s
  | .lst xs => .list (toPs xs)
  | .tup xs => .tuple (toPs xs)
  | _ => .none
def toPs : List D → List PyData
  | [] => []
  | x :: xs => toP x :: toPs xs
end
mutual
theorem dp_of {K : PySem.W.Frag} {H : Hp} : ∀ {k : Nat} {d : D} {v : V}, Den K H v d → okd k d = true → Dp K H v (toP d)
  | _, .non, _, .non, _ => by unfold toP; exact .non
  | _, .bl b, _, .bl _, _ => by unfold toP; exact .bl b
  | _, .int b, _, .int _, _ => by unfold toP; exact .int b
  | _, .str b, _, .str _, _ => by unfold toP; exact .str b
  | 0, .lst xs, _, .lst _ _, o => by unfold okd at o; cases o
  | 0, .tup xs, _, .tup _ _, o => by unfold okd at o; cases o
  | k + 1, .lst xs, _, .lst h r, o => by unfold toP; exact .lst (.of h) (dps_of (k := k) r (by unfold okd at o; exact o))
  | k + 1, .tup xs, _, .tup h r, o => by unfold toP; exact .tup h (dps_of (k := k) r (by unfold okd at o; exact o))
  | k, .ins _ _, _, .ins _ _, o => by unfold okd at o; cases o
  | k, .dic _, _, .dic _ _, o => by unfold okd at o; cases o
  | k, .scr _, _, .scr _, o => by unfold okd at o; cases o
theorem dps_of {K : PySem.W.Frag} {H : Hp} : ∀ {k : Nat} {d : List D} {v : List V}, Dens K H v d → okds k d = true → DpAll K H v (toPs d)
  | _, [], _, .nil, _ => by unfold toPs; exact .nil
  | k, x :: xs, _, .cons h r, o => by
    unfold okds at o
    rw [Bool.and_eq_true] at o
    unfold toPs
    exact .cons (dp_of (k := k) h o.1) (dps_of (k := k) r o.2)
end
mutual
theorem lay_of : ∀ {k : Nat} {d : D}, okd k d = true → (toP d).canLay0 = true ∧ (toP d).depth ≤ k
  | _, .non, _ => by unfold toP PyData.canLay0 PyData.depth; exact ⟨rfl, Nat.zero_le _⟩
  | _, .bl b, _ => by unfold toP PyData.canLay0 PyData.depth; exact ⟨rfl, Nat.zero_le _⟩
  | _, .int b, _ => by unfold toP PyData.canLay0 PyData.depth; exact ⟨rfl, Nat.zero_le _⟩
  | _, .str b, o => by unfold okd at o; unfold toP PyData.canLay0 PyData.depth; exact ⟨o, Nat.zero_le _⟩
  | 0, .lst xs, o => by unfold okd at o; cases o
  | 0, .tup xs, o => by unfold okd at o; cases o
  | k + 1, .lst xs, o => by
    unfold okd at o
    obtain ⟨h1, h2⟩ := lays_of (k := k) o
    unfold toP PyData.canLay0 PyData.depth
    exact ⟨h1, Nat.succ_le_succ h2⟩
  | k + 1, .tup xs, o => by
    unfold okd at o
    obtain ⟨h1, h2⟩ := lays_of (k := k) o
    unfold toP PyData.canLay0 PyData.depth
    exact ⟨h1, Nat.succ_le_succ h2⟩
  | k, .ins _ _, o => by unfold okd at o; cases o
  | k, .dic _, o => by unfold okd at o; cases o
  | k, .scr _, o => by unfold okd at o; cases o
  | k, .box, o => by unfold okd at o; cases o
theorem lays_of : ∀ {k : Nat} {d : List D}, okds k d = true → PyData.canLayAll0 (toPs d) = true ∧ PyData.depthAll (toPs d) ≤ k
  | _, [], _ => by unfold toPs PyData.canLayAll0 PyData.depthAll; exact ⟨rfl, Nat.zero_le _⟩
  | k, x :: xs, o => by
    unfold okds at o
    rw [Bool.and_eq_true] at o
    obtain ⟨h1, h2⟩ := lay_of (k := k) o.1
    obtain ⟨h3, h4⟩ := lays_of (k := k) o.2
    unfold toPs PyData.canLayAll0 PyData.depthAll
    exact ⟨by rw [h1, h3]; rfl, Nat.max_le.mpr ⟨h2, h4⟩⟩
end
theorem shaped_ok {d : D} (o : okd 64 d = true) : SeqAt.shaped (toP d) = true := by
  obtain ⟨h1, h2⟩ := lay_of o
  unfold SeqAt.shaped
  rw [h1, decide_eq_true h2]
  rfl
mutual
theorem eqv_of : ∀ {k j : Nat} {d e : D}, okd k d = true → okd j e = true → PyData.eqv (toP d) (toP e) = eqd d e
  | _, _, .non, e, _, o => by cases e <;> (first | (unfold okd at o; cases o; done) | (unfold toP PyData.eqv eqd; rfl))
  | _, _, .bl _, e, _, o => by cases e <;> (first | (unfold okd at o; cases o; done) | (unfold toP PyData.eqv eqd; rfl))
  | _, _, .int _, e, _, o => by cases e <;> (first | (unfold okd at o; cases o; done) | (unfold toP PyData.eqv eqd; rfl))
  | _, _, .str _, e, _, o => by cases e <;> (first | (unfold okd at o; cases o; done) | (unfold toP PyData.eqv eqd; rfl))
  | 0, _, .lst xs, _, o, _ => by unfold okd at o; cases o
  | 0, _, .tup xs, _, o, _ => by unfold okd at o; cases o
  | k + 1, 0, .lst xs, e, o, p => by cases e <;> (first | (unfold okd at p; cases p; done) | (unfold toP PyData.eqv eqd; rfl))
  | k + 1, 0, .tup xs, e, o, p => by cases e <;> (first | (unfold okd at p; cases p; done) | (unfold toP PyData.eqv eqd; rfl))
  | k + 1, j + 1, .lst xs, e, o, p => by
    cases e with
    | lst ys =>
      unfold okd at o p
      unfold toP PyData.eqv eqd
      exact eqvs_of o p
    | _ => first | (unfold okd at p; cases p; done) | (unfold toP PyData.eqv eqd; rfl)
  | k + 1, j + 1, .tup xs, e, o, p => by
    cases e with
    | tup ys =>
      unfold okd at o p
      unfold toP PyData.eqv eqd
      exact eqvs_of o p
    | _ => first | (unfold okd at p; cases p; done) | (unfold toP PyData.eqv eqd; rfl)
  | k, _, .ins _ _, _, o, _ => by unfold okd at o; cases o
  | k, _, .dic _, _, o, _ => by unfold okd at o; cases o
  | k, _, .scr _, _, o, _ => by unfold okd at o; cases o
  | k, _, .box, _, o, _ => by unfold okd at o; cases o
theorem eqvs_of : ∀ {k j : Nat} {d e : List D}, okds k d = true → okds j e = true → PyData.eqvAll (toPs d) (toPs e) = eqds d e
  | _, _, [], [], _, _ => by unfold toPs PyData.eqvAll eqds; rfl
  | _, _, [], _ :: _, _, _ => by unfold toPs PyData.eqvAll eqds; rfl
  | _, _, _ :: _, [], _, _ => by unfold toPs PyData.eqvAll eqds; rfl
  | k, j, x :: xs, y :: ys, o, p => by
    unfold okds at o p
    rw [Bool.and_eq_true] at o p
    unfold toPs PyData.eqvAll eqds
    rw [eqv_of o.1 p.1, eqvs_of o.2 p.2]
end
end DL
/-! Data-level layer, 3: rules for expressions. -/
namespace DL
open PySem PySem.Spec L2 PyProof.Rows

inductive DensB (K : PySem.W.Frag) (U H : Hp) (n : Nat) : List V → List D → Prop
  | nil : DensB K U H n [] []
  | cons {v : V} {vs : List V} {d : D} {ds : List D} : DenB K U H n v d → DensB K U H n vs ds → DensB K U H n (v :: vs) (d :: ds)
theorem DensB.grow {K : PySem.W.Frag} {U H U' H' : Hp} {n n' : Nat} (g : Grow U H n U' H' n') : ∀ {v : List V} {d : List D}, DensB K U H n v d → DensB K U' H' n' v d
  | _, _, .nil => .nil
  | _, _, .cons a r => .cons (a.grow g) (DensB.grow g r)
def liftAB (K : PySem.W.Frag) (b : Bs) (w : WF) : TA := fun σ H Q => ∃ U ρ n P, Rel K b U H n σ ρ ∧ w ρ n P ∧ ∀ ds n' U' H' vs, P ds n' → Grow U H n U' H' n' → DensB K U' H' n' vs ds → Q vs H'
def DAB (X : Cx) (b : Bs) (es : List Expr) (w : WF) : Prop := PA X es (liftAB X.K b w)

/-- soundness of an operation told over data -/
def Sd2 (K : PySem.W.Frag) (r : R2) (rd : D → D → Nat → (D → Nat → Prop) → Prop) : Prop := ∀ x y n P U H vx vy (Q : VK), Same U H → DenB K U H n vx x → DenB K U H n vy y → rd x y n P →
  (∀ d n' U' H' v, P d n' → Grow U H n U' H' n' → DenX K U' H' n' v d → Q v H') → r vx vy H Q
def Sd1 (K : PySem.W.Frag) (r : V → Hp → VK → Prop) (rd : D → Nat → (D → Nat → Prop) → Prop) : Prop := ∀ x n P U H vx (Q : VK), Same U H → DenB K U H n vx x → rd x n P →
  (∀ d n' U' H' v, P d n' → Grow U H n U' H' n' → DenX K U' H' n' v d → Q v H') → r vx H Q
def SdC (K : PySem.W.Frag) (r : List V → Hp → VK → Prop) (rd : List D → Nat → (D → Nat → Prop) → Prop) : Prop := ∀ x n P U H vx (Q : VK), Same U H → DensB K U H n vx x → rd x n P →
  (∀ d n' U' H' v, P d n' → Grow U H n U' H' n' → DenX K U' H' n' v d → Q v H') → r vx H Q
def SdF (K : PySem.W.Frag) (r : List V → Hp → VK → Prop) (rd : List D → Nat → (List D → Nat → Prop) → Prop) : Prop := ∀ x n P U H vx (Q : VK), Same U H → DensB K U H n vx x → rd x n P →
  (∀ ds n' U' H' l vs, P ds n' → Grow U H n U' H' n' → H l = none → H' l = some (.lst vs) → U' l = none → Dens K U' vs ds → Q (.ref l) H') → r vx H Q

def wOp (rd : D → D → Nat → (D → Nat → Prop) → Prop) (w1 w2 : WE) : WE := fun ρ n P => w1 ρ n fun x n1 => w2 ρ n1 fun y n2 => rd x y n2 P
def wUn (rd : D → Nat → (D → Nat → Prop) → Prop) (w1 : WE) : WE := fun ρ n P => w1 ρ n fun x n1 => rd x n1 P
def wC (rd : List D → Nat → (D → Nat → Prop) → Prop) (w : WF) : WE := fun ρ n P => w ρ n fun xs n1 => rd xs n1 P
def wCF (rd : List D → Nat → (List D → Nat → Prop) → Prop) (w : WF) : WF := fun ρ n P => w ρ n fun xs n1 => rd xs n1 P
section
variable {X : Cx} {b : Bs} {e e1 e2 e3 : Expr} {w w1 w2 w3 : WE} {pos : Pos}
theorem lift2 {K : PySem.W.Frag} {r : R2} {rd : D → D → Nat → (D → Nat → Prop) → Prop} (sd : Sd2 K r rd) (σ : St) (H : Hp) (Q : VK) (h : lift K b (wOp rd w1 w2) σ H Q) : tOp r (liftB K b w1) (liftB K b w2) σ H Q := by
  obtain ⟨U, ρ, n, P, hr, hw, k⟩ := h
  refine ⟨U, ρ, n, _, hr, hw, fun x n1 U1 H1 vx p1 g1 d1 => ?_⟩
  refine ⟨U1, ρ, n1, _, hr.grow g1, p1, fun y n2 U2 H2 vy p2 g2 d2 => ?_⟩
  exact sd x y n2 P U2 H2 vx vy Q g2.uh (d1.grow g2) d2 p2 fun d n' U' H' v p g dx => k d n' U' H' v p ((g1.trans g2).trans g) dx
theorem de_op {op : Operator} {r : R2} {rd : D → D → Nat → (D → Nat → Prop) → Prop} (ho : OpR X (binaryOp op) r) (sd : Sd2 X.K r rd) (ha : DB X b e1 w1) (hb : DB X b e2 w2) : DE X b (.BinOp e1 op e2 pos) (wOp rd w1 w2) :=
  pe_weak (pe_op ho ha hb) (lift2 sd)
theorem de_cmp {op : CmpOp} {r : R2} {rd : D → D → Nat → (D → Nat → Prop) → Prop} (ho : OpR X (compareOp op) r) (sd : Sd2 X.K r rd) (ha : DB X b e1 w1) (hb : DB X b e2 w2) (hm : behindInMarks op e2 = false) : DE X b (.Compare e1 [op] [e2] pos) (wOp rd w1 w2) :=
  pe_weak (pe_cmpR ho ha hb hm) (lift2 sd)
theorem de_ix {r : R2} {rd : D → D → Nat → (D → Nat → Prop) → Prop} (ho : IxR X r) (sd : Sd2 X.K r rd) (ha : DB X b e1 w1) (hb : DB X b e2 w2) (hs : PlainIx e2) : DE X b (.Subscript e1 e2 pos) (wOp rd w1 w2) :=
  pe_weak (pe_ix ho ha hb hs) (lift2 sd)
theorem de_un {op : UnaryOp} {r : V → Hp → VK → Prop} {rd : D → Nat → (D → Nat → Prop) → Prop} (ho : UnR X (unaryOp op) r) (sd : Sd1 X.K r rd) (ha : DB X b e1 w1) : DE X b (.UnaryOp op e1 pos) (wUn rd w1) :=
  pe_weak (pe_un ho ha) fun σ H Q ⟨U, ρ, n, P, hr, hw, k⟩ => ⟨U, ρ, n, _, hr, hw, fun x n1 U1 H1 vx p1 g1 d1 => sd x n1 P U1 H1 vx Q g1.uh d1 p1 fun d n' U' H' v p g dx => k d n' U' H' v p (g1.trans g) dx⟩

/-! ### names and constants -/
def wVar (i : Nat) : WE := fun ρ n P => match ρ[i]? with
  | some (some (.val d)) => P d n
  | _ => False
/-- read within one step, of a list or a dict that the def owns -/
def wVarB (i : Nat) : WE := fun ρ n P => match ρ[i]? with
  | some (some (.val d)) => P d n
  | some (some (.own ds)) => P (.lst ds) n
  | some (some (.ownK ds)) => P (.dic ds) n
  | _ => False
def wK (d : D) : WE := fun _ n P => P d n
theorem dv (i : Nat) {x : Str} {pos : Pos} (hN : X.N[i]? = some x := by rfl) (hv : Vis X.env.scope x := by first | exact Or.inl rfl | exact Or.inr (Or.inl rfl) | exact Or.inr (Or.inr rfl)) (hd : (x == ("__debug__" : Str)) = false := by decide)
    (hcd : (x == ("__classdict__" : Str)) = false := by decide) : DE X b (.Name x pos) (wVar i) := pe_weak (pe_var hN hv hd hcd) fun σ H Q ⟨U, ρ, n, P, hr, hw, k⟩ => by
  unfold wVar at hw
  split at hw
  · rename_i d e
    obtain ⟨v, h1, h2⟩ := hr.sl _ _ e
    exact ⟨v, h1, k d n U H v hw (Grow.refl hr.same) h2⟩
  · exact hw.elim
theorem dvb (i : Nat) {x : Str} {pos : Pos} (hN : X.N[i]? = some x := by rfl) (hv : Vis X.env.scope x := by first | exact Or.inl rfl | exact Or.inr (Or.inl rfl) | exact Or.inr (Or.inr rfl)) (hd : (x == ("__debug__" : Str)) = false := by decide)
    (hcd : (x == ("__classdict__" : Str)) = false := by decide) : DB X b (.Name x pos) (wVarB i) := pe_weak (pe_var hN hv hd hcd) fun σ H Q ⟨U, ρ, n, P, hr, hw, k⟩ => by
  unfold wVarB at hw
  split at hw
  · rename_i d e
    obtain ⟨v, h1, h2⟩ := hr.sl _ _ e
    exact ⟨v, h1, k d n U H v hw (Grow.refl hr.same) (.inl h2)⟩
  · rename_i d e
    obtain ⟨v, h1, l, vs, rfl, h2, _, _, h3⟩ := hr.sl _ _ e
    exact ⟨_, h1, k _ n U H _ hw (Grow.refl hr.same) (.inr (.inl ⟨l, vs, d, rfl, rfl, h2, h3⟩))⟩
  · rename_i d e
    obtain ⟨v, h1, l, vs, rfl, h2, _, _, h3⟩ := hr.sl _ _ e
    exact ⟨_, h1, k _ n U H _ hw (Grow.refl hr.same) (.inr (.inr ⟨l, vs, d, rfl, rfl, h2, h3⟩))⟩
  · exact hw.elim
theorem de_K {v : V} {d : D} {t : TE} (h : PE X e t) (ht : t = tC v) (hd : ∀ K H, Den K H v d) : DE X b e (wK d) := pe_weak h fun σ H Q ⟨U, ρ, n, P, hr, hw, k⟩ => by
  subst ht
  exact k d n U H v hw (Grow.refl hr.same) (.of (hd _ _))
theorem de_int {i : Int} {j : Nat} : DE X b (.Constant (.int i) j pos) (wK (.int i)) := de_K pe_int rfl fun _ _ => .int i
theorem de_bl {i : Bool} {j : Nat} : DE X b (.Constant (.bool i) j pos) (wK (.bl i)) := de_K pe_bl rfl fun _ _ => .bl i
theorem de_non {j : Nat} : DE X b (.Constant .none j pos) (wK .non) := de_K pe_non rfl fun _ _ => .non
theorem de_str {i : Str} {j : Nat} : DE X b (.Constant (.str i) j pos) (wK (.str i)) := de_K pe_str rfl fun _ _ => .str i
/-- a module's constant int -/
theorem de_globI {x : Str} {i : Int} {t : Tok} (hg : Gl X x) (hm : X.mg x = some (.int i t)) (hd : (x == ("__debug__" : Str)) = false := by decide) : DE X b (.Name x pos) (wK (.int i)) := de_K (pe_glob hg hm (v := .int i) ⟨_, rfl⟩ hd) rfl fun _ _ => .int i
theorem de_globS {x : Str} {i : Str} {t : Tok} (hg : Gl X x) (hm : X.mg x = some (.str i t)) (hd : (x == ("__debug__" : Str)) = false := by decide) : DE X b (.Name x pos) (wK (.str i)) := de_K (pe_glob hg hm (v := .str i) ⟨_, rfl⟩ hd) rfl fun _ _ => .str i

/-! ### and, or, not, if; chains -/
def wAnd (w1 w2 : WE) : WE := fun ρ n P => w1 ρ n fun x n1 => match x with
  | .bl true => w2 ρ n1 P
  | .bl false => P (.bl false) n1
  | _ => False
def wOr (w1 w2 : WE) : WE := fun ρ n P => w1 ρ n fun x n1 => match x with
  | .bl true => P (.bl true) n1
  | .bl false => w2 ρ n1 P
  | _ => False
def wNot (w1 : WE) : WE := fun ρ n P => w1 ρ n fun x n1 => match x with
  | .bl c => P (.bl (!c)) n1
  | _ => False
theorem de_one {op : BoolOp} (h : DE X b e w) : DE X b (.BoolOp op [e] pos) w := pe_one h
theorem de_and {rest : List Expr} (ha : DE X b e1 w1) (hb : DE X b (.BoolOp .And (e2 :: rest) pos) w2) : DE X b (.BoolOp .And (e1 :: e2 :: rest) pos) (wAnd w1 w2) := pe_weak (pe_and ha hb) fun σ H Q ⟨U, ρ, n, P, hr, hw, k⟩ =>
  ⟨U, ρ, n, _, hr, hw, fun x n1 U1 H1 vx p1 g1 d1 => by
    cases x with
    | bl c =>
      cases d1
      refine ⟨c, rfl, ?_⟩
      cases c with
      | true => exact ⟨U1, ρ, n1, P, hr.grow g1, p1, fun d n' U' H' v p g dx => k d n' U' H' v p (g1.trans g) dx⟩
      | false => exact k _ _ _ _ _ p1 g1 (.of (.bl false))
    | _ => exact p1.elim⟩
theorem de_or {rest : List Expr} (ha : DE X b e1 w1) (hb : DE X b (.BoolOp .Or (e2 :: rest) pos) w2) : DE X b (.BoolOp .Or (e1 :: e2 :: rest) pos) (wOr w1 w2) := pe_weak (pe_or ha hb) fun σ H Q ⟨U, ρ, n, P, hr, hw, k⟩ =>
  ⟨U, ρ, n, _, hr, hw, fun x n1 U1 H1 vx p1 g1 d1 => by
    cases x with
    | bl c =>
      cases d1
      refine ⟨c, rfl, ?_⟩
      cases c with
      | false => exact ⟨U1, ρ, n1, P, hr.grow g1, p1, fun d n' U' H' v p g dx => k d n' U' H' v p (g1.trans g) dx⟩
      | true => exact k _ _ _ _ _ p1 g1 (.of (.bl true))
    | _ => exact p1.elim⟩
theorem de_not (ha : DE X b e1 w1) : DE X b (.UnaryOp .Not e1 pos) (wNot w1) := pe_weak (pe_not ha) fun σ H Q ⟨U, ρ, n, P, hr, hw, k⟩ =>
  ⟨U, ρ, n, _, hr, hw, fun x n1 U1 H1 vx p1 g1 d1 => by
    cases x with
    | bl c =>
      cases d1
      exact ⟨c, rfl, k _ _ _ _ _ p1 g1 (.of (.bl _))⟩
    | _ => exact p1.elim⟩
/-- a comparison in two steps, the middle asked once -/
def wChain (rd rd' : D → D → Nat → (D → Nat → Prop) → Prop) (w1 w2 w3 : WE) : WE := fun ρ n P => w1 ρ n fun x n1 => w2 ρ n1 fun y n2 => rd x y n2 fun z n3 => match z with
  | .bl true => w3 ρ n3 fun t n4 => rd' y t n4 P
  | .bl false => P (.bl false) n3
  | _ => False
theorem de_chain {op op' : CmpOp} {r r' : R2} {rd rd' : D → D → Nat → (D → Nat → Prop) → Prop} (ho : OpR X (compareOp op) r) (sd : Sd2 X.K r rd) (ho' : OpR X (compareOp op') r') (sd' : Sd2 X.K r' rd')
    (ha : DB X b e1 w1) (hb : DB X b e2 w2) (hc : DB X b e3 w3) (hm : lastMarks [op, op'] [e2, e3] = false := by rfl) : DE X b (.Compare e1 [op, op'] [e2, e3] pos) (wChain rd rd' w1 w2 w3) := pe_weak (pe_chain ho ho' ha hb hc hm) fun σ H Q ⟨U, ρ, n, P, hr, hw, k⟩ =>
  ⟨U, ρ, n, _, hr, hw, fun x n1 U1 H1 vx p1 g1 d1 => ⟨U1, ρ, n1, _, hr.grow g1, p1, fun y n2 U2 H2 vy p2 g2 d2 =>
    sd x y n2 _ U2 H2 vx vy _ g2.uh (d1.grow g2) d2 p2 fun z n3 U3 H3 vz p3 g3 d3 => by
      cases z with
      | bl c =>
        cases d3
        refine ⟨c, rfl, ?_⟩
        cases c with
        | false => exact k _ _ _ _ _ p3 ((g1.trans g2).trans g3) (.of (.bl false))
        | true =>
          refine ⟨U3, ρ, n3, _, (hr.grow g1).grow (g2.trans g3), p3, fun t n4 U4 H4 vt p4 g4 d4 => ?_⟩
          exact sd' y t n4 P U4 H4 vy vt Q g4.uh (d2.grow (g3.trans g4)) d4 p4 fun d n' U' H' v p g dx => k d n' U' H' v p (((g1.trans g2).trans (g3.trans g4)).trans g) dx
      | _ => exact p3.elim⟩⟩

/-! ### tests -/
def wB (w : WE) : WT := fun ρ n P => w ρ n fun x n1 => match x with
  | .bl c => P c n1
  | _ => False
theorem dt_val (h : DE X b e w) (he : ∀ whole, isTrue e X.env whole = (do let v ← whole; standAt e.pos; holding [v] (truthy v)) := by intro _; rfl) : DT X b e (wB w) := pt_weak (pt_val h he) fun σ H Q ⟨U, ρ, n, P, hr, hw, k⟩ =>
  ⟨U, ρ, n, _, hr, hw, fun x n1 U1 H1 vx p1 g1 d1 => by
    cases x with
    | bl c =>
      cases d1
      exact ⟨c, rfl, k _ _ _ _ p1 g1⟩
    | _ => exact p1.elim⟩
variable {t t1 t2 : WT}
def wAndT (w1 w2 : WT) : WT := fun ρ n P => w1 ρ n fun c n1 => if c = true then w2 ρ n1 P else P false n1
def wOrT (w1 w2 : WT) : WT := fun ρ n P => w1 ρ n fun c n1 => if c = true then P true n1 else w2 ρ n1 P
def wNotT (w1 : WT) : WT := fun ρ n P => w1 ρ n fun c n1 => P (!c) n1
theorem dt_pw (h : DW X b e t) : DT X b e t := PW.pt h
theorem dw_and1 (h : DT X b e t) : DW X b (.BoolOp .And [e] pos) t := pw_and1 h
theorem dw_or1 (h : DT X b e t) : DW X b (.BoolOp .Or [e] pos) t := pw_or1 h
theorem dw_and {rest : List Expr} (ha : DT X b e1 t1) (hb : DW X b (.BoolOp .And (e2 :: rest) pos) t2) : DW X b (.BoolOp .And (e1 :: e2 :: rest) pos) (wAndT t1 t2) := pw_weak (pw_and ha hb) fun σ H Q ⟨U, ρ, n, P, hr, hw, k⟩ =>
  ⟨U, ρ, n, _, hr, hw, fun c n1 U1 H1 p1 g1 => by
    cases c with
    | true => exact ⟨U1, ρ, n1, P, hr.grow g1, p1, fun d n' U' H' p g => k d n' U' H' p (g1.trans g)⟩
    | false => exact k _ _ _ _ p1 g1⟩
theorem dw_or {rest : List Expr} (ha : DT X b e1 t1) (hb : DW X b (.BoolOp .Or (e2 :: rest) pos) t2) : DW X b (.BoolOp .Or (e1 :: e2 :: rest) pos) (wOrT t1 t2) := pw_weak (pw_or ha hb) fun σ H Q ⟨U, ρ, n, P, hr, hw, k⟩ =>
  ⟨U, ρ, n, _, hr, hw, fun c n1 U1 H1 p1 g1 => by
    cases c with
    | false => exact ⟨U1, ρ, n1, P, hr.grow g1, p1, fun d n' U' H' p g => k d n' U' H' p (g1.trans g)⟩
    | true => exact k _ _ _ _ p1 g1⟩
theorem dt_not (ha : DT X b e1 t1) : DT X b (.UnaryOp .Not e1 pos) (wNotT t1) := pt_weak (pt_not ha) fun σ H Q ⟨U, ρ, n, P, hr, hw, k⟩ => ⟨U, ρ, n, _, hr, hw, fun c n1 U1 H1 p1 g1 => k _ _ _ _ p1 g1⟩
def wIf (t : WT) (w1 w2 : WE) : WE := fun ρ n P => t ρ n fun c n1 => if c = true then w1 ρ n1 P else w2 ρ n1 P
theorem de_if (hc : DT X b e t) (ha : DE X b e1 w1) (hb : DE X b e2 w2) : DE X b (.IfExp e e1 e2 pos) (wIf t w1 w2) := pe_weak (pe_ifExp hc ha hb) fun σ H Q ⟨U, ρ, n, P, hr, hw, k⟩ =>
  ⟨U, ρ, n, _, hr, hw, fun c n1 U1 H1 p1 g1 => by
    cases c with
    | true => exact ⟨U1, ρ, n1, P, hr.grow g1, p1, fun d n' U' H' v p g dx => k d n' U' H' v p (g1.trans g) dx⟩
    | false => exact ⟨U1, ρ, n1, P, hr.grow g1, p1, fun d n' U' H' v p g dx => k d n' U' H' v p (g1.trans g) dx⟩⟩

/-! ### argument lists, displays -/
variable {es : List Expr} {wf wf' : WF}
def wNil : WF := fun _ n P => P [] n
def wCons (w : WE) (r : WF) : WF := fun ρ n P => w ρ n fun x n1 => r ρ n1 fun xs n2 => P (x :: xs) n2
theorem da_nil : DA X b [] wNil := pa_weak pa_nil fun σ H Q ⟨U, ρ, n, P, hr, hw, k⟩ => k _ _ _ _ _ hw (Grow.refl hr.same) .nil
theorem da_cons (ha : DE X b e w) (hr : DA X b es wf) (hs : starEach (e :: es) X.env = (false, eval e X.env) :: starEach es X.env := by rfl) : DA X b (e :: es) (wCons w wf) := pa_weak (pa_cons ha hr hs) fun σ H Q ⟨U, ρ, n, P, hr, hw, k⟩ =>
  ⟨U, ρ, n, _, hr, hw, fun x n1 U1 H1 vx p1 g1 d1 => ⟨U1, ρ, n1, _, hr.grow g1, p1, fun xs n2 U2 H2 vs p2 g2 d2 => k _ _ _ _ _ p2 (g1.trans g2) (.cons (d1.grow g2) d2)⟩⟩
theorem dab_nil : DAB X b [] wNil := pa_weak pa_nil fun σ H Q ⟨U, ρ, n, P, hr, hw, k⟩ => k _ _ _ _ _ hw (Grow.refl hr.same) .nil
theorem dab_cons (ha : DB X b e w) (hr : DAB X b es wf) (hs : starEach (e :: es) X.env = (false, eval e X.env) :: starEach es X.env := by rfl) : DAB X b (e :: es) (wCons w wf) := pa_weak (pa_cons ha hr hs) fun σ H Q ⟨U, ρ, n, P, hr, hw, k⟩ =>
  ⟨U, ρ, n, _, hr, hw, fun x n1 U1 H1 vx p1 g1 d1 => ⟨U1, ρ, n1, _, hr.grow g1, p1, fun xs n2 U2 H2 vs p2 g2 d2 => k _ _ _ _ _ p2 (g1.trans g2) (.cons (d1.grow g2) d2)⟩⟩
theorem size_le {n : Nat} (h : n ≤ 1000000) : n ≤ sizeLine := Nat.le_trans h (by decide)
def wTup (r : WF) : WE := fun ρ n P => r ρ n fun xs n1 => xs.length ≤ 1000000 ∧ nbs xs ∧ P (.tup xs) n1
def wLst (r : WF) : WF := fun ρ n P => r ρ n fun xs n1 => xs.length ≤ 1000000 ∧ nbs xs ∧ P xs n1
theorem de_tup {x1 : Nat} (h : DA X b es wf) : DE X b (.Tuple es x1 pos) (wTup wf) := pe_weak (pe_tup h) fun σ H Q ⟨U, ρ, n, P, hr, hw, k⟩ =>
  ⟨U, ρ, n, _, hr, hw, fun xs n1 U1 H1 vs ⟨p1, p2, p3⟩ g1 d1 => ⟨by rw [d1.length]; exact size_le p1, fun p hp => k _ _ _ _ _ p3 (g1.trans (Grow.new g1.uh hp)) (Den.tup (SqT.of upd_same) ((d1.dens p2).mono (same_new (g1.uh.free hp))))⟩⟩
theorem df_lst (h : DA X b es wf) : DF X b (.List es pos) (wLst wf) := pe_weak (pe_lst h) fun σ H Q ⟨U, ρ, n, P, hr, hw, k⟩ =>
  ⟨U, ρ, n, _, hr, hw, fun xs n1 U1 H1 vs ⟨p1, p2, p3⟩ g1 d1 => ⟨by rw [d1.length]; exact size_le p1, fun p hp => k _ _ _ _ _ _ p3 (g1.trans (Grow.out g1.uh hp)) (g1.fresh hp) upd_same (g1.uh.free hp) (d1.dens p2)⟩⟩

/-! ### built-ins by name -/
variable {x : Str} {p : Pos}
theorem de_callB {id : String} {r : List V → Hp → VK → Prop} {rd : List D → Nat → (D → Nat → Prop) → Prop} (hc : CallR X (.builtin id) r) (sd : SdC X.K r rd) (hg : Gl X x) (hm : X.mg x = none) (hv : bootBuiltins x = some (.builtin id)) (ha : DAB X b (e :: es) wf)
    (hn : x ≠ "__name__" := by decide) (hdb : (x == ("__debug__" : Str)) = false := by decide) (he : starEach (e :: es) X.env = (false, eval e X.env) :: starEach es X.env := by rfl) (hpl : (backTo pos (starEach es X.env)).any (·.1) = false := by rfl) :
    DE X b (.Call (.Name x p) (e :: es) [] pos) (wC rd wf) := pe_weak (pe_callB hc hg hm hv ha hn hdb he hpl) fun σ H Q ⟨U, ρ, n, P, hr, hw, k⟩ =>
  ⟨U, ρ, n, _, hr, hw, fun xs n1 U1 H1 vs p1 g1 d1 => sd xs n1 P U1 H1 vs Q g1.uh d1 p1 fun d n' U' H' v p g dx => k d n' U' H' v p (g1.trans g) dx⟩
theorem df_callB {id : String} {r : List V → Hp → VK → Prop} {rd : List D → Nat → (List D → Nat → Prop) → Prop} (hc : CallR X (.builtin id) r) (sd : SdF X.K r rd) (hg : Gl X x) (hm : X.mg x = none) (hv : bootBuiltins x = some (.builtin id)) (ha : DAB X b (e :: es) wf)
    (hn : x ≠ "__name__" := by decide) (hdb : (x == ("__debug__" : Str)) = false := by decide) (he : starEach (e :: es) X.env = (false, eval e X.env) :: starEach es X.env := by rfl) (hpl : (backTo pos (starEach es X.env)).any (·.1) = false := by rfl) :
    DF X b (.Call (.Name x p) (e :: es) [] pos) (wCF rd wf) := pe_weak (pe_callB hc hg hm hv ha hn hdb he hpl) fun σ H Q ⟨U, ρ, n, P, hr, hw, k⟩ =>
  ⟨U, ρ, n, _, hr, hw, fun xs n1 U1 H1 vs p1 g1 d1 => sd xs n1 P U1 H1 vs Q g1.uh d1 p1 fun d n' U' H' l v p g h0 => k d n' U' H' l v p (g1.trans g) (g1.fresh h0)⟩
theorem de_callTy {T : String} {r : List V → Hp → VK → Prop} {rd : List D → Nat → (D → Nat → Prop) → Prop} (hc : CallR X (.type T) r) (sd : SdC X.K r rd) (hg : Gl X x) (hm : X.mg x = none) (hv : bootBuiltins x = some (.type T)) (ha : DAB X b (e :: es) wf)
    (hn : x ≠ "__name__" := by decide) (hdb : (x == ("__debug__" : Str)) = false := by decide) (he : starEach (e :: es) X.env = (false, eval e X.env) :: starEach es X.env := by rfl) (hpl : (backTo pos (starEach es X.env)).any (·.1) = false := by rfl) :
    DE X b (.Call (.Name x p) (e :: es) [] pos) (wC rd wf) := pe_weak (pe_callTy hc hg hm hv ha hn hdb he hpl) fun σ H Q ⟨U, ρ, n, P, hr, hw, k⟩ =>
  ⟨U, ρ, n, _, hr, hw, fun xs n1 U1 H1 vs p1 g1 d1 => sd xs n1 P U1 H1 vs Q g1.uh d1 p1 fun d n' U' H' v p g dx => k d n' U' H' v p (g1.trans g) dx⟩
theorem df_callTy {T : String} {r : List V → Hp → VK → Prop} {rd : List D → Nat → (List D → Nat → Prop) → Prop} (hc : CallR X (.type T) r) (sd : SdF X.K r rd) (hg : Gl X x) (hm : X.mg x = none) (hv : bootBuiltins x = some (.type T)) (ha : DAB X b (e :: es) wf)
    (hn : x ≠ "__name__" := by decide) (hdb : (x == ("__debug__" : Str)) = false := by decide) (he : starEach (e :: es) X.env = (false, eval e X.env) :: starEach es X.env := by rfl) (hpl : (backTo pos (starEach es X.env)).any (·.1) = false := by rfl) :
    DF X b (.Call (.Name x p) (e :: es) [] pos) (wCF rd wf) := pe_weak (pe_callTy hc hg hm hv ha hn hdb he hpl) fun σ H Q ⟨U, ρ, n, P, hr, hw, k⟩ =>
  ⟨U, ρ, n, _, hr, hw, fun xs n1 U1 H1 vs p1 g1 d1 => sd xs n1 P U1 H1 vs Q g1.uh d1 p1 fun d n' U' H' l v p g h0 => k d n' U' H' l v p (g1.trans g) (g1.fresh h0)⟩
end
end DL
/-! Data-level layer, 4: statements, loops, comprehensions, calls of defs. -/
namespace DL
open PySem PySem.Spec L2 PyProof.Rows

/-! ### what may be stored: a value, or a new list or dict that the def owns -/
abbrev WX := REnv → Nat → (Sl → Nat → Prop) → Prop
def FrOk (K : PySem.W.Frag) (H0 U H : Hp) (n : Nat) (v : V) : Sl → Prop
  | .val d => DenX K U H n v d
  | .own ds => ∃ l vs, v = .ref l ∧ H0 l = none ∧ H l = some (.lst vs) ∧ U l = none ∧ Dens K U vs ds
  | .ownK kvs => ∃ l es, v = .ref l ∧ H0 l = none ∧ H l = some (.dK es) ∧ U l = none ∧ DenK K U es kvs
def liftX (K : PySem.W.Frag) (b : Bs) (w : WX) : TE := fun σ H Q => ∃ U ρ n P, Rel K b U H n σ ρ ∧ w ρ n P ∧ ∀ s n' U' H' v, P s n' → Grow U H n U' H' n' → FrOk K H U' H' n' v s → Q v H'
def DX (X : Cx) (b : Bs) (e : Expr) (w : WX) : Prop := PE X e (liftX X.K b w)
def wV (w : WE) : WX := fun ρ n P => w ρ n fun d n1 => P (.val d) n1
def wO (w : WF) : WX := fun ρ n P => w ρ n fun ds n1 => P (.own ds) n1
theorem Rel.store {K : PySem.W.Frag} {b : Bs} {U H U' H' : Hp} {n n' : Nat} {σ : St} {ρ : REnv} {i : Nat} {v : V} {s : Sl} (r : Rel K b U H n σ ρ) (g : Grow U H n U' H' n') (f : FrOk K H U' H' n' v s) : Rel K b U' H' n' (σ.set i (some v)) (ρ.set i (some s)) := by
  cases s with
  | val d => exact (r.grow g).set f
  | own ds =>
    obtain ⟨l, vs, rfl, h0, h1, h2, h3⟩ := f
    exact (r.grow g).setO ⟨l, vs, rfl, h1, h2, r.g.fresh h0, h3⟩ fun j t hj e o q => r.noOwn h0 j t e o q
  | ownK ds =>
    obtain ⟨l, vs, rfl, h0, h1, h2, h3⟩ := f
    exact (r.grow g).setO ⟨l, vs, rfl, h1, h2, r.g.fresh h0, h3⟩ fun j t hj e o q => r.noOwn h0 j t e o q
section
variable {X : Cx} {b : Bs} {e e1 e2 e3 : Expr} {w w1 w2 w3 : WE} {wf : WF} {wx wx1 wx2 wx3 : WX} {pos : Pos} {st : Stmt} {rest body : List Stmt} {ws ws1 ws2 : WS} {t : WT}
theorem DE.toX (h : DE X b e w) : DX X b e (wV w) := pe_weak h fun σ H Q ⟨U, ρ, n, P, r, hw, k⟩ => ⟨U, ρ, n, _, r, hw, fun d n' U' H' v p g x => k _ n' U' H' v p g x⟩
theorem DF.toX (h : DF X b e wf) : DX X b e (wO wf) := pe_weak h fun σ H Q ⟨U, ρ, n, P, r, hw, k⟩ => ⟨U, ρ, n, _, r, hw, fun ds n' U' H' l vs p g h0 h1 h2 h3 => k _ n' U' H' _ p g ⟨l, vs, rfl, h0, h1, h2, h3⟩⟩
def wNewK : WX := fun _ n P => P (.ownK []) n
theorem dx_newK : DX X b (.Dict [] [] pos) wNewK := pe_weak pe_dnewK fun σ H Q ⟨U, ρ, n, P, r, hw, k⟩ p hp => k _ n U _ _ hw (Grow.out r.same hp) ⟨p, [], rfl, hp, upd_same, r.same.free hp, .nil⟩

/-! ### statements -/
def wNext : WS := fun DD ρ n => DD.nx ρ n
def wSeq (w1 w2 : WS) : WS := fun DD ρ n => w1 { DD with nx := w2 DD } ρ n
theorem EndsOk.with_nx {K : PySem.W.Frag} {b : Bs} {DD : DEnds} {E : Ends} {f : REnv → Nat → Prop} {g : St → Hp → Prop} (h : EndsOk K b DD E) (hn : ∀ U H n σ ρ, Rel K b U H n σ ρ → f ρ n → g σ H) : EndsOk K b { DD with nx := f } { E with nx := g } := ⟨hn, h.rt, h.bk, h.ct⟩
theorem dss_nil : DSs X b [] wNext := pss_weak pss_nil fun E σ H ⟨U, ρ, n, DD, r, hw, k⟩ => k.nx U H n σ ρ r hw
theorem dss_one (h : DS X b st ws) : DSs X b [st] ws := pss_one h
theorem dss_cons (h1 : DS X b st ws1) (h2 : DSs X b rest ws2) : DSs X b (st :: rest) (wSeq ws1 ws2) := pss_weak (pss_cons h1 h2) fun E σ H ⟨U, ρ, n, DD, r, hw, k⟩ =>
  ⟨U, ρ, n, _, r, hw, k.with_nx fun U' H' n' σ' ρ' r' q => ⟨U', ρ', n', DD, r', q, k⟩⟩
def wNever : WS := fun _ _ _ => False
theorem ds_never : DS X b st wNever := ps_weak ps_never fun E σ H ⟨U, ρ, n, DD, r, hw, k⟩ => hw.elim
theorem dss_never : DSs X b rest wNever := pss_weak pss_never fun E σ H ⟨U, ρ, n, DD, r, hw, k⟩ => hw.elim
theorem ds_pass : DS X b (.Pass pos) wNext := ps_weak ps_pass fun E σ H ⟨U, ρ, n, DD, r, hw, k⟩ => k.nx U H n σ ρ r hw
def wBreak : WS := fun DD ρ n => DD.bk ρ n
def wCont : WS := fun DD ρ n => DD.ct ρ n
theorem ds_break : DS X b (.Break pos) wBreak := ps_weak ps_break fun E σ H ⟨U, ρ, n, DD, r, hw, k⟩ => k.bk U H n σ ρ r hw
theorem ds_cont : DS X b (.Continue pos) wCont := ps_weak ps_continue fun E σ H ⟨U, ρ, n, DD, r, hw, k⟩ => k.ct U H n σ ρ r hw
def wRet (w : WE) : WS := fun DD ρ n => w ρ n DD.rt
theorem ds_ret (h : DE X b e w) : DS X b (.Return (some e) pos) (wRet w) := ps_weak (ps_ret h) fun E σ H ⟨U, ρ, n, DD, r, hw, k⟩ => ⟨U, ρ, n, _, r, hw, fun d n' U' H' v p g dx => k.rt U' H' n' v d (r.g.trans g) dx p⟩
def wRetN : WS := fun DD _ n => DD.rt .non n
theorem ds_retN : DS X b (.Return none pos) wRetN := ps_weak ps_retN fun E σ H ⟨U, ρ, n, DD, r, hw, k⟩ => k.rt U H n .non .non r.g (.of .non) hw
def wDrop (w : WE) : WS := fun DD ρ n => w ρ n fun _ n1 => DD.nx ρ n1
theorem ds_expr (h : DE X b e w) (hs : swapsWith e none pos.line X.env = pure false := by rfl) : DS X b (.Expr e pos) (wDrop w) := ps_weak (ps_expr h hs) fun E σ H ⟨U, ρ, n, DD, r, hw, k⟩ => ⟨U, ρ, n, _, r, hw, fun d n' U' H' v p g dx => k.nx _ _ _ _ _ (r.grow g) p⟩
def wIfS (t : WT) (w1 w2 : WS) : WS := fun DD ρ n => t ρ n fun c n1 => if c = true then w1 DD ρ n1 else w2 DD ρ n1
theorem ds_if {b1 b2 : List Stmt} (h : DT X b e t) (h1 : DSs X b b1 ws1) (h2 : DSs X b b2 ws2) : DS X b (.If e b1 b2 pos) (wIfS t ws1 ws2) := ps_weak (ps_if h h1 h2) fun E σ H ⟨U, ρ, n, DD, r, hw, k⟩ =>
  ⟨U, ρ, n, _, r, hw, fun c n' U' H' p g => by
    cases c with
    | true => exact ⟨U', ρ, n', DD, r.grow g, p, k⟩
    | false => exact ⟨U', ρ, n', DD, r.grow g, p, k⟩⟩
def wAsg (i : Nat) (w : WX) : WS := fun DD ρ n => w ρ n fun s n1 => DD.nx (ρ.set i (some s)) n1
theorem ds_asg {i : Nat} {x : Str} {pos' : Pos} (hN : X.N.Nodup) (he : DX X b e wx) (hi : X.N[i]? = some x := by rfl) (hx : Loc X.env.scope x := by first | exact .inl rfl | exact .inr rfl)
    (hs : swapsWith e (some (.Name x pos')) pos.line X.env = pure false := by rfl) (hf : X.fn x = true ∨ X.env.scope.names.lookup x = some .local := by first | exact .inl rfl | exact .inr rfl | assumption) :
    DS X b (.Assign [.Name x pos'] e pos) (wAsg i wx) := ps_weak (ps_set hN hi hx he hs hf) fun E σ H ⟨U, ρ, n, DD, r, hw, k⟩ => ⟨U, ρ, n, _, r, hw, fun s n' U' H' v p g f => k.nx _ _ _ _ _ (r.store g f) p⟩
/-- x, y = e1, e2: no tuple is made -/
def wPar (i j : Nat) (w1 w2 : WX) : WS := fun DD ρ n => w1 ρ n fun s n1 => w2 ρ n1 fun u n2 => DD.nx ((ρ.set i (some s)).set j (some u)) n2
theorem FrOk.grow {K : PySem.W.Frag} {H0 U H U' H' : Hp} {n n' : Nat} {v : V} {s : Sl} (g : Grow U H n U' H' n') (f : FrOk K H0 U H n v s) : FrOk K H0 U' H' n' v s := by
  cases s with
  | val d => exact DenX.grow g f
  | own ds =>
    obtain ⟨l, vs, e, h0, h1, h2, h3⟩ := f
    exact ⟨l, vs, e, h0, g.lst h1, g.no l (by rw [h1]; simp) h2, h3.mono g.u⟩
  | ownK ds =>
    obtain ⟨l, vs, e, h0, h1, h2, h3⟩ := f
    exact ⟨l, vs, e, h0, g.dK h1, g.no l (by rw [h1]; simp) h2, h3.mono g.u⟩
theorem ds_par {i j : Nat} {x y : Str} {px py pt : Pos} {kt k2 : Nat} {pt2 : Pos} (hc : X.calm = true) (hN : X.N.Nodup) (hij : i ≠ j) (ha : DX X b e1 wx1) (hb : DX X b e2 wx2)
    (hps : PS X (.Assign [.Tuple [.Name x px, .Name y py] kt pt] (.Tuple [e1, e2] k2 pt2) pos) (tPar i j (tCons (liftX X.K b wx1) (tCons (liftX X.K b wx2) tNil)))) :
    DS X b (.Assign [.Tuple [.Name x px, .Name y py] kt pt] (.Tuple [e1, e2] k2 pt2) pos) (wPar i j wx1 wx2) := ps_weak hps fun E σ H ⟨U, ρ, n, DD, r, hw, k⟩ =>
  ⟨U, ρ, n, _, r, hw, fun s n1 U1 H1 v p1 g1 f1 => ⟨U1, ρ, n1, _, r.grow g1, p1, fun u n2 U2 H2 v2 p2 g2 f2 => ⟨v, v2, rfl, k.nx _ _ _ _ _ (Rel.store (i := j) (r.store (i := i) g1 f1) g2 f2) p2⟩⟩⟩
theorem ds_par2 {i j : Nat} {x y : Str} {px py pt : Pos} {kt k2 : Nat} {pt2 : Pos} (hc : X.calm = true) (hN : X.N.Nodup) (hij : i ≠ j) (ha : DX X b e1 wx1) (hb : DX X b e2 wx2)
    (hi : X.N[i]? = some x := by rfl) (hj : X.N[j]? = some y := by rfl) (hx : X.env.scope.names.lookup x = some .local := by rfl) (hy : X.env.scope.names.lookup y = some .local := by rfl)
    (hw : swappedStores [.Tuple [.Name x px, .Name y py] kt pt] (.Tuple [e1, e2] k2 pt2) X.env = pure (some [x, y]) := by rfl)
    (hs : swapsWithSole [.Tuple [.Name x px, .Name y py] kt pt] (.Tuple [e1, e2] k2 pt2) pos.line X.env = pure false := by rfl)
    (s1 : starEach [e1, e2] X.env = (false, eval e1 X.env) :: starEach [e2] X.env := by rfl) (s2 : starEach [e2] X.env = (false, eval e2 X.env) :: starEach [] X.env := by rfl) :
    DS X b (.Assign [.Tuple [.Name x px, .Name y py] kt pt] (.Tuple [e1, e2] k2 pt2) pos) (wPar i j wx1 wx2) :=
  ds_par hc hN hij ha hb (ps_par hc hN hi hj hij hx hy (pa_cons ha (pa_cons hb pa_nil s2) s1) hw hs)
/-- the same where a tuple is made on the way -/
theorem ds_parT {i j : Nat} {x y : Str} {px py pt : Pos} {kt k2 : Nat} {pt2 : Pos} (hc : X.calm = true) (hN : X.N.Nodup) (ha : DX X b e1 wx1) (hb : DX X b e2 wx2)
    (hi : X.N[i]? = some x := by rfl) (hj : X.N[j]? = some y := by rfl) (hx : Loc X.env.scope x := by first | exact .inl rfl | exact .inr rfl) (hy : Loc X.env.scope y := by first | exact .inl rfl | exact .inr rfl)
    (hfx : X.fn x = true ∨ X.env.scope.names.lookup x = some .local := by first | exact .inl rfl | exact .inr rfl | assumption) (hfy : X.fn y = true ∨ X.env.scope.names.lookup y = some .local := by first | exact .inl rfl | exact .inr rfl | assumption)
    (hw : swappedStores [.Tuple [.Name x px, .Name y py] kt pt] (.Tuple [e1, e2] k2 pt2) X.env = pure none := by rfl)
    (hs : swapsWithSole [.Tuple [.Name x px, .Name y py] kt pt] (.Tuple [e1, e2] k2 pt2) pos.line X.env = pure false := by rfl)
    (s1 : starEach [e1, e2] X.env = (false, eval e1 X.env) :: starEach [e2] X.env := by rfl) (s2 : starEach [e2] X.env = (false, eval e2 X.env) :: starEach [] X.env := by rfl)
    (hn : (assignEach [.Name x px, .Name y py] X.env).length = 2 := by rfl) (hst : (assignEach [.Name x px, .Name y py] X.env).findIdx? (·.1) = none := by rfl) 
    (pg : PG X (.Tuple [.Name x px, .Name y py] kt pt) (gTup X.K 2 (gCons (gName i) (gCons (gName j) gNil))) := by exact pg_tup hc (pgs_cons (pg_name hN hi hx hfx) (pgs_cons (pg_name hN hj hy hfy) pgs_nil)) hn hst) :
    DS X b (.Assign [.Tuple [.Name x px, .Name y py] kt pt] (.Tuple [e1, e2] k2 pt2) pos) (wPar i j wx1 wx2) := ps_weak (ps_asg (pe_tup (pa_cons ha (pa_cons hb pa_nil s2) s1)) pg hs hw) fun E σ H ⟨U, ρ, n, DD, r, hw, k⟩ =>
  ⟨U, ρ, n, _, r, hw, fun s n1 U1 H1 v p1 g1 f1 => ⟨U1, ρ, n1, _, r.grow g1, p1, fun u n2 U2 H2 v2 p2 g2 f2 => ⟨by show 2 ≤ sizeLine; decide, fun p hp => by
    have g3 : Grow U2 H2 n2 U2 (upd H2 p (.tup [v, v2])) n2 := Grow.out g2.uh hp
    exact ⟨p, [v, v2], rfl, SqT.of upd_same, rfl, v, [v2], rfl, v2, [], rfl, rfl, k.nx _ _ _ _ _ ((Rel.store (i := j) (r.store (i := i) g1 f1) g2 f2).grow g3) p2⟩⟩⟩⟩
end
end DL
/-! Data-level layer, 5: owned lists and dicts, loops, comprehensions, calls of defs. -/
namespace DL
open PySem PySem.Spec L2 PyProof.Rows

/-- an owned list is written -/
theorem Rel.put {K : PySem.W.Frag} {b : Bs} {U H : Hp} {n : Nat} {σ : St} {ρ : REnv} {i : Nat} {l : Addr} {ds ds' : List D} {vs' : List V} (r : Rel K b U H n σ ρ) (hi : ρ[i]? = some (some (.own ds))) (hs : σ[i]? = some (some (.ref l)))
    (hd : Dens K U vs' ds') : Rel K b U (upd H l (.lst vs')) n σ (ρ.set i (some (.own ds'))) := by
  obtain ⟨v, e, l', vs, e', h1, h2, h3, h4⟩ := r.sl _ _ hi
  rw [hs] at e
  cases e
  cases e'
  have il : i < ρ.length := (List.getElem?_eq_some_iff.mp hi).1
  have look : ∀ {m : Nat} {u : Sl}, (ρ.set i (some (.own ds')))[m]? = some (some u) → (m = i ∧ u = .own ds') ∨ (m ≠ i ∧ ρ[m]? = some (some u)) := fun {m u} q => by
    by_cases hm : i = m
    · subst hm
      rw [List.getElem?_set_self il] at q
      simp at q
      exact .inl ⟨rfl, q.symm⟩
    · rw [List.getElem?_set_ne hm] at q
      exact .inr ⟨fun z => hm z.symm, q⟩
  have old : ∀ {m : Nat} {u : Sl}, (ρ.set i (some (.own ds')))[m]? = some (some u) → u.isOwn → ∃ u0 : Sl, u0.isOwn ∧ ρ[m]? = some (some u0) := fun {m u} q o => by
    rcases look q with ⟨e1, e2⟩ | ⟨_, q⟩
    · subst e1
      exact ⟨.own ds, trivial, hi⟩
    · exact ⟨u, o, q⟩
  refine ⟨r.g.put h3 h2, by simp [r.len], fun j s q => ?_, fun j k s t m ne e1 e2 o1 o2 q1 q2 => ?_⟩
  · rcases look q with ⟨e1, e2⟩ | ⟨hj, q⟩
    · subst e1 e2
      exact ⟨_, hs, l, vs', rfl, upd_same, h2, h3, hd⟩
    · obtain ⟨v, q1, q2⟩ := r.sl j s q
      refine ⟨v, q1, ?_⟩
      cases s with
      | val d =>
        cases d with
        | box =>
          obtain ⟨m, N, e, z1, z2, z3⟩ := q2
          refine ⟨m, N, e, ?_, z2, z3⟩
          rw [upd_ne (ne_of z1 h1 (fun z => by cases z))]
          exact z1
        | _ => exact q2
      | own ds2 =>
        obtain ⟨m, vs2, e, z1, z2, z3, z4⟩ := q2
        refine ⟨m, vs2, e, ?_, z2, z3, z4⟩
        subst e
        rw [upd_ne (fun z => r.dis j i _ _ m hj q hi trivial trivial q1 (by rw [z]; exact hs))]
        exact z1
      | ownK ds2 =>
        obtain ⟨m, vs2, e, z1, z2, z3, z4⟩ := q2
        refine ⟨m, vs2, e, ?_, z2, z3, z4⟩
        rw [upd_ne (ne_of z1 h1 (fun z => by cases z))]
        exact z1
  · obtain ⟨s0, o3, e3⟩ := old e1 o1
    obtain ⟨t0, o4, e4⟩ := old e2 o2
    exact r.dis j k s0 t0 m ne e3 e4 o3 o4 q1 q2
theorem Rel.putK {K : PySem.W.Frag} {b : Bs} {U H : Hp} {n : Nat} {σ : St} {ρ : REnv} {i : Nat} {l : Addr} {ds ds' : List (Key × D)} {vs' : List (Key × V)} (r : Rel K b U H n σ ρ) (hi : ρ[i]? = some (some (.ownK ds))) (hs : σ[i]? = some (some (.ref l)))
    (hd : DenK K U vs' ds') : Rel K b U (upd H l (.dK vs')) n σ (ρ.set i (some (.ownK ds'))) := by
  obtain ⟨v, e, l', vs, e', h1, h2, h3, h4⟩ := r.sl _ _ hi
  rw [hs] at e
  cases e
  cases e'
  have il : i < ρ.length := (List.getElem?_eq_some_iff.mp hi).1
  have look : ∀ {m : Nat} {u : Sl}, (ρ.set i (some (.ownK ds')))[m]? = some (some u) → (m = i ∧ u = .ownK ds') ∨ (m ≠ i ∧ ρ[m]? = some (some u)) := fun {m u} q => by
    by_cases hm : i = m
    · subst hm
      rw [List.getElem?_set_self il] at q
      simp at q
      exact .inl ⟨rfl, q.symm⟩
    · rw [List.getElem?_set_ne hm] at q
      exact .inr ⟨fun z => hm z.symm, q⟩
  have old : ∀ {m : Nat} {u : Sl}, (ρ.set i (some (.ownK ds')))[m]? = some (some u) → u.isOwn → ∃ u0 : Sl, u0.isOwn ∧ ρ[m]? = some (some u0) := fun {m u} q o => by
    rcases look q with ⟨e1, e2⟩ | ⟨_, q⟩
    · subst e1
      exact ⟨.ownK ds, trivial, hi⟩
    · exact ⟨u, o, q⟩
  refine ⟨r.g.put h3 h2, by simp [r.len], fun j s q => ?_, fun j k s t m ne e1 e2 o1 o2 q1 q2 => ?_⟩
  · rcases look q with ⟨e1, e2⟩ | ⟨hj, q⟩
    · subst e1 e2
      exact ⟨_, hs, l, vs', rfl, upd_same, h2, h3, hd⟩
    · obtain ⟨v, q1, q2⟩ := r.sl j s q
      refine ⟨v, q1, ?_⟩
      cases s with
      | val d =>
        cases d with
        | box =>
          obtain ⟨m, N, e, z1, z2, z3⟩ := q2
          refine ⟨m, N, e, ?_, z2, z3⟩
          rw [upd_ne (ne_of z1 h1 (fun z => by cases z))]
          exact z1
        | _ => exact q2
      | ownK ds2 =>
        obtain ⟨m, vs2, e, z1, z2, z3, z4⟩ := q2
        refine ⟨m, vs2, e, ?_, z2, z3, z4⟩
        subst e
        rw [upd_ne (fun z => r.dis j i _ _ m hj q hi trivial trivial q1 (by rw [z]; exact hs))]
        exact z1
      | own ds2 =>
        obtain ⟨m, vs2, e, z1, z2, z3, z4⟩ := q2
        refine ⟨m, vs2, e, ?_, z2, z3, z4⟩
        rw [upd_ne (ne_of z1 h1 (fun z => by cases z))]
        exact z1
  · obtain ⟨s0, o3, e3⟩ := old e1 o1
    obtain ⟨t0, o4, e4⟩ := old e2 o2
    exact r.dis j k s0 t0 m ne e3 e4 o3 o4 q1 q2
/-- an owned list is handed on: from here on it is a value -/
theorem Rel.free {K : PySem.W.Frag} {b : Bs} {U H : Hp} {n : Nat} {σ : St} {ρ : REnv} {i : Nat} {ds : List D} (r : Rel K b U H n σ ρ) (hi : ρ[i]? = some (some (.own ds))) : ∃ U', Rel K b U' H n σ (ρ.set i (some (.val (.lst ds)))) := by
  obtain ⟨v, e, l, vs, rfl, h1, h2, h3, h4⟩ := r.sl _ _ hi
  have sm : Same U (upd U l (.lst vs)) := same_new h2
  have il : i < ρ.length := (List.getElem?_eq_some_iff.mp hi).1
  refine ⟨upd U l (.lst vs), r.g.take h3 h1 h2, by simp [r.len], fun j s q => ?_, fun j k s t m ne e1 e2 o1 o2 q1 q2 => ?_⟩
  · by_cases hj : i = j
    · subst hj
      rw [List.getElem?_set_self il] at q
      simp at q
      subst q
      exact ⟨.ref l, e, Den.lst upd_same (h4.mono sm)⟩
    · rw [List.getElem?_set_ne hj] at q
      obtain ⟨v, q1, q2⟩ := r.sl j s q
      refine ⟨v, q1, ?_⟩
      cases s with
      | val d =>
        cases d with
        | box =>
          obtain ⟨m, N, e, z1, z2, z3⟩ := q2
          refine ⟨m, N, e, z1, ?_, z3⟩
          rw [upd_ne (ne_of z1 h1 (fun z => by cases z))]
          exact z2
        | _ => exact Den.mono sm q2
      | own ds2 =>
        obtain ⟨m, vs2, e2, z1, z2, z3, z4⟩ := q2
        refine ⟨m, vs2, e2, z1, ?_, z3, z4.mono sm⟩
        subst e2
        rw [upd_ne (fun z => r.dis i j _ _ m hj hi q trivial trivial (by rw [z]; exact e) q1)]
        exact z2
      | ownK ds2 =>
        obtain ⟨m, vs2, e2, z1, z2, z3, z4⟩ := q2
        refine ⟨m, vs2, e2, z1, ?_, z3, z4.mono sm⟩
        rw [upd_ne (ne_of z1 h1 (fun z => by cases z))]
        exact z2
  · have back : ∀ {m : Nat} {u : Sl}, (ρ.set i (some (.val (.lst ds))))[m]? = some (some u) → u.isOwn → ρ[m]? = some (some u) := fun {m u} q o => by
      by_cases hm : i = m
      · subst hm
        rw [List.getElem?_set_self il] at q
        simp at q
        subst q
        exact o.elim
      · rw [List.getElem?_set_ne hm] at q
        exact q
    exact r.dis j k s t m ne (back e1 o1) (back e2 o2) o1 o2 q1 q2
theorem Rel.freeK {K : PySem.W.Frag} {b : Bs} {U H : Hp} {n : Nat} {σ : St} {ρ : REnv} {i : Nat} {ds : List (Key × D)} (r : Rel K b U H n σ ρ) (hi : ρ[i]? = some (some (.ownK ds))) : ∃ U', Rel K b U' H n σ (ρ.set i (some (.val (.dic ds)))) := by
  obtain ⟨v, e, l, vs, rfl, h1, h2, h3, h4⟩ := r.sl _ _ hi
  have sm : Same U (upd U l (.dK vs)) := same_new h2
  have il : i < ρ.length := (List.getElem?_eq_some_iff.mp hi).1
  refine ⟨upd U l (.dK vs), r.g.take h3 h1 h2, by simp [r.len], fun j s q => ?_, fun j k s t m ne e1 e2 o1 o2 q1 q2 => ?_⟩
  · by_cases hj : i = j
    · subst hj
      rw [List.getElem?_set_self il] at q
      simp at q
      subst q
      exact ⟨.ref l, e, Den.dic upd_same (h4.mono sm)⟩
    · rw [List.getElem?_set_ne hj] at q
      obtain ⟨v, q1, q2⟩ := r.sl j s q
      refine ⟨v, q1, ?_⟩
      cases s with
      | val d =>
        cases d with
        | box =>
          obtain ⟨m, N, e, z1, z2, z3⟩ := q2
          refine ⟨m, N, e, z1, ?_, z3⟩
          rw [upd_ne (ne_of z1 h1 (fun z => by cases z))]
          exact z2
        | _ => exact Den.mono sm q2
      | ownK ds2 =>
        obtain ⟨m, vs2, e2, z1, z2, z3, z4⟩ := q2
        refine ⟨m, vs2, e2, z1, ?_, z3, z4.mono sm⟩
        subst e2
        rw [upd_ne (fun z => r.dis i j _ _ m hj hi q trivial trivial (by rw [z]; exact e) q1)]
        exact z2
      | own ds2 =>
        obtain ⟨m, vs2, e2, z1, z2, z3, z4⟩ := q2
        refine ⟨m, vs2, e2, z1, ?_, z3, z4.mono sm⟩
        rw [upd_ne (ne_of z1 h1 (fun z => by cases z))]
        exact z2
  · have back : ∀ {m : Nat} {u : Sl}, (ρ.set i (some (.val (.dic ds))))[m]? = some (some u) → u.isOwn → ρ[m]? = some (some u) := fun {m u} q o => by
      by_cases hm : i = m
      · subst hm
        rw [List.getElem?_set_self il] at q
        simp at q
        subst q
        exact o.elim
      · rw [List.getElem?_set_ne hm] at q
        exact q
    exact r.dis j k s t m ne (back e1 o1) (back e2 o2) o1 o2 q1 q2
/-- the slot's list or dict is a value from here on -/
def freeD (i : Nat) (ρ : REnv) : REnv := match ρ[i]? with
  | some (some (.own ds)) => ρ.set i (some (.val (.lst ds)))
  | some (some (.ownK ds)) => ρ.set i (some (.val (.dic ds)))
  | _ => ρ
def wFree (i : Nat) (w : WS) : WS := fun DD ρ n => w DD (freeD i ρ) n
section
variable {X : Cx} {b : Bs} {e e1 e2 e3 : Expr} {w w1 w2 w3 : WE} {wf : WF} {pos : Pos} {st : Stmt} {rest body : List Stmt} {ws ws1 ws2 : WS} {t : WT}
theorem dss_free (i : Nat) (h : DSs X b rest ws) : DSs X b rest (wFree i ws) := pss_weak h fun E σ H ⟨U, ρ, n, DD, r, hw, k⟩ => by
  unfold wFree freeD at hw
  split at hw
  · rename_i ds e
    obtain ⟨U', r'⟩ := r.free e
    exact ⟨U', _, n, DD, r', hw, k⟩
  · rename_i ds e
    obtain ⟨U', r'⟩ := r.freeK e
    exact ⟨U', _, n, DD, r', hw, k⟩
  · exact ⟨U, ρ, n, DD, r, hw, k⟩

/-! ### owned lists written -/
theorem own_at {K : PySem.W.Frag} {U H : Hp} {n : Nat} {σ : St} {ρ : REnv} {i : Nat} {ds : List D} (r : Rel K b U H n σ ρ) (e : ρ[i]? = some (some (.own ds))) : ∃ l vs, σ[i]? = some (some (.ref l)) ∧ H l = some (.lst vs) ∧ U l = none ∧ b.H l = none ∧ Dens K U vs ds := by
  obtain ⟨v, h1, l, vs, rfl, h2, h3, h4, h5⟩ := r.sl _ _ e
  exact ⟨l, vs, h1, h2, h3, h4, h5⟩
/-- x.append(e) -/
def wApp (i : Nat) (w : WE) : WS := fun DD ρ n => w ρ n fun d n1 => match ρ[i]? with
  | some (some (.own ds)) => ds.length < 1000000 ∧ d.nb ∧ DD.nx (ρ.set i (some (.own (ds ++ [d])))) n1
  | _ => False
theorem size_lt {n : Nat} (h : n < 1000000) : n < sizeLine := Nat.lt_of_lt_of_le h (by decide)
/-- the method's own object, a name -/
def wApp0 (i : Nat) (w : WE) : WS := fun DD ρ n => (∃ ds, ρ[i]? = some (some (.own ds))) ∧ wApp i w DD ρ n
theorem ds_app (i : Nat) {x : Str} {px pa : Pos} {pos' : Pos} (h : DE X b e w) (hN : X.N[i]? = some x := by rfl) (hv : Vis X.env.scope x := by first | exact Or.inl rfl | exact Or.inr (Or.inl rfl) | exact Or.inr (Or.inr rfl)) (hd : (x == ("__debug__" : Str)) = false := by decide)
    (hcd : (x == ("__classdict__" : Str)) = false := by decide)
    (hps : PE X (.Call (.Attribute (.Name x px) "append" pa) [e] [] pos) (tBM X.K "list" rAppend (tVar i) (tCons (lift X.K b w) tNil)) := by exact pe_bm PySem.F.plainAttrs_list PySem.F.slot_list_append PySem.F.type_list_append mt_append (pe_var (by rfl) (by first | exact Or.inl rfl | exact Or.inr (Or.inl rfl) | exact Or.inr (Or.inr rfl))) (pa_cons (by assumption) pa_nil))
    (hs : swapsWith (.Call (.Attribute (.Name x px) "append" pa) [e] [] pos) none pos'.line X.env = pure false := by rfl) :
    DS X b (.Expr (.Call (.Attribute (.Name x px) "append" pa) [e] [] pos) pos') (wApp0 i w) := ps_weak (ps_expr hps hs) fun E σ H ⟨U, ρ, n, DD, r, ⟨⟨ds0, e0⟩, hw⟩, k⟩ => by
  obtain ⟨l, vs, h1, h2, h3, h4, h5⟩ := own_at r e0
  refine ⟨_, h1, .inl ⟨rfl, vs, SqL.of h2⟩, U, ρ, n, _, r, hw, fun d n' U' H' v p g dx => ?_⟩
  obtain ⟨p1, p2, p3⟩ := (show _ ∧ _ ∧ _ by rw [e0] at p; exact p)
  have r' := r.grow g
  refine ⟨l, vs, v, rfl, rfl, g.lst h2, size_lt (by rw [h5.length]; exact p1), ?_⟩
  exact k.nx _ _ _ _ _ (r'.put e0 h1 ((h5.mono g.u).snoc (dx.den p2))) p3

/-! ### calls of defs -/
/-- a promise told over data -/
abbrev FD := List D → Nat → (D → Nat → Prop) → Prop
def spD (K : PySem.W.Frag) (F : FD) : Sp := fun vs H Q _ => ∃ U n ds P, Same U H ∧ DensX K U H n vs ds ∧ F ds n P ∧ ∀ d n' U' H' v, P d n' → Grow U H n U' H' n' → DenX K U' H' n' v d → Q v H'
def wCall (F : FD) (w : WF) : WE := fun ρ n P => w ρ n fun ds n1 => F ds n1 P
variable {CX : CXT} {k : Nat} {f : Addr} {fd : FuncData} {ps : List Str} {F : FD} {x : Str} {p : Pos} {es : List Expr}
theorem de_call (G : FnOk X.prog X.w X.K X.mg X.base CX k f fd ps (spD X.K F)) (hr : Room k X.A) (hm : X.mg x = some (.ref f)) (hk : PySem.W.keepIn X.K (.ref f) = true) (hb : Binds X.K fd ps []) (hx : Passes CX X E0) (ha : DA X b (e :: es) wf) (hg : Gl X x := by rfl)
    (hdb : (x == ("__debug__" : Str)) = false := by decide) (he : starEach (e :: es) X.env = (false, eval e X.env) :: starEach es X.env := by rfl) (hpl : (backTo pos (starEach es X.env)).any (·.1) = false := by rfl) :
    DE X b (.Call (.Name x p) (e :: es) [] pos) (wCall F wf) := pe_weak (pe_call G hr hg hm hk hb .nil hx ha hdb he hpl) fun σ H Q ⟨U, ρ, n, P, r, hw, k⟩ =>
  ⟨U, ρ, n, _, r, hw, fun ds n1 U1 H1 vs p1 g1 d1 => by
    show spD X.K F (vs ++ []) H1 Q E0
    rw [List.append_nil]
    exact ⟨U1, n1, ds, P, g1.uh, d1, p1, fun d n' U' H' v p g dx => k d n' U' H' v p (g1.trans g) dx⟩⟩
/-- f(k = e, ..) -/
def wCallK (F : FD) (gD : List D → List D → List D) (w wk : WF) : WE := fun ρ n P => w ρ n fun ds n1 => wk ρ n1 fun zs n2 => F (gD ds zs) n2 P
def DK (X : Cx) (b : Bs) (kws : List Keyword) (w : WF) : Prop := PK X kws (liftA X.K b w)
end

/-! ### a def keeps its promise -/
def startD (N : List Str) (ds : List D) : REnv := ds.map (fun d => some (.val d)) ++ List.replicate (N.length - ds.length) none
theorem rel_start {K : PySem.W.Frag} {U H : Hp} {n : Nat} {vs : List V} {ds : List D} (N : List Str) (e : Same U H) (h : DensX K U H n vs ds) : Rel K ⟨U, H, n⟩ U H n (L2.start N vs) (startD N ds) := by
  have look : ∀ {i : Nat} {s : Sl}, (startD N ds)[i]? = some (some s) → ∃ d, ds[i]? = some d ∧ s = .val d := fun {i s} q => by
    unfold startD at q
    by_cases hi : i < ds.length
    · rw [List.getElem?_append_left (by simpa using hi), List.getElem?_map] at q
      cases z : ds[i]? with
      | none => rw [z] at q; cases q
      | some d =>
        rw [z] at q
        simp at q
        exact ⟨d, rfl, q.symm⟩
    · rw [List.getElem?_append_right (by simpa using hi), List.getElem?_replicate] at q
      split at q <;> cases q
  refine ⟨Grow.refl e, ?_, fun i s q => ?_, fun i j s t l ne e1 e2 o1 o2 q1 q2 => ?_⟩
  · unfold L2.start startD
    simp [h.length]
  · obtain ⟨d, q1, rfl⟩ := look q
    obtain ⟨u, q2, q3⟩ := h.get q1
    refine ⟨u, ?_, q3⟩
    have hl : i < vs.length := (List.getElem?_eq_some_iff.mp q2).1
    unfold L2.start
    rw [List.getElem?_append_left (by simpa using hl), List.getElem?_map, q2]
    rfl
  · obtain ⟨d, _, rfl⟩ := look e1
    exact o1.elim
theorem ends_start {K : PySem.W.Frag} {U H : Hp} {n : Nat} {P : D → Nat → Prop} {Q : VK} (h : ∀ d n' U' H' v, P d n' → Grow U H n U' H' n' → DenX K U' H' n' v d → Q v H') :
    EndsOk K ⟨U, H, n⟩ { nx := fun _ n' => P .non n', rt := P } { nx := fun _ H' => Q .non H', rt := Q } :=
  ⟨fun U' H' n' σ ρ r p => h .non n' U' H' .non p r.g (.of .non), fun U' H' n' v d g dx p => h d n' U' H' v p g dx, fun _ _ _ _ _ _ z => z, fun _ _ _ _ _ _ z => z⟩
section
variable {P : Program} {w : World} {K : PySem.W.Frag} {mg : Str → Option Value} {base : Heap}
/-- the context of a def's body -/
structure Bod (P : Program) (w : World) (K : PySem.W.Frag) (mg : Str → Option Value) (base : Heap) (N : List Str) (sc : Scope) (k : Nat) (X : Cx) : Prop where
  nd : X.N.Nodup
  calm : X.calm = true
theorem dfun {x qual : Str} {st : Stmt} {f : Addr} {fd : FuncData} {N ps : List Str} {k : Nat} {F : FD} {ws : WS} (G : Fun K x qual st f fd) (S : FnScope N ps (defScope st)) (len : ∀ ds n Q, F ds n Q → ds.length = ps.length)
    (body : ∀ (cdv : Value) (A : Around) (outer : List Env) (s : Shared) (H : Hp) (E : XK) (b : Bs), Room k (A.deeper (envOfC qual (defScope st) s.heap.objs.size f cdv)) → DSs (cxOf CX0 P w K mg base N qual (defScope st) f cdv A outer s H E).nox b (defBody st) ws)
    (h : ∀ ds n Q, F ds n Q → ws { nx := fun _ n' => Q .non n', rt := Q } (startD N ds) n) : FnOk P w K mg base CX0 (k + 1) f fd ps (spD K F) := by
  refine G.ok S (fun vs H Q E ⟨U, n, ds, R, e, d, hf, _⟩ => by rw [d.length]; exact len ds n R hf) (fun cdv A outer s H vs Q E hr ⟨U, n, ds, R, e, d, hf, kk⟩ => ?_)
  exact ⟨_, body cdv A outer s H E ⟨U, H, n⟩ hr, U, startD N ds, n, _, rel_start N e d, h ds n R hf, ends_start kk⟩
end
end DL
/-! Data-level layer, 6: targets, iterators, for, while, comprehensions. -/
namespace DL
open PySem PySem.Spec L2 PyProof.Rows

/-! ### targets -/
abbrev WG := D → REnv → (REnv → Prop) → Prop
def liftG (K : PySem.W.Frag) (b : Bs) (is : List Nat) (g : WG) : TG := fun v σ H Q => ∃ U ρ n d P, Rel K b U H n σ ρ ∧ DenX K U H n v d ∧ g d ρ P ∧ ∀ ρ' σ', P ρ' → Rel K b U H n σ' ρ' → (∀ vs : List Nat, (∀ i ∈ is, i ∈ vs) → wipe σ' vs = wipe σ vs) → Q σ' H
def DG (X : Cx) (b : Bs) (is : List Nat) (tg : Expr) (g : WG) : Prop := PG X tg (liftG X.K b is g)
theorem wipe_set_in {σ : St} {i : Nat} {x : Option V} : ∀ {vs : List Nat}, i ∈ vs → wipe (σ.set i x) vs = wipe σ vs
  | [], h => by cases h
  | v :: vs, h => by
    have out : ∀ {vs : List Nat}, i ∉ vs → wipe (σ.set i x) vs = (wipe σ vs).set i x := by
      intro vs
      induction vs with
      | nil => intro _; rfl
      | cons u us ih =>
        intro hn
        simp only [List.mem_cons, not_or] at hn
        show (wipe (σ.set i x) us).set u none = ((wipe σ us).set u none).set i x
        rw [ih hn.2, List.set_comm _ _ hn.1]
    show (wipe (σ.set i x) vs).set v none = (wipe σ vs).set v none
    by_cases hi : i ∈ vs
    · rw [wipe_set_in hi]
    · rw [out hi]
      rcases List.mem_cons.mp h with e | e
      · subst e
        rw [List.set_set]
      · exact absurd e hi
theorem wipe_wipe {σ : St} : ∀ {us vs : List Nat}, (∀ i ∈ us, i ∈ vs) → wipe (wipe σ us) vs = wipe σ vs
  | [], _, _ => rfl
  | u :: us, vs, h => by
    show wipe ((wipe σ us).set u none) vs = wipe σ vs
    rw [wipe_set_in (h u List.mem_cons_self), wipe_wipe fun i hi => h i (List.mem_cons_of_mem _ hi)]
def gN (i : Nat) : WG := fun d ρ P => P (ρ.set i (some (.val d)))
def setD : REnv → List Nat → List D → REnv
  | ρ, i :: is, d :: ds => setD (ρ.set i (some (.val d))) is ds
  | ρ, _, _ => ρ
def setV : St → List Nat → List V → St
  | ρ, i :: is, d :: ds => setV (ρ.set i (some d)) is ds
  | ρ, _, _ => ρ
def gT (is : List Nat) : WG := fun d ρ P => match d with
  | .tup ds => ds.length = is.length ∧ P (setD ρ is ds)
  | _ => False
def gNames : List Nat → TGs
  | [] => gNil
  | i :: is => gCons (gName i) (gNames is)
section
variable {X : Cx} {b : Bs} {pos : Pos} {x : Str}
theorem dg_name (i : Nat) (hN : X.N.Nodup) (hi : X.N[i]? = some x := by rfl) (hx : Loc X.env.scope x := by first | exact .inl rfl | exact .inr rfl)
    (hf : X.fn x = true ∨ X.env.scope.names.lookup x = some .local := by first | exact .inl rfl | exact .inr rfl | assumption) : DG X b [i] (.Name x pos) (gN i) := by
  refine ⟨fun pins s σ H v u Q I r hw => ?_⟩
  obtain ⟨U, ρ, n, d, P, hr, hd, hg, k⟩ := hw
  refine (pg_name hN hi hx hf).run pins s σ H v u Q I r ?_
  exact k _ _ hg (hr.set hd) fun vs h => wipe_set_in (h i List.mem_cons_self)
theorem setV_wipe {vs : List Nat} : ∀ {is : List Nat} {xs : List V} {σ : St}, (∀ i ∈ is, i ∈ vs) → wipe (setV σ is xs) vs = wipe σ vs
  | [], _, _, _ => rfl
  | i :: is, [], _, _ => rfl
  | i :: is, x :: xs, σ, h => by
    show wipe (setV (σ.set i (some x)) is xs) vs = wipe σ vs
    rw [setV_wipe fun j hj => h j (List.mem_cons_of_mem _ hj), wipe_set_in (h i List.mem_cons_self)]
theorem Rel.setAll {K : PySem.W.Frag} {U H : Hp} {n : Nat} : ∀ {is : List Nat} {xs : List V} {ds : List D} {σ : St} {ρ : REnv}, Rel K b U H n σ ρ → Dens K U xs ds → Rel K b U H n (setV σ is xs) (setD ρ is ds)
  | [], _, _, _, _, r, _ => r
  | i :: is, _, _, _, _, r, .nil => r
  | i :: is, _, _, _, _, r, .cons h t => Rel.setAll (is := is) (r.set (i := i) (.of h)) t
theorem gNames_ok {σ : St} {H : Hp} {Q : St → Hp → Prop} : ∀ {is : List Nat} {xs : List V} {σ : St}, xs.length = is.length → Q (setV σ is xs) H → gNames is xs σ H Q
  | [], [], _, _, q => ⟨rfl, q⟩
  | [], _ :: _, _, h, _ => by cases h
  | i :: is, [], _, h, _ => by cases h
  | i :: is, x :: xs, σ, h, q => ⟨x, xs, rfl, gNames_ok (σ := σ.set i (some x)) (is := is) (xs := xs) (by simpa using h) q⟩
theorem dg_tup (is : List Nat) {es : List Expr} {kt : Nat} (hc : X.calm = true) (h : PGs X es (gNames is)) (hn : (assignEach es X.env).length = is.length := by rfl) (hst : (assignEach es X.env).findIdx? (·.1) = none := by rfl) : DG X b is (.Tuple es kt pos) (gT is) := by
  refine ⟨fun pins s σ H v u Q I r hw => ?_⟩
  obtain ⟨U, ρ, n, d, P, hr, hd, hg, k⟩ := hw
  refine (pg_tup hc h hn hst).run pins s σ H v u Q I r ?_
  cases d with
  | tup ds =>
    cases hd with
    | @tup a vs _ h1 h2 =>
      obtain ⟨hl, p⟩ := hg
      refine ⟨a, vs, rfl, sqt_same hr.same h1, by rw [h2.length, hl], gNames_ok (σ := σ) (by rw [h2.length, hl]) (k _ _ p (hr.setAll h2) fun us hu => setV_wipe hu)⟩
  | _ => exact hg.elim
end

/-! ### iterators -/
structure ItOk (K : PySem.W.Frag) (U0 : Hp) (J : It) (ds : List D) : Prop where
  go : ∀ i H, Same U0 H → i < ds.length → J.go i H
  stop : ∀ i H, Same U0 H → ds.length ≤ i → J.stop i H
  yld : ∀ i U H n x H', Same U0 U → Same U H → i < ds.length → J.yld i H x H' → ∃ U' d, Grow U H n U' H' n ∧ ds[i]? = some d ∧ Den K U' x d
def liftI (K : PySem.W.Frag) (b : Bs) (wi : WF) : TI := fun σ H R => ∃ U ρ n P, Rel K b U H n σ ρ ∧ wi ρ n P ∧ ∀ ds n' U' H' J, P ds n' → Grow U H n U' H' n' → ItOk K U' J ds → R J H'
def DI (X : Cx) (b : Bs) (tg iter : Expr) (wi : WF) : Prop := PI X tg iter (liftI X.K b wi)
theorem itl_ok {K : PySem.W.Frag} {U : Hp} {a : Addr} {vs : List V} {ds : List D} (h : U a = some (.lst vs)) (hd : Dens K U vs ds) : ItOk K U (Itl K a) ds where
  go := fun i H e hi => by
    have hv : i < vs.length := by rw [hd.length]; exact hi
    exact ⟨vs, vs[i], .of (e _ _ h), List.getElem?_eq_getElem hv⟩
  stop := fun i H e hi => ⟨vs, .of (e _ _ h), by rw [hd.length]; exact hi⟩
  yld := fun i U' H n x H' e1 e2 hi y => by
    obtain ⟨rfl, y⟩ := y
    obtain ⟨d, q1, q2⟩ := hd.getV (y vs (.of (e2 _ _ (e1 _ _ h))))
    exact ⟨U', d, Grow.refl e2, q1, q2.mono e1⟩
theorem itt_ok {K : PySem.W.Frag} {U : Hp} {a : Addr} {vs : List V} {ds : List D} (h : SqT K U a vs) (hd : Dens K U vs ds) : ItOk K U (Itt K a) ds where
  go := fun i H e hi => by
    have hv : i < vs.length := by rw [hd.length]; exact hi
    exact ⟨vs, vs[i], sqt_same e h, List.getElem?_eq_getElem hv⟩
  stop := fun i H e hi => ⟨vs, sqt_same e h, by rw [hd.length]; exact hi⟩
  yld := fun i U' H n x H' e1 e2 hi y => by
    obtain ⟨rfl, y⟩ := y
    obtain ⟨d, q1, q2⟩ := hd.getV (y vs (sqt_same e2 (sqt_same e1 h)))
    exact ⟨U', d, Grow.refl e2, q1, q2.mono e1⟩
def rangeD (lo hi : Int) : List D := (List.range (hi - lo).toNat).map fun i => .int (lo + (i : Nat))
theorem rangeD_length (lo hi : Int) : (rangeD lo hi).length = (hi - lo).toNat := by unfold rangeD; simp
theorem itr_ok {K : PySem.W.Frag} {U : Hp} {lo hi : Int} : ItOk K U (Itr lo (hi - lo).toNat) (rangeD lo hi) where
  go := fun i H e hi => by rw [rangeD_length] at hi; exact hi
  stop := fun i H e hi => by rw [rangeD_length] at hi; exact hi
  yld := fun i U' H n x H' e1 e2 hi y => by
    obtain ⟨rfl, rfl⟩ := y
    rw [rangeD_length] at hi
    refine ⟨U', _, Grow.refl e2, ?_, .int _⟩
    unfold rangeD
    rw [List.getElem?_map, List.getElem?_range hi]
    rfl
def iSeq (K : PySem.W.Frag) (tl : TE) : TI := fun σ H R => tl σ H fun x H1 => ∃ a, x = .ref a ∧ (((∃ xs, SqL K H1 a xs) ∧ R (Itl K a) H1) ∨ ((∃ xs, SqT K H1 a xs) ∧ R (Itt K a) H1))
theorem pi_seq {X : Cx} {tg l : Expr} {tl : TE} (hl : PE X l tl) : PI X tg l (iSeq X.K tl) := by
  refine ⟨fun pins s σ H R I h => ?_⟩
  refine thn (hl.run pins s σ H _ I h) fun v s1 ⟨x, H1, I1, r1, q1⟩ => ?_
  obtain ⟨a, e, q⟩ := q1
  subst e
  cases r1
  rcases q with ⟨⟨xs, hq⟩, q⟩ | ⟨⟨xs, hq⟩, q⟩
  · obtain ⟨its, rv, p, hz⟩ := I1.list hq
    refine wpAny_pyIter_list p.isList ?_
    refine ⟨s1.heap.objs.size, [s1.heap.objs.size], _, _, H1, rfl, I1.kept (t' := s1.toks) fun b o e => Heap.get?_push_of_some _ e, turn_list a _, ⟨_, Heap.get?_push_size _ rfl, rfl, rfl⟩, fun b hb => ?_, q⟩
    have e : b = s1.heap.objs.size := by simpa using hb
    subst e
    exact I1.fpOk (Nat.le_refl _) (I1.hok.fresh (Nat.le_refl _))
  · obtain ⟨its, rv, p, hz⟩ := I1.tuple hq
    refine wpAny_pyIter_tuple (show s1.heap.IsTuple a its.toArray from p) ?_
    refine ⟨s1.heap.objs.size, [s1.heap.objs.size], _, _, H1, rfl, I1.kept (t' := s1.toks) fun b o e => Heap.get?_push_of_some _ e, turn_tuple a _, ⟨_, Heap.get?_push_size _ rfl, rfl, rfl⟩, fun b hb => ?_, q⟩
    have e : b = s1.heap.objs.size := by simpa using hb
    subst e
    exact I1.fpOk (Nat.le_refl _) (I1.hok.fresh (Nat.le_refl _))
/-- a list's or a tuple's items -/
def wIt (w : WE) : WF := fun ρ n P => w ρ n fun d n1 => match d with
  | .lst ds => P ds n1
  | .tup ds => P ds n1
  | _ => False
def wIt1 (w : WF) : WF := fun ρ n P => w ρ n fun ds n1 => match ds with
  | [.int j] => (-1000000000 ≤ j ∧ j ≤ 1000000000) ∧ P (rangeD 0 j) n1
  | _ => False
def wIt2 (w : WF) : WF := fun ρ n P => w ρ n fun ds n1 => match ds with
  | [.int i, .int j] => (-1000000000 ≤ i ∧ i ≤ 1000000000 ∧ -1000000000 ≤ j ∧ j ≤ 1000000000) ∧ P (rangeD i j) n1
  | _ => False
section
variable {X : Cx} {b : Bs} {e e1 e2 tg : Expr} {w w1 w2 : WE} {wf : WF} {pos p : Pos}
theorem di_seq (h : DE X b e w) : DI X b tg e (wIt w) := by
  refine ⟨fun pins s σ H R I ⟨U, ρ, n, P, r, hw, k⟩ => (pi_seq h).run pins s σ H R I ?_⟩
  refine ⟨U, ρ, n, _, r, hw, fun d n1 U1 H1 v p1 g1 d1 => ?_⟩
  cases d with
  | lst ds =>
    cases d1 with
    | @lst a vs _ h1 h2 => exact ⟨a, rfl, .inl ⟨⟨vs, .of (g1.uh _ _ h1)⟩, k ds n1 U1 H1 _ p1 g1 (itl_ok h1 h2)⟩⟩
  | tup ds =>
    cases d1 with
    | @tup a vs _ h1 h2 => exact ⟨a, rfl, .inr ⟨⟨vs, sqt_same g1.uh h1⟩, k ds n1 U1 H1 _ p1 g1 (itt_ok h1 h2)⟩⟩
  | _ => exact p1.elim
theorem di_range1 (hm : X.mg "range" = none) (ha : DA X b [e] wf) (hg : Gl X "range" := by rfl) (hs : starEach [e] X.env = [(false, eval e X.env)] := by rfl) : DI X b tg (.Call (.Name "range" p) [e] [] pos) (wIt1 wf) := by
  refine ⟨fun pins s σ H R I ⟨U, ρ, n, P, r, hw, k⟩ => (pi_range1 hg hm ha hs).run pins s σ H R I ?_⟩
  refine ⟨U, ρ, n, _, r, hw, fun ds n1 U1 H1 vs p1 g1 d1 => ?_⟩
  match ds, p1, d1 with
  | [.int j], ⟨q1, q2⟩, .cons h .nil =>
    cases h
    refine ⟨j, rfl, by omega, by omega, ?_⟩
    have e : j.toNat = (j - 0).toNat := by omega
    rw [e]
    exact k _ n1 U1 H1 _ q2 g1 itr_ok
theorem di_range2 (hm : X.mg "range" = none) (ha : DA X b [e1, e2] wf) (hg : Gl X "range" := by rfl) (hs : starEach [e1, e2] X.env = [(false, eval e1 X.env), (false, eval e2 X.env)] := by rfl) (hs2 : starEach [e2] X.env = [(false, eval e2 X.env)] := by rfl) : DI X b tg (.Call (.Name "range" p) [e1, e2] [] pos) (wIt2 wf) := by
  refine ⟨fun pins s σ H R I ⟨U, ρ, n, P, r, hw, k⟩ => (pi_range2 hg hm ha hs hs2).run pins s σ H R I ?_⟩
  refine ⟨U, ρ, n, _, r, hw, fun ds n1 U1 H1 vs p1 g1 d1 => ?_⟩
  match ds, p1, d1 with
  | [.int i, .int j], ⟨q1, q4⟩, .cons h1 (.cons h2 .nil) =>
    cases h1
    cases h2
    exact ⟨i, j, rfl, by omega, k _ n1 U1 H1 _ q4 g1 itr_ok⟩
end

/-! ### for -/
def loopD (g : WG) (wb : WS) (DD : DEnds) : List D → REnv → Nat → Prop
  | [], ρ, n => DD.nx ρ n
  | x :: r, ρ, n => g x ρ fun ρ2 => wb { DD with nx := loopD g wb DD r, ct := loopD g wb DD r, bk := DD.nx } ρ2 n
def wFor (wi : WF) (g : WG) (wb : WS) : WS := fun DD ρ n => wi ρ n fun ds n1 => loopD g wb DD ds ρ n1
theorem grow_base {b : Bs} {U1 H1 : Hp} {n1 : Nat} (g : Grow b.U b.H b.n U1 H1 n1) {U H : Hp} {n : Nat} (h : Grow U1 H1 n1 U H n) : Grow U1 b.H b.n U H n where
  le := Nat.le_trans h.le g.le
  u := h.u
  uh := h.uh
  no := fun a h1 h2 => h.no a (g.keepS h1) h2
  h := (g.trans h).h
  b := (g.trans h).b
theorem base_grow {b : Bs} {U1 H1 : Hp} {n1 : Nat} (g : Grow b.U b.H b.n U1 H1 n1) {U H : Hp} {n : Nat} (h : Grow U1 b.H b.n U H n) : Grow b.U b.H b.n U H n where
  le := h.le
  u := g.u.trans h.u
  uh := h.uh
  no := fun a h1 h2 => h.no a h1 (g.no a h1 h2)
  h := h.h
  b := h.b
theorem Rel.up {K : PySem.W.Frag} {b : Bs} {U1 H1 : Hp} {n1 : Nat} {σ : St} {ρ : REnv} (r : Rel K b U1 H1 n1 σ ρ) : Rel K ⟨U1, b.H, b.n⟩ U1 H1 n1 σ ρ :=
  ⟨grow_base r.g (Grow.refl r.same), r.len, r.sl, r.dis⟩
theorem Rel.down {K : PySem.W.Frag} {b : Bs} {U1 H1 U H : Hp} {n n1 : Nat} {σ : St} {ρ : REnv} (g : Grow b.U b.H b.n U1 H1 n1) (r : Rel K ⟨U1, b.H, b.n⟩ U H n σ ρ) : Rel K b U H n σ ρ :=
  ⟨base_grow g r.g, r.len, r.sl, r.dis⟩
section
variable {X : Cx} {b : Bs} {e e1 e2 tg iter : Expr} {w w1 w2 : WE} {wf wi : WF} {wt : WT} {wb : WS} {pos p : Pos} {g : WG} {is : List Nat} {body : List Stmt}
theorem ds_for (hp : PassesOwn (model X.prog X.w) X.A X.env X.xe) (hc : X.calm = true) (hi : ∀ b, DI X b tg iter wi) (hg : ∀ b, DG X b is tg g) (hb : ∀ b, DSs X b body wb) (hs : ∀ x, foldedSetIterable iter X.env x = pure x := by intro _; rfl) :
    DS X b (.For tg iter body [] pos) (wFor wi g wb) := by
  refine ⟨fun pins s σ H E I ⟨U, ρ, n, DD, r, hw, k⟩ => ?_⟩
  -- the walk runs over the floor that the items stand on: found behind the iterator's start
  refine (ps_for (wi := fun σ H R => liftI X.K b wi σ H R) (g := fun v σ H Q => ∃ b, liftG X.K b is g v σ H Q) (tb := fun E σ H => ∃ b, liftS X.K b wb E σ H) hp hc (hi b)
    ⟨fun pins s σ H v u Q I r ⟨b, h⟩ => (hg b).run pins s σ H v u Q I r h⟩ ⟨fun pins s σ H E I ⟨b, h⟩ => (hb b).run pins s σ H E I h⟩ hs).run pins s σ H E I ?_
  refine ⟨U, ρ, n, _, r, hw, fun ds n1 U1 H1 J p1 g1 ok => ?_⟩
  have r1 := r.grow g1
  refine ⟨fun i m σ' H' => m = ds.length - i ∧ i ≤ ds.length ∧ ∃ U' ρ' n', Rel X.K ⟨U1, b.H, b.n⟩ U' H' n' σ' ρ' ∧ loopD g wb DD (ds.drop i) ρ' n', ⟨ds.length, by simp, Nat.zero_le _, U1, ρ, n1, r1.up, by simpa using p1⟩, ?_⟩
  rintro i m σ2 H2 ⟨rfl, hi2, U2, ρ2, n2, r2, hl⟩
  have su : Same U1 U2 := r2.g.u
  by_cases hlt : i < ds.length
  · refine .inr ⟨ok.go i H2 (su.trans r2.same) hlt, fun σ3 H3 => ∃ U' ρ' n', Rel X.K ⟨U1, b.H, b.n⟩ U' H3 n' σ3 ρ' ∧ loopD g wb DD (ds.drop (i + 1)) ρ' n', fun σ3 H3 q => ⟨ds.length - (i + 1), by omega, rfl, hlt, q⟩, fun x H3 y => ?_⟩
    obtain ⟨U3, d, g3, hd, dx⟩ := ok.yld i U2 H2 n2 x H3 su r2.same hlt y
    have ed : ds.drop i = d :: ds.drop (i + 1) := by
      have e := List.drop_eq_getElem_cons hlt
      rw [List.getElem?_eq_getElem hlt] at hd
      rw [e, Option.some.inj hd]
    rw [ed] at hl
    refine ⟨⟨U1, b.H, b.n⟩, U3, ρ2, n2, d, _, r2.grow g3, .of dx, hl, fun ρ4 σ4 p4 r4 _ => ⟨⟨U1, b.H, b.n⟩, U3, ρ4, n2, _, r4, p4, ?_⟩⟩
    exact ⟨fun U H n σ ρ r q => ⟨U, ρ, n, r, q⟩, fun U H n v d gg dx q => k.rt U H n v d (base_grow r1.g gg) dx q, fun U H n σ ρ r q => k.nx U H n σ ρ (r.down r1.g) q, fun U H n σ ρ r q => ⟨U, ρ, n, r, q⟩⟩
  · have ei : i = ds.length := by omega
    subst ei
    refine .inl ⟨ok.stop _ H2 (su.trans r2.same) (Nat.le_refl _), ?_⟩
    rw [List.drop_length] at hl
    exact k.nx _ _ _ _ _ (r2.down r1.g) hl

/-! ### while -/
def wWhile (t : WT) (wb : WS) : WS := fun DD ρ n => ∃ W : Nat → REnv → Nat → Prop, (∃ m, W m ρ n) ∧ ∀ m ρ n, W m ρ n → t ρ n fun c n1 =>
  if c = true then wb { DD with nx := fun ρ' n' => ∃ m', m' < m ∧ W m' ρ' n', ct := fun ρ' n' => ∃ m', m' < m ∧ W m' ρ' n', bk := DD.nx } ρ n1 else DD.nx ρ n1
theorem ds_while (hp : PassesOwn (model X.prog X.w) X.A X.env X.xe) (ht : DT X b e wt) (hb : DSs X b body wb) : DS X b (.While e body [] pos) (wWhile wt wb) := ps_weak (ps_while hp ht hb) fun E σ H ⟨U, ρ, n, DD, r, ⟨W, ⟨m0, w0⟩, turn⟩, k⟩ => by
  refine ⟨fun m σ' H' => ∃ U' ρ' n', Rel X.K b U' H' n' σ' ρ' ∧ W m ρ' n', ⟨m0, U, ρ, n, r, w0⟩, ?_⟩
  rintro m σ2 H2 ⟨U2, ρ2, n2, r2, w2⟩
  refine ⟨U2, ρ2, n2, _, r2, turn m ρ2 n2 w2, fun c n3 U3 H3 p3 g3 => ?_⟩
  cases c with
  | true =>
    refine ⟨fun σ' H' => ∃ m', m' < m ∧ ∃ U' ρ' n', Rel X.K b U' H' n' σ' ρ' ∧ W m' ρ' n', fun _ _ q => q, U3, ρ2, n3, _, r2.grow g3, p3, ?_⟩
    exact ⟨fun U H n σ ρ r ⟨m', h1, h2⟩ => ⟨m', h1, U, ρ, n, r, h2⟩, k.rt, k.nx, fun U H n σ ρ r ⟨m', h1, h2⟩ => ⟨m', h1, U, ρ, n, r, h2⟩⟩
  | false => exact k.nx _ _ _ _ _ (r2.grow g3) p3

/-! ### list comprehensions, one clause -/
def lcD (g : WG) (wt : WT) (we : WE) (vs : List Nat) (ρ : REnv) (P : List D → Nat → Prop) : List D → List D → Nat → Prop
  | [], acc, n => P acc n
  | x :: r, acc, n => g x (wipeD ρ vs) fun ρ2 => wt ρ2 n fun c n2 => if c = true then we ρ2 n2 fun d n3 => acc.length < 1000000 ∧ d.nb ∧ lcD g wt we vs ρ P r (acc ++ [d]) n3 else lcD g wt we vs ρ P r acc n2
def wLc (wi : WF) (g : WG) (wt : WT) (we : WE) (vs : List Nat) : WF := fun ρ n P => wi ρ n fun ds n1 => lcD g wt we vs ρ P ds [] n1
theorem lc_imp {K : PySem.W.Frag} {we : WE} {vs : List Nat} (sub : ∀ i ∈ is, i ∈ vs) (σ : St) (H : Hp) (Q : VK) (h : liftF K b (wLc wi g wt we vs) σ H Q) : tLc (liftI K b wi) (liftG K b is g) (liftT K b wt) (lift K b we) vs σ H Q := by
  obtain ⟨U, ρ, n, P, r, hw, k⟩ := h
  refine ⟨U, ρ, n, _, r, hw, fun ds n1 U1 H1 J p1 g1 ok Dl hD => ?_⟩
  have u1 : U1 Dl = none := g1.uh.free hD
  refine ⟨fun i m H' => m = ds.length - i ∧ i ≤ ds.length ∧ ∃ U' n' accV acc, Grow U1 H1 n1 U' H' n' ∧ H' Dl = some (.lst accV) ∧ U' Dl = none ∧ Dens K U' accV acc ∧ lcD g wt we vs ρ P (ds.drop i) acc n',
    ⟨ds.length, by simp, Nat.zero_le _, U1, n1, [], [], Grow.out g1.uh hD, upd_same, u1, .nil, by simpa using p1⟩, ?_⟩
  rintro i m H2 ⟨rfl, hi2, U2, n2, accV, acc, g2, hl, hu, hd, hw2⟩
  by_cases hlt : i < ds.length
  · refine .inr ⟨ok.go i H2 (g2.u.trans g2.uh) hlt, fun H' => ∃ U' n' accV acc, Grow U1 H1 n1 U' H' n' ∧ H' Dl = some (.lst accV) ∧ U' Dl = none ∧ Dens K U' accV acc ∧ lcD g wt we vs ρ P (ds.drop (i + 1)) acc n', fun H' q => ⟨ds.length - (i + 1), by omega, rfl, hlt, q⟩, fun x H3 y => ?_⟩
    obtain ⟨U3, d, g3, hd3, dx⟩ := ok.yld i U2 H2 n2 x H3 g2.u g2.uh hlt y
    have ed : ds.drop i = d :: ds.drop (i + 1) := by
      have e := List.drop_eq_getElem_cons hlt
      rw [List.getElem?_eq_getElem hlt] at hd3
      rw [e, Option.some.inj hd3]
    rw [ed] at hw2
    have G3 := g2.trans g3
    refine ⟨U3, wipeD ρ vs, n2, d, _, (r.grow (g1.trans G3)).wipe vs, .of dx, hw2, fun ρ4 σ4 p4 r4 hwipe => ⟨by rw [hwipe vs sub, wipe_wipe fun _ h => h], U3, ρ4, n2, _, r4, p4, fun c n5 U5 H5 p5 g5 => ?_⟩⟩
    have L5 : H5 Dl = some (.lst accV) := (g3.trans g5).lst hl
    have V5 : U5 Dl = none := (g3.trans g5).no Dl (by rw [hl]; simp) hu
    cases c with
    | false => exact ⟨U5, n5, accV, acc, G3.trans g5, L5, V5, hd.mono (g3.trans g5).u, p5⟩
    | true =>
      refine ⟨U5, ρ4, n5, _, r4.grow g5, p5, fun z n6 U6 H6 v p6 g6 d6 => ?_⟩
      obtain ⟨q1, q2, q3⟩ := p6
      have gg := (g3.trans g5).trans g6
      refine ⟨accV, g6.lst L5, size_lt (by rw [hd.length]; exact q1), U6, n6, accV ++ [v], acc ++ [z], ((G3.trans g5).trans g6).put hD (g6.no Dl (by rw [L5]; simp) V5), upd_same, g6.no Dl (by rw [L5]; simp) V5, (hd.mono gg.u).snoc (d6.den q2), q3⟩
  · have ei : i = ds.length := by omega
    subst ei
    rw [List.drop_length] at hw2
    exact .inl ⟨ok.stop _ H2 (g2.u.trans g2.uh) (Nat.le_refl _), k acc n2 U2 H2 Dl accV hw2 (g1.trans g2) (g1.fresh hD) hl hu hd⟩
def DTs (X : Cx) (b : Bs) (ifs : List Expr) (w : WT) : Prop := PTs X ifs (liftT X.K b w)
def wYes : WT := fun _ n P => P true n
theorem dts_nil : DTs X b [] wYes := ⟨fun pins s σ H Q I ⟨U, ρ, n, P, r, hw, k⟩ => pts_nil.run pins s σ H Q I (k true n U H hw (Grow.refl r.same))⟩
theorem dts_one (h : DT X b e wt) : DTs X b [e] wt := pts_one h
variable {elt : Expr} {ifs : List Expr} {scope : Scope} {we : WE}
theorem df_lc (own : List (Str × Nat)) (hc : X.calm = true) (hN : X.N.Nodup) (hi : DI X b tg iter wi) (ok : blkC X.N X.env.scope scope own = true)
    (hg : ∀ (s : Shared) (H : Hp) (C : Addr) (cl : List (Str × Addr)) (fp : List Addr), DG (X.blk s H scope (compEnvC scope cl C X.env) fp) b is tg g) (ht : ∀ (s : Shared) (H : Hp) (C : Addr) (cl : List (Str × Addr)) (fp : List Addr), DTs (X.blk s H scope (compEnvC scope cl C X.env) fp) b ifs wt)
    (he : ∀ (s : Shared) (H : Hp) (C : Addr) (cl : List (Str × Addr)) (fp : List Addr), DE (X.blk s H scope (compEnvC scope cl C X.env) fp) b elt we) (sub : ∀ i ∈ is, i ∈ own.map (·.2) := by decide) (hs : ∀ x, foldedSetIterable iter X.env x = pure x := by intro _; rfl) :
    DF X b (.ListComp elt [⟨tg, iter, ifs, 0⟩] scope pos) (wLc wi g wt we (own.map (·.2))) := pe_weak (pe_lc (g := liftG X.K b is g) (tt := liftT X.K b wt) (te := lift X.K b we) hc hN hi (blkOk_by ok) hg ht he hs) (lc_imp sub)
theorem ds_setLc {i : Nat} {y : Str} {py spos : Pos} (own : List (Str × Nat)) (hc : X.calm = true) (hN : X.N.Nodup) (hi : DI X b tg iter wi) (ok : blkC X.N X.env.scope scope own = true)
    (hg : ∀ (s : Shared) (H : Hp) (C : Addr) (cl : List (Str × Addr)) (fp : List Addr), DG (X.blk s H scope (compEnvC scope cl C X.env) fp) b is tg g) (ht : ∀ (s : Shared) (H : Hp) (C : Addr) (cl : List (Str × Addr)) (fp : List Addr), DTs (X.blk s H scope (compEnvC scope cl C X.env) fp) b ifs wt)
    (he : ∀ (s : Shared) (H : Hp) (C : Addr) (cl : List (Str × Addr)) (fp : List Addr), DE (X.blk s H scope (compEnvC scope cl C X.env) fp) b elt we) (hy : X.N[i]? = some y := by rfl) (hyl : X.env.scope.names.lookup y = some .local := by rfl)
    (hsw : swapsWith (.ListComp elt [⟨tg, iter, ifs, 0⟩] scope pos) (some (.Name y py)) spos.line X.env = pure true := by exact sw_true rfl rfl rfl (by decide +kernel)) (sub : ∀ i ∈ is, i ∈ own.map (·.2) := by decide) (hs : ∀ x, foldedSetIterable iter X.env x = pure x := by intro _; rfl) :
    DS X b (.Assign [.Name y py] (.ListComp elt [⟨tg, iter, ifs, 0⟩] scope pos) spos) (wAsg i (wO (wLc wi g wt we (own.map (·.2))))) := ps_weak (ps_setLc (g := liftG X.K b is g) (tt := liftT X.K b wt) (te := lift X.K b we) hc hN hy hyl hsw hi (blkOk_by ok) hg ht he hs) fun E σ H ⟨U, ρ, n, DD, r, hw, k⟩ =>
  lc_imp sub σ H _ ⟨U, ρ, n, _, r, hw, fun ds n' U' H' l vs p g h0 h1 h2 h3 => k.nx _ _ _ _ _ (r.store (i := i) g (s := .own ds) ⟨l, vs, rfl, h0, h1, h2, h3⟩) p⟩
end
end DL
/-! Data-level layer, 7: operators and built-ins. -/
namespace DL
open PySem PySem.Spec L2 PyProof.Rows

abbrev RD2 := D → D → Nat → (D → Nat → Prop) → Prop
abbrev RDC := List D → Nat → (D → Nat → Prop) → Prop
abbrev RDF := List D → Nat → (List D → Nat → Prop) → Prop
section
variable {K : PySem.W.Frag}
/-- soundness where only ints go in and nothing is made -/
def dI2 (C : Int → Int → Prop) (g : Int → Int → D) : RD2 := fun x y n P => match x, y with
  | .int i, .int j => C i j ∧ P (g i j) n
  | _, _ => False
theorem sdI {C : Int → Int → Prop} {gv : Int → Int → V} {gd : Int → Int → D} (h : ∀ i j K U, Den K U (gv i j) (gd i j)) : Sd2 K (rI C gv) (dI2 C gd) := by
  intro x y n P U H vx vy Q e dx dy hp k
  cases x with
  | int i =>
    cases y with
    | int j => exact ⟨i, j, dx.int, dy.int, hp.1, k _ _ _ _ _ hp.2 (Grow.refl e) (.of (h i j _ _))⟩
    | _ => exact hp.elim
  | _ => exact hp.elim
def dI0 (g : Int → Int → D) : RD2 := fun x y n P => match x, y with
  | .int i, .int j => P (g i j) n
  | _, _ => False
theorem sdI0 {gv : Int → Int → V} {gd : Int → Int → D} (h : ∀ i j K U, Den K U (gv i j) (gd i j)) : Sd2 K (rI0 gv) (dI0 gd) := by
  intro x y n P U H vx vy Q e dx dy hp k
  cases x with
  | int i =>
    cases y with
    | int j => exact ⟨i, j, dx.int, dy.int, k _ _ _ _ _ hp (Grow.refl e) (.of (h i j _ _))⟩
    | _ => exact hp.elim
  | _ => exact hp.elim
/-- + -/
def dAdd : RD2 := fun x y n P => match x, y with
  | .int i, .int j => P (.int (i + j)) n
  | .tup xs, .tup ys => xs.length + ys.length ≤ 1000000 ∧ P (.tup (xs ++ ys)) n
  | .lst xs, .lst ys => xs.length + ys.length ≤ 1000000 ∧ P (.lst (xs ++ ys)) n
  | .str a, .str b => a.length + b.length ≤ 1000000 ∧ P (.str (a ++ b)) n
  | _, _ => False
def rStrCat : R2 := fun x y H Q => ∃ i j, x = .str i ∧ y = .str j ∧ i.length + j.length ≤ sizeLine ∧ Q (.str (i ++ j)) H
def rAddAll (K : PySem.W.Frag) : R2 := fun x y H Q => (rI0 fun i j => .int (i + j)) x y H Q ∨ (rCatA K x y H Q ∨ (rCat x y H Q ∨ rStrCat x y H Q))
theorem op_addAll {X : Cx} : OpR X (binaryOp .Add) (rAddAll X.K) := op_add.or (op_catA.or (op_cat.or op_add_str))
theorem sd_add : Sd2 K (rAddAll K) dAdd := by
  intro x y n P U H vx vy Q e dx dy hp k
  cases x with
  | int i =>
    cases y with
    | int j => exact .inl ⟨i, j, dx.int, dy.int, k _ _ _ _ _ hp (Grow.refl e) (.of (.int _))⟩
    | _ => exact hp.elim
  | str i =>
    cases y with
    | str j => exact .inr (.inr (.inr ⟨i, j, dx.str, dy.str, size_le hp.1, k _ _ _ _ _ hp.2 (Grow.refl e) (.of (.str _))⟩))
    | _ => exact hp.elim
  | tup xs =>
    cases y with
    | tup ys =>
      obtain ⟨a, vs, rfl, h1, h2, h3⟩ := dx.itemsT e
      obtain ⟨c, us, rfl, q1, q2, q3⟩ := dy.itemsT e
      refine .inr (.inl ⟨a, c, vs, us, rfl, rfl, h1, q1, by rw [h3.length, q3.length]; exact size_le hp.1, fun ev => ?_, fun _ eu => ?_, fun _ _ p hp' => ?_⟩)
      · subst ev
        cases h3
        exact k _ _ _ _ _ hp.2 (Grow.refl e) (.of (.tup q2 q3))
      · subst eu
        cases q3
        have hp2 : P (.tup (xs ++ [])) n := hp.2
        rw [List.append_nil] at hp2
        exact k _ _ _ _ _ hp2 (Grow.refl e) (.of (.tup h2 h3))
      · have hn := e.free hp'
        exact k _ _ _ _ _ hp.2 (Grow.new e hp') (.of (.tup (SqT.of upd_same) ((h3.append q3).mono (same_new hn))))
    | _ => exact hp.elim
  | lst xs =>
    cases y with
    | lst ys =>
      obtain ⟨a, vs, rfl, h1, h3⟩ := dx.items e
      obtain ⟨c, us, rfl, q1, q3⟩ := dy.items e
      refine .inr (.inr (.inl ⟨a, c, vs, us, rfl, rfl, h1, q1, by rw [h3.length, q3.length]; exact size_le hp.1, fun p hp' => ?_⟩))
      have hn := e.free hp'
      exact k _ _ _ _ _ hp.2 (Grow.new e hp') (.of (.lst upd_same ((h3.append q3).mono (same_new hn))))
    | _ => exact hp.elim
  | _ => exact hp.elim
/-- == and != -/
def dEq : RD2 := fun x y n P => (okd 64 x = true ∧ okd 64 y = true) ∧ P (.bl (eqd x y)) n
def dNe : RD2 := fun x y n P => (okd 64 x = true ∧ okd 64 y = true) ∧ P (.bl (!eqd x y)) n
theorem ok_nb {k : Nat} {d : D} (h : okd k d = true) : d.nb := by
  cases d with
  | box => unfold okd at h; cases h
  | _ => trivial
theorem sd_eq : Sd2 K (rEqD K) dEq := by
  intro x y n P U H vx vy Q e dx dy hp k
  obtain ⟨⟨o1, o2⟩, hp⟩ := hp
  refine ⟨toP x, toP y, dp_of (dx.den e (ok_nb o1)) o1, dp_of (dy.den e (ok_nb o2)) o2, shaped_ok o1, shaped_ok o2, ?_⟩
  rw [eqv_of o1 o2]
  exact k _ _ _ _ _ hp (Grow.refl e) (.of (.bl _))
theorem sd_ne : Sd2 K (rNeD K) dNe := by
  intro x y n P U H vx vy Q e dx dy hp k
  obtain ⟨⟨o1, o2⟩, hp⟩ := hp
  refine ⟨toP x, toP y, dp_of (dx.den e (ok_nb o1)) o1, dp_of (dy.den e (ok_nb o2)) o2, shaped_ok o1, shaped_ok o2, ?_⟩
  rw [eqv_of o1 o2]
  exact k _ _ _ _ _ hp (Grow.refl e) (.of (.bl _))
/-- x in a list or a tuple of flat things -/
def flatD : D → Bool
  | .non => true
  | .bl _ => true
  | .int _ => true
  | .str _ => true
  | _ => false
def inD (x : D) (ds : List D) : Bool := ds.any fun y => eqd y x
def dIn (neg : Bool) : RD2 := fun x y n P => match y with
  | .lst ds => (flatD x = true ∧ ds.all flatD = true) ∧ P (.bl (if neg then !inD x ds else inD x ds)) n
  | .tup ds => (flatD x = true ∧ ds.all flatD = true) ∧ P (.bl (if neg then !inD x ds else inD x ds)) n
  | _ => False
theorem flat_of {H : Hp} {v : V} {d : D} (h : Den K H v d) (f : flatD d = true) : flatV v = true := by
  cases h <;> first | rfl | cases f
theorem eqV_of {H : Hp} {v u : V} {d e : D} (h : Den K H v d) (h' : Den K H u e) (f : flatD d = true) (f' : flatD e = true) : eqV v u = eqd d e := by
  cases h <;> first | (cases f; done) | (cases h' <;> first | (cases f'; done) | (unfold eqV eqd; rfl))
theorem flats_of {H : Hp} : ∀ {vs : List V} {ds : List D}, Dens K H vs ds → ds.all flatD = true → vs.all flatV = true
  | _, _, .nil, _ => rfl
  | _, _, .cons h r, f => by
    rw [List.all_cons, Bool.and_eq_true] at f ⊢
    exact ⟨flat_of h f.1, flats_of r f.2⟩
theorem inV_of {H : Hp} {v : V} {d : D} (h : Den K H v d) (f : flatD d = true) : ∀ {vs : List V} {ds : List D}, Dens K H vs ds → ds.all flatD = true → inV v vs = inD d ds
  | _, _, .nil, _ => rfl
  | _, _, .cons h' r, g => by
    rw [List.all_cons, Bool.and_eq_true] at g
    unfold inV inD
    rw [List.any_cons, List.any_cons, eqV_of h' h g.1 f]
    have ih := inV_of h f r g.2
    unfold inV inD at ih
    rw [ih]
theorem flat_nb {d : D} (f : flatD d = true) : d.nb := by cases d <;> first | trivial | cases f
theorem sd_in (neg : Bool) : Sd2 K (rIn K neg) (dIn neg) := by
  intro x y n P U H vx vy Q e dx dy hp k
  cases y with
  | lst ds =>
    obtain ⟨⟨f1, f2⟩, hp⟩ := hp
    obtain ⟨a, vs, rfl, h1, h3⟩ := dy.items e
    have d1 := dx.den e (flat_nb f1)
    refine ⟨a, vs, rfl, .inl (.of h1), flat_of d1 f1, flats_of h3 f2, ?_⟩
    rw [inV_of d1 f1 (h3.mono e) f2]
    exact k _ _ _ _ _ hp (Grow.refl e) (.of (.bl _))
  | tup ds =>
    obtain ⟨⟨f1, f2⟩, hp⟩ := hp
    obtain ⟨a, vs, rfl, h1, _, h3⟩ := dy.itemsT e
    have d1 := dx.den e (flat_nb f1)
    refine ⟨a, vs, rfl, .inr h1, flat_of d1 f1, flats_of h3 f2, ?_⟩
    rw [inV_of d1 f1 (h3.mono e) f2]
    exact k _ _ _ _ _ hp (Grow.refl e) (.of (.bl _))
  | _ => exact hp.elim
/-- is None, is not None -/
def isNon : D → Bool
  | .non => true
  | _ => false
def dIsN : RD2 := fun x y n P => match y with
  | .non => P (.bl (isNon x)) n
  | _ => False
def dNotN : RD2 := fun x y n P => match y with
  | .non => P (.bl (!isNon x)) n
  | _ => False
theorem isNon_of {U H : Hp} {n : Nat} {v : V} {d : D} (h : DenB K U H n v d) : decide (v = .non) = isNon d := by
  rcases h with h | ⟨l, vs, ds, rfl, rfl, _, _⟩ | ⟨l, vs, ds, rfl, rfl, _, _⟩
  · cases d with
    | box => obtain ⟨l, N, rfl, _⟩ := h; rfl
    | non => cases h; rfl
    | bl _ => cases h; rfl
    | int _ => cases h; rfl
    | str _ => cases h; rfl
    | lst _ => cases h; rfl
    | tup _ => cases h; rfl
    | ins _ _ => cases h; rfl
    | dic _ => cases h; rfl
    | scr _ => cases h; rfl
  · rfl
  · rfl
theorem DenB.non {U H : Hp} {n : Nat} {v : V} (h : DenB K U H n v .non) : v = .non := by
  rcases h with h | ⟨_, _, _, e, _⟩ | ⟨_, _, _, e, _⟩
  · cases h; rfl
  · cases e
  · cases e
theorem sd_isN : Sd2 K (fun x y H Q => y = .non ∧ Q (.bl (decide (x = .non))) H) dIsN := by
  intro x y n P U H vx vy Q e dx dy hp k
  cases y with
  | non =>
    refine ⟨dy.non, ?_⟩
    rw [isNon_of dx]
    exact k _ _ _ _ _ hp (Grow.refl e) (.of (.bl _))
  | _ => exact hp.elim
theorem sd_notN : Sd2 K (fun x y H Q => y = .non ∧ Q (.bl (!decide (x = .non))) H) dNotN := by
  intro x y n P U H vx vy Q e dx dy hp k
  cases y with
  | non =>
    refine ⟨dy.non, ?_⟩
    rw [isNon_of dx]
    exact k _ _ _ _ _ hp (Grow.refl e) (.of (.bl _))
  | _ => exact hp.elim
/-- is, of two truth values -/
def dIsB (neg : Bool) : RD2 := fun x y n P => match x, y with
  | .bl a, .bl c => P (.bl (if neg then !decide (a = c) else decide (a = c))) n
  | _, _ => False
theorem sd_isB : Sd2 K rIsB (dIsB false) := by
  intro x y n P U H vx vy Q e dx dy hp k
  cases x with
  | bl a =>
    cases y with
    | bl c => exact ⟨a, c, dx.bl, dy.bl, k _ _ _ _ _ hp (Grow.refl e) (.of (.bl _))⟩
    | _ => exact hp.elim
  | _ => exact hp.elim
/-- x[i] -/
def dIx : RD2 := fun x y n P => match x, y with
  | .lst ds, .int i => match atI ds i with
    | some d => P d n
    | none => False
  | .tup ds, .int i => match atI ds i with
    | some d => P d n
    | none => False
  | .scr ns, .int i => match atI ns i with
    | some d => P (.int d) n
    | none => False
  | .str z, .int i => z.length ≤ 1000000 ∧ match atI z.cps.toList i with
    | some c => P (.str ⟨#[c]⟩) n
    | none => False
  | _, _ => False
theorem at_dens {H : Hp} {vs : List V} {ds : List D} {i : Int} {d : D} (h : Dens K H vs ds) (e : atI ds i = some d) : ∃ v, atI vs i = some v ∧ Den K H v d := by
  unfold atI at e ⊢
  rw [h.length]
  cases q : ixN ds.length i with
  | none => rw [q] at e; cases e
  | some j =>
    rw [q] at e
    obtain ⟨u, h1, h2⟩ := h.get (i := j) (x := d) (by simpa using e)
    exact ⟨u, by simpa using h1, h2⟩
theorem at_map {α β : Type} (f : α → β) {xs : List α} {i : Int} {x : α} (e : atI xs i = some x) : atI (xs.map f) i = some (f x) := by
  unfold atI at e ⊢
  rw [List.length_map]
  cases q : ixN xs.length i with
  | none => rw [q] at e; cases e
  | some j =>
    rw [q] at e
    have e : xs[j]? = some x := by simpa using e
    show (xs.map f)[j]? = some (f x)
    rw [List.getElem?_map, e]
    rfl
theorem den_nb {H : Hp} {v : V} {d : D} (h : Den K H v d) : d.nb := by cases h <;> trivial
theorem sd_ix : Sd2 K (rIx K) dIx := by
  intro x y n P U H vx vy Q e dx dy hp k
  cases x with
  | lst ds =>
    cases y with
    | int i =>
      obtain ⟨a, vs, rfl, h1, h3⟩ := dx.items e
      have hp : (match atI ds i with | some d => P d n | none => False) := hp
      split at hp
      · rename_i d q
        obtain ⟨v, q1, q2⟩ := at_dens h3 q
        exact .inl ⟨a, vs, i, v, rfl, dy.int, .of h1, q1, k _ _ _ _ _ hp (Grow.refl e) (.of q2)⟩
      · exact hp.elim
    | _ => exact hp.elim
  | tup ds =>
    cases y with
    | int i =>
      obtain ⟨a, vs, rfl, h1, _, h3⟩ := dx.itemsT e
      have hp : (match atI ds i with | some d => P d n | none => False) := hp
      split at hp
      · rename_i d q
        obtain ⟨v, q1, q2⟩ := at_dens h3 q
        exact .inr (.inl ⟨a, vs, i, v, rfl, dy.int, h1, q1, k _ _ _ _ _ hp (Grow.refl e) (.of q2)⟩)
      · exact hp.elim
    | _ => exact hp.elim
  | scr ds =>
    cases y with
    | int i =>
      have d1 := dx.den e (d := .scr ds) trivial
      cases d1 with
      | @scr a _ h1 =>
        have hp : (match atI ds i with | some d => P (.int d) n | none => False) := hp
        split at hp
        · rename_i d q
          exact .inl ⟨a, _, i, _, rfl, dy.int, h1, at_map V.int q, k _ _ _ _ _ hp (Grow.refl e) (.of (.int _))⟩
        · exact hp.elim
    | _ => exact hp.elim
  | str z =>
    cases y with
    | int i =>
      obtain ⟨hz, hp⟩ := (show z.length ≤ 1000000 ∧ (match atI z.cps.toList i with | some c => P (.str ⟨#[c]⟩) n | none => False) from hp)
      split at hp
      · rename_i c q
        exact .inr (.inr ⟨z, i, c, dx.str, dy.int, size_le hz, q, k _ _ _ _ _ hp (Grow.refl e) (.of (.str _))⟩)
      · exact hp.elim
    | _ => exact hp.elim
  | _ => exact hp.elim
end
end DL
/-! Data-level layer, 8: built-ins by name, slices, isinstance. -/
namespace DL
open PySem PySem.Spec L2 PyProof.Rows

section
variable {K : PySem.W.Frag} {X : Cx}
theorem CallR.or {f : Value} {r r' : List V → Hp → VK → Prop} (h : CallR X f r) (h' : CallR X f r') : CallR X f (fun xs H Q => r xs H Q ∨ r' xs H Q) := by
  intro pins s σ H xs us Q I rv q
  rcases q with q | q
  · exact h pins s σ H xs us Q I rv q
  · exact h' pins s σ H xs us Q I rv q
/-- len -/
def dLen : RDC := fun xs n P => match xs with
  | [.lst ds] => P (.int (ds.length : Nat)) n
  | [.tup ds] => P (.int (ds.length : Nat)) n
  | [.scr ds] => P (.int (ds.length : Nat)) n
  | [.dic ds] => P (.int (ds.length : Nat)) n
  | [.str z] => z.length ≤ 1000000 ∧ P (.int (z.length : Nat)) n
  | _ => False
def rLenQ (K : PySem.W.Frag) : List V → Hp → VK → Prop := fun xs H Q => ∃ p ys, xs = [.ref p] ∧ (SqL K H p ys ∨ SqT K H p ys) ∧ Q (.int ys.length) H
def rLenZ : List V → Hp → VK → Prop := fun xs H Q => ∃ z, xs = [.str z] ∧ z.length ≤ sizeLine ∧ Q (.int z.length) H
def rLenD : List V → Hp → VK → Prop := fun xs H Q => ∃ a kvs, xs = [V.ref a] ∧ H a = some (.dK kvs) ∧ Q (.int kvs.length) H
def rLenAll (K : PySem.W.Frag) : List V → Hp → VK → Prop := fun xs H Q => rLenQ K xs H Q ∨ (rLenZ xs H Q ∨ rLenD xs H Q)
theorem cr_lenAll : CallR X (.builtin "len") (rLenAll X.K) := CallR.or call_len_seq (CallR.or call_len_str call_lenD)
theorem DenK.length {H : Hp} : ∀ {v : List (Key × V)} {d : List (Key × D)}, DenK K H v d → v.length = d.length
  | _, _, .nil => rfl
  | _, _, .cons _ r => congrArg (· + 1) (DenK.length r)
theorem DenB.scr {U H : Hp} {n : Nat} (e : Same U H) {v : V} {ns : List Int} (h : DenB K U H n v (.scr ns)) : ∃ a, v = .ref a ∧ SqL K H a (ns.map V.int) := by
  have d := h.den e (d := .scr ns) trivial
  cases d with
  | scr h => exact ⟨_, rfl, h⟩
theorem sd_len : SdC K (rLenAll K) dLen := by
  intro xs n P U H vx Q e dx hp k
  match xs, hp, dx with
  | [.lst ds], hp, .cons d .nil =>
    obtain ⟨l, vs, rfl, h1, h2⟩ := d.items e
    refine .inl ⟨l, vs, rfl, .inl (.of h1), ?_⟩
    rw [h2.length]
    exact k _ _ _ _ _ hp (Grow.refl e) (.of (.int _))
  | [.tup ds], hp, .cons d .nil =>
    obtain ⟨l, vs, rfl, h1, _, h2⟩ := d.itemsT e
    refine .inl ⟨l, vs, rfl, .inr h1, ?_⟩
    rw [h2.length]
    exact k _ _ _ _ _ hp (Grow.refl e) (.of (.int _))
  | [.scr ds], hp, .cons d .nil =>
    obtain ⟨a, rfl, h1⟩ := d.scr e
    refine .inl ⟨a, _, rfl, .inl h1, ?_⟩
    rw [List.length_map]
    exact k _ _ _ _ _ hp (Grow.refl e) (.of (.int _))
  | [.dic ds], hp, .cons d .nil =>
    obtain ⟨a, vs, rfl, h1, h2⟩ := d.dict e
    refine .inr (.inr ⟨a, vs, rfl, h1, ?_⟩)
    rw [h2.length]
    exact k _ _ _ _ _ hp (Grow.refl e) (.of (.int _))
  | [.str z], hp, .cons d .nil =>
    have d' := d.str
    subst d'
    exact .inr (.inl ⟨z, rfl, size_le hp.1, k _ _ _ _ _ hp.2 (Grow.refl e) (.of (.int _))⟩)
/-- abs, int of an int or a truth value -/
def dAbs : RDC := fun xs n P => match xs with
  | [.int i] => P (.int (if i < 0 then -i else i)) n
  | _ => False
theorem sd_abs : SdC K (fun xs H Q => ∃ i, xs = [.int i] ∧ Q (.int (if i < 0 then -i else i)) H) dAbs := by
  intro xs n P U H vx Q e dx hp k
  match xs, hp, dx with
  | [.int i], hp, .cons d .nil =>
    have d' := d.int
    subst d'
    exact ⟨i, rfl, k _ _ _ _ _ hp (Grow.refl e) (.of (.int _))⟩
def dInt : RDC := fun xs n P => match xs with
  | [.int i] => P (.int i) n
  | [.bl c] => P (.int (if c then 1 else 0)) n
  | _ => False
theorem sd_int : SdC K (fun xs H Q => (∃ i, xs = [.int i] ∧ Q (.int i) H) ∨ ∃ k, xs = [.bl k] ∧ Q (.int (if k then 1 else 0)) H) dInt := by
  intro xs n P U H vx Q e dx hp k
  match xs, hp, dx with
  | [.int i], hp, .cons d .nil =>
    have d' := d.int
    subst d'
    exact .inl ⟨i, rfl, k _ _ _ _ _ hp (Grow.refl e) (.of (.int _))⟩
  | [.bl i], hp, .cons d .nil =>
    have d' := d.bl
    subst d'
    exact .inr ⟨i, rfl, k _ _ _ _ _ hp (Grow.refl e) (.of (.int _))⟩
/-- the ints of a list -/
def IntL (d : D) (ns : List Int) : Prop := d = .lst (ns.map D.int) ∨ d = .scr ns
theorem intL_of {U H : Hp} {n : Nat} (e : Same U H) {v : V} {d : D} {ns : List Int} (h : DenB K U H n v d) (q : IntL d ns) : ∃ a, v = .ref a ∧ SqL K H a (ns.map V.int) := by
  rcases q with rfl | rfl
  · obtain ⟨l, vs, rfl, h1, h2⟩ := h.items e
    have z := Dens.ints_inv h2
    subst z
    exact ⟨l, rfl, .of h1⟩
  · exact h.scr e
def dSum : RDC := fun xs n P => ∃ d ns, xs = [d] ∧ IntL d ns ∧ P (.int ns.sum) n
theorem sd_sum : SdC K (rSum K) dSum := by
  intro xs n P U H vx Q e dx hp k
  obtain ⟨d, ns, rfl, hi, hp⟩ := hp
  cases dx with
  | cons d r =>
    cases r
    obtain ⟨a, rfl, h1⟩ := intL_of e d hi
    exact ⟨a, ns, rfl, h1, k _ _ _ _ _ hp (Grow.refl e) (.of (.int _))⟩
def dMax : RDC := fun xs n P => ∃ d ns, xs = [d] ∧ IntL d ns ∧ 0 < ns.length ∧ ∀ m, m ∈ ns → (∀ y, y ∈ ns → y ≤ m) → P (.int m) n
def dMin : RDC := fun xs n P => ∃ d ns, xs = [d] ∧ IntL d ns ∧ 0 < ns.length ∧ ∀ m, m ∈ ns → (∀ y, y ∈ ns → m ≤ y) → P (.int m) n
theorem sd_max : SdC K (rMax K) dMax := by
  intro xs n P U H vx Q e dx hp k
  obtain ⟨d, ns, rfl, hi, hl, hp⟩ := hp
  cases dx with
  | cons d r =>
    cases r
    obtain ⟨a, rfl, h1⟩ := intL_of e d hi
    exact ⟨a, ns, rfl, h1, hl, fun m m1 m2 => k _ _ _ _ _ (hp m m1 m2) (Grow.refl e) (.of (.int _))⟩
theorem sd_min : SdC K (rMin K) dMin := by
  intro xs n P U H vx Q e dx hp k
  obtain ⟨d, ns, rfl, hi, hl, hp⟩ := hp
  cases dx with
  | cons d r =>
    cases r
    obtain ⟨a, rfl, h1⟩ := intL_of e d hi
    exact ⟨a, ns, rfl, h1, hl, fun m m1 m2 => k _ _ _ _ _ (hp m m1 m2) (Grow.refl e) (.of (.int _))⟩
/-- max(a, b), min(a, b) -/
def dMax2 : RDC := fun xs n P => match xs with
  | [.int i, .int j] => P (.int (if j > i then j else i)) n
  | _ => False
def dMin2 : RDC := fun xs n P => match xs with
  | [.int i, .int j] => P (.int (if j < i then j else i)) n
  | _ => False
theorem sd_max2 : SdC K (fun xs H Q => ∃ i j, xs = [.int i, .int j] ∧ Q (.int (if j > i then j else i)) H) dMax2 := by
  intro xs n P U H vx Q e dx hp k
  match xs, hp, dx with
  | [.int i, .int j], hp, .cons d (.cons d2 .nil) =>
    have d' := d.int
    have d2' := d2.int
    subst d' d2'
    exact ⟨i, j, rfl, k _ _ _ _ _ hp (Grow.refl e) (.of (.int _))⟩
theorem sd_min2 : SdC K (fun xs H Q => ∃ i j, xs = [.int i, .int j] ∧ Q (.int (if j < i then j else i)) H) dMin2 := by
  intro xs n P U H vx Q e dx hp k
  match xs, hp, dx with
  | [.int i, .int j], hp, .cons d (.cons d2 .nil) =>
    have d' := d.int
    have d2' := d2.int
    subst d' d2'
    exact ⟨i, j, rfl, k _ _ _ _ _ hp (Grow.refl e) (.of (.int _))⟩
/-- sorted of ints -/
def dSorted : RDF := fun xs n P => ∃ d ns, xs = [d] ∧ IntL d ns ∧ ∀ ns' : List Int, ns'.Perm ns → ns'.Pairwise (· ≤ ·) → P (ns'.map D.int) n
theorem sd_sorted : SdF K (rSortedI K) dSorted := by
  intro xs n P U H vx Q e dx hp k
  obtain ⟨d, ns, rfl, hi, hp⟩ := hp
  cases dx with
  | cons d r =>
    cases r
    obtain ⟨a, rfl, h1⟩ := intL_of e d hi
    exact ⟨a, ns, rfl, h1, fun ns' p pm pw hf => k _ _ _ _ _ _ (hp ns' pm pw) (Grow.out e hf) hf upd_same (e.free hf) (Dens.ints _)⟩
/-- list(xs), tuple(xs) -/
def dList : RDF := fun xs n P => match xs with
  | [.lst ds] => P ds n
  | [.tup ds] => P ds n
  | [.scr ns] => P (ns.map D.int) n
  | _ => False
theorem sd_list : SdF K (fun xs H Q => ∃ p ys, xs = [.ref p] ∧ (SqL K H p ys ∨ SqT K H p ys) ∧ ∀ l, H l = none → Q (.ref l) (upd H l (.lst ys))) dList := by
  intro xs n P U H vx Q e dx hp k
  match xs, hp, dx with
  | [.lst ds], hp, .cons d .nil =>
    obtain ⟨l, vs, rfl, h1, h2⟩ := d.items e
    exact ⟨l, vs, rfl, .inl (.of h1), fun p hf => k _ _ _ _ _ _ hp (Grow.out e hf) hf upd_same (e.free hf) h2⟩
  | [.tup ds], hp, .cons d .nil =>
    obtain ⟨l, vs, rfl, h1, _, h2⟩ := d.itemsT e
    exact ⟨l, vs, rfl, .inr h1, fun p hf => k _ _ _ _ _ _ hp (Grow.out e hf) hf upd_same (e.free hf) h2⟩
  | [.scr ds], hp, .cons d .nil =>
    obtain ⟨a, rfl, h1⟩ := d.scr e
    exact ⟨a, _, rfl, .inl h1, fun p hf => k _ _ _ _ _ _ hp (Grow.out e hf) hf upd_same (e.free hf) (Dens.ints _)⟩
def dTuple : RDC := fun xs n P => match xs with
  | [.lst ds] => P (.tup ds) n
  | [.tup ds] => P (.tup ds) n
  | _ => False
theorem sd_tuple : SdC K (fun xs H Q => ∃ p ys, xs = [.ref p] ∧ ((SqL K H p ys ∧ ∀ l, H l = none → Q (.ref l) (upd H l (.tup ys))) ∨ (SqT K H p ys ∧ Q (.ref p) H))) dTuple := by
  intro xs n P U H vx Q e dx hp k
  match xs, hp, dx with
  | [.lst ds], hp, .cons d .nil =>
    obtain ⟨l, vs, rfl, h1, h2⟩ := d.items e
    exact ⟨l, vs, rfl, .inl ⟨.of h1, fun p hf => k _ _ _ _ _ hp (Grow.new e hf) (.of (.tup (SqT.of upd_same) (h2.mono (same_new (e.free hf)))))⟩⟩
  | [.tup ds], hp, .cons d .nil =>
    obtain ⟨l, vs, rfl, h1, h1', h2⟩ := d.itemsT e
    exact ⟨l, vs, rfl, .inr ⟨h1, k _ _ _ _ _ hp (Grow.refl e) (.of (.tup h1' h2))⟩⟩
/-- all, any of a list of truth values -/
def dAll : RDC := fun xs n P => ∃ bs : List Bool, xs = [.lst (bs.map D.bl)] ∧ P (.bl (bs.all id)) n
def dAny : RDC := fun xs n P => ∃ bs : List Bool, xs = [.lst (bs.map D.bl)] ∧ P (.bl (bs.any id)) n
theorem sd_all : SdC K (rAll K) dAll := by
  intro xs n P U H vx Q e dx hp k
  obtain ⟨bs, rfl, hp⟩ := hp
  cases dx with
  | cons d r =>
    cases r
    obtain ⟨l, vs, rfl, h1, h2⟩ := d.items e
    have z := Dens.bls_inv h2
    subst z
    exact ⟨l, bs, rfl, .of h1, k _ _ _ _ _ hp (Grow.refl e) (.of (.bl _))⟩
theorem sd_any : SdC K (rAny K) dAny := by
  intro xs n P U H vx Q e dx hp k
  obtain ⟨bs, rfl, hp⟩ := hp
  cases dx with
  | cons d r =>
    cases r
    obtain ⟨l, vs, rfl, h1, h2⟩ := d.items e
    have z := Dens.bls_inv h2
    subst z
    exact ⟨l, bs, rfl, .of h1, k _ _ _ _ _ hp (Grow.refl e) (.of (.bl _))⟩

/-! ### isinstance of built-in classes -/
inductive BT where | int | bool | str | list | tuple | dict
def BT.n : BT → String
  | .int => "int" | .bool => "bool" | .str => "str" | .list => "list" | .tuple => "tuple" | .dict => "dict"
def BT.s : BT → Str
  | .int => "int" | .bool => "bool" | .str => "str" | .list => "list" | .tuple => "tuple" | .dict => "dict"
theorem BT.boot (T : BT) : bootBuiltins T.s = some (.type T.n) := by cases T <;> decide +kernel
theorem BT.name (T : BT) : T.s ≠ "__name__" := by cases T <;> decide
theorem BT.dbg (T : BT) : (T.s == ("__debug__" : Str)) = false := by cases T <;> decide
/-- the name of the kind -/
def tyD : D → Option String
  | .non => some "NoneType" | .bl _ => some "bool" | .int _ => some "int" | .str _ => some "str" | .lst _ => some "list" | .tup _ => some "tuple" | .dic _ => some "dict" | _ => none
def isD (T : BT) : D → Bool := fun d => match T, d with
  | .int, .int _ => true
  | .int, .bl _ => true
  | .bool, .bl _ => true
  | .str, .str _ => true
  | .list, .lst _ => true
  | .tuple, .tup _ => true
  | .dict, .dic _ => true
  | _, _ => false
theorem tyX_of {U H : Hp} {n : Nat} (e : Same U H) {v : V} {d : D} {t : String} (h : DenB K U H n v d) (q : tyD d = some t) : TyX K H v (.type t) := by
  cases d with
  | non => cases q; rw [h.non]; exact .base .non
  | bl b => cases q; rw [h.bl]; exact .base (.bl b)
  | int b => cases q; rw [h.int]; exact .base (.int b)
  | str b => cases q; rw [h.str]; exact .base (.str b)
  | lst ds => cases q; obtain ⟨l, vs, rfl, h1, _⟩ := h.items e; exact .base (.lst h1)
  | tup ds =>
    cases q
    obtain ⟨l, vs, rfl, h1, _⟩ := h.itemsT e
    rcases h1 with (h1 | ⟨o, h1⟩) | ⟨o, its, m, h1, h2, _⟩
    · exact .base (.tup h1)
    · exact .fTuple h1
    · exact .kTuple h1 h2
  | dic ds => cases q; obtain ⟨l, vs, rfl, h1, _⟩ := h.dict e; exact .base (.dK h1)
  | _ => cases q
theorem kit_D {d : D} {t : String} (T : BT) (q : tyD d = some t) : PySem.W.kitOne K (.type t) (.type T.n) = some (isD T d) := by
  refine kit_ty ?_
  cases d <;> (first | (cases q; done) | skip) <;> cases q <;> cases T <;> first | rfl | decide +kernel
def dIsi (T : BT) : D → Nat → (D → Nat → Prop) → Prop := fun d n P => (tyD d).isSome = true ∧ P (.bl (isD T d)) n
variable {b : Bs} {e : Expr} {w : WE} {pos p p2 : Pos}
theorem de_isi (T : BT) (hm : X.mg "isinstance" = none) (hm2 : X.mg T.s = none) (h : DB X b e w) (hg : Gl X "isinstance" := by rfl) (hg2 : Gl X T.s := by rfl)
    (s1 : starEach [e, .Name T.s p2] X.env = (false, eval e X.env) :: starEach [.Name T.s p2] X.env := by rfl) (s2 : starEach [.Name T.s p2] X.env = (false, eval (.Name T.s p2) X.env) :: starEach [] X.env := by rfl)
    (hpl : (backTo pos (starEach [.Name T.s p2] X.env)).any (·.1) = false := by rfl) : DE X b (.Call (.Name "isinstance" p) [e, .Name T.s p2] [] pos) (wUn (dIsi T) w) :=
  pe_weak (pe_callB call_isi hg hm (by decide +kernel) (pa_cons h (pa_cons (pe_bltn hg2 hm2 T.boot (v := .ty T.n) rfl T.name T.dbg) pa_nil s2) s1) (by decide) (by decide) s1 hpl) fun σ H Q ⟨U, ρ, n, P, r, hw, k⟩ =>
  ⟨U, ρ, n, _, r, hw, fun d n1 U1 H1 v p1 g1 d1 => by
    obtain ⟨q, p1⟩ := p1
    cases z : tyD d with
    | none => rw [z] at q; cases q
    | some t => exact ⟨v, .ty T.n, _, _, _, rfl, .ty _, tyX_of g1.uh d1 z, kit_D T z, k _ _ _ _ _ p1 g1 (.of (.bl _))⟩⟩
/-- isinstance(x, (C, D, ..)) -/
def dIsiT (Ts : List BT) : D → Nat → (D → Nat → Prop) → Prop := fun d n P => (tyD d).isSome = true ∧ P (.bl (Ts.any fun T => isD T d)) n
theorem kit_Ds {d : D} {t : String} (q : tyD d = some t) : ∀ Ts : List BT, PySem.W.kitAny K (.type t) (Ts.map fun T => .type T.n) = some (Ts.any fun T => isD T d)
  | [] => rfl
  | T :: Ts => by
    rw [List.map_cons, List.any_cons]
    refine kitAny_cons (kit_D T q) (fun h => ?_) fun h => ?_
    · rw [h, Bool.false_or]
      exact kit_Ds q Ts
    · rw [h, Bool.true_or]
theorem clsVs : ∀ Ts : List BT, Paired ClsV (Ts.map fun T => V.ty T.n) (Ts.map fun T => Value.type T.n)
  | [] => .nil
  | T :: Ts => .cons (.ty _) (clsVs Ts)
/-- the classes' names as they are written -/
inductive TyNs (X : Cx) : List Expr → List BT → Prop
  | nil : TyNs X [] []
  | cons {p : Pos} {es : List Expr} {Ts : List BT} (T : BT) (hm : X.mg T.s = none) (hg : Gl X T.s) (hs : starEach (.Name T.s p :: es) X.env = (false, eval (.Name T.s p) X.env) :: starEach es X.env) (r : TyNs X es Ts) : TyNs X (.Name T.s p :: es) (T :: Ts)
def tTys (Ts : List BT) : TA := fun _ H Q => Q (Ts.map fun T => V.ty T.n) H
theorem pa_tys : ∀ {es : List Expr} {Ts : List BT}, TyNs X es Ts → PA X es (tTys Ts)
  | _, _, .nil => pa_nil
  | _, _, .cons T hm hg hs r => pa_cons (pe_bltn hg hm T.boot (v := .ty T.n) rfl T.name T.dbg) (pa_tys r) hs
theorem de_isiT {es : List Expr} {Ts : List BT} {k : Nat} (hm : X.mg "isinstance" = none) (h : DB X b e w) (ts : TyNs X es Ts) (hl : Ts.length ≤ 1000000 := by decide) (hg : Gl X "isinstance" := by rfl)
    (s1 : starEach [e, .Tuple es k p2] X.env = (false, eval e X.env) :: starEach [.Tuple es k p2] X.env := by rfl) (s2 : starEach [.Tuple es k p2] X.env = (false, eval (.Tuple es k p2) X.env) :: starEach [] X.env := by rfl)
    (hpl : (backTo pos (starEach [.Tuple es k p2] X.env)).any (·.1) = false := by rfl) : DE X b (.Call (.Name "isinstance" p) [e, .Tuple es k p2] [] pos) (wUn (dIsiT Ts) w) :=
  pe_weak (pe_callB call_isiT hg hm (by decide +kernel) (pa_cons h (pa_cons (pe_tup (pa_tys ts)) pa_nil s2) s1) (by decide) (by decide) s1 hpl) fun σ H Q ⟨U, ρ, n, P, r, hw, kk⟩ =>
  ⟨U, ρ, n, _, r, hw, fun d n1 U1 H1 v p1 g1 d1 => by
    obtain ⟨q, p1⟩ := p1
    refine ⟨by rw [List.length_map]; exact size_le hl, fun a ha => ?_⟩
    have g2 : Grow U1 H1 n1 U1 (upd H1 a (.tup (Ts.map fun T => V.ty T.n))) n1 := Grow.out g1.uh ha
    cases z : tyD d with
    | none => rw [z] at q; cases q
    | some t => exact ⟨v, a, _, _, _, _, rfl, upd_same, clsVs Ts, tyX_of g2.uh (d1.grow g2) z, kit_Ds z Ts, kk _ _ _ _ _ p1 (g1.trans g2) (.of (.bl _))⟩⟩

/-! ### range as a list; slices -/
def dRg (w : WF) : WF := fun ρ n P => w ρ n fun ds n1 => match ds with
  | [.int j] => (-1000000 ≤ j ∧ j ≤ 1000000) ∧ P (rangeD 0 j) n1
  | [.int i, .int j] => (-1000000 ≤ i ∧ i ≤ 1000000 ∧ -1000000 ≤ j ∧ j ≤ 1000000) ∧ P (rangeD i j) n1
  | _ => False
theorem rgV_dens {H : Hp} (lo hi : Int) : Dens K H (rgV lo hi) (rangeD lo hi) := by
  unfold rgV rangeD
  have : ∀ l : List Nat, Dens K H (l.map fun i => V.int (lo + (i : Nat))) (l.map fun i => D.int (lo + (i : Nat))) := by
    intro l
    induction l with
    | nil => exact .nil
    | cons a r ih => exact .cons (.int _) ih
  exact this _
def wRg1 (w : WE) : WF := fun ρ n P => w ρ n fun d n1 => match d with
  | .int j => (-1000000 ≤ j ∧ j ≤ 1000000) ∧ P (rangeD 0 j) n1
  | _ => False
def wRg2 (w1 w2 : WE) : WF := fun ρ n P => w1 ρ n fun d n1 => w2 ρ n1 fun d2 n2 => match d, d2 with
  | .int i, .int j => (-1000000 ≤ i ∧ i ≤ 1000000 ∧ -1000000 ≤ j ∧ j ≤ 1000000) ∧ P (rangeD i j) n2
  | _, _ => False
variable {e1 e2 : Expr} {w1 w2 : WE} {q1 q2 : Pos}
theorem df_listRg1 (hc : X.calm = true) (hm : X.mg "list" = none) (hm2 : X.mg "range" = none) (h : DE X b e w) (hg : Gl X "list" := by rfl) (hg2 : Gl X "range" := by rfl)
    (na : starEach [.Call (.Name "range" q1) [e] [] q2] X.env = (false, eval (.Call (.Name "range" q1) [e] [] q2) X.env) :: starEach [] X.env := by rfl) (nb : starEach [e] X.env = (false, eval e X.env) :: starEach [] X.env := by rfl) :
    DF X b (.Call (.Name "list" p) [.Call (.Name "range" q1) [e] [] q2] [] pos) (wRg1 w) := pe_weak (pe_listRg hc hg hm (prg_1 hg2 hm2 h nb) na) fun σ H Q ⟨U, ρ, n, P, r, hw, k⟩ =>
  ⟨U, ρ, n, _, r, hw, fun d n1 U1 H1 v p1 g1 d1 => by
    cases d with
    | int j =>
      cases d1
      obtain ⟨h1, p1⟩ := p1
      refine ⟨j, rfl, ⟨by omega, by omega, by omega, by omega, by omega⟩, fun l hl => ?_⟩
      exact k _ _ _ _ _ _ p1 (g1.trans (Grow.out g1.uh hl)) (g1.fresh hl) upd_same (g1.uh.free hl) (rgV_dens 0 j)
    | _ => exact p1.elim⟩
end
end DL
/-! Data-level layer, 9: slices, dicts, pops, keyword calls, starred displays. -/
namespace DL
open PySem PySem.Spec L2 PyProof.Rows

/-! ### slices -/
def cutD {α : Type} (xs : List α) (lo hi : Option Int) : List α := (xs.drop (HT.sIx xs.length 0 lo)).take (HT.sIx xs.length xs.length hi - HT.sIx xs.length 0 lo)
section
variable {K : PySem.W.Frag} {X : Cx} {b : Bs} {e e1 e2 : Expr} {w w1 w2 : WE} {wf wf' : WF} {pos p p2 : Pos}
theorem cut_dens {H : Hp} {vs : List V} {ds : List D} (h : Dens K H vs ds) (lo hi : Option Int) : Dens K H (cutV vs lo hi) (cutD ds lo hi) := by
  unfold cutV cutD
  rw [h.length]
  exact (h.drop _).take _
theorem cut_map {α β : Type} (f : α → β) (xs : List α) (lo hi : Option Int) : cutD (xs.map f) lo hi = (cutD xs lo hi).map f := by
  unfold cutD
  rw [List.length_map, List.map_take, List.map_drop]
abbrev WO := REnv → Nat → (Option Int → Nat → Prop) → Prop
def liftO (K : PySem.W.Frag) (b : Bs) (w : WO) : TO := fun σ H Q => ∃ U ρ n P, Rel K b U H n σ ρ ∧ w ρ n P ∧ ∀ o n' U' H', P o n' → Grow U H n U' H' n' → Q o H'
def DO (X : Cx) (b : Bs) (e : Option Expr) (w : WO) : Prop := PO X e (liftO X.K b w)
def wONo : WO := fun _ n P => P none n
def wOSo (w : WE) : WO := fun ρ n P => w ρ n fun d n1 => match d with
  | .int i => P (some i) n1
  | _ => False
theorem do_no : DO X b none wONo := ⟨fun pins s σ H Q I ⟨U, ρ, n, P, r, hw, k⟩ => po_none.run pins s σ H Q I (k none n U H hw (Grow.refl r.same))⟩
theorem do_so (h : DE X b e w) : DO X b (some e) (wOSo w) := ⟨fun pins s σ H Q I ⟨U, ρ, n, P, r, hw, k⟩ => (po_some h).run pins s σ H Q I ⟨U, ρ, n, _, r, hw, fun d n1 U1 H1 v p1 g1 d1 => by
  cases d with
  | int i =>
    cases d1
    exact ⟨i, rfl, k _ _ _ _ p1 g1⟩
  | _ => exact p1.elim⟩⟩
variable {lo hi : Option Expr} {wl wh : WO}
def wSlL (w : WE) (wl wh : WO) : WF := fun ρ n P => w ρ n fun d n1 => wl ρ n1 fun l n2 => wh ρ n2 fun h n3 => match d with
  | .lst ds => P (cutD ds l h) n3
  | .scr ns => P ((cutD ns l h).map D.int) n3
  | _ => False
theorem df_slL (h : DB X b e w) (hl : DO X b lo wl) (hh : DO X b hi wh) : DF X b (.Subscript e (.Slice lo hi none p2) pos) (wSlL w wl wh) := pe_weak (pe_slice sl_list h hl hh) fun σ H Q ⟨U, ρ, n, P, r, hw, k⟩ =>
  ⟨U, ρ, n, _, r, hw, fun d n1 U1 H1 v p1 g1 d1 => ⟨U1, ρ, n1, _, r.grow g1, p1, fun l n2 U2 H2 p2 g2 => ⟨U2, ρ, n2, _, (r.grow g1).grow g2, p2, fun h n3 U3 H3 p3 g3 => by
    have G := g2.trans g3
    have d3 := d1.grow G
    cases d with
    | lst ds =>
      obtain ⟨a, vs, rfl, h1, h2⟩ := d3.items G.uh
      exact ⟨a, vs, rfl, .of h1, fun q hq => k _ _ _ _ _ _ p3 ((g1.trans G).trans (Grow.out G.uh hq)) ((g1.trans G).fresh hq) upd_same (G.uh.free hq) (cut_dens h2 l h)⟩
    | scr ns =>
      obtain ⟨a, rfl, h1⟩ := d3.scr G.uh
      refine ⟨a, _, rfl, h1, fun q hq => k _ _ _ _ _ _ p3 ((g1.trans G).trans (Grow.out G.uh hq)) ((g1.trans G).fresh hq) upd_same (G.uh.free hq) ?_⟩
      have e : cutV (ns.map V.int) l h = (cutD ns l h).map V.int := cut_map V.int ns l h
      rw [e]
      exact Dens.ints _
    | _ => exact p3.elim⟩⟩⟩
/-- a part of a list, a tuple or a text -/
def wSl (w : WE) (wl wh : WO) : WE := fun ρ n P => w ρ n fun d n1 => wl ρ n1 fun l n2 => wh ρ n2 fun h n3 => match d with
  | .lst ds => P (.lst (cutD ds l h)) n3
  | .scr ns => P (.lst ((cutD ns l h).map D.int)) n3
  | .tup ds => P (.tup (cutD ds l h)) n3
  | .str z => z.length ≤ 1000000 ∧ P (.str (cutS z l h)) n3
  | _ => False
theorem de_sl (h : DB X b e w) (hl : DO X b lo wl) (hh : DO X b hi wh) : DE X b (.Subscript e (.Slice lo hi none p2) pos) (wSl w wl wh) := pe_weak (pe_slice (sl_list.or (sl_tupA.or sl_str)) h hl hh) fun σ H Q ⟨U, ρ, n, P, r, hw, k⟩ =>
  ⟨U, ρ, n, _, r, hw, fun d n1 U1 H1 v p1 g1 d1 => ⟨U1, ρ, n1, _, r.grow g1, p1, fun l n2 U2 H2 p2 g2 => ⟨U2, ρ, n2, _, (r.grow g1).grow g2, p2, fun h n3 U3 H3 p3 g3 => by
    have G := g2.trans g3
    have d3 := d1.grow G
    cases d with
    | lst ds =>
      obtain ⟨a, vs, rfl, h1, h2⟩ := d3.items G.uh
      exact .inl ⟨a, vs, rfl, .of h1, fun q hq => k _ _ _ _ _ p3 ((g1.trans G).trans (Grow.new G.uh hq)) (.of (.lst upd_same ((cut_dens h2 l h).mono (same_new (G.uh.free hq)))))⟩
    | scr ns =>
      obtain ⟨a, rfl, h1⟩ := d3.scr G.uh
      refine .inl ⟨a, _, rfl, h1, fun q hq => k _ _ _ _ _ p3 ((g1.trans G).trans (Grow.new G.uh hq)) (.of (.lst upd_same ?_))⟩
      have e : cutV (ns.map V.int) l h = (cutD ns l h).map V.int := cut_map V.int ns l h
      rw [e]
      exact Dens.ints _
    | tup ds =>
      obtain ⟨a, vs, rfl, h1, h1', h2⟩ := d3.itemsT G.uh
      refine .inr (.inl ⟨a, vs, rfl, h1, fun ⟨z1, z2⟩ => ?_, fun _ q hq => k _ _ _ _ _ p3 ((g1.trans G).trans (Grow.new G.uh hq)) (.of (.tup (SqT.of upd_same) ((cut_dens h2 l h).mono (same_new (G.uh.free hq)))))⟩)
      have e : cutD ds l h = ds := by
        unfold cutD
        rw [← h2.length, z1, z2]
        simp [h2.length]
      have p4 : P (.tup (cutD ds l h)) n3 := p3
      rw [e] at p4
      exact k _ _ _ _ _ p4 (g1.trans G) (.of (.tup h1' h2))
    | str z => exact .inr (.inr ⟨z, d3.str, size_le p3.1, k _ _ _ _ _ p3.2 (g1.trans G) (.of (.str _))⟩)
    | _ => exact p3.elim⟩⟩⟩
/-- xs[::-1] of a list -/
def wRevL (w : WE) : WF := fun ρ n P => w ρ n fun d n1 => match d with
  | .lst ds => P ds.reverse n1
  | _ => False
theorem df_revL {k : Nat} {p1 p2 p3 : Pos} (h : DB X b e w) : DF X b (.Subscript e (.Slice none none (some (.UnaryOp .USub (.Constant (.int 1) k p1) p2)) p3) pos) (wRevL w) := pe_weak (pe_revL h) fun σ H Q ⟨U, ρ, n, P, r, hw, k⟩ =>
  ⟨U, ρ, n, _, r, hw, fun d n1 U1 H1 v p1 g1 d1 => by
    cases d with
    | lst ds =>
      obtain ⟨a, vs, rfl, h1, h2⟩ := d1.items g1.uh
      exact ⟨a, vs, rfl, .of h1, fun q hq => k _ _ _ _ _ _ p1 (g1.trans (Grow.out g1.uh hq)) (g1.fresh hq) upd_same (g1.uh.free hq) h2.rev⟩
    | _ => exact p1.elim⟩

/-! ### dicts -/
def lookD (kvs : List (Key × D)) (k : Key) : Option D := (kvs.find? fun kv => decide (kv.1 = k)).map (·.2)
def putD (kvs : List (Key × D)) (k : Key) (v : D) : List (Key × D) := if kvs.any (fun kv => decide (kv.1 = k)) then kvs.map (fun kv => if kv.1 = k then (kv.1, v) else kv) else kvs ++ [(k, v)]
theorem look_den {H : Hp} {k : Key} : ∀ {es : List (Key × V)} {kvs : List (Key × D)}, DenK K H es kvs → (∀ d, lookD kvs k = some d → ∃ v, valV es k = some v ∧ Den K H v d) ∧ (lookD kvs k = none → valV es k = none)
  | _, _, .nil => ⟨fun d h => (by cases h), fun _ => rfl⟩
  | (x, v) :: es, (_, d) :: kvs, .cons h r => by
    obtain ⟨i1, i2⟩ := look_den (k := k) r
    unfold lookD valV
    rw [List.find?_cons, List.find?_cons]
    by_cases e : x = k
    · simp only [e, decide_true]
      refine ⟨fun d' q => ?_, fun q => ?_⟩
      · cases q
        exact ⟨v, rfl, h⟩
      · cases q
    · simp only [e, decide_false]
      exact ⟨i1, i2⟩
theorem look_isSome {H : Hp} {k : Key} {es : List (Key × V)} {kvs : List (Key × D)} (h : DenK K H es kvs) : (valV es k).isSome = (lookD kvs k).isSome := by
  obtain ⟨h1, h2⟩ := look_den (k := k) h
  cases q : lookD kvs k with
  | none => rw [h2 q]; rfl
  | some d =>
    obtain ⟨v, e, _⟩ := h1 d q
    rw [e]; rfl
def keyD : D → Option Key
  | .int i => some (.inl i)
  | .str s => some (.inr s)
  | _ => none
theorem key_of {U H : Hp} {n : Nat} {v : V} {d : D} {k : Key} (h : DenB K U H n v d) (q : keyD d = some k) : v = kV k := by
  cases d with
  | int i => cases q; exact h.int
  | str i => cases q; exact h.str
  | _ => cases q
/-- d[k] -/
def dDget : RD2 := fun x y n P => match x, keyD y with
  | .dic kvs, some k => match lookD kvs k with
    | some d => P d n
    | none => False
  | _, _ => False
theorem de_dget (hu : X.A.units + 1 < cLine) (ha : DB X b e1 w1) (hb : DB X b e2 w2) (hs : NoSl e2) : DE X b (.Subscript e1 e2 pos) (wOp dDget w1 w2) := pe_weak (pe_dget hu ha hb hs) fun σ H Q ⟨U, ρ, n, P, r, hw, k⟩ =>
  ⟨U, ρ, n, _, r, hw, fun x n1 U1 H1 vx p1 g1 d1 => ⟨U1, ρ, n1, _, r.grow g1, p1, fun y n2 U2 H2 vy p2 g2 d2 => by
    cases x with
    | dic kvs =>
      have p2 : (match keyD y with | some k => (match lookD kvs k with | some d => P d n2 | none => False) | none => False) := by
        cases z : keyD y with
        | none => simp only [dDget, z] at p2
        | some kk => simpa only [dDget, z] using p2
      cases z : keyD y with
      | none => rw [z] at p2; exact p2.elim
      | some kk =>
        rw [z] at p2
        obtain ⟨a, es, rfl, h1, h2⟩ := (d1.grow g2).dict g2.uh
        have e := key_of d2 z
        cases q : lookD kvs kk with
        | none => simp only [q] at p2
        | some d =>
          simp only [q] at p2
          obtain ⟨v, q1, q2⟩ := (look_den (k := kk) h2).1 d q
          refine ⟨a, v, rfl, ?_, k _ _ _ _ _ p2 (g1.trans g2) (.of q2)⟩
          rw [e, ← q1]
          exact DGet.k h1
    | _ => exact p2.elim⟩⟩
/-- k in d -/
def dDin (neg : Bool) : RD2 := fun y x n P => match x, keyD y with
  | .dic kvs, some k => P (.bl (if neg then !(lookD kvs k).isSome else (lookD kvs k).isSome)) n
  | _, _ => False
theorem din_imp {neg : Bool} (hu : X.A.units + 1 < cLine) (ha : DB X b e1 w1) (hb : DB X b e2 w2) : ∀ σ H (Q : VK), lift X.K b (wOp (dDin neg) w1 w2) σ H Q → (if neg then tDNotIn (liftB X.K b w1) (liftB X.K b w2) else tDIn (liftB X.K b w1) (liftB X.K b w2)) σ H Q := fun σ H Q ⟨U, ρ, n, P, r, hw, k⟩ => by
  have go : ∀ y n1 U1 H1 vy, (w2 ρ n1 fun x n2 => dDin neg y x n2 P) → Grow U H n U1 H1 n1 → DenB X.K U1 H1 n1 vy y → liftB X.K b w2 σ H1 fun x H2 => ∃ a o, x = .ref a ∧ DGet H2 a vy o ∧ Q (.bl (if neg then !o.isSome else o.isSome)) H2 := fun y n1 U1 H1 vy p1 g1 d1 => ⟨U1, ρ, n1, _, r.grow g1, p1, fun x n2 U2 H2 vx p2 g2 d2 => by
    cases x with
    | dic kvs =>
      cases z : keyD y with
      | none => simp only [dDin, z] at p2
      | some kk =>
        simp only [dDin, z] at p2
        obtain ⟨a, es, rfl, h1, h2⟩ := d2.dict g2.uh
        have e := key_of d1 z
        refine ⟨a, valV es kk, rfl, by rw [e]; exact DGet.k h1, ?_⟩
        rw [look_isSome h2]
        exact k _ _ _ _ _ p2 (g1.trans g2) (.of (.bl _))
    | _ => exact p2.elim⟩
  cases neg with
  | false => exact ⟨U, ρ, n, _, r, hw, fun y n1 U1 H1 vy p1 g1 d1 => go y n1 U1 H1 vy p1 g1 d1⟩
  | true => exact ⟨U, ρ, n, _, r, hw, fun y n1 U1 H1 vy p1 g1 d1 => go y n1 U1 H1 vy p1 g1 d1⟩
theorem de_din (hu : X.A.units + 1 < cLine) (ha : DB X b e1 w1) (hb : DB X b e2 w2) (hm : behindInMarks .In e2 = false := by rfl) : DE X b (.Compare e1 [.In] [e2] pos) (wOp (dDin false) w1 w2) := pe_weak (pe_cmp (pc_din hu ha hb) hm) (din_imp (neg := false) hu ha hb)
theorem de_dnotin (hu : X.A.units + 1 < cLine) (ha : DB X b e1 w1) (hb : DB X b e2 w2) (hm : behindInMarks .NotIn e2 = false := by rfl) : DE X b (.Compare e1 [.NotIn] [e2] pos) (wOp (dDin true) w1 w2) := pe_weak (pe_cmp (pc_dnotin hu ha hb) hm) (din_imp (neg := true) hu ha hb)
/-- d[k] = v, d an owned dict -/
theorem put_any {H : Hp} {k : Key} : ∀ {es : List (Key × V)} {kvs : List (Key × D)}, DenK K H es kvs → es.any (fun kv => decide (kv.1 = k)) = kvs.any (fun kv => decide (kv.1 = k))
  | _, _, .nil => rfl
  | _, _, .cons h r => by rw [List.any_cons, List.any_cons, put_any r]
theorem put_map {H : Hp} {k : Key} {v : V} {d : D} (hv : Den K H v d) : ∀ {es : List (Key × V)} {kvs : List (Key × D)}, DenK K H es kvs → DenK K H (es.map fun kv => if kv.1 = k then (kv.1, v) else kv) (kvs.map fun kv => if kv.1 = k then (kv.1, d) else kv)
  | _, _, .nil => .nil
  | (x, _) :: _, (_, _) :: _, .cons h r => by
    rw [List.map_cons, List.map_cons]
    by_cases e : x = k
    · rw [if_pos e, if_pos e]
      exact .cons hv (put_map hv r)
    · rw [if_neg e, if_neg e]
      exact .cons h (put_map hv r)
theorem DenK.snoc {H : Hp} {k : Key} {v : V} {d : D} (hv : Den K H v d) : ∀ {es : List (Key × V)} {kvs : List (Key × D)}, DenK K H es kvs → DenK K H (es ++ [(k, v)]) (kvs ++ [(k, d)])
  | _, _, .nil => .cons hv .nil
  | _, _, .cons h r => .cons h (DenK.snoc hv r)
theorem put_den {H : Hp} {k : Key} {v : V} {d : D} (hv : Den K H v d) {es : List (Key × V)} {kvs : List (Key × D)} (h : DenK K H es kvs) : DenK K H (putK es k v) (putD kvs k d) := by
  unfold putK putD
  rw [put_any h]
  split
  · exact put_map hv h
  · exact h.snoc hv
theorem ownK_at {U H : Hp} {n : Nat} {σ : St} {ρ : REnv} {i : Nat} {ds : List (Key × D)} (r : Rel K b U H n σ ρ) (e : ρ[i]? = some (some (.ownK ds))) : ∃ l vs, σ[i]? = some (some (.ref l)) ∧ H l = some (.dK vs) ∧ U l = none ∧ b.H l = none ∧ DenK K U vs ds := by
  obtain ⟨v, h1, l, vs, rfl, h2, h3, h4, h5⟩ := r.sl _ _ e
  exact ⟨l, vs, h1, h2, h3, h4, h5⟩
/-- d[k] = v; the value is asked first, then the key -/
def wDput (i : Nat) (wv wk : WE) : WS := fun DD ρ n => (∃ ds, ρ[i]? = some (some (.ownK ds))) ∧ wv ρ n fun v n1 => wk ρ n1 fun y n2 => match ρ[i]?, keyD y with
  | some (some (.ownK kvs)), some k => (kvs.length < 1000000 ∧ v.nb) ∧ DD.nx (ρ.set i (some (.ownK (putD kvs k v)))) n2
  | _, _ => False
theorem ds_dput (i : Nat) {x : Str} {px pos' : Pos} (hu : X.A.units + 1 < cLine) (hv : DE X b e1 w1) (hk : DE X b e2 w2) (hN : X.N[i]? = some x := by rfl) (hvi : Vis X.env.scope x := by first | exact Or.inl rfl | exact Or.inr (Or.inl rfl) | exact Or.inr (Or.inr rfl)) (hd : (x == ("__debug__" : Str)) = false := by decide)
    (hcd : (x == ("__classdict__" : Str)) = false := by decide) (hs : swapsWith e1 (some (.Subscript (.Name x px) e2 pos')) pos.line X.env = pure false := by rfl) :
    DS X b (.Assign [.Subscript (.Name x px) e2 pos'] e1 pos) (wDput i w1 w2) := ps_weak (ps_dput hu (pe_var hN hvi hd hcd) hk hv hs) fun E σ H ⟨U, ρ, n, DD, r, ⟨⟨ds0, e0⟩, hw⟩, k⟩ => by
  obtain ⟨l, vs, h1, h2, h3, h4, h5⟩ := ownK_at r e0
  refine ⟨U, ρ, n, _, r, hw, fun d n1 U1 H1 v p1 g1 d1 => ⟨_, h1, U1, ρ, n1, _, r.grow g1, p1, fun y n2 U2 H2 vy p2 g2 d2 => ?_⟩⟩
  have p2 : (match keyD y with | some k => (ds0.length < 1000000 ∧ d.nb) ∧ DD.nx (ρ.set i (some (.ownK (putD ds0 k d)))) n2 | none => False) := by
    cases z : keyD y with
    | none => simp only [e0, z] at p2
    | some kk => simpa only [e0, z] using p2
  cases z : keyD y with
  | none => rw [z] at p2; exact p2.elim
  | some kk =>
    rw [z] at p2
    obtain ⟨⟨q1, q2⟩, q3⟩ := p2
    have gg := g1.trans g2
    have e := key_of (.inl d2) z
    refine ⟨l, _, rfl, by rw [e]; exact DPut.k (gg.dK h2) (size_lt (by rw [h5.length]; exact q1)), k.nx _ _ _ _ _ ((r.grow gg).putK e0 h1 (put_den ((d1.grow g2).den q2) (h5.mono gg.u))) q3⟩

/-! ### pops of an owned list -/
/-- an expression that takes an item out of an owned list: then what follows -/
def popK (i : Nat) (wi : WE) (DD : REnv → Nat → D → Prop) : REnv → Nat → Prop := fun ρ n => (∃ ds, ρ[i]? = some (some (.own ds))) ∧ wi ρ n fun y n1 => match ρ[i]?, y with
  | some (some (.own ds)), .int j => (0 ≤ j ∧ j < 1000000) ∧ match ds[j.toNat]? with
    | some d => DD (ρ.set i (some (.own (ds.eraseIdx j.toNat)))) n1 d
    | none => False
  | _, _ => False
def tPop (K : PySem.W.Frag) (b : Bs) (i : Nat) (wi : WE) : TE := fun σ H Q => ∃ U ρ n DD, Rel K b U H n σ ρ ∧ popK i wi DD ρ n ∧ ∀ ρ' n' U' H' v d, DD ρ' n' d → Rel K b U' H' n' σ ρ' → Den K U' v d → Q v H'
theorem pe_pop (i : Nat) {x : Str} {px pa : Pos} (hi : DE X b e w) (hN : X.N[i]? = some x := by rfl) (hvi : Vis X.env.scope x := by first | exact Or.inl rfl | exact Or.inr (Or.inl rfl) | exact Or.inr (Or.inr rfl)) (hd : (x == ("__debug__" : Str)) = false := by decide)
    (hcd : (x == ("__classdict__" : Str)) = false := by decide)
    (hps : PE X (.Call (.Attribute (.Name x px) "pop" pa) [e] [] pos) (tBM X.K "list" rPopAt (tVar i) (tCons (lift X.K b w) tNil)) := by exact pe_bm PySem.F.plainAttrs_list PySem.F.slot_list_pop PySem.F.type_list_pop mt_popAt (pe_var (by rfl) (by first | exact Or.inl rfl | exact Or.inr (Or.inl rfl) | exact Or.inr (Or.inr rfl))) (pa_cons (by assumption) pa_nil)) :
    PE X (.Call (.Attribute (.Name x px) "pop" pa) [e] [] pos) (tPop X.K b i w) := pe_weak hps fun σ H Q ⟨U, ρ, n, DD, r, ⟨⟨ds0, e0⟩, hw⟩, k⟩ => by
  obtain ⟨l, vs, h1, h2, h3, h4, h5⟩ := own_at r e0
  refine ⟨_, h1, .inl ⟨rfl, vs, SqL.of h2⟩, U, ρ, n, _, r, hw, fun y n1 U1 H1 vy p1 g1 d1 => ?_⟩
  rw [e0] at p1
  cases y with
  | int j =>
    cases d1
    obtain ⟨⟨q1, q2⟩, p1⟩ := (show (0 ≤ j ∧ j < 1000000) ∧ (match ds0[j.toNat]? with | some d => DD (ρ.set i (some (.own (ds0.eraseIdx j.toNat)))) n1 d | none => False) from p1)
    have z1 := h5.mono g1.u
    cases z : ds0[j.toNat]? with
    | none => rw [z] at p1; exact p1.elim
    | some d =>
      rw [z] at p1
      obtain ⟨v, v1, v2⟩ := z1.get z
      have hlen : j.toNat < vs.length := (List.getElem?_eq_some_iff.mp v1).1
      have hsi : seqIndex? j vs.length = some j.toNat := (ixN_seq (show ixN vs.length j = some j.toNat by unfold ixN; rw [if_pos q1, if_pos (by omega)])).1
      exact ⟨l, vs, j, j.toNat, v, rfl, rfl, g1.lst h2, by omega, by omega, hsi, v1, k _ _ _ _ _ _ p1 ((r.grow g1).put e0 h1 (z1.erase _)) v2⟩
  | _ => exact p1.elim
/-- y = x.pop(i) -/
def wPopAsg (j i : Nat) (wi : WE) : WS := fun DD => popK i wi fun ρ' n' d => DD.nx (ρ'.set j (some (.val d))) n'
theorem ds_popAsg {j i : Nat} {x : Str} {pos' : Pos} (h : PE X e (tPop X.K b i w)) (hN : X.N.Nodup) (hj : X.N[j]? = some x := by rfl) (hx : Loc X.env.scope x := by first | exact .inl rfl | exact .inr rfl)
    (hs : swapsWith e (some (.Name x pos')) pos.line X.env = pure false := by rfl) (hf : X.fn x = true ∨ X.env.scope.names.lookup x = some .local := by first | exact .inl rfl | exact .inr rfl | assumption) :
    DS X b (.Assign [.Name x pos'] e pos) (wPopAsg j i w) := ps_weak (ps_set hN hj hx h hs hf) fun E σ H ⟨U, ρ, n, DD, r, hw, k⟩ => ⟨U, ρ, n, _, r, hw, fun ρ' n' U' H' v d p r' dv => k.nx _ _ _ _ _ (r'.set (.of dv)) p⟩
/-- y, z = x.pop(i) -/
def wPopTup (is : List Nat) (i : Nat) (wi : WE) : WS := fun DD => popK i wi fun ρ' n' d => match d with
  | .tup ds => ds.length = is.length ∧ DD.nx (setD ρ' is ds) n'
  | _ => False
theorem ds_popTup {i : Nat} (is : List Nat) {es : List Expr} {kt : Nat} {pt : Pos} (hc : X.calm = true) (h : PE X e (tPop X.K b i w)) (hg : PGs X es (gNames is)) (hn : (assignEach es X.env).length = is.length := by rfl) (hst : (assignEach es X.env).findIdx? (·.1) = none := by rfl)
    (hs : swapsWithSole [.Tuple es kt pt] e pos.line X.env = pure false := by rfl) (hw : swappedStores [.Tuple es kt pt] e X.env = pure none := by rfl) :
    DS X b (.Assign [.Tuple es kt pt] e pos) (wPopTup is i w) := ps_weak (ps_asg h (pg_tup hc hg hn hst) hs hw) fun E σ H ⟨U, ρ, n, DD, r, hw, k⟩ => ⟨U, ρ, n, _, r, hw, fun ρ' n' U' H' v d p r' dv => by
  cases d with
  | tup ds =>
    cases dv with
    | @tup a vs _ h1 h2 =>
      obtain ⟨hl, p⟩ := (show ds.length = is.length ∧ DD.nx (setD ρ' is ds) n' from p)
      exact ⟨a, vs, rfl, sqt_same r'.same h1, by rw [h2.length, hl], gNames_ok (σ := σ) (by rw [h2.length, hl]) (k.nx _ _ _ _ _ (r'.setAll h2) p)⟩
  | _ => exact (show False from p).elim⟩
/-- y.append(x.pop(i)) -/
def wAppPop (j i : Nat) (wi : WE) : WS := fun DD ρ n => (∃ es, ρ[j]? = some (some (.own es))) ∧ i ≠ j ∧ popK i wi (fun ρ' n' d => match ρ'[j]? with
  | some (some (.own ds)) => ds.length < 1000000 ∧ DD.nx (ρ'.set j (some (.own (ds ++ [d])))) n'
  | _ => False) ρ n
theorem ds_appPop (j i : Nat) {x : Str} {px pa pos' : Pos} (h : PE X e (tPop X.K b i w)) (hN : X.N[j]? = some x := by rfl) (hvi : Vis X.env.scope x := by first | exact Or.inl rfl | exact Or.inr (Or.inl rfl) | exact Or.inr (Or.inr rfl))
    (hps : PE X (.Call (.Attribute (.Name x px) "append" pa) [e] [] pos) (tBM X.K "list" rAppend (tVar j) (tCons (tPop X.K b i w) tNil)) := by exact pe_bm PySem.F.plainAttrs_list PySem.F.slot_list_append PySem.F.type_list_append mt_append (pe_var (by rfl) (by first | exact Or.inl rfl | exact Or.inr (Or.inl rfl) | exact Or.inr (Or.inr rfl))) (pa_cons (by assumption) pa_nil))
    (hs : swapsWith (.Call (.Attribute (.Name x px) "append" pa) [e] [] pos) none pos'.line X.env = pure false := by rfl) :
    DS X b (.Expr (.Call (.Attribute (.Name x px) "append" pa) [e] [] pos) pos') (wAppPop j i w) := ps_weak (ps_expr hps hs) fun E σ H ⟨U, ρ, n, DD, r, ⟨⟨ds0, e0⟩, hij, hw⟩, k⟩ => by
  obtain ⟨l, vs, h1, h2, h3, h4, h5⟩ := own_at r e0
  refine ⟨_, h1, .inl ⟨rfl, vs, SqL.of h2⟩, U, ρ, n, _, r, hw, fun ρ' n' U' H' v d p r' dv => ?_⟩
  cases z : ρ'[j]? with
  | none => simp only [z] at p
  | some o =>
    cases o with
    | none => simp only [z] at p
    | some s =>
      cases s with
      | own ds =>
        simp only [z] at p
        obtain ⟨l', vs', q1, q2, q3, q4, q5⟩ := own_at r' z
        rw [h1] at q1
        cases q1
        exact ⟨l, vs', v, rfl, rfl, q2, size_lt (by rw [q5.length]; exact p.1), k.nx _ _ _ _ _ (r'.put z h1 (q5.snoc dv)) p.2⟩
      | _ => simp only [z] at p
/-- x.extend(ys), ys a list -/
def wExt (i : Nat) (w : WE) : WS := fun DD ρ n => (∃ ds, ρ[i]? = some (some (.own ds))) ∧ w ρ n fun d n1 => match ρ[i]?, d with
  | some (some (.own ds)), .lst es => ds.length + es.length ≤ 1000000 ∧ DD.nx (ρ.set i (some (.own (ds ++ es)))) n1
  | _, _ => False
theorem ds_ext (i : Nat) {x : Str} {px pa : Pos} {pos' : Pos} (h : DE X b e w) (hN : X.N[i]? = some x := by rfl) (hvi : Vis X.env.scope x := by first | exact Or.inl rfl | exact Or.inr (Or.inl rfl) | exact Or.inr (Or.inr rfl))
    (hps : PE X (.Call (.Attribute (.Name x px) "extend" pa) [e] [] pos) (tBM X.K "list" rExtend (tVar i) (tCons (lift X.K b w) tNil)) := by exact pe_bm PySem.F.plainAttrs_list PySem.F.slot_list_extend PySem.F.type_list_extend mt_extend (pe_var (by rfl) (by first | exact Or.inl rfl | exact Or.inr (Or.inl rfl) | exact Or.inr (Or.inr rfl))) (pa_cons (by assumption) pa_nil))
    (hs : swapsWith (.Call (.Attribute (.Name x px) "extend" pa) [e] [] pos) none pos'.line X.env = pure false := by rfl) :
    DS X b (.Expr (.Call (.Attribute (.Name x px) "extend" pa) [e] [] pos) pos') (wExt i w) := ps_weak (ps_expr hps hs) fun E σ H ⟨U, ρ, n, DD, r, ⟨⟨ds0, e0⟩, hw⟩, k⟩ => by
  obtain ⟨l, vs, h1, h2, h3, h4, h5⟩ := own_at r e0
  refine ⟨_, h1, .inl ⟨rfl, vs, SqL.of h2⟩, U, ρ, n, _, r, hw, fun d n' U' H' v p g dx => ?_⟩
  rw [e0] at p
  cases d with
  | lst es =>
    cases dx with
    | @lst a ws _ q1 q2 =>
      obtain ⟨p1, p2⟩ := (show ds0.length + es.length ≤ 1000000 ∧ DD.nx (ρ.set i (some (.own (ds0 ++ es)))) n' from p)
      exact ⟨l, a, vs, ws, rfl, rfl, g.lst h2, g.uh _ _ q1, by rw [h5.length, q2.length]; exact size_le p1, k.nx _ _ _ _ _ ((r.grow g).put e0 h1 ((h5.mono g.u).append q2)) p2⟩
  | _ => exact (show False from p).elim

/-! ### keyword calls -/
abbrev Ix := List (Sum Nat Nat)
def pick {α : Type} (ix : Ix) (us ws : List α) : List α := ix.filterMap fun s => match s with
  | .inl i => us[i]?
  | .inr j => ws[j]?
theorem pick_rel {α β : Type} {R : α → β → Prop} {us ws : List α} {vs zs : List β} (h1 : ∀ i : Nat, (us[i]? = none ∧ vs[i]? = none) ∨ ∃ a c, us[i]? = some a ∧ vs[i]? = some c ∧ R a c) (h2 : ∀ i : Nat, (ws[i]? = none ∧ zs[i]? = none) ∨ ∃ a c, ws[i]? = some a ∧ zs[i]? = some c ∧ R a c) :
    ∀ ix : Ix, Paired R (pick ix us ws) (pick ix vs zs)
  | [] => .nil
  | s :: ix => by
    have ih := pick_rel h1 h2 ix
    unfold pick at ih ⊢
    rw [List.filterMap_cons, List.filterMap_cons]
    cases s with
    | inl i =>
      rcases h1 i with ⟨e1, e2⟩ | ⟨a, c, e1, e2, q⟩
      · simp only [e1, e2]; exact ih
      · simp only [e1, e2]; exact .cons q ih
    | inr i =>
      rcases h2 i with ⟨e1, e2⟩ | ⟨a, c, e1, e2, q⟩
      · simp only [e1, e2]; exact ih
      · simp only [e1, e2]; exact .cons q ih
theorem vals_each {us : List Value} {vs : List V} (h : Vals vs us) (i : Nat) : (vs[i]? = none ∧ us[i]? = none) ∨ ∃ a c, vs[i]? = some a ∧ us[i]? = some c ∧ RelV a c := by
  cases q : vs[i]? with
  | none => exact .inl ⟨rfl, h.none_of q⟩
  | some v =>
    obtain ⟨u, e, r⟩ := h.get q
    exact .inr ⟨v, u, rfl, e, r⟩
theorem densX_each {U H : Hp} {n : Nat} {vs : List V} {ds : List D} (h : DensX K U H n vs ds) (i : Nat) : (vs[i]? = none ∧ ds[i]? = none) ∨ ∃ a c, vs[i]? = some a ∧ ds[i]? = some c ∧ DenX K U H n a c := by
  cases q : ds[i]? with
  | none =>
    refine .inl ⟨?_, rfl⟩
    have := h.length
    rw [List.getElem?_eq_none_iff] at q ⊢
    omega
  | some d =>
    obtain ⟨u, e, r⟩ := h.get q
    exact .inr ⟨u, d, e, rfl, r⟩
theorem densX_of {U H : Hp} {n : Nat} : ∀ {vs : List V} {ds : List D}, Paired (DenX K U H n) vs ds → DensX K U H n vs ds
  | _, _, .nil => .nil
  | _, _, .cons a r => .cons a (densX_of r)
/-- how a call with so many positional values and such keywords binds -/
theorem Fun.kbn {x qual : Str} {st : Stmt} {f : Addr} {fd : FuncData} {ps : List Str} (G : Fun K x qual st f fd) (n : Nat) (ks : List Str) (ix : Ix)
    (h : ∀ (kV doc pm : Value) (an : Option Addr) (cdv ct : Value) (us ws : List Value), us.length = n → ws.length = ks.length → bindArgs (PySem.W.fnOf x qual (defArgs st) (defBody st) (defScope st) .none kV doc pm an cdv ct) ⟨us, ks.zip ws⟩ = pure (ps.zip (pick ix us ws))) :
    KBn K fd ps n ks (pick ix) (pick ix) := by
  obtain ⟨oc, od, kV, doc, pm, an, cdv, ct, osl, rfl, lk, hcd⟩ := G.ex
  exact ⟨fun s us ws _ h1 h2 => .of_eq (h kV doc pm an cdv ct us ws h1 h2), fun h1 h2 => pick_rel (vals_each h1) (vals_each h2) ix⟩
/-- argument lists whose length is known -/
def liftAN (K : PySem.W.Frag) (b : Bs) (m : Nat) (w : WF) : TA := fun σ H Q => ∃ U ρ n P, Rel K b U H n σ ρ ∧ w ρ n P ∧ ∀ ds n' U' H' vs, P ds n' → Grow U H n U' H' n' → DensX K U' H' n' vs ds → ds.length = m → Q vs H'
def DAN (X : Cx) (b : Bs) (m : Nat) (es : List Expr) (w : WF) : Prop := PA X es (liftAN X.K b m w)
def DKN (X : Cx) (b : Bs) (m : Nat) (kws : List Keyword) (w : WF) : Prop := PK X kws (liftAN X.K b m w)
variable {kws : List Keyword} {nm : Option Str} {kpos : Pos} {es : List Expr} {m : Nat}
theorem dan_nil : DAN X b 0 [] wNil := pa_weak pa_nil fun σ H Q ⟨U, ρ, n, P, hr, hw, k⟩ => k _ _ _ _ _ hw (Grow.refl hr.same) .nil rfl
theorem dan_cons (ha : DE X b e w) (hr : DAN X b m es wf) (hs : starEach (e :: es) X.env = (false, eval e X.env) :: starEach es X.env := by rfl) : DAN X b (m + 1) (e :: es) (wCons w wf) := pa_weak (pa_cons ha hr hs) fun σ H Q ⟨U, ρ, n, P, hr, hw, k⟩ =>
  ⟨U, ρ, n, _, hr, hw, fun x n1 U1 H1 vx p1 g1 d1 => ⟨U1, ρ, n1, _, hr.grow g1, p1, fun xs n2 U2 H2 vs p2 g2 d2 l2 => k _ _ _ _ _ p2 (g1.trans g2) (.cons (d1.grow g2) d2) (congrArg (· + 1) l2)⟩⟩
theorem dkn_nil : DKN X b 0 [] wNil := ⟨fun pos pins s σ H Q I ⟨U, ρ, n, P, r, hw, k⟩ => pk_nil.run pos pins s σ H Q I (k _ _ _ _ _ hw (Grow.refl r.same) .nil rfl)⟩
theorem dkn_cons (ha : DE X b e w) (hr : DKN X b m kws wf) : DKN X b (m + 1) (⟨nm, e, kpos⟩ :: kws) (wCons w wf) := ⟨fun pos pins s σ H Q I ⟨U, ρ, n, P, r, hw, k⟩ => (pk_cons ha hr).run pos pins s σ H Q I
  ⟨U, ρ, n, _, r, hw, fun x n1 U1 H1 vx p1 g1 d1 => ⟨U1, ρ, n1, _, r.grow g1, p1, fun xs n2 U2 H2 vs p2 g2 d2 l2 => k _ _ _ _ _ p2 (g1.trans g2) (.cons (d1.grow g2) d2) (congrArg (· + 1) l2)⟩⟩⟩
def wCallN (F : FD) (ix : Ix) (w wk : WF) : WE := fun ρ n P => w ρ n fun ds n1 => wk ρ n1 fun zs n2 => F (pick ix ds zs) n2 P
variable {CX : CXT} {k n0 : Nat} {f : Addr} {fd : FuncData} {ps ks : List Str} {F : FD} {x : Str} {ix : Ix}
theorem de_callN (G : FnOk X.prog X.w X.K X.mg X.base CX k f fd ps (spD X.K F)) (hr : Room k X.A) (hm : X.mg x = some (.ref f)) (hk : PySem.W.keepIn X.K (.ref f) = true) (hb : KBn X.K fd ps n0 ks (pick ix) (pick ix)) (hx : Passes CX X E0) (ha : DAN X b n0 (e :: es) wf) (hkw : DKN X b ks.length kws wf')
    (hg : Gl X x := by rfl) (hall : (backToKw pos (keywordEach kws X.env)).all (·.1.isSome) = true := by rfl) (hks : (backToKw pos (keywordEach kws X.env)).filterMap (·.1) = ks := by rfl)
    (hdb : (x == ("__debug__" : Str)) = false := by decide) (he : starEach (e :: es) X.env = (false, eval e X.env) :: starEach es X.env := by rfl) (hpl : ((backTo pos (starEach (e :: es) X.env)).any (·.1) || (backToKw pos (keywordEach kws X.env)).any (·.1.isNone)) = false := by rfl) :
    DE X b (.Call (.Name x p) (e :: es) kws pos) (wCallN F ix wf wf') := pe_weak (pe_callN G hr hg hm hk hb hx ha hkw hall hks hdb he hpl) fun σ H Q ⟨U, ρ, n, P, r, hw, k⟩ =>
  ⟨U, ρ, n, _, r, hw, fun ds n1 U1 H1 vs p1 g1 d1 l1 => ⟨U1, ρ, n1, _, r.grow g1, p1, fun zs n2 U2 H2 us p2 g2 d2 l2 =>
    ⟨by rw [d1.length, l1], by rw [d2.length, l2], U2, n2, _, P, g2.uh, densX_of (pick_rel (densX_each (d1.grow g2)) (densX_each d2) ix), p2, fun d n' U' H' v p g dx => k d n' U' H' v p ((g1.trans g2).trans g) dx⟩⟩⟩
/-- keywords alone -/
theorem pe_callN0 {sp : Sp} {E : XK} {tk : TA} {g : List Value → List Value → List Value} {gV : List V → List V → List V} (F : FnOk X.prog X.w X.K X.mg X.base CX k f fd ps sp) (hr : Room k X.A) (hg : Gl X x) (hm : X.mg x = some (.ref f)) (hk : PySem.W.keepIn X.K (.ref f) = true) (hb : KBn X.K fd ps 0 ks g gV) (hx : Passes CX X E)
    (hkw : PK X kws tk) (hall : (backToKw pos (keywordEach kws X.env)).all (·.1.isSome) = true := by rfl) (hks : (backToKw pos (keywordEach kws X.env)).filterMap (·.1) = ks := by rfl)
    (hdb : (x == ("__debug__" : Str)) = false := by decide) (hpl : ((backTo pos (starEach [] X.env)).any (·.1) || (backToKw pos (keywordEach kws X.env)).any (·.1.isNone)) = false := by rfl) :
    PE X (.Call (.Name x p) [] kws pos) (tCallN 0 ks.length sp gV E tNil tk) := by
  refine ⟨fun pins s σ H Q I h => ?_⟩
  refine wpAny_Call_Name_kw (ld_glob I hg hm ?_ hdb)
  refine PySem.W.callWith_KW0 (h₀ := X.base) I.ok.mod.kin hk hall ?_ hpl
  refine thn (hkw.run pos pins s σ H _ I h) fun ws s2 ⟨zs, H2, I2, rz, l1, l2, q2⟩ => ⟨I2.kIn, ?_⟩
  rw [hks]
  exact run_fnN (us := []) (vs := []) F hr hb hx I2 .nil rz rfl l2 q2
theorem de_callN0 (G : FnOk X.prog X.w X.K X.mg X.base CX k f fd ps (spD X.K F)) (hr : Room k X.A) (hm : X.mg x = some (.ref f)) (hk : PySem.W.keepIn X.K (.ref f) = true) (hb : KBn X.K fd ps 0 ks (pick ix) (pick ix)) (hx : Passes CX X E0) (hkw : DKN X b ks.length kws wf')
    (hg : Gl X x := by rfl) (hall : (backToKw pos (keywordEach kws X.env)).all (·.1.isSome) = true := by rfl) (hks : (backToKw pos (keywordEach kws X.env)).filterMap (·.1) = ks := by rfl)
    (hdb : (x == ("__debug__" : Str)) = false := by decide) (hpl : ((backTo pos (starEach [] X.env)).any (·.1) || (backToKw pos (keywordEach kws X.env)).any (·.1.isNone)) = false := by rfl) :
    DE X b (.Call (.Name x p) [] kws pos) (wCallN F ix wNil wf') := pe_weak (pe_callN0 G hr hg hm hk hb hx hkw hall hks hdb hpl) fun σ H Q ⟨U, ρ, n, P, r, hw, k⟩ =>
  ⟨U, ρ, n, _, r, hw, fun zs n2 U2 H2 us p2 g2 d2 l2 =>
    ⟨rfl, by rw [d2.length, l2], U2, n2, _, P, g2.uh, densX_of (pick_rel (densX_each (DensX.nil (n := n2))) (densX_each d2) ix), p2, fun d n' U' H' v p g dx => k d n' U' H' v p (g2.trans g) dx⟩⟩

/-! ### starred displays -/
def wStar (w : WE) (r : WF) : WF := fun ρ n P => w ρ n fun d n1 => match d with
  | .lst ds => nbs ds ∧ r ρ n1 fun xs n2 => P (ds ++ xs) n2
  | .tup ds => nbs ds ∧ r ρ n1 fun xs n2 => P (ds ++ xs) n2
  | _ => False
theorem DensX.app {U H : Hp} {n : Nat} : ∀ {v v' : List V} {d d' : List D}, Dens K U v d → nbs d → DensX K U H n v' d' → DensX K U H n (v ++ v') (d ++ d')
  | _, _, _, _, .nil, _, h => h
  | _, _, _, _, .cons a r, q, h => .cons (.of a) (DensX.app r q.2 h)
theorem da_star {ps' : Pos} (ha : DE X b e w) (hr : DA X b es wf) (hs : starEach (.Starred e ps' :: es) X.env = (true, eval e X.env) :: starEach es X.env := by rfl) : DA X b (.Starred e ps' :: es) (wStar w wf) := pa_weak (StX.pa_star ha hr hs) fun σ H Q ⟨U, ρ, n, P, r, hw, k⟩ =>
  ⟨U, ρ, n, _, r, hw, fun d n1 U1 H1 v p1 g1 d1 => by
    cases d with
    | lst ds =>
      cases d1 with
      | @lst a vs _ h1 h2 => exact ⟨a, vs, rfl, .inr (.of (g1.uh _ _ h1)), U1, ρ, n1, _, r.grow g1, p1.2, fun xs n2 U2 H2 us p2 g2 d2 => k _ _ _ _ _ p2 (g1.trans g2) (DensX.app (h2.mono g2.u) p1.1 d2)⟩
    | tup ds =>
      cases d1 with
      | @tup a vs _ h1 h2 => exact ⟨a, vs, rfl, .inl (sqt_same g1.uh h1), U1, ρ, n1, _, r.grow g1, p1.2, fun xs n2 U2 H2 us p2 g2 d2 => k _ _ _ _ _ p2 (g1.trans g2) (DensX.app (h2.mono g2.u) p1.1 d2)⟩
    | _ => exact p1.elim⟩
end
end DL
/-! Data-level layer, 10: more of the machine: tuple[::-1], sorted of a tuple, list times, unpacking, the top's defs. -/
namespace HT
open PySem PyProof.Rows PySem.SeqAt
open PySem.MeetsSeq PySem.MeetsSeq2 PySem.MeetsSeq3
section
variable {prog : Program} {w : World} {A : Around} {E : Value → Shared → Prop} {s : Shared}
theorem dl_pick (xs : Array Value) : ((List.range xs.size).filterMap fun (m : Nat) => xs[(((xs.size : Int) - 1) + (m : Int) * (-1)).toNat]?).toArray = xs.toList.reverse.toArray := by
  have e : (List.range xs.size).filterMap (fun (m : Nat) => xs[(((xs.size : Int) - 1) + (m : Int) * (-1)).toNat]?) = ((List.range xs.size).map fun k => xs.size - 1 - k).filterMap (xs[·]?) := by
    rw [List.filterMap_map]
    have go : ∀ l : List Nat, (∀ m ∈ l, m < xs.size) → l.filterMap (fun (m : Nat) => xs[(((xs.size : Int) - 1) + (m : Int) * (-1)).toNat]?) = l.filterMap ((xs[·]?) ∘ fun k => xs.size - 1 - k) := by
      intro l
      induction l with
      | nil => intro _; rfl
      | cons m r ih =>
        intro h
        have hm := h m List.mem_cons_self
        have z : (((xs.size : Int) - 1) + (m : Int) * (-1)).toNat = xs.size - 1 - m := by omega
        rw [List.filterMap_cons, List.filterMap_cons, z, ih fun k hk => h k (List.mem_cons_of_mem _ hk)]
        rfl
    exact go _ fun m hm => List.mem_range.mp hm
  rw [e, PySem.W.krv_range, List.filterMap_reverse, PySem.W.krv_all]
theorem dl_sliceApplied {sl : Addr} {t : Tok} {n : Nat} {Q : Int × Int × Nat → Shared → Prop} (hs : s.heap.IsSliceOf sl .none .none (.int (-1) t))
    (h : Q ((n : Int) - 1, -1, n) s) : wpAny (model prog w) A (Builtin.Slice.sliceApplied (.ref sl) (pure (n : Int))) Q E s := by
  obtain ⟨os, hos, hcs, hds⟩ := id hs
  unfold Builtin.Slice.sliceApplied Builtin.Slice.sliceFields
  refine wpAny_bind (wpAny_bind (wpAny_field hos hds (x := .none) rfl (wpAny_bind (wpAny_field hos hds (x := .none) rfl (wpAny_bind (wpAny_field hos hds (x := .int (-1) t) rfl (wpAny_pure ?_)))))))
  refine wpAny_bind (slicePart_ (.int (-1) t) ?_)
  show wpAny _ _ (if ((-1 : Int) == 0) = true then _ else _) _ _ s
  rw [if_neg (by decide)]
  refine wpAny_bind (slicePart_none (wpAny_bind (slicePart_none (wpAny_bind (wpAny_pure ?_)))))
  have e : Builtin.Slice.slicePlaces ((n : Int) - 1) (-1) (-1) = n := by
    unfold Builtin.Slice.slicePlaces
    have h1 : ¬ ((-1 : Int) > 0) := by decide
    simp only [h1, if_false]
    by_cases h : (n : Int) - 1 > -1
    · simp only [h, if_true]
      rw [show (-(-1) : Int) = 1 by decide, Int.ediv_one]
      omega
    · simp only [h, if_false]
      omega
  show wpAny _ _ (pure ((n : Int) - 1, (-1 : Int), Builtin.Slice.slicePlaces ((n : Int) - 1) (-1) (-1))) _ _ s
  rw [e]
  exact wpAny_pure h
theorem dl_getItem_rev {t sl : Addr} {items : Array Value} {tk : Tok} {Q : Value → Shared → Prop} (ht : IsTup s.heap t items) (hs : s.heap.IsSliceOf sl .none .none (.int (-1) tk))
    (h : Q (.ref s.heap.objs.size) { s with heap := s.heap.push { cls := .type "tuple", data := .seq items.toList.reverse.toArray } }) (hsz : items.size ≤ sizeLine) : wpAny (model prog w) A (getItem (.ref t) (.ref sl)) Q E s := by
  have htake : sizeOk (.seq items.toList.reverse.toArray) := by
    show items.toList.reverse.toArray.size ≤ sizeLine
    rw [List.size_toArray, List.length_reverse, Array.length_toList]
    exact hsz
  obtain ⟨os, hos, hcs, hds⟩ := id hs
  have hTs : s.TypeIs (.ref sl) "slice" := ⟨os, hos, hcs⟩
  unfold getItem
  try with_reducible refine wpAny_holding ?_
  first | refine wpAny_bind (wpAny_pure ?_) | skip
  refine wpAny_bind (wpAny_sequenceKey ht.typeIs (by decide) ?_)
  refine wpAny_bind (wpAny_callSpecial?_slot (name := Str.ofString "__getitem__") ht.typeIs PyProof.Rows.slot_tuple_getitem
    (wpAny_call_entry PyProof.Rows.slot_tuple_getitem ht.typeIs entry_tuple_getitem ?_ (args_tuple_getitem _ _)))
  show wpAny _ _ (Builtin.Tuple.tupleItemsOf (.ref t) >>= _) _ _ s
  refine wpAny_bind (tupleItemsOf_ ht ?_)
  refine wpAny_bind (wpAny_typeOf hTs ?_)
  rw [if_pos (by decide)]
  refine wpAny_bind (dl_sliceApplied hs ?_)
  have hno : ¬ (((((items.size : Int) - 1) == 0 && (-1 : Int) == 1 && items.size == items.size)) = true) := by
    intro q
    rw [Bool.and_eq_true, Bool.and_eq_true] at q
    have q1 : (-1 : Int) = 1 := eq_of_beq q.1.2
    omega
  show wpAny _ _ (if ((((items.size : Int) - 1) == 0 && (-1 : Int) == 1 && items.size == items.size)) = true then _ else _) _ _ s
  rw [if_neg hno, dl_pick]
  first
    | exact wpAny_bind (m := Builtin.Tuple.tupleExact _) (wpAny_newObj_type (wpAny_pure ⟨_, rfl, wpAny_pure h⟩) htake)
    | exact wpAny_bind (m := Builtin.Tuple.tupleExact _) (wpAny_newObj_type (wpAny_bind (wpAny_pure (wpAny_pure ⟨_, rfl, wpAny_pure h⟩))) htake)
    | exact wpAny_bind (wpAny_bind (m := Builtin.Tuple.tupleExact _) (wpAny_newObj_type (wpAny_pure (wpAny_pure ⟨_, rfl, wpAny_pure h⟩)) htake))
    | exact wpAny_bind (wpAny_bind (m := Builtin.Tuple.tupleExact _) (wpAny_newObj_type (wpAny_pure ⟨_, rfl, wpAny_pure h⟩) htake))
end
end HT
namespace L2
open PySem PySem.Spec PyProof.Rows
section
variable {X : Cx}
def tRevT (K : PySem.W.Frag) (te : TE) : TE := fun σ H Q => te σ H fun x H1 => ∃ a xs, x = .ref a ∧ SqT K H1 a xs ∧ ∀ p, H1 p = none → Q (.ref p) (upd H1 p (.tup xs.reverse))
theorem pe_revT {e : Expr} {te : TE} {k : Nat} {p1 p2 p3 pos : Pos} (he : PE X e te) : PE X (.Subscript e (.Slice none none (some (.UnaryOp .USub (.Constant (.int 1) k p1) p2)) p3) pos) (tRevT X.K te) := by
  refine ⟨fun pins s σ H Q I h => ?_⟩
  refine Subscript_ (thn (he.run pins s σ H _ I h) fun v s1 ⟨x, H1, I1, r1, q1⟩ => ?_)
  obtain ⟨a, xs, ex, hx, q⟩ := q1
  subst ex
  cases r1
  have hst : PO X (some (.UnaryOp .USub (.Constant (.int 1) k p1) p2)) (tPart (tUn (rU fun i => .int (-i)) (tC (.int 1)))) := po_some (pe_un un_neg pe_int)
  refine wpAny_Slice (thn (po_none.run pins s1 σ H1 (fun o H2 => o = none ∧ H2 = H1) I1 ⟨rfl, rfl⟩) fun vl s2 ⟨l, H2, I2, pl, el, e2⟩ => ?_)
  subst el e2
  refine thn (po_none.run pins s2 σ H2 (fun o H3 => o = none ∧ H3 = H2) I2 ⟨rfl, rfl⟩) fun vu s3 ⟨u, H3, I3, pu, eu, e3⟩ => ?_
  subst eu e3
  refine thn (hst.run pins s3 σ H3 (fun o H4 => o = some (-1) ∧ H4 = H3) I3 ⟨1, rfl, -1, rfl, rfl, rfl⟩) fun vs s4 ⟨o, H4, I4, ps, eo, e4⟩ => ?_
  subst eo e4
  cases pl
  cases pu
  cases ps with
  | int _ tk =>
  have I5 : Inv X pins σ H4 { s4 with heap := s4.heap.push { cls := .type "slice", data := .fields #[.none, .none, .int (-1) tk] } } := I4.kept (t' := s4.toks) fun b ob q => Heap.get?_push_of_some _ q
  obtain ⟨its, r, ht, hz⟩ := I5.tuple hx
  have hlen := r.length
  show wpAny (model X.prog X.w) X.A (subscriptTail e (.Slice none none (some (.UnaryOp .USub (.Constant (.int 1) k p1) p2)) p3) (.ref a) (.ref s4.heap.objs.size)) (EP X pins σ Q) X.xe { s4 with heap := s4.heap.push { cls := .type "slice", data := .fields #[.none, .none, .int (-1) tk] } }
  refine tail_any (ops := [.ref a, .ref s4.heap.objs.size]) ht.typeIs (PyProof.Rows.slot_tuple_getitem.lookup) ?_ (by with_unfolding_all rfl)
  refine HT.dl_getItem_rev ht (Heap.IsSliceOf.new _ _ _ _) ?_ (by rw [List.size_toArray]; omega)
  refine ⟨.ref _, _, I5.laid (t' := s4.toks) (o := .tup xs.reverse) (fun b ob q => Heap.get?_push_of_some _ q) (Nat.le_refl _) ?_, rfl, q _ (I5.hok.fresh (Nat.le_refl _))⟩
  refine ⟨by rw [List.length_reverse]; exact hz, its.reverse, r.reverse, ?_⟩
  exact IsTup.new _ _
/-- sorted(t), t a tuple of ints -/
def rSortedT (K : PySem.W.Frag) : List V → Hp → VK → Prop := fun vs H Q => ∃ (a : Addr) (ns : List Int), vs = [V.ref a] ∧ SqT K H a (ns.map V.int) ∧
  ∀ (ns' : List Int) (p : Addr), ns'.Perm ns → ns'.Pairwise (· ≤ ·) → H p = none → Q (.ref p) (upd H p (.lst (ns'.map V.int)))
open SrtO in
theorem cr_sortedT : CallR X (.builtin "sorted") (rSortedT X.K) := by
  intro pins s σ H vs us Q I r h
  obtain ⟨a, ns, rfl, hs, q⟩ := h
  obtain ⟨its, rv, ⟨o, ho, hc, n, hd⟩, hz⟩ := I.tuple hs
  rw [Vals.ref1 r]
  have hi := rv.ints
  have hzi : its.length ≤ sizeLine := by rw [← rv.length]; exact hz
  refine Calls.call_function_entry kind_sorted plain_sorted entry_sorted (args_sorted1 _) ?_
  unfold Builtin.«sorted»
  refine wpAny_bind (m := checkCount "sorted" 1 1 _) (wpAny_pure ?_)
  refine wpAny_bind (wpAny_collect_seq a (.inr rfl) ho hc hd (fun h' hk => ?_) (by rw [List.size_toArray]; exact hzi))
  have ei : its.toArray.toList = its := by simp
  rw [ei]
  refine wpAny_bind (wpAny_newList ?_ hzi)
  have I1 : Inv X pins σ H { s with heap := h' } := I.kept (t' := s.toks) hk
  have hoL : (h'.push { cls := .type "list", data := .seq its.toArray }).get? h'.objs.size = some (PyProof.Rows.seqObj "list" its.toArray 0) := Heap.get?_push_size _ rfl
  have hf : H h'.objs.size = none := I1.hok.fresh (Nat.le_refl _)
  refine wpAny_bind (wpAny_holding (wpAny_call_entry PyProof.Rows.slot_list_sort ⟨_, hoL, rfl⟩ PyProof.Rows.entry_list_sort (list_sort_ord swo_int hoL hzi (fun h2 => ints_sortable hi h2) fun out h1 h2 => ⟨_, rfl, ?_⟩) (PyProof.Rows.args_list_sort _)))
  obtain ⟨k1, k2, k3⟩ := ints_out hi h1 h2
  obtain ⟨ep, he'⟩ := PyProof.Rows.sortedHeap_at (vs := its) (out := out.toArray) hoL
  have hlen : ((out.map iv).map V.int).length ≤ sizeLine := by
    rw [List.length_map, k2.length_eq]
    rw [List.length_map] at hz
    exact hz
  refine wpAny_pure ⟨_, rfl, .ref _, upd H h'.objs.size (.lst ((out.map iv).map V.int)), I1.laid (t' := s.toks) (fun b u hb => ?_) (Nat.le_refl _) ⟨hlen, out, ep, vals_of_ints k1, he'⟩, rfl, q _ _ k2 k3 hf⟩
  rw [PyProof.Rows.sortedHeap_old (Nat.ne_of_lt (Heap.lt_size hb)) (Nat.lt_of_lt_of_le (Heap.lt_size hb) (by rw [Heap.size_push]; exact Nat.le_succ _))]
  exact Heap.get?_push_of_some _ hb
end
end L2
/-! Data-level layer, 11: the rest of what a def says. -/
namespace L2
open PySem PySem.Spec PyProof.Rows
section
variable {X : Cx}
/-- set(t), t a tuple of ints -/
def rSetT (K : PySem.W.Frag) (w : World) : List V → Hp → VK → Prop := fun xs H Q => ∃ (a : Addr) (ns : List Int), xs = [V.ref a] ∧ SqT K H a (ns.map V.int) ∧ ns.length < 4000 ∧
  ∀ p c, H p = none → c ≤ ns.length → Q (.ref p) (upd H p (SetO w p (fun j => decide (j ∈ ns)) c))
theorem cr_setT (hc : X.calm = true) : CallR X (.type "set") (rSetT X.K X.w) := by
  intro pins s σ H xs us Q I r h
  obtain ⟨a, ns, rfl, hs, hl, q⟩ := h
  obtain ⟨its, rv, pl, hz⟩ := I.tuple hs
  rw [Vals.ref1 r]
  refine call_set_tupI ns (I.ok.hd hc) (show s.heap.IsTuple a its.toArray from pl) (by simpa using RZ.intsAre_vals rv) (by unfold scanBound; omega) fun h' tk c R hc' hk => ?_
  have hf : H s.heap.objs.size = none := I.hok.fresh (Nat.le_refl _)
  exact ⟨.ref _, upd H s.heap.objs.size (SetO X.w s.heap.objs.size (fun j => decide (j ∈ ns)) c), I.laid (t' := tk) hk (Nat.le_refl _) (setO_new R), rfl, q _ c hf hc'⟩
end
end L2
namespace DL
open PySem PySem.Spec L2 PyProof.Rows
section
variable {K : PySem.W.Frag} {X : Cx} {b : Bs} {e e1 e2 : Expr} {w w1 w2 : WE} {wf wf' : WF} {pos p p2 : Pos}
/-- what is never reached -/
def wNo : WE := fun _ _ _ => False
theorem pe_false {t : TE} : PE X e (fun _ _ _ => False) := ⟨fun _ _ _ _ _ _ h => h.elim⟩
theorem de_no : DE X b e wNo := pe_weak (pe_false (t := fun _ _ _ => False)) fun σ H Q ⟨U, ρ, n, P, r, hw, k⟩ => hw
theorem sd_neg : Sd1 K (rU fun i => .int (-i)) (fun x n P => match x with | .int i => P (.int (-i)) n | _ => False) := by
  intro x n P U H vx Q e dx hp k
  cases x with
  | int i => exact ⟨i, dx.int, k _ _ _ _ _ hp (Grow.refl e) (.of (.int _))⟩
  | _ => exact hp.elim
theorem sd_cmp {f : Int → Int → Bool} : Sd2 K (rI0 fun i j => .bl (f i j)) (dI0 fun i j => .bl (f i j)) := sdI0 fun _ _ _ _ => .bl _
/-- t[::-1] -/
def wRevT (w : WE) : WE := fun ρ n P => w ρ n fun d n1 => match d with
  | .tup ds => P (.tup ds.reverse) n1
  | _ => False
theorem de_revT {k : Nat} {p1 p2 p3 : Pos} (h : DB X b e w) : DE X b (.Subscript e (.Slice none none (some (.UnaryOp .USub (.Constant (.int 1) k p1) p2)) p3) pos) (wRevT w) := pe_weak (pe_revT h) fun σ H Q ⟨U, ρ, n, P, r, hw, k⟩ =>
  ⟨U, ρ, n, _, r, hw, fun d n1 U1 H1 v p1 g1 d1 => by
    cases d with
    | tup ds =>
      obtain ⟨a, vs, rfl, h1, _, h2⟩ := d1.itemsT g1.uh
      exact ⟨a, vs, rfl, h1, fun q hq => k _ _ _ _ _ p1 (g1.trans (Grow.new g1.uh hq)) (.of (.tup (SqT.of upd_same) (h2.rev.mono (same_new (g1.uh.free hq)))))⟩
    | _ => exact p1.elim⟩
/-- sorted of a list's or a tuple's ints -/
def IntQ (d : D) (ns : List Int) : Prop := IntL d ns ∨ d = .tup (ns.map D.int)
def dSortedQ : RDF := fun xs n P => ∃ d ns, xs = [d] ∧ IntQ d ns ∧ ∀ ns' : List Int, ns'.Perm ns → ns'.Pairwise (· ≤ ·) → P (ns'.map D.int) n
def rSortedQ (K : PySem.W.Frag) : List V → Hp → VK → Prop := fun xs H Q => rSortedI K xs H Q ∨ rSortedT K xs H Q
theorem cr_sortedQ : CallR X (.builtin "sorted") (rSortedQ X.K) := CallR.or cr_sortedI cr_sortedT
theorem tupI_of {U H : Hp} {n : Nat} (e : Same U H) {v : V} {ns : List Int} (h : DenB K U H n v (.tup (ns.map D.int))) : ∃ a, v = .ref a ∧ SqT K H a (ns.map V.int) := by
  obtain ⟨a, vs, rfl, h1, _, h2⟩ := h.itemsT e
  have z := Dens.ints_inv h2
  subst z
  exact ⟨a, rfl, h1⟩
theorem sd_sortedQ : SdF K (rSortedQ K) dSortedQ := by
  intro xs n P U H vx Q e dx hp k
  obtain ⟨d, ns, rfl, hi, hp⟩ := hp
  cases dx with
  | cons d r =>
    cases r
    rcases hi with hi | rfl
    · obtain ⟨a, rfl, h1⟩ := intL_of e d hi
      exact .inl ⟨a, ns, rfl, h1, fun ns' p pm pw hf => k _ _ _ _ _ _ (hp ns' pm pw) (Grow.out e hf) hf upd_same (e.free hf) (Dens.ints _)⟩
    · obtain ⟨a, rfl, h1⟩ := tupI_of e d
      exact .inr ⟨a, ns, rfl, h1, fun ns' p pm pw hf => k _ _ _ _ _ _ (hp ns' pm pw) (Grow.out e hf) hf upd_same (e.free hf) (Dens.ints _)⟩
/-- sorted(set(t)), t a tuple of ints -/
def wSortedSet (w : WE) : WF := fun ρ n P => w ρ n fun d n1 => ∃ ns : List Int, d = .tup (ns.map D.int) ∧ ns.length < 64 ∧ ∀ ns' : List Int, ns'.Pairwise (· < ·) → (∀ k : Int, k ∈ ns' ↔ k ∈ ns) → P (ns'.map D.int) n1
theorem df_sortedSet {p3 : Pos} (hc : X.calm = true) (hm : X.mg "sorted" = none) (hm2 : X.mg "set" = none) (h : DB X b e w) (hg : Gl X "sorted" := by rfl) (hg2 : Gl X "set" := by rfl)
    (n1 : starEach [e] X.env = (false, eval e X.env) :: starEach [] X.env := by rfl) (n2 : starEach [.Call (.Name "set" p2) [e] [] p3] X.env = (false, eval (.Call (.Name "set" p2) [e] [] p3) X.env) :: starEach [] X.env := by rfl) :
    DF X b (.Call (.Name "sorted" p) [.Call (.Name "set" p2) [e] [] p3] [] pos) (wSortedSet w) :=
  pe_weak (pe_callB (cr_sortedSet hc) hg hm (by decide +kernel) (pa_cons (pe_callTy (cr_setT hc) hg2 hm2 (by decide +kernel) (pa_cons h pa_nil n1) (by decide) (by decide) n1) pa_nil n2) (by decide) (by decide) n2) fun σ H Q ⟨U, ρ, n, P, r, hw, k⟩ =>
  ⟨U, ρ, n, _, r, hw, fun d n1 U1 H1 v ⟨ns, ed, hl, p1⟩ g1 d1 => by
    subst ed
    obtain ⟨a, rfl, h1⟩ := tupI_of g1.uh d1
    refine ⟨a, ns, rfl, h1, by omega, fun q c hq hcl => ⟨q, _, c, rfl, upd_same, by omega, fun ns' l pw mem len hf => ?_⟩⟩
    have g2 : Grow U1 H1 n1 U1 (upd H1 q (SetO X.w q (fun j => decide (j ∈ ns)) c)) n1 := Grow.out g1.uh hq
    have g3 := (g1.trans g2).trans (Grow.out (o := .lst (ns'.map V.int)) g2.uh hf)
    refine k _ _ _ _ _ _ (p1 ns' pw fun z => ?_) g3 ((g1.trans g2).fresh hf) upd_same (g2.uh.free hf) (Dens.ints _)
    rw [mem z, decide_eq_true_iff]⟩
/-- a list times an int -/
def dRep : List D → Int → List D := fun ds k => (List.replicate k.toNat ds).flatten
def wRep (w1 w2 : WE) : WF := fun ρ n P => w1 ρ n fun x n1 => w2 ρ n1 fun y n2 => match x, y with
  | .lst ds, .int k => (-1000000 ≤ k ∧ k ≤ 1000000 ∧ ds.length * k.toNat ≤ 1000000) ∧ P (dRep ds k) n2
  | _, _ => False
theorem rep_dens {H : Hp} {vs : List V} {ds : List D} (h : Dens K H vs ds) : ∀ n : Nat, Dens K H (List.replicate n vs).flatten (List.replicate n ds).flatten
  | 0 => .nil
  | n + 1 => by
    rw [List.replicate_succ, List.replicate_succ, List.flatten_cons, List.flatten_cons]
    exact h.append (rep_dens h n)
theorem df_rep (ha : DB X b e1 w1) (hb : DB X b e2 w2) : DF X b (.BinOp e1 .Mult e2 pos) (wRep w1 w2) := pe_weak (pe_op op_rep ha hb) fun σ H Q ⟨U, ρ, n, P, r, hw, k⟩ =>
  ⟨U, ρ, n, _, r, hw, fun x n1 U1 H1 vx p1 g1 d1 => ⟨U1, ρ, n1, _, r.grow g1, p1, fun y n2 U2 H2 vy p2 g2 d2 => by
    cases x with
    | lst ds =>
      cases y with
      | int j =>
        obtain ⟨⟨q1, q2, q3⟩, p2⟩ := (show (-1000000 ≤ j ∧ j ≤ 1000000 ∧ ds.length * j.toNat ≤ 1000000) ∧ P (dRep ds j) n2 from p2)
        obtain ⟨a, vs, rfl, h1, h2⟩ := (d1.grow g2).items g2.uh
        exact ⟨a, j, vs, rfl, d2.int, h1, by omega, by omega, by rw [h2.length]; exact size_le q3, fun l hl => k _ _ _ _ _ _ p2 ((g1.trans g2).trans (Grow.out g2.uh hl)) ((g1.trans g2).fresh hl) upd_same (g2.uh.free hl) (rep_dens h2 _)⟩
      | _ => exact (show False from p2).elim
    | _ => exact (show False from p2).elim⟩⟩
/-- x, y, .. = e -/
def wUnp (is : List Nat) (w : WE) : WS := fun DD ρ n => w ρ n fun d n1 => match d with
  | .tup ds => ds.length = is.length ∧ DD.nx (setD ρ is ds) n1
  | _ => False
theorem ds_unp (is : List Nat) {es : List Expr} {kt : Nat} {pt : Pos} (hc : X.calm = true) (h : DE X b e w) (hg : PGs X es (gNames is)) (hn : (assignEach es X.env).length = is.length := by rfl) (hst : (assignEach es X.env).findIdx? (·.1) = none := by rfl)
    (hs : swapsWithSole [.Tuple es kt pt] e pos.line X.env = pure false := by rfl) (hw : swappedStores [.Tuple es kt pt] e X.env = pure none := by rfl) :
    DS X b (.Assign [.Tuple es kt pt] e pos) (wUnp is w) := ps_weak (ps_asg h (pg_tup hc hg hn hst) hs hw) fun E σ H ⟨U, ρ, n, DD, r, hw, k⟩ => ⟨U, ρ, n, _, r, hw, fun d n' U' H' v p g dv => by
  cases d with
  | tup ds =>
    cases dv with
    | @tup a vs _ h1 h2 =>
      obtain ⟨hl, p⟩ := (show ds.length = is.length ∧ DD.nx (setD ρ is ds) n' from p)
      exact ⟨a, vs, rfl, sqt_same g.uh h1, by rw [h2.length, hl], gNames_ok (σ := σ) (by rw [h2.length, hl]) (k.nx _ _ _ _ _ ((r.grow g).setAll h2) p)⟩
  | _ => exact (show False from p).elim⟩
/-- xs.index(k) of a list of ints -/
def wIndex (w1 w2 : WE) : WE := fun ρ n P => w1 ρ n fun x n1 => ∃ ns : List Int, IntL x ns ∧ w2 ρ n1 fun y n2 => ∃ (k : Int) (j : Nat), y = .int k ∧ ns[j]? = some k ∧ (∀ m : Nat, m < j → ns[m]? ≠ some k) ∧ P (.int (j : Nat)) n2
theorem de_index {pa : Pos} (ha : DB X b e1 w1) (hb : DB X b e2 w2)
    (hps : PE X (.Call (.Attribute e1 "index" pa) [e2] [] pos) (tBM X.K "list" (rIndex X.K) (liftB X.K b w1) (tCons (liftB X.K b w2) tNil)) := by exact pe_bm PySem.F.plainAttrs_list PySem.F.slot_list_index PySem.F.type_list_index mt_index (by assumption) (pa_cons (by assumption) pa_nil)) :
    DE X b (.Call (.Attribute e1 "index" pa) [e2] [] pos) (wIndex w1 w2) := pe_weak hps fun σ H Q ⟨U, ρ, n, P, r, hw, k⟩ =>
  ⟨U, ρ, n, _, r, hw, fun x n1 U1 H1 vx ⟨ns, hx, p1⟩ g1 d1 => by
    obtain ⟨a, rfl, h1⟩ := intL_of g1.uh d1 hx
    refine ⟨.inl ⟨rfl, _, h1⟩, U1, ρ, n1, _, r.grow g1, p1, fun y n2 U2 H2 vy ⟨z, j, ey, hj, hno, p2⟩ g2 d2 => ?_⟩
    subst ey
    obtain ⟨a', ea, h2⟩ := intL_of g2.uh (d1.grow g2) hx
    cases ea
    rw [d2.int]
    refine ⟨a, ns.map V.int, .int z, j, .int z, rfl, rfl, h2, rfl, by simp [flatV], by simp [hj], by simp [eqV], fun m z' hm hz => ?_, k _ _ _ _ _ p2 (g1.trans g2) (.of (.int _))⟩
    rw [List.getElem?_map] at hz
    cases hq : ns[m]? with
    | none => rw [hq] at hz; cases hz
    | some q =>
      rw [hq] at hz
      simp at hz
      subst hz
      have := hno m hm
      rw [hq] at this
      simpa [eqV] using this⟩
end

/-! ### the top's defs -/
structure Fn1 (K : PySem.W.Frag) (mg : Str → Option Value) (x qual : Str) (st : Stmt) (ps : List Str) where
  a : Addr
  fd : FuncData
  F : Fun K x qual st a fd
  m : mg x = some (.ref a)
  b : Binds K fd ps []
  b1 : ∀ (s : Shared) (us : List Value), us.length = ps.length → BindsTo s fd ⟨us, []⟩ (ps.zip us)
def fn1_mk {K : PySem.W.Frag} {h : Heap} {mg : Str → Option Value} {x qual : Str} {st : Stmt} {ps : List Str} {f : Addr} {oc : Value} {od an : Option Addr} {osl : Array (Option Value)} {kV doc pm cdv ct : Value} (X : K.In h) (G : h.Ns mainGlobals mg)
    (p : PySem.W.nsIn K mainGlobals x = some (some (.ref f))) (l : K.lookup f = some ⟨oc, od, .func (PySem.W.fnOf x qual (defArgs st) (defBody st) (defScope st) .none kV doc pm an cdv ct), osl⟩) (c : PySem.W.codeIn K cdv qual = true) (k : PySem.W.keepIn K (.ref f) = true)
    (hb : ∀ (kV doc pm : Value) (an : Option Addr) (cdv ct : Value) (us : List Value), us.length = ps.length → bindArgs (PySem.W.fnOf x qual (defArgs st) (defBody st) (defScope st) .none kV doc pm an cdv ct) ⟨us, []⟩ = pure (ps.zip us)) : Fn1 K mg x qual st ps :=
  ⟨f, _, fun_mk l c k, PySem.W.mg_of X G p, (fun_mk l c k).binds hb, fun s us h => .of_eq (hb _ _ _ _ _ _ us h)⟩
end DL
/-! Data-level layer, 12: more rules. -/
namespace DL
open PySem PySem.Spec L2 PyProof.Rows
section
variable {K : PySem.W.Frag} {X : Cx} {b : Bs} {e e1 e2 tg iter : Expr} {w w1 w2 : WE} {wf wf' wi : WF} {pos p p2 : Pos} {g : WG} {wt : WT} {is : List Nat}
/-- * -/
def dMul : RD2 := fun x y n P => match x, y with
  | .int i, .int j => CMulW i j ∧ P (.int (i * j)) n
  | .tup xs, .int k => (xs ≠ [] ∧ 2 ≤ k ∧ k ≤ 1000 ∧ xs.length ≤ 1000) ∧ P (.tup (dRep xs k)) n
  | _, _ => False
def rMulAll (K : PySem.W.Frag) : R2 := fun x y H Q => (rI CMulW fun i j => .int (i * j)) x y H Q ∨ rRepT K x y H Q
theorem op_mulAll : OpR X (binaryOp .Mult) (rMulAll X.K) := op_mulW.or op_repT
theorem sd_mul : Sd2 K (rMulAll K) dMul := by
  intro x y n P U H vx vy Q e dx dy hp k
  cases x with
  | int i =>
    cases y with
    | int j => exact .inl ⟨i, j, dx.int, dy.int, hp.1, k _ _ _ _ _ hp.2 (Grow.refl e) (.of (.int _))⟩
    | _ => exact hp.elim
  | tup xs =>
    cases y with
    | int j =>
      obtain ⟨a, vs, rfl, h1, _, h2⟩ := dx.itemsT e
      obtain ⟨⟨q1, q2, q3, q4⟩, hp⟩ := (show (xs ≠ [] ∧ 2 ≤ j ∧ j ≤ 1000 ∧ xs.length ≤ 1000) ∧ P (.tup (dRep xs j)) n from hp)
      refine .inr ⟨a, j, vs, rfl, dy.int, h1, fun z => q1 ?_, q2, q3, by rw [h2.length]; exact q4, fun q hq => k _ _ _ _ _ hp (Grow.new e hq) (.of (.tup (SqT.of upd_same) ((rep_dens h2 _).mono (same_new (e.free hq)))))⟩
      have := h2.length
      rw [z] at this
      exact List.eq_nil_of_length_eq_zero this.symm
    | _ => exact hp.elim
  | _ => exact hp.elim
/-- tuple(range(..)) -/
def wTupF (w : WF) : WE := fun ρ n P => w ρ n fun ds n1 => P (.tup ds) n1
theorem de_tupRg1 {q1 q2 : Pos} (hc : X.calm = true) (hm : X.mg "tuple" = none) (hm2 : X.mg "range" = none) (h : DE X b e w) (hg : Gl X "tuple" := by rfl) (hg2 : Gl X "range" := by rfl)
    (na : starEach [.Call (.Name "range" q1) [e] [] q2] X.env = (false, eval (.Call (.Name "range" q1) [e] [] q2) X.env) :: starEach [] X.env := by rfl) (nb : starEach [e] X.env = (false, eval e X.env) :: starEach [] X.env := by rfl) :
    DE X b (.Call (.Name "tuple" p) [.Call (.Name "range" q1) [e] [] q2] [] pos) (wTupF (wRg1 w)) := pe_weak (pe_tupRg hc hg hm (prg_1 hg2 hm2 h nb) na) fun σ H Q ⟨U, ρ, n, P, r, hw, k⟩ =>
  ⟨U, ρ, n, _, r, hw, fun d n1 U1 H1 v p1 g1 d1 => by
    cases d with
    | int j =>
      cases d1
      obtain ⟨h1, p1⟩ := p1
      refine ⟨j, rfl, ⟨by omega, by omega, by omega, by omega, by omega⟩, fun l hl => ?_⟩
      exact k _ _ _ _ _ p1 (g1.trans (Grow.new g1.uh hl)) (.of (.tup (SqT.of upd_same) (rgV_dens 0 j)))
    | _ => exact p1.elim⟩

/-! ### a comprehension that is stored as a value -/
variable {elt : Expr} {ifs : List Expr} {scope : Scope} {we : WE}
theorem ds_setLcV {i : Nat} {y : Str} {py spos : Pos} (own : List (Str × Nat)) (hc : X.calm = true) (hN : X.N.Nodup) (hi : DI X b tg iter wi) (ok : blkC X.N X.env.scope scope own = true)
    (hg : ∀ (s : Shared) (H : Hp) (C : Addr) (cl : List (Str × Addr)) (fp : List Addr), DG (X.blk s H scope (compEnvC scope cl C X.env) fp) b is tg g) (ht : ∀ (s : Shared) (H : Hp) (C : Addr) (cl : List (Str × Addr)) (fp : List Addr), DTs (X.blk s H scope (compEnvC scope cl C X.env) fp) b ifs wt)
    (he : ∀ (s : Shared) (H : Hp) (C : Addr) (cl : List (Str × Addr)) (fp : List Addr), DE (X.blk s H scope (compEnvC scope cl C X.env) fp) b elt we) (hy : X.N[i]? = some y := by rfl) (hyl : X.env.scope.names.lookup y = some .local := by rfl)
    (hsw : swapsWith (.ListComp elt [⟨tg, iter, ifs, 0⟩] scope pos) (some (.Name y py)) spos.line X.env = pure true := by exact sw_true rfl rfl rfl (by decide +kernel)) (sub : ∀ i ∈ is, i ∈ own.map (·.2) := by decide) (hs : ∀ x, foldedSetIterable iter X.env x = pure x := by intro _; rfl) :
    DS X b (.Assign [.Name y py] (.ListComp elt [⟨tg, iter, ifs, 0⟩] scope pos) spos) (wAsg i (wV (wOf (wLc wi g wt we (own.map (·.2)))))) := ps_weak (ps_setLc (g := liftG X.K b is g) (tt := liftT X.K b wt) (te := lift X.K b we) hc hN hy hyl hsw hi (blkOk_by ok) hg ht he hs) fun E σ H ⟨U, ρ, n, DD, r, hw, k⟩ =>
  lc_imp sub σ H _ ⟨U, ρ, n, _, r, hw, fun ds n' U' H' l vs p g h0 h1 h2 h3 => k.nx _ _ _ _ _ (r.store (i := i) (g.take h0 h1 h2) (s := .val (.lst ds)) (show DenX X.K (upd U' l (.lst vs)) H' n' (.ref l) (.lst ds) from Den.lst upd_same (h3.mono (same_new h2)))) p⟩

/-! ### dict comprehensions -/
abbrev WK := REnv → Nat → (List (Key × D) → Nat → Prop) → Prop
/-- a new dict, in no view -/
def liftK (K : PySem.W.Frag) (b : Bs) (w : WK) : TE := fun σ H Q => ∃ U ρ n P, Rel K b U H n σ ρ ∧ w ρ n P ∧ ∀ ds n' U' H' l vs, P ds n' → Grow U H n U' H' n' → H l = none → H' l = some (.dK vs) → U' l = none → DenK K U' vs ds → Q (.ref l) H'
def DKw (X : Cx) (b : Bs) (e : Expr) (w : WK) : Prop := PE X e (liftK X.K b w)
def wOfK (w : WK) : WE := fun ρ n P => w ρ n fun ds n' => P (.dic ds) n'
def wOK (w : WK) : WX := fun ρ n P => w ρ n fun ds n1 => P (.ownK ds) n1
theorem DKw.toE {w : WK} (h : DKw X b e w) : DE X b e (wOfK w) := pe_weak h fun σ H Q ⟨U, ρ, n, P, r, hw, k⟩ => ⟨U, ρ, n, _, r, hw, fun ds n' U' H' l vs p g h0 hl hu hd =>
  k (.dic ds) n' _ H' (.ref l) p (g.take h0 hl hu) (Den.dic upd_same (hd.mono (same_new hu)))⟩
theorem DKw.toX {w : WK} (h : DKw X b e w) : DX X b e (wOK w) := pe_weak h fun σ H Q ⟨U, ρ, n, P, r, hw, k⟩ => ⟨U, ρ, n, _, r, hw, fun ds n' U' H' l vs p g h0 h1 h2 h3 => k _ n' U' H' _ p g ⟨l, vs, rfl, h0, h1, h2, h3⟩⟩
def dcD (g : WG) (wt : WT) (wk wv : WE) (vs : List Nat) (ρ : REnv) (P : List (Key × D) → Nat → Prop) : List D → List (Key × D) → Nat → Prop
  | [], acc, n => P acc n
  | x :: r, acc, n => g x (wipeD ρ vs) fun ρ2 => wt ρ2 n fun c n2 => if c = true then wk ρ2 n2 fun y n3 => wv ρ2 n3 fun d n4 => ∃ k, keyD y = some k ∧ acc.length < 1000000 ∧ d.nb ∧ dcD g wt wk wv vs ρ P r (putD acc k d) n4 else dcD g wt wk wv vs ρ P r acc n2
def wDc (wi : WF) (g : WG) (wt : WT) (wk wv : WE) (vs : List Nat) : WK := fun ρ n P => wi ρ n fun ds n1 => dcD g wt wk wv vs ρ P ds [] n1
theorem dc_imp {K : PySem.W.Frag} {wk wv : WE} {vs : List Nat} (sub : ∀ i ∈ is, i ∈ vs) (σ : St) (H : Hp) (Q : VK) (h : liftK K b (wDc wi g wt wk wv vs) σ H Q) : tDc (liftI K b wi) (liftG K b is g) (liftT K b wt) (lift K b wk) (lift K b wv) vs σ H Q := by
  obtain ⟨U, ρ, n, P, r, hw, k⟩ := h
  refine ⟨U, ρ, n, _, r, hw, fun ds n1 U1 H1 J p1 g1 ok Dl hD => ?_⟩
  have u1 : U1 Dl = none := g1.uh.free hD
  refine ⟨fun i m H' => m = ds.length - i ∧ i ≤ ds.length ∧ ∃ U' n' accV acc, Grow U1 H1 n1 U' H' n' ∧ H' Dl = some (.dK accV) ∧ U' Dl = none ∧ DenK K U' accV acc ∧ dcD g wt wk wv vs ρ P (ds.drop i) acc n',
    ⟨ds.length, by simp, Nat.zero_le _, U1, n1, [], [], Grow.out g1.uh hD, upd_same, u1, .nil, by simpa using p1⟩, ?_⟩
  rintro i m H2 ⟨rfl, hi2, U2, n2, accV, acc, g2, hl, hu, hd, hw2⟩
  by_cases hlt : i < ds.length
  · refine .inr ⟨ok.go i H2 (g2.u.trans g2.uh) hlt, fun H' => ∃ U' n' accV acc, Grow U1 H1 n1 U' H' n' ∧ H' Dl = some (.dK accV) ∧ U' Dl = none ∧ DenK K U' accV acc ∧ dcD g wt wk wv vs ρ P (ds.drop (i + 1)) acc n', fun H' q => ⟨ds.length - (i + 1), by omega, rfl, hlt, q⟩, fun x H3 y => ?_⟩
    obtain ⟨U3, d, g3, hd3, dx⟩ := ok.yld i U2 H2 n2 x H3 g2.u g2.uh hlt y
    have ed : ds.drop i = d :: ds.drop (i + 1) := by
      have e := List.drop_eq_getElem_cons hlt
      rw [List.getElem?_eq_getElem hlt] at hd3
      rw [e, Option.some.inj hd3]
    rw [ed] at hw2
    have G3 := g2.trans g3
    refine ⟨U3, wipeD ρ vs, n2, d, _, (r.grow (g1.trans G3)).wipe vs, .of dx, hw2, fun ρ4 σ4 p4 r4 hwipe => ⟨by rw [hwipe vs sub, wipe_wipe fun _ h => h], U3, ρ4, n2, _, r4, p4, fun c n5 U5 H5 p5 g5 => ?_⟩⟩
    have L5 : H5 Dl = some (.dK accV) := (g3.trans g5).dK hl
    have V5 : U5 Dl = none := (g3.trans g5).no Dl (by rw [hl]; simp) hu
    cases c with
    | false => exact ⟨U5, n5, accV, acc, G3.trans g5, L5, V5, hd.mono (g3.trans g5).u, p5⟩
    | true =>
      refine ⟨U5, ρ4, n5, _, r4.grow g5, p5, fun y n6 U6 H6 vy p6 g6 d6 => ⟨U6, ρ4, n6, _, (r4.grow g5).grow g6, p6, fun z n7 U7 H7 v p7 g7 d7 => ?_⟩⟩
      obtain ⟨kk, q0, q1, q2, q3⟩ := p7
      have ga := g6.trans g7
      have gg := (g3.trans g5).trans ga
      refine ⟨accV, kk, key_of (.inl d6) q0, ga.dK L5, size_lt (by rw [hd.length]; exact q1), U7, n7, putK accV kk v, putD acc kk z, ((G3.trans g5).trans ga).put hD (ga.no Dl (by rw [L5]; simp) V5), upd_same, ga.no Dl (by rw [L5]; simp) V5, put_den (d7.den q2) (hd.mono gg.u), q3⟩
  · have ei : i = ds.length := by omega
    subst ei
    rw [List.drop_length] at hw2
    exact .inl ⟨ok.stop _ H2 (g2.u.trans g2.uh) (Nat.le_refl _), k acc n2 U2 H2 Dl accV hw2 (g1.trans g2) (g1.fresh hD) hl hu hd⟩
theorem dk_dc {kx vx : Expr} {wk wv : WE} (own : List (Str × Nat)) (hc : X.calm = true) (hN : X.N.Nodup) (hi : DI X b tg iter wi) (ok : blkC X.N X.env.scope scope own = true)
    (hg : ∀ (s : Shared) (H : Hp) (C : Addr) (cl : List (Str × Addr)) (fp : List Addr), DG (X.blk s H scope (compEnvC scope cl C X.env) fp) b is tg g) (ht : ∀ (s : Shared) (H : Hp) (C : Addr) (cl : List (Str × Addr)) (fp : List Addr), DTs (X.blk s H scope (compEnvC scope cl C X.env) fp) b ifs wt)
    (hk : ∀ (s : Shared) (H : Hp) (C : Addr) (cl : List (Str × Addr)) (fp : List Addr), DE (X.blk s H scope (compEnvC scope cl C X.env) fp) b kx wk)
    (he : ∀ (s : Shared) (H : Hp) (C : Addr) (cl : List (Str × Addr)) (fp : List Addr), DE (X.blk s H scope (compEnvC scope cl C X.env) fp) b vx wv) (sub : ∀ i ∈ is, i ∈ own.map (·.2) := by decide) (hs : ∀ x, foldedSetIterable iter X.env x = pure x := by intro _; rfl) :
    DKw X b (.DictComp kx vx [⟨tg, iter, ifs, 0⟩] scope pos) (wDc wi g wt wk wv (own.map (·.2))) := pe_weak (pe_dc (g := liftG X.K b is g) (tt := liftT X.K b wt) (tk := lift X.K b wk) (tv := lift X.K b wv) hc hN hi (blkOk_by ok) hg ht hk he hs) (dc_imp sub)
theorem de_dc {kx vx : Expr} {wk wv : WE} (own : List (Str × Nat)) (hc : X.calm = true) (hN : X.N.Nodup) (hi : DI X b tg iter wi) (ok : blkC X.N X.env.scope scope own = true)
    (hg : ∀ (s : Shared) (H : Hp) (C : Addr) (cl : List (Str × Addr)) (fp : List Addr), DG (X.blk s H scope (compEnvC scope cl C X.env) fp) b is tg g) (ht : ∀ (s : Shared) (H : Hp) (C : Addr) (cl : List (Str × Addr)) (fp : List Addr), DTs (X.blk s H scope (compEnvC scope cl C X.env) fp) b ifs wt)
    (hk : ∀ (s : Shared) (H : Hp) (C : Addr) (cl : List (Str × Addr)) (fp : List Addr), DE (X.blk s H scope (compEnvC scope cl C X.env) fp) b kx wk)
    (he : ∀ (s : Shared) (H : Hp) (C : Addr) (cl : List (Str × Addr)) (fp : List Addr), DE (X.blk s H scope (compEnvC scope cl C X.env) fp) b vx wv) (sub : ∀ i ∈ is, i ∈ own.map (·.2) := by decide) (hs : ∀ x, foldedSetIterable iter X.env x = pure x := by intro _; rfl) :
    DE X b (.DictComp kx vx [⟨tg, iter, ifs, 0⟩] scope pos) (wOfK (wDc wi g wt wk wv (own.map (·.2)))) := (dk_dc own hc hN hi ok hg ht hk he sub hs).toE
end
end DL
/-! Data-level layer, 13: tuple[::k]. -/
namespace HT
open PySem PyProof.Rows PySem.SeqAt
open PySem.MeetsSeq PySem.MeetsSeq2 PySem.MeetsSeq3
def stepN (n : Nat) (k : Int) : Nat := (if (0 : Int) < n then ((n : Int) - 0 - 1) / k + 1 else 0).toNat
def stepL {α : Type} (xs : List α) (k : Int) : List α := (List.range (stepN xs.length k)).filterMap fun (m : Nat) => xs[((0 : Int) + (m : Int) * k).toNat]?
section
variable {prog : Program} {w : World} {A : Around} {E : Value → Shared → Prop} {s : Shared}
theorem dl_sliceStep {sl : Addr} {t : Tok} {n : Nat} {k : Int} {Q : Int × Int × Nat → Shared → Prop} (hk : 2 ≤ k) (hs : s.heap.IsSliceOf sl .none .none (.int k t))
    (h : Q (0, k, stepN n k) s) : wpAny (model prog w) A (Builtin.Slice.sliceApplied (.ref sl) (pure (n : Int))) Q E s := by
  obtain ⟨os, hos, hcs, hds⟩ := id hs
  unfold Builtin.Slice.sliceApplied Builtin.Slice.sliceFields
  refine wpAny_bind (wpAny_bind (wpAny_field hos hds (x := .none) rfl (wpAny_bind (wpAny_field hos hds (x := .none) rfl (wpAny_bind (wpAny_field hos hds (x := .int k t) rfl (wpAny_pure ?_)))))))
  refine wpAny_bind (slicePart_ (.int k t) ?_)
  show wpAny _ _ (if (k == 0) = true then _ else _) _ _ s
  rw [if_neg (by intro z; have := eq_of_beq z; omega)]
  refine wpAny_bind (slicePart_none (wpAny_bind (slicePart_none (wpAny_bind (wpAny_pure ?_)))))
  have e : Builtin.Slice.sliceAdjust none none k (n : Int) = (0, (n : Int)) := by
    have h1 : k > 0 := by omega
    have h2 : ¬ k < 0 := by omega
    simp [Builtin.Slice.sliceAdjust, h1, h2]
  show wpAny _ _ (match Builtin.Slice.sliceAdjust none none k (n : Int) with | (lo, hi) => pure (lo, k, Builtin.Slice.slicePlaces lo hi k)) _ _ s
  rw [e]
  have e2 : Builtin.Slice.slicePlaces 0 (n : Int) k = stepN n k := by
    unfold Builtin.Slice.slicePlaces stepN
    rw [if_pos (by omega)]
  show wpAny _ _ (pure ((0 : Int), k, Builtin.Slice.slicePlaces 0 (n : Int) k)) _ _ s
  rw [e2]
  exact wpAny_pure h
theorem stepL_le {α : Type} (xs : List α) (k : Int) (hk : 2 ≤ k) : (stepL xs k).length ≤ xs.length := by
  unfold stepL
  refine Nat.le_trans (List.length_filterMap_le _ _) ?_
  rw [List.length_range]
  unfold stepN
  split
  · have : ((xs.length : Int) - 0 - 1) / k ≤ (xs.length : Int) - 0 - 1 := Int.ediv_le_self _ (by omega)
    omega
  · simp
theorem dl_getItem_step {t sl : Addr} {items : Array Value} {tk : Tok} {k : Int} {Q : Value → Shared → Prop} (hk : 2 ≤ k) (ht : IsTup s.heap t items) (hs : s.heap.IsSliceOf sl .none .none (.int k tk))
    (h : Q (.ref s.heap.objs.size) { s with heap := s.heap.push { cls := .type "tuple", data := .seq (stepL items.toList k).toArray } }) (hsz : items.size ≤ sizeLine) : wpAny (model prog w) A (getItem (.ref t) (.ref sl)) Q E s := by
  have htake : sizeOk (.seq (stepL items.toList k).toArray) := by
    show (stepL items.toList k).toArray.size ≤ sizeLine
    rw [List.size_toArray]
    exact Nat.le_trans (stepL_le _ _ hk) (by rw [Array.length_toList]; exact hsz)
  obtain ⟨os, hos, hcs, hds⟩ := id hs
  have hTs : s.TypeIs (.ref sl) "slice" := ⟨os, hos, hcs⟩
  unfold getItem
  try with_reducible refine wpAny_holding ?_
  first | refine wpAny_bind (wpAny_pure ?_) | skip
  refine wpAny_bind (wpAny_sequenceKey ht.typeIs (by decide) ?_)
  refine wpAny_bind (wpAny_callSpecial?_slot (name := Str.ofString "__getitem__") ht.typeIs PyProof.Rows.slot_tuple_getitem
    (wpAny_call_entry PyProof.Rows.slot_tuple_getitem ht.typeIs entry_tuple_getitem ?_ (args_tuple_getitem _ _)))
  show wpAny _ _ (Builtin.Tuple.tupleItemsOf (.ref t) >>= _) _ _ s
  refine wpAny_bind (tupleItemsOf_ ht ?_)
  refine wpAny_bind (wpAny_typeOf hTs ?_)
  rw [if_pos (by decide)]
  refine wpAny_bind (dl_sliceStep hk hs ?_)
  have hno : ¬ ((((0 : Int) == 0 && k == 1 && stepN items.size k == items.size)) = true) := by
    intro q
    rw [Bool.and_eq_true, Bool.and_eq_true] at q
    have q1 : k = 1 := eq_of_beq q.1.2
    omega
  show wpAny _ _ (if (((0 : Int) == 0 && k == 1 && stepN items.size k == items.size)) = true then _ else _) _ _ s
  rw [if_neg hno]
  have ep : ((List.range (stepN items.size k)).filterMap fun (m : Nat) => items[((0 : Int) + (m : Int) * k).toNat]?).toArray = (stepL items.toList k).toArray := by
    unfold stepL
    rw [Array.length_toList]
    have ef : (fun (m : Nat) => items[((0 : Int) + (m : Int) * k).toNat]?) = fun (m : Nat) => items.toList[((0 : Int) + (m : Int) * k).toNat]? := funext fun m => (Array.getElem?_toList ..).symm
    rw [ef]
  rw [ep]
  first
    | exact wpAny_bind (m := Builtin.Tuple.tupleExact _) (wpAny_newObj_type (wpAny_pure ⟨_, rfl, wpAny_pure h⟩) htake)
    | exact wpAny_bind (m := Builtin.Tuple.tupleExact _) (wpAny_newObj_type (wpAny_bind (wpAny_pure (wpAny_pure ⟨_, rfl, wpAny_pure h⟩))) htake)
    | exact wpAny_bind (wpAny_bind (m := Builtin.Tuple.tupleExact _) (wpAny_newObj_type (wpAny_pure (wpAny_pure ⟨_, rfl, wpAny_pure h⟩)) htake))
    | exact wpAny_bind (wpAny_bind (m := Builtin.Tuple.tupleExact _) (wpAny_newObj_type (wpAny_pure ⟨_, rfl, wpAny_pure h⟩) htake))
end
end HT
namespace L2
open PySem PySem.Spec PyProof.Rows
section
variable {X : Cx}
theorem Vals.pick : ∀ {xs : List V} {vs : List Value} (f : Nat → Nat) (l : List Nat), Vals xs vs → Vals (l.filterMap fun m => xs[f m]?) (l.filterMap fun m => vs[f m]?)
  | xs, vs, f, [], _ => .nil
  | xs, vs, f, m :: l, h => by
    have ih := Vals.pick f l h
    rw [List.filterMap_cons, List.filterMap_cons]
    cases q : xs[f m]? with
    | none =>
      have hl : vs[f m]? = none := List.getElem?_eq_none (by rw [← h.length]; exact List.getElem?_eq_none_iff.mp q)
      rw [hl]
      exact ih
    | some x =>
      obtain ⟨u, hu, ru⟩ := h.get q
      rw [hu]
      exact .cons ru ih
theorem Vals.stepL {xs : List V} {vs : List Value} (k : Int) (h : Vals xs vs) : Vals (HT.stepL xs k) (HT.stepL vs k) := by
  unfold HT.stepL
  rw [h.length]
  exact Vals.pick (fun m => ((0 : Int) + (m : Int) * k).toNat) _ h
def tStepT (K : PySem.W.Frag) (k : Int) (te : TE) : TE := fun σ H Q => te σ H fun x H1 => ∃ a xs, x = .ref a ∧ SqT K H1 a xs ∧ ∀ p, H1 p = none → Q (.ref p) (upd H1 p (.tup (HT.stepL xs k)))
theorem pe_stepT {e : Expr} {te : TE} {k : Nat} {z : Int} {p1 p3 pos : Pos} (hz2 : 2 ≤ z) (he : PE X e te) : PE X (.Subscript e (.Slice none none (some (.Constant (.int z) k p1)) p3) pos) (tStepT X.K z te) := by
  refine ⟨fun pins s σ H Q I h => ?_⟩
  refine Subscript_ (thn (he.run pins s σ H _ I h) fun v s1 ⟨x, H1, I1, r1, q1⟩ => ?_)
  obtain ⟨a, xs, ex, hx, q⟩ := q1
  subst ex
  cases r1
  have hst : PO X (some (.Constant (.int z) k p1)) (tPart (tC (.int z))) := po_some pe_int
  refine wpAny_Slice (thn (po_none.run pins s1 σ H1 (fun o H2 => o = none ∧ H2 = H1) I1 ⟨rfl, rfl⟩) fun vl s2 ⟨l, H2, I2, pl, el, e2⟩ => ?_)
  subst el e2
  refine thn (po_none.run pins s2 σ H2 (fun o H3 => o = none ∧ H3 = H2) I2 ⟨rfl, rfl⟩) fun vu s3 ⟨u, H3, I3, pu, eu, e3⟩ => ?_
  subst eu e3
  refine thn (hst.run pins s3 σ H3 (fun o H4 => o = some z ∧ H4 = H3) I3 ⟨z, rfl, rfl, rfl⟩) fun vs s4 ⟨o, H4, I4, ps, eo, e4⟩ => ?_
  subst eo e4
  cases pl
  cases pu
  cases ps with
  | int _ tk =>
  have I5 : Inv X pins σ H4 { s4 with heap := s4.heap.push { cls := .type "slice", data := .fields #[.none, .none, .int z tk] } } := I4.kept (t' := s4.toks) fun b ob q => Heap.get?_push_of_some _ q
  obtain ⟨its, r, ht, hz⟩ := I5.tuple hx
  have hlen := r.length
  show wpAny (model X.prog X.w) X.A (subscriptTail e (.Slice none none (some (.Constant (.int z) k p1)) p3) (.ref a) (.ref s4.heap.objs.size)) (EP X pins σ Q) X.xe { s4 with heap := s4.heap.push { cls := .type "slice", data := .fields #[.none, .none, .int z tk] } }
  refine tail_any (ops := [.ref a, .ref s4.heap.objs.size]) ht.typeIs (PyProof.Rows.slot_tuple_getitem.lookup) ?_ (by with_unfolding_all rfl)
  refine HT.dl_getItem_step hz2 ht (Heap.IsSliceOf.new _ _ _ _) ?_ (by rw [List.size_toArray]; omega)
  refine ⟨.ref _, _, I5.laid (t' := s4.toks) (o := .tup (HT.stepL xs z)) (fun b ob q => Heap.get?_push_of_some _ q) (Nat.le_refl _) ?_, rfl, q _ (I5.hok.fresh (Nat.le_refl _))⟩
  refine ⟨Nat.le_trans (HT.stepL_le _ _ hz2) hz, HT.stepL its z, r.stepL z, ?_⟩
  exact IsTup.new _ _
end
end L2
namespace DL
open PySem PySem.Spec L2 PyProof.Rows
section
variable {K : PySem.W.Frag} {X : Cx} {b : Bs} {e e1 e2 : Expr} {w : WE} {pos p2 p3 : Pos}
theorem pick_dens {H : Hp} {xs : List V} {ds : List D} (f : Nat → Nat) (h : Dens K H xs ds) : ∀ l : List Nat, Dens K H (l.filterMap fun m => xs[f m]?) (l.filterMap fun m => ds[f m]?)
  | [] => .nil
  | m :: l => by
    have ih := pick_dens f h l
    rw [List.filterMap_cons, List.filterMap_cons]
    cases q : xs[f m]? with
    | none =>
      have hl : ds[f m]? = none := List.getElem?_eq_none (by rw [← h.length]; exact List.getElem?_eq_none_iff.mp q)
      rw [hl]
      exact ih
    | some x =>
      obtain ⟨u, hu, ru⟩ := h.getV q
      rw [hu]
      exact .cons ru ih
theorem step_dens {H : Hp} {xs : List V} {ds : List D} (k : Int) (h : Dens K H xs ds) : Dens K H (HT.stepL xs k) (HT.stepL ds k) := by
  unfold HT.stepL
  rw [h.length]
  exact pick_dens (fun m => ((0 : Int) + (m : Int) * k).toNat) h _
def wStepT (k : Int) (w : WE) : WE := fun ρ n P => w ρ n fun d n1 => match d with
  | .tup ds => P (.tup (HT.stepL ds k)) n1
  | _ => False
theorem de_stepT {k : Nat} {z : Int} {p1 p3 : Pos} (h : DB X b e w) (hz : 2 ≤ z := by decide) : DE X b (.Subscript e (.Slice none none (some (.Constant (.int z) k p1)) p3) pos) (wStepT z w) := pe_weak (pe_stepT hz h) fun σ H Q ⟨U, ρ, n, P, r, hw, k⟩ =>
  ⟨U, ρ, n, _, r, hw, fun d n1 U1 H1 v p1 g1 d1 => by
    cases d with
    | tup ds =>
      obtain ⟨a, vs, rfl, h1, _, h2⟩ := d1.itemsT g1.uh
      exact ⟨a, vs, rfl, h1, fun q hq => k _ _ _ _ _ p1 (g1.trans (Grow.new g1.uh hq)) (.of (.tup (SqT.of upd_same) ((step_dens z h2).mono (same_new (g1.uh.free hq)))))⟩
    | _ => exact p1.elim⟩
end
end DL
/-! Data-level layer, 14: the box of digits. -/
namespace DL
open PySem PySem.Spec L2 PyProof.Rows
section
variable {K : PySem.W.Frag} {X : Cx} {pins : List (Addr × Obj)} {σ : St} {H : Hp} {s : Shared} {l : Addr} {N : Nat}
theorem upd_self {H : Hp} {a : Addr} {o : HO} (h : H a = some o) : upd H a o = H := by
  funext b
  unfold upd
  split
  · rename_i e; rw [e, h]
  · rfl
/-- the box's list, told -/
theorem Inv.unseal (I : Inv X pins σ H s) (h : H l = some (BoxO l N)) : ∃ xs, BoxP N xs ∧ Inv X pins σ (upd H l (.lst xs)) s := by
  obtain ⟨⟨xs, its, k, hp, hz, r, e⟩, _, _⟩ := I.hok l _ h
  refine ⟨xs, hp, ?_⟩
  exact I.write (t' := s.toks) (h' := s.heap) (x := l) (e := l) (by rw [h]; trivial) (.inl rfl) (fun b u _ q => q) ⟨_, e⟩ ⟨hz, its, k, r, e⟩
/-- and kept back -/
theorem Inv.seal {xs : List V} {M : Nat} (I : Inv X pins σ H s) (h : H l = some (.lst xs)) (hp : BoxP M xs) : Inv X pins σ (upd H l (BoxO l M)) s := by
  obtain ⟨its, k, r, e, hz⟩ := I.lst h
  refine I.write (t' := s.toks) (h' := s.heap) (x := l) (e := l) (by rw [h]; trivial) (.inl rfl) (fun b u _ q => q) ⟨_, e⟩ ?_
  exact ⟨⟨xs, its, k, hp, hz, r, e⟩, ⟨_, e⟩, fun h1 h2 ⟨xs, its, k, hp, hz, r, e⟩ m => ⟨xs, its, k, hp, hz, r, m _ e⟩⟩
/-- what the box may tell at j -/
def boxAt (N : Nat) (j : Int) (R : V → Prop) : Prop :=
  (j = 0 ∧ ∀ g : Int, 0 ≤ g → R (.int g)) ∨ (j = 1 ∧ ∀ b, R (.bl b)) ∨ (j = 2 ∧ ∀ m : Int, 0 ≤ m → m < 2147483648 → R (.int m)) ∨ (j = 3 ∧ ∀ c : Int, 0 ≤ c → c ≤ N → R (.int c))
def rIxBox : R2 := fun x y H Q => ∃ l N j, x = .ref l ∧ H l = some (BoxO l N) ∧ y = .int j ∧ boxAt N j fun v => Q v H
theorem boxAt_in {xs : List V} {j : Int} {R : V → Prop} (h : BoxP N xs) (b : boxAt N j R) : ∃ v, atI xs j = some v ∧ R v := by
  obtain ⟨g, k, m, c, rfl, h1, h2, h3, h4, h5⟩ := h
  rcases b with ⟨rfl, b⟩ | ⟨rfl, b⟩ | ⟨rfl, b⟩ | ⟨rfl, b⟩
  · exact ⟨_, rfl, b g h1⟩
  · exact ⟨_, rfl, b k⟩
  · exact ⟨_, rfl, b m h2 h3⟩
  · exact ⟨_, rfl, b c h4 h5⟩
theorem ix_box : IxR X rIxBox := by
  intro value slice pins s σ H x y v u Q I rx ry h hs
  obtain ⟨l, N, j, rfl, hl, rfl, hb⟩ := h
  obtain ⟨xs, hp, I1⟩ := Inv.unseal I hl
  obtain ⟨z, hz, q⟩ := boxAt_in hp hb
  refine wpAny_mono (ix_list (X := X) value slice pins s σ (upd H l (.lst xs)) (.ref l) (.int j) v u (fun v H' => H' = upd H l (.lst xs) ∧ Q v H) I1 rx ry ⟨l, xs, j, z, rfl, rfl, .of upd_same, hz, rfl, q⟩ hs) (fun r s' h => ?_) fun _ _ h => h
  obtain ⟨v1, H1, I2, r2, eH, q2⟩ := h
  subst eH
  have I3 := Inv.seal I2 upd_same hp
  rw [upd_upd, upd_self hl] at I3
  exact ⟨v1, H, I3, r2, q2⟩
/-- what may be written: the greatest part, or the count -/
def boxTo (N : Nat) (j : Int) (v : V) (R : Nat → Prop) : Prop :=
  (∃ g : Int, j = 0 ∧ v = .int g ∧ 0 ≤ g ∧ R N) ∨ (∃ c : Int, j = 3 ∧ v = .int c ∧ 0 ≤ c ∧ c ≤ N + 1 ∧ R (N + 1))
def rSetBox : V → V → V → Hp → (Hp → Prop) → Prop := fun o i v H Q => ∃ l N j, o = .ref l ∧ H l = some (BoxO l N) ∧ i = .int j ∧ boxTo N j v fun M => Q (upd H l (BoxO l M))
theorem boxTo_in {xs : List V} {j : Int} {v : V} {R : Nat → Prop} (h : BoxP N xs) (b : boxTo N j v R) : ∃ k M, ixN xs.length j = some k ∧ BoxP M (xs.set k v) ∧ R M := by
  obtain ⟨g, k, m, c, rfl, h1, h2, h3, h4, h5⟩ := h
  rcases b with ⟨g', rfl, rfl, b1, b2⟩ | ⟨c', rfl, rfl, b1, b2, b3⟩
  · exact ⟨0, N, rfl, ⟨g', k, m, c, rfl, b1, h2, h3, h4, h5⟩, b2⟩
  · exact ⟨3, N + 1, rfl, ⟨g, k, m, c', rfl, h1, h2, h3, b1, by simpa using b2⟩, b3⟩
theorem set_box : PSet X rSetBox := by
  intro pins s σ H o i v ov iv u Q I ro ri rv h
  obtain ⟨l, N, j, rfl, hl, rfl, hb⟩ := h
  obtain ⟨xs, hp, I1⟩ := Inv.unseal I hl
  obtain ⟨k, M, hk, hp2, q⟩ := boxTo_in hp hb
  refine wpAny_mono (set_list (X := X) pins s σ (upd H l (.lst xs)) (.ref l) (.int j) v ov iv u (fun H' => H' = upd H l (.lst (xs.set k v)) ∧ Q (upd H l (BoxO l M))) I1 ro ri rv ⟨l, xs, j, k, rfl, rfl, upd_same, hk, by rw [upd_upd], q⟩) (fun r s' h => ?_) fun _ _ h => h
  obtain ⟨H1, I2, eH, q2⟩ := h
  subst eH
  have I3 := Inv.seal I2 upd_same hp2
  rw [upd_upd] at I3
  exact ⟨_, I3, q2⟩
end
section
variable {K : PySem.W.Frag} {X : Cx} {b : Bs} {e e1 e2 : Expr} {w w1 w2 : WE} {wf : WF} {pos p2 p3 : Pos}
def wBoxIx (i : Nat) (j : Int) : WE := fun ρ n P => ρ[i]? = some (some (.val .box)) ∧
  ((j = 0 ∧ ∀ g : Int, 0 ≤ g → P (.int g) n) ∨ (j = 1 ∧ ∀ b, P (.bl b) n) ∨ (j = 2 ∧ ∀ m : Int, 0 ≤ m → m < 2147483648 → P (.int m) n) ∨ (j = 3 ∧ ∀ c : Int, 0 ≤ c → c + n ≤ lineB → P (.int c) n))
theorem box_at {U H : Hp} {n : Nat} {σ : St} {ρ : REnv} {i : Nat} (r : Rel K b U H n σ ρ) (e : ρ[i]? = some (some (.val .box))) : ∃ l N, σ[i]? = some (some (.ref l)) ∧ H l = some (BoxO l N) ∧ U l = none ∧ N + n ≤ lineB := by
  obtain ⟨v, h1, l, N, rfl, h2, h3, h4⟩ := r.sl _ _ e
  exact ⟨l, N, h1, h2, h3, h4⟩
theorem de_boxIx (i : Nat) {x : Str} {px p1 : Pos} {j : Int} {k : Nat} (hN : X.N[i]? = some x := by rfl) (hvi : Vis X.env.scope x := by first | exact Or.inl rfl | exact Or.inr (Or.inl rfl) | exact Or.inr (Or.inr rfl)) (hd : (x == ("__debug__" : Str)) = false := by decide)
    (hcd : (x == ("__classdict__" : Str)) = false := by decide) : DE X b (.Subscript (.Name x px) (.Constant (.int j) k p1) pos) (wBoxIx i j) := pe_weak (pe_ix ix_box (pe_var hN hvi hd hcd) pe_int (fun _ _ => rfl)) fun σ H Q ⟨U, ρ, n, P, r, ⟨e0, hw⟩, kk⟩ => by
  obtain ⟨l, N, h1, h2, h3, h4⟩ := box_at r e0
  have g0 : Grow U H n U H n := Grow.refl r.same
  refine ⟨_, h1, l, N, j, rfl, h2, rfl, ?_⟩
  rcases hw with ⟨ej, hw⟩ | ⟨ej, hw⟩ | ⟨ej, hw⟩ | ⟨ej, hw⟩
  · exact .inl ⟨ej, fun g hg => kk _ _ _ _ _ (hw g hg) g0 (.of (.int _))⟩
  · exact .inr (.inl ⟨ej, fun g => kk _ _ _ _ _ (hw g) g0 (.of (.bl _))⟩)
  · exact .inr (.inr (.inl ⟨ej, fun g hg hg2 => kk _ _ _ _ _ (hw g hg hg2) g0 (.of (.int _))⟩))
  · exact .inr (.inr (.inr ⟨ej, fun g hg hg2 => kk _ _ _ _ _ (hw g hg (by omega)) g0 (.of (.int _))⟩))
theorem one_heap (l : Addr) (its : Array Value) (k : Nat) : ∃ h : Heap, h.get? l = some { cls := .type "list", data := .seq its k } := by
  refine ⟨{ objs := (Array.replicate l { cls := .none, data := .fields #[] }).push { cls := .type "list", data := .seq its k } }, ?_⟩
  have e : ((Array.replicate l { cls := .none, data := .fields #[] }).push ({ cls := .type "list", data := .seq its k } : Obj))[l]? = some { cls := .type "list", data := .seq its k } := by
    rw [Array.getElem?_push]
    simp
  unfold Heap.get?
  simp only [e]
/-- a heap where l holds a box that is counted to N -/
theorem box_heap (l : Addr) (N : Nat) : ∃ h : Heap, SealF l (BoxP N) h ∧ ∀ M, SealF l (BoxP M) h → N ≤ M := by
  obtain ⟨h, e⟩ := one_heap l [Value.int 0 0, Value.bool false, Value.int 0 0, Value.int N 0].toArray 0
  refine ⟨h, ?_, ?_⟩
  · refine ⟨[.int 0, .bl false, .int 0, .int N], [Value.int 0 0, Value.bool false, Value.int 0 0, Value.int N 0], 0, ⟨0, false, 0, N, rfl, by omega, by omega, by omega, by omega, Int.le_refl _⟩, by show 4 ≤ sizeLine; rw [sizeLine_eq]; decide, .cons ⟨0, rfl⟩ (.cons rfl (.cons ⟨0, rfl⟩ (.cons ⟨0, rfl⟩ .nil))), e⟩
  · rintro M ⟨xs, its, n, ⟨g, b, m, c, rfl, h1, h2, h3, h4, h5⟩, hz, r, e2⟩
    rw [e] at e2
    cases r with
    | cons r1 r =>
      cases r with
      | cons r2 r =>
        cases r with
        | cons r3 r =>
          cases r with
          | cons r4 r =>
            cases r
            obtain ⟨t, rfl⟩ := r4
            simp at e2
            omega
theorem box_inj {l : Addr} {N M : Nat} (h : BoxO l N = BoxO l M) : N ≤ M := by
  injection h with h
  obtain ⟨hp, h1, h2⟩ := box_heap l N
  exact h2 M (by rw [← h]; exact h1)
/-- the box is written -/
theorem Grow.box {U H : Hp} {n m : Nat} {l : Addr} {N M : Nat} (e : Same U H) (hl : H l = some (BoxO l N)) (hu : U l = none) (hm : m ≤ n) (q : M + m ≤ N + n) : Grow U H n U (upd H l (BoxO l M)) m where
  le := hm
  u := Same.refl _
  uh := fun a x h => by
    rw [upd_ne (ne_of_none h hu)]
    exact e a x h
  no := fun a _ h => h
  h := fun a o h => by
    by_cases z : a = l
    · subst z
      rw [hl] at h
      cases h
      exact .inr ⟨N, rfl⟩
    · rw [upd_ne z]
      exact .inl h
  b := fun a N2 h => by
    by_cases z : a = l
    · subst z
      rw [hl] at h
      have := box_inj (Option.some.inj h)
      exact ⟨M, upd_same, by omega⟩
    · exact ⟨N2, by rw [upd_ne z]; exact h, by omega⟩
theorem Rel.box {U H : Hp} {n m : Nat} {σ : St} {ρ : REnv} {l : Addr} {N M : Nat} (r : Rel K b U H n σ ρ) (hl : H l = some (BoxO l N)) (hu : U l = none) (hm : m ≤ n) (q : M + m ≤ N + n) : Rel K b U (upd H l (BoxO l M)) m σ ρ := r.grow (Grow.box r.same hl hu hm q)
/-- box[0] = e -/
def wBoxTo (i : Nat) (w : WE) : WS := fun DD ρ n => ρ[i]? = some (some (.val .box)) ∧ w ρ n fun d n1 => match d with
  | .int g => 0 ≤ g ∧ DD.nx ρ n1
  | _ => False
theorem ds_boxTo (i : Nat) {x : Str} {px p1 p2 : Pos} {k : Nat} (h : DE X b e w) (hN : X.N[i]? = some x := by rfl) (hvi : Vis X.env.scope x := by first | exact Or.inl rfl | exact Or.inr (Or.inl rfl) | exact Or.inr (Or.inr rfl)) (hd : (x == ("__debug__" : Str)) = false := by decide)
    (hcd : (x == ("__classdict__" : Str)) = false := by decide) (hs : swapsWithSole [.Subscript (.Name x px) (.Constant (.int 0) k p1) p2] e pos.line X.env = pure false := by rfl) (hw : swappedStores [.Subscript (.Name x px) (.Constant (.int 0) k p1) p2] e X.env = pure none := by rfl) :
    DS X b (.Assign [.Subscript (.Name x px) (.Constant (.int 0) k p1) p2] e pos) (wBoxTo i w) := ps_weak (ps_asg h (pg_sub (pe_var hN hvi hd hcd) pe_int set_box) hs hw) fun E σ H ⟨U, ρ, n, DD, r, ⟨e0, hw⟩, kk⟩ =>
  ⟨U, ρ, n, _, r, hw, fun d n1 U1 H1 v p1 g1 d1 => by
    have r1 := r.grow g1
    obtain ⟨l, N, h1, h2, h3, h4⟩ := box_at r1 e0
    refine ⟨_, h1, ?_⟩
    cases d with
    | int g =>
      cases d1
      exact ⟨l, N, 0, rfl, h2, rfl, .inl ⟨g, rfl, rfl, p1.1, kk.nx _ _ _ _ _ (r1.box h2 h3 (Nat.le_refl _) (Nat.le_refl _)) p1.2⟩⟩
    | _ => exact p1.elim⟩
/-- box[3] = box[3] + 1 -/
def wBoxInc (i : Nat) : WS := fun DD ρ n => ρ[i]? = some (some (.val .box)) ∧ 1 ≤ n ∧ DD.nx ρ (n - 1)
theorem ds_boxInc (i : Nat) {x : Str} {px p1 p2 px' p1' p2' p3 p4 : Pos} {k k' k2 : Nat} (hN : X.N[i]? = some x := by rfl) (hvi : Vis X.env.scope x := by first | exact Or.inl rfl | exact Or.inr (Or.inl rfl) | exact Or.inr (Or.inr rfl)) (hd : (x == ("__debug__" : Str)) = false := by decide)
    (hcd : (x == ("__classdict__" : Str)) = false := by decide) (hs : swapsWithSole [.Subscript (.Name x px) (.Constant (.int 3) k p1) p2] (.BinOp (.Subscript (.Name x px') (.Constant (.int 3) k' p1') p2') .Add (.Constant (.int 1) k2 p3) p4) pos.line X.env = pure false := by rfl)
    (hw : swappedStores [.Subscript (.Name x px) (.Constant (.int 3) k p1) p2] (.BinOp (.Subscript (.Name x px') (.Constant (.int 3) k' p1') p2') .Add (.Constant (.int 1) k2 p3) p4) X.env = pure none := by rfl) :
    DS X b (.Assign [.Subscript (.Name x px) (.Constant (.int 3) k p1) p2] (.BinOp (.Subscript (.Name x px') (.Constant (.int 3) k' p1') p2') .Add (.Constant (.int 1) k2 p3) p4) pos) (wBoxInc i) :=
  ps_weak (ps_asg (pe_op op_add (pe_ix ix_box (pe_var hN hvi hd hcd) pe_int (fun _ _ => rfl)) pe_int) (pg_sub (pe_var hN hvi hd hcd) pe_int set_box) hs hw) fun E σ H ⟨U, ρ, n, DD, r, ⟨e0, hn, hw⟩, kk⟩ => by
    obtain ⟨l, N, h1, h2, h3, h4⟩ := box_at r e0
    refine ⟨_, h1, l, N, 3, rfl, h2, rfl, .inr (.inr (.inr ⟨rfl, fun c c1 c2 => ⟨c, 1, rfl, rfl, _, h1, l, N, 3, rfl, h2, rfl, .inr ⟨c + 1, rfl, rfl, by omega, by omega, ?_⟩⟩⟩))⟩
    exact kk.nx _ _ _ _ _ (r.box h2 h3 (by omega) (by omega)) hw
/-- a new list that becomes a box -/
def wBoxOf (wf : WF) : WE := fun ρ n P => wf ρ n fun ds n1 => ∃ (g : Int) (k : Bool) (m : Int), ds = [.int g, .bl k, .int m, .int 0] ∧ 0 ≤ g ∧ 0 ≤ m ∧ m < 2147483648 ∧ n1 ≤ lineB ∧ P .box n1
theorem de_boxOf (h : DF X b e wf) : DE X b e (wBoxOf wf) := by
  refine ⟨fun pins s σ H Q I ⟨U, ρ, n, P, r, hw, k⟩ => ?_⟩
  refine thn (h.run pins s σ H (fun v H' => ∃ l xs n1 U1, v = .ref l ∧ H l = none ∧ H' l = some (.lst xs) ∧ BoxP 0 xs ∧ (Grow U H n U1 H' n1) ∧ U1 l = none ∧ n1 ≤ lineB ∧ P .box n1) I ⟨U, ρ, n, _, r, hw, fun ds n1 U1 H1 l vs p1 g1 h0 h1 h2 h3 => ?_⟩) fun v s1 ⟨x, H1, I1, r1, q1⟩ => ?_
  · obtain ⟨g, k, m, rfl, b1, b2, b3, b4, b5⟩ := p1
    refine ⟨l, vs, n1, U1, rfl, h0, h1, ?_, g1, h2, b4, b5⟩
    cases h3 with
    | cons a1 h3 =>
      cases h3 with
      | cons a2 h3 =>
        cases h3 with
        | cons a3 h3 =>
          cases h3 with
          | cons a4 h3 =>
            cases h3
            cases a1
            cases a2
            cases a3
            cases a4
            exact ⟨g, k, m, 0, rfl, b1, b2, b3, Int.le_refl _, Int.le_refl _⟩
  · obtain ⟨l, xs, n1, U1, rfl, h0, h1, hb, g1, h2, b4, b5⟩ := q1
    have I2 := Inv.seal I1 h1 hb
    have g2 : Grow U H n U1 (upd H1 l (BoxO l 0)) n1 := g1.put h0 h2
    exact ⟨.ref l, _, I2, r1, k .box n1 U1 _ _ b5 g2 ⟨l, 0, rfl, upd_same, h2, by omega⟩⟩
end
end DL
/-! Data-level layer, 15: comparisons as tests. -/
namespace DL
open PySem PySem.Spec L2 PyProof.Rows
section
variable {K : PySem.W.Frag} {X : Cx} {b : Bs} {e e1 e2 e3 : Expr} {w w1 w2 w3 : WE} {pos : Pos}
theorem liftT_B {σ : St} {H : Hp} {Q : Bool → Hp → Prop} (h : liftT K b (wB w) σ H Q) : lift K b w σ H fun x H' => ∃ k, x = .bl k ∧ Q k H' := by
  obtain ⟨U, ρ, n, P, r, hw, k⟩ := h
  refine ⟨U, ρ, n, _, r, hw, fun x n1 U1 H1 vx p1 g1 d1 => ?_⟩
  cases x with
  | bl c =>
    cases d1
    exact ⟨c, rfl, k _ _ _ _ p1 g1⟩
  | _ => exact p1.elim
theorem dt_cmp {op : CmpOp} {r : R2} {rd : D → D → Nat → (D → Nat → Prop) → Prop} (ho : OpR X (compareOp op) r) (sd : Sd2 X.K r rd) (ha : DB X b e1 w1) (hb : DB X b e2 w2) (hm : behindInMarks op e2 = false) : DT X b (.Compare e1 [op] [e2] pos) (wB (wOp rd w1 w2)) :=
  pt_weak (pt_cmpR ho ha hb hm) fun σ H Q h => lift2 sd σ H _ (liftT_B h)
theorem dt_din (hu : X.A.units + 1 < cLine) (ha : DB X b e1 w1) (hb : DB X b e2 w2) (hm : behindInMarks .In e2 = false := by rfl) : DT X b (.Compare e1 [.In] [e2] pos) (wB (wOp (dDin false) w1 w2)) := pt_weak (pt_cmp (pc_din hu ha hb) hm) fun σ H Q h => din_imp (neg := false) hu ha hb σ H _ (liftT_B h)
theorem dt_dnotin (hu : X.A.units + 1 < cLine) (ha : DB X b e1 w1) (hb : DB X b e2 w2) (hm : behindInMarks .NotIn e2 = false := by rfl) : DT X b (.Compare e1 [.NotIn] [e2] pos) (wB (wOp (dDin true) w1 w2)) := pt_weak (pt_cmp (pc_dnotin hu ha hb) hm) fun σ H Q h => din_imp (neg := true) hu ha hb σ H _ (liftT_B h)
theorem chain_imp {r r' : R2} {rd rd' : D → D → Nat → (D → Nat → Prop) → Prop} (sd : Sd2 K r rd) (sd' : Sd2 K r' rd') : ∀ σ H (Q : VK), lift K b (wChain rd rd' w1 w2 w3) σ H Q → tChain r r' (liftB K b w1) (liftB K b w2) (liftB K b w3) σ H Q := fun σ H Q ⟨U, ρ, n, P, hr, hw, k⟩ =>
  ⟨U, ρ, n, _, hr, hw, fun x n1 U1 H1 vx p1 g1 d1 => ⟨U1, ρ, n1, _, hr.grow g1, p1, fun y n2 U2 H2 vy p2 g2 d2 =>
    sd x y n2 _ U2 H2 vx vy _ g2.uh (d1.grow g2) d2 p2 fun z n3 U3 H3 vz p3 g3 d3 => by
      cases z with
      | bl c =>
        cases d3
        refine ⟨c, rfl, ?_⟩
        cases c with
        | false => exact k _ _ _ _ _ p3 ((g1.trans g2).trans g3) (.of (.bl false))
        | true =>
          refine ⟨U3, ρ, n3, _, (hr.grow g1).grow (g2.trans g3), p3, fun t n4 U4 H4 vt p4 g4 d4 => ?_⟩
          exact sd' y t n4 P U4 H4 vy vt Q g4.uh (d2.grow (g3.trans g4)) d4 p4 fun d n' U' H' v p g dx => k d n' U' H' v p (((g1.trans g2).trans (g3.trans g4)).trans g) dx
      | _ => exact p3.elim⟩⟩
theorem dt_chain {op op' : CmpOp} {r r' : R2} {rd rd' : D → D → Nat → (D → Nat → Prop) → Prop} (ho : OpR X (compareOp op) r) (sd : Sd2 X.K r rd) (ho' : OpR X (compareOp op') r') (sd' : Sd2 X.K r' rd')
    (ha : DB X b e1 w1) (hb : DB X b e2 w2) (hc : DB X b e3 w3) (hm : lastMarks [op, op'] [e2, e3] = false := by rfl) : DT X b (.Compare e1 [op, op'] [e2, e3] pos) (wB (wChain rd rd' w1 w2 w3)) := pt_weak (pt_chain ho ho' ha hb hc hm) fun σ H Q h => chain_imp sd sd' σ H _ (liftT_B h)
theorem pg_or {tg : Expr} {g g' : TG} (h : PG X tg g) (h' : PG X tg g') : PG X tg (fun v σ H Q => g v σ H Q ∨ g' v σ H Q) := ⟨fun pins s σ H v u Q I r q => by
  rcases q with q | q
  · exact h.run pins s σ H v u Q I r q
  · exact h'.run pins s σ H v u Q I r q⟩
/-- x, y, .. = e, a tuple or a list -/
def wUnpA (is : List Nat) (w : WE) : WS := fun DD ρ n => w ρ n fun d n1 => match d with
  | .tup ds => ds.length = is.length ∧ DD.nx (setD ρ is ds) n1
  | .lst ds => ds.length = is.length ∧ DD.nx (setD ρ is ds) n1
  | _ => False
theorem ds_unpA (is : List Nat) {es : List Expr} {kt : Nat} {pt : Pos} (hc : X.calm = true) (h : DE X b e w) (hg : PGs X es (gNames is)) (hn : (assignEach es X.env).length = is.length := by rfl) (hst : (assignEach es X.env).findIdx? (·.1) = none := by rfl)
    (hs : swapsWithSole [.Tuple es kt pt] e pos.line X.env = pure false := by rfl) (hw : swappedStores [.Tuple es kt pt] e X.env = pure none := by rfl) :
    DS X b (.Assign [.Tuple es kt pt] e pos) (wUnpA is w) := ps_weak (ps_asg h (pg_or (pg_tup hc hg hn hst) (pg_unl hc hg hn hst)) hs hw) fun E σ H ⟨U, ρ, n, DD, r, hw, k⟩ => ⟨U, ρ, n, _, r, hw, fun d n' U' H' v p g dv => by
  cases d with
  | tup ds =>
    cases dv with
    | @tup a vs _ h1 h2 =>
      obtain ⟨hl, p⟩ := (show ds.length = is.length ∧ DD.nx (setD ρ is ds) n' from p)
      exact .inl ⟨a, vs, rfl, sqt_same g.uh h1, by rw [h2.length, hl], gNames_ok (σ := σ) (by rw [h2.length, hl]) (k.nx _ _ _ _ _ ((r.grow g).setAll h2) p)⟩
  | lst ds =>
    cases dv with
    | @lst a vs _ h1 h2 =>
      obtain ⟨hl, p⟩ := (show ds.length = is.length ∧ DD.nx (setD ρ is ds) n' from p)
      exact .inr ⟨a, vs, rfl, .of (g.uh _ _ h1), by rw [h2.length, hl], gNames_ok (σ := σ) (by rw [h2.length, hl]) (k.nx _ _ _ _ _ ((r.grow g).setAll h2) p)⟩
  | _ => exact (show False from p).elim⟩
end
end DL

/-! ### readings of loops -/
namespace DL
open PySem PySem.Spec
section
variable {g : WG} {wt : WT} {we : WE} {vs : List Nat} {ρ : REnv} {P : List D → Nat → Prop}
/-- a comprehension whose turns each answer any wish: f tells what is added -/
theorem lcD_map {f : D → Option D} : ∀ (ds acc : List D) (n : Nat), (∀ x ∈ ds, ∀ k : Option D → Nat → Prop, k (f x) n → g x (wipeD ρ vs) fun ρ2 => wt ρ2 n fun c n2 => if c = true then we ρ2 n2 fun d n3 => k (some d) n3 else k none n2) →
    (∀ x ∈ ds, ∀ d, f x = some d → d.nb) → acc.length + ds.length ≤ 1000000 → P (acc ++ ds.filterMap f) n → lcD g wt we vs ρ P ds acc n
  | [], acc, n, _, _, _, p => by simpa [lcD] using p
  | x :: r, acc, n, h, nb, hl, p => by
    have hl' : acc.length + (r.length + 1) ≤ 1000000 := hl
    have ih := fun acc' => lcD_map (f := f) r acc' n (fun y hy => h y (List.mem_cons_of_mem _ hy)) (fun y hy => nb y (List.mem_cons_of_mem _ hy))
    unfold lcD
    refine h x List.mem_cons_self (fun o m => match o with | some d => acc.length < 1000000 ∧ d.nb ∧ lcD g wt we vs ρ P r (acc ++ [d]) m | none => lcD g wt we vs ρ P r acc m) ?_
    rw [List.filterMap_cons] at p
    cases q : f x with
    | none =>
      rw [q] at p
      exact ih acc (by omega) p
    | some d =>
      rw [q] at p
      exact ⟨by omega, nb x List.mem_cons_self d q, ih (acc ++ [d]) (by simp; omega) (by simpa using p)⟩
theorem lcD_ind (J : List D → List D → Nat → Prop) (h0 : ∀ acc n, J [] acc n → P acc n)
    (h : ∀ x r acc n (N : List D → Nat → Prop), J (x :: r) acc n → (∀ acc' n', J r acc' n' → N acc' n') → g x (wipeD ρ vs) fun ρ2 => wt ρ2 n fun c n2 => if c = true then we ρ2 n2 fun d n3 => acc.length < 1000000 ∧ d.nb ∧ N (acc ++ [d]) n3 else N acc n2) :
    ∀ ds acc n, J ds acc n → lcD g wt we vs ρ P ds acc n
  | [], acc, n, j => h0 acc n j
  | x :: r, acc, n, j => h x r acc n _ j fun acc' n' j' => lcD_ind J h0 h r acc' n' j'
theorem loopD_ind {wb : WS} {DD : DEnds} (J : List D → REnv → Nat → Prop) (h0 : ∀ ρ n, J [] ρ n → DD.nx ρ n)
    (h : ∀ x r ρ n (N : REnv → Nat → Prop), J (x :: r) ρ n → (∀ ρ' n', J r ρ' n' → N ρ' n') → g x ρ fun ρ2 => wb { DD with nx := N, ct := N, bk := DD.nx } ρ2 n) :
    ∀ ds ρ n, J ds ρ n → loopD g wb DD ds ρ n
  | [], ρ, n, j => h0 ρ n j
  | x :: r, ρ, n, j => h x r ρ n _ j fun ρ' n' j' => loopD_ind J h0 h r ρ' n' j'
end
end DL

namespace DL
section
variable {i n : Nat} {ρ : REnv} {P : D → Nat → Prop}
theorem wBoxIx_0 : wBoxIx i 0 ρ n P = (ρ[i]? = some (some (.val .box)) ∧ ∀ g : Int, 0 ≤ g → P (.int g) n) := by simp [wBoxIx]
theorem wBoxIx_1 : wBoxIx i 1 ρ n P = (ρ[i]? = some (some (.val .box)) ∧ ∀ g : Bool, P (.bl g) n) := by simp [wBoxIx]
theorem wBoxIx_2 : wBoxIx i 2 ρ n P = (ρ[i]? = some (some (.val .box)) ∧ ∀ m : Int, 0 ≤ m → m < 2147483648 → P (.int m) n) := by simp [wBoxIx]
theorem wBoxIx_3 : wBoxIx i 3 ρ n P = (ρ[i]? = some (some (.val .box)) ∧ ∀ c : Int, 0 ≤ c → c + n ≤ lineB → P (.int c) n) := by simp [wBoxIx]
end
end DL

namespace DL
def bsel : D → Prop → Prop → Prop
  | .bl true, A, _ => A
  | .bl false, _, B => B
  | _, _, _ => False
theorem bsel_bl {x : Bool} {A B : Prop} : bsel (.bl x) A B = if x = true then A else B := by cases x <;> simp [bsel]
section
variable {w1 w2 w3 : WE} {n : Nat} {ρ : REnv} {P : D → Nat → Prop} {rd rd' : D → D → Nat → (D → Nat → Prop) → Prop}
theorem wAnd_s : wAnd w1 w2 ρ n P = w1 ρ n fun x n1 => bsel x (w2 ρ n1 P) (P (.bl false) n1) := by
  unfold wAnd
  congr 1
  funext x n1
  cases x with
  | bl c => cases c <;> rfl
  | _ => rfl
theorem wOr_s : wOr w1 w2 ρ n P = w1 ρ n fun x n1 => bsel x (P (.bl true) n1) (w2 ρ n1 P) := by
  unfold wOr
  congr 1
  funext x n1
  cases x with
  | bl c => cases c <;> rfl
  | _ => rfl
theorem wChain_s : wChain rd rd' w1 w2 w3 ρ n P = w1 ρ n fun x n1 => w2 ρ n1 fun y n2 => rd x y n2 fun z n3 => bsel z (w3 ρ n3 fun t n4 => rd' y t n4 P) (P (.bl false) n3) := by
  unfold wChain
  congr 1
  funext x n1
  congr 1
  funext y n2
  congr 1
  funext z n3
  cases z with
  | bl c => cases c <;> rfl
  | _ => rfl
end
end DL
/-! Data-level layer, 16: facts about data. -/
namespace DL
open PySem PySem.Spec L2 PyProof.Rows

/-! ### data of ints -/
def dI (a : List Int) : D := .tup (a.map D.int)
def dG (gs : List (List Int)) : List D := gs.map dI
def SeqD (d : D) (ds : List D) : Prop := d = .lst ds ∨ d = .tup ds
theorem okd_int {k : Nat} {i : Int} : okd k (.int i) = true := by unfold okd; rfl
theorem okd_bl {k : Nat} {i : Bool} : okd k (.bl i) = true := by unfold okd; rfl
theorem okd_non {k : Nat} : okd k .non = true := by unfold okd; rfl
theorem okds_all {k : Nat} : ∀ {ds : List D}, (∀ d ∈ ds, okd k d = true) → okds k ds = true
  | [], _ => by unfold okds; rfl
  | d :: r, h => by unfold okds; rw [h d List.mem_cons_self, okds_all fun x hx => h x (List.mem_cons_of_mem _ hx)]; rfl
theorem okd_lst {k : Nat} {ds : List D} (h : ∀ d ∈ ds, okd k d = true) : okd (k + 1) (.lst ds) = true := by unfold okd; exact okds_all h
theorem okd_tup {k : Nat} {ds : List D} (h : ∀ d ∈ ds, okd k d = true) : okd (k + 1) (.tup ds) = true := by unfold okd; exact okds_all h
theorem okds_ints {k : Nat} {a : List Int} : okds k (a.map D.int) = true := okds_all fun d hd => by
  obtain ⟨i, _, rfl⟩ := List.mem_map.mp hd
  exact okd_int
theorem okd_lints {k : Nat} {a : List Int} : okd (k + 1) (.lst (a.map D.int)) = true := by unfold okd; exact okds_ints
theorem okd_tints {k : Nat} {a : List Int} : okd (k + 1) (.tup (a.map D.int)) = true := by unfold okd; exact okds_ints
theorem okd_dI {k : Nat} {a : List Int} : okd (k + 1) (dI a) = true := okd_tints
theorem okd_lnil {k : Nat} : okd (k + 1) (.lst []) = true := by unfold okd okds; rfl
theorem okd_tnil {k : Nat} : okd (k + 1) (.tup []) = true := by unfold okd okds; rfl
theorem eqd_int {i j : Int} : eqd (.int i) (.int j) = decide (i = j) := by
  unfold eqd
  rfl
theorem eqd_bl {i j : Bool} : eqd (.bl i) (.bl j) = decide (i = j) := by
  unfold eqd
  cases i <;> cases j <;> rfl
theorem eqds_nil {ds : List D} : eqds ds [] = ds.isEmpty := by cases ds <;> rfl
theorem eqd_lnil {ds : List D} : eqd (.lst ds) (.lst []) = ds.isEmpty := by unfold eqd; exact eqds_nil
theorem eqd_tnil {ds : List D} : eqd (.tup ds) (.tup []) = ds.isEmpty := by unfold eqd; exact eqds_nil
theorem eqds_ints : ∀ {a b : List Int}, eqds (a.map D.int) (b.map D.int) = decide (a = b)
  | [], [] => by simp [eqds]
  | [], _ :: _ => by simp [eqds]
  | _ :: _, [] => by simp [eqds]
  | x :: a, y :: b => by
    rw [List.map_cons, List.map_cons]
    unfold eqds
    rw [eqds_ints, eqd_int]
    by_cases h : x = y
    · subst h; simp
    · simp [h]
theorem eqd_lints {a b : List Int} : eqd (.lst (a.map D.int)) (.lst (b.map D.int)) = decide (a = b) := by unfold eqd; exact eqds_ints
theorem eqd_tints {a b : List Int} : eqd (.tup (a.map D.int)) (.tup (b.map D.int)) = decide (a = b) := by unfold eqd; exact eqds_ints
theorem eqd_dI {a b : List Int} : eqd (dI a) (dI b) = decide (a = b) := eqd_tints
theorem inD_int (x : Int) (b : List Int) : inD (.int x) (b.map D.int) = decide (x ∈ b) := by
  unfold inD
  rw [List.any_map]
  by_cases h : x ∈ b
  · rw [decide_eq_true h]
    exact List.any_eq_true.mpr ⟨x, h, by simp [eqd]⟩
  · rw [decide_eq_false h]
    rw [List.any_eq_false]
    intro y hy
    have : y ≠ x := fun e => h (e ▸ hy)
    simpa [eqd] using this
theorem flat_ints (b : List Int) : (b.map D.int).all flatD = true := by
  rw [List.all_map]
  exact List.all_eq_true.mpr fun _ _ => rfl
theorem nbs_all : ∀ {ds : List D}, (∀ d ∈ ds, d.nb) → nbs ds
  | [], _ => trivial
  | d :: r, h => ⟨h d List.mem_cons_self, nbs_all fun x hx => h x (List.mem_cons_of_mem _ hx)⟩
theorem nbs_map {α : Type} {f : α → D} {xs : List α} (h : ∀ x, (f x).nb) : nbs (xs.map f) := nbs_all fun d hd => by
  obtain ⟨i, _, rfl⟩ := List.mem_map.mp hd
  exact h i
theorem nbs_ints {a : List Int} : nbs (a.map D.int) := nbs_map fun _ => trivial
theorem nbs_dG {a : List (List Int)} : nbs (dG a) := nbs_map fun _ => trivial
/-! ### places -/
theorem ixN_ok {n : Nat} {j : Nat} (h : j < n) : ixN n (j : Int) = some j := by
  unfold ixN
  rw [if_pos (by omega), if_pos (by omega)]
  simp
theorem atI_ok {α : Type} {xs : List α} {i : Int} {j : Nat} (e : i = j) {v : α} (h : xs[j]? = some v) : atI xs i = some v := by
  subst e
  exact atI_nat h
theorem atI_lt {α : Type} {xs : List α} {i : Int} {j : Nat} (e : i = j) (h : j < xs.length) : atI xs i = some xs[j] := atI_ok e (List.getElem?_eq_getElem h)
theorem atI_map {α β : Type} {f : α → β} {xs : List α} {i : Int} {v : α} (h : atI xs i = some v) : atI (xs.map f) i = some (f v) := by
  unfold atI at h ⊢
  rw [List.length_map]
  cases e : ixN xs.length i with
  | none => rw [e] at h; cases h
  | some j =>
    rw [e] at h
    have h : xs[j]? = some v := h
    show (xs.map f)[j]? = some (f v)
    rw [List.getElem?_map, h]
    rfl
theorem atI_end {α : Type} {xs : List α} {v : α} (h : xs[xs.length - 1]? = some v) : atI xs (-1) = some v := by
  have hl : 0 < xs.length := by
    have := (List.getElem?_eq_some_iff.mp h).1
    omega
  unfold atI
  have e : ixN xs.length (-1) = some (xs.length - 1) := by
    unfold ixN
    rw [if_neg (by omega), if_pos (by omega)]
    congr 1
    omega
  rw [e]
  exact h
/-! ### ranges -/
theorem rangeD_nat (n : Nat) : rangeD 0 (n : Int) = (List.range n).map fun k => D.int ((k : Nat) : Int) := by
  unfold rangeD
  have e : ((n : Int) - 0).toNat = n := by omega
  rw [e]
  apply List.map_congr_left
  intro k _
  rw [Int.zero_add]
theorem rangeD_from (m n : Nat) : rangeD (m : Int) (n : Int) = (List.range (n - m)).map fun k => D.int (((m + k : Nat)) : Int) := by
  unfold rangeD
  have e : ((n : Int) - m).toNat = n - m := by omega
  rw [e]
  apply List.map_congr_left
  intro k _
  simp
/-! ### comprehensions -/
section
variable {g : WG} {wt : WT} {we : WE} {vs : List Nat} {ρ : REnv} {P : List D → Nat → Prop}
theorem filterMap_enc {α : Type} {enc : α → D} {f : α → Option D} {F : D → Option D} : ∀ {xs : List α}, (∀ x ∈ xs, F (enc x) = f x) → (xs.map enc).filterMap F = xs.filterMap f
  | [], _ => rfl
  | x :: r, h => by
    rw [List.map_cons, List.filterMap_cons, List.filterMap_cons, h x List.mem_cons_self, filterMap_enc fun y hy => h y (List.mem_cons_of_mem _ hy)]
/-- over data that stands for xs: f tells what each adds -/
theorem lcD_enc {α : Type} (enc : α → D) (f : α → Option D) : ∀ (xs : List α) (acc : List D) (n : Nat), (∀ x ∈ xs, ∀ k : Option D → Nat → Prop, k (f x) n → g (enc x) (wipeD ρ vs) fun ρ2 => wt ρ2 n fun c n2 => if c = true then we ρ2 n2 fun d n3 => k (some d) n3 else k none n2) →
    (∀ x ∈ xs, ∀ d, f x = some d → d.nb) → acc.length + xs.length ≤ 1000000 → P (acc ++ xs.filterMap f) n → lcD g wt we vs ρ P (xs.map enc) acc n
  | [], acc, n, _, _, _, p => by simpa [lcD] using p
  | x :: r, acc, n, h, nb, hl, p => by
    have hl' : acc.length + (r.length + 1) ≤ 1000000 := hl
    have ih := fun acc' => lcD_enc enc f r acc' n (fun y hy => h y (List.mem_cons_of_mem _ hy)) (fun y hy => nb y (List.mem_cons_of_mem _ hy))
    rw [List.map_cons]
    unfold lcD
    refine h x List.mem_cons_self (fun o m => match o with | some d => acc.length < 1000000 ∧ d.nb ∧ lcD g wt we vs ρ P (r.map enc) (acc ++ [d]) m | none => lcD g wt we vs ρ P (r.map enc) acc m) ?_
    rw [List.filterMap_cons] at p
    cases q : f x with
    | none =>
      rw [q] at p
      exact ih acc (by omega) p
    | some d =>
      rw [q] at p
      exact ⟨by omega, nb x List.mem_cons_self d q, ih (acc ++ [d]) (by simp; omega) (by simpa using p)⟩
theorem fm_filter {α : Type} {c : α → Bool} {e : α → D} : ∀ {xs : List α}, xs.filterMap (fun x => if c x = true then some (e x) else none) = (xs.filter c).map e
  | [] => rfl
  | x :: r => by
    rw [List.filterMap_cons, List.filter_cons, fm_filter]
    by_cases h : c x = true
    · rw [if_pos h, if_pos h]; rfl
    · rw [if_neg h, if_neg h]
theorem fm_map {α : Type} {e : α → D} : ∀ {xs : List α}, xs.filterMap (fun x => some (e x)) = xs.map e
  | [] => rfl
  | x :: r => by rw [List.filterMap_cons, fm_map]; rfl
/-- [e x for x in xs if c x] -/
theorem lcD_if {α : Type} (enc : α → D) (c : α → Bool) (e : α → D) {xs : List α} {n : Nat} (h : ∀ x ∈ xs, ∀ (A B : Nat → Prop), (if c x = true then A n else B n) → ∀ k : Option D → Nat → Prop, A = k (some (e x)) → B = k none → g (enc x) (wipeD ρ vs) fun ρ2 => wt ρ2 n fun c n2 => if c = true then we ρ2 n2 fun d n3 => k (some d) n3 else k none n2)
    (nb : ∀ x, (e x).nb) (hl : xs.length ≤ 1000000) (p : P ((xs.filter c).map e) n) : lcD g wt we vs ρ P (xs.map enc) [] n := by
  refine lcD_enc enc (fun x => if c x = true then some (e x) else none) xs [] n (fun x hx k hk => h x hx _ _ ?_ k rfl rfl) (fun x _ d hd => ?_) (by simpa using hl) (by rw [fm_filter, List.nil_append]; exact p)
  · split
    · rename_i q; simpa only [q, if_true] using hk
    · rename_i q; rw [if_neg q] at hk; exact hk
  · split at hd
    · cases hd; exact nb x
    · cases hd
/-- [e x for x in xs] -/
theorem lcD_each {α : Type} (enc : α → D) (e : α → D) {xs : List α} {n : Nat} (h : ∀ x ∈ xs, ∀ k : Option D → Nat → Prop, k (some (e x)) n → g (enc x) (wipeD ρ vs) fun ρ2 => wt ρ2 n fun c n2 => if c = true then we ρ2 n2 fun d n3 => k (some d) n3 else k none n2)
    (nb : ∀ x, (e x).nb) (hl : xs.length ≤ 1000000) (p : P (xs.map e) n) : lcD g wt we vs ρ P (xs.map enc) [] n :=
  lcD_enc enc (fun x => some (e x)) xs [] n h (fun x _ d hd => by cases hd; exact nb x) (by simpa using hl) (by rw [fm_map, List.nil_append]; exact p)
end
/-- all(..) of a list of bools -/
theorem dAll_of {bs : List Bool} {n : Nat} {P : D → Nat → Prop} {ds : List D} (e : ds = bs.map D.bl) (h : P (.bl (bs.all id)) n) : dAll [.lst ds] n P := ⟨bs, by rw [e], h⟩
theorem dAny_of {bs : List Bool} {n : Nat} {P : D → Nat → Prop} {ds : List D} (e : ds = bs.map D.bl) (h : P (.bl (bs.any id)) n) : dAny [.lst ds] n P := ⟨bs, by rw [e], h⟩
theorem map_bl {α : Type} {f : α → Bool} {xs : List α} : xs.map (fun x => D.bl (f x)) = (xs.map f).map D.bl := by rw [List.map_map]; rfl
theorem all_id {α : Type} {f : α → Bool} {xs : List α} : (xs.map f).all id = xs.all f := by rw [List.all_map]; rfl
/-! ### numbers -/
theorem pow_ok {x : Int} (j : Int) (h0 : 0 ≤ x) (h : x < 18446744073709551616) (hj : 0 ≤ j) (hj2 : j ≤ 1000000) : CPow x j := ⟨hj, hj2, by omega⟩
theorem log_ok {z : Nat} (hz : z < 18446744073709551616) : z.log2 < 64 := by
  by_cases h0 : z = 0
  · subst h0; decide
  · exact (Nat.log2_lt h0).mpr hz
theorem mulW_ok {x y : Int} (hx : x.natAbs < 18446744073709551616) (hy : y.natAbs < 18446744073709551616) : CMulW x y := by
  have := log_ok hx
  have := log_ok hy
  unfold CMulW
  omega
theorem divW_ok {x y : Int} (hx : 0 < y) (hy : y.natAbs < 18446744073709551616) : CDivW x y := by
  refine ⟨hx, ?_⟩
  have := log_ok hy
  omega
end DL
/-! Data-level layer, 17: more. -/
namespace DL
open PySem PySem.Spec L2 PyProof.Rows
section
variable {X : Cx} {b : Bs} {e e1 e2 e3 : Expr} {w1 w2 : WF} {t : WT} {pos : Pos}
def wIfF (t : WT) (w1 w2 : WF) : WF := fun ρ n P => t ρ n fun c n1 => if c = true then w1 ρ n1 P else w2 ρ n1 P
theorem df_if (hc : DT X b e1 t) (ha : DF X b e2 w1) (hb : DF X b e3 w2) : DF X b (.IfExp e1 e2 e3 pos) (wIfF t w1 w2) := pe_weak (pe_ifExp hc ha hb) fun σ H Q ⟨U, ρ, n, P, hr, hw, k⟩ =>
  ⟨U, ρ, n, _, hr, hw, fun c n1 U1 H1 p1 g1 => by
    cases c with
    | true => exact ⟨U1, ρ, n1, P, hr.grow g1, p1, fun ds n' U' H' l vs p g h0 h1 h2 h3 => k ds n' U' H' l vs p (g1.trans g) (g1.fresh h0) h1 h2 h3⟩
    | false => exact ⟨U1, ρ, n1, P, hr.grow g1, p1, fun ds n' U' H' l vs p g h0 h1 h2 h3 => k ds n' U' H' l vs p (g1.trans g) (g1.fresh h0) h1 h2 h3⟩⟩
end
end DL
/-! Data-level layer, 18: facts about parts and numbers. -/
namespace DL
open PySem PySem.Spec L2 PyProof.Rows
theorem sIx_nat {n d k : Nat} (h : k ≤ n) : HT.sIx n d (some (k : Int)) = k := by
  unfold HT.sIx
  simp only
  split <;> omega
theorem sIx_cap {n d k : Nat} (h : n ≤ k) : HT.sIx n d (some (k : Int)) = n := by
  unfold HT.sIx
  simp only
  split <;> omega
theorem cut_from {α : Type} {xs : List α} {i : Int} {k : Nat} (e : i = k) : cutD xs (some i) none = xs.drop k := by
  subst e
  unfold cutD
  by_cases h : k ≤ xs.length
  · rw [sIx_nat h]
    exact List.take_of_length_le (by rw [List.length_drop]; exact Nat.le_refl _)
  · rw [sIx_cap (by omega), List.drop_of_length_le (Nat.le_refl _), List.drop_of_length_le (by omega)]
    simp
theorem cut_to {α : Type} {xs : List α} {i : Int} {k : Nat} (e : i = k) : cutD xs none (some i) = xs.take k := by
  subst e
  unfold cutD
  have z : HT.sIx xs.length 0 none = 0 := rfl
  rw [z, List.drop_zero, Nat.sub_zero]
  by_cases h : k ≤ xs.length
  · rw [sIx_nat h]
  · rw [sIx_cap (by omega), List.take_of_length_le (Nat.le_refl _), List.take_of_length_le (by omega)]
theorem cut_mid {α : Type} {xs : List α} {i j : Int} {a c : Nat} (e : i = a) (e' : j = c) (h : a ≤ c) (h' : c ≤ xs.length) : cutD xs (some i) (some j) = (xs.drop a).take (c - a) := by
  subst e e'
  unfold cutD
  have e1 : HT.sIx xs.length 0 (some (a : Int)) = a := sIx_nat (by omega)
  have e2 : HT.sIx xs.length xs.length (some (c : Int)) = c := sIx_nat h'
  rw [e1, e2]
theorem mod2_eq {a b : Nat} : decide ((a : Int) % 2 = (b : Int) % 2) = decide (a % 2 = b % 2) := by
  by_cases h : a % 2 = b % 2
  · rw [decide_eq_true h, decide_eq_true (by omega)]
  · rw [decide_eq_false h, decide_eq_false (by omega)]
theorem min_nat {a b : Nat} : (if (b : Int) < a then (b : Int) else a) = ((min a b : Nat) : Int) := by
  split <;> omega
theorem natCast_eq {a b : Nat} : decide ((a : Int) = b) = decide (a = b) := by
  by_cases h : a = b
  · rw [decide_eq_true h, decide_eq_true (by omega)]
  · rw [decide_eq_false h, decide_eq_false (by omega)]
/-! ### readings that wait for what a thing is -/
section
variable {ds : List D} {n : Nat} {P : D → Nat → Prop} {i : Int} {d : D}
theorem dLen_lst : dLen [.lst ds] n P = P (.int (ds.length : Nat)) n := rfl
theorem dLen_tup : dLen [.tup ds] n P = P (.int (ds.length : Nat)) n := rfl
theorem dLen_scr {ns : List Int} : dLen [.scr ns] n P = P (.int (ns.length : Nat)) n := rfl
theorem dLen_dic {kvs : List (Key × D)} : dLen [.dic kvs] n P = P (.int (kvs.length : Nat)) n := rfl
theorem len_seq (h : SeqD d ds) : dLen [d] n P = P (.int (ds.length : Nat)) n := by rcases h with rfl | rfl <;> rfl
def optD (o : Option D) (f : D → Prop) : Prop := match o with
  | some d => f d
  | none => False
theorem optD_some {v : D} {f : D → Prop} : optD (some v) f = f v := rfl
theorem dIx_lst : dIx (.lst ds) (.int i) n P = optD (atI ds i) fun v => P v n := by
  show (match atI ds i with | some d => P d n | none => False) = _
  cases atI ds i <;> rfl
theorem dIx_tup : dIx (.tup ds) (.int i) n P = optD (atI ds i) fun v => P v n := by
  show (match atI ds i with | some d => P d n | none => False) = _
  cases atI ds i <;> rfl
theorem dIx_seq (h : SeqD d ds) : dIx d (.int i) n P = optD (atI ds i) fun v => P v n := by
  rcases h with rfl | rfl
  · exact dIx_lst
  · exact dIx_tup
def itD (d : D) (f : List D → Prop) : Prop := match d with
  | .lst ds => f ds
  | .tup ds => f ds
  | _ => False
theorem itD_lst {f : List D → Prop} : itD (.lst ds) f = f ds := rfl
theorem itD_tup {f : List D → Prop} : itD (.tup ds) f = f ds := rfl
theorem itD_seq {f : List D → Prop} (h : SeqD d ds) : itD d f = f ds := by rcases h with rfl | rfl <;> rfl
theorem wIt_s {w : WE} {ρ : REnv} {Q : List D → Nat → Prop} : wIt w ρ n Q = w ρ n fun d n1 => itD d fun ds => Q ds n1 := by
  unfold wIt
  congr 1
theorem dList_lst {Q : List D → Nat → Prop} : dList [.lst ds] n Q = Q ds n := rfl
theorem dList_tup {Q : List D → Nat → Prop} : dList [.tup ds] n Q = Q ds n := rfl
theorem dList_seq {Q : List D → Nat → Prop} (h : SeqD d ds) : dList [d] n Q = Q ds n := by rcases h with rfl | rfl <;> rfl
theorem dTup_lst : dTuple [.lst ds] n P = P (.tup ds) n := rfl
theorem dTup_tup : dTuple [.tup ds] n P = P (.tup ds) n := rfl
theorem dTup_seq (h : SeqD d ds) : dTuple [d] n P = P (.tup ds) n := by rcases h with rfl | rfl <;> rfl
end
end DL
namespace Mine
open PySem PySem.Spec L2 PyProof.Rows DL
def top (i : Nat) : Stmt := PySem.Challenge.pw_thingsclear_k64_whole_many_groups.main.body.getD i (.Pass ⟨0, 0, 0, 0⟩)
abbrev s__law_box : Stmt := top 24
abbrev s__law_take : Stmt := top 25
abbrev s__law_mixed : Stmt := top 26
abbrev s__law_planted : Stmt := top 35
abbrev s_is_whole : Stmt := top 7
abbrev s_is_group : Stmt := top 14
abbrev s_check_groups : Stmt := top 15
abbrev s_are_apart_or_within : Stmt := top 10
abbrev s_crossing : Stmt := top 16
abbrev s_levels_of : Stmt := top 17
abbrev s_ring_of : Stmt := top 18
abbrev s_two_hierarchies : Stmt := top 20
abbrev s_odd_ring : Stmt := top 19
abbrev s__law_asked : Stmt := top 33
abbrev s__law_cell : Stmt := top 23
abbrev s__law_cross : Stmt := top 29
abbrev s__law_whole : Stmt := top 27
abbrev s__law_is_ring : Stmt := top 32
abbrev s__law_is : Stmt := top 28
abbrev s_is_odd_ring : Stmt := top 21
abbrev s__law_ring_right : Stmt := top 34
abbrev s__law_sides_right : Stmt := top 31
abbrev s__law_stretches : Stmt := top 30
abbrev s__law_hierarchies_right : Stmt := top 36
abbrev s_law : Stmt := top 37
structure Top (K : PySem.W.Frag) (mg : Str → Option Value) where
  f__law_box : Fn1 K mg "_law_box" "_law_box" s__law_box ["great"]
  f__law_take : Fn1 K mg "_law_take" "_law_take" s__law_take ["box", "many"]
  f__law_mixed : Fn1 K mg "_law_mixed" "_law_mixed" s__law_mixed ["box", "items"]
  f__law_planted : Fn1 K mg "_law_planted" "_law_planted" s__law_planted ["box", "odd"]
  f_is_whole : Fn1 K mg "is_whole" "is_whole" s_is_whole ["value"]
  f_is_group : Fn1 K mg "is_group" "is_group" s_is_group ["value"]
  f_check_groups : Fn1 K mg "check_groups" "check_groups" s_check_groups ["groups"]
  f_are_apart_or_within : Fn1 K mg "are_apart_or_within" "are_apart_or_within" s_are_apart_or_within ["one", "other"]
  f_crossing : Fn1 K mg "crossing" "crossing" s_crossing ["groups", "one"]
  f_levels_of : Fn1 K mg "levels_of" "levels_of" s_levels_of ["groups"]
  f_ring_of : Fn1 K mg "ring_of" "ring_of" s_ring_of ["groups"]
  f_two_hierarchies : Fn1 K mg "two_hierarchies" "two_hierarchies" s_two_hierarchies ["groups"]
  f_odd_ring : Fn1 K mg "odd_ring" "odd_ring" s_odd_ring ["groups"]
  f__law_asked : Fn1 K mg "_law_asked" "_law_asked" s__law_asked ["groups", "by_name"]
  f__law_cell : Fn1 K mg "_law_cell" "_law_cell" s__law_cell ["script", "k"]
  f__law_cross : Fn1 K mg "_law_cross" "_law_cross" s__law_cross ["one", "other"]
  f__law_whole : Fn1 K mg "_law_whole" "_law_whole" s__law_whole ["value"]
  f__law_is_ring : Fn1 K mg "_law_is_ring" "_law_is_ring" s__law_is_ring ["value", "groups"]
  f__law_is : Fn1 K mg "_law_is" "_law_is" s__law_is ["given", "due"]
  f_is_odd_ring : Fn1 K mg "is_odd_ring" "is_odd_ring" s_is_odd_ring ["groups", "value"]
  f__law_ring_right : Fn1 K mg "_law_ring_right" "_law_ring_right" s__law_ring_right ["box", "groups", "ring", "by_name"]
  f__law_sides_right : Fn1 K mg "_law_sides_right" "_law_sides_right" s__law_sides_right ["given", "groups"]
  f__law_stretches : Fn1 K mg "_law_stretches" "_law_stretches" s__law_stretches ["box", "members", "many"]
  f__law_hierarchies_right : Fn1 K mg "_law_hierarchies_right" "_law_hierarchies_right" s__law_hierarchies_right ["box", "by_name"]
  f_law : Fn1 K mg "law" "law" s_law ["script"]
  n_abs : mg "abs" = none
  n_all : mg "all" = none
  n_bool : mg "bool" = none
  t_MOST_GROUPS : Tok
  c_MOST_GROUPS : mg "MOST_GROUPS" = some (.int 20 t_MOST_GROUPS)
  t_MOST_MEMBER : Tok
  c_MOST_MEMBER : mg "MOST_MEMBER" = some (.int 35 t_MOST_MEMBER)
  n_int : mg "int" = none
  n_isinstance : mg "isinstance" = none
  n_len : mg "len" = none
  n_list : mg "list" = none
  n_max : mg "max" = none
  n_min : mg "min" = none
  n_range : mg "range" = none
  n_set : mg "set" = none
  n_sorted : mg "sorted" = none
  n_str : mg "str" = none
  n_sum : mg "sum" = none
  n_tuple : mg "tuple" = none
theorem sc__law_box : FnScope ["great"] ["great"] (defScope s__law_box) := ⟨rfl, rfl, rfl, by decide +kernel, rfl, by decide +kernel, by decide +kernel⟩
theorem sc__law_take : FnScope ["box", "many", "digit", "mixed"] ["box", "many"] (defScope s__law_take) := ⟨rfl, rfl, rfl, by decide +kernel, rfl, by decide +kernel, by decide +kernel⟩
theorem sc__law_mixed : FnScope ["box", "items", "left", "found", "k"] ["box", "items"] (defScope s__law_mixed) := ⟨rfl, rfl, rfl, by decide +kernel, rfl, by decide +kernel, by decide +kernel⟩
theorem sc__law_planted : FnScope ["box", "odd", "size", "names", "ring", "rest", "more", "groups", "order", "k"] ["box", "odd"] (defScope s__law_planted) := ⟨rfl, rfl, rfl, by decide +kernel, rfl, by decide +kernel, by decide +kernel⟩
theorem sc_is_whole : FnScope ["value"] ["value"] (defScope s_is_whole) := ⟨rfl, rfl, rfl, by decide +kernel, rfl, by decide +kernel, by decide +kernel⟩
theorem sc_is_group : FnScope ["value", "member", "at"] ["value"] (defScope s_is_group) := ⟨rfl, rfl, rfl, by decide +kernel, rfl, by decide +kernel, by decide +kernel⟩
theorem sc_check_groups : FnScope ["groups", "group"] ["groups"] (defScope s_check_groups) := ⟨rfl, rfl, rfl, by decide +kernel, rfl, by decide +kernel, by decide +kernel⟩
theorem sc_are_apart_or_within : FnScope ["one", "other", "shared", "item"] ["one", "other"] (defScope s_are_apart_or_within) := ⟨rfl, rfl, rfl, by decide +kernel, rfl, by decide +kernel, by decide +kernel⟩
theorem sc_crossing : FnScope ["groups", "one", "other"] ["groups", "one"] (defScope s_crossing) := ⟨rfl, rfl, rfl, by decide +kernel, rfl, by decide +kernel, by decide +kernel⟩
theorem sc_levels_of : FnScope ["groups", "found", "start", "queue", "here", "new", "other"] ["groups"] (defScope s_levels_of) := ⟨rfl, rfl, rfl, by decide +kernel, rfl, by decide +kernel, by decide +kernel⟩
theorem sc_ring_of : FnScope ["groups", "ways", "one", "other", "first", "second", "same", "at"] ["groups"] (defScope s_ring_of) := ⟨rfl, rfl, rfl, by decide +kernel, rfl, by decide +kernel, by decide +kernel⟩
theorem sc_two_hierarchies : FnScope ["groups", "ways", "first", "at"] ["groups"] (defScope s_two_hierarchies) := ⟨rfl, rfl, rfl, by decide +kernel, rfl, by decide +kernel, by decide +kernel⟩
theorem sc_odd_ring : FnScope ["groups"] ["groups"] (defScope s_odd_ring) := ⟨rfl, rfl, rfl, by decide +kernel, rfl, by decide +kernel, by decide +kernel⟩
theorem sc__law_asked : FnScope ["groups", "by_name"] ["groups", "by_name"] (defScope s__law_asked) := ⟨rfl, rfl, rfl, by decide +kernel, rfl, by decide +kernel, by decide +kernel⟩
theorem sc__law_cell : FnScope ["script", "k"] ["script", "k"] (defScope s__law_cell) := ⟨rfl, rfl, rfl, by decide +kernel, rfl, by decide +kernel, by decide +kernel⟩
theorem sc__law_cross : FnScope ["one", "other", "both", "member"] ["one", "other"] (defScope s__law_cross) := ⟨rfl, rfl, rfl, by decide +kernel, rfl, by decide +kernel, by decide +kernel⟩
theorem sc__law_whole : FnScope ["value"] ["value"] (defScope s__law_whole) := ⟨rfl, rfl, rfl, by decide +kernel, rfl, by decide +kernel, by decide +kernel⟩
theorem sc__law_is_ring : FnScope ["value", "groups", "item", "k"] ["value", "groups"] (defScope s__law_is_ring) := ⟨rfl, rfl, rfl, by decide +kernel, rfl, by decide +kernel, by decide +kernel⟩
theorem sc__law_is : FnScope ["given", "due", "k"] ["given", "due"] (defScope s__law_is) := ⟨rfl, rfl, rfl, by decide +kernel, rfl, by decide +kernel, by decide +kernel⟩
theorem sc_is_odd_ring : FnScope ["groups", "value", "index", "at"] ["groups", "value"] (defScope s_is_odd_ring) := ⟨rfl, rfl, rfl, by decide +kernel, rfl, by decide +kernel, by decide +kernel⟩
theorem sc__law_ring_right : FnScope ["box", "groups", "ring", "by_name", "sides", "told", "shift", "many", "turned", "some", "value"] ["box", "groups", "ring", "by_name"] (defScope s__law_ring_right) := ⟨rfl, rfl, rfl, by decide +kernel, rfl, by decide +kernel, by decide +kernel⟩
theorem sc__law_sides_right : FnScope ["given", "groups", "side", "one", "item", "other"] ["given", "groups"] (defScope s__law_sides_right) := ⟨rfl, rfl, rfl, by decide +kernel, rfl, by decide +kernel, by decide +kernel⟩
theorem sc__law_stretches : FnScope ["box", "members", "many", "found", "waits", "a", "b", "cut"] ["box", "members", "many"] (defScope s__law_stretches) := ⟨rfl, rfl, rfl, by decide +kernel, rfl, by decide +kernel, by decide +kernel⟩
theorem sc__law_hierarchies_right : FnScope ["box", "by_name", "names", "other", "many", "groups", "sides", "told", "anew", "turned", "group", "member"] ["box", "by_name"] (defScope s__law_hierarchies_right) := ⟨rfl, rfl, rfl, by decide +kernel, rfl, by decide +kernel, by decide +kernel⟩
theorem sc_law : FnScope ["script", "k", "box", "by_name", "groups", "ring", "rest", "sides", "told", "group"] ["script"] (defScope s_law) := ⟨rfl, rfl, rfl, by decide +kernel, rfl, by decide +kernel, by decide +kernel⟩
section
variable {P : Program} {w : World} {K : PySem.W.Frag} {base : Heap} {mg : Str → Option Value}
def isInt : D → Bool
  | .int _ => true
  | _ => false
def F_is_whole : FD := fun xs n P => ∃ d, xs = [d] ∧ (tyD d).isSome = true ∧ P (.bl (isInt d)) n
theorem ok_is_whole (T : Top K mg) : FnOk P w K mg base CX0 1 T.f_is_whole.a T.f_is_whole.fd ["value"] (spD K F_is_whole) := by
  refine dfun T.f_is_whole.F sc_is_whole ?_ (fun cdv A outer s H E b hr => (dss_one (ds_ret (de_and (de_isi .int T.n_isinstance T.n_int (DE.toB (dv 0))) (de_one (de_not (de_isi .bool T.n_isinstance T.n_bool (DE.toB (dv 0))))))))) ?_
  · rintro ds n Q ⟨d, rfl, h⟩
    rfl
  · rintro ds n Q ⟨d, rfl, hd, h⟩
    simp only [wRet, wAnd_s, wOr_s, bsel_bl, wIfF, keyD, DL.wNot, wUn, wOp, wC, wCF, wVar, wVarB, wK, wChain_s, wB, wAndT, wOrT, wNotT, wIf, wNil, wCons, wTup, wLst, wV, wO, wNext, wSeq, wNever, wBreak, wCont, wRetN, wDrop, wIfS, wAsg, wPar, wFree, freeD, wApp0, wApp, wCall, gN, gT, setD, wIt, wIt1, wIt2, wFor, wLc, wYes, wOf, wOfK, wOK, wDc, wRg1, wRg2, wONo, wOSo, wSlL, wSl, wRevL, wRevT, wDput, popK, wPopAsg, wPopTup, wAppPop, wExt, wCallN, pick, wStar, wUnpA, wIndex, wRep, wTupF, wStepT, wBoxIx_0, wBoxIx_1, wBoxIx_2, wBoxIx_3, wBoxTo, wBoxInc, wBoxOf, wNo, wSortedSet, wNewK, dI0, dI2, dAdd, dMul, dIx, dLen, dAbs, dInt, dIsi, dIsiT, dEq, dNe, dIn, dIsN, dNotN, dIsB, dMin2, dMax2, dList, dTuple, dDget, dDin, startD, wipeD, List.map_cons, List.map_nil, List.length_cons, List.length_nil, List.replicate_succ, List.replicate_zero, List.cons_append, List.nil_append, List.getElem?_cons_zero, List.getElem?_cons_succ, List.set_cons_zero, List.set_cons_succ, Nat.reduceAdd, Nat.reduceSub, if_true, Bool.false_eq_true, if_false, reduceIte, Option.isSome_some, Option.isSome_none, true_and, and_true, List.map_nil]
    cases d <;> first | exact ⟨rfl, rfl, h⟩ | exact ⟨rfl, h⟩ | cases hd
def F__law_whole : FD := F_is_whole
theorem ok__law_whole (T : Top K mg) : FnOk P w K mg base CX0 1 T.f__law_whole.a T.f__law_whole.fd ["value"] (spD K F__law_whole) := by
  refine dfun T.f__law_whole.F sc__law_whole ?_ (fun cdv A outer s H E b hr => (dss_one (ds_ret (de_and (de_isi .int T.n_isinstance T.n_int (DE.toB (dv 0))) (de_one (de_not (de_isi .bool T.n_isinstance T.n_bool (DE.toB (dv 0))))))))) ?_
  · rintro ds n Q ⟨d, rfl, h⟩
    rfl
  · rintro ds n Q ⟨d, rfl, hd, h⟩
    simp only [wRet, wAnd_s, wOr_s, bsel_bl, wIfF, keyD, DL.wNot, wUn, wOp, wC, wCF, wVar, wVarB, wK, wChain_s, wB, wAndT, wOrT, wNotT, wIf, wNil, wCons, wTup, wLst, wV, wO, wNext, wSeq, wNever, wBreak, wCont, wRetN, wDrop, wIfS, wAsg, wPar, wFree, freeD, wApp0, wApp, wCall, gN, gT, setD, wIt, wIt1, wIt2, wFor, wLc, wYes, wOf, wOfK, wOK, wDc, wRg1, wRg2, wONo, wOSo, wSlL, wSl, wRevL, wRevT, wDput, popK, wPopAsg, wPopTup, wAppPop, wExt, wCallN, pick, wStar, wUnpA, wIndex, wRep, wTupF, wStepT, wBoxIx_0, wBoxIx_1, wBoxIx_2, wBoxIx_3, wBoxTo, wBoxInc, wBoxOf, wNo, wSortedSet, wNewK, dI0, dI2, dAdd, dMul, dIx, dLen, dAbs, dInt, dIsi, dIsiT, dEq, dNe, dIn, dIsN, dNotN, dIsB, dMin2, dMax2, dList, dTuple, dDget, dDin, startD, wipeD, List.map_cons, List.map_nil, List.length_cons, List.length_nil, List.replicate_succ, List.replicate_zero, List.cons_append, List.nil_append, List.getElem?_cons_zero, List.getElem?_cons_succ, List.set_cons_zero, List.set_cons_succ, Nat.reduceAdd, Nat.reduceSub, if_true, Bool.false_eq_true, if_false, reduceIte, Option.isSome_some, Option.isSome_none, true_and, and_true, List.map_nil]
    cases d <;> first | exact ⟨rfl, rfl, h⟩ | exact ⟨rfl, h⟩ | cases hd
def F__law_take : FD := fun xs n P => ∃ m : Int, xs = [.box, .int m] ∧ 0 < m ∧ m < 1000000 ∧ 1 ≤ n ∧ ∀ d : Int, 0 ≤ d → d < m → ∀ n', n ≤ n' + 1 → n' ≤ n → P (.int d) n'
theorem ok__law_take (T : Top K mg) : FnOk P w K mg base CX0 1 T.f__law_take.a T.f__law_take.fd ["box", "many"] (spD K F__law_take) := by
  refine dfun T.f__law_take.F sc__law_take ?_ (fun cdv A outer s H E b hr => (dss_cons (ds_if (dt_pw (dw_and (dt_val (de_boxIx 0)) (dw_and1 (dt_cmp op_gt sd_cmp (DE.toB (de_boxIx 0)) (DE.toB de_int) (nomark _))))) (dss_cons (ds_asg (i := 2) sc__law_take.nd (DE.toX (de_op op_mod (sdI fun _ _ _ _ => .int _) (DE.toB (de_callTy call_int1 sd_int (by rfl) T.n_int (by decide +kernel) (dab_cons (DE.toB (de_boxIx 0)) dab_nil))) (DE.toB (dv 1))))) (dss_cons (ds_boxTo 0 (de_op op_fdivW (sdI fun _ _ _ _ => .int _) (DE.toB (de_boxIx 0)) (DE.toB (dv 1)))) (dss_one (ds_ret (dv 2))))) dss_nil) (dss_cons (ds_boxInc 0) (dss_cons (ds_asg (i := 3) sc__law_take.nd (DE.toX (de_op op_mod (sdI fun _ _ _ _ => .int _) (DE.toB (de_callTy call_int1 sd_int (by rfl) T.n_int (by decide +kernel) (dab_cons (DE.toB (de_op op_pow (sdI fun _ _ _ _ => .int _) (DE.toB (de_op op_addAll sd_add (DE.toB (de_op op_addAll sd_add (DE.toB (de_boxIx 0)) (DE.toB (de_op op_mulAll sd_mul (DE.toB de_int) (DE.toB (de_boxIx 0)))))) (DE.toB de_int))) (DE.toB de_int))) dab_nil))) (DE.toB de_int)))) (dss_one (ds_ret (de_op op_mod (sdI fun _ _ _ _ => .int _) (DE.toB (de_callTy call_int1 sd_int (by rfl) T.n_int (by decide +kernel) (dab_cons (DE.toB (de_op op_fdivW (sdI fun _ _ _ _ => .int _) (DE.toB (de_op op_mod (sdI fun _ _ _ _ => .int _) (DE.toB (de_callTy call_int1 sd_int (by rfl) T.n_int (by decide +kernel) (dab_cons (DE.toB (de_op op_pow (sdI fun _ _ _ _ => .int _) (DE.toB (de_op op_addAll sd_add (DE.toB (de_op op_mulAll sd_mul (DE.toB (dv 3)) (DE.toB de_int))) (DE.toB (de_op op_mulAll sd_mul (DE.toB de_int) (DE.toB (de_boxIx 0)))))) (DE.toB de_int))) dab_nil))) (DE.toB de_int))) (DE.toB de_int))) dab_nil))) (DE.toB (dv 1))))))))) ?_
  · rintro ds n Q ⟨d, rfl, h⟩
    rfl
  · rintro ds n Q ⟨m, rfl, h1, h2, h3, h⟩
    simp only [wRet, wAnd_s, wOr_s, bsel_bl, wIfF, keyD, DL.wNot, wUn, wOp, wC, wCF, wVar, wVarB, wK, wChain_s, wB, wAndT, wOrT, wNotT, wIf, wNil, wCons, wTup, wLst, wV, wO, wNext, wSeq, wNever, wBreak, wCont, wRetN, wDrop, wIfS, wAsg, wPar, wFree, freeD, wApp0, wApp, wCall, gN, gT, setD, wIt, wIt1, wIt2, wFor, wLc, wYes, wOf, wOfK, wOK, wDc, wRg1, wRg2, wONo, wOSo, wSlL, wSl, wRevL, wRevT, wDput, popK, wPopAsg, wPopTup, wAppPop, wExt, wCallN, pick, wStar, wUnpA, wIndex, wRep, wTupF, wStepT, wBoxIx_0, wBoxIx_1, wBoxIx_2, wBoxIx_3, wBoxTo, wBoxInc, wBoxOf, wNo, wSortedSet, wNewK, dI0, dI2, dAdd, dMul, dIx, dLen, dAbs, dInt, dIsi, dIsiT, dEq, dNe, dIn, dIsN, dNotN, dIsB, dMin2, dMax2, dList, dTuple, dDget, dDin, startD, wipeD, List.map_cons, List.map_nil, List.length_cons, List.length_nil, List.replicate_succ, List.replicate_zero, List.cons_append, List.nil_append, List.getElem?_cons_zero, List.getElem?_cons_succ, List.set_cons_zero, List.set_cons_succ, Nat.reduceAdd, Nat.reduceSub, if_true, Bool.false_eq_true, if_false, reduceIte, Option.isSome_some, Option.isSome_none, true_and, and_true, List.map_nil]
    have two : ∀ (Z : Int), Q (.int (Z % m)) (n - 1) := fun Z => h _ (Int.emod_nonneg _ (by omega)) (Int.emod_lt_of_pos _ h1) _ (by omega) (by omega)
    have hl : lineB = 68719476736 := rfl
    simp only [hl]
    have mo : ∀ X : Int, 0 ≤ X % 2147483647 ∧ X % 2147483647 < 2147483647 := fun X => ⟨Int.emod_nonneg _ (by omega), Int.emod_lt_of_pos _ (by omega)⟩
    intro b
    split
    · intro g hg
      split
      · exact fun g2 hg2 => ⟨h1, fun g3 hg3 => ⟨divW_ok h1 (by omega), Int.ediv_nonneg hg3 (by omega), h _ (Int.emod_nonneg _ (by omega)) (Int.emod_lt_of_pos _ h1) n (by omega) (by omega)⟩⟩
      · refine ⟨h3, fun A hA hA2 c hc hc2 => ⟨mulW_ok (by omega) (by omega), pow_ok 5 (by omega) (by omega) (by omega) (by omega), by omega, ?_⟩⟩
        obtain ⟨z0, z1⟩ := mo ((A + 15487161 * c + 179426175) ^ Int.toNat 5)
        generalize (A + 15487161 * c + 179426175) ^ Int.toNat 5 % 2147483647 = z at z0 z1 ⊢
        exact ⟨mulW_ok (by omega) (by omega), fun c1 hc1 hc12 => ⟨mulW_ok (by omega) (by omega), pow_ok 3 (by omega) (by omega) (by omega) (by omega), by omega, divW_ok (by omega) (by omega), h1, two _⟩⟩
    · refine ⟨h3, fun A hA hA2 c hc hc2 => ⟨mulW_ok (by omega) (by omega), pow_ok 5 (by omega) (by omega) (by omega) (by omega), by omega, ?_⟩⟩
      obtain ⟨z0, z1⟩ := mo ((A + 15487161 * c + 179426175) ^ Int.toNat 5)
      generalize (A + 15487161 * c + 179426175) ^ Int.toNat 5 % 2147483647 = z at z0 z1 ⊢
      exact ⟨mulW_ok (by omega) (by omega), fun c1 hc1 hc12 => ⟨mulW_ok (by omega) (by omega), pow_ok 3 (by omega) (by omega) (by omega) (by omega), by omega, divW_ok (by omega) (by omega), h1, two _⟩⟩
def F__law_box : FD := fun xs n P => ∃ m : Int, xs = [.int m] ∧ n ≤ lineB ∧ P .box n
theorem ok__law_box (T : Top K mg) : FnOk P w K mg base CX0 1 T.f__law_box.a T.f__law_box.fd ["great"] (spD K F__law_box) := by
  refine dfun T.f__law_box.F sc__law_box ?_ (fun cdv A outer s H E b hr => (dss_one (ds_ret (de_boxOf (df_lst (da_cons (de_callB call_abs sd_abs (by rfl) T.n_abs (by decide +kernel) (dab_cons (DE.toB (dv 0)) dab_nil)) (da_cons (de_cmp op_ge sd_cmp (DE.toB (de_callB call_abs sd_abs (by rfl) T.n_abs (by decide +kernel) (dab_cons (DE.toB (dv 0)) dab_nil))) (DE.toB (de_op op_pow (sdI fun _ _ _ _ => .int _) (DE.toB de_int) (DE.toB de_int))) (nomark _)) (da_cons (de_op op_mod (sdI fun _ _ _ _ => .int _) (DE.toB (de_callTy call_int1 sd_int (by rfl) T.n_int (by decide +kernel) (dab_cons (DE.toB (de_callB call_abs sd_abs (by rfl) T.n_abs (by decide +kernel) (dab_cons (DE.toB (dv 0)) dab_nil))) dab_nil))) (DE.toB de_int)) (da_cons de_int da_nil))))))))) ?_
  · rintro ds n Q ⟨d, rfl, h⟩
    rfl
  · rintro ds n Q ⟨m, rfl, h1, h⟩
    simp only [wRet, wAnd_s, wOr_s, bsel_bl, wIfF, keyD, DL.wNot, wUn, wOp, wC, wCF, wVar, wVarB, wK, wChain_s, wB, wAndT, wOrT, wNotT, wIf, wNil, wCons, wTup, wLst, wV, wO, wNext, wSeq, wNever, wBreak, wCont, wRetN, wDrop, wIfS, wAsg, wPar, wFree, freeD, wApp0, wApp, wCall, gN, gT, setD, wIt, wIt1, wIt2, wFor, wLc, wYes, wOf, wOfK, wOK, wDc, wRg1, wRg2, wONo, wOSo, wSlL, wSl, wRevL, wRevT, wDput, popK, wPopAsg, wPopTup, wAppPop, wExt, wCallN, pick, wStar, wUnpA, wIndex, wRep, wTupF, wStepT, wBoxIx_0, wBoxIx_1, wBoxIx_2, wBoxIx_3, wBoxTo, wBoxInc, wBoxOf, wNo, wSortedSet, wNewK, dI0, dI2, dAdd, dMul, dIx, dLen, dAbs, dInt, dIsi, dIsiT, dEq, dNe, dIn, dIsN, dNotN, dIsB, dMin2, dMax2, dList, dTuple, dDget, dDin, startD, wipeD, List.map_cons, List.map_nil, List.length_cons, List.length_nil, List.replicate_succ, List.replicate_zero, List.cons_append, List.nil_append, List.getElem?_cons_zero, List.getElem?_cons_succ, List.set_cons_zero, List.set_cons_succ, Nat.reduceAdd, Nat.reduceSub, if_true, Bool.false_eq_true, if_false, reduceIte, Option.isSome_some, Option.isSome_none, true_and, and_true, List.map_nil]
    refine ⟨pow_ok 18 (by omega) (by omega) (by omega) (by omega), by omega, by omega, ⟨trivial, trivial, trivial, trivial, trivial⟩, _, _, _, rfl, ?_, Int.emod_nonneg _ (by omega), Int.lt_trans (Int.emod_lt_of_pos _ (by omega)) (by omega), h1, h⟩
    split <;> omega
def F__law_cell : FD := fun xs n P => ∃ (d : List Int) (k : Nat), xs = [.scr d, .int (k : Int)] ∧ d.length ≤ 63 ∧ k < 64 ∧ ∀ z : Int, P (.int z) n
theorem ok__law_cell (T : Top K mg) : FnOk P w K mg base CX0 1 T.f__law_cell.a T.f__law_cell.fd ["script", "k"] (spD K F__law_cell) := by
  refine dfun T.f__law_cell.F sc__law_cell ?_ (fun cdv A outer s H E b hr => (dss_one (ds_ret (de_if (dt_cmp op_lt sd_cmp (DE.toB (dv 1)) (DE.toB (de_callB cr_lenAll sd_len (by rfl) T.n_len (by decide +kernel) (dab_cons (DE.toB (dv 0)) dab_nil))) (nomark _)) (de_ix ix_seq sd_ix (DE.toB (dv 0)) (DE.toB (dv 1)) (fun _ _ => rfl)) (de_op op_addAll sd_add (DE.toB (de_op op_mulAll sd_mul (DE.toB de_int) (DE.toB (dv 1)))) (DE.toB (de_op op_mod (sdI fun _ _ _ _ => .int _) (DE.toB (de_callTy call_int1 sd_int (by rfl) T.n_int (by decide +kernel) (dab_cons (DE.toB (de_callB (cr_sum rfl) sd_sum (by rfl) T.n_sum (by decide +kernel) (dab_cons (DE.toB (de_sl (DE.toB (dv 0)) do_no (do_so de_int))) dab_nil))) dab_nil))) (DE.toB de_int)))))))) ?_
  · rintro ds n Q ⟨d, k, rfl, h⟩
    rfl
  · rintro ds n Q ⟨d, k, rfl, hd, hk, h⟩
    simp only [wRet, wAnd_s, wOr_s, bsel_bl, wIfF, keyD, DL.wNot, wUn, wOp, wC, wCF, wVar, wVarB, wK, wChain_s, wB, wAndT, wOrT, wNotT, wIf, wNil, wCons, wTup, wLst, wV, wO, wNext, wSeq, wNever, wBreak, wCont, wRetN, wDrop, wIfS, wAsg, wPar, wFree, freeD, wApp0, wApp, wCall, gN, gT, setD, wIt, wIt1, wIt2, wFor, wLc, wYes, wOf, wOfK, wOK, wDc, wRg1, wRg2, wONo, wOSo, wSlL, wSl, wRevL, wRevT, wDput, popK, wPopAsg, wPopTup, wAppPop, wExt, wCallN, pick, wStar, wUnpA, wIndex, wRep, wTupF, wStepT, wBoxIx_0, wBoxIx_1, wBoxIx_2, wBoxIx_3, wBoxTo, wBoxInc, wBoxOf, wNo, wSortedSet, wNewK, dI0, dI2, dAdd, dMul, dIx, dLen, dAbs, dInt, dIsi, dIsiT, dEq, dNe, dIn, dIsN, dNotN, dIsB, dMin2, dMax2, dList, dTuple, dDget, dDin, startD, wipeD, List.map_cons, List.map_nil, List.length_cons, List.length_nil, List.replicate_succ, List.replicate_zero, List.cons_append, List.nil_append, List.getElem?_cons_zero, List.getElem?_cons_succ, List.set_cons_zero, List.set_cons_succ, Nat.reduceAdd, Nat.reduceSub, if_true, Bool.false_eq_true, if_false, reduceIte, Option.isSome_some, Option.isSome_none, true_and, and_true, List.map_nil]
    split
    · rename_i c
      have c := of_decide_eq_true c
      rw [atI_lt (j := k) rfl (by omega)]
      exact h _
    · exact ⟨mulW_ok (by omega) (by omega), _, _, rfl, .inl rfl, by omega, h _⟩
def F__law_is : FD := fun xs n P => ∃ a b : Bool, xs = [.bl a, .bl b] ∧ P (.bl (decide (a = b))) n
theorem ok__law_is (T : Top K mg) : FnOk P w K mg base CX0 2 T.f__law_is.a T.f__law_is.fd ["given", "due"] (spD K F__law_is) := by
  refine dfun T.f__law_is.F sc__law_is ?_ (fun cdv A outer s H E b hr => (dss_cons (ds_if (dt_pw (dw_or (dt_cmp op_isN sd_isN (DE.toB (dv 1)) (DE.toB de_non) (nomark _)) (dw_or1 (dt_val (de_isi .bool T.n_isinstance T.n_bool (DE.toB (dv 1))))))) (dss_one (ds_ret (de_if (dt_cmp op_isN sd_isN (DE.toB (dv 1)) (DE.toB de_non) (nomark _)) (de_cmp op_isN sd_isN (DE.toB (dv 0)) (DE.toB de_non) (nomark _)) (de_and (de_isi .bool T.n_isinstance T.n_bool (DE.toB (dv 0))) (de_one (de_cmp (op_eqD hr.units) sd_eq (DE.toB (de_cmp op_isBl sd_isB (DE.toB (dv 0)) (DE.toB de_bl) (nomark _))) (DE.toB (de_cmp op_isBl sd_isB (DE.toB (dv 1)) (DE.toB de_bl) (nomark _))) (nomark _))))))) dss_nil) (dss_cons (ds_if (dt_val (de_isi .int T.n_isinstance T.n_int (DE.toB (dv 1)))) (dss_one (ds_ret (de_and (de_call (ok__law_whole T) (hr.mono (by decide)) T.f__law_whole.m T.f__law_whole.F.kp T.f__law_whole.b pass0 (da_cons (dv 0) da_nil)) (de_one (de_cmp (op_eqD hr.units) sd_eq (DE.toB (de_op op_sub (sdI0 fun _ _ _ _ => .int _) (DE.toB (de_callTy call_int1 sd_int (by rfl) T.n_int (by decide +kernel) (dab_cons (DE.toB (dv 0)) dab_nil))) (DE.toB (dv 1)))) (DE.toB de_int) (nomark _)))))) dss_nil) (dss_cons (ds_if (dt_val (de_isi .str T.n_isinstance T.n_str (DE.toB (dv 1)))) (dss_one (ds_ret (de_and (de_isi .str T.n_isinstance T.n_str (DE.toB (dv 0))) (de_and (de_cmp (op_eqD hr.units) sd_eq (DE.toB (de_callB cr_lenAll sd_len (by rfl) T.n_len (by decide +kernel) (dab_cons (DE.toB (dv 0)) dab_nil))) (DE.toB (de_callB cr_lenAll sd_len (by rfl) T.n_len (by decide +kernel) (dab_cons (DE.toB (dv 1)) dab_nil))) (nomark _)) (de_one (de_cmp (op_eqD hr.units) sd_eq (DE.toB (DF.toE (df_lc [("k", 2)] rfl sc__law_is.nd (di_range1 T.n_range (da_cons (de_callB cr_lenAll sd_len (by rfl) T.n_len (by decide +kernel) (dab_cons (DE.toB (dv 1)) dab_nil)) da_nil)) (by rfl) (fun _ _ _ _ _ => (dg_name 2 sc__law_is.nd)) (fun _ _ _ _ _ => (dts_one (dt_cmp (op_neD hr.units) sd_ne (DE.toB (de_sl (DE.toB (dv 0)) (do_so (dv 2)) (do_so (de_op op_addAll sd_add (DE.toB (dv 2)) (DE.toB de_int))))) (DE.toB (de_ix ix_seq sd_ix (DE.toB (dv 1)) (DE.toB (dv 2)) (fun _ _ => rfl))) (nomark _)))) (fun _ _ _ _ _ => (dv 2))))) (DE.toB (DF.toE (df_lst da_nil))) (nomark _))))))) dss_nil) (dss_cons (ds_if (dt_pw (dw_and (dt_val (de_isi .tuple T.n_isinstance T.n_tuple (DE.toB (dv 1)))) (dw_and (dt_cmp (op_eqD hr.units) sd_eq (DE.toB (de_callB cr_lenAll sd_len (by rfl) T.n_len (by decide +kernel) (dab_cons (DE.toB (dv 1)) dab_nil))) (DE.toB de_int) (nomark _)) (dw_and (dt_val (de_isi .str T.n_isinstance T.n_str (DE.toB (de_ix ix_seq sd_ix (DE.toB (dv 1)) (DE.toB de_int) (fun _ _ => rfl))))) (dw_and1 (dt_cmp (op_eqD hr.units) sd_eq (DE.toB (de_ix ix_seq sd_ix (DE.toB (dv 1)) (DE.toB de_int) (fun _ _ => rfl))) (DE.toB de_str) (nomark _))))))) (dss_cons (ds_if (dt_cmp (op_eqD hr.units) sd_eq (DE.toB (de_ix ix_seq sd_ix (DE.toB (dv 1)) (DE.toB de_int) (fun _ _ => rfl))) (DE.toB de_int) (nomark _)) (dss_one (ds_ret (de_and (de_call (ok__law_whole T) (hr.mono (by decide)) T.f__law_whole.m T.f__law_whole.F.kp T.f__law_whole.b pass0 (da_cons (dv 0) da_nil)) (de_one (de_cmp (op_eqD hr.units) sd_eq (DE.toB (de_op op_sub (sdI0 fun _ _ _ _ => .int _) (DE.toB (de_callTy call_int1 sd_int (by rfl) T.n_int (by decide +kernel) (dab_cons (DE.toB (dv 0)) dab_nil))) (DE.toB (de_ix ix_seq sd_ix (DE.toB (dv 1)) (DE.toB de_int) (fun _ _ => rfl))))) (DE.toB de_int) (nomark _)))))) dss_nil) (dss_one (ds_ret (de_and de_no (de_one de_no))))) dss_nil) (dss_cons (ds_if (dt_pw (dw_or (dt_not (dt_val (de_isiT T.n_isinstance (DE.toB (dv 1)) (.cons .list T.n_list rfl rfl (.cons .tuple T.n_tuple rfl rfl .nil))))) (dw_or (dt_cmp (op_neD hr.units) sd_ne (DE.toB (de_isi .list T.n_isinstance T.n_list (DE.toB (dv 0)))) (DE.toB (de_isi .list T.n_isinstance T.n_list (DE.toB (dv 1)))) (nomark _)) (dw_or1 (dt_cmp (op_neD hr.units) sd_ne (DE.toB (de_isi .tuple T.n_isinstance T.n_tuple (DE.toB (dv 0)))) (DE.toB (de_isi .tuple T.n_isinstance T.n_tuple (DE.toB (dv 1)))) (nomark _)))))) (dss_one (ds_ret de_bl)) dss_nil) (dss_one (ds_ret (de_and (de_cmp (op_eqD hr.units) sd_eq (DE.toB (de_callB cr_lenAll sd_len (by rfl) T.n_len (by decide +kernel) (dab_cons (DE.toB (dv 0)) dab_nil))) (DE.toB (de_callB cr_lenAll sd_len (by rfl) T.n_len (by decide +kernel) (dab_cons (DE.toB (dv 1)) dab_nil))) (nomark _)) (de_one (de_cmp (op_eqD hr.units) sd_eq (DE.toB (DF.toE (df_lc [("k", 2)] rfl sc__law_is.nd (di_range1 T.n_range (da_cons (de_callB cr_lenAll sd_len (by rfl) T.n_len (by decide +kernel) (dab_cons (DE.toB (dv 1)) dab_nil)) da_nil)) (by rfl) (fun _ _ _ _ _ => (dg_name 2 sc__law_is.nd)) (fun _ _ _ _ _ => (dts_one (dt_not (dt_val de_no)))) (fun _ _ _ _ _ => (dv 2))))) (DE.toB (DF.toE (df_lst da_nil))) (nomark _)))))))))))) ?_
  · rintro ds n Q ⟨d, k, rfl, h⟩
    rfl
  · rintro ds n Q ⟨a, b, rfl, h⟩
    simp only [wRet, wAnd_s, wOr_s, bsel_bl, wIfF, keyD, DL.wNot, wUn, wOp, wC, wCF, wVar, wVarB, wK, wChain_s, wB, wAndT, wOrT, wNotT, wIf, wNil, wCons, wTup, wLst, wV, wO, wNext, wSeq, wNever, wBreak, wCont, wRetN, wDrop, wIfS, wAsg, wPar, wFree, freeD, wApp0, wApp, wCall, gN, gT, setD, wIt, wIt1, wIt2, wFor, wLc, wYes, wOf, wOfK, wOK, wDc, wRg1, wRg2, wONo, wOSo, wSlL, wSl, wRevL, wRevT, wDput, popK, wPopAsg, wPopTup, wAppPop, wExt, wCallN, pick, wStar, wUnpA, wIndex, wRep, wTupF, wStepT, wBoxIx_0, wBoxIx_1, wBoxIx_2, wBoxIx_3, wBoxTo, wBoxInc, wBoxOf, wNo, wSortedSet, wNewK, dI0, dI2, dAdd, dMul, dIx, dLen, dAbs, dInt, dIsi, dIsiT, dEq, dNe, dIn, dIsN, dNotN, dIsB, dMin2, dMax2, dList, dTuple, dDget, dDin, startD, wipeD, List.map_cons, List.map_nil, List.length_cons, List.length_nil, List.replicate_succ, List.replicate_zero, List.cons_append, List.nil_append, List.getElem?_cons_zero, List.getElem?_cons_succ, List.set_cons_zero, List.set_cons_succ, Nat.reduceAdd, Nat.reduceSub, if_true, Bool.false_eq_true, if_false, reduceIte, Option.isSome_some, Option.isSome_none, true_and, and_true, List.map_nil]
    simp only [tyD, isD, Option.isSome_some, true_and, Bool.false_eq_true, if_false, if_true]
    simp only [DL.isNon, Bool.false_eq_true, if_false, okd_bl, true_and, eqd_bl]
    cases a <;> cases b <;> exact h
def apart (a b : List Int) : Bool :=
  let s := a.filter (fun x => decide (x ∈ b))
  s.isEmpty || decide (s.length = a.length) || decide (s.length = b.length)
def F_are_apart_or_within : FD := fun xs n P => ∃ a b : List Int, xs = [dI a, dI b] ∧ a.length ≤ 100000 ∧ P (.bl (apart a b)) n
theorem ok_are_apart_or_within (T : Top K mg) : FnOk P w K mg base CX0 1 T.f_are_apart_or_within.a T.f_are_apart_or_within.fd ["one", "other"] (spD K F_are_apart_or_within) := by
  refine dfun T.f_are_apart_or_within.F sc_are_apart_or_within ?_ (fun cdv A outer s H E b hr => (dss_cons (ds_setLcV (i := 2) [("item", 3)] rfl sc_are_apart_or_within.nd (di_seq (dv 0)) (by rfl) (fun _ _ _ _ _ => (dg_name 3 sc_are_apart_or_within.nd)) (fun _ _ _ _ _ => (dts_one (dt_cmp op_in_seq (sd_in false) (DE.toB (dv 3)) (DE.toB (dv 1)) (by rfl)))) (fun _ _ _ _ _ => (dv 3))) (dss_one (ds_ret (de_or (de_cmp (op_eqD hr.units) sd_eq (DE.toB (dv 2)) (DE.toB (DF.toE (df_lst da_nil))) (nomark _)) (de_or (de_cmp (op_eqD hr.units) sd_eq (DE.toB (de_callB cr_lenAll sd_len (by rfl) T.n_len (by decide +kernel) (dab_cons (DE.toB (dv 2)) dab_nil))) (DE.toB (de_callB cr_lenAll sd_len (by rfl) T.n_len (by decide +kernel) (dab_cons (DE.toB (dv 0)) dab_nil))) (nomark _)) (de_one (de_cmp (op_eqD hr.units) sd_eq (DE.toB (de_callB cr_lenAll sd_len (by rfl) T.n_len (by decide +kernel) (dab_cons (DE.toB (dv 2)) dab_nil))) (DE.toB (de_callB cr_lenAll sd_len (by rfl) T.n_len (by decide +kernel) (dab_cons (DE.toB (dv 1)) dab_nil))) (nomark _))))))))) ?_
  · rintro ds n Q ⟨a, b, rfl, _⟩
    rfl
  · rintro ds n Q ⟨a, b, rfl, ha, h⟩
    simp only [wRet, wAnd_s, wOr_s, bsel_bl, wIfF, keyD, DL.wNot, wUn, wOp, wC, wCF, wVar, wVarB, wK, wChain_s, wB, wAndT, wOrT, wNotT, wIf, wNil, wCons, wTup, wLst, wV, wO, wNext, wSeq, wNever, wBreak, wCont, wRetN, wDrop, wIfS, wAsg, wPar, wFree, freeD, wApp0, wApp, wCall, gN, gT, setD, wIt, wIt1, wIt2, wFor, wLc, wYes, wOf, wOfK, wOK, wDc, wRg1, wRg2, wONo, wOSo, wSlL, wSl, wRevL, wRevT, wDput, popK, wPopAsg, wPopTup, wAppPop, wExt, wCallN, pick, wStar, wUnpA, wIndex, wRep, wTupF, wStepT, wBoxIx_0, wBoxIx_1, wBoxIx_2, wBoxIx_3, wBoxTo, wBoxInc, wBoxOf, wNo, wSortedSet, wNewK, dI0, dI2, dAdd, dMul, dIx, dLen, dAbs, dInt, dIsi, dIsiT, dEq, dNe, dIn, dIsN, dNotN, dIsB, dMin2, dMax2, dList, dTuple, dDget, dDin, startD, wipeD, List.map_cons, List.map_nil, List.length_cons, List.length_nil, List.replicate_succ, List.replicate_zero, List.cons_append, List.nil_append, List.getElem?_cons_zero, List.getElem?_cons_succ, List.set_cons_zero, List.set_cons_succ, Nat.reduceAdd, Nat.reduceSub, if_true, Bool.false_eq_true, if_false, reduceIte, Option.isSome_some, Option.isSome_none, true_and, and_true, List.map_nil, dI]
    refine lcD_if D.int (fun x => decide (x ∈ b)) D.int (fun x hx A B hk k ea eb => ?_) (fun _ => trivial) (by omega) ?_
    · subst ea eb
      simp only [wRet, wAnd_s, wOr_s, bsel_bl, wIfF, keyD, DL.wNot, wUn, wOp, wC, wCF, wVar, wVarB, wK, wChain_s, wB, wAndT, wOrT, wNotT, wIf, wNil, wCons, wTup, wLst, wV, wO, wNext, wSeq, wNever, wBreak, wCont, wRetN, wDrop, wIfS, wAsg, wPar, wFree, freeD, wApp0, wApp, wCall, gN, gT, setD, wIt, wIt1, wIt2, wFor, wLc, wYes, wOf, wOfK, wOK, wDc, wRg1, wRg2, wONo, wOSo, wSlL, wSl, wRevL, wRevT, wDput, popK, wPopAsg, wPopTup, wAppPop, wExt, wCallN, pick, wStar, wUnpA, wIndex, wRep, wTupF, wStepT, wBoxIx_0, wBoxIx_1, wBoxIx_2, wBoxIx_3, wBoxTo, wBoxInc, wBoxOf, wNo, wSortedSet, wNewK, dI0, dI2, dAdd, dMul, dIx, dLen, dAbs, dInt, dIsi, dIsiT, dEq, dNe, dIn, dIsN, dNotN, dIsB, dMin2, dMax2, dList, dTuple, dDget, dDin, startD, wipeD, List.map_cons, List.map_nil, List.length_cons, List.length_nil, List.replicate_succ, List.replicate_zero, List.cons_append, List.nil_append, List.getElem?_cons_zero, List.getElem?_cons_succ, List.set_cons_zero, List.set_cons_succ, Nat.reduceAdd, Nat.reduceSub, if_true, Bool.false_eq_true, if_false, reduceIte, Option.isSome_some, Option.isSome_none, true_and, and_true, List.map_nil, inD_int]
      exact ⟨⟨rfl, flat_ints b⟩, hk⟩
    · simp only [List.length_map, eqd_lnil, eqd_int, okd_int, okd_lints, okd_lnil, nbs, true_and, List.isEmpty_map]
      refine ⟨by omega, ?_⟩
      unfold apart at h
      generalize a.filter (fun x => decide (x ∈ b)) = s at h ⊢
      simp only [Int.natCast_inj] at h ⊢
      cases h1 : s.isEmpty <;> cases h2 : decide (s.length = a.length) <;> simp only [h1, h2, Bool.or_true, Bool.true_or, Bool.false_or, if_true, Bool.false_eq_true, if_false] at h ⊢ <;> exact h
def lcross (a b : List Int) : Bool :=
  let s := a.filter (fun x => decide (x ∈ b))
  decide (0 < s.length) && decide (s.length < min a.length b.length)
def F__law_cross : FD := fun xs n P => ∃ a b : List Int, xs = [dI a, dI b] ∧ a.length ≤ 100000 ∧ P (.bl (lcross a b)) n
theorem ok__law_cross (T : Top K mg) : FnOk P w K mg base CX0 1 T.f__law_cross.a T.f__law_cross.fd ["one", "other"] (spD K F__law_cross) := by
  refine dfun T.f__law_cross.F sc__law_cross ?_ (fun cdv A outer s H E b hr => (dss_cons (ds_asg (i := 2) sc__law_cross.nd (DE.toX (de_callB cr_lenAll sd_len (by rfl) T.n_len (by decide +kernel) (dab_cons (DE.toB (DF.toE (df_lc [("member", 3)] rfl sc__law_cross.nd (di_seq (dv 0)) (by rfl) (fun _ _ _ _ _ => (dg_name 3 sc__law_cross.nd)) (fun _ _ _ _ _ => (dts_one (dt_cmp op_in_seq (sd_in false) (DE.toB (dv 3)) (DE.toB (dv 1)) (by rfl)))) (fun _ _ _ _ _ => (dv 3))))) dab_nil)))) (dss_one (ds_ret (de_chain op_lt sd_cmp op_lt sd_cmp (DE.toB de_int) (DE.toB (dv 2)) (DE.toB (de_callB (call_min2 rfl) sd_min2 (by rfl) T.n_min (by decide +kernel) (dab_cons (DE.toB (de_callB cr_lenAll sd_len (by rfl) T.n_len (by decide +kernel) (dab_cons (DE.toB (dv 0)) dab_nil))) (dab_cons (DE.toB (de_callB cr_lenAll sd_len (by rfl) T.n_len (by decide +kernel) (dab_cons (DE.toB (dv 1)) dab_nil))) dab_nil))))))))) ?_
  · rintro ds n Q ⟨a, b, rfl, _⟩
    rfl
  · rintro ds n Q ⟨a, b, rfl, ha, h⟩
    simp only [wRet, wAnd_s, wOr_s, bsel_bl, wIfF, keyD, DL.wNot, wUn, wOp, wC, wCF, wVar, wVarB, wK, wChain_s, wB, wAndT, wOrT, wNotT, wIf, wNil, wCons, wTup, wLst, wV, wO, wNext, wSeq, wNever, wBreak, wCont, wRetN, wDrop, wIfS, wAsg, wPar, wFree, freeD, wApp0, wApp, wCall, gN, gT, setD, wIt, wIt1, wIt2, wFor, wLc, wYes, wOf, wOfK, wOK, wDc, wRg1, wRg2, wONo, wOSo, wSlL, wSl, wRevL, wRevT, wDput, popK, wPopAsg, wPopTup, wAppPop, wExt, wCallN, pick, wStar, wUnpA, wIndex, wRep, wTupF, wStepT, wBoxIx_0, wBoxIx_1, wBoxIx_2, wBoxIx_3, wBoxTo, wBoxInc, wBoxOf, wNo, wSortedSet, wNewK, dI0, dI2, dAdd, dMul, dIx, dLen, dAbs, dInt, dIsi, dIsiT, dEq, dNe, dIn, dIsN, dNotN, dIsB, dMin2, dMax2, dList, dTuple, dDget, dDin, startD, wipeD, List.map_cons, List.map_nil, List.length_cons, List.length_nil, List.replicate_succ, List.replicate_zero, List.cons_append, List.nil_append, List.getElem?_cons_zero, List.getElem?_cons_succ, List.set_cons_zero, List.set_cons_succ, Nat.reduceAdd, Nat.reduceSub, if_true, Bool.false_eq_true, if_false, reduceIte, Option.isSome_some, Option.isSome_none, true_and, and_true, List.map_nil, dI]
    refine lcD_if D.int (fun x => decide (x ∈ b)) D.int (fun x hx A B hk k ea eb => ?_) (fun _ => trivial) (by omega) ?_
    · subst ea eb
      simp only [wRet, wAnd_s, wOr_s, bsel_bl, wIfF, keyD, DL.wNot, wUn, wOp, wC, wCF, wVar, wVarB, wK, wChain_s, wB, wAndT, wOrT, wNotT, wIf, wNil, wCons, wTup, wLst, wV, wO, wNext, wSeq, wNever, wBreak, wCont, wRetN, wDrop, wIfS, wAsg, wPar, wFree, freeD, wApp0, wApp, wCall, gN, gT, setD, wIt, wIt1, wIt2, wFor, wLc, wYes, wOf, wOfK, wOK, wDc, wRg1, wRg2, wONo, wOSo, wSlL, wSl, wRevL, wRevT, wDput, popK, wPopAsg, wPopTup, wAppPop, wExt, wCallN, pick, wStar, wUnpA, wIndex, wRep, wTupF, wStepT, wBoxIx_0, wBoxIx_1, wBoxIx_2, wBoxIx_3, wBoxTo, wBoxInc, wBoxOf, wNo, wSortedSet, wNewK, dI0, dI2, dAdd, dMul, dIx, dLen, dAbs, dInt, dIsi, dIsiT, dEq, dNe, dIn, dIsN, dNotN, dIsB, dMin2, dMax2, dList, dTuple, dDget, dDin, startD, wipeD, List.map_cons, List.map_nil, List.length_cons, List.length_nil, List.replicate_succ, List.replicate_zero, List.cons_append, List.nil_append, List.getElem?_cons_zero, List.getElem?_cons_succ, List.set_cons_zero, List.set_cons_succ, Nat.reduceAdd, Nat.reduceSub, if_true, Bool.false_eq_true, if_false, reduceIte, Option.isSome_some, Option.isSome_none, true_and, and_true, List.map_nil, inD_int]
      exact ⟨⟨rfl, flat_ints b⟩, hk⟩
    · simp only [List.length_map]
      unfold lcross at h
      generalize a.filter (fun x => decide (x ∈ b)) = s at h ⊢
      have e : (if (b.length : Int) < a.length then (b.length : Int) else a.length) = ((min a.length b.length : Nat) : Int) := by
        split <;> omega
      simp only [e]
      have h1 : decide ((0 : Int) < s.length) = decide (0 < s.length) := by simp
      have h2 : decide ((s.length : Int) < ((min a.length b.length : Nat) : Int)) = decide (s.length < min a.length b.length) := by
        by_cases q : s.length < min a.length b.length
        · rw [decide_eq_true q, decide_eq_true (by omega)]
        · rw [decide_eq_false q, decide_eq_false (by omega)]
      rw [h1, h2]
      cases q : decide (0 < s.length) <;> simp only [q, Bool.true_and, Bool.false_and, if_true, Bool.false_eq_true, if_false] at h ⊢ <;> exact h
end
end Mine
namespace Mine
open PySem PySem.Spec L2 PyProof.Rows DL
section
variable {P : Program} {w : World} {K : PySem.W.Frag} {base : Heap} {mg : Str → Option Value}
structure GrpOk (a : List Int) : Prop where
  ne : a ≠ []
  len : a.length ≤ 36
  rng : ∀ x ∈ a, 0 ≤ x ∧ x ≤ 35
  asc : a.Pairwise (· < ·)
structure GsOk (gs : List (List Int)) : Prop where
  pos : 1 ≤ gs.length
  most : gs.length ≤ 20
  each : ∀ g ∈ gs, GrpOk g
def F_is_group : FD := fun xs n P => ∃ a : List Int, xs = [dI a] ∧ GrpOk a ∧ P (.bl true) n
theorem ok_is_group (T : Top K mg) : FnOk P w K mg base CX0 2 T.f_is_group.a T.f_is_group.fd ["value"] (spD K F_is_group) := by
  refine dfun T.f_is_group.F sc_is_group ?_ (fun cdv A outer s H E b hr => (dss_cons (ds_if (dt_pw (dw_or (dt_not (dt_val (de_isi .tuple T.n_isinstance T.n_tuple (DE.toB (dv 0))))) (dw_or1 (dt_cmp (op_eqD hr.units) sd_eq (DE.toB (dv 0)) (DE.toB (de_tup da_nil)) (nomark _))))) (dss_one (ds_ret de_bl)) dss_nil) (dss_cons (ds_if (dt_not (dt_val (de_callB (cr_all rfl) sd_all (by rfl) T.n_all (by decide +kernel) (dab_cons (DE.toB (DF.toE (df_lc [("member", 1)] rfl sc_is_group.nd (di_seq (dv 0)) (by rfl) (fun _ _ _ _ _ => (dg_name 1 sc_is_group.nd)) (fun _ _ _ _ _ => dts_nil) (fun _ _ _ _ _ => (de_and (de_call (ok_is_whole T) (hr.mono (by decide)) T.f_is_whole.m T.f_is_whole.F.kp T.f_is_whole.b pass0 (da_cons (dv 1) da_nil)) (de_one (de_chain op_le sd_cmp op_le sd_cmp (DE.toB de_int) (DE.toB (dv 1)) (DE.toB (de_globI (by rfl) T.c_MOST_MEMBER))))))))) dab_nil)))) (dss_one (ds_ret de_bl)) dss_nil) (dss_one (ds_ret (de_callB (cr_all rfl) sd_all (by rfl) T.n_all (by decide +kernel) (dab_cons (DE.toB (DF.toE (df_lc [("at", 2)] rfl sc_is_group.nd (di_range2 T.n_range (da_cons de_int (da_cons (de_callB cr_lenAll sd_len (by rfl) T.n_len (by decide +kernel) (dab_cons (DE.toB (dv 0)) dab_nil)) da_nil))) (by rfl) (fun _ _ _ _ _ => (dg_name 2 sc_is_group.nd)) (fun _ _ _ _ _ => dts_nil) (fun _ _ _ _ _ => (de_cmp op_lt sd_cmp (DE.toB (de_ix ix_seq sd_ix (DE.toB (dv 0)) (DE.toB (de_op op_sub (sdI0 fun _ _ _ _ => .int _) (DE.toB (dv 2)) (DE.toB de_int))) (fun _ _ => rfl))) (DE.toB (de_ix ix_seq sd_ix (DE.toB (dv 0)) (DE.toB (dv 2)) (fun _ _ => rfl))) (nomark _)))))) dab_nil))))))) ?_
  · rintro ds n Q ⟨a, rfl, _⟩
    rfl
  · rintro ds n Q ⟨a, rfl, ok, h⟩
    have hl := ok.len
    have hne : a.isEmpty = false := by cases a with
      | nil => exact absurd rfl ok.ne
      | cons _ _ => rfl
    simp only [wRet, wAnd_s, wOr_s, bsel_bl, wIfF, keyD, DL.wNot, wUn, wOp, wC, wCF, wVar, wVarB, wK, wChain_s, wB, wAndT, wOrT, wNotT, wIf, wNil, wCons, wTup, wLst, wV, wO, wNext, wSeq, wNever, wBreak, wCont, wRetN, wDrop, wIfS, wAsg, wPar, wFree, freeD, wApp0, wApp, wCall, gN, gT, setD, wIt, wIt1, wIt2, wFor, wLc, wYes, wOf, wOfK, wOK, wDc, wRg1, wRg2, wONo, wOSo, wSlL, wSl, wRevL, wRevT, wDput, popK, wPopAsg, wPopTup, wAppPop, wExt, wCallN, pick, wStar, wUnpA, wIndex, wRep, wTupF, wStepT, wBoxIx_0, wBoxIx_1, wBoxIx_2, wBoxIx_3, wBoxTo, wBoxInc, wBoxOf, wNo, wSortedSet, wNewK, dI0, dI2, dAdd, dMul, dIx, dLen, dAbs, dInt, dIsi, dIsiT, dEq, dNe, dIn, dIsN, dNotN, dIsB, dMin2, dMax2, dList, dTuple, dDget, dDin, startD, wipeD, List.map_cons, List.map_nil, List.length_cons, List.length_nil, List.replicate_succ, List.replicate_zero, List.cons_append, List.nil_append, List.getElem?_cons_zero, List.getElem?_cons_succ, List.set_cons_zero, List.set_cons_succ, Nat.reduceAdd, Nat.reduceSub, if_true, Bool.false_eq_true, if_false, reduceIte, Option.isSome_some, Option.isSome_none, true_and, and_true, List.map_nil, dI]
    simp only [tyD, isD, Option.isSome_some, true_and, Bool.not_true, Bool.false_eq_true, if_false, eqd_tnil, okd_tints, okd_tnil, nbs, List.isEmpty_map, hne]
    refine ⟨by omega, ?_⟩
    refine lcD_each D.int (fun _ => .bl true) (fun x hx k hk => ?_) (fun _ => trivial) (by omega) ?_
    · obtain ⟨q1, q2⟩ := ok.rng x hx
      simp only [wRet, wAnd_s, wOr_s, bsel_bl, wIfF, keyD, DL.wNot, wUn, wOp, wC, wCF, wVar, wVarB, wK, wChain_s, wB, wAndT, wOrT, wNotT, wIf, wNil, wCons, wTup, wLst, wV, wO, wNext, wSeq, wNever, wBreak, wCont, wRetN, wDrop, wIfS, wAsg, wPar, wFree, freeD, wApp0, wApp, wCall, gN, gT, setD, wIt, wIt1, wIt2, wFor, wLc, wYes, wOf, wOfK, wOK, wDc, wRg1, wRg2, wONo, wOSo, wSlL, wSl, wRevL, wRevT, wDput, popK, wPopAsg, wPopTup, wAppPop, wExt, wCallN, pick, wStar, wUnpA, wIndex, wRep, wTupF, wStepT, wBoxIx_0, wBoxIx_1, wBoxIx_2, wBoxIx_3, wBoxTo, wBoxInc, wBoxOf, wNo, wSortedSet, wNewK, dI0, dI2, dAdd, dMul, dIx, dLen, dAbs, dInt, dIsi, dIsiT, dEq, dNe, dIn, dIsN, dNotN, dIsB, dMin2, dMax2, dList, dTuple, dDget, dDin, startD, wipeD, List.map_cons, List.map_nil, List.length_cons, List.length_nil, List.replicate_succ, List.replicate_zero, List.cons_append, List.nil_append, List.getElem?_cons_zero, List.getElem?_cons_succ, List.set_cons_zero, List.set_cons_succ, Nat.reduceAdd, Nat.reduceSub, if_true, Bool.false_eq_true, if_false, reduceIte, Option.isSome_some, Option.isSome_none, true_and, and_true, List.map_nil, F_is_whole]
      refine ⟨_, rfl, rfl, ?_⟩
      simp only [isInt, bsel_bl, if_true, decide_eq_true q1, decide_eq_true q2]
      exact hk
    · refine dAll_of (bs := a.map fun _ => true) (by rw [List.map_map]; rfl) ?_
      have e : (a.map fun _ => true).all id = true := by rw [List.all_map]; exact List.all_eq_true.mpr fun _ _ => rfl
      simp only [e, Bool.not_true, Bool.false_eq_true, if_false, List.length_map]
      refine ⟨by omega, ?_⟩
      have er : rangeD 1 (a.length : Int) = (List.range (a.length - 1)).map fun k => D.int (((1 + k : Nat)) : Int) := rangeD_from 1 a.length
      rw [er]
      refine lcD_each (fun k : Nat => D.int (((1 + k : Nat)) : Int)) (fun _ => .bl true) (fun x hx k hk => ?_) (fun _ => trivial) (by simp; omega) ?_
      · have hx := List.mem_range.mp hx
        simp only [wRet, wAnd_s, wOr_s, bsel_bl, wIfF, keyD, DL.wNot, wUn, wOp, wC, wCF, wVar, wVarB, wK, wChain_s, wB, wAndT, wOrT, wNotT, wIf, wNil, wCons, wTup, wLst, wV, wO, wNext, wSeq, wNever, wBreak, wCont, wRetN, wDrop, wIfS, wAsg, wPar, wFree, freeD, wApp0, wApp, wCall, gN, gT, setD, wIt, wIt1, wIt2, wFor, wLc, wYes, wOf, wOfK, wOK, wDc, wRg1, wRg2, wONo, wOSo, wSlL, wSl, wRevL, wRevT, wDput, popK, wPopAsg, wPopTup, wAppPop, wExt, wCallN, pick, wStar, wUnpA, wIndex, wRep, wTupF, wStepT, wBoxIx_0, wBoxIx_1, wBoxIx_2, wBoxIx_3, wBoxTo, wBoxInc, wBoxOf, wNo, wSortedSet, wNewK, dI0, dI2, dAdd, dMul, dIx, dLen, dAbs, dInt, dIsi, dIsiT, dEq, dNe, dIn, dIsN, dNotN, dIsB, dMin2, dMax2, dList, dTuple, dDget, dDin, startD, wipeD, List.map_cons, List.map_nil, List.length_cons, List.length_nil, List.replicate_succ, List.replicate_zero, List.cons_append, List.nil_append, List.getElem?_cons_zero, List.getElem?_cons_succ, List.set_cons_zero, List.set_cons_succ, Nat.reduceAdd, Nat.reduceSub, if_true, Bool.false_eq_true, if_false, reduceIte, Option.isSome_some, Option.isSome_none, true_and, and_true, List.map_nil]
        rw [atI_map (atI_lt (j := x) (by omega) (by omega)), atI_map (atI_lt (j := 1 + x) (by omega) (by omega))]
        have := List.pairwise_iff_getElem.mp ok.asc x (1 + x) (by omega) (by omega) (by omega)
        simp only [wRet, wAnd_s, wOr_s, bsel_bl, wIfF, keyD, DL.wNot, wUn, wOp, wC, wCF, wVar, wVarB, wK, wChain_s, wB, wAndT, wOrT, wNotT, wIf, wNil, wCons, wTup, wLst, wV, wO, wNext, wSeq, wNever, wBreak, wCont, wRetN, wDrop, wIfS, wAsg, wPar, wFree, freeD, wApp0, wApp, wCall, gN, gT, setD, wIt, wIt1, wIt2, wFor, wLc, wYes, wOf, wOfK, wOK, wDc, wRg1, wRg2, wONo, wOSo, wSlL, wSl, wRevL, wRevT, wDput, popK, wPopAsg, wPopTup, wAppPop, wExt, wCallN, pick, wStar, wUnpA, wIndex, wRep, wTupF, wStepT, wBoxIx_0, wBoxIx_1, wBoxIx_2, wBoxIx_3, wBoxTo, wBoxInc, wBoxOf, wNo, wSortedSet, wNewK, dI0, dI2, dAdd, dMul, dIx, dLen, dAbs, dInt, dIsi, dIsiT, dEq, dNe, dIn, dIsN, dNotN, dIsB, dMin2, dMax2, dList, dTuple, dDget, dDin, startD, wipeD, List.map_cons, List.map_nil, List.length_cons, List.length_nil, List.replicate_succ, List.replicate_zero, List.cons_append, List.nil_append, List.getElem?_cons_zero, List.getElem?_cons_succ, List.set_cons_zero, List.set_cons_succ, Nat.reduceAdd, Nat.reduceSub, if_true, Bool.false_eq_true, if_false, reduceIte, Option.isSome_some, Option.isSome_none, true_and, and_true, List.map_nil, decide_eq_true this]
        exact hk
      · refine dAll_of (bs := (List.range (a.length - 1)).map fun _ => true) (by rw [List.map_map]; rfl) ?_
        have e2 : ((List.range (a.length - 1)).map fun _ => true).all id = true := by rw [List.all_map]; exact List.all_eq_true.mpr fun _ _ => rfl
        rw [e2]
        exact h
def F_check_groups : FD := fun xs n P => ∃ d gs, xs = [d] ∧ SeqD d (dG gs) ∧ GsOk gs ∧ P .non n
theorem ok_check_groups (T : Top K mg) : FnOk P w K mg base CX0 3 T.f_check_groups.a T.f_check_groups.fd ["groups"] (spD K F_check_groups) := by
  refine dfun T.f_check_groups.F sc_check_groups ?_ (fun cdv A outer s H E b hr => (dss_cons (ds_if (dt_pw (dw_or (dt_not (dt_val (de_isiT T.n_isinstance (DE.toB (dv 0)) (.cons .list T.n_list rfl rfl (.cons .tuple T.n_tuple rfl rfl .nil))))) (dw_or1 (dt_not (dt_chain op_le sd_cmp op_le sd_cmp (DE.toB de_int) (DE.toB (de_callB cr_lenAll sd_len (by rfl) T.n_len (by decide +kernel) (dab_cons (DE.toB (dv 0)) dab_nil))) (DE.toB (de_globI (by rfl) T.c_MOST_GROUPS))))))) (dss_one ds_never) dss_nil) (dss_one (ds_if (dt_not (dt_val (de_callB (cr_all rfl) sd_all (by rfl) T.n_all (by decide +kernel) (dab_cons (DE.toB (DF.toE (df_lc [("group", 1)] rfl sc_check_groups.nd (di_seq (dv 0)) (by rfl) (fun _ _ _ _ _ => (dg_name 1 sc_check_groups.nd)) (fun _ _ _ _ _ => dts_nil) (fun _ _ _ _ _ => (de_call (ok_is_group T) (hr.mono (by decide)) T.f_is_group.m T.f_is_group.F.kp T.f_is_group.b pass0 (da_cons (dv 1) da_nil)))))) dab_nil)))) (dss_one ds_never) dss_nil)))) ?_
  · rintro ds n Q ⟨d, gs, rfl, _⟩
    rfl
  · rintro ds n Q ⟨d, gs, rfl, hs, ok, h⟩
    have h1 := ok.pos
    have h2 := ok.most
    have fin : ∀ Q2 : D → Nat → Prop, Q2 (.bl true) n → lcD (gN 1) wYes (wCall F_is_group (wCons (wVar 1) wNil)) [1] [some (Sl.val d), none] (fun ds n' => dAll [.lst ds] n' Q2) (dG gs) [] n := fun Q2 q => by
      refine lcD_each dI (fun _ => .bl true) (fun x hx k hk => ?_) (fun _ => trivial) (by omega) ?_
      · simp only [wRet, wAnd_s, wOr_s, bsel_bl, wIfF, keyD, DL.wNot, wUn, wOp, wC, wCF, wVar, wVarB, wK, wChain_s, wB, wAndT, wOrT, wNotT, wIf, wNil, wCons, wTup, wLst, wV, wO, wNext, wSeq, wNever, wBreak, wCont, wRetN, wDrop, wIfS, wAsg, wPar, wFree, freeD, wApp0, wApp, wCall, gN, gT, setD, wIt, wIt1, wIt2, wFor, wLc, wYes, wOf, wOfK, wOK, wDc, wRg1, wRg2, wONo, wOSo, wSlL, wSl, wRevL, wRevT, wDput, popK, wPopAsg, wPopTup, wAppPop, wExt, wCallN, pick, wStar, wUnpA, wIndex, wRep, wTupF, wStepT, wBoxIx_0, wBoxIx_1, wBoxIx_2, wBoxIx_3, wBoxTo, wBoxInc, wBoxOf, wNo, wSortedSet, wNewK, dI0, dI2, dAdd, dMul, dIx, dLen, dAbs, dInt, dIsi, dIsiT, dEq, dNe, dIn, dIsN, dNotN, dIsB, dMin2, dMax2, dList, dTuple, dDget, dDin, startD, wipeD, List.map_cons, List.map_nil, List.length_cons, List.length_nil, List.replicate_succ, List.replicate_zero, List.cons_append, List.nil_append, List.getElem?_cons_zero, List.getElem?_cons_succ, List.set_cons_zero, List.set_cons_succ, Nat.reduceAdd, Nat.reduceSub, if_true, Bool.false_eq_true, if_false, reduceIte, Option.isSome_some, Option.isSome_none, true_and, and_true, List.map_nil]
        exact ⟨x, rfl, ok.each x hx, hk⟩
      · refine dAll_of (bs := gs.map fun _ => true) (by rw [List.map_map]; rfl) ?_
        have e2 : (gs.map fun _ => true).all id = true := by rw [List.all_map]; exact List.all_eq_true.mpr fun _ _ => rfl
        rw [e2]
        exact q
    have hl : (dG gs).length = gs.length := List.length_map ..
    rcases hs with rfl | rfl
    · simp only [wRet, wAnd_s, wOr_s, bsel_bl, wIfF, keyD, DL.wNot, wUn, wOp, wC, wCF, wVar, wVarB, wK, wChain_s, wB, wAndT, wOrT, wNotT, wIf, wNil, wCons, wTup, wLst, wV, wO, wNext, wSeq, wNever, wBreak, wCont, wRetN, wDrop, wIfS, wAsg, wPar, wFree, freeD, wApp0, wApp, wCall, gN, gT, setD, wIt, wIt1, wIt2, wFor, wLc, wYes, wOf, wOfK, wOK, wDc, wRg1, wRg2, wONo, wOSo, wSlL, wSl, wRevL, wRevT, wDput, popK, wPopAsg, wPopTup, wAppPop, wExt, wCallN, pick, wStar, wUnpA, wIndex, wRep, wTupF, wStepT, wBoxIx_0, wBoxIx_1, wBoxIx_2, wBoxIx_3, wBoxTo, wBoxInc, wBoxOf, wNo, wSortedSet, wNewK, dI0, dI2, dAdd, dMul, dIx, dLen, dAbs, dInt, dIsi, dIsiT, dEq, dNe, dIn, dIsN, dNotN, dIsB, dMin2, dMax2, dList, dTuple, dDget, dDin, startD, wipeD, List.map_cons, List.map_nil, List.length_cons, List.length_nil, List.replicate_succ, List.replicate_zero, List.cons_append, List.nil_append, List.getElem?_cons_zero, List.getElem?_cons_succ, List.set_cons_zero, List.set_cons_succ, Nat.reduceAdd, Nat.reduceSub, if_true, Bool.false_eq_true, if_false, reduceIte, Option.isSome_some, Option.isSome_none, true_and, and_true, List.map_nil]
      simp only [tyD, isD, Option.isSome_some, List.any_cons, List.any_nil, Bool.or_false, Bool.or_true, Bool.true_or, true_and, Bool.not_true, Bool.false_eq_true, if_false, hl, decide_eq_true (show (1 : Int) ≤ gs.length by omega), decide_eq_true (show (gs.length : Int) ≤ 20 by omega), if_true]
      refine fin _ ?_
      simp only [Bool.not_true, Bool.false_eq_true, if_false]
      exact h
    · simp only [wRet, wAnd_s, wOr_s, bsel_bl, wIfF, keyD, DL.wNot, wUn, wOp, wC, wCF, wVar, wVarB, wK, wChain_s, wB, wAndT, wOrT, wNotT, wIf, wNil, wCons, wTup, wLst, wV, wO, wNext, wSeq, wNever, wBreak, wCont, wRetN, wDrop, wIfS, wAsg, wPar, wFree, freeD, wApp0, wApp, wCall, gN, gT, setD, wIt, wIt1, wIt2, wFor, wLc, wYes, wOf, wOfK, wOK, wDc, wRg1, wRg2, wONo, wOSo, wSlL, wSl, wRevL, wRevT, wDput, popK, wPopAsg, wPopTup, wAppPop, wExt, wCallN, pick, wStar, wUnpA, wIndex, wRep, wTupF, wStepT, wBoxIx_0, wBoxIx_1, wBoxIx_2, wBoxIx_3, wBoxTo, wBoxInc, wBoxOf, wNo, wSortedSet, wNewK, dI0, dI2, dAdd, dMul, dIx, dLen, dAbs, dInt, dIsi, dIsiT, dEq, dNe, dIn, dIsN, dNotN, dIsB, dMin2, dMax2, dList, dTuple, dDget, dDin, startD, wipeD, List.map_cons, List.map_nil, List.length_cons, List.length_nil, List.replicate_succ, List.replicate_zero, List.cons_append, List.nil_append, List.getElem?_cons_zero, List.getElem?_cons_succ, List.set_cons_zero, List.set_cons_succ, Nat.reduceAdd, Nat.reduceSub, if_true, Bool.false_eq_true, if_false, reduceIte, Option.isSome_some, Option.isSome_none, true_and, and_true, List.map_nil]
      simp only [tyD, isD, Option.isSome_some, List.any_cons, List.any_nil, Bool.or_false, Bool.or_true, Bool.true_or, Bool.false_or, true_and, Bool.not_true, Bool.false_eq_true, if_false, hl, decide_eq_true (show (1 : Int) ≤ gs.length by omega), decide_eq_true (show (gs.length : Int) ≤ 20 by omega), if_true]
      refine fin _ ?_
      simp only [Bool.not_true, Bool.false_eq_true, if_false]
      exact h
/-- the graph of crossings -/
def Ed (gs : List (List Int)) (i j : Nat) : Bool := !apart (gs.getD i []) (gs.getD j [])
def adj (gs : List (List Int)) (i : Nat) : List Nat := (List.range gs.length).filter (Ed gs i)
def dN (l : List Nat) : List D := l.map fun k => D.int ((k : Nat) : Int)
theorem dG_at {gs : List (List Int)} {i : Int} {j : Nat} (e : i = j) (h : j < gs.length) : atI (dG gs) i = some (dI (gs.getD j [])) := by
  refine atI_map (atI_ok e ?_)
  rw [List.getElem?_eq_getElem h, List.getD_eq_getElem?_getD, List.getElem?_eq_getElem h]
  rfl
theorem getD_mem {gs : List (List Int)} {j : Nat} (h : j < gs.length) : gs.getD j [] ∈ gs := by
  rw [List.getD_eq_getElem?_getD, List.getElem?_eq_getElem h]
  exact List.getElem_mem h
def F_crossing : FD := fun xs n P => ∃ d gs, ∃ i : Nat, xs = [d, .int i] ∧ SeqD d (dG gs) ∧ GsOk gs ∧ i < gs.length ∧ P (.lst (dN (adj gs i))) n
theorem ok_crossing (T : Top K mg) : FnOk P w K mg base CX0 2 T.f_crossing.a T.f_crossing.fd ["groups", "one"] (spD K F_crossing) := by
  refine dfun T.f_crossing.F sc_crossing ?_ (fun cdv A outer s H E b hr => (dss_one (ds_ret (DF.toE (df_lc [("other", 2)] rfl sc_crossing.nd (di_range1 T.n_range (da_cons (de_callB cr_lenAll sd_len (by rfl) T.n_len (by decide +kernel) (dab_cons (DE.toB (dv 0)) dab_nil)) da_nil)) (by rfl) (fun _ _ _ _ _ => (dg_name 2 sc_crossing.nd)) (fun _ _ _ _ _ => (dts_one (dt_not (dt_val (de_call (ok_are_apart_or_within T) (hr.mono (by decide)) T.f_are_apart_or_within.m T.f_are_apart_or_within.F.kp T.f_are_apart_or_within.b pass0 (da_cons (de_ix ix_seq sd_ix (DE.toB (dv 0)) (DE.toB (dv 1)) (fun _ _ => rfl)) (da_cons (de_ix ix_seq sd_ix (DE.toB (dv 0)) (DE.toB (dv 2)) (fun _ _ => rfl)) da_nil))))))) (fun _ _ _ _ _ => (dv 2))))))) ?_
  · rintro ds n Q ⟨d, gs, i, rfl, _⟩
    rfl
  · rintro ds n Q ⟨d, gs, i, rfl, hs, ok, hi, h⟩
    have h1 := ok.pos
    have h2 := ok.most
    have hl : (dG gs).length = gs.length := List.length_map ..
    have turn : ∀ x ∈ List.range gs.length, ∀ (A B : Nat → Prop), (if Ed gs i x = true then A n else B n) → ∀ k : Option D → Nat → Prop, A = k (some (D.int ((x : Nat) : Int))) → B = k none →
        gN 2 (D.int ((x : Nat) : Int)) (wipeD [some (Sl.val d), some (Sl.val (.int (i : Int))), none] [2]) fun ρ2 => wNotT (wB (wCall F_are_apart_or_within (wCons (wOp dIx (wVar 0) (wVar 1)) (wCons (wOp dIx (wVar 0) (wVar 2)) wNil)))) ρ2 n fun c n2 => if c = true then wVar 2 ρ2 n2 fun d n3 => k (some d) n3 else k none n2 := by
      intro x hx A B hk k ea eb
      have hx := List.mem_range.mp hx
      subst ea eb
      have fl := (ok.each _ (getD_mem hi)).len
      rcases hs with rfl | rfl
      · simp only [wRet, wAnd_s, wOr_s, bsel_bl, wIfF, keyD, DL.wNot, wUn, wOp, wC, wCF, wVar, wVarB, wK, wChain_s, wB, wAndT, wOrT, wNotT, wIf, wNil, wCons, wTup, wLst, wV, wO, wNext, wSeq, wNever, wBreak, wCont, wRetN, wDrop, wIfS, wAsg, wPar, wFree, freeD, wApp0, wApp, wCall, gN, gT, setD, wIt, wIt1, wIt2, wFor, wLc, wYes, wOf, wOfK, wOK, wDc, wRg1, wRg2, wONo, wOSo, wSlL, wSl, wRevL, wRevT, wDput, popK, wPopAsg, wPopTup, wAppPop, wExt, wCallN, pick, wStar, wUnpA, wIndex, wRep, wTupF, wStepT, wBoxIx_0, wBoxIx_1, wBoxIx_2, wBoxIx_3, wBoxTo, wBoxInc, wBoxOf, wNo, wSortedSet, wNewK, dI0, dI2, dAdd, dMul, dIx, dLen, dAbs, dInt, dIsi, dIsiT, dEq, dNe, dIn, dIsN, dNotN, dIsB, dMin2, dMax2, dList, dTuple, dDget, dDin, startD, wipeD, List.map_cons, List.map_nil, List.length_cons, List.length_nil, List.replicate_succ, List.replicate_zero, List.cons_append, List.nil_append, List.getElem?_cons_zero, List.getElem?_cons_succ, List.set_cons_zero, List.set_cons_succ, Nat.reduceAdd, Nat.reduceSub, if_true, Bool.false_eq_true, if_false, reduceIte, Option.isSome_some, Option.isSome_none, true_and, and_true, List.map_nil, dG_at rfl hi, dG_at rfl hx]
        refine ⟨_, _, rfl, by omega, ?_⟩
        exact hk
      · simp only [wRet, wAnd_s, wOr_s, bsel_bl, wIfF, keyD, DL.wNot, wUn, wOp, wC, wCF, wVar, wVarB, wK, wChain_s, wB, wAndT, wOrT, wNotT, wIf, wNil, wCons, wTup, wLst, wV, wO, wNext, wSeq, wNever, wBreak, wCont, wRetN, wDrop, wIfS, wAsg, wPar, wFree, freeD, wApp0, wApp, wCall, gN, gT, setD, wIt, wIt1, wIt2, wFor, wLc, wYes, wOf, wOfK, wOK, wDc, wRg1, wRg2, wONo, wOSo, wSlL, wSl, wRevL, wRevT, wDput, popK, wPopAsg, wPopTup, wAppPop, wExt, wCallN, pick, wStar, wUnpA, wIndex, wRep, wTupF, wStepT, wBoxIx_0, wBoxIx_1, wBoxIx_2, wBoxIx_3, wBoxTo, wBoxInc, wBoxOf, wNo, wSortedSet, wNewK, dI0, dI2, dAdd, dMul, dIx, dLen, dAbs, dInt, dIsi, dIsiT, dEq, dNe, dIn, dIsN, dNotN, dIsB, dMin2, dMax2, dList, dTuple, dDget, dDin, startD, wipeD, List.map_cons, List.map_nil, List.length_cons, List.length_nil, List.replicate_succ, List.replicate_zero, List.cons_append, List.nil_append, List.getElem?_cons_zero, List.getElem?_cons_succ, List.set_cons_zero, List.set_cons_succ, Nat.reduceAdd, Nat.reduceSub, if_true, Bool.false_eq_true, if_false, reduceIte, Option.isSome_some, Option.isSome_none, true_and, and_true, List.map_nil, dG_at rfl hi, dG_at rfl hx]
        refine ⟨_, _, rfl, by omega, ?_⟩
        exact hk
    rcases hs with rfl | rfl
    · simp only [wRet, wAnd_s, wOr_s, bsel_bl, wIfF, keyD, DL.wNot, wUn, wOp, wC, wCF, wVar, wVarB, wK, wChain_s, wB, wAndT, wOrT, wNotT, wIf, wNil, wCons, wTup, wLst, wV, wO, wNext, wSeq, wNever, wBreak, wCont, wRetN, wDrop, wIfS, wAsg, wPar, wFree, freeD, wApp0, wApp, wCall, gN, gT, setD, wIt, wIt1, wIt2, wFor, wLc, wYes, wOf, wOfK, wOK, wDc, wRg1, wRg2, wONo, wOSo, wSlL, wSl, wRevL, wRevT, wDput, popK, wPopAsg, wPopTup, wAppPop, wExt, wCallN, pick, wStar, wUnpA, wIndex, wRep, wTupF, wStepT, wBoxIx_0, wBoxIx_1, wBoxIx_2, wBoxIx_3, wBoxTo, wBoxInc, wBoxOf, wNo, wSortedSet, wNewK, dI0, dI2, dAdd, dMul, dIx, dLen, dAbs, dInt, dIsi, dIsiT, dEq, dNe, dIn, dIsN, dNotN, dIsB, dMin2, dMax2, dList, dTuple, dDget, dDin, startD, wipeD, List.map_cons, List.map_nil, List.length_cons, List.length_nil, List.replicate_succ, List.replicate_zero, List.cons_append, List.nil_append, List.getElem?_cons_zero, List.getElem?_cons_succ, List.set_cons_zero, List.set_cons_succ, Nat.reduceAdd, Nat.reduceSub, if_true, Bool.false_eq_true, if_false, reduceIte, Option.isSome_some, Option.isSome_none, true_and, and_true, List.map_nil, hl]
      refine ⟨by omega, ?_⟩
      rw [rangeD_nat]
      exact lcD_if (fun k : Nat => D.int ((k : Nat) : Int)) (Ed gs i) _ turn (fun _ => trivial) (by simp; omega) h
    · simp only [wRet, wAnd_s, wOr_s, bsel_bl, wIfF, keyD, DL.wNot, wUn, wOp, wC, wCF, wVar, wVarB, wK, wChain_s, wB, wAndT, wOrT, wNotT, wIf, wNil, wCons, wTup, wLst, wV, wO, wNext, wSeq, wNever, wBreak, wCont, wRetN, wDrop, wIfS, wAsg, wPar, wFree, freeD, wApp0, wApp, wCall, gN, gT, setD, wIt, wIt1, wIt2, wFor, wLc, wYes, wOf, wOfK, wOK, wDc, wRg1, wRg2, wONo, wOSo, wSlL, wSl, wRevL, wRevT, wDput, popK, wPopAsg, wPopTup, wAppPop, wExt, wCallN, pick, wStar, wUnpA, wIndex, wRep, wTupF, wStepT, wBoxIx_0, wBoxIx_1, wBoxIx_2, wBoxIx_3, wBoxTo, wBoxInc, wBoxOf, wNo, wSortedSet, wNewK, dI0, dI2, dAdd, dMul, dIx, dLen, dAbs, dInt, dIsi, dIsiT, dEq, dNe, dIn, dIsN, dNotN, dIsB, dMin2, dMax2, dList, dTuple, dDget, dDin, startD, wipeD, List.map_cons, List.map_nil, List.length_cons, List.length_nil, List.replicate_succ, List.replicate_zero, List.cons_append, List.nil_append, List.getElem?_cons_zero, List.getElem?_cons_succ, List.set_cons_zero, List.set_cons_succ, Nat.reduceAdd, Nat.reduceSub, if_true, Bool.false_eq_true, if_false, reduceIte, Option.isSome_some, Option.isSome_none, true_and, and_true, List.map_nil, hl]
      refine ⟨by omega, ?_⟩
      rw [rangeD_nat]
      exact lcD_if (fun k : Nat => D.int ((k : Nat) : Int)) (Ed gs i) _ turn (fun _ => trivial) (by simp; omega) h
end
end Mine
namespace Mine
/-! paths in a forest, told by their lists -/
structure Ways (m : Nat) (E : Nat → Nat → Bool) (W : Nat → List Nat) : Prop where
  step : ∀ i, i < m → W i = [i] ∨ ∃ j, j < m ∧ E j i = true ∧ W i = W j ++ [i]
  head : ∀ i j, i < m → j < m → E i j = true → (W i).head? = (W j).head?
section
variable {m : Nat} {E : Nat → Nat → Bool} {W : Nat → List Nat}
theorem Ways.ne (h : Ways m E W) {i : Nat} (hi : i < m) : W i ≠ [] := by
  rcases h.step i hi with e | ⟨j, _, _, e⟩ <;> rw [e] <;> simp
theorem Ways.last (h : Ways m E W) {i : Nat} (hi : i < m) : (W i)[(W i).length - 1]? = some i := by
  rcases h.step i hi with e | ⟨j, _, _, e⟩ <;> rw [e] <;> simp
theorem Ways.take (h : Ways m E W) : ∀ (L i : Nat), i < m → (W i).length = L → ∀ k, k < L → ∃ x, (W i)[k]? = some x ∧ x < m ∧ (W i).take (k + 1) = W x := by
  intro L
  induction L using Nat.strongRecOn with
  | ind L ih =>
    intro i hi hL k hk
    rcases h.step i hi with e | ⟨j, hj, _, e⟩
    · rw [e] at hL
      have hk0 : k = 0 := by simp at hL; omega
      subst hk0
      exact ⟨i, by rw [e]; rfl, hi, by rw [e]; rfl⟩
    · have hlen : (W i).length = (W j).length + 1 := by rw [e]; simp
      by_cases hkj : k < (W j).length
      · obtain ⟨x, h1, h2, h3⟩ := ih (W j).length (by omega) j hj rfl k hkj
        refine ⟨x, ?_, h2, ?_⟩
        · rw [e, List.getElem?_append_left hkj]; exact h1
        · rw [e, List.take_append_of_le_length (by omega)]; exact h3
      · have hk2 : k = (W j).length := by omega
        refine ⟨i, ?_, hi, ?_⟩
        · rw [e, hk2]; simp
        · rw [List.take_of_length_le (by omega)]
theorem Ways.at (h : Ways m E W) {i k : Nat} (hi : i < m) (hk : k < (W i).length) : ∃ x, (W i)[k]? = some x ∧ x < m ∧ (W i).take (k + 1) = W x := h.take _ i hi rfl k hk
theorem Ways.edge (h : Ways m E W) {i k : Nat} (hi : i < m) (hk : k + 1 < (W i).length) : ∃ x y, (W i)[k]? = some x ∧ (W i)[k + 1]? = some y ∧ E x y = true := by
  obtain ⟨y, h1, h2, h3⟩ := h.at hi hk
  have hl : (W y).length = k + 2 := by rw [← h3, List.length_take]; omega
  rcases h.step y h2 with e | ⟨j, hj, he, e⟩
  · rw [e] at hl; simp at hl
  · refine ⟨j, y, ?_, h1, he⟩
    have hlj : (W j).length = k + 1 := by rw [e] at hl; simpa using hl
    have q : ((W i).take (k + 2))[k]? = (W j)[k]? := by
      rw [h3, e, List.getElem?_append_left (by omega)]
    rw [List.getElem?_take, if_pos (by omega)] at q
    rw [q]
    have := h.last hj
    rw [hlj] at this
    simpa using this
/-- colours alternate on a way -/
theorem Ways.color (h : Ways m E W) (c : Nat → Bool) (hc : ∀ i j, i < m → j < m → E i j = true → c i ≠ c j) : ∀ (L i : Nat), i < m → (W i).length = L → ∃ r, (W i).head? = some r ∧ c i = (if L % 2 = 1 then c r else !c r) := by
  intro L
  induction L with
  | zero => intro i hi hL; exact absurd (List.eq_nil_of_length_eq_zero hL) (h.ne hi)
  | succ L ih =>
    intro i hi hL
    rcases h.step i hi with e | ⟨j, hj, he, e⟩
    · rw [e] at hL ⊢
      have : L = 0 := by simpa using hL.symm
      subst this
      exact ⟨i, rfl, by simp⟩
    · have hlj : (W j).length = L := by rw [e] at hL; simpa using hL
      obtain ⟨r, h1, h2⟩ := ih j hj hlj
      refine ⟨r, ?_, ?_⟩
      · rw [e]
        cases q : W j with
        | nil => exact absurd q (h.ne hj)
        | cons a t => rw [q] at h1; simpa using h1
      · have hne := hc j i hj hi he
        by_cases p : L % 2 = 1
        · rw [if_pos p] at h2
          rw [if_neg (by omega)]
          cases h3 : c i <;> cases h4 : c r <;> simp_all
        · rw [if_neg p] at h2
          rw [if_pos (by omega)]
          cases h3 : c i <;> cases h4 : c r <;> simp_all
def Colorable (m : Nat) (E : Nat → Nat → Bool) : Prop := ∃ c : Nat → Bool, ∀ i j, i < m → j < m → E i j = true → c i ≠ c j
theorem Ways.parity (h : Ways m E W) (hc : Colorable m E) {i j : Nat} (hi : i < m) (hj : j < m) (he : E i j = true) : (W i).length % 2 ≠ (W j).length % 2 := by
  obtain ⟨c, hc⟩ := hc
  obtain ⟨r, a1, a2⟩ := h.color c hc _ i hi rfl
  obtain ⟨r', b1, b2⟩ := h.color c hc _ j hj rfl
  have := h.head i j hi hj he
  rw [a1, b1] at this
  cases this
  intro q
  exact hc i j hi hj he (by rw [a2, b2, q])
theorem Ways.col (h : ∀ i j, i < m → j < m → E i j = true → (W i).length % 2 ≠ (W j).length % 2) : Colorable m E := ⟨fun i => decide ((W i).length % 2 = 1), fun i j hi hj he q => by
  have := h i j hi hj he
  have q := decide_eq_decide.mp q
  omega⟩
/-- an odd ring -/
structure RingOk (m : Nat) (E : Nat → Nat → Bool) (c : List Nat) : Prop where
  odd : c.length % 2 = 1
  lt : ∀ x ∈ c, x < m
  nd : c.Nodup
  edge : ∀ k, k < c.length → E (c.getD k 0) (c.getD ((k + 1) % c.length) 0) = true
/-- how many places are alike -/
def same (p q : List Nat) : Nat := ((List.range (min p.length q.length)).filter fun k => decide (p[k]? = q[k]?)).length
theorem filter_prefix {f : Nat → Bool} : ∀ (n s : Nat), s ≤ n → (∀ k, k < n → (f k = true ↔ k < s)) → ((List.range n).filter f).length = s
  | 0, s, hs, _ => by have : s = 0 := by omega
                      subst this; rfl
  | n + 1, s, hs, h => by
    rw [List.range_succ, List.filter_append, List.length_append]
    by_cases hsn : s ≤ n
    · rw [filter_prefix n s hsn fun k hk => h k (by omega)]
      have : f n = false := by
        cases q : f n with
        | false => rfl
        | true => have := (h n (by omega)).mp q; omega
      simp [this]
    · have e : s = n + 1 := by omega
      subst e
      rw [filter_prefix n n (Nat.le_refl _) fun k hk => by rw [h k (by omega)]; omega]
      have : f n = true := (h n (by omega)).mpr (by omega)
      simp [this]
theorem Ways.alike (h : Ways m E W) {i j a b x : Nat} (hi : i < m) (hj : j < m) (ha : (W i)[a]? = some x) (hb : (W j)[b]? = some x) : a = b ∧ (W i).take (a + 1) = (W j).take (b + 1) := by
  have la := (List.getElem?_eq_some_iff.mp ha).1
  have lb := (List.getElem?_eq_some_iff.mp hb).1
  obtain ⟨y, a1, a2, a3⟩ := h.at hi la
  obtain ⟨z, b1, b2, b3⟩ := h.at hj lb
  rw [ha] at a1; cases a1
  rw [hb] at b1; cases b1
  have e : (W i).take (a + 1) = (W j).take (b + 1) := a3.trans b3.symm
  have := congrArg List.length e
  rw [List.length_take, List.length_take] at this
  exact ⟨by omega, e⟩
/-- the ways part once: where they are alike is a first part -/
theorem Ways.fork (h : Ways m E W) {i j : Nat} (hi : i < m) (hj : j < m) (hh : (W i).head? = (W j).head?) :
    ∃ s, same (W i) (W j) = s ∧ 1 ≤ s ∧ s ≤ (W i).length ∧ s ≤ (W j).length ∧ (∀ k, k < s → (W i)[k]? = (W j)[k]?) ∧ ∀ k, s ≤ k → k < (W i).length → k < (W j).length → (W i)[k]? ≠ (W j)[k]? := by
  have down : ∀ k k', k' ≤ k → k < (W i).length → k < (W j).length → (W i)[k]? = (W j)[k]? → (W i)[k']? = (W j)[k']? := by
    intro k k' hk hi2 hj2 e
    obtain ⟨x, a1, _, _⟩ := h.at hi hi2
    have b1 : (W j)[k]? = some x := by rw [← e]; exact a1
    obtain ⟨_, t⟩ := h.alike hi hj a1 b1
    have := congrArg (fun l => l[k']?) t
    simpa [List.getElem?_take, show k' < k + 1 by omega] using this
  -- the first place of unlikeness
  have key : ∀ n, ∃ s, s ≤ n ∧ (∀ k, k < s → (W i)[k]? = (W j)[k]?) ∧ ∀ k, s ≤ k → k < n → k < (W i).length → k < (W j).length → (W i)[k]? ≠ (W j)[k]? := by
    intro n
    induction n with
    | zero => exact ⟨0, Nat.le_refl _, fun k hk => absurd hk (by omega), fun k _ hk => absurd hk (by omega)⟩
    | succ n ih =>
      obtain ⟨s, s1, s2, s3⟩ := ih
      by_cases hs : s = n
      · by_cases q : (W i)[n]? = (W j)[n]?
        · exact ⟨n + 1, Nat.le_refl _, fun k hk => by
            by_cases z : k = n
            · subst z; exact q
            · exact s2 k (by omega), fun k hk1 hk2 => absurd hk1 (by omega)⟩
        · refine ⟨n, by omega, fun k hk => s2 k (by omega), fun k hk1 hk2 _ _ => ?_⟩
          have : k = n := by omega
          subst this; exact q
      · refine ⟨s, by omega, s2, fun k hk1 hk2 hi2 hj2 e => ?_⟩
        have hs' : s < n := by omega
        exact s3 s (Nat.le_refl _) hs' (by omega) (by omega) (down k s hk1 hi2 hj2 e)
  obtain ⟨s, s1, s2, s3⟩ := key (min (W i).length (W j).length)
  have pi : 1 ≤ (W i).length := List.length_pos_iff.mpr (h.ne hi)
  have pj : 1 ≤ (W j).length := List.length_pos_iff.mpr (h.ne hj)
  have z0 : (W i)[0]? = (W j)[0]? := by rw [← List.head?_eq_getElem?, ← List.head?_eq_getElem?, hh]
  have sp : 1 ≤ s := by
    by_cases z : 1 ≤ s
    · exact z
    · exact absurd z0 (s3 0 (by omega) (by omega) (by omega) (by omega))
  refine ⟨s, ?_, sp, by omega, by omega, s2, fun k hk hki hkj => s3 k hk (by omega) hki hkj⟩
  refine filter_prefix _ s s1 fun k hk => ?_
  rw [decide_eq_true_iff]
  constructor
  · intro e
    by_cases z : k < s
    · exact z
    · exact absurd e (s3 k (by omega) hk (by omega) (by omega))
  · exact s2 k
def ringOf (p q : List Nat) : List Nat := p.drop (same p q - 1) ++ (q.drop (same p q)).reverse
theorem Ways.ring (h : Ways m E W) (sym : ∀ i j, E i j = E j i) {i j : Nat} (hi : i < m) (hj : j < m) (he : E i j = true) (hp : (W i).length % 2 = (W j).length % 2) : RingOk m E (ringOf (W i) (W j)) := by
  obtain ⟨s, es, s1, si, sj, al, un⟩ := h.fork hi hj (h.head i j hi hj he)
  unfold ringOf
  rw [es]
  generalize hP : W i = p at *
  generalize hQ : W j = q at *
  have pa : ∀ k, k < p.length → ∃ x, p[k]? = some x ∧ x < m := fun k hk => by
    obtain ⟨x, a, b, _⟩ := h.at hi (k := k) (by rw [hP]; exact hk)
    rw [hP] at a
    exact ⟨x, a, b⟩
  have qa : ∀ k, k < q.length → ∃ x, q[k]? = some x ∧ x < m := fun k hk => by
    obtain ⟨x, a, b, _⟩ := h.at hj (k := k) (by rw [hQ]; exact hk)
    rw [hQ] at a
    exact ⟨x, a, b⟩
  have hlen : (p.drop (s - 1) ++ (q.drop s).reverse).length = p.length - (s - 1) + (q.length - s) := by simp
  -- what stands at k
  have atp : ∀ k, k < p.length - (s - 1) → (p.drop (s - 1) ++ (q.drop s).reverse)[k]? = p[s - 1 + k]? := fun k hk => by
    rw [List.getElem?_append_left (by simpa using hk), List.getElem?_drop]
  have atq : ∀ k, k < q.length - s → (p.drop (s - 1) ++ (q.drop s).reverse)[p.length - (s - 1) + k]? = q[q.length - 1 - k]? := fun k hk => by
    rw [List.getElem?_append_right (by simp)]
    rw [List.length_drop, Nat.add_sub_cancel_left, List.getElem?_reverse (by simpa using hk), List.length_drop, List.getElem?_drop]
    congr 1
    omega
  have getD_of : ∀ (l : List Nat) (k x : Nat), l[k]? = some x → l.getD k 0 = x := fun l k x e => by rw [List.getD_eq_getElem?_getD, e]; rfl
  have pl : p[p.length - 1]? = some i := by have := h.last hi; rwa [hP] at this
  have ql : q[q.length - 1]? = some j := by have := h.last hj; rwa [hQ] at this
  have pe : ∀ k, k + 1 < p.length → ∃ x y, p[k]? = some x ∧ p[k + 1]? = some y ∧ E x y = true := fun k hk => by
    have := h.edge hi (k := k) (by rw [hP]; exact hk)
    rwa [hP] at this
  have qe : ∀ k, k + 1 < q.length → ∃ x y, q[k]? = some x ∧ q[k + 1]? = some y ∧ E x y = true := fun k hk => by
    have := h.edge hj (k := k) (by rw [hQ]; exact hk)
    rwa [hQ] at this
  refine ⟨by rw [hlen]; omega, fun x hx => ?_, ?_, fun k hk => ?_⟩
  · rcases List.mem_append.mp hx with hx | hx
    · obtain ⟨k, hk⟩ := List.mem_iff_getElem?.mp hx
      rw [List.getElem?_drop] at hk
      obtain ⟨y, a, b⟩ := pa _ (List.getElem?_eq_some_iff.mp hk).1
      rw [hk] at a; cases a; exact b
    · obtain ⟨k, hk⟩ := List.mem_iff_getElem?.mp (List.mem_reverse.mp hx)
      rw [List.getElem?_drop] at hk
      obtain ⟨y, a, b⟩ := qa _ (List.getElem?_eq_some_iff.mp hk).1
      rw [hk] at a; cases a; exact b
  · have ndw : ∀ {i : Nat}, i < m → (W i).Nodup := fun {i} hi => by
      rw [List.nodup_iff_pairwise_ne, List.pairwise_iff_getElem]
      intro a b ha hb hab e
      have := (h.alike hi hi (List.getElem?_eq_getElem ha) (by rw [List.getElem?_eq_getElem hb, e])).1
      omega
    have np : p.Nodup := by rw [← hP]; exact ndw hi
    have nq : q.Nodup := by rw [← hQ]; exact ndw hj
    refine List.nodup_append.mpr ⟨np.sublist (List.drop_sublist _ _), ?_, ?_⟩
    · exact List.pairwise_reverse.mpr ((nq.sublist (List.drop_sublist _ _)).imp fun h => Ne.symm h)
    · intro a ha b hb e
      subst e
      obtain ⟨k, hk⟩ := List.mem_iff_getElem?.mp ha
      obtain ⟨k', hk'⟩ := List.mem_iff_getElem?.mp (List.mem_reverse.mp hb)
      rw [List.getElem?_drop] at hk hk'
      have hk2 : (W i)[s - 1 + k]? = some a := by rw [hP]; exact hk
      have hk2' : (W j)[s + k']? = some a := by rw [hQ]; exact hk'
      have := (h.alike hi hj hk2 hk2').1
      have l1 := (List.getElem?_eq_some_iff.mp hk).1
      have l2 := (List.getElem?_eq_some_iff.mp hk').1
      exact un (s + k') (by omega) (by omega) (by omega) (by rw [hk', ← hk, this])
  · rw [hlen] at hk ⊢
    by_cases c1 : k + 1 < p.length - (s - 1)
    · obtain ⟨x, y, a, b, e⟩ := pe (s - 1 + k) (by omega)
      rw [Nat.mod_eq_of_lt (by omega), getD_of _ k x (by rw [atp k (by omega)]; exact a), getD_of _ (k + 1) y (by rw [atp (k + 1) c1, show s - 1 + (k + 1) = s - 1 + k + 1 by omega]; exact b)]
      exact e
    · by_cases c2 : k + 1 = p.length - (s - 1)
      · have hkp : (p.drop (s - 1) ++ (q.drop s).reverse).getD k 0 = i := getD_of _ k i (by rw [atp k (by omega), show s - 1 + k = p.length - 1 by omega]; exact pl)
        rw [hkp]
        by_cases c3 : s < q.length
        · have : (p.drop (s - 1) ++ (q.drop s).reverse).getD (k + 1) 0 = j := getD_of _ (k + 1) j (by
            have := atq 0 (by omega)
            rw [show k + 1 = p.length - (s - 1) + 0 by omega, this]
            simpa using ql)
          rw [Nat.mod_eq_of_lt (by omega), this]
          exact he
        · have eq : q.length = s := by omega
          have : (p.drop (s - 1) ++ (q.drop s).reverse).getD 0 0 = j := getD_of _ 0 j (by
            rw [atp 0 (by omega), show s - 1 + 0 = s - 1 by omega, al (s - 1) (by omega), show s - 1 = q.length - 1 by omega]
            exact ql)
          rw [show (k + 1) % (p.length - (s - 1) + (q.length - s)) = 0 by rw [show k + 1 = p.length - (s - 1) + (q.length - s) by omega, Nat.mod_self], this]
          exact he
      · obtain ⟨d, hd⟩ : ∃ d, k = p.length - (s - 1) + d := ⟨k - (p.length - (s - 1)), by omega⟩
        subst hd
        have hd1 : d < q.length - s := by omega
        by_cases c4 : d + 1 < q.length - s
        · obtain ⟨x, y, a, b, e⟩ := qe (q.length - 1 - (d + 1)) (by omega)
          rw [Nat.mod_eq_of_lt (by omega), getD_of _ _ y (by rw [atq d hd1, show q.length - 1 - d = q.length - 1 - (d + 1) + 1 by omega]; exact b), show p.length - (s - 1) + d + 1 = p.length - (s - 1) + (d + 1) by omega, getD_of _ _ x (by rw [atq (d + 1) c4]; exact a), sym]
          exact e
        · obtain ⟨x, y, a, b, e⟩ := qe (s - 1) (by omega)
          rw [show s - 1 + 1 = s by omega] at b
          rw [getD_of _ _ y (by rw [atq d hd1, show q.length - 1 - d = s by omega]; exact b), show (p.length - (s - 1) + d + 1) % (p.length - (s - 1) + (q.length - s)) = 0 by rw [show p.length - (s - 1) + d + 1 = p.length - (s - 1) + (q.length - s) by omega, Nat.mod_self], getD_of _ 0 x (by rw [atp 0 (by omega), show s - 1 + 0 = s - 1 by omega, al (s - 1) (by omega)]; exact a), sym]
          exact e
end
end Mine
namespace Mine
/-! the search that goes level by level -/
theorem nd_len : ∀ (m : Nat) (F : List Nat), F.Nodup → (∀ i ∈ F, i < m) → F.length ≤ m
  | 0, F, _, h => by
    cases F with
    | nil => simp
    | cons a r => exact absurd (h a List.mem_cons_self) (by omega)
  | m + 1, F, nd, h => by
    by_cases hm : m ∈ F
    · have := nd_len m (F.erase m) (nd.erase m) fun i hi => by
        have h1 := (nd.mem_erase_iff.mp hi)
        have := h i h1.2
        have := h1.1
        omega
      rw [List.length_erase_of_mem hm] at this
      omega
    · have := nd_len m F nd fun i hi => by
        have := h i hi
        have : i ≠ m := fun e => hm (e ▸ hi)
        omega
      omega
structure Bfs (m : Nat) (E : Nat → Nat → Bool) (F : List Nat) (W : Nat → List Nat) (q : List Nat) : Prop where
  lt : ∀ i ∈ F, i < m
  nd : F.Nodup
  step : ∀ i ∈ F, W i = [i] ∨ ∃ j, j ∈ F ∧ E j i = true ∧ W i = W j ++ [i]
  sub : ∀ i ∈ q, i ∈ F
  qhead : ∃ r, ∀ i ∈ q, (W i).head? = some r
  done : ∀ i ∈ F, i ∉ q → ∀ j, j < m → E i j = true → j ∈ F ∧ (W i).head? = (W j).head?
section
variable {m : Nat} {E : Nat → Nat → Bool} {F : List Nat} {W : Nat → List Nat} {q : List Nat}
theorem Bfs.nil : Bfs m E [] W [] := ⟨fun _ h => absurd h List.not_mem_nil, List.nodup_nil, fun _ h => absurd h List.not_mem_nil, fun _ h => absurd h List.not_mem_nil, ⟨0, fun _ h => absurd h List.not_mem_nil⟩, fun _ h => absurd h List.not_mem_nil⟩
theorem Bfs.start (h : Bfs m E F W []) {s : Nat} (hs : s < m) (hn : s ∉ F) {W' : Nat → List Nat} (old : ∀ i ∈ F, W' i = W i) (new : W' s = [s]) : Bfs m E (F ++ [s]) W' [s] := by
  refine ⟨fun i hi => ?_, ?_, fun i hi => ?_, fun i hi => List.mem_append_right _ hi, ⟨s, fun i hi => ?_⟩, fun i hi hq j hj he => ?_⟩
  · rcases List.mem_append.mp hi with hi | hi
    · exact h.lt i hi
    · rw [List.mem_singleton.mp hi]; exact hs
  · refine List.nodup_append.mpr ⟨h.nd, by simp, fun a ha b hb e => hn ?_⟩
    rw [List.mem_singleton] at hb
    rw [← hb, ← e]; exact ha
  · rcases List.mem_append.mp hi with hi | hi
    · rw [old i hi]
      rcases h.step i hi with e | ⟨j, hj, he, e⟩
      · exact .inl e
      · exact .inr ⟨j, List.mem_append_left _ hj, he, by rw [old j hj]; exact e⟩
    · rw [List.mem_singleton.mp hi]
      exact .inl new
  · rw [List.mem_singleton.mp hi, new]; rfl
  · rcases List.mem_append.mp hi with hi | hi
    · obtain ⟨h1, h2⟩ := h.done i hi List.not_mem_nil j hj he
      exact ⟨List.mem_append_left _ h1, by rw [old i hi, old j h1]; exact h2⟩
    · exact absurd hi hq
theorem Bfs.pop (sym : ∀ i j, E i j = E j i) {h0 : Nat} {r new : List Nat} (h : Bfs m E F W (h0 :: r)) (hn : ∀ k, k ∈ new ↔ k < m ∧ E h0 k = true ∧ k ∉ F) (nn : new.Nodup)
    {W' : Nat → List Nat} (old : ∀ i ∈ F, W' i = W i) (nw : ∀ i ∈ new, W' i = W h0 ++ [i]) : Bfs m E (F ++ new) W' (r ++ new) := by
  have hF : h0 ∈ F := h.sub h0 List.mem_cons_self
  obtain ⟨r0, hr0⟩ := h.qhead
  have hh : (W h0).head? = some r0 := hr0 h0 List.mem_cons_self
  have hd : ∀ k, (W h0 ++ [k]).head? = some r0 := fun k => by
    cases z : W h0 with
    | nil => rw [z] at hh; cases hh
    | cons a t => rw [z] at hh; simpa using hh
  refine ⟨fun i hi => ?_, ?_, fun i hi => ?_, fun i hi => ?_, ⟨r0, fun i hi => ?_⟩, fun i hi hq j hj he => ?_⟩
  · rcases List.mem_append.mp hi with hi | hi
    · exact h.lt i hi
    · exact ((hn i).mp hi).1
  · refine List.nodup_append.mpr ⟨h.nd, nn, fun a ha b hb e => ((hn b).mp hb).2.2 (e ▸ ha)⟩
  · rcases List.mem_append.mp hi with hi | hi
    · rw [old i hi]
      rcases h.step i hi with e | ⟨j, hj, he, e⟩
      · exact .inl e
      · exact .inr ⟨j, List.mem_append_left _ hj, he, by rw [old j hj]; exact e⟩
    · refine .inr ⟨h0, List.mem_append_left _ hF, ((hn i).mp hi).2.1, ?_⟩
      rw [nw i hi, old h0 hF]
  · rcases List.mem_append.mp hi with hi | hi
    · exact List.mem_append_left _ (h.sub i (List.mem_cons_of_mem _ hi))
    · exact List.mem_append_right _ hi
  · rcases List.mem_append.mp hi with hi | hi
    · rw [old i (h.sub i (List.mem_cons_of_mem _ hi))]
      exact hr0 i (List.mem_cons_of_mem _ hi)
    · rw [nw i hi]; exact hd i
  · have hq1 : i ∉ r := fun z => hq (List.mem_append_left _ z)
    have hq2 : i ∉ new := fun z => hq (List.mem_append_right _ z)
    have hiF : i ∈ F := (List.mem_append.mp hi).resolve_right hq2
    by_cases e0 : i = h0
    · subst e0
      by_cases hjF : j ∈ F
      · refine ⟨List.mem_append_left _ hjF, ?_⟩
        rw [old i hiF, old j hjF]
        by_cases hjq : j ∈ i :: r
        · rw [hh, hr0 j hjq]
        · exact (h.done j hjF hjq i (h.lt i hiF) (by rw [sym]; exact he)).2.symm
      · have hjn : j ∈ new := (hn j).mpr ⟨hj, he, hjF⟩
        refine ⟨List.mem_append_right _ hjn, ?_⟩
        rw [old i hiF, nw j hjn, hh, hd j]
    · obtain ⟨h1, h2⟩ := h.done i hiF (fun z => (List.mem_cons.mp z).elim e0 hq1) j hj he
      exact ⟨List.mem_append_left _ h1, by rw [old i hiF, old j h1]; exact h2⟩
theorem Bfs.ways (h : Bfs m E F W []) (all : ∀ i, i < m → i ∈ F) : Ways m E W where
  step := fun i hi => by
    rcases h.step i (all i hi) with e | ⟨j, hj, he, e⟩
    · exact .inl e
    · exact .inr ⟨j, h.lt j hj, he, e⟩
  head := fun i j hi hj he => (h.done i (all i hi) List.not_mem_nil j hj he).2
theorem Bfs.len (h : Bfs m E F W q) : F.length ≤ m := nd_len m F h.nd h.lt
end
/-! apartness goes both ways -/
theorem common_len {a b : List Int} (ha : a.Nodup) (hb : b.Nodup) : (a.filter fun x => decide (x ∈ b)).length = (b.filter fun x => decide (x ∈ a)).length := by
  have h : ∀ {a b : List Int}, a.Nodup → b.Nodup → (∀ x, x ∈ a → x ∈ b) → a.length ≤ b.length := by
    intro a
    induction a with
    | nil => intro b _ _ _; exact Nat.zero_le _
    | cons x r ih =>
      intro b ha hb hs
      have hx := hs x List.mem_cons_self
      have := ih (b := b.erase x) (List.nodup_cons.mp ha).2 (hb.erase x) fun y hy => hb.mem_erase_iff.mpr ⟨fun e => (List.nodup_cons.mp ha).1 (e ▸ hy), hs y (List.mem_cons_of_mem _ hy)⟩
      rw [List.length_erase_of_mem hx] at this
      have := List.length_pos_iff.mpr (List.ne_nil_of_mem hx)
      rw [List.length_cons]
      omega
  apply Nat.le_antisymm
  · refine h (ha.sublist List.filter_sublist) (hb.sublist List.filter_sublist) fun x hx => ?_
    rw [List.mem_filter] at hx ⊢
    exact ⟨of_decide_eq_true hx.2, decide_eq_true hx.1⟩
  · refine h (hb.sublist List.filter_sublist) (ha.sublist List.filter_sublist) fun x hx => ?_
    rw [List.mem_filter] at hx ⊢
    exact ⟨of_decide_eq_true hx.2, decide_eq_true hx.1⟩
end Mine
namespace Mine
open PySem PySem.Spec L2 PyProof.Rows DL
section
variable {P : Program} {w : World} {K : PySem.W.Frag} {base : Heap} {mg : Str → Option Value}
theorem GrpOk.nd {a : List Int} (h : GrpOk a) : a.Nodup := h.asc.imp fun q => by omega
theorem apart_symm {a b : List Int} (ha : a.Nodup) (hb : b.Nodup) : apart a b = apart b a := by
  have e := common_len ha hb
  have z : ∀ l : List Int, l.isEmpty = decide (l.length = 0) := fun l => by cases l <;> simp
  unfold apart
  simp only [z, e]
  generalize (b.filter fun x => decide (x ∈ a)).length = k
  by_cases h1 : k = 0 <;> by_cases h2 : k = a.length <;> by_cases h3 : k = b.length <;> simp_all
theorem Ed_symm {gs : List (List Int)} (ok : GsOk gs) (i j : Nat) : Ed gs i j = Ed gs j i := by
  have nd : ∀ i, (gs.getD i []).Nodup := fun i => by
    by_cases h : i < gs.length
    · exact (ok.each _ (getD_mem h)).nd
    · rw [List.getD_eq_getElem?_getD, List.getElem?_eq_none (by omega)]
      exact List.nodup_nil
  unfold Ed
  rw [apart_symm (nd i) (nd j)]
/-- what the search has found -/
def encF (F : List Nat) (W : Nat → List Nat) : List (Key × D) := F.map fun i => (Sum.inl ((i : Nat) : Int), D.tup (dN (W i)))
theorem encF_congr {F : List Nat} {W W' : Nat → List Nat} (h : ∀ i ∈ F, W' i = W i) : encF F W' = encF F W := by
  unfold encF
  apply List.map_congr_left
  intro i hi
  rw [h i hi]
theorem look_encF {F : List Nat} {W : Nat → List Nat} {i : Nat} : lookD (encF F W) (.inl (i : Int)) = if i ∈ F then some (D.tup (dN (W i))) else none := by
  induction F with
  | nil => rfl
  | cons a r ih =>
    unfold lookD encF at ih ⊢
    rw [List.map_cons, List.find?_cons]
    by_cases e : a = i
    · subst e
      simp
    · have e2 : ¬ (Sum.inl (a : Int) : Key) = .inl (i : Int) := fun z => e (by injection z with z; omega)
      simp only [decide_eq_false e2]
      rw [ih]
      by_cases h : i ∈ r
      · rw [if_pos h, if_pos (List.mem_cons_of_mem _ h)]
      · rw [if_neg h, if_neg (fun z => (List.mem_cons.mp z).elim (fun q => e q.symm) h)]
theorem put_encF {F : List Nat} {W : Nat → List Nat} {i : Nat} {v : D} (h : i ∉ F) : putD (encF F W) (.inl (i : Int)) v = encF F W ++ [(.inl (i : Int), v)] := by
  unfold putD
  rw [if_neg]
  intro q
  obtain ⟨kv, h1, h2⟩ := List.any_eq_true.mp q
  unfold encF at h1
  obtain ⟨a, ha, rfl⟩ := List.mem_map.mp h1
  have e := of_decide_eq_true h2
  injection e with e
  exact h (by have : a = i := by omega
              rw [← this]; exact ha)
theorem encF_snoc {F : List Nat} {W W' : Nat → List Nat} {i : Nat} (old : ∀ k ∈ F, W' k = W k) : encF (F ++ [i]) W' = encF F W ++ [(.inl (i : Int), D.tup (dN (W' i)))] := by
  have e : encF F W = encF F W' := (encF_congr old).symm
  rw [e]
  unfold encF
  rw [List.map_append]
  rfl
theorem okd_dN {k : Nat} {l : List Nat} : okd (k + 1) (.lst (dN l)) = true := okd_lst fun d hd => by
  obtain ⟨i, _, rfl⟩ := List.mem_map.mp hd
  exact okd_int
theorem dN_empty {l : List Nat} : (dN l).isEmpty = l.isEmpty := by cases l <;> rfl
theorem dN_nb {l : List Nat} : nbs (dN l) := nbs_map fun _ => trivial
def F_levels_of : FD := fun xs n P => ∃ d gs, xs = [d] ∧ SeqD d (dG gs) ∧ GsOk gs ∧ ∀ F W, (∀ i, i < gs.length → i ∈ F) → Ways gs.length (Ed gs) W → P (.dic (encF F W)) n
theorem ok_levels_of (T : Top K mg) : FnOk P w K mg base CX0 3 T.f_levels_of.a T.f_levels_of.fd ["groups"] (spD K F_levels_of) := by
  refine dfun T.f_levels_of.F sc_levels_of ?_ (fun cdv A outer s H E b hr => (dss_cons (ds_asg (i := 1) sc_levels_of.nd dx_newK) (dss_cons (ds_for PassesOwn.never rfl (fun b => (di_range1 T.n_range (da_cons (de_callB cr_lenAll sd_len (by rfl) T.n_len (by decide +kernel) (dab_cons (DE.toB (dv 0)) dab_nil)) da_nil))) (fun b => (dg_name 2 sc_levels_of.nd)) (fun b => (dss_cons (ds_asg (i := 3) sc_levels_of.nd (DF.toX (df_if (dt_din (hu_of hr) (DE.toB (dv 2)) (dvb 1)) (df_lst da_nil) (df_lst (da_cons (dv 2) da_nil))))) (dss_cons (ds_if (dt_cmp (op_neD hr.units) sd_ne (dvb 3) (DE.toB (DF.toE (df_lst da_nil))) (nomark _)) (dss_one (ds_dput 1 (hu_of hr) (de_tup (da_cons (dv 2) da_nil)) (dv 2))) dss_nil) (dss_one (ds_while PassesOwn.never (dt_cmp (op_neD hr.units) sd_ne (dvb 3) (DE.toB (DF.toE (df_lst da_nil))) (nomark _)) (dss_cons (ds_popAsg (j := 4) (have ha := de_int; pe_pop 3 ha) sc_levels_of.nd) (dss_cons (ds_setLcV (i := 5) [("other", 6)] rfl sc_levels_of.nd (di_seq (de_call (ok_crossing T) (hr.mono (by decide)) T.f_crossing.m T.f_crossing.F.kp T.f_crossing.b pass0 (da_cons (dv 0) (da_cons (dv 4) da_nil)))) (by rfl) (fun _ _ _ _ _ => (dg_name 6 sc_levels_of.nd)) (fun _ _ _ _ _ => (dts_one (dt_dnotin (hu_of hr) (DE.toB (dv 6)) (dvb 1)))) (fun _ _ _ _ _ => (dv 6))) (dss_cons (ds_for PassesOwn.never rfl (fun b => (di_seq (dv 5))) (fun b => (dg_name 6 sc_levels_of.nd)) (fun b => (dss_one (ds_dput 1 (hu_of hr) (de_tup (da_star (de_dget (hu_of hr) (dvb 1) (DE.toB (dv 4)) (fun _ _ => rfl)) (da_cons (dv 6) da_nil))) (dv 6))))) (dss_one (have ha := (dv 5); ds_ext 3 ha))))))))))) (dss_free 1 (dss_one (ds_ret (dv 1))))))) ?_
  · rintro ds n Q ⟨d, gs, rfl, _⟩
    rfl
  · rintro ds n Q ⟨d, gs, rfl, hs, ok, h⟩
    have h1 := ok.pos
    have h2 := ok.most
    have hl : (dG gs).length = gs.length := List.length_map ..
    have hseq : wFor (wIt1 (wCons (wC dLen (wCons (wVar 0) wNil)) wNil)) = wFor (wIt1 (wCons (wC dLen (wCons (wVar 0) wNil)) wNil)) := rfl
    suffices hh : ∀ DD : DEnds, (∀ F W a2 a3 a4 a5 a6, (∀ i, i < gs.length → i ∈ F) → Ways gs.length (Ed gs) W → DD.nx [some (Sl.val d), some (Sl.ownK (encF F W)), a2, a3, a4, a5, a6] n) →
        loopD (gN 2) _ DD (rangeD 0 (gs.length : Int)) [some (Sl.val d), some (Sl.ownK []), none, none, none, none, none] n by
      rcases hs with rfl | rfl
      · simp only [wSeq, wAsg, wNewK, wFor, wIt1, wCons, wC, wVar, wNil, startD, List.map_cons, List.map_nil, List.length_cons, List.length_nil, List.replicate_succ, List.replicate_zero, List.cons_append, List.nil_append, List.getElem?_cons_zero, List.set_cons_succ, List.set_cons_zero, dLen, hl, Nat.reduceSub, Nat.reduceAdd]
        refine ⟨by omega, hh _ fun F W a2 a3 a4 a5 a6 q1 q2 => ?_⟩
        simp only [wRet, wAnd_s, wOr_s, bsel_bl, wIfF, keyD, DL.wNot, wUn, wOp, wC, wCF, wVar, wVarB, wK, wChain_s, wB, wAndT, wOrT, wNotT, wIf, wNil, wCons, wTup, wLst, wV, wO, wNext, wSeq, wNever, wBreak, wCont, wRetN, wDrop, wIfS, wAsg, wPar, wFree, freeD, wApp0, wApp, wCall, gN, gT, setD, wIt, wIt1, wIt2, wFor, wLc, wYes, wOf, wOfK, wOK, wDc, wRg1, wRg2, wONo, wOSo, wSlL, wSl, wRevL, wRevT, wDput, popK, wPopAsg, wPopTup, wAppPop, wExt, wCallN, pick, wStar, wUnpA, wIndex, wRep, wTupF, wStepT, wBoxIx_0, wBoxIx_1, wBoxIx_2, wBoxIx_3, wBoxTo, wBoxInc, wBoxOf, wNo, wSortedSet, wNewK, dI0, dI2, dAdd, dMul, dIx, dLen, dAbs, dInt, dIsi, dIsiT, dEq, dNe, dIn, dIsN, dNotN, dIsB, dMin2, dMax2, dList, dTuple, dDget, dDin, startD, wipeD, List.map_cons, List.map_nil, List.length_cons, List.length_nil, List.replicate_succ, List.replicate_zero, List.cons_append, List.nil_append, List.getElem?_cons_zero, List.getElem?_cons_succ, List.set_cons_zero, List.set_cons_succ, Nat.reduceAdd, Nat.reduceSub, if_true, Bool.false_eq_true, if_false, reduceIte, Option.isSome_some, Option.isSome_none, true_and, and_true, List.map_nil]
        exact h F W q1 q2
      · simp only [wSeq, wAsg, wNewK, wFor, wIt1, wCons, wC, wVar, wNil, startD, List.map_cons, List.map_nil, List.length_cons, List.length_nil, List.replicate_succ, List.replicate_zero, List.cons_append, List.nil_append, List.getElem?_cons_zero, List.set_cons_succ, List.set_cons_zero, dLen, hl, Nat.reduceSub, Nat.reduceAdd]
        refine ⟨by omega, hh _ fun F W a2 a3 a4 a5 a6 q1 q2 => ?_⟩
        simp only [wRet, wAnd_s, wOr_s, bsel_bl, wIfF, keyD, DL.wNot, wUn, wOp, wC, wCF, wVar, wVarB, wK, wChain_s, wB, wAndT, wOrT, wNotT, wIf, wNil, wCons, wTup, wLst, wV, wO, wNext, wSeq, wNever, wBreak, wCont, wRetN, wDrop, wIfS, wAsg, wPar, wFree, freeD, wApp0, wApp, wCall, gN, gT, setD, wIt, wIt1, wIt2, wFor, wLc, wYes, wOf, wOfK, wOK, wDc, wRg1, wRg2, wONo, wOSo, wSlL, wSl, wRevL, wRevT, wDput, popK, wPopAsg, wPopTup, wAppPop, wExt, wCallN, pick, wStar, wUnpA, wIndex, wRep, wTupF, wStepT, wBoxIx_0, wBoxIx_1, wBoxIx_2, wBoxIx_3, wBoxTo, wBoxInc, wBoxOf, wNo, wSortedSet, wNewK, dI0, dI2, dAdd, dMul, dIx, dLen, dAbs, dInt, dIsi, dIsiT, dEq, dNe, dIn, dIsN, dNotN, dIsB, dMin2, dMax2, dList, dTuple, dDget, dDin, startD, wipeD, List.map_cons, List.map_nil, List.length_cons, List.length_nil, List.replicate_succ, List.replicate_zero, List.cons_append, List.nil_append, List.getElem?_cons_zero, List.getElem?_cons_succ, List.set_cons_zero, List.set_cons_succ, Nat.reduceAdd, Nat.reduceSub, if_true, Bool.false_eq_true, if_false, reduceIte, Option.isSome_some, Option.isSome_none, true_and, and_true, List.map_nil]
        exact h F W q1 q2
    clear hseq
    intro DD hend
    refine loopD_ind (fun r ρ n' => n' = n ∧ ∃ k F W a2 a3 a4 a5 a6, r = ((List.range gs.length).drop k).map (fun k : Nat => D.int ((k : Nat) : Int)) ∧ ρ = [some (Sl.val d), some (Sl.ownK (encF F W)), a2, a3, a4, a5, a6] ∧ Bfs gs.length (Ed gs) F W [] ∧ (∀ i ∈ F, (W i).length ≤ F.length) ∧ ∀ i, i < k → i < gs.length → i ∈ F) ?_ ?_ _ _ _
      ⟨rfl, 0, [], fun _ => [], none, none, none, none, none, by rw [rangeD_nat]; rfl, rfl, Bfs.nil, fun i hi => absurd hi List.not_mem_nil, fun i hi => absurd hi (by omega)⟩
    · rintro ρ n' ⟨rfl, k, F, W, a2, a3, a4, a5, a6, hr, rfl, hb, hwl, hk⟩
      have hk2 : gs.length ≤ k := by
        have := congrArg List.length hr
        simp at this
        omega
      have all : ∀ i, i < gs.length → i ∈ F := fun i hi => hk i (by omega) hi
      exact hend F W _ _ _ _ _ all (hb.ways all)
    · rintro x r ρ n' N ⟨rfl, k, F, W, a2, a3, a4, a5, a6, hr, rfl, hb, hwl, hk⟩ hN
      have hkl : k < gs.length := by
        have := congrArg List.length hr
        simp at this
        omega
      rw [List.drop_eq_getElem_cons (by simpa using hkl), List.map_cons, List.getElem_range] at hr
      injection hr with hx hr
      subst hx
      have flat := hb.len
      have loop : ∀ F W q a4 a5 a6, Bfs gs.length (Ed gs) F W q → (∀ i, i < k → i < gs.length → i ∈ F) → k ∈ F → q.length ≤ F.length → (∀ i ∈ F, (W i).length ≤ F.length) → wWhile (wB (wOp dNe (wVarB 3) (wOf (wLst wNil))))
          (wSeq (wPopAsg 4 3 (wK (D.int 0))) (wSeq (wAsg 5 (wV (wOf (wLc (wIt (wCall F_crossing (wCons (wVar 0) (wCons (wVar 4) wNil)))) (gN 6) (wB (wOp (dDin true) (wVar 6) (wVarB 1))) (wVar 6) [6]))))
            (wSeq (wFor (wIt (wVar 5)) (gN 6) (wDput 1 (wTup (wStar (wOp dDget (wVarB 1) (wVar 4)) (wCons (wVar 6) wNil))) (wVar 6))) (wExt 3 (wVar 5)))))
          { nx := N, rt := DD.rt, bk := DD.nx, ct := N } [some (Sl.val d), some (Sl.ownK (encF F W)), some (Sl.val (.int (k : Int))), some (Sl.own (dN q)), a4, a5, a6] n' := by
        intro F W q a4 a5 a6 b0 b1 b2 b3 b4
        refine ⟨fun mm ρ n2 => n2 = n' ∧ ∃ F W q a4 a5 a6, ρ = [some (Sl.val d), some (Sl.ownK (encF F W)), some (Sl.val (.int (k : Int))), some (Sl.own (dN q)), a4, a5, a6] ∧ Bfs gs.length (Ed gs) F W q ∧ (∀ i, i < k → i < gs.length → i ∈ F) ∧ k ∈ F ∧ q.length ≤ F.length ∧ (∀ i ∈ F, (W i).length ≤ F.length) ∧ mm = 2 * (gs.length - F.length) + q.length,
          ⟨_, rfl, F, W, q, a4, a5, a6, rfl, b0, b1, b2, b3, b4, rfl⟩, ?_⟩
        clear b0 b1 b2 b3 b4
        rintro mm ρ n2 ⟨rfl, F, W, q, a4, a5, a6, rfl, b0, b1, b2, b3, b4, rfl⟩
        cases q with
        | nil =>
          simp only [wRet, wAnd_s, wOr_s, bsel_bl, wIfF, keyD, DL.wNot, wUn, wOp, wC, wCF, wVar, wVarB, wK, wChain_s, wB, wAndT, wOrT, wNotT, wIf, wNil, wCons, wTup, wLst, wV, wO, wNext, wSeq, wNever, wBreak, wCont, wRetN, wDrop, wIfS, wAsg, wPar, wFree, freeD, wApp0, wApp, wCall, gN, gT, setD, wIt, wIt1, wIt2, wFor, wLc, wYes, wOf, wOfK, wOK, wDc, wRg1, wRg2, wONo, wOSo, wSlL, wSl, wRevL, wRevT, wDput, popK, wPopAsg, wPopTup, wAppPop, wExt, wCallN, pick, wStar, wUnpA, wIndex, wRep, wTupF, wStepT, wBoxIx_0, wBoxIx_1, wBoxIx_2, wBoxIx_3, wBoxTo, wBoxInc, wBoxOf, wNo, wSortedSet, wNewK, dI0, dI2, dAdd, dMul, dIx, dLen, dAbs, dInt, dIsi, dIsiT, dEq, dNe, dIn, dIsN, dNotN, dIsB, dMin2, dMax2, dList, dTuple, dDget, dDin, startD, wipeD, List.map_cons, List.map_nil, List.length_cons, List.length_nil, List.replicate_succ, List.replicate_zero, List.cons_append, List.nil_append, List.getElem?_cons_zero, List.getElem?_cons_succ, List.set_cons_zero, List.set_cons_succ, Nat.reduceAdd, Nat.reduceSub, if_true, Bool.false_eq_true, if_false, reduceIte, Option.isSome_some, Option.isSome_none, true_and, and_true, List.map_nil, nbs, okd_dN, okd_lnil, eqd_lnil, dN_empty, List.isEmpty_nil, Bool.not_true]
          refine ⟨by omega, hN _ _ ⟨rfl, k + 1, F, W, _, _, _, _, _, hr, rfl, b0, b4, fun i hi hil => ?_⟩⟩
          by_cases z : i = k
          · subst z; exact b2
          · exact b1 i (by omega) hil
        | cons h0 r0 =>
          have hF0 : h0 ∈ F := b0.sub h0 List.mem_cons_self
          have hlt0 := b0.lt h0 hF0
          have hFl := b0.len
          have hW0 := b4 h0 hF0
          rw [List.length_cons] at b3
          simp only [wRet, wAnd_s, wOr_s, bsel_bl, wIfF, keyD, DL.wNot, wUn, wOp, wC, wCF, wVar, wVarB, wK, wChain_s, wB, wAndT, wOrT, wNotT, wIf, wNil, wCons, wTup, wLst, wV, wO, wNext, wSeq, wNever, wBreak, wCont, wRetN, wDrop, wIfS, wAsg, wPar, wFree, freeD, wApp0, wApp, wCall, gN, gT, setD, wIt, wIt1, wIt2, wFor, wLc, wYes, wOf, wOfK, wOK, wDc, wRg1, wRg2, wONo, wOSo, wSlL, wSl, wRevL, wRevT, wDput, popK, wPopAsg, wPopTup, wAppPop, wExt, wCallN, pick, wStar, wUnpA, wIndex, wRep, wTupF, wStepT, wBoxIx_0, wBoxIx_1, wBoxIx_2, wBoxIx_3, wBoxTo, wBoxInc, wBoxOf, wNo, wSortedSet, wNewK, dI0, dI2, dAdd, dMul, dIx, dLen, dAbs, dInt, dIsi, dIsiT, dEq, dNe, dIn, dIsN, dNotN, dIsB, dMin2, dMax2, dList, dTuple, dDget, dDin, startD, wipeD, List.map_cons, List.map_nil, List.length_cons, List.length_nil, List.replicate_succ, List.replicate_zero, List.cons_append, List.nil_append, List.getElem?_cons_zero, List.getElem?_cons_succ, List.set_cons_zero, List.set_cons_succ, Nat.reduceAdd, Nat.reduceSub, if_true, Bool.false_eq_true, if_false, reduceIte, Option.isSome_some, Option.isSome_none, true_and, and_true, List.map_nil, nbs, okd_dN, okd_lnil, eqd_lnil, dN_empty, List.isEmpty_cons, Bool.not_false, show dN (h0 :: r0) = D.int (h0 : Int) :: dN r0 from rfl, Int.toNat_zero, List.eraseIdx_cons_zero]
          refine ⟨by omega, okd_dN (l := h0 :: r0), ⟨_, rfl⟩, ⟨by omega, by omega⟩, d, gs, h0, rfl, hs, ok, hlt0, ?_⟩
          have hal : (adj gs h0).length ≤ gs.length := by
            refine Nat.le_trans (List.length_filter_le _ _) ?_
            rw [List.length_range]
            exact Nat.le_refl _
          refine lcD_if (fun k : Nat => D.int ((k : Nat) : Int)) (fun x => decide (x ∉ F)) (fun k : Nat => D.int ((k : Nat) : Int)) (fun x hx A B hk k ea eb => ?_) (fun _ => trivial) (by omega) ?_
          · subst ea eb
            simp only [wRet, wAnd_s, wOr_s, bsel_bl, wIfF, keyD, DL.wNot, wUn, wOp, wC, wCF, wVar, wVarB, wK, wChain_s, wB, wAndT, wOrT, wNotT, wIf, wNil, wCons, wTup, wLst, wV, wO, wNext, wSeq, wNever, wBreak, wCont, wRetN, wDrop, wIfS, wAsg, wPar, wFree, freeD, wApp0, wApp, wCall, gN, gT, setD, wIt, wIt1, wIt2, wFor, wLc, wYes, wOf, wOfK, wOK, wDc, wRg1, wRg2, wONo, wOSo, wSlL, wSl, wRevL, wRevT, wDput, popK, wPopAsg, wPopTup, wAppPop, wExt, wCallN, pick, wStar, wUnpA, wIndex, wRep, wTupF, wStepT, wBoxIx_0, wBoxIx_1, wBoxIx_2, wBoxIx_3, wBoxTo, wBoxInc, wBoxOf, wNo, wSortedSet, wNewK, dI0, dI2, dAdd, dMul, dIx, dLen, dAbs, dInt, dIsi, dIsiT, dEq, dNe, dIn, dIsN, dNotN, dIsB, dMin2, dMax2, dList, dTuple, dDget, dDin, startD, wipeD, List.map_cons, List.map_nil, List.length_cons, List.length_nil, List.replicate_succ, List.replicate_zero, List.cons_append, List.nil_append, List.getElem?_cons_zero, List.getElem?_cons_succ, List.set_cons_zero, List.set_cons_succ, Nat.reduceAdd, Nat.reduceSub, if_true, Bool.false_eq_true, if_false, reduceIte, Option.isSome_some, Option.isSome_none, true_and, and_true, List.map_nil, look_encF]
            by_cases z : x ∈ F
            · simp only [z, not_true_eq_false, decide_false, Bool.false_eq_true, if_false, if_true, Option.isSome_some, Bool.not_true] at hk ⊢
              exact hk
            · simp only [z, not_false_eq_true, decide_true, if_false, if_true, Option.isSome_none, Bool.not_false] at hk ⊢
              exact hk
          · generalize hnew : (adj gs h0).filter (fun x => decide (x ∉ F)) = new
            have hn : ∀ x, x ∈ new ↔ x < gs.length ∧ Ed gs h0 x = true ∧ x ∉ F := fun x => by
              rw [← hnew]
              unfold adj
              rw [List.mem_filter, List.mem_filter, List.mem_range, decide_eq_true_iff]
              exact ⟨fun ⟨⟨a, b⟩, c⟩ => ⟨a, b, c⟩, fun ⟨a, b, c⟩ => ⟨⟨a, b⟩, c⟩⟩
            have nn : new.Nodup := by
              rw [← hnew]
              exact (List.nodup_range.sublist List.filter_sublist).sublist List.filter_sublist
            have sym := Ed_symm ok
            clear hnew
            have done : ∀ {W' : Nat → List Nat}, (∀ i ∈ F, W' i = W i) → (∀ i ∈ new, W' i = W h0 ++ [i]) → Bfs gs.length (Ed gs) (F ++ new) W' (r0 ++ new) := fun o1 o2 => b0.pop sym hn nn o1 o2
            have hFn : F.length + new.length ≤ gs.length := by
              have := (done (W' := fun i => if i ∈ new then W h0 ++ [i] else W i) (fun i hi => if_neg fun z => ((hn i).mp z).2.2 hi) (fun i hi => if_pos hi)).len
              rwa [List.length_append] at this
            refine loopD_ind (fun r3 ρ n3 => n3 = n2 ∧ ∃ pre rest W' a6', new = pre ++ rest ∧ r3 = dN rest ∧ ρ = [some (Sl.val d), some (Sl.ownK (encF (F ++ pre) W')), some (Sl.val (.int (k : Int))), some (Sl.own (dN r0)), some (Sl.val (.int (h0 : Int))), some (Sl.val (.lst (dN new))), a6'] ∧ (∀ i ∈ F, W' i = W i) ∧ (∀ i ∈ pre, W' i = W h0 ++ [i])) ?_ ?_ _ _ _
              ⟨rfl, [], new, W, a6, rfl, rfl, by rw [List.append_nil]; rfl, fun _ _ => rfl, fun _ h => absurd h List.not_mem_nil⟩
            · rintro ρ n3 ⟨rfl, pre, rest, W', a6', en, er, rfl, o1, o2⟩
              have : rest = [] := by cases rest with
                | nil => rfl
                | cons _ _ => cases er
              subst this
              rw [List.append_nil] at en
              subst en
              simp only [wRet, wAnd_s, wOr_s, bsel_bl, wIfF, keyD, DL.wNot, wUn, wOp, wC, wCF, wVar, wVarB, wK, wChain_s, wB, wAndT, wOrT, wNotT, wIf, wNil, wCons, wTup, wLst, wV, wO, wNext, wSeq, wNever, wBreak, wCont, wRetN, wDrop, wIfS, wAsg, wPar, wFree, freeD, wApp0, wApp, wCall, gN, gT, setD, wIt, wIt1, wIt2, wFor, wLc, wYes, wOf, wOfK, wOK, wDc, wRg1, wRg2, wONo, wOSo, wSlL, wSl, wRevL, wRevT, wDput, popK, wPopAsg, wPopTup, wAppPop, wExt, wCallN, pick, wStar, wUnpA, wIndex, wRep, wTupF, wStepT, wBoxIx_0, wBoxIx_1, wBoxIx_2, wBoxIx_3, wBoxTo, wBoxInc, wBoxOf, wNo, wSortedSet, wNewK, dI0, dI2, dAdd, dMul, dIx, dLen, dAbs, dInt, dIsi, dIsiT, dEq, dNe, dIn, dIsN, dNotN, dIsB, dMin2, dMax2, dList, dTuple, dDget, dDin, startD, wipeD, List.map_cons, List.map_nil, List.length_cons, List.length_nil, List.replicate_succ, List.replicate_zero, List.cons_append, List.nil_append, List.getElem?_cons_zero, List.getElem?_cons_succ, List.set_cons_zero, List.set_cons_succ, Nat.reduceAdd, Nat.reduceSub, if_true, Bool.false_eq_true, if_false, reduceIte, Option.isSome_some, Option.isSome_none, true_and, and_true, List.map_nil]
              have el : (dN r0).length = r0.length := List.length_map ..
              have el2 : (dN new).length = new.length := List.length_map ..
              refine ⟨⟨_, rfl⟩, by omega, 2 * (gs.length - (F ++ new).length) + (r0 ++ new).length, ?_, F ++ new, W', r0 ++ new, some (Sl.val (.int (h0 : Int))), some (Sl.val (.lst (dN new))), a6', ?_, done o1 o2, fun i hi hil => List.mem_append_left _ (b1 i hi hil), List.mem_append_left _ b2, ?_, fun i hi => ?_, rfl⟩
              · rw [List.length_append, List.length_append]; omega
              · unfold dN; rw [List.map_append]
              · rw [List.length_append, List.length_append]; omega
              · rw [List.length_append]
                rcases List.mem_append.mp hi with hi | hi
                · rw [o1 i hi]; have := b4 i hi; omega
                · rw [o2 i hi, List.length_append]
                  have := List.length_pos_iff.mpr (List.ne_nil_of_mem hi)
                  have e1 : [i].length = 1 := rfl
                  omega
            · rintro x r3 ρ n3 N3 ⟨rfl, pre, rest, W', a6', en, er, rfl, o1, o2⟩ hN3
              cases rest with
              | nil => cases er
              | cons y rest =>
                injection er with ex er
                subst ex er
                have hy : y ∈ new := by rw [en]; simp
                have hyF : y ∉ F := ((hn y).mp hy).2.2
                have hyp : y ∉ pre := fun z => by
                  rw [en] at nn
                  exact (List.nodup_append.mp nn).2.2 y z y List.mem_cons_self rfl
                have hyA : y ∉ F ++ pre := fun z => (List.mem_append.mp z).elim hyF hyp
                have hh0 : h0 ∈ F ++ pre := List.mem_append_left _ hF0
                have wl : (dN (W h0)).length = (W h0).length := List.length_map ..
                have el : (encF (F ++ pre) W').length = F.length + pre.length := by unfold encF; rw [List.length_map, List.length_append]
                have el2 : pre.length ≤ new.length := by rw [en, List.length_append]; omega
                simp only [wRet, wAnd_s, wOr_s, bsel_bl, wIfF, keyD, DL.wNot, wUn, wOp, wC, wCF, wVar, wVarB, wK, wChain_s, wB, wAndT, wOrT, wNotT, wIf, wNil, wCons, wTup, wLst, wV, wO, wNext, wSeq, wNever, wBreak, wCont, wRetN, wDrop, wIfS, wAsg, wPar, wFree, freeD, wApp0, wApp, wCall, gN, gT, setD, wIt, wIt1, wIt2, wFor, wLc, wYes, wOf, wOfK, wOK, wDc, wRg1, wRg2, wONo, wOSo, wSlL, wSl, wRevL, wRevT, wDput, popK, wPopAsg, wPopTup, wAppPop, wExt, wCallN, pick, wStar, wUnpA, wIndex, wRep, wTupF, wStepT, wBoxIx_0, wBoxIx_1, wBoxIx_2, wBoxIx_3, wBoxTo, wBoxInc, wBoxOf, wNo, wSortedSet, wNewK, dI0, dI2, dAdd, dMul, dIx, dLen, dAbs, dInt, dIsi, dIsiT, dEq, dNe, dIn, dIsN, dNotN, dIsB, dMin2, dMax2, dList, dTuple, dDget, dDin, startD, wipeD, List.map_cons, List.map_nil, List.length_cons, List.length_nil, List.replicate_succ, List.replicate_zero, List.cons_append, List.nil_append, List.getElem?_cons_zero, List.getElem?_cons_succ, List.set_cons_zero, List.set_cons_succ, Nat.reduceAdd, Nat.reduceSub, if_true, Bool.false_eq_true, if_false, reduceIte, Option.isSome_some, Option.isSome_none, true_and, and_true, List.map_nil, look_encF, hh0, o1 h0 hF0, put_encF hyA]
                refine ⟨⟨_, rfl⟩, dN_nb, ?_, ?_, ⟨by omega, trivial⟩, ?_⟩
                · rw [List.length_append, wl]
                  show (W h0).length + 1 ≤ 1000000
                  omega
                · exact nbs_all fun d hd => by
                    rcases List.mem_append.mp hd with hd | hd
                    · obtain ⟨_, _, rfl⟩ := List.mem_map.mp hd; trivial
                    · rw [List.mem_singleton.mp hd]; trivial
                · refine hN3 _ _ ⟨rfl, pre ++ [y], rest, fun i => if i = y then W h0 ++ [y] else W' i, some (Sl.val (.int (y : Int))), by rw [en]; simp, rfl, ?_, fun i hi => ?_, fun i hi => ?_⟩
                  · have o3 : ∀ i ∈ F ++ pre, (if i = y then W h0 ++ [y] else W' i) = W' i := fun i hi => if_neg (fun z : i = y => hyA (z ▸ hi))
                    rw [← List.append_assoc, encF_snoc (W := W') (W' := fun i => if i = y then W h0 ++ [y] else W' i) o3]
                    simp only [if_true, dN, List.map_append, List.map_cons, List.map_nil]
                  · have o3 : (if i = y then W h0 ++ [y] else W' i) = W' i := if_neg (fun z : i = y => hyF (z ▸ hi))
                    exact o3.trans (o1 i hi)
                  · rcases List.mem_append.mp hi with hi | hi
                    · have o3 : (if i = y then W h0 ++ [y] else W' i) = W' i := if_neg (fun z : i = y => hyp (z ▸ hi))
                      exact o3.trans (o2 i hi)
                    · rw [List.mem_singleton.mp hi]
                      exact if_pos rfl
      by_cases hkF : k ∈ F
      · simp only [wRet, wAnd_s, wOr_s, bsel_bl, wIfF, keyD, DL.wNot, wUn, wOp, wC, wCF, wVar, wVarB, wK, wChain_s, wB, wAndT, wOrT, wNotT, wIf, wNil, wCons, wTup, wLst, wV, wO, wNext, wSeq, wNever, wBreak, wCont, wRetN, wDrop, wIfS, wAsg, wPar, wFree, freeD, wApp0, wApp, wCall, gN, gT, setD, wIt, wIt1, wIt2, wFor, wLc, wYes, wOf, wOfK, wOK, wDc, wRg1, wRg2, wONo, wOSo, wSlL, wSl, wRevL, wRevT, wDput, popK, wPopAsg, wPopTup, wAppPop, wExt, wCallN, pick, wStar, wUnpA, wIndex, wRep, wTupF, wStepT, wBoxIx_0, wBoxIx_1, wBoxIx_2, wBoxIx_3, wBoxTo, wBoxInc, wBoxOf, wNo, wSortedSet, wNewK, dI0, dI2, dAdd, dMul, dIx, dLen, dAbs, dInt, dIsi, dIsiT, dEq, dNe, dIn, dIsN, dNotN, dIsB, dMin2, dMax2, dList, dTuple, dDget, dDin, startD, wipeD, List.map_cons, List.map_nil, List.length_cons, List.length_nil, List.replicate_succ, List.replicate_zero, List.cons_append, List.nil_append, List.getElem?_cons_zero, List.getElem?_cons_succ, List.set_cons_zero, List.set_cons_succ, Nat.reduceAdd, Nat.reduceSub, if_true, Bool.false_eq_true, if_false, reduceIte, Option.isSome_some, Option.isSome_none, true_and, and_true, List.map_nil, look_encF, hkF, Option.isSome_some, nbs, okd_lnil, eqd_lnil, List.isEmpty_nil, Bool.not_true]
        refine ⟨by omega, by omega, ?_⟩
        exact loop F W [] _ _ _ hb hk hkF (by simp) hwl
      · have el : (encF F W).length = F.length := List.length_map ..
        simp only [wRet, wAnd_s, wOr_s, bsel_bl, wIfF, keyD, DL.wNot, wUn, wOp, wC, wCF, wVar, wVarB, wK, wChain_s, wB, wAndT, wOrT, wNotT, wIf, wNil, wCons, wTup, wLst, wV, wO, wNext, wSeq, wNever, wBreak, wCont, wRetN, wDrop, wIfS, wAsg, wPar, wFree, freeD, wApp0, wApp, wCall, gN, gT, setD, wIt, wIt1, wIt2, wFor, wLc, wYes, wOf, wOfK, wOK, wDc, wRg1, wRg2, wONo, wOSo, wSlL, wSl, wRevL, wRevT, wDput, popK, wPopAsg, wPopTup, wAppPop, wExt, wCallN, pick, wStar, wUnpA, wIndex, wRep, wTupF, wStepT, wBoxIx_0, wBoxIx_1, wBoxIx_2, wBoxIx_3, wBoxTo, wBoxInc, wBoxOf, wNo, wSortedSet, wNewK, dI0, dI2, dAdd, dMul, dIx, dLen, dAbs, dInt, dIsi, dIsiT, dEq, dNe, dIn, dIsN, dNotN, dIsB, dMin2, dMax2, dList, dTuple, dDget, dDin, startD, wipeD, List.map_cons, List.map_nil, List.length_cons, List.length_nil, List.replicate_succ, List.replicate_zero, List.cons_append, List.nil_append, List.getElem?_cons_zero, List.getElem?_cons_succ, List.set_cons_zero, List.set_cons_succ, Nat.reduceAdd, Nat.reduceSub, if_true, Bool.false_eq_true, if_false, reduceIte, Option.isSome_some, Option.isSome_none, true_and, and_true, List.map_nil, look_encF, hkF, Option.isSome_none, nbs, eqd_lnil, List.isEmpty_cons, Bool.not_false, put_encF hkF]
        refine ⟨by omega, trivial, by omega, ⟨okd_dN (l := [k]), okd_lnil⟩, ⟨_, rfl⟩, by omega, trivial, ⟨by rw [el]; omega, trivial⟩, ?_⟩
        have old : ∀ i ∈ F, (if i = k then [k] else W i) = W i := fun i hi => if_neg (fun z : i = k => hkF (z ▸ hi))
        have q := loop (F ++ [k]) (fun i => if i = k then [k] else W i) [k] a4 a5 a6 (hb.start (W' := fun i => if i = k then [k] else W i) hkl hkF old (if_pos rfl)) (fun i hi hil => List.mem_append_left _ (hk i hi hil)) (List.mem_append_right _ (List.mem_singleton.mpr rfl)) (by simp) fun i hi => by
          rw [List.length_append]
          rcases List.mem_append.mp hi with hi | hi
          · have := hwl i hi
            simp only [old i hi]
            omega
          · rw [List.mem_singleton.mp hi]
            show (if k = k then [k] else W k).length ≤ _
            rw [if_pos rfl]
            simp
        rw [encF_snoc (W' := fun i => if i = k then [k] else W i) old] at q
        simp only [if_true] at q
        exact q
end
end Mine
namespace Mine
open PySem PySem.Spec L2 PyProof.Rows DL
theorem Ways.nd {m : Nat} {E : Nat → Nat → Bool} {W : Nat → List Nat} (h : Ways m E W) {i : Nat} (hi : i < m) : (W i).Nodup := by
  rw [List.nodup_iff_pairwise_ne, List.pairwise_iff_getElem]
  intro a b ha hb hab e
  have := (h.alike hi hi (List.getElem?_eq_getElem ha) (by rw [List.getElem?_eq_getElem hb, e])).1
  omega
theorem Ways.len {m : Nat} {E : Nat → Nat → Bool} {W : Nat → List Nat} (h : Ways m E W) {i : Nat} (hi : i < m) : (W i).length ≤ m := nd_len m _ (h.nd hi) fun x hx => by
  obtain ⟨k, hk⟩ := List.mem_iff_getElem?.mp hx
  obtain ⟨y, a, b, _⟩ := h.at hi (List.getElem?_eq_some_iff.mp hk).1
  rw [hk] at a; cases a; exact b
theorem RingOk.len {m : Nat} {E : Nat → Nat → Bool} {c : List Nat} (h : RingOk m E c) : c.length ≤ m := nd_len m c h.nd h.lt
theorem dN_len {l : List Nat} : (dN l).length = l.length := List.length_map ..
theorem dN_drop {l : List Nat} {k : Nat} : (dN l).drop k = dN (l.drop k) := (List.map_drop ..).symm
theorem dN_take {l : List Nat} {k : Nat} : (dN l).take k = dN (l.take k) := (List.map_take ..).symm
theorem dN_rev {l : List Nat} : (dN l).reverse = dN l.reverse := (List.map_reverse ..).symm
theorem dN_app {l r : List Nat} : dN l ++ dN r = dN (l ++ r) := (List.map_append ..).symm
theorem dN_at {l : List Nat} {i : Int} {k x : Nat} (e : i = k) (h : l[k]? = some x) : atI (dN l) i = some (.int (x : Int)) := atI_map (f := fun k : Nat => D.int ((k : Nat) : Int)) (atI_ok e h)
theorem dN_flat {l : List Nat} : (dN l).all flatD = true := by
  unfold dN
  rw [List.all_map]
  exact List.all_eq_true.mpr fun _ _ => rfl
theorem mem_adj {gs : List (List Int)} {i j : Nat} : j ∈ adj gs i ↔ j < gs.length ∧ Ed gs i j = true := by
  unfold adj
  rw [List.mem_filter, List.mem_range]
section
variable {P : Program} {w : World} {K : PySem.W.Frag} {base : Heap} {mg : Str → Option Value}
def F_ring_of : FD := fun xs n P => ∃ d gs, xs = [d] ∧ SeqD d (dG gs) ∧ GsOk gs ∧ (Colorable gs.length (Ed gs) → P .non n) ∧ (¬ Colorable gs.length (Ed gs) → ∀ c, RingOk gs.length (Ed gs) c → P (.tup (dN c)) n)
theorem ok_ring_of (T : Top K mg) : FnOk P w K mg base CX0 4 T.f_ring_of.a T.f_ring_of.fd ["groups"] (spD K F_ring_of) := by
  refine dfun T.f_ring_of.F sc_ring_of ?_ (fun cdv A outer s H E b hr => (dss_cons (ds_asg (i := 1) sc_ring_of.nd (DE.toX (de_call (ok_levels_of T) (hr.mono (by decide)) T.f_levels_of.m T.f_levels_of.F.kp T.f_levels_of.b pass0 (da_cons (dv 0) da_nil)))) (dss_cons (ds_for PassesOwn.never rfl (fun b => (di_range1 T.n_range (da_cons (de_callB cr_lenAll sd_len (by rfl) T.n_len (by decide +kernel) (dab_cons (DE.toB (dv 0)) dab_nil)) da_nil))) (fun b => (dg_name 2 sc_ring_of.nd)) (fun b => (dss_one (ds_for PassesOwn.never rfl (fun b => (di_seq (de_call (ok_crossing T) (hr.mono (by decide)) T.f_crossing.m T.f_crossing.F.kp T.f_crossing.b pass0 (da_cons (dv 0) (da_cons (dv 2) da_nil))))) (fun b => (dg_name 3 sc_ring_of.nd)) (fun b => (dss_cons (ds_parT (i := 4) (j := 5) rfl sc_ring_of.nd (DE.toX (de_dget (hu_of hr) (DE.toB (dv 1)) (DE.toB (dv 2)) (fun _ _ => rfl))) (DE.toX (de_dget (hu_of hr) (DE.toB (dv 1)) (DE.toB (dv 3)) (fun _ _ => rfl))) (pg := pg_tup rfl (pgs_cons (pg_name (i := 4) sc_ring_of.nd rfl (by first | exact .inl rfl | exact .inr rfl)) (pgs_cons (pg_name (i := 5) sc_ring_of.nd rfl (by first | exact .inl rfl | exact .inr rfl)) pgs_nil)))) (dss_one (ds_if (dt_cmp (op_eqD hr.units) sd_eq (DE.toB (de_op op_mod (sdI fun _ _ _ _ => .int _) (DE.toB (de_callB cr_lenAll sd_len (by rfl) T.n_len (by decide +kernel) (dab_cons (DE.toB (dv 4)) dab_nil))) (DE.toB de_int))) (DE.toB (de_op op_mod (sdI fun _ _ _ _ => .int _) (DE.toB (de_callB cr_lenAll sd_len (by rfl) T.n_len (by decide +kernel) (dab_cons (DE.toB (dv 5)) dab_nil))) (DE.toB de_int))) (nomark _)) (dss_cons (ds_asg (i := 6) sc_ring_of.nd (DE.toX (de_callB cr_lenAll sd_len (by rfl) T.n_len (by decide +kernel) (dab_cons (DE.toB (DF.toE (df_lc [("at", 7)] rfl sc_ring_of.nd (di_range1 T.n_range (da_cons (de_callB (call_min2 rfl) sd_min2 (by rfl) T.n_min (by decide +kernel) (dab_cons (DE.toB (de_callB cr_lenAll sd_len (by rfl) T.n_len (by decide +kernel) (dab_cons (DE.toB (dv 4)) dab_nil))) (dab_cons (DE.toB (de_callB cr_lenAll sd_len (by rfl) T.n_len (by decide +kernel) (dab_cons (DE.toB (dv 5)) dab_nil))) dab_nil))) da_nil)) (by rfl) (fun _ _ _ _ _ => (dg_name 7 sc_ring_of.nd)) (fun _ _ _ _ _ => (dts_one (dt_cmp (op_eqD hr.units) sd_eq (DE.toB (de_ix ix_seq sd_ix (DE.toB (dv 4)) (DE.toB (dv 7)) (fun _ _ => rfl))) (DE.toB (de_ix ix_seq sd_ix (DE.toB (dv 5)) (DE.toB (dv 7)) (fun _ _ => rfl))) (nomark _)))) (fun _ _ _ _ _ => (dv 7))))) dab_nil)))) (dss_one (ds_ret (de_tup (da_star (de_sl (DE.toB (dv 4)) (do_so (de_op op_sub (sdI0 fun _ _ _ _ => .int _) (DE.toB (dv 6)) (DE.toB de_int))) do_no) (da_star (de_revT (DE.toB (de_sl (DE.toB (dv 5)) (do_so (dv 6)) do_no))) da_nil)))))) dss_nil)))))))) (dss_one (ds_ret de_non))))) ?_
  · rintro ds n Q ⟨d, gs, rfl, _⟩
    rfl
  · rintro ds n Q ⟨d, gs, rfl, hs, ok, hy, hn⟩
    have h1 := ok.pos
    have h2 := ok.most
    have hl : (dG gs).length = gs.length := List.length_map ..
    have sym := Ed_symm ok
    simp only [wSeq, wAsg, wV, wCall, wCons, wVar, wNil, startD, List.map_cons, List.map_nil, List.length_cons, List.length_nil, List.replicate_succ, List.replicate_zero, List.cons_append, List.nil_append, List.getElem?_cons_zero, List.set_cons_succ, List.set_cons_zero, Nat.reduceSub, Nat.reduceAdd]
    refine ⟨d, gs, rfl, hs, ok, fun F W all hW => ?_⟩
    suffices hh : ∀ DD : DEnds, DD.rt = Q → (∀ a2 a3 a4 a5 a6 a7, Colorable gs.length (Ed gs) → DD.nx [some (Sl.val d), some (Sl.val (.dic (encF F W))), a2, a3, a4, a5, a6, a7] n) →
        loopD (gN 2) _ DD (rangeD 0 (gs.length : Int)) [some (Sl.val d), some (Sl.val (.dic (encF F W))), none, none, none, none, none, none] n by
      rcases hs with rfl | rfl
      · simp only [wFor, wIt1, wCons, wC, wVar, wNil, List.getElem?_cons_zero, dLen, hl]
        refine ⟨by omega, hh _ rfl fun a2 a3 a4 a5 a6 a7 q => ?_⟩
        simp only [wRet, wAnd_s, wOr_s, bsel_bl, wIfF, keyD, DL.wNot, wUn, wOp, wC, wCF, wVar, wVarB, wK, wChain_s, wB, wAndT, wOrT, wNotT, wIf, wNil, wCons, wTup, wLst, wV, wO, wNext, wSeq, wNever, wBreak, wCont, wRetN, wDrop, wIfS, wAsg, wPar, wFree, freeD, wApp0, wApp, wCall, gN, gT, setD, wIt, wIt1, wIt2, wFor, wLc, wYes, wOf, wOfK, wOK, wDc, wRg1, wRg2, wONo, wOSo, wSlL, wSl, wRevL, wRevT, wDput, popK, wPopAsg, wPopTup, wAppPop, wExt, wCallN, pick, wStar, wUnpA, wIndex, wRep, wTupF, wStepT, wBoxIx_0, wBoxIx_1, wBoxIx_2, wBoxIx_3, wBoxTo, wBoxInc, wBoxOf, wNo, wSortedSet, wNewK, dI0, dI2, dAdd, dMul, dIx, dLen, dAbs, dInt, dIsi, dIsiT, dEq, dNe, dIn, dIsN, dNotN, dIsB, dMin2, dMax2, dList, dTuple, dDget, dDin, startD, wipeD, List.map_cons, List.map_nil, List.length_cons, List.length_nil, List.replicate_succ, List.replicate_zero, List.cons_append, List.nil_append, List.getElem?_cons_zero, List.getElem?_cons_succ, List.set_cons_zero, List.set_cons_succ, Nat.reduceAdd, Nat.reduceSub, if_true, Bool.false_eq_true, if_false, reduceIte, Option.isSome_some, Option.isSome_none, true_and, and_true, List.map_nil]
        exact hy q
      · simp only [wFor, wIt1, wCons, wC, wVar, wNil, List.getElem?_cons_zero, dLen, hl]
        refine ⟨by omega, hh _ rfl fun a2 a3 a4 a5 a6 a7 q => ?_⟩
        simp only [wRet, wAnd_s, wOr_s, bsel_bl, wIfF, keyD, DL.wNot, wUn, wOp, wC, wCF, wVar, wVarB, wK, wChain_s, wB, wAndT, wOrT, wNotT, wIf, wNil, wCons, wTup, wLst, wV, wO, wNext, wSeq, wNever, wBreak, wCont, wRetN, wDrop, wIfS, wAsg, wPar, wFree, freeD, wApp0, wApp, wCall, gN, gT, setD, wIt, wIt1, wIt2, wFor, wLc, wYes, wOf, wOfK, wOK, wDc, wRg1, wRg2, wONo, wOSo, wSlL, wSl, wRevL, wRevT, wDput, popK, wPopAsg, wPopTup, wAppPop, wExt, wCallN, pick, wStar, wUnpA, wIndex, wRep, wTupF, wStepT, wBoxIx_0, wBoxIx_1, wBoxIx_2, wBoxIx_3, wBoxTo, wBoxInc, wBoxOf, wNo, wSortedSet, wNewK, dI0, dI2, dAdd, dMul, dIx, dLen, dAbs, dInt, dIsi, dIsiT, dEq, dNe, dIn, dIsN, dNotN, dIsB, dMin2, dMax2, dList, dTuple, dDget, dDin, startD, wipeD, List.map_cons, List.map_nil, List.length_cons, List.length_nil, List.replicate_succ, List.replicate_zero, List.cons_append, List.nil_append, List.getElem?_cons_zero, List.getElem?_cons_succ, List.set_cons_zero, List.set_cons_succ, Nat.reduceAdd, Nat.reduceSub, if_true, Bool.false_eq_true, if_false, reduceIte, Option.isSome_some, Option.isSome_none, true_and, and_true, List.map_nil]
        exact hy q
    intro DD hrt hend
    refine loopD_ind (fun r ρ n' => n' = n ∧ ∃ k a2 a3 a4 a5 a6 a7, r = ((List.range gs.length).drop k).map (fun k : Nat => D.int ((k : Nat) : Int)) ∧ ρ = [some (Sl.val d), some (Sl.val (.dic (encF F W))), a2, a3, a4, a5, a6, a7] ∧ ∀ i j, i < k → i < gs.length → j < gs.length → Ed gs i j = true → (W i).length % 2 ≠ (W j).length % 2) ?_ ?_ _ _ _
      ⟨rfl, 0, none, none, none, none, none, none, by rw [rangeD_nat]; rfl, rfl, fun i j hi => absurd hi (by omega)⟩
    · rintro ρ n' ⟨rfl, k, a2, a3, a4, a5, a6, a7, hr, rfl, hk⟩
      have hk2 : gs.length ≤ k := by
        have := congrArg List.length hr
        simp at this
        omega
      exact hend _ _ _ _ _ _ (Ways.col (W := W) fun i j hi hj he => hk i j (by omega) hi hj he)
    · rintro x r ρ n' N ⟨rfl, k, a2, a3, a4, a5, a6, a7, hr, rfl, hk⟩ hN
      have hkl : k < gs.length := by
        have := congrArg List.length hr
        simp at this
        omega
      rw [List.drop_eq_getElem_cons (by simpa using hkl), List.map_cons, List.getElem_range] at hr
      injection hr with hx hr
      subst hx
      simp only [wRet, wAnd_s, wOr_s, bsel_bl, wIfF, keyD, DL.wNot, wUn, wOp, wC, wCF, wVar, wVarB, wK, wChain_s, wB, wAndT, wOrT, wNotT, wIf, wNil, wCons, wTup, wLst, wV, wO, wNext, wSeq, wNever, wBreak, wCont, wRetN, wDrop, wIfS, wAsg, wPar, wFree, freeD, wApp0, wApp, wCall, gN, gT, setD, wIt, wIt1, wIt2, wFor, wLc, wYes, wOf, wOfK, wOK, wDc, wRg1, wRg2, wONo, wOSo, wSlL, wSl, wRevL, wRevT, wDput, popK, wPopAsg, wPopTup, wAppPop, wExt, wCallN, pick, wStar, wUnpA, wIndex, wRep, wTupF, wStepT, wBoxIx_0, wBoxIx_1, wBoxIx_2, wBoxIx_3, wBoxTo, wBoxInc, wBoxOf, wNo, wSortedSet, wNewK, dI0, dI2, dAdd, dMul, dIx, dLen, dAbs, dInt, dIsi, dIsiT, dEq, dNe, dIn, dIsN, dNotN, dIsB, dMin2, dMax2, dList, dTuple, dDget, dDin, startD, wipeD, List.map_cons, List.map_nil, List.length_cons, List.length_nil, List.replicate_succ, List.replicate_zero, List.cons_append, List.nil_append, List.getElem?_cons_zero, List.getElem?_cons_succ, List.set_cons_zero, List.set_cons_succ, Nat.reduceAdd, Nat.reduceSub, if_true, Bool.false_eq_true, if_false, reduceIte, Option.isSome_some, Option.isSome_none, true_and, and_true, List.map_nil]
      refine ⟨d, gs, k, rfl, hs, ok, hkl, ?_⟩
      refine loopD_ind (fun r2 ρ n2 => n2 = n' ∧ ∃ l1 l2 a3 a4 a5 a6 a7, adj gs k = l1 ++ l2 ∧ r2 = dN l2 ∧ ρ = [some (Sl.val d), some (Sl.val (.dic (encF F W))), some (Sl.val (.int (k : Int))), a3, a4, a5, a6, a7] ∧ ∀ j, j ∈ l1 → (W k).length % 2 ≠ (W j).length % 2) ?_ ?_ _ _ _
        ⟨rfl, [], adj gs k, a3, a4, a5, a6, a7, rfl, rfl, rfl, fun j hj => absurd hj List.not_mem_nil⟩
      · rintro ρ n2 ⟨rfl, l1, l2, a3, a4, a5, a6, a7, e1, e2, rfl, hp⟩
        have : l2 = [] := by cases l2 with
          | nil => rfl
          | cons _ _ => cases e2
        subst this
        rw [List.append_nil] at e1
        refine hN _ _ ⟨rfl, k + 1, _, _, _, _, _, _, hr, rfl, fun i j hi hil hj he => ?_⟩
        by_cases z : i = k
        · subst z
          exact hp j (by rw [← e1]; exact mem_adj.mpr ⟨hj, he⟩)
        · exact hk i j (by omega) hil hj he
      · rintro x r2 ρ n2 N2 ⟨rfl, l1, l2, a3, a4, a5, a6, a7, e1, e2, rfl, hp⟩ hN2
        cases l2 with
        | nil => cases e2
        | cons y l2 =>
          injection e2 with ex er
          subst ex er
          have hy' : y ∈ adj gs k := by rw [e1]; simp
          obtain ⟨hyl, hye⟩ := mem_adj.mp hy'
          have lk := hW.len hkl
          have ly := hW.len hyl
          simp only [wRet, wAnd_s, wOr_s, bsel_bl, wIfF, keyD, DL.wNot, wUn, wOp, wC, wCF, wVar, wVarB, wK, wChain_s, wB, wAndT, wOrT, wNotT, wIf, wNil, wCons, wTup, wLst, wV, wO, wNext, wSeq, wNever, wBreak, wCont, wRetN, wDrop, wIfS, wAsg, wPar, wFree, freeD, wApp0, wApp, wCall, gN, gT, setD, wIt, wIt1, wIt2, wFor, wLc, wYes, wOf, wOfK, wOK, wDc, wRg1, wRg2, wONo, wOSo, wSlL, wSl, wRevL, wRevT, wDput, popK, wPopAsg, wPopTup, wAppPop, wExt, wCallN, pick, wStar, wUnpA, wIndex, wRep, wTupF, wStepT, wBoxIx_0, wBoxIx_1, wBoxIx_2, wBoxIx_3, wBoxTo, wBoxInc, wBoxOf, wNo, wSortedSet, wNewK, dI0, dI2, dAdd, dMul, dIx, dLen, dAbs, dInt, dIsi, dIsiT, dEq, dNe, dIn, dIsN, dNotN, dIsB, dMin2, dMax2, dList, dTuple, dDget, dDin, startD, wipeD, List.map_cons, List.map_nil, List.length_cons, List.length_nil, List.replicate_succ, List.replicate_zero, List.cons_append, List.nil_append, List.getElem?_cons_zero, List.getElem?_cons_succ, List.set_cons_zero, List.set_cons_succ, Nat.reduceAdd, Nat.reduceSub, if_true, Bool.false_eq_true, if_false, reduceIte, Option.isSome_some, Option.isSome_none, true_and, and_true, List.map_nil, look_encF, all k hkl, all y hyl, dN_len, okd_int, eqd_int]
          rw [mod2_eq (a := (W k).length) (b := (W y).length)]
          refine ⟨by omega, by omega, ?_⟩
          by_cases hp2 : (W k).length % 2 = (W y).length % 2
          · rw [if_pos (decide_eq_true hp2), min_nat]
            have nc : ¬ Colorable gs.length (Ed gs) := fun c => hW.parity c hkl hyl hye hp2
            have rg := hW.ring sym hkl hyl hye hp2
            obtain ⟨s, es, s1, si, sj, _, _⟩ := hW.fork hkl hyl (hW.head _ _ hkl hyl hye)
            refine ⟨by omega, ?_⟩
            rw [rangeD_nat]
            refine lcD_if (fun k : Nat => D.int ((k : Nat) : Int)) (fun a => decide ((W k)[a]? = (W y)[a]?)) (fun k : Nat => D.int ((k : Nat) : Int)) (fun x hx A B hk k2 ea eb => ?_) (fun _ => trivial) (by rw [List.length_range]; omega) ?_
            · have hx := List.mem_range.mp hx
              subst ea eb
              simp only [wRet, wAnd_s, wOr_s, bsel_bl, wIfF, keyD, DL.wNot, wUn, wOp, wC, wCF, wVar, wVarB, wK, wChain_s, wB, wAndT, wOrT, wNotT, wIf, wNil, wCons, wTup, wLst, wV, wO, wNext, wSeq, wNever, wBreak, wCont, wRetN, wDrop, wIfS, wAsg, wPar, wFree, freeD, wApp0, wApp, wCall, gN, gT, setD, wIt, wIt1, wIt2, wFor, wLc, wYes, wOf, wOfK, wOK, wDc, wRg1, wRg2, wONo, wOSo, wSlL, wSl, wRevL, wRevT, wDput, popK, wPopAsg, wPopTup, wAppPop, wExt, wCallN, pick, wStar, wUnpA, wIndex, wRep, wTupF, wStepT, wBoxIx_0, wBoxIx_1, wBoxIx_2, wBoxIx_3, wBoxTo, wBoxInc, wBoxOf, wNo, wSortedSet, wNewK, dI0, dI2, dAdd, dMul, dIx, dLen, dAbs, dInt, dIsi, dIsiT, dEq, dNe, dIn, dIsN, dNotN, dIsB, dMin2, dMax2, dList, dTuple, dDget, dDin, startD, wipeD, List.map_cons, List.map_nil, List.length_cons, List.length_nil, List.replicate_succ, List.replicate_zero, List.cons_append, List.nil_append, List.getElem?_cons_zero, List.getElem?_cons_succ, List.set_cons_zero, List.set_cons_succ, Nat.reduceAdd, Nat.reduceSub, if_true, Bool.false_eq_true, if_false, reduceIte, Option.isSome_some, Option.isSome_none, true_and, and_true, List.map_nil, dN_at rfl (List.getElem?_eq_getElem (show x < (W k).length by omega)), dN_at rfl (List.getElem?_eq_getElem (show x < (W y).length by omega)), okd_int, eqd_int]
              rw [natCast_eq]
              rw [List.getElem?_eq_getElem (show x < (W k).length by omega), List.getElem?_eq_getElem (show x < (W y).length by omega)] at hk
              simpa only [Option.some.injEq] using hk
            · have el : (((List.range (min (W k).length (W y).length)).filter fun a => decide ((W k)[a]? = (W y)[a]?)).map fun k : Nat => D.int ((k : Nat) : Int)).length = s := by
                rw [List.length_map]; exact es
              simp only [el]
              rw [cut_from (k := s - 1) (by omega), cut_from (k := s) rfl, dN_drop, dN_drop, dN_rev, List.append_nil, dN_app]
              have er : (W k).drop (s - 1) ++ ((W y).drop s).reverse = ringOf (W k) (W y) := by unfold ringOf; rw [es]
              rw [er]
              have rl := rg.len
              refine ⟨dN_nb, dN_nb, by rw [dN_len]; omega, dN_nb, ?_⟩
              rw [hrt]
              exact hn nc _ rg
          · rw [if_neg (by simpa using hp2)]
            refine hN2 _ _ ⟨rfl, l1 ++ [y], l2, _, _, _, _, _, by rw [e1]; simp, rfl, rfl, fun j hj => ?_⟩
            rcases List.mem_append.mp hj with hj | hj
            · exact hp j hj
            · rw [List.mem_singleton.mp hj]; exact hp2
def F_odd_ring : FD := F_ring_of
theorem ok_odd_ring (T : Top K mg) : FnOk P w K mg base CX0 5 T.f_odd_ring.a T.f_odd_ring.fd ["groups"] (spD K F_odd_ring) := by
  refine dfun T.f_odd_ring.F sc_odd_ring ?_ (fun cdv A outer s H E b hr => (dss_cons (ds_expr (de_call (ok_check_groups T) (hr.mono (by decide)) T.f_check_groups.m T.f_check_groups.F.kp T.f_check_groups.b pass0 (da_cons (dv 0) da_nil))) (dss_one (ds_ret (de_call (ok_ring_of T) (hr.mono (by decide)) T.f_ring_of.m T.f_ring_of.F.kp T.f_ring_of.b pass0 (da_cons (dv 0) da_nil)))))) ?_
  · rintro ds n Q ⟨d, gs, rfl, _⟩
    rfl
  · rintro ds n Q ⟨d, gs, rfl, hs, ok, hy, hn⟩
    simp only [wRet, wAnd_s, wOr_s, bsel_bl, wIfF, keyD, DL.wNot, wUn, wOp, wC, wCF, wVar, wVarB, wK, wChain_s, wB, wAndT, wOrT, wNotT, wIf, wNil, wCons, wTup, wLst, wV, wO, wNext, wSeq, wNever, wBreak, wCont, wRetN, wDrop, wIfS, wAsg, wPar, wFree, freeD, wApp0, wApp, wCall, gN, gT, setD, wIt, wIt1, wIt2, wFor, wLc, wYes, wOf, wOfK, wOK, wDc, wRg1, wRg2, wONo, wOSo, wSlL, wSl, wRevL, wRevT, wDput, popK, wPopAsg, wPopTup, wAppPop, wExt, wCallN, pick, wStar, wUnpA, wIndex, wRep, wTupF, wStepT, wBoxIx_0, wBoxIx_1, wBoxIx_2, wBoxIx_3, wBoxTo, wBoxInc, wBoxOf, wNo, wSortedSet, wNewK, dI0, dI2, dAdd, dMul, dIx, dLen, dAbs, dInt, dIsi, dIsiT, dEq, dNe, dIn, dIsN, dNotN, dIsB, dMin2, dMax2, dList, dTuple, dDget, dDin, startD, wipeD, List.map_cons, List.map_nil, List.length_cons, List.length_nil, List.replicate_succ, List.replicate_zero, List.cons_append, List.nil_append, List.getElem?_cons_zero, List.getElem?_cons_succ, List.set_cons_zero, List.set_cons_succ, Nat.reduceAdd, Nat.reduceSub, if_true, Bool.false_eq_true, if_false, reduceIte, Option.isSome_some, Option.isSome_none, true_and, and_true, List.map_nil]
    exact ⟨d, gs, rfl, hs, ok, d, gs, rfl, hs, ok, hy, hn⟩
/-- two sides, none of which crosses itself -/
structure SidesOk (m : Nat) (E : Nat → Nat → Bool) (a b : List Nat) : Prop where
  asc1 : a.Pairwise (· < ·)
  asc2 : b.Pairwise (· < ·)
  all : ∀ i, i < m ↔ (i ∈ a ∨ i ∈ b)
  dis : ∀ i, i ∈ a → i ∉ b
  one : ∀ i j, i ∈ a → j ∈ a → E i j = false
  two : ∀ i j, i ∈ b → j ∈ b → E i j = false
def F_two_hierarchies : FD := fun xs n P => ∃ d gs, xs = [d] ∧ SeqD d (dG gs) ∧ GsOk gs ∧ (¬ Colorable gs.length (Ed gs) → P .non n) ∧ (Colorable gs.length (Ed gs) → ∀ a b, SidesOk gs.length (Ed gs) a b → P (.tup [.tup (dN a), .tup (dN b)]) n)
theorem ok_two_hierarchies (T : Top K mg) : FnOk P w K mg base CX0 5 T.f_two_hierarchies.a T.f_two_hierarchies.fd ["groups"] (spD K F_two_hierarchies) := by
  refine dfun T.f_two_hierarchies.F sc_two_hierarchies ?_ (fun cdv A outer s H E b hr => (dss_cons (ds_expr (de_call (ok_check_groups T) (hr.mono (by decide)) T.f_check_groups.m T.f_check_groups.F.kp T.f_check_groups.b pass0 (da_cons (dv 0) da_nil))) (dss_cons (ds_if (dt_cmp op_notN sd_notN (DE.toB (de_call (ok_ring_of T) (hr.mono (by decide)) T.f_ring_of.m T.f_ring_of.F.kp T.f_ring_of.b pass0 (da_cons (dv 0) da_nil))) (DE.toB de_non) (nomark _)) (dss_one (ds_ret de_non)) dss_nil) (dss_cons (ds_asg (i := 1) sc_two_hierarchies.nd (DE.toX (de_call (ok_levels_of T) (hr.mono (by decide)) T.f_levels_of.m T.f_levels_of.F.kp T.f_levels_of.b pass0 (da_cons (dv 0) da_nil)))) (dss_cons (ds_asg (i := 2) sc_two_hierarchies.nd (DE.toX (de_callTy call_tuple_of sd_tuple (by rfl) T.n_tuple (by decide +kernel) (dab_cons (DE.toB (DF.toE (df_lc [("at", 3)] rfl sc_two_hierarchies.nd (di_range1 T.n_range (da_cons (de_callB cr_lenAll sd_len (by rfl) T.n_len (by decide +kernel) (dab_cons (DE.toB (dv 0)) dab_nil)) da_nil)) (by rfl) (fun _ _ _ _ _ => (dg_name 3 sc_two_hierarchies.nd)) (fun _ _ _ _ _ => (dts_one (dt_cmp (op_eqD hr.units) sd_eq (DE.toB (de_op op_mod (sdI fun _ _ _ _ => .int _) (DE.toB (de_callB cr_lenAll sd_len (by rfl) T.n_len (by decide +kernel) (dab_cons (DE.toB (de_dget (hu_of hr) (DE.toB (dv 1)) (DE.toB (dv 3)) (fun _ _ => rfl))) dab_nil))) (DE.toB de_int))) (DE.toB de_int) (nomark _)))) (fun _ _ _ _ _ => (dv 3))))) dab_nil)))) (dss_one (ds_ret (de_tup (da_cons (dv 2) (da_cons (de_callTy call_tuple_of sd_tuple (by rfl) T.n_tuple (by decide +kernel) (dab_cons (DE.toB (DF.toE (df_lc [("at", 3)] rfl sc_two_hierarchies.nd (di_range1 T.n_range (da_cons (de_callB cr_lenAll sd_len (by rfl) T.n_len (by decide +kernel) (dab_cons (DE.toB (dv 0)) dab_nil)) da_nil)) (by rfl) (fun _ _ _ _ _ => (dg_name 3 sc_two_hierarchies.nd)) (fun _ _ _ _ _ => (dts_one (dt_cmp op_notIn_seq (sd_in true) (DE.toB (dv 3)) (DE.toB (dv 2)) (by rfl)))) (fun _ _ _ _ _ => (dv 3))))) dab_nil)) da_nil)))))))))) ?_
  · rintro ds n Q ⟨d, gs, rfl, _⟩
    rfl
  · rintro ds n Q ⟨d, gs, rfl, hs, ok, hy, hn⟩
    have h1 := ok.pos
    have h2 := ok.most
    have hl : (dG gs).length = gs.length := List.length_map ..
    by_cases hc : Colorable gs.length (Ed gs)
    · simp only [wRet, wAnd_s, wOr_s, bsel_bl, wIfF, keyD, DL.wNot, wUn, wOp, wC, wCF, wVar, wVarB, wK, wChain_s, wB, wAndT, wOrT, wNotT, wIf, wNil, wCons, wTup, wLst, wV, wO, wNext, wSeq, wNever, wBreak, wCont, wRetN, wDrop, wIfS, wAsg, wPar, wFree, freeD, wApp0, wApp, wCall, gN, gT, setD, wIt1, wIt2, wFor, wLc, wYes, wOf, wOfK, wOK, wDc, wRg1, wRg2, wONo, wOSo, wSlL, wSl, wRevL, wRevT, wDput, popK, wPopAsg, wPopTup, wAppPop, wExt, wCallN, pick, wStar, wUnpA, wIndex, wRep, wTupF, wStepT, wBoxIx_0, wBoxIx_1, wBoxIx_2, wBoxIx_3, wBoxTo, wBoxInc, wBoxOf, wNo, wSortedSet, wNewK, dI0, dI2, dAdd, dMul, dAbs, dInt, dIsi, dIsiT, dEq, dNe, dIn, dIsN, dNotN, dIsB, dMin2, dMax2, dDget, dDin, startD, wipeD, List.map_cons, List.map_nil, List.length_cons, List.length_nil, List.replicate_succ, List.replicate_zero, List.cons_append, List.nil_append, List.getElem?_cons_zero, List.getElem?_cons_succ, List.set_cons_zero, List.set_cons_succ, Nat.reduceAdd, Nat.reduceSub, if_true, Bool.false_eq_true, if_false, reduceIte, Option.isSome_some, Option.isSome_none, true_and, and_true, List.map_nil, dLen_lst, dLen_tup, dLen_scr, dLen_dic, optD_some, dIx_lst, dIx_tup, itD_lst, itD_tup, wIt_s, dList_lst, dList_tup, dTup_lst, dTup_tup]
      refine ⟨d, gs, rfl, hs, ok, d, gs, rfl, hs, ok, fun _ => ?_, fun c => absurd hc c⟩
      simp only [DL.isNon, Bool.not_true, Bool.false_eq_true, if_false]
      refine ⟨d, gs, rfl, hs, ok, fun F W all hW => ?_⟩
      simp only [len_seq hs, hl]
      refine ⟨by omega, ?_⟩
      rw [rangeD_nat]
      refine lcD_if (fun k : Nat => D.int ((k : Nat) : Int)) (fun a => decide ((W a).length % 2 = 1)) (fun k : Nat => D.int ((k : Nat) : Int)) (fun x hx A B hk k2 ea eb => ?_) (fun _ => trivial) (by rw [List.length_range]; omega) ?_
      · have hx := List.mem_range.mp hx
        subst ea eb
        simp only [wRet, wAnd_s, wOr_s, bsel_bl, wIfF, keyD, DL.wNot, wUn, wOp, wC, wCF, wVar, wVarB, wK, wChain_s, wB, wAndT, wOrT, wNotT, wIf, wNil, wCons, wTup, wLst, wV, wO, wNext, wSeq, wNever, wBreak, wCont, wRetN, wDrop, wIfS, wAsg, wPar, wFree, freeD, wApp0, wApp, wCall, gN, gT, setD, wIt1, wIt2, wFor, wLc, wYes, wOf, wOfK, wOK, wDc, wRg1, wRg2, wONo, wOSo, wSlL, wSl, wRevL, wRevT, wDput, popK, wPopAsg, wPopTup, wAppPop, wExt, wCallN, pick, wStar, wUnpA, wIndex, wRep, wTupF, wStepT, wBoxIx_0, wBoxIx_1, wBoxIx_2, wBoxIx_3, wBoxTo, wBoxInc, wBoxOf, wNo, wSortedSet, wNewK, dI0, dI2, dAdd, dMul, dAbs, dInt, dIsi, dIsiT, dEq, dNe, dIn, dIsN, dNotN, dIsB, dMin2, dMax2, dDget, dDin, startD, wipeD, List.map_cons, List.map_nil, List.length_cons, List.length_nil, List.replicate_succ, List.replicate_zero, List.cons_append, List.nil_append, List.getElem?_cons_zero, List.getElem?_cons_succ, List.set_cons_zero, List.set_cons_succ, Nat.reduceAdd, Nat.reduceSub, if_true, Bool.false_eq_true, if_false, reduceIte, Option.isSome_some, Option.isSome_none, true_and, and_true, List.map_nil, dLen_lst, dLen_tup, dLen_scr, dLen_dic, optD_some, dIx_lst, dIx_tup, itD_lst, itD_tup, wIt_s, dList_lst, dList_tup, dTup_lst, dTup_tup, look_encF, all x hx, dN_len, okd_int, eqd_int]
        refine ⟨by omega, ?_⟩
        have e : decide (((W x).length : Int) % 2 = 1) = decide ((W x).length % 2 = 1) := by
          by_cases z : (W x).length % 2 = 1
          · rw [decide_eq_true z, decide_eq_true (by omega)]
          · rw [decide_eq_false z, decide_eq_false (by omega)]
        rw [e]
        exact hk
      · rw [show ((List.range gs.length).filter fun a => decide ((W a).length % 2 = 1)).map (fun k : Nat => D.int ((k : Nat) : Int)) = dN ((List.range gs.length).filter fun a => decide ((W a).length % 2 = 1)) from rfl]
        generalize hA : (List.range gs.length).filter (fun a => decide ((W a).length % 2 = 1)) = a
        have ma : ∀ i, i ∈ a ↔ i < gs.length ∧ (W i).length % 2 = 1 := fun i => by
          rw [← hA, List.mem_filter, List.mem_range, decide_eq_true_iff]
        have inA : ∀ x : Nat, inD (.int (x : Int)) (dN a) = decide (x ∈ a) := fun x => by
          have e : dN a = (a.map fun k : Nat => (k : Int)).map D.int := by unfold dN; rw [List.map_map]; rfl
          rw [e, inD_int]
          by_cases z : x ∈ a
          · rw [decide_eq_true z, decide_eq_true (List.mem_map.mpr ⟨x, z, rfl⟩)]
          · rw [decide_eq_false z, decide_eq_false]
            intro q
            obtain ⟨y, hy, e⟩ := List.mem_map.mp q
            exact z (by have : y = x := by omega
                        rw [← this]; exact hy)
        refine ⟨by omega, ?_⟩
        refine lcD_if (fun k : Nat => D.int ((k : Nat) : Int)) (fun x => decide (x ∉ a)) (fun k : Nat => D.int ((k : Nat) : Int)) (fun x hx A B hk k2 ea eb => ?_) (fun _ => trivial) (by rw [List.length_range]; omega) ?_
        · subst ea eb
          simp only [wRet, wAnd_s, wOr_s, bsel_bl, wIfF, keyD, DL.wNot, wUn, wOp, wC, wCF, wVar, wVarB, wK, wChain_s, wB, wAndT, wOrT, wNotT, wIf, wNil, wCons, wTup, wLst, wV, wO, wNext, wSeq, wNever, wBreak, wCont, wRetN, wDrop, wIfS, wAsg, wPar, wFree, freeD, wApp0, wApp, wCall, gN, gT, setD, wIt1, wIt2, wFor, wLc, wYes, wOf, wOfK, wOK, wDc, wRg1, wRg2, wONo, wOSo, wSlL, wSl, wRevL, wRevT, wDput, popK, wPopAsg, wPopTup, wAppPop, wExt, wCallN, pick, wStar, wUnpA, wIndex, wRep, wTupF, wStepT, wBoxIx_0, wBoxIx_1, wBoxIx_2, wBoxIx_3, wBoxTo, wBoxInc, wBoxOf, wNo, wSortedSet, wNewK, dI0, dI2, dAdd, dMul, dAbs, dInt, dIsi, dIsiT, dEq, dNe, dIn, dIsN, dNotN, dIsB, dMin2, dMax2, dDget, dDin, startD, wipeD, List.map_cons, List.map_nil, List.length_cons, List.length_nil, List.replicate_succ, List.replicate_zero, List.cons_append, List.nil_append, List.getElem?_cons_zero, List.getElem?_cons_succ, List.set_cons_zero, List.set_cons_succ, Nat.reduceAdd, Nat.reduceSub, if_true, Bool.false_eq_true, if_false, reduceIte, Option.isSome_some, Option.isSome_none, true_and, and_true, List.map_nil, dLen_lst, dLen_tup, dLen_scr, dLen_dic, optD_some, dIx_lst, dIx_tup, itD_lst, itD_tup, wIt_s, dList_lst, dList_tup, dTup_lst, dTup_tup, inA]
          refine ⟨⟨rfl, dN_flat⟩, ?_⟩
          by_cases z : x ∈ a
          · simp only [z, not_true_eq_false, decide_false, decide_true, Bool.not_true, Bool.false_eq_true, if_false] at hk ⊢
            exact hk
          · simp only [z, not_false_eq_true, decide_false, decide_true, Bool.not_false, if_true] at hk ⊢
            exact hk
        · refine ⟨by omega, ⟨trivial, trivial, trivial⟩, ?_⟩
          refine hn hc a ((List.range gs.length).filter fun x => decide (x ∉ a)) ⟨?_, List.pairwise_lt_range.sublist List.filter_sublist, fun i => ?_, fun i hi hj => ?_, fun i j hi hj => ?_, fun i j hi hj => ?_⟩
          · rw [← hA]; exact List.pairwise_lt_range.sublist List.filter_sublist
          · rw [List.mem_filter, List.mem_range, decide_eq_true_iff]
            constructor
            · intro hi
              by_cases z : i ∈ a
              · exact .inl z
              · exact .inr ⟨hi, z⟩
            · rintro (z | ⟨z, _⟩)
              · exact ((ma i).mp z).1
              · exact z
          · rw [List.mem_filter, decide_eq_true_iff] at hj
            exact hj.2 hi
          · obtain ⟨a1, a2⟩ := (ma i).mp hi
            obtain ⟨b1, b2⟩ := (ma j).mp hj
            cases q : Ed gs i j with
            | false => rfl
            | true => exact absurd (a2.trans b2.symm) (hW.parity hc a1 b1 q)
          · rw [List.mem_filter, List.mem_range, decide_eq_true_iff] at hi hj
            cases q : Ed gs i j with
            | false => rfl
            | true =>
              have := hW.parity hc hi.1 hj.1 q
              have z1 : ¬ (W i).length % 2 = 1 := fun z => hi.2 ((ma i).mpr ⟨hi.1, z⟩)
              have z2 : ¬ (W j).length % 2 = 1 := fun z => hj.2 ((ma j).mpr ⟨hj.1, z⟩)
              omega
    · simp only [wRet, wAnd_s, wOr_s, bsel_bl, wIfF, keyD, DL.wNot, wUn, wOp, wC, wCF, wVar, wVarB, wK, wChain_s, wB, wAndT, wOrT, wNotT, wIf, wNil, wCons, wTup, wLst, wV, wO, wNext, wSeq, wNever, wBreak, wCont, wRetN, wDrop, wIfS, wAsg, wPar, wFree, freeD, wApp0, wApp, wCall, gN, gT, setD, wIt1, wIt2, wFor, wLc, wYes, wOf, wOfK, wOK, wDc, wRg1, wRg2, wONo, wOSo, wSlL, wSl, wRevL, wRevT, wDput, popK, wPopAsg, wPopTup, wAppPop, wExt, wCallN, pick, wStar, wUnpA, wIndex, wRep, wTupF, wStepT, wBoxIx_0, wBoxIx_1, wBoxIx_2, wBoxIx_3, wBoxTo, wBoxInc, wBoxOf, wNo, wSortedSet, wNewK, dI0, dI2, dAdd, dMul, dAbs, dInt, dIsi, dIsiT, dEq, dNe, dIn, dIsN, dNotN, dIsB, dMin2, dMax2, dDget, dDin, startD, wipeD, List.map_cons, List.map_nil, List.length_cons, List.length_nil, List.replicate_succ, List.replicate_zero, List.cons_append, List.nil_append, List.getElem?_cons_zero, List.getElem?_cons_succ, List.set_cons_zero, List.set_cons_succ, Nat.reduceAdd, Nat.reduceSub, if_true, Bool.false_eq_true, if_false, reduceIte, Option.isSome_some, Option.isSome_none, true_and, and_true, List.map_nil, dLen_lst, dLen_tup, dLen_scr, dLen_dic, optD_some, dIx_lst, dIx_tup, itD_lst, itD_tup, wIt_s, dList_lst, dList_tup, dTup_lst, dTup_tup]
      refine ⟨d, gs, rfl, hs, ok, d, gs, rfl, hs, ok, fun c => absurd c hc, fun _ c rc => ?_⟩
      simp only [DL.isNon, Bool.not_false, if_true]
      exact hy hc
end
end Mine
namespace DL
/-! lists in order -/
theorem asc_ext : ∀ {a b : List Int}, a.Pairwise (· < ·) → b.Pairwise (· < ·) → (∀ x, x ∈ a ↔ x ∈ b) → a = b
  | [], [], _, _, _ => rfl
  | [], y :: b, _, _, h => absurd ((h y).mpr List.mem_cons_self) List.not_mem_nil
  | x :: a, [], _, _, h => absurd ((h x).mp List.mem_cons_self) List.not_mem_nil
  | x :: a, y :: b, ha, hb, h => by
    have ha' := List.pairwise_cons.mp ha
    have hb' := List.pairwise_cons.mp hb
    have e : x = y := by
      rcases List.mem_cons.mp ((h x).mp List.mem_cons_self) with q | q
      · exact q
      · rcases List.mem_cons.mp ((h y).mpr List.mem_cons_self) with q' | q'
        · exact q'.symm
        · have := ha'.1 y q'
          have := hb'.1 x q
          omega
    subst e
    rw [asc_ext ha'.2 hb'.2 fun z => ?_]
    constructor
    · intro hz
      rcases List.mem_cons.mp ((h z).mp (List.mem_cons_of_mem _ hz)) with q | q
      · have := ha'.1 z hz; omega
      · exact q
    · intro hz
      rcases List.mem_cons.mp ((h z).mpr (List.mem_cons_of_mem _ hz)) with q | q
      · have := hb'.1 z hz; omega
      · exact q
theorem asc_of {a : List Int} (h : a.Pairwise (· ≤ ·)) (nd : a.Nodup) : a.Pairwise (· < ·) := by
  rw [List.pairwise_iff_getElem] at h ⊢
  intro i j hi hj hij
  have h1 := h i j hi hj hij
  have h2 := List.pairwise_iff_getElem.mp (List.nodup_iff_pairwise_ne.mp nd) i j hi hj hij
  omega
theorem asc_nd {a : List Int} (h : a.Pairwise (· < ·)) : a.Nodup := h.imp fun q => by omega
/-- what sorted gives of a list without doubles -/
theorem sorted_is {ns ns' b : List Int} (p : ns'.Perm ns) (s : ns'.Pairwise (· ≤ ·)) (nd : ns.Nodup) (hb : b.Pairwise (· < ·)) (m : ∀ x, x ∈ b ↔ x ∈ ns) : ns' = b :=
  asc_ext (asc_of s (p.nodup_iff.mpr nd)) hb fun x => by rw [p.mem_iff, m x]
/-- sorted(set(t)) == sorted(t) tells that there are no doubles -/
theorem set_sorted {ns a b : List Int} (ha : a.Pairwise (· < ·)) (ma : ∀ k, k ∈ a ↔ k ∈ ns) (p : b.Perm ns) (s : b.Pairwise (· ≤ ·)) : decide (a = b) = decide ns.Nodup := by
  by_cases h : ns.Nodup
  · rw [decide_eq_true h, decide_eq_true (sorted_is p s h ha ma).symm]
  · rw [decide_eq_false h, decide_eq_false]
    intro e
    subst e
    exact h (p.nodup_iff.mp (asc_nd ha))
/-! places in a dict whose keys are ints -/
def dd : List Int → List Int → List Int
  | F, [] => F
  | F, x :: r => if x ∈ F then dd F r else dd (F ++ [x]) r
theorem dd_le : ∀ (r F : List Int), (dd F r).length ≤ F.length + r.length
  | [], F => by unfold dd; simp
  | x :: r, F => by
    unfold dd
    split
    · have := dd_le r F
      rw [List.length_cons]; omega
    · have := dd_le r (F ++ [x])
      rw [List.length_append] at this
      rw [List.length_cons]
      have e : [x].length = 1 := rfl
      omega
theorem dd_nd : ∀ (r F : List Int), F.Nodup → ((dd F r).length = F.length + r.length ↔ (F ++ r).Nodup)
  | [], F, h => by unfold dd; simpa using h
  | x :: r, F, h => by
    unfold dd
    split
    · rename_i hx
      have := dd_le r F
      constructor
      · intro e; rw [List.length_cons] at e; omega
      · intro nd
        exact absurd rfl ((List.nodup_append.mp nd).2.2 x hx x List.mem_cons_self)
    · rename_i hx
      have nd' : (F ++ [x]).Nodup := List.nodup_append.mpr ⟨h, by simp, fun a ha b hb e => by
        rw [List.mem_singleton] at hb
        rw [hb] at e; rw [e] at ha; exact hx ha⟩
      have := dd_nd r (F ++ [x]) nd'
      rw [List.append_assoc] at this
      rw [← show (F ++ ([x] ++ r)) = F ++ x :: r from rfl, ← this, List.length_append, List.length_cons]
      have e : [x].length = 1 := rfl
      omega
def encT (F : List Int) (v : D) : List (L2.Key × D) := F.map fun i => (Sum.inl i, v)
theorem put_encT {F : List Int} {v : D} {i : Int} : putD (encT F v) (.inl i) v = encT (if i ∈ F then F else F ++ [i]) v := by
  unfold putD
  by_cases h : i ∈ F
  · rw [if_pos h, if_pos]
    · unfold encT
      rw [List.map_map]
      apply List.map_congr_left
      intro a _
      show (if (Sum.inl a : L2.Key) = Sum.inl i then (Sum.inl a, v) else (Sum.inl a, v)) = (Sum.inl a, v)
      split <;> rfl
    · refine List.any_eq_true.mpr ⟨(.inl i, v), List.mem_map.mpr ⟨i, h, rfl⟩, decide_eq_true rfl⟩
  · rw [if_neg h, if_neg]
    · unfold encT
      rw [List.map_append]
      rfl
    · intro q
      obtain ⟨kv, h1, h2⟩ := List.any_eq_true.mp q
      obtain ⟨a, ha, rfl⟩ := List.mem_map.mp h1
      have e := of_decide_eq_true h2
      injection e with e
      exact h (e ▸ ha)
/-- {x: v for x in xs} over ints -/
theorem dcD_ints {g : WG} {wt : WT} {wk wv : WE} {vs : List Nat} {ρ : REnv} {P : List (L2.Key × D) → Nat → Prop} {n : Nat} {v : D} (hv : v.nb) : ∀ (xs F : List Int),
    (∀ x ∈ xs, ∀ k : Option (L2.Key × D) → Nat → Prop, k (some (.inl x, v)) n → g (.int x) (wipeD ρ vs) fun ρ2 => wt ρ2 n fun c n2 => if c = true then wk ρ2 n2 fun y n3 => wv ρ2 n3 fun d n4 => ∃ kk, keyD y = some kk ∧ k (some (kk, d)) n4 else k none n2) →
    F.length + xs.length < 1000000 → P (encT (dd F xs) v) n → dcD g wt wk wv vs ρ P (xs.map D.int) (encT F v) n
  | [], F, _, _, p => by simpa [dcD, dd] using p
  | x :: r, F, h, hl, p => by
    rw [List.map_cons]
    unfold dcD
    have hl' : F.length + (r.length + 1) < 1000000 := hl
    refine h x List.mem_cons_self (fun o m => match o with | some (kk, d) => (encT F v).length < 1000000 ∧ d.nb ∧ dcD g wt wk wv vs ρ P (r.map D.int) (putD (encT F v) kk d) m | none => dcD g wt wk wv vs ρ P (r.map D.int) (encT F v) m) ?_
    refine ⟨?_, hv, ?_⟩
    · show (F.map _).length < 1000000
      rw [List.length_map]; omega
    · rw [put_encT]
      unfold dd at p
      by_cases hx : x ∈ F
      · rw [if_pos hx] at p ⊢
        exact dcD_ints hv r F (fun y hy => h y (List.mem_cons_of_mem _ hy)) (by omega) p
      · rw [if_neg hx] at p ⊢
        refine dcD_ints hv r (F ++ [x]) (fun y hy => h y (List.mem_cons_of_mem _ hy)) ?_ p
        rw [List.length_append]
        have e : [x].length = 1 := rfl
        omega
end DL
namespace Mine
open PySem PySem.Spec L2 PyProof.Rows DL
def okIx (m : Nat) : D → Bool
  | .int i => decide (0 ≤ i) && decide (i < m)
  | _ => false
def natOf : D → Nat
  | .int i => i.toNat
  | _ => 0
/-- nodes that follow one another round -/
def ringC (gs : List (List Int)) (c : List Nat) : Bool := decide c.Nodup && (List.range c.length).all fun k => Ed gs (c.getD k 0) (c.getD ((k + 1) % c.length) 0)
def ringV (gs : List (List Int)) (v : D) : Bool := match v with
  | .tup ds => if decide (ds.length % 2 = 1) = true then (if ds.all (okIx gs.length) = true then ringC gs (ds.map natOf) else false) else false
  | _ => false
theorem ringV_tup {gs : List (List Int)} {ds : List D} : ringV gs (.tup ds) = if decide (ds.length % 2 = 1) = true then (if ds.all (okIx gs.length) = true then ringC gs (ds.map natOf) else false) else false := rfl
theorem dN_ints {c : List Nat} : dN c = (c.map fun k : Nat => (k : Int)).map D.int := by unfold dN; rw [List.map_map]; rfl
theorem mem_cast {c : List Nat} {x : Nat} : (x : Int) ∈ (c.map fun k : Nat => (k : Int)) ↔ x ∈ c := by
  rw [List.mem_map]
  constructor
  · rintro ⟨y, hy, e⟩
    have : y = x := by omega
    rw [← this]; exact hy
  · exact fun h => ⟨x, h, rfl⟩
theorem inD_dN {c : List Nat} {x : Nat} : inD (.int (x : Int)) (dN c) = decide (x ∈ c) := by
  rw [dN_ints, inD_int]
  exact decide_eq_decide.mpr mem_cast
theorem nd_cast {c : List Nat} : (c.map fun k : Nat => (k : Int)).Nodup ↔ c.Nodup := by
  rw [List.nodup_iff_pairwise_ne, List.nodup_iff_pairwise_ne, List.pairwise_map]
  constructor
  · exact fun h => h.imp fun q e => q (by rw [e])
  · exact fun h => h.imp fun q e => q (by omega)
theorem round_all {L : Nat} {f : Nat → Nat → Bool} : ((List.range L).all fun k => f (if k = 0 then L - 1 else k - 1) k) = (List.range L).all fun k => f k ((k + 1) % L) := by
  rw [Bool.eq_iff_iff, List.all_eq_true, List.all_eq_true]
  constructor
  · intro h k hk
    have hk := List.mem_range.mp hk
    have hm : (k + 1) % L < L := Nat.mod_lt _ (by omega)
    have := h ((k + 1) % L) (List.mem_range.mpr hm)
    by_cases z : k + 1 = L
    · rw [z, Nat.mod_self] at this ⊢
      rw [if_pos rfl] at this
      rw [show k = L - 1 by omega]; exact this
    · rw [Nat.mod_eq_of_lt (by omega)] at this ⊢
      rw [if_neg (by omega)] at this
      exact this
  · intro h k hk
    have hk := List.mem_range.mp hk
    by_cases z : k = 0
    · subst z
      have := h (L - 1) (List.mem_range.mpr (by omega))
      rw [show L - 1 + 1 = L by omega, Nat.mod_self] at this
      rw [if_pos rfl]; exact this
    · have := h (k - 1) (List.mem_range.mpr (by omega))
      rw [show k - 1 + 1 = k by omega, Nat.mod_eq_of_lt hk] at this
      rw [if_neg z]; exact this
/-- what is_odd_ring may be asked -/
def ValOk (v : D) : Prop := v = .non ∨ (∃ ds, v = .lst ds) ∨ ∃ ds, v = .tup ds ∧ ds.length < 64 ∧ ∀ x ∈ ds, (∃ i, x = .int i) ∨ ∃ b, x = .bl b
theorem okIx_dN {m : Nat} {ds : List D} (h : ds.all (okIx m) = true) : ∃ c : List Nat, ds = dN c ∧ ds.map natOf = c ∧ ∀ x ∈ c, x < m := by
  induction ds with
  | nil => exact ⟨[], rfl, rfl, fun _ h => absurd h List.not_mem_nil⟩
  | cons d r ih =>
    rw [List.all_cons, Bool.and_eq_true] at h
    obtain ⟨c, h1, h2, h3⟩ := ih h.2
    cases d with
    | int i =>
      have h := h.1
      unfold okIx at h
      rw [Bool.and_eq_true, decide_eq_true_iff, decide_eq_true_iff] at h
      refine ⟨i.toNat :: c, ?_, ?_, fun x hx => ?_⟩
      · rw [h1]
        show D.int i :: dN c = D.int ((i.toNat : Nat) : Int) :: dN c
        rw [Int.toNat_of_nonneg h.1]
      · rw [List.map_cons, h2]; rfl
      · rcases List.mem_cons.mp hx with rfl | hx
        · omega
        · exact h3 x hx
    | _ => simp [okIx] at h
theorem Ed_cross {gs : List (List Int)} (ok : GsOk gs) {i j : Nat} (hi : i < gs.length) (hj : j < gs.length) : lcross (gs.getD i []) (gs.getD j []) = Ed gs i j := by
  have ha := ok.each _ (getD_mem hi)
  have hb := ok.each _ (getD_mem hj)
  unfold Ed
  generalize gs.getD i [] = a at *
  generalize gs.getD j [] = b at *
  have e := common_len ha.nd hb.nd
  have z : ∀ l : List Int, l.isEmpty = decide (l.length = 0) := fun l => by cases l <;> simp
  have l1 : (a.filter fun x => decide (x ∈ b)).length ≤ a.length := List.length_filter_le _ _
  have l2 : (b.filter fun x => decide (x ∈ a)).length ≤ b.length := List.length_filter_le _ _
  unfold lcross apart
  simp only [z]
  rw [← e] at l2
  generalize (a.filter fun x => decide (x ∈ b)).length = k at *
  by_cases h1 : k = 0
  · simp [h1]
  · by_cases h2 : k = a.length
    · have q : decide (k < min a.length b.length) = false := decide_eq_false (by omega)
      rw [q]
      simp [h1, h2]
    · by_cases h3 : k = b.length
      · have q : decide (k < min a.length b.length) = false := decide_eq_false (by omega)
        rw [q]
        simp [h1, h3]
      · have : k < min a.length b.length := by omega
        have h0 : 0 < k := by omega
        simp [h1, h2, h3, this, h0]
section
variable {P : Program} {w : World} {K : PySem.W.Frag} {base : Heap} {mg : Str → Option Value}
def F_is_odd_ring : FD := fun xs n P => ∃ d gs v, xs = [d, v] ∧ SeqD d (dG gs) ∧ GsOk gs ∧ ValOk v ∧ P (.bl (ringV gs v)) n
theorem ok_is_odd_ring (T : Top K mg) : FnOk P w K mg base CX0 4 T.f_is_odd_ring.a T.f_is_odd_ring.fd ["groups", "value"] (spD K F_is_odd_ring) := by
  refine dfun T.f_is_odd_ring.F sc_is_odd_ring ?_ (fun cdv A outer s H E b hr => (dss_cons (ds_expr (de_call (ok_check_groups T) (hr.mono (by decide)) T.f_check_groups.m T.f_check_groups.F.kp T.f_check_groups.b pass0 (da_cons (dv 0) da_nil))) (dss_cons (ds_if (dt_pw (dw_or (dt_not (dt_val (de_isi .tuple T.n_isinstance T.n_tuple (DE.toB (dv 1))))) (dw_or1 (dt_cmp (op_eqD hr.units) sd_eq (DE.toB (de_op op_mod (sdI fun _ _ _ _ => .int _) (DE.toB (de_callB cr_lenAll sd_len (by rfl) T.n_len (by decide +kernel) (dab_cons (DE.toB (dv 1)) dab_nil))) (DE.toB de_int))) (DE.toB de_int) (nomark _))))) (dss_one (ds_ret de_bl)) dss_nil) (dss_cons (ds_if (dt_not (dt_val (de_callB (cr_all rfl) sd_all (by rfl) T.n_all (by decide +kernel) (dab_cons (DE.toB (DF.toE (df_lc [("index", 2)] rfl sc_is_odd_ring.nd (di_seq (dv 1)) (by rfl) (fun _ _ _ _ _ => (dg_name 2 sc_is_odd_ring.nd)) (fun _ _ _ _ _ => dts_nil) (fun _ _ _ _ _ => (de_and (de_call (ok_is_whole T) (hr.mono (by decide)) T.f_is_whole.m T.f_is_whole.F.kp T.f_is_whole.b pass0 (da_cons (dv 2) da_nil)) (de_one (de_chain op_le sd_cmp op_lt sd_cmp (DE.toB de_int) (DE.toB (dv 2)) (DE.toB (de_callB cr_lenAll sd_len (by rfl) T.n_len (by decide +kernel) (dab_cons (DE.toB (dv 0)) dab_nil)))))))))) dab_nil)))) (dss_one (ds_ret de_bl)) dss_nil) (dss_cons (ds_if (dt_cmp (op_neD hr.units) sd_ne (DE.toB (de_callB cr_lenAll sd_len (by rfl) T.n_len (by decide +kernel) (dab_cons (DE.toB (de_dc [("index", 2)] rfl sc_is_odd_ring.nd (di_seq (dv 1)) (by rfl) (fun _ _ _ _ _ => (dg_name 2 sc_is_odd_ring.nd)) (fun _ _ _ _ _ => dts_nil) (fun _ _ _ _ _ => (dv 2)) (fun _ _ _ _ _ => de_bl))) dab_nil))) (DE.toB (de_callB cr_lenAll sd_len (by rfl) T.n_len (by decide +kernel) (dab_cons (DE.toB (dv 1)) dab_nil))) (nomark _)) (dss_one (ds_ret de_bl)) dss_nil) (dss_one (ds_ret (de_callB (cr_all rfl) sd_all (by rfl) T.n_all (by decide +kernel) (dab_cons (DE.toB (DF.toE (df_lc [("at", 3)] rfl sc_is_odd_ring.nd (di_range1 T.n_range (da_cons (de_callB cr_lenAll sd_len (by rfl) T.n_len (by decide +kernel) (dab_cons (DE.toB (dv 1)) dab_nil)) da_nil)) (by rfl) (fun _ _ _ _ _ => (dg_name 3 sc_is_odd_ring.nd)) (fun _ _ _ _ _ => dts_nil) (fun _ _ _ _ _ => (de_cmp op_in_seq (sd_in false) (DE.toB (de_ix ix_seq sd_ix (DE.toB (dv 1)) (DE.toB (dv 3)) (fun _ _ => rfl))) (DE.toB (de_call (ok_crossing T) (hr.mono (by decide)) T.f_crossing.m T.f_crossing.F.kp T.f_crossing.b pass0 (da_cons (dv 0) (da_cons (de_ix ix_seq sd_ix (DE.toB (dv 1)) (DE.toB (de_op op_sub (sdI0 fun _ _ _ _ => .int _) (DE.toB (dv 3)) (DE.toB de_int))) (fun _ _ => rfl)) da_nil)))) (by rfl)))))) dab_nil))))))))) ?_
  · rintro ds n Q ⟨d, gs, v, rfl, _⟩
    rfl
  · rintro ds n Q ⟨d, gs, v, rfl, hs, ok, hv, h⟩
    have h1 := ok.pos
    have h2 := ok.most
    have hl : (dG gs).length = gs.length := List.length_map ..
    simp only [wRet, wAnd_s, wOr_s, bsel_bl, wIfF, keyD, DL.wNot, wUn, wOp, wC, wCF, wVar, wVarB, wK, wChain_s, wB, wAndT, wOrT, wNotT, wIf, wNil, wCons, wTup, wLst, wV, wO, wNext, wSeq, wNever, wBreak, wCont, wRetN, wDrop, wIfS, wAsg, wPar, wFree, freeD, wApp0, wApp, wCall, gN, gT, setD, wIt1, wIt2, wFor, wLc, wYes, wOf, wOfK, wOK, wDc, wRg1, wRg2, wONo, wOSo, wSlL, wSl, wRevL, wRevT, wDput, popK, wPopAsg, wPopTup, wAppPop, wExt, wCallN, pick, wStar, wUnpA, wIndex, wRep, wTupF, wStepT, wBoxIx_0, wBoxIx_1, wBoxIx_2, wBoxIx_3, wBoxTo, wBoxInc, wBoxOf, wNo, wSortedSet, wNewK, dI0, dI2, dAdd, dMul, dAbs, dInt, dIsi, dIsiT, dEq, dNe, dIn, dIsN, dNotN, dIsB, dMin2, dMax2, dDget, dDin, startD, wipeD, List.map_cons, List.map_nil, List.length_cons, List.length_nil, List.replicate_succ, List.replicate_zero, List.cons_append, List.nil_append, List.getElem?_cons_zero, List.getElem?_cons_succ, List.set_cons_zero, List.set_cons_succ, Nat.reduceAdd, Nat.reduceSub, if_true, Bool.false_eq_true, if_false, reduceIte, Option.isSome_some, Option.isSome_none, true_and, and_true, List.map_nil, dLen_lst, dLen_tup, dLen_scr, dLen_dic, optD_some, dIx_lst, dIx_tup, itD_lst, itD_tup, wIt_s, dList_lst, dList_tup, dTup_lst, dTup_tup]
    refine ⟨d, gs, rfl, hs, ok, ?_⟩
    rcases hv with rfl | ⟨ds, rfl⟩ | ⟨ds, rfl, hd, hx⟩
    · simp only [tyD, isD, Option.isSome_some, true_and, Bool.not_false, if_true]
      exact h
    · simp only [tyD, isD, Option.isSome_some, true_and, Bool.not_false, if_true]
      exact h
    · simp only [tyD, isD, Option.isSome_some, true_and, Bool.not_true, Bool.false_eq_true, if_false, okd_int, eqd_int, wRet, wAnd_s, wOr_s, bsel_bl, wIfF, keyD, DL.wNot, wUn, wOp, wC, wCF, wVar, wVarB, wK, wChain_s, wB, wAndT, wOrT, wNotT, wIf, wNil, wCons, wTup, wLst, wV, wO, wNext, wSeq, wNever, wBreak, wCont, wRetN, wDrop, wIfS, wAsg, wPar, wFree, freeD, wApp0, wApp, wCall, gN, gT, setD, wIt1, wIt2, wFor, wLc, wYes, wOf, wOfK, wOK, wDc, wRg1, wRg2, wONo, wOSo, wSlL, wSl, wRevL, wRevT, wDput, popK, wPopAsg, wPopTup, wAppPop, wExt, wCallN, pick, wStar, wUnpA, wIndex, wRep, wTupF, wStepT, wBoxIx_0, wBoxIx_1, wBoxIx_2, wBoxIx_3, wBoxTo, wBoxInc, wBoxOf, wNo, wSortedSet, wNewK, dI0, dI2, dAdd, dMul, dAbs, dInt, dIsi, dIsiT, dEq, dNe, dIn, dIsN, dNotN, dIsB, dMin2, dMax2, dDget, dDin, startD, wipeD, List.map_cons, List.map_nil, List.length_cons, List.length_nil, List.replicate_succ, List.replicate_zero, List.cons_append, List.nil_append, List.getElem?_cons_zero, List.getElem?_cons_succ, List.set_cons_zero, List.set_cons_succ, Nat.reduceAdd, Nat.reduceSub, if_true, Bool.false_eq_true, if_false, reduceIte, Option.isSome_some, Option.isSome_none, true_and, and_true, List.map_nil, dLen_lst, dLen_tup, dLen_scr, dLen_dic, optD_some, dIx_lst, dIx_tup, itD_lst, itD_tup, wIt_s, dList_lst, dList_tup, dTup_lst, dTup_tup]
      refine ⟨by omega, ?_⟩
      have e0 : decide ((ds.length : Int) % 2 = 0) = !decide (ds.length % 2 = 1) := by
        by_cases z : ds.length % 2 = 1
        · rw [decide_eq_true z, decide_eq_false (by omega)]; rfl
        · rw [decide_eq_false z, decide_eq_true (by omega)]; rfl
      rw [e0]
      rw [ringV_tup] at h
      by_cases ho : ds.length % 2 = 1
      · rw [if_pos (decide_eq_true ho)] at h
        simp only [decide_eq_true ho, Bool.not_true, Bool.false_eq_true, if_false]
        refine lcD_map (f := fun d => some (.bl (okIx gs.length d))) _ _ _ (fun x hx' k hk => ?_) (fun x _ d e => by cases e; trivial) (by simp; omega) ?_
        · simp only [wRet, wAnd_s, wOr_s, bsel_bl, wIfF, keyD, DL.wNot, wUn, wOp, wC, wCF, wVar, wVarB, wK, wChain_s, wB, wAndT, wOrT, wNotT, wIf, wNil, wCons, wTup, wLst, wV, wO, wNext, wSeq, wNever, wBreak, wCont, wRetN, wDrop, wIfS, wAsg, wPar, wFree, freeD, wApp0, wApp, wCall, gN, gT, setD, wIt1, wIt2, wFor, wLc, wYes, wOf, wOfK, wOK, wDc, wRg1, wRg2, wONo, wOSo, wSlL, wSl, wRevL, wRevT, wDput, popK, wPopAsg, wPopTup, wAppPop, wExt, wCallN, pick, wStar, wUnpA, wIndex, wRep, wTupF, wStepT, wBoxIx_0, wBoxIx_1, wBoxIx_2, wBoxIx_3, wBoxTo, wBoxInc, wBoxOf, wNo, wSortedSet, wNewK, dI0, dI2, dAdd, dMul, dAbs, dInt, dIsi, dIsiT, dEq, dNe, dIn, dIsN, dNotN, dIsB, dMin2, dMax2, dDget, dDin, startD, wipeD, List.map_cons, List.map_nil, List.length_cons, List.length_nil, List.replicate_succ, List.replicate_zero, List.cons_append, List.nil_append, List.getElem?_cons_zero, List.getElem?_cons_succ, List.set_cons_zero, List.set_cons_succ, Nat.reduceAdd, Nat.reduceSub, if_true, Bool.false_eq_true, if_false, reduceIte, Option.isSome_some, Option.isSome_none, true_and, and_true, List.map_nil, dLen_lst, dLen_tup, dLen_scr, dLen_dic, optD_some, dIx_lst, dIx_tup, itD_lst, itD_tup, wIt_s, dList_lst, dList_tup, dTup_lst, dTup_tup, len_seq hs, hl]
          refine ⟨x, rfl, ?_, ?_⟩
          · rcases hx x hx' with ⟨i, rfl⟩ | ⟨b, rfl⟩ <;> rfl
          · rcases hx x hx' with ⟨i, rfl⟩ | ⟨b, rfl⟩
            · simp only [isInt, bsel_bl, if_true]
              have : k (some (.bl (decide (0 ≤ i) && decide (i < gs.length)))) n := hk
              cases q : decide (0 ≤ i) <;> simp only [q, Bool.true_and, Bool.false_and, if_true, Bool.false_eq_true, if_false] at this ⊢ <;> exact this
            · exact hk
        · rw [List.nil_append, fm_map]
          refine dAll_of map_bl ?_
          rw [all_id]
          by_cases ha : ds.all (okIx gs.length) = true
          · rw [if_pos ha] at h
            obtain ⟨c, rfl, hc, hlt⟩ := okIx_dN ha
            rw [hc] at h
            rw [dN_len] at hd ho
            simp only [ha, Bool.not_true, Bool.false_eq_true, if_false]
            rw [dN_ints]
            refine dcD_ints (v := .bl true) trivial _ [] (fun x hx k hk => ?_) (by simp; omega) ?_
            · simp only [wRet, wAnd_s, wOr_s, bsel_bl, wIfF, keyD, DL.wNot, wUn, wOp, wC, wCF, wVar, wVarB, wK, wChain_s, wB, wAndT, wOrT, wNotT, wIf, wNil, wCons, wTup, wLst, wV, wO, wNext, wSeq, wNever, wBreak, wCont, wRetN, wDrop, wIfS, wAsg, wPar, wFree, freeD, wApp0, wApp, wCall, gN, gT, setD, wIt1, wIt2, wFor, wLc, wYes, wOf, wOfK, wOK, wDc, wRg1, wRg2, wONo, wOSo, wSlL, wSl, wRevL, wRevT, wDput, popK, wPopAsg, wPopTup, wAppPop, wExt, wCallN, pick, wStar, wUnpA, wIndex, wRep, wTupF, wStepT, wBoxIx_0, wBoxIx_1, wBoxIx_2, wBoxIx_3, wBoxTo, wBoxInc, wBoxOf, wNo, wSortedSet, wNewK, dI0, dI2, dAdd, dMul, dAbs, dInt, dIsi, dIsiT, dEq, dNe, dIn, dIsN, dNotN, dIsB, dMin2, dMax2, dDget, dDin, startD, wipeD, List.map_cons, List.map_nil, List.length_cons, List.length_nil, List.replicate_succ, List.replicate_zero, List.cons_append, List.nil_append, List.getElem?_cons_zero, List.getElem?_cons_succ, List.set_cons_zero, List.set_cons_succ, Nat.reduceAdd, Nat.reduceSub, if_true, Bool.false_eq_true, if_false, reduceIte, Option.isSome_some, Option.isSome_none, true_and, and_true, List.map_nil, dLen_lst, dLen_tup, dLen_scr, dLen_dic, optD_some, dIx_lst, dIx_tup, itD_lst, itD_tup, wIt_s, dList_lst, dList_tup, dTup_lst, dTup_tup]
              exact ⟨_, rfl, hk⟩
            · have el : (encT (dd [] (c.map fun k : Nat => (k : Int))) (.bl true)).length = (dd [] (c.map fun k : Nat => (k : Int))).length := List.length_map ..
              have en : decide ((((dd [] (c.map fun k : Nat => (k : Int))).length : Nat) : Int) = ((c.length : Nat) : Int)) = decide c.Nodup := by
                rw [natCast_eq]
                refine decide_eq_decide.mpr ?_
                have := dd_nd (c.map fun k : Nat => (k : Int)) [] List.nodup_nil
                rw [List.length_map, List.nil_append, List.length_nil, Nat.zero_add] at this
                rw [this, nd_cast]
              simp only [el, List.length_map, en]
              unfold ringC at h
              by_cases hnd : c.Nodup
              · simp only [decide_eq_true hnd, Bool.not_true, Bool.false_eq_true, if_false, Bool.true_and] at h ⊢
                refine ⟨by omega, ?_⟩
                rw [rangeD_nat]
                refine lcD_each (fun k : Nat => D.int ((k : Nat) : Int)) (fun k => .bl (Ed gs (c.getD (if k = 0 then c.length - 1 else k - 1) 0) (c.getD k 0))) (fun x hx k hk => ?_) (fun _ => trivial) (by rw [List.length_range]; omega) ?_
                · have hx := List.mem_range.mp hx
                  have gx : c[x]? = some (c.getD x 0) := by rw [List.getD_eq_getElem?_getD, List.getElem?_eq_getElem hx]; rfl
                  have gp : ∀ j, j < c.length → c[j]? = some (c.getD j 0) := fun j hj => by rw [List.getD_eq_getElem?_getD, List.getElem?_eq_getElem hj]; rfl
                  have lt : ∀ j, j < c.length → c.getD j 0 < gs.length := fun j hj => hlt _ (List.mem_of_getElem? (gp j hj))
                  have hp : (if x = 0 then c.length - 1 else x - 1) < c.length := by split <;> omega
                  have ap : atI (dN c) ((x : Int) - 1) = some (.int ((c.getD (if x = 0 then c.length - 1 else x - 1) 0 : Nat) : Int)) := by
                    by_cases z : x = 0
                    · subst z
                      rw [if_pos rfl] at hp ⊢
                      refine atI_end ?_
                      rw [dN_len]
                      unfold dN
                      rw [List.getElem?_map, gp _ hp]
                      rfl
                    · rw [if_neg z] at hp ⊢
                      exact dN_at (by omega) (gp _ hp)
                  simp only [← dN_ints]
                  simp only [wRet, wAnd_s, wOr_s, bsel_bl, wIfF, keyD, DL.wNot, wUn, wOp, wC, wCF, wVar, wVarB, wK, wChain_s, wB, wAndT, wOrT, wNotT, wIf, wNil, wCons, wTup, wLst, wV, wO, wNext, wSeq, wNever, wBreak, wCont, wRetN, wDrop, wIfS, wAsg, wPar, wFree, freeD, wApp0, wApp, wCall, gN, gT, setD, wIt1, wIt2, wFor, wLc, wYes, wOf, wOfK, wOK, wDc, wRg1, wRg2, wONo, wOSo, wSlL, wSl, wRevL, wRevT, wDput, popK, wPopAsg, wPopTup, wAppPop, wExt, wCallN, pick, wStar, wUnpA, wIndex, wRep, wTupF, wStepT, wBoxIx_0, wBoxIx_1, wBoxIx_2, wBoxIx_3, wBoxTo, wBoxInc, wBoxOf, wNo, wSortedSet, wNewK, dI0, dI2, dAdd, dMul, dAbs, dInt, dIsi, dIsiT, dEq, dNe, dIn, dIsN, dNotN, dIsB, dMin2, dMax2, dDget, dDin, startD, wipeD, List.map_cons, List.map_nil, List.length_cons, List.length_nil, List.replicate_succ, List.replicate_zero, List.cons_append, List.nil_append, List.getElem?_cons_zero, List.getElem?_cons_succ, List.set_cons_zero, List.set_cons_succ, Nat.reduceAdd, Nat.reduceSub, if_true, Bool.false_eq_true, if_false, reduceIte, Option.isSome_some, Option.isSome_none, true_and, and_true, List.map_nil, dLen_lst, dLen_tup, dLen_scr, dLen_dic, optD_some, dIx_lst, dIx_tup, itD_lst, itD_tup, wIt_s, dList_lst, dList_tup, dTup_lst, dTup_tup, dN_at rfl gx, ap]
                  refine ⟨d, gs, _, rfl, hs, ok, lt _ hp, ?_⟩
                  refine ⟨⟨rfl, dN_flat⟩, ?_⟩
                  rw [inD_dN]
                  have e : decide (c.getD x 0 ∈ adj gs (c.getD (if x = 0 then c.length - 1 else x - 1) 0)) = Ed gs (c.getD (if x = 0 then c.length - 1 else x - 1) 0) (c.getD x 0) := by
                    rw [Bool.eq_iff_iff, decide_eq_true_iff, mem_adj]
                    exact ⟨fun q => q.2, fun q => ⟨lt x hx, q⟩⟩
                  rw [e]
                  exact hk
                · refine dAll_of map_bl ?_
                  rw [all_id]
                  rw [round_all (L := c.length) (f := fun i j => Ed gs (c.getD i 0) (c.getD j 0))]
                  exact h
              · simp only [decide_eq_false hnd, Bool.not_false, if_true, Bool.false_and] at h ⊢
                exact h
          · simp only [ha, Bool.not_false, if_true]
            rw [if_neg ha] at h
            exact h
      · rw [if_neg (by simpa using ho)] at h
        simp only [decide_eq_false ho, Bool.not_false, if_true]
        exact h
end
end Mine
namespace Mine
open PySem PySem.Spec L2 PyProof.Rows DL
section
variable {P : Program} {w : World} {K : PySem.W.Frag} {base : Heap} {mg : Str → Option Value}
def F__law_is_ring : FD := fun xs n P => ∃ gs v, xs = [v, .lst (dG gs)] ∧ GsOk gs ∧ ValOk v ∧ P (.bl (ringV gs v)) n
theorem ok__law_is_ring (T : Top K mg) : FnOk P w K mg base CX0 2 T.f__law_is_ring.a T.f__law_is_ring.fd ["value", "groups"] (spD K F__law_is_ring) := by
  refine dfun T.f__law_is_ring.F sc__law_is_ring ?_ (fun cdv A outer s H E b hr => (dss_cons (ds_if (dt_pw (dw_or (dt_not (dt_val (de_isi .tuple T.n_isinstance T.n_tuple (DE.toB (dv 0))))) (dw_or (dt_cmp (op_eqD hr.units) sd_eq (DE.toB (de_op op_mod (sdI fun _ _ _ _ => .int _) (DE.toB (de_callB cr_lenAll sd_len (by rfl) T.n_len (by decide +kernel) (dab_cons (DE.toB (dv 0)) dab_nil))) (DE.toB de_int))) (DE.toB de_int) (nomark _)) (dw_or1 (dt_cmp (op_neD hr.units) sd_ne (DE.toB (DF.toE (df_lc [("item", 2)] rfl sc__law_is_ring.nd (di_seq (dv 0)) (by rfl) (fun _ _ _ _ _ => (dg_name 2 sc__law_is_ring.nd)) (fun _ _ _ _ _ => (dts_one (dt_pw (dw_or (dt_not (dt_val (de_call (ok__law_whole T) (hr.mono (by decide)) T.f__law_whole.m T.f__law_whole.F.kp T.f__law_whole.b pass0 (da_cons (dv 2) da_nil)))) (dw_or1 (dt_not (dt_chain op_le sd_cmp op_lt sd_cmp (DE.toB de_int) (DE.toB (dv 2)) (DE.toB (de_callB cr_lenAll sd_len (by rfl) T.n_len (by decide +kernel) (dab_cons (DE.toB (dv 1)) dab_nil)))))))))) (fun _ _ _ _ _ => (dv 2))))) (DE.toB (DF.toE (df_lst da_nil))) (nomark _)))))) (dss_one (ds_ret de_bl)) dss_nil) (dss_cons (ds_if (dt_cmp (op_neD hr.units) sd_ne (DE.toB (DF.toE (df_sortedSet rfl T.n_sorted T.n_set (DE.toB (dv 0))))) (DE.toB (DF.toE (df_callB cr_sortedQ sd_sortedQ (by rfl) T.n_sorted (by decide +kernel) (dab_cons (DE.toB (dv 0)) dab_nil)))) (nomark _)) (dss_one (ds_ret de_bl)) dss_nil) (dss_one (ds_ret (de_cmp (op_eqD hr.units) sd_eq (DE.toB (DF.toE (df_lc [("k", 3)] rfl sc__law_is_ring.nd (di_range1 T.n_range (da_cons (de_callB cr_lenAll sd_len (by rfl) T.n_len (by decide +kernel) (dab_cons (DE.toB (dv 0)) dab_nil)) da_nil)) (by rfl) (fun _ _ _ _ _ => (dg_name 3 sc__law_is_ring.nd)) (fun _ _ _ _ _ => (dts_one (dt_not (dt_val (de_call (ok__law_cross T) (hr.mono (by decide)) T.f__law_cross.m T.f__law_cross.F.kp T.f__law_cross.b pass0 (da_cons (de_ix ix_seq sd_ix (DE.toB (dv 1)) (DE.toB (de_ix ix_seq sd_ix (DE.toB (dv 0)) (DE.toB (dv 3)) (fun _ _ => rfl))) (fun _ _ => rfl)) (da_cons (de_ix ix_seq sd_ix (DE.toB (dv 1)) (DE.toB (de_ix ix_seq sd_ix (DE.toB (dv 0)) (DE.toB (de_op op_mod (sdI fun _ _ _ _ => .int _) (DE.toB (de_op op_addAll sd_add (DE.toB (dv 3)) (DE.toB de_int))) (DE.toB (de_callB cr_lenAll sd_len (by rfl) T.n_len (by decide +kernel) (dab_cons (DE.toB (dv 0)) dab_nil))))) (fun _ _ => rfl))) (fun _ _ => rfl)) da_nil))))))) (fun _ _ _ _ _ => (dv 3))))) (DE.toB (DF.toE (df_lst da_nil))) (nomark _))))))) ?_
  · rintro ds n Q ⟨gs, v, rfl, _⟩
    rfl
  · rintro ds n Q ⟨gs, v, rfl, ok, hv, h⟩
    have h1 := ok.pos
    have h2 := ok.most
    have hl : (dG gs).length = gs.length := List.length_map ..
    simp only [wRet, wAnd_s, wOr_s, bsel_bl, wIfF, keyD, DL.wNot, wUn, wOp, wC, wCF, wVar, wVarB, wK, wChain_s, wB, wAndT, wOrT, wNotT, wIf, wNil, wCons, wTup, wLst, wV, wO, wNext, wSeq, wNever, wBreak, wCont, wRetN, wDrop, wIfS, wAsg, wPar, wFree, freeD, wApp0, wApp, wCall, gN, gT, setD, wIt1, wIt2, wFor, wLc, wYes, wOf, wOfK, wOK, wDc, wRg1, wRg2, wONo, wOSo, wSlL, wSl, wRevL, wRevT, wDput, popK, wPopAsg, wPopTup, wAppPop, wExt, wCallN, pick, wStar, wUnpA, wIndex, wRep, wTupF, wStepT, wBoxIx_0, wBoxIx_1, wBoxIx_2, wBoxIx_3, wBoxTo, wBoxInc, wBoxOf, wNo, wSortedSet, wNewK, dI0, dI2, dAdd, dMul, dAbs, dInt, dIsi, dIsiT, dEq, dNe, dIn, dIsN, dNotN, dIsB, dMin2, dMax2, dDget, dDin, startD, wipeD, List.map_cons, List.map_nil, List.length_cons, List.length_nil, List.replicate_succ, List.replicate_zero, List.cons_append, List.nil_append, List.getElem?_cons_zero, List.getElem?_cons_succ, List.set_cons_zero, List.set_cons_succ, Nat.reduceAdd, Nat.reduceSub, if_true, Bool.false_eq_true, if_false, reduceIte, Option.isSome_some, Option.isSome_none, true_and, and_true, List.map_nil, dLen_lst, dLen_tup, dLen_scr, dLen_dic, optD_some, dIx_lst, dIx_tup, itD_lst, itD_tup, wIt_s, dList_lst, dList_tup, dTup_lst, dTup_tup]
    rcases hv with rfl | ⟨ds, rfl⟩ | ⟨ds, rfl, hd, hx⟩
    · simp only [tyD, isD, Option.isSome_some, true_and, Bool.not_false, if_true]
      exact h
    · simp only [tyD, isD, Option.isSome_some, true_and, Bool.not_false, if_true]
      exact h
    · simp only [tyD, isD, Option.isSome_some, true_and, Bool.not_true, Bool.false_eq_true, if_false, okd_int, eqd_int, wRet, wAnd_s, wOr_s, bsel_bl, wIfF, keyD, DL.wNot, wUn, wOp, wC, wCF, wVar, wVarB, wK, wChain_s, wB, wAndT, wOrT, wNotT, wIf, wNil, wCons, wTup, wLst, wV, wO, wNext, wSeq, wNever, wBreak, wCont, wRetN, wDrop, wIfS, wAsg, wPar, wFree, freeD, wApp0, wApp, wCall, gN, gT, setD, wIt1, wIt2, wFor, wLc, wYes, wOf, wOfK, wOK, wDc, wRg1, wRg2, wONo, wOSo, wSlL, wSl, wRevL, wRevT, wDput, popK, wPopAsg, wPopTup, wAppPop, wExt, wCallN, pick, wStar, wUnpA, wIndex, wRep, wTupF, wStepT, wBoxIx_0, wBoxIx_1, wBoxIx_2, wBoxIx_3, wBoxTo, wBoxInc, wBoxOf, wNo, wSortedSet, wNewK, dI0, dI2, dAdd, dMul, dAbs, dInt, dIsi, dIsiT, dEq, dNe, dIn, dIsN, dNotN, dIsB, dMin2, dMax2, dDget, dDin, startD, wipeD, List.map_cons, List.map_nil, List.length_cons, List.length_nil, List.replicate_succ, List.replicate_zero, List.cons_append, List.nil_append, List.getElem?_cons_zero, List.getElem?_cons_succ, List.set_cons_zero, List.set_cons_succ, Nat.reduceAdd, Nat.reduceSub, if_true, Bool.false_eq_true, if_false, reduceIte, Option.isSome_some, Option.isSome_none, true_and, and_true, List.map_nil, dLen_lst, dLen_tup, dLen_scr, dLen_dic, optD_some, dIx_lst, dIx_tup, itD_lst, itD_tup, wIt_s, dList_lst, dList_tup, dTup_lst, dTup_tup]
      refine ⟨by omega, ?_⟩
      have e0 : decide ((ds.length : Int) % 2 = 0) = !decide (ds.length % 2 = 1) := by
        by_cases z : ds.length % 2 = 1
        · rw [decide_eq_true z, decide_eq_false (by omega)]; rfl
        · rw [decide_eq_false z, decide_eq_true (by omega)]; rfl
      rw [e0]
      rw [ringV_tup] at h
      by_cases ho : ds.length % 2 = 1
      · rw [if_pos (decide_eq_true ho)] at h
        simp only [decide_eq_true ho, Bool.not_true, Bool.false_eq_true, if_false]
        refine lcD_map (f := fun d => if okIx gs.length d = true then none else some d) _ _ _ (fun x hx' k hk => ?_) (fun x hx' d e => ?_) (by simp; omega) ?_
        · simp only [wRet, wAnd_s, wOr_s, bsel_bl, wIfF, keyD, DL.wNot, wUn, wOp, wC, wCF, wVar, wVarB, wK, wChain_s, wB, wAndT, wOrT, wNotT, wIf, wNil, wCons, wTup, wLst, wV, wO, wNext, wSeq, wNever, wBreak, wCont, wRetN, wDrop, wIfS, wAsg, wPar, wFree, freeD, wApp0, wApp, wCall, gN, gT, setD, wIt1, wIt2, wFor, wLc, wYes, wOf, wOfK, wOK, wDc, wRg1, wRg2, wONo, wOSo, wSlL, wSl, wRevL, wRevT, wDput, popK, wPopAsg, wPopTup, wAppPop, wExt, wCallN, pick, wStar, wUnpA, wIndex, wRep, wTupF, wStepT, wBoxIx_0, wBoxIx_1, wBoxIx_2, wBoxIx_3, wBoxTo, wBoxInc, wBoxOf, wNo, wSortedSet, wNewK, dI0, dI2, dAdd, dMul, dAbs, dInt, dIsi, dIsiT, dEq, dNe, dIn, dIsN, dNotN, dIsB, dMin2, dMax2, dDget, dDin, startD, wipeD, List.map_cons, List.map_nil, List.length_cons, List.length_nil, List.replicate_succ, List.replicate_zero, List.cons_append, List.nil_append, List.getElem?_cons_zero, List.getElem?_cons_succ, List.set_cons_zero, List.set_cons_succ, Nat.reduceAdd, Nat.reduceSub, if_true, Bool.false_eq_true, if_false, reduceIte, Option.isSome_some, Option.isSome_none, true_and, and_true, List.map_nil, dLen_lst, dLen_tup, dLen_scr, dLen_dic, optD_some, dIx_lst, dIx_tup, itD_lst, itD_tup, wIt_s, dList_lst, dList_tup, dTup_lst, dTup_tup, hl]
          refine ⟨x, rfl, ?_, ?_⟩
          · rcases hx x hx' with ⟨i, rfl⟩ | ⟨b, rfl⟩ <;> rfl
          · rcases hx x hx' with ⟨i, rfl⟩ | ⟨b, rfl⟩
            · have : k (if (decide (0 ≤ i) && decide (i < gs.length)) = true then none else some (.int i)) n := hk
              simp only [isInt, Bool.not_true, Bool.false_eq_true, if_false]
              cases q : decide (0 ≤ i) <;> cases q2 : decide (i < (gs.length : Int)) <;> simp only [q, q2, Bool.true_and, Bool.false_and, if_true, Bool.false_eq_true, if_false, Bool.not_true, Bool.not_false, Bool.and_false, Bool.and_true] at this ⊢ <;> exact this
            · exact hk
        · split at e
          · cases e
          · cases e
            rcases hx _ hx' with ⟨i, rfl⟩ | ⟨b, rfl⟩ <;> trivial
        · have key : (([] : List D) ++ ds.filterMap fun d => if okIx gs.length d = true then none else some d).isEmpty = ds.all (okIx gs.length) := by
            rw [List.nil_append]
            clear hx hd h e0 ho
            induction ds with
            | nil => rfl
            | cons d r ih =>
              rw [List.filterMap_cons, List.all_cons]
              by_cases z : okIx gs.length d = true
              · rw [if_pos z, z, Bool.true_and]; exact ih
              · rw [if_neg z]
                have z : okIx gs.length d = false := by simpa using z
                rw [z]; rfl
          have oks : okd 64 (.lst (([] : List D) ++ ds.filterMap fun d => if okIx gs.length d = true then none else some d)) = true := okd_lst fun d hd' => by
            rw [List.nil_append] at hd'
            obtain ⟨x, hx', e⟩ := List.mem_filterMap.mp hd'
            split at e
            · cases e
            · cases e
              rcases hx _ hx' with ⟨i, rfl⟩ | ⟨b, rfl⟩
              · exact okd_int
              · exact okd_bl
          simp only [nbs, oks, okd_lnil, eqd_lnil, key, true_and]
          refine ⟨by omega, ?_⟩
          by_cases ha : ds.all (okIx gs.length) = true
          · rw [if_pos ha] at h
            obtain ⟨c, rfl, hc, hlt⟩ := okIx_dN ha
            rw [hc] at h
            rw [dN_len] at hd ho
            simp only [ha, Bool.not_true, Bool.false_eq_true, if_false]
            refine ⟨c.map fun k : Nat => (k : Int), by rw [dN_ints], by rw [List.length_map]; exact hd, fun ns1 a1 m1 => ?_⟩
            refine ⟨_, c.map fun k : Nat => (k : Int), rfl, .inr (by rw [dN_ints]), fun ns2 p2 s2 => ?_⟩
            simp only [okd_lints, eqd_lints, set_sorted a1 m1 p2 s2, true_and]
            rw [show decide (c.map fun k : Nat => (k : Int)).Nodup = decide c.Nodup from decide_eq_decide.mpr nd_cast]
            unfold ringC at h
            by_cases hnd : c.Nodup
            · simp only [decide_eq_true hnd, Bool.not_true, Bool.false_eq_true, if_false, Bool.true_and, dN_len] at h ⊢
              refine ⟨by omega, ?_⟩
              rw [rangeD_nat]
              refine lcD_if (fun k : Nat => D.int ((k : Nat) : Int)) (fun k => !Ed gs (c.getD k 0) (c.getD ((k + 1) % c.length) 0)) (fun k : Nat => D.int ((k : Nat) : Int)) (fun x hx A B hk k ea eb => ?_) (fun _ => trivial) (by rw [List.length_range]; omega) ?_
              · have hx := List.mem_range.mp hx
                subst ea eb
                have gp : ∀ j, j < c.length → c[j]? = some (c.getD j 0) := fun j hj => by rw [List.getD_eq_getElem?_getD, List.getElem?_eq_getElem hj]; rfl
                have lt : ∀ j, j < c.length → c.getD j 0 < gs.length := fun j hj => hlt _ (List.mem_of_getElem? (gp j hj))
                have hp : (x + 1) % c.length < c.length := Nat.mod_lt _ (by omega)
                have ap : atI (dN c) (((x : Int) + 1) % (c.length : Int)) = some (.int ((c.getD ((x + 1) % c.length) 0 : Nat) : Int)) := dN_at (by rw [Int.natCast_emod, Int.natCast_add]; rfl) (gp _ hp)
                simp only [wRet, wAnd_s, wOr_s, bsel_bl, wIfF, keyD, DL.wNot, wUn, wOp, wC, wCF, wVar, wVarB, wK, wChain_s, wB, wAndT, wOrT, wNotT, wIf, wNil, wCons, wTup, wLst, wV, wO, wNext, wSeq, wNever, wBreak, wCont, wRetN, wDrop, wIfS, wAsg, wPar, wFree, freeD, wApp0, wApp, wCall, gN, gT, setD, wIt1, wIt2, wFor, wLc, wYes, wOf, wOfK, wOK, wDc, wRg1, wRg2, wONo, wOSo, wSlL, wSl, wRevL, wRevT, wDput, popK, wPopAsg, wPopTup, wAppPop, wExt, wCallN, pick, wStar, wUnpA, wIndex, wRep, wTupF, wStepT, wBoxIx_0, wBoxIx_1, wBoxIx_2, wBoxIx_3, wBoxTo, wBoxInc, wBoxOf, wNo, wSortedSet, wNewK, dI0, dI2, dAdd, dMul, dAbs, dInt, dIsi, dIsiT, dEq, dNe, dIn, dIsN, dNotN, dIsB, dMin2, dMax2, dDget, dDin, startD, wipeD, List.map_cons, List.map_nil, List.length_cons, List.length_nil, List.replicate_succ, List.replicate_zero, List.cons_append, List.nil_append, List.getElem?_cons_zero, List.getElem?_cons_succ, List.set_cons_zero, List.set_cons_succ, Nat.reduceAdd, Nat.reduceSub, if_true, Bool.false_eq_true, if_false, reduceIte, Option.isSome_some, Option.isSome_none, true_and, and_true, List.map_nil, dLen_lst, dLen_tup, dLen_scr, dLen_dic, optD_some, dIx_lst, dIx_tup, itD_lst, itD_tup, wIt_s, dList_lst, dList_tup, dTup_lst, dTup_tup, dN_at rfl (gp x hx), dN_len, ap, dG_at rfl (lt x hx), dG_at rfl (lt _ hp)]
                refine ⟨by omega, _, _, rfl, ?_, ?_⟩
                · have := (ok.each _ (getD_mem (lt x hx))).len; omega
                · rw [Ed_cross ok (lt x hx) (lt _ hp)]
                  exact hk
              · have e2 : (((List.range c.length).filter fun k => !Ed gs (c.getD k 0) (c.getD ((k + 1) % c.length) 0)).map fun k : Nat => D.int ((k : Nat) : Int)).isEmpty = (List.range c.length).all fun k => Ed gs (c.getD k 0) (c.getD ((k + 1) % c.length) 0) := by
                  rw [List.isEmpty_map, Bool.eq_iff_iff, List.isEmpty_iff, List.filter_eq_nil_iff, List.all_eq_true]
                  constructor
                  · intro q k hk; have := q k hk; simpa using this
                  · intro q k hk; have := q k hk; simpa using this
                have o2 : okd 64 (.lst (((List.range c.length).filter fun k => !Ed gs (c.getD k 0) (c.getD ((k + 1) % c.length) 0)).map fun k : Nat => D.int ((k : Nat) : Int))) = true := okd_dN
                simp only [nbs, o2, okd_lnil, eqd_lnil, e2, true_and]
                exact ⟨by omega, h⟩
            · simp only [decide_eq_false hnd, Bool.not_false, if_true, Bool.false_and] at h ⊢
              exact h
          · have ha' : ds.all (okIx gs.length) = false := by simpa using ha
            simp only [ha', Bool.not_false, if_true]
            rw [if_neg ha] at h
            exact h
      · rw [if_neg (by simpa using ho)] at h
        simp only [decide_eq_false ho, Bool.not_false, if_true]
        exact h
def F__law_asked : FD := fun xs n P => ∃ gs b, xs = [.lst (dG gs), .bl b] ∧ GsOk gs ∧ (Colorable gs.length (Ed gs) → ∀ a c, SidesOk gs.length (Ed gs) a c → P (.lst [.tup [.tup (dN a), .tup (dN c)], .non]) n) ∧
  (¬ Colorable gs.length (Ed gs) → ∀ c, RingOk gs.length (Ed gs) c → P (.lst [.non, .tup (dN c)]) n)
theorem ok__law_asked (T : Top K mg) : FnOk P w K mg base CX0 6 T.f__law_asked.a T.f__law_asked.fd ["groups", "by_name"] (spD K F__law_asked) := by
  refine dfun T.f__law_asked.F sc__law_asked ?_ (fun cdv A outer s H E b hr => (dss_cons (ds_if (dt_val (dv 1)) (dss_one (ds_ret (DF.toE (df_lst (da_cons (de_callN0 (ok_two_hierarchies T) (hr.mono (by decide)) T.f_two_hierarchies.m T.f_two_hierarchies.F.kp (Fun.kbn T.f_two_hierarchies.F 0 ["groups"] [.inr 0] (fun _ _ _ _ _ _ us ws h1 h2 => match us, ws, h1, h2 with | [], [_], _, _ => rfl)) pass0 (dkn_cons (dv 0) dkn_nil)) (da_cons (de_callN0 (ok_odd_ring T) (hr.mono (by decide)) T.f_odd_ring.m T.f_odd_ring.F.kp (Fun.kbn T.f_odd_ring.F 0 ["groups"] [.inr 0] (fun _ _ _ _ _ _ us ws h1 h2 => match us, ws, h1, h2 with | [], [_], _, _ => rfl)) pass0 (dkn_cons (de_callTy call_tuple_of sd_tuple (by rfl) T.n_tuple (by decide +kernel) (dab_cons (DE.toB (dv 0)) dab_nil)) dkn_nil)) da_nil)))))) dss_nil) (dss_one (ds_ret (DF.toE (df_lst (da_cons (de_call (ok_two_hierarchies T) (hr.mono (by decide)) T.f_two_hierarchies.m T.f_two_hierarchies.F.kp T.f_two_hierarchies.b pass0 (da_cons (DF.toE (df_callTy call_list_of sd_list (by rfl) T.n_list (by decide +kernel) (dab_cons (DE.toB (dv 0)) dab_nil))) da_nil)) (da_cons (de_call (ok_odd_ring T) (hr.mono (by decide)) T.f_odd_ring.m T.f_odd_ring.F.kp T.f_odd_ring.b pass0 (da_cons (dv 0) da_nil)) da_nil)))))))) ?_
  · rintro ds n Q ⟨gs, b, rfl, _⟩
    rfl
  · rintro ds n Q ⟨gs, b, rfl, ok, hy, hn⟩
    simp only [wRet, wAnd_s, wOr_s, bsel_bl, wIfF, keyD, DL.wNot, wUn, wOp, wC, wCF, wVar, wVarB, wK, wChain_s, wB, wAndT, wOrT, wNotT, wIf, wNil, wCons, wTup, wLst, wV, wO, wNext, wSeq, wNever, wBreak, wCont, wRetN, wDrop, wIfS, wAsg, wPar, wFree, freeD, wApp0, wApp, wCall, gN, gT, setD, wIt1, wIt2, wFor, wLc, wYes, wOf, wOfK, wOK, wDc, wRg1, wRg2, wONo, wOSo, wSlL, wSl, wRevL, wRevT, wDput, popK, wPopAsg, wPopTup, wAppPop, wExt, wCallN, pick, wStar, wUnpA, wIndex, wRep, wTupF, wStepT, wBoxIx_0, wBoxIx_1, wBoxIx_2, wBoxIx_3, wBoxTo, wBoxInc, wBoxOf, wNo, wSortedSet, wNewK, dI0, dI2, dAdd, dMul, dAbs, dInt, dIsi, dIsiT, dEq, dNe, dIn, dIsN, dNotN, dIsB, dMin2, dMax2, dDget, dDin, startD, wipeD, List.map_cons, List.map_nil, List.length_cons, List.length_nil, List.replicate_succ, List.replicate_zero, List.cons_append, List.nil_append, List.getElem?_cons_zero, List.getElem?_cons_succ, List.set_cons_zero, List.set_cons_succ, Nat.reduceAdd, Nat.reduceSub, if_true, Bool.false_eq_true, if_false, reduceIte, Option.isSome_some, Option.isSome_none, true_and, and_true, List.map_nil, dLen_lst, dLen_tup, dLen_scr, dLen_dic, optD_some, dIx_lst, dIx_tup, itD_lst, itD_tup, wIt_s, dList_lst, dList_tup, dTup_lst, dTup_tup, List.filterMap_cons, List.filterMap_nil]
    by_cases hc : Colorable gs.length (Ed gs)
    · cases b with
      | true =>
        simp only [if_true]
        refine ⟨_, gs, rfl, .inl rfl, ok, fun c => absurd hc c, fun _ a c ac => ⟨_, gs, rfl, .inr rfl, ok, fun _ => ?_, fun q => absurd hc q⟩⟩
        exact ⟨by omega, ⟨trivial, trivial, trivial⟩, hy hc a c ac⟩
      | false =>
        simp only [Bool.false_eq_true, if_false]
        refine ⟨_, gs, rfl, .inl rfl, ok, fun c => absurd hc c, fun _ a c ac => ⟨_, gs, rfl, .inl rfl, ok, fun _ => ?_, fun q => absurd hc q⟩⟩
        exact ⟨by omega, ⟨trivial, trivial, trivial⟩, hy hc a c ac⟩
    · cases b with
      | true =>
        simp only [if_true]
        refine ⟨_, gs, rfl, .inl rfl, ok, fun _ => ⟨_, gs, rfl, .inr rfl, ok, fun q => absurd q hc, fun _ c rc => ?_⟩, fun c => absurd c hc⟩
        exact ⟨by omega, ⟨trivial, trivial, trivial⟩, hn hc c rc⟩
      | false =>
        simp only [Bool.false_eq_true, if_false]
        refine ⟨_, gs, rfl, .inl rfl, ok, fun _ => ⟨_, gs, rfl, .inl rfl, ok, fun q => absurd q hc, fun _ c rc => ?_⟩, fun c => absurd c hc⟩
        exact ⟨by omega, ⟨trivial, trivial, trivial⟩, hn hc c rc⟩
def F__law_mixed : FD := fun xs n P => ∃ d ds, xs = [.box, d] ∧ SeqD d ds ∧ nbs ds ∧ ds.length ≤ 1000 ∧ ds.length ≤ n ∧ ∀ ds' n', ds'.Perm ds → n ≤ n' + ds.length → n' ≤ n → P (.lst ds') n'
theorem ok__law_mixed (T : Top K mg) : FnOk P w K mg base CX0 2 T.f__law_mixed.a T.f__law_mixed.fd ["box", "items"] (spD K F__law_mixed) := by
  refine dfun T.f__law_mixed.F sc__law_mixed ?_ (fun cdv A outer s H E b hr => (dss_cons (ds_par2 (i := 2) (j := 3) rfl sc__law_mixed.nd (by decide) (DF.toX (df_callTy call_list_of sd_list (by rfl) T.n_list (by decide +kernel) (dab_cons (DE.toB (dv 1)) dab_nil))) (DF.toX (df_lst da_nil))) (dss_cons (ds_for PassesOwn.never rfl (fun b => (di_range1 T.n_range (da_cons (de_callB cr_lenAll sd_len (by rfl) T.n_len (by decide +kernel) (dab_cons (DE.toB (dv 1)) dab_nil)) da_nil))) (fun b => (dg_name 4 sc__law_mixed.nd)) (fun b => (dss_one (have hp := (have ha := (de_call (ok__law_take T) (hr.mono (by decide)) T.f__law_take.m T.f__law_take.F.kp T.f__law_take.b pass0 (da_cons (dv 0) (da_cons (de_callB cr_lenAll sd_len (by rfl) T.n_len (by decide +kernel) (dab_cons (dvb 2) dab_nil)) da_nil))); pe_pop 2 ha); ds_appPop 3 2 hp)))) (dss_free 3 (dss_one (ds_ret (dv 3))))))) ?_
  · rintro ds n Q ⟨d, ds, rfl, _⟩
    rfl
  · rintro ds n Q ⟨d, ds, rfl, hs, nb, hl, hf, h⟩
    simp only [wRet, wAnd_s, wOr_s, bsel_bl, wIfF, keyD, DL.wNot, wUn, wOp, wC, wCF, wVar, wVarB, wK, wChain_s, wB, wAndT, wOrT, wNotT, wIf, wNil, wCons, wTup, wLst, wV, wO, wNext, wSeq, wNever, wBreak, wCont, wRetN, wDrop, wIfS, wAsg, wPar, wFree, freeD, wApp0, wApp, wCall, gN, gT, setD, wIt1, wIt2, wFor, wLc, wYes, wOf, wOfK, wOK, wDc, wRg1, wRg2, wONo, wOSo, wSlL, wSl, wRevL, wRevT, wDput, popK, wPopAsg, wPopTup, wAppPop, wExt, wCallN, pick, wStar, wUnpA, wIndex, wRep, wTupF, wStepT, wBoxIx_0, wBoxIx_1, wBoxIx_2, wBoxIx_3, wBoxTo, wBoxInc, wBoxOf, wNo, wSortedSet, wNewK, dI0, dI2, dAdd, dMul, dAbs, dInt, dIsi, dIsiT, dEq, dNe, dIn, dIsN, dNotN, dIsB, dMin2, dMax2, dDget, dDin, startD, wipeD, List.map_cons, List.map_nil, List.length_cons, List.length_nil, List.replicate_succ, List.replicate_zero, List.cons_append, List.nil_append, List.getElem?_cons_zero, List.getElem?_cons_succ, List.set_cons_zero, List.set_cons_succ, Nat.reduceAdd, Nat.reduceSub, if_true, Bool.false_eq_true, if_false, reduceIte, Option.isSome_some, Option.isSome_none, true_and, and_true, List.map_nil, dLen_lst, dLen_tup, dLen_scr, dLen_dic, optD_some, dIx_lst, dIx_tup, itD_lst, itD_tup, wIt_s, dList_lst, dList_tup, dTup_lst, dTup_tup, len_seq hs, dList_seq hs]
    refine ⟨by omega, trivial, by omega, ?_⟩
    rw [rangeD_nat]
    refine loopD_ind (fun r ρ n' => ∃ k l f a4, r = ((List.range ds.length).drop k).map (fun k : Nat => D.int ((k : Nat) : Int)) ∧ ρ = [some (Sl.val .box), some (Sl.val d), some (Sl.own l), some (Sl.own f), a4] ∧ (l ++ f).Perm ds ∧ l.length + k = ds.length ∧ n ≤ n' + k ∧ n' ≤ n) ?_ ?_ _ _ _
      ⟨0, ds, [], none, rfl, rfl, by rw [List.append_nil], rfl, by omega, Nat.le_refl _⟩
    · rintro ρ n' ⟨k, l, f, a4, hr, rfl, pm, lk, k1, k2⟩
      have hk2 : ds.length ≤ k := by
        have := congrArg List.length hr
        simp at this
        omega
      have l0 : l = [] := List.eq_nil_of_length_eq_zero (by omega)
      subst l0
      simp only [wRet, wAnd_s, wOr_s, bsel_bl, wIfF, keyD, DL.wNot, wUn, wOp, wC, wCF, wVar, wVarB, wK, wChain_s, wB, wAndT, wOrT, wNotT, wIf, wNil, wCons, wTup, wLst, wV, wO, wNext, wSeq, wNever, wBreak, wCont, wRetN, wDrop, wIfS, wAsg, wPar, wFree, freeD, wApp0, wApp, wCall, gN, gT, setD, wIt1, wIt2, wFor, wLc, wYes, wOf, wOfK, wOK, wDc, wRg1, wRg2, wONo, wOSo, wSlL, wSl, wRevL, wRevT, wDput, popK, wPopAsg, wPopTup, wAppPop, wExt, wCallN, pick, wStar, wUnpA, wIndex, wRep, wTupF, wStepT, wBoxIx_0, wBoxIx_1, wBoxIx_2, wBoxIx_3, wBoxTo, wBoxInc, wBoxOf, wNo, wSortedSet, wNewK, dI0, dI2, dAdd, dMul, dAbs, dInt, dIsi, dIsiT, dEq, dNe, dIn, dIsN, dNotN, dIsB, dMin2, dMax2, dDget, dDin, startD, wipeD, List.map_cons, List.map_nil, List.length_cons, List.length_nil, List.replicate_succ, List.replicate_zero, List.cons_append, List.nil_append, List.getElem?_cons_zero, List.getElem?_cons_succ, List.set_cons_zero, List.set_cons_succ, Nat.reduceAdd, Nat.reduceSub, if_true, Bool.false_eq_true, if_false, reduceIte, Option.isSome_some, Option.isSome_none, true_and, and_true, List.map_nil, dLen_lst, dLen_tup, dLen_scr, dLen_dic, optD_some, dIx_lst, dIx_tup, itD_lst, itD_tup, wIt_s, dList_lst, dList_tup, dTup_lst, dTup_tup]
      exact h f n' pm (by omega) k2
    · rintro x r ρ n' N ⟨k, l, f, a4, hr, rfl, pm, lk, k1, k2⟩ hN
      have hkl : k < ds.length := by
        have := congrArg List.length hr
        simp at this
        omega
      rw [List.drop_eq_getElem_cons (by simpa using hkl), List.map_cons, List.getElem_range] at hr
      injection hr with hx hr
      subst hx
      have pl := pm.length_eq
      rw [List.length_append] at pl
      simp only [wRet, wAnd_s, wOr_s, bsel_bl, wIfF, keyD, DL.wNot, wUn, wOp, wC, wCF, wVar, wVarB, wK, wChain_s, wB, wAndT, wOrT, wNotT, wIf, wNil, wCons, wTup, wLst, wV, wO, wNext, wSeq, wNever, wBreak, wCont, wRetN, wDrop, wIfS, wAsg, wPar, wFree, freeD, wApp0, wApp, wCall, gN, gT, setD, wIt1, wIt2, wFor, wLc, wYes, wOf, wOfK, wOK, wDc, wRg1, wRg2, wONo, wOSo, wSlL, wSl, wRevL, wRevT, wDput, popK, wPopAsg, wPopTup, wAppPop, wExt, wCallN, pick, wStar, wUnpA, wIndex, wRep, wTupF, wStepT, wBoxIx_0, wBoxIx_1, wBoxIx_2, wBoxIx_3, wBoxTo, wBoxInc, wBoxOf, wNo, wSortedSet, wNewK, dI0, dI2, dAdd, dMul, dAbs, dInt, dIsi, dIsiT, dEq, dNe, dIn, dIsN, dNotN, dIsB, dMin2, dMax2, dDget, dDin, startD, wipeD, List.map_cons, List.map_nil, List.length_cons, List.length_nil, List.replicate_succ, List.replicate_zero, List.cons_append, List.nil_append, List.getElem?_cons_zero, List.getElem?_cons_succ, List.set_cons_zero, List.set_cons_succ, Nat.reduceAdd, Nat.reduceSub, if_true, Bool.false_eq_true, if_false, reduceIte, Option.isSome_some, Option.isSome_none, true_and, and_true, List.map_nil, dLen_lst, dLen_tup, dLen_scr, dLen_dic, optD_some, dIx_lst, dIx_tup, itD_lst, itD_tup, wIt_s, dList_lst, dList_tup, dTup_lst, dTup_tup, F__law_take]
      refine ⟨⟨_, rfl⟩, by decide, ⟨_, rfl⟩, _, rfl, by omega, by omega, by omega, fun z z0 z1 n2 m1 m2 => ?_⟩
      have zl : z.toNat < l.length := by omega
      simp only [List.getElem?_eq_getElem zl]
      refine ⟨by omega, by omega, hN _ _ ⟨k + 1, l.eraseIdx z.toNat, f ++ [l[z.toNat]], _, hr, rfl, ?_, ?_, by omega, by omega⟩⟩
      · refine List.Perm.trans ?_ pm
        have e1 : l = l.take z.toNat ++ l[z.toNat] :: l.drop (z.toNat + 1) := by
          rw [← List.drop_eq_getElem_cons zl, List.take_append_drop]
        have e2 : l.eraseIdx z.toNat = l.take z.toNat ++ l.drop (z.toNat + 1) := List.eraseIdx_eq_take_drop_succ ..
        rw [e2]
        have e3 : (l.take z.toNat ++ l.drop (z.toNat + 1) ++ (f ++ [l[z.toNat]])).Perm (l[z.toNat] :: (l.take z.toNat ++ l.drop (z.toNat + 1)) ++ f) := by
          rw [← List.append_assoc]
          exact List.perm_append_singleton _ _
        refine e3.trans (List.Perm.append_right f ?_)
        have e4 : (l[z.toNat] :: (l.take z.toNat ++ l.drop (z.toNat + 1))).Perm (l.take z.toNat ++ l[z.toNat] :: l.drop (z.toNat + 1)) := List.perm_middle.symm
        rw [← e1] at e4
        exact e4
      · rw [List.length_eraseIdx_of_lt zl]
        omega
end
end Mine
namespace Mine
open PySem PySem.Spec L2 PyProof.Rows DL
theorem SidesOk.lt1 {m : Nat} {E : Nat → Nat → Bool} {a b : List Nat} (h : SidesOk m E a b) : ∀ x ∈ a, x < m := fun x hx => (h.all x).mpr (.inl hx)
theorem SidesOk.lt2 {m : Nat} {E : Nat → Nat → Bool} {a b : List Nat} (h : SidesOk m E a b) : ∀ x ∈ b, x < m := fun x hx => (h.all x).mpr (.inr hx)
theorem ascN_nd {a : List Nat} (h : a.Pairwise (· < ·)) : a.Nodup := h.imp fun q => by omega
theorem ascN_cast {a : List Nat} (h : a.Pairwise (· < ·)) : (a.map fun k : Nat => (k : Int)).Pairwise (· < ·) := by
  rw [List.pairwise_map]
  exact h.imp fun q => by omega
section
variable {P : Program} {w : World} {K : PySem.W.Frag} {base : Heap} {mg : Str → Option Value}
def F__law_sides_right : FD := fun xs n P => ∃ gs a b, xs = [.tup [.tup (dN a), .tup (dN b)], .lst (dG gs)] ∧ GsOk gs ∧ SidesOk gs.length (Ed gs) a b ∧ P (.bl true) n
theorem ok__law_sides_right (T : Top K mg) : FnOk P w K mg base CX0 2 T.f__law_sides_right.a T.f__law_sides_right.fd ["given", "groups"] (spD K F__law_sides_right) := by
  refine dfun T.f__law_sides_right.F sc__law_sides_right ?_ (fun cdv A outer s H E b hr => (dss_cons (ds_if (dt_pw (dw_or (dt_not (dt_val (de_isi .tuple T.n_isinstance T.n_tuple (DE.toB (dv 0))))) (dw_or (dt_cmp (op_neD hr.units) sd_ne (DE.toB (de_callB cr_lenAll sd_len (by rfl) T.n_len (by decide +kernel) (dab_cons (DE.toB (dv 0)) dab_nil))) (DE.toB de_int) (nomark _)) (dw_or1 (dt_cmp (op_neD hr.units) sd_ne (DE.toB (DF.toE (df_lc [("side", 2)] rfl sc__law_sides_right.nd (di_seq (dv 0)) (by rfl) (fun _ _ _ _ _ => (dg_name 2 sc__law_sides_right.nd)) (fun _ _ _ _ _ => (dts_one (dt_not (dt_val (de_isi .tuple T.n_isinstance T.n_tuple (DE.toB (dv 2))))))) (fun _ _ _ _ _ => (dv 2))))) (DE.toB (DF.toE (df_lst da_nil))) (nomark _)))))) (dss_one (ds_ret de_bl)) dss_nil) (dss_cons (ds_if (dt_pw (dw_or (dt_cmp (op_neD hr.units) sd_ne (DE.toB (DF.toE (df_lc [("item", 4)] rfl sc__law_sides_right.nd (di_seq (de_op op_addAll sd_add (DE.toB (de_ix ix_seq sd_ix (DE.toB (dv 0)) (DE.toB de_int) (fun _ _ => rfl))) (DE.toB (de_ix ix_seq sd_ix (DE.toB (dv 0)) (DE.toB de_int) (fun _ _ => rfl))))) (by rfl) (fun _ _ _ _ _ => (dg_name 4 sc__law_sides_right.nd)) (fun _ _ _ _ _ => (dts_one (dt_not (dt_val (de_call (ok__law_whole T) (hr.mono (by decide)) T.f__law_whole.m T.f__law_whole.F.kp T.f__law_whole.b pass0 (da_cons (dv 4) da_nil)))))) (fun _ _ _ _ _ => (dv 4))))) (DE.toB (DF.toE (df_lst da_nil))) (nomark _)) (dw_or1 (dt_cmp (op_neD hr.units) sd_ne (DE.toB (DF.toE (df_callB cr_sortedQ sd_sortedQ (by rfl) T.n_sorted (by decide +kernel) (dab_cons (DE.toB (de_op op_addAll sd_add (DE.toB (de_ix ix_seq sd_ix (DE.toB (dv 0)) (DE.toB de_int) (fun _ _ => rfl))) (DE.toB (de_ix ix_seq sd_ix (DE.toB (dv 0)) (DE.toB de_int) (fun _ _ => rfl))))) dab_nil)))) (DE.toB (DF.toE (df_listRg1 rfl T.n_list T.n_range (de_callB cr_lenAll sd_len (by rfl) T.n_len (by decide +kernel) (dab_cons (DE.toB (dv 1)) dab_nil))))) (nomark _))))) (dss_one (ds_ret de_bl)) dss_nil) (dss_cons (ds_for PassesOwn.never rfl (fun b => (di_seq (dv 0))) (fun b => (dg_name 2 sc__law_sides_right.nd)) (fun b => (dss_cons (ds_if (dt_cmp (op_neD hr.units) sd_ne (DE.toB (DF.toE (df_callTy call_list_of sd_list (by rfl) T.n_list (by decide +kernel) (dab_cons (DE.toB (dv 2)) dab_nil)))) (DE.toB (DF.toE (df_callB cr_sortedQ sd_sortedQ (by rfl) T.n_sorted (by decide +kernel) (dab_cons (DE.toB (dv 2)) dab_nil)))) (nomark _)) (dss_one (ds_ret de_bl)) dss_nil) (dss_one (ds_for PassesOwn.never rfl (fun b => (di_seq (dv 2))) (fun b => (dg_name 3 sc__law_sides_right.nd)) (fun b => (dss_one (ds_if (dt_cmp (op_neD hr.units) sd_ne (DE.toB (DF.toE (df_lc [("other", 5)] rfl sc__law_sides_right.nd (di_seq (dv 2)) (by rfl) (fun _ _ _ _ _ => (dg_name 5 sc__law_sides_right.nd)) (fun _ _ _ _ _ => (dts_one (dt_val (de_call (ok__law_cross T) (hr.mono (by decide)) T.f__law_cross.m T.f__law_cross.F.kp T.f__law_cross.b pass0 (da_cons (de_ix ix_seq sd_ix (DE.toB (dv 1)) (DE.toB (dv 3)) (fun _ _ => rfl)) (da_cons (de_ix ix_seq sd_ix (DE.toB (dv 1)) (DE.toB (dv 5)) (fun _ _ => rfl)) da_nil)))))) (fun _ _ _ _ _ => (dv 5))))) (DE.toB (DF.toE (df_lst da_nil))) (nomark _)) (dss_one (ds_ret de_bl)) dss_nil)))))))) (dss_one (ds_ret de_bl)))))) ?_
  · rintro ds n Q ⟨gs, a, b, rfl, _⟩
    rfl
  · rintro ds n Q ⟨gs, a, b, rfl, ok, so, h⟩
    have h1 := ok.pos
    have h2 := ok.most
    have hl : (dG gs).length = gs.length := List.length_map ..
    have la := nd_len _ _ (ascN_nd so.asc1) so.lt1
    have lb := nd_len _ _ (ascN_nd so.asc2) so.lt2
    have nab : (a ++ b).Nodup := List.nodup_append.mpr ⟨ascN_nd so.asc1, ascN_nd so.asc2, fun x hx y hy e => so.dis x hx (e ▸ hy)⟩
    have a0 : atI [D.tup (dN a), D.tup (dN b)] 0 = some (.tup (dN a)) := rfl
    have a1 : atI [D.tup (dN a), D.tup (dN b)] 1 = some (.tup (dN b)) := rfl
    have en : ([] : List D).isEmpty = true := rfl
    simp only [wRet, wAnd_s, wOr_s, bsel_bl, wIfF, keyD, DL.wNot, wUn, wOp, wC, wCF, wVar, wVarB, wK, wChain_s, wB, wAndT, wOrT, wNotT, wIf, wNil, wCons, wTup, wLst, wV, wO, wNext, wSeq, wNever, wBreak, wCont, wRetN, wDrop, wIfS, wAsg, wPar, wFree, freeD, wApp0, wApp, wCall, gN, gT, setD, wIt1, wIt2, wFor, wLc, wYes, wOf, wOfK, wOK, wDc, wRg1, wRg2, wONo, wOSo, wSlL, wSl, wRevL, wRevT, wDput, popK, wPopAsg, wPopTup, wAppPop, wExt, wCallN, pick, wStar, wUnpA, wIndex, wRep, wTupF, wStepT, wBoxIx_0, wBoxIx_1, wBoxIx_2, wBoxIx_3, wBoxTo, wBoxInc, wBoxOf, wNo, wSortedSet, wNewK, dI0, dI2, dAdd, dMul, dAbs, dInt, dIsi, dIsiT, dEq, dNe, dIn, dIsN, dNotN, dIsB, dMin2, dMax2, dDget, dDin, startD, wipeD, List.map_cons, List.map_nil, List.length_cons, List.length_nil, List.replicate_succ, List.replicate_zero, List.cons_append, List.nil_append, List.getElem?_cons_zero, List.getElem?_cons_succ, List.set_cons_zero, List.set_cons_succ, Nat.reduceAdd, Nat.reduceSub, if_true, Bool.false_eq_true, if_false, reduceIte, Option.isSome_some, Option.isSome_none, true_and, and_true, List.map_nil, dLen_lst, dLen_tup, dLen_scr, dLen_dic, optD_some, dIx_lst, dIx_tup, itD_lst, itD_tup, wIt_s, dList_lst, dList_tup, dTup_lst, dTup_tup, lcD, tyD, isD, Option.isSome_some, Bool.not_true, Bool.false_eq_true, if_false, okd_int, eqd_int, a0, a1, nbs, okd_lnil, eqd_lnil, en, dN_app]
    rw [if_neg (by decide)]
    refine ⟨by omega, by rw [dN_len, dN_len]; omega, ?_⟩
    refine lcD_map (f := fun _ => none) _ _ _ (fun x hx k hk => ?_) (fun x _ d e => by cases e) (by rw [dN_len, List.length_append]; simp; omega) ?_
    · obtain ⟨i, _, rfl⟩ := List.mem_map.mp hx
      simp only [wRet, wAnd_s, wOr_s, bsel_bl, wIfF, keyD, DL.wNot, wUn, wOp, wC, wCF, wVar, wVarB, wK, wChain_s, wB, wAndT, wOrT, wNotT, wIf, wNil, wCons, wTup, wLst, wV, wO, wNext, wSeq, wNever, wBreak, wCont, wRetN, wDrop, wIfS, wAsg, wPar, wFree, freeD, wApp0, wApp, wCall, gN, gT, setD, wIt1, wIt2, wFor, wLc, wYes, wOf, wOfK, wOK, wDc, wRg1, wRg2, wONo, wOSo, wSlL, wSl, wRevL, wRevT, wDput, popK, wPopAsg, wPopTup, wAppPop, wExt, wCallN, pick, wStar, wUnpA, wIndex, wRep, wTupF, wStepT, wBoxIx_0, wBoxIx_1, wBoxIx_2, wBoxIx_3, wBoxTo, wBoxInc, wBoxOf, wNo, wSortedSet, wNewK, dI0, dI2, dAdd, dMul, dAbs, dInt, dIsi, dIsiT, dEq, dNe, dIn, dIsN, dNotN, dIsB, dMin2, dMax2, dDget, dDin, startD, wipeD, List.map_cons, List.map_nil, List.length_cons, List.length_nil, List.replicate_succ, List.replicate_zero, List.cons_append, List.nil_append, List.getElem?_cons_zero, List.getElem?_cons_succ, List.set_cons_zero, List.set_cons_succ, Nat.reduceAdd, Nat.reduceSub, if_true, Bool.false_eq_true, if_false, reduceIte, Option.isSome_some, Option.isSome_none, true_and, and_true, List.map_nil, dLen_lst, dLen_tup, dLen_scr, dLen_dic, optD_some, dIx_lst, dIx_tup, itD_lst, itD_tup, wIt_s, dList_lst, dList_tup, dTup_lst, dTup_tup]
      exact ⟨_, rfl, rfl, hk⟩
    · have e0 : ([] : List D) ++ (dN (a ++ b)).filterMap (fun _ => (none : Option D)) = [] := by simp
      rw [e0]
      refine ⟨by omega, okd_lnil, ?_⟩
      rw [en]
      simp only [Bool.not_true, Bool.false_eq_true, if_false]
      refine ⟨by rw [dN_len, dN_len]; omega, _, (a ++ b).map (fun k : Nat => (k : Int)), rfl, .inr (by rw [dN_ints]), fun ns' p s => ?_⟩
      have er : ns' = (List.range gs.length).map fun k : Nat => (k : Int) := sorted_is p s (nd_cast.mpr nab) (ascN_cast List.pairwise_lt_range) fun x => by
        rw [List.mem_map, List.mem_map]
        constructor
        · rintro ⟨k, hk, rfl⟩
          exact ⟨k, List.mem_append.mpr ((so.all k).mp (List.mem_range.mp hk)), rfl⟩
        · rintro ⟨k, hk, rfl⟩
          exact ⟨k, List.mem_range.mpr ((so.all k).mpr (List.mem_append.mp hk)), rfl⟩
      have e2 : rangeD 0 ((gs.length : Nat) : Int) = ((List.range gs.length).map fun k : Nat => (k : Int)).map D.int := by rw [rangeD_nat, List.map_map]; rfl
      simp only [hl, e2, er, okd_lints, eqd_lints, decide_true, Bool.not_true, Bool.false_eq_true, if_false, true_and]
      refine ⟨by omega, ?_⟩
      refine loopD_ind (fun r ρ n' => n' = n ∧ ∃ (l : List (List Nat)) (a2 a3 a4 a5 : Option Sl), r = l.map (fun c => D.tup (dN c)) ∧ (∀ c ∈ l, c = a ∨ c = b) ∧ ρ = [some (Sl.val (D.tup [D.tup (dN a), D.tup (dN b)])), some (Sl.val (D.lst (dG gs))), a2, a3, a4, a5]) ?_ ?_ _ _ _
        ⟨rfl, [a, b], none, none, none, none, rfl, fun c hc => by simpa using hc, rfl⟩
      · rintro ρ n' ⟨rfl, l, a2, a3, a4, a5, er, hc, rfl⟩
        exact h
      · rintro x r ρ n' N ⟨rfl, l, a2, a3, a4, a5, er, hc, rfl⟩ hN
        cases l with
        | nil => cases er
        | cons c l =>
          injection er with ex er
          subst ex
          have hcc : c.Pairwise (· < ·) ∧ (∀ x ∈ c, x < gs.length) ∧ ∀ i j, i ∈ c → j ∈ c → Ed gs i j = false := by
            rcases hc c List.mem_cons_self with rfl | rfl
            · exact ⟨so.asc1, so.lt1, so.one⟩
            · exact ⟨so.asc2, so.lt2, so.two⟩
          obtain ⟨c1, c2, c3⟩ := hcc
          have lc := nd_len _ _ (ascN_nd c1) c2
          simp only [wRet, wAnd_s, wOr_s, bsel_bl, wIfF, keyD, DL.wNot, wUn, wOp, wC, wCF, wVar, wVarB, wK, wChain_s, wB, wAndT, wOrT, wNotT, wIf, wNil, wCons, wTup, wLst, wV, wO, wNext, wSeq, wNever, wBreak, wCont, wRetN, wDrop, wIfS, wAsg, wPar, wFree, freeD, wApp0, wApp, wCall, gN, gT, setD, wIt1, wIt2, wFor, wLc, wYes, wOf, wOfK, wOK, wDc, wRg1, wRg2, wONo, wOSo, wSlL, wSl, wRevL, wRevT, wDput, popK, wPopAsg, wPopTup, wAppPop, wExt, wCallN, pick, wStar, wUnpA, wIndex, wRep, wTupF, wStepT, wBoxIx_0, wBoxIx_1, wBoxIx_2, wBoxIx_3, wBoxTo, wBoxInc, wBoxOf, wNo, wSortedSet, wNewK, dI0, dI2, dAdd, dMul, dAbs, dInt, dIsi, dIsiT, dEq, dNe, dIn, dIsN, dNotN, dIsB, dMin2, dMax2, dDget, dDin, startD, wipeD, List.map_cons, List.map_nil, List.length_cons, List.length_nil, List.replicate_succ, List.replicate_zero, List.cons_append, List.nil_append, List.getElem?_cons_zero, List.getElem?_cons_succ, List.set_cons_zero, List.set_cons_succ, Nat.reduceAdd, Nat.reduceSub, if_true, Bool.false_eq_true, if_false, reduceIte, Option.isSome_some, Option.isSome_none, true_and, and_true, List.map_nil, dLen_lst, dLen_tup, dLen_scr, dLen_dic, optD_some, dIx_lst, dIx_tup, itD_lst, itD_tup, wIt_s, dList_lst, dList_tup, dTup_lst, dTup_tup, okd_dN, true_and]
          refine ⟨_, c.map (fun k : Nat => (k : Int)), rfl, .inr (by rw [dN_ints]), fun ns' p s => ?_⟩
          have er2 : ns' = c.map fun k : Nat => (k : Int) := sorted_is p s (nd_cast.mpr (ascN_nd c1)) (ascN_cast c1) fun x => Iff.rfl
          simp only [er2, okd_lints, dN_ints, eqd_lints, decide_true, Bool.not_true, Bool.false_eq_true, if_false, true_and]
          simp only [← dN_ints]
          have hin : ∀ y ∈ c, y ∈ c := fun y hy => hy
          refine loopD_ind (fun r2 ρ n2 => n2 = n' ∧ ∃ (l2 : List Nat) (a3 a4 a5 : Option Sl), r2 = dN l2 ∧ (∀ y ∈ l2, y ∈ c) ∧ ρ = [some (Sl.val (D.tup [D.tup (dN a), D.tup (dN b)])), some (Sl.val (D.lst (dG gs))), some (Sl.val (.tup (dN c))), a3, a4, a5]) ?_ ?_ _ _ _
            ⟨rfl, c, _, _, _, rfl, hin, rfl⟩
          · rintro ρ n2 ⟨rfl, l2, a3, a4, a5, _, _, rfl⟩
            exact hN _ _ ⟨rfl, l, _, _, _, _, er, fun c hc' => hc c (List.mem_cons_of_mem _ hc'), rfl⟩
          · rintro x r2 ρ n2 N2 ⟨rfl, l2, a3, a4, a5, er2, hy, rfl⟩ hN2
            cases l2 with
            | nil => cases er2
            | cons y l2 =>
              injection er2 with ex2 er2
              subst ex2
              have yc := hy y List.mem_cons_self
              simp only [wRet, wAnd_s, wOr_s, bsel_bl, wIfF, keyD, DL.wNot, wUn, wOp, wC, wCF, wVar, wVarB, wK, wChain_s, wB, wAndT, wOrT, wNotT, wIf, wNil, wCons, wTup, wLst, wV, wO, wNext, wSeq, wNever, wBreak, wCont, wRetN, wDrop, wIfS, wAsg, wPar, wFree, freeD, wApp0, wApp, wCall, gN, gT, setD, wIt1, wIt2, wFor, wLc, wYes, wOf, wOfK, wOK, wDc, wRg1, wRg2, wONo, wOSo, wSlL, wSl, wRevL, wRevT, wDput, popK, wPopAsg, wPopTup, wAppPop, wExt, wCallN, pick, wStar, wUnpA, wIndex, wRep, wTupF, wStepT, wBoxIx_0, wBoxIx_1, wBoxIx_2, wBoxIx_3, wBoxTo, wBoxInc, wBoxOf, wNo, wSortedSet, wNewK, dI0, dI2, dAdd, dMul, dAbs, dInt, dIsi, dIsiT, dEq, dNe, dIn, dIsN, dNotN, dIsB, dMin2, dMax2, dDget, dDin, startD, wipeD, List.map_cons, List.map_nil, List.length_cons, List.length_nil, List.replicate_succ, List.replicate_zero, List.cons_append, List.nil_append, List.getElem?_cons_zero, List.getElem?_cons_succ, List.set_cons_zero, List.set_cons_succ, Nat.reduceAdd, Nat.reduceSub, if_true, Bool.false_eq_true, if_false, reduceIte, Option.isSome_some, Option.isSome_none, true_and, and_true, List.map_nil, dLen_lst, dLen_tup, dLen_scr, dLen_dic, optD_some, dIx_lst, dIx_tup, itD_lst, itD_tup, wIt_s, dList_lst, dList_tup, dTup_lst, dTup_tup]
              refine lcD_map (f := fun _ => none) _ _ _ (fun x hx k hk => ?_) (fun x _ d e => by cases e) (by rw [dN_len]; simp; omega) ?_
              · obtain ⟨i, hi, rfl⟩ := List.mem_map.mp hx
                simp only [wRet, wAnd_s, wOr_s, bsel_bl, wIfF, keyD, DL.wNot, wUn, wOp, wC, wCF, wVar, wVarB, wK, wChain_s, wB, wAndT, wOrT, wNotT, wIf, wNil, wCons, wTup, wLst, wV, wO, wNext, wSeq, wNever, wBreak, wCont, wRetN, wDrop, wIfS, wAsg, wPar, wFree, freeD, wApp0, wApp, wCall, gN, gT, setD, wIt1, wIt2, wFor, wLc, wYes, wOf, wOfK, wOK, wDc, wRg1, wRg2, wONo, wOSo, wSlL, wSl, wRevL, wRevT, wDput, popK, wPopAsg, wPopTup, wAppPop, wExt, wCallN, pick, wStar, wUnpA, wIndex, wRep, wTupF, wStepT, wBoxIx_0, wBoxIx_1, wBoxIx_2, wBoxIx_3, wBoxTo, wBoxInc, wBoxOf, wNo, wSortedSet, wNewK, dI0, dI2, dAdd, dMul, dAbs, dInt, dIsi, dIsiT, dEq, dNe, dIn, dIsN, dNotN, dIsB, dMin2, dMax2, dDget, dDin, startD, wipeD, List.map_cons, List.map_nil, List.length_cons, List.length_nil, List.replicate_succ, List.replicate_zero, List.cons_append, List.nil_append, List.getElem?_cons_zero, List.getElem?_cons_succ, List.set_cons_zero, List.set_cons_succ, Nat.reduceAdd, Nat.reduceSub, if_true, Bool.false_eq_true, if_false, reduceIte, Option.isSome_some, Option.isSome_none, true_and, and_true, List.map_nil, dLen_lst, dLen_tup, dLen_scr, dLen_dic, optD_some, dIx_lst, dIx_tup, itD_lst, itD_tup, wIt_s, dList_lst, dList_tup, dTup_lst, dTup_tup, dG_at rfl (c2 y yc), dG_at rfl (c2 i hi)]
                refine ⟨_, _, rfl, ?_, ?_⟩
                · have := (ok.each _ (getD_mem (c2 y yc))).len; omega
                · rw [Ed_cross ok (c2 y yc) (c2 i hi), c3 y i yc hi]
                  exact hk
              · have e0 : ([] : List D) ++ (dN c).filterMap (fun _ => (none : Option D)) = [] := by simp
                rw [e0]
                simp only [okd_lnil, eqd_lnil, en, nbs, Bool.not_true, Bool.false_eq_true, if_false, true_and]
                exact ⟨by omega, hN2 _ _ ⟨rfl, l2, _, _, _, er2, fun z hz => hy z (List.mem_cons_of_mem _ hz), rfl⟩⟩
end
end Mine
namespace DL
/-! what sorted gives -/
def srt (l : List Int) : List Int := l.mergeSort fun a b => decide (a ≤ b)
theorem srt_perm (l : List Int) : (srt l).Perm l := List.mergeSort_perm l _
theorem srt_sorted (l : List Int) : (srt l).Pairwise (· ≤ ·) := by
  have h := List.pairwise_mergeSort (le := fun a b : Int => decide (a ≤ b)) (fun a b c h1 h2 => by
    rw [decide_eq_true_iff] at *; omega) (fun a b => by
    rw [Bool.or_eq_true, decide_eq_true_iff, decide_eq_true_iff]; omega) l
  exact h.imp fun q => of_decide_eq_true q
theorem mem_srt {l : List Int} {x : Int} : x ∈ srt l ↔ x ∈ l := (srt_perm l).mem_iff
theorem srt_nd {l : List Int} (h : l.Nodup) : (srt l).Nodup := (srt_perm l).nodup_iff.mpr h
theorem srt_asc {l : List Int} (h : l.Nodup) : (srt l).Pairwise (· < ·) := asc_of (srt_sorted l) (srt_nd h)
theorem is_srt {ns l : List Int} (p : ns.Perm l) (s : ns.Pairwise (· ≤ ·)) (nd : l.Nodup) : ns = srt l := sorted_is p s nd (srt_asc nd) fun x => mem_srt
theorem srt_len {l : List Int} : (srt l).length = l.length := (srt_perm l).length_eq
end DL
namespace Mine
open DL
/-! when two groups lie apart or one within the other -/
theorem apart_disj {a b : List Int} (h : ∀ x ∈ a, x ∉ b) : apart a b = true := by
  unfold apart
  have e : a.filter (fun x => decide (x ∈ b)) = [] := List.filter_eq_nil_iff.mpr fun x hx => by simpa using h x hx
  simp [e]
theorem apart_sub {a b : List Int} (h : ∀ x ∈ a, x ∈ b) : apart a b = true := by
  unfold apart
  have e : a.filter (fun x => decide (x ∈ b)) = a := List.filter_eq_self.mpr fun x hx => by simpa using h x hx
  simp [e]
theorem apart_sup {a b : List Int} (ha : a.Nodup) (hb : b.Nodup) (h : ∀ x ∈ b, x ∈ a) : apart a b = true := by
  rw [apart_symm ha hb]
  exact apart_sub h
theorem apart_no {a b : List Int} (ha : a.Nodup) (hb : b.Nodup) {x y z : Int} (x1 : x ∈ a) (x2 : x ∈ b) (y1 : y ∈ a) (y2 : y ∉ b) (z1 : z ∈ b) (z2 : z ∉ a) : apart a b = false := by
  have e := common_len ha hb
  unfold apart
  have h1 : (a.filter fun x => decide (x ∈ b)) ≠ [] := List.ne_nil_of_mem (List.mem_filter.mpr ⟨x1, decide_eq_true x2⟩)
  have h2 : (a.filter fun x => decide (x ∈ b)).length < a.length := List.length_filter_lt_length_iff_exists.mpr ⟨y, y1, by simpa using y2⟩
  have h3 : (b.filter fun x => decide (x ∈ a)).length < b.length := List.length_filter_lt_length_iff_exists.mpr ⟨z, z1, by simpa using z2⟩
  rw [← e] at h3
  simp only [decide_eq_false (Nat.ne_of_lt h2), decide_eq_false (Nat.ne_of_lt h3), Bool.or_false]
  simpa using h1
theorem apart_meet {a b : List Int} (h : apart a b = false) : ∃ x, x ∈ a ∧ x ∈ b := by
  by_cases q : ∃ x, x ∈ a ∧ x ∈ b
  · exact q
  · rw [apart_disj fun x hx hb => q ⟨x, hx, hb⟩] at h
    cases h
/-! a colouring by what a group holds -/
def ColG (gs : List (List Int)) : Prop := ∃ C : List Int → Bool, ∀ a ∈ gs, ∀ b ∈ gs, apart a b = false → C a ≠ C b
theorem ColG.col {gs : List (List Int)} (h : ColG gs) : Colorable gs.length (Ed gs) := by
  obtain ⟨C, h⟩ := h
  refine ⟨fun i => C (gs.getD i []), fun i j hi hj he => h _ (getD_mem hi) _ (getD_mem hj) ?_⟩
  unfold Ed at he
  simpa using he
/-- an odd ring forbids two colours -/
theorem RingOk.not {m : Nat} {E : Nat → Nat → Bool} {c : List Nat} (h : RingOk m E c) : ¬ Colorable m E := by
  rintro ⟨C, hC⟩
  have hpos : 0 < c.length := by have := h.odd; omega
  have lt : ∀ k, k < c.length → c.getD k 0 < m := fun k hk => h.lt _ (by
    rw [List.getD_eq_getElem?_getD, List.getElem?_eq_getElem hk]; exact List.getElem_mem hk)
  have key : ∀ k, k < c.length → C (c.getD k 0) = (if k % 2 = 0 then C (c.getD 0 0) else !C (c.getD 0 0)) := by
    intro k
    induction k with
    | zero => intro _; rfl
    | succ k ih =>
      intro hk
      have i1 := ih (by omega)
      have e := h.edge k (by omega)
      rw [Nat.mod_eq_of_lt hk] at e
      have ne := hC _ _ (lt k (by omega)) (lt (k + 1) hk) e
      rw [i1] at ne
      by_cases p : k % 2 = 0
      · rw [if_pos p] at ne
        rw [if_neg (by omega)]
        cases h3 : C (c.getD (k + 1) 0) <;> cases h4 : C (c.getD 0 0) <;> simp_all
      · rw [if_neg p] at ne
        rw [if_pos (by omega)]
        cases h3 : C (c.getD (k + 1) 0) <;> cases h4 : C (c.getD 0 0) <;> simp_all
  have last := key (c.length - 1) (by omega)
  have ho := h.odd
  rw [if_pos (by omega)] at last
  have e := h.edge (c.length - 1) (by omega)
  rw [show c.length - 1 + 1 = c.length by omega, Nat.mod_self] at e
  exact hC _ _ (lt _ (by omega)) (lt 0 hpos) e last
/-! groups that are stretches of an order -/
structure Iv (ns : List Int) (p q : Nat) (g : List Int) : Prop where
  nd : g.Nodup
  mem : ∀ x, x ∈ g ↔ ∃ i, p ≤ i ∧ i < q ∧ ns[i]? = some x
def Lam (p q p' q' : Nat) : Prop := q ≤ p' ∨ q' ≤ p ∨ (p ≤ p' ∧ q' ≤ q) ∨ (p' ≤ p ∧ q ≤ q')
theorem at_inj {ns : List Int} (nd : ns.Nodup) {i j : Nat} {x : Int} (h1 : ns[i]? = some x) (h2 : ns[j]? = some x) : i = j := by
  have l1 := (List.getElem?_eq_some_iff.mp h1).1
  have l2 := (List.getElem?_eq_some_iff.mp h2).1
  rw [List.getElem?_eq_getElem l1] at h1
  rw [List.getElem?_eq_getElem l2] at h2
  have pw := List.pairwise_iff_getElem.mp (List.nodup_iff_pairwise_ne.mp nd)
  have e : ns[i] = ns[j] := by rw [Option.some.inj h1, Option.some.inj h2]
  rcases Nat.lt_trichotomy i j with q | q | q
  · exact absurd e (pw i j l1 l2 q)
  · exact q
  · exact absurd e.symm (pw j i l2 l1 q)
theorem Iv.apart {ns : List Int} (nd : ns.Nodup) {p q p' q' : Nat} {g g' : List Int} (h : Iv ns p q g) (h' : Iv ns p' q' g') (l : Lam p q p' q') : apart g g' = true := by
  rcases l with l | l | l | l
  · refine apart_disj fun x hx hx' => ?_
    obtain ⟨i, i1, i2, i3⟩ := (h.mem x).mp hx
    obtain ⟨j, j1, j2, j3⟩ := (h'.mem x).mp hx'
    have := at_inj nd i3 j3
    omega
  · refine apart_disj fun x hx hx' => ?_
    obtain ⟨i, i1, i2, i3⟩ := (h.mem x).mp hx
    obtain ⟨j, j1, j2, j3⟩ := (h'.mem x).mp hx'
    have := at_inj nd i3 j3
    omega
  · refine apart_sup h.nd h'.nd fun x hx => ?_
    obtain ⟨j, j1, j2, j3⟩ := (h'.mem x).mp hx
    exact (h.mem x).mpr ⟨j, by omega, by omega, j3⟩
  · refine apart_sub fun x hx => ?_
    obtain ⟨j, j1, j2, j3⟩ := (h.mem x).mp hx
    exact (h'.mem x).mpr ⟨j, by omega, by omega, j3⟩
theorem Iv.cut {ns : List Int} (nd : ns.Nodup) (p q : Nat) : Iv ns p q (srt ((ns.drop p).take (q - p))) := by
  have nd' : ((ns.drop p).take (q - p)).Nodup := (nd.sublist (List.drop_sublist _ _)).sublist (List.take_sublist _ _)
  refine ⟨srt_nd nd', fun x => ?_⟩
  rw [mem_srt, List.mem_iff_getElem?]
  constructor
  · rintro ⟨i, hi⟩
    rw [List.getElem?_take] at hi
    split at hi
    · rw [List.getElem?_drop] at hi
      exact ⟨p + i, by omega, by omega, hi⟩
    · cases hi
  · rintro ⟨i, i1, i2, i3⟩
    refine ⟨i - p, ?_⟩
    rw [List.getElem?_take, if_pos (by omega), List.getElem?_drop, show p + (i - p) = i by omega]
    exact i3
/-! a planted ring -/
section
variable {ns : List Int} {size : Nat}
def pr (ns : List Int) (size k : Nat) : List Int := srt [ns.getD k 0, ns.getD ((k + 1) % size) 0]
theorem at_D {k : Nat} (h : k < ns.length) : ns[k]? = some (ns.getD k 0) := by
  rw [List.getD_eq_getElem?_getD, List.getElem?_eq_getElem h]; rfl
theorem D_inj (nd : ns.Nodup) {i j : Nat} (hi : i < ns.length) (hj : j < ns.length) (e : ns.getD i 0 = ns.getD j 0) : i = j := at_inj nd (at_D hi) (by rw [e]; exact at_D hj)
theorem mem_pr {k : Nat} {x : Int} : x ∈ pr ns size k ↔ x = ns.getD k 0 ∨ x = ns.getD ((k + 1) % size) 0 := by
  unfold pr
  rw [mem_srt]
  simp
theorem next_ne (hs : 3 ≤ size) {k : Nat} (hk : k < size) : (k + 1) % size ≠ k := by
  by_cases z : k + 1 = size
  · rw [z, Nat.mod_self]; omega
  · rw [Nat.mod_eq_of_lt (by omega)]; omega
theorem next2_ne (hs : 3 ≤ size) {k : Nat} (hk : k < size) : ((k + 1) % size + 1) % size ≠ k := by
  by_cases z : k + 1 = size
  · rw [z, Nat.mod_self, Nat.mod_eq_of_lt (by omega)]; omega
  · rw [Nat.mod_eq_of_lt (show k + 1 < size by omega)]
    by_cases z2 : k + 1 + 1 = size
    · rw [z2, Nat.mod_self]; omega
    · rw [Nat.mod_eq_of_lt (by omega)]; omega
theorem pr_nd0 (nd : ns.Nodup) (hs : 3 ≤ size) (hn : size ≤ ns.length) {k : Nat} (hk : k < size) : [ns.getD k 0, ns.getD ((k + 1) % size) 0].Nodup := by
  have hm : (k + 1) % size < size := Nat.mod_lt _ (by omega)
  have : ns.getD k 0 ≠ ns.getD ((k + 1) % size) 0 := fun e => next_ne hs hk (D_inj nd (by omega) (by omega) e).symm
  exact List.nodup_cons.mpr ⟨fun h => this (List.mem_singleton.mp h), List.nodup_cons.mpr ⟨List.not_mem_nil, List.nodup_nil⟩⟩
theorem pr_nd (nd : ns.Nodup) (hs : 3 ≤ size) (hn : size ≤ ns.length) {k : Nat} (hk : k < size) : (pr ns size k).Nodup := srt_nd (pr_nd0 nd hs hn hk)
theorem pr_adj (nd : ns.Nodup) (hs : 3 ≤ size) (hn : size ≤ ns.length) {k : Nat} (hk : k < size) : apart (pr ns size k) (pr ns size ((k + 1) % size)) = false := by
  have hm : (k + 1) % size < size := Nat.mod_lt _ (by omega)
  have hm2 : ((k + 1) % size + 1) % size < size := Nat.mod_lt _ (by omega)
  refine apart_no (pr_nd nd hs hn hk) (pr_nd nd hs hn hm) (mem_pr.mpr (.inr rfl)) (mem_pr.mpr (.inl rfl)) (mem_pr.mpr (.inl rfl)) (fun q => ?_) (mem_pr.mpr (.inr rfl)) (fun q => ?_)
  · rcases mem_pr.mp q with e | e
    · exact next_ne hs hk (D_inj nd (by omega) (by omega) e).symm
    · exact next2_ne hs hk (D_inj nd (by omega) (by omega) e).symm
  · rcases mem_pr.mp q with e | e
    · exact next2_ne hs hk (D_inj nd (by omega) (by omega) e)
    · exact next_ne hs hm (D_inj nd (by omega) (by omega) e)
theorem pr_cross (nd : ns.Nodup) (hs : 3 ≤ size) (hn : size ≤ ns.length) {k l : Nat} (hk : k < size) (hl : l < size) (h : apart (pr ns size k) (pr ns size l) = false) : l = (k + 1) % size ∨ k = (l + 1) % size := by
  have hkm : (k + 1) % size < size := Nat.mod_lt _ (by omega)
  have hlm : (l + 1) % size < size := Nat.mod_lt _ (by omega)
  have hne : k ≠ l := fun e => by
    subst e
    rw [apart_sub fun _ h => h] at h
    cases h
  obtain ⟨x, h1, h2⟩ := apart_meet h
  rcases mem_pr.mp h1 with e1 | e1 <;> rcases mem_pr.mp h2 with e2 | e2 <;> rw [e1] at e2
  · exact absurd (D_inj nd (by omega) (by omega) e2) hne
  · exact .inr (D_inj nd (by omega) (by omega) e2)
  · exact .inl (D_inj nd (by omega) (by omega) e2).symm
  · have e := D_inj nd (by omega) (by omega) e2
    exfalso
    by_cases a : k + 1 = size <;> by_cases b : l + 1 = size
    · omega
    · rw [a, Nat.mod_self, Nat.mod_eq_of_lt (by omega)] at e; omega
    · rw [b, Nat.mod_self, Nat.mod_eq_of_lt (by omega)] at e; omega
    · rw [Nat.mod_eq_of_lt (by omega), Nat.mod_eq_of_lt (by omega)] at e; omega
theorem pr_inj (nd : ns.Nodup) (hs : 3 ≤ size) (hn : size ≤ ns.length) {k l : Nat} (hk : k < size) (hl : l < size) (h : pr ns size k = pr ns size l) : k = l := by
  have hkm : (k + 1) % size < size := Nat.mod_lt _ (by omega)
  have hlm : (l + 1) % size < size := Nat.mod_lt _ (by omega)
  have m1 : ns.getD k 0 ∈ pr ns size l := by rw [← h]; exact mem_pr.mpr (.inl rfl)
  have m2 : ns.getD ((k + 1) % size) 0 ∈ pr ns size l := by rw [← h]; exact mem_pr.mpr (.inr rfl)
  rcases mem_pr.mp m1 with e | e
  · exact D_inj nd (by omega) (by omega) e
  · have e1 := D_inj nd (by omega) (by omega) e
    rcases mem_pr.mp m2 with e' | e'
    · have e2 := D_inj nd (by omega) (by omega) e'
      rw [e1] at e2
      exact absurd e2 (next2_ne hs hl)
    · have e2 := D_inj nd (by omega) (by omega) e'
      rw [← e1] at e2
      exact absurd e2 (next_ne hs hk)
/-- what else is planted: stretches that lie well -/
def Six (size p q : Nat) : Prop := (p = 0 ∧ q = size) ∨ (p = 0 ∧ q = 1) ∨ (p = 0 ∧ q = 36) ∨ (p = size ∧ q = 36) ∨ (p = size ∧ q = size + 3) ∨ (p = size ∧ q = size + 1)
def Fam (ns : List Int) (size : Nat) (g : List Int) : Prop := (∃ k, k < size ∧ g = pr ns size k) ∨ ∃ p q, Six size p q ∧ Iv ns p q g
theorem six_pr (nd : ns.Nodup) (hs : 3 ≤ size) (hn : size ≤ 32) (hl : ns.length = 36) {p q k : Nat} {g : List Int} (h : Iv ns p q g) (s : Six size p q) (hk : k < size) : apart g (pr ns size k) = true := by
  have hkm : (k + 1) % size < size := Nat.mod_lt _ (by omega)
  have whole : p = 0 → size ≤ q → apart g (pr ns size k) = true := fun e1 e2 => apart_sup h.nd (pr_nd nd hs (by omega) hk) fun x hx => by
    rcases mem_pr.mp hx with rfl | rfl
    · exact (h.mem _).mpr ⟨k, by omega, by omega, at_D (by omega)⟩
    · exact (h.mem _).mpr ⟨(k + 1) % size, by omega, by omega, at_D (by omega)⟩
  have none_ : p = size → apart g (pr ns size k) = true := fun e1 => apart_disj fun x hx hx' => by
    obtain ⟨i, i1, i2, i3⟩ := (h.mem x).mp hx
    rcases mem_pr.mp hx' with rfl | rfl
    · have := at_inj nd i3 (at_D (by omega)); omega
    · have := at_inj nd i3 (at_D (by omega)); omega
  rcases s with ⟨e1, e2⟩ | ⟨e1, e2⟩ | ⟨e1, e2⟩ | ⟨e1, e2⟩ | ⟨e1, e2⟩ | ⟨e1, e2⟩
  · exact whole e1 (by omega)
  · have m0 : ∀ x, x ∈ g ↔ x = ns.getD 0 0 := fun x => by
      rw [h.mem x]
      constructor
      · rintro ⟨i, i1, i2, i3⟩
        have : i = 0 := by omega
        subst this
        rw [at_D (by omega)] at i3
        exact (Option.some.inj i3).symm
      · rintro rfl
        exact ⟨0, by omega, by omega, at_D (by omega)⟩
    by_cases z : ns.getD 0 0 ∈ pr ns size k
    · exact apart_sub fun x hx => by rw [(m0 x).mp hx]; exact z
    · exact apart_disj fun x hx hx' => z (by rw [← (m0 x).mp hx]; exact hx')
  · exact whole e1 (by omega)
  · exact none_ e1
  · exact none_ e1
  · exact none_ e1
theorem six_lam {p q p' q' : Nat} (hs : 3 ≤ size) (hn : size ≤ 32) (s : Six size p q) (s' : Six size p' q') : Lam p q p' q' := by
  unfold Lam
  rcases s with ⟨e1, e2⟩ | ⟨e1, e2⟩ | ⟨e1, e2⟩ | ⟨e1, e2⟩ | ⟨e1, e2⟩ | ⟨e1, e2⟩ <;> rcases s' with ⟨f1, f2⟩ | ⟨f1, f2⟩ | ⟨f1, f2⟩ | ⟨f1, f2⟩ | ⟨f1, f2⟩ | ⟨f1, f2⟩ <;> omega
/-- only neighbours of the ring cross -/
theorem Fam.cross (nd : ns.Nodup) (hs : 3 ≤ size) (hn : size ≤ 32) (hl : ns.length = 36) {a b : List Int} (ha : Fam ns size a) (hb : Fam ns size b) (h : apart a b = false) :
    ∃ k l, k < size ∧ l < size ∧ a = pr ns size k ∧ b = pr ns size l ∧ (l = (k + 1) % size ∨ k = (l + 1) % size) := by
  rcases ha with ⟨k, hk, rfl⟩ | ⟨p, q, s, hi⟩
  · rcases hb with ⟨l, hl2, rfl⟩ | ⟨p, q, s, hi⟩
    · exact ⟨k, l, hk, hl2, rfl, rfl, pr_cross nd hs (by omega) hk hl2 h⟩
    · rw [apart_symm (pr_nd nd hs (by omega) hk) hi.nd, six_pr nd hs hn hl hi s hk] at h
      cases h
  · rcases hb with ⟨l, hl2, rfl⟩ | ⟨p', q', s', hi'⟩
    · rw [six_pr nd hs hn hl hi s hl2] at h
      cases h
    · rw [hi.apart nd hi' (six_lam hs hn s s')] at h
      cases h
theorem Fam.col (nd : ns.Nodup) (hs : 3 ≤ size) (hn : size ≤ 32) (hl : ns.length = 36) {gs : List (List Int)} (hf : ∀ g ∈ gs, Fam ns size g) (hc : size % 2 = 0 ∨ ∀ g ∈ gs, g ≠ pr ns size 0) : ColG gs := by
  refine ⟨fun g => (List.range size).any fun k => decide (k % 2 = 0) && decide (g = pr ns size k), fun a ha b hb h => ?_⟩
  obtain ⟨k, l, hk, hl2, ea, eb, hx⟩ := Fam.cross nd hs hn hl (hf a ha) (hf b hb) h
  have col : ∀ k, k < size → ((List.range size).any fun j => decide (j % 2 = 0) && decide (pr ns size k = pr ns size j)) = decide (k % 2 = 0) := fun k hk => by
    by_cases z : k % 2 = 0
    · rw [decide_eq_true z]
      exact List.any_eq_true.mpr ⟨k, List.mem_range.mpr hk, by simp [z]⟩
    · rw [decide_eq_false z]
      rw [List.any_eq_false]
      intro j hj q
      rw [Bool.and_eq_true, decide_eq_true_iff, decide_eq_true_iff] at q
      have := pr_inj nd hs (by omega) hk (List.mem_range.mp hj) q.2
      omega
  subst ea eb
  simp only [col k hk, col l hl2]
  intro q
  have q := decide_eq_decide.mp q
  rcases hc with hc | hc
  · rcases hx with e | e
    · by_cases z : k + 1 = size
      · rw [z, Nat.mod_self] at e; omega
      · rw [Nat.mod_eq_of_lt (by omega)] at e; omega
    · by_cases z : l + 1 = size
      · rw [z, Nat.mod_self] at e; omega
      · rw [Nat.mod_eq_of_lt (by omega)] at e; omega
  · have k0 : k ≠ 0 := fun e => hc _ ha (by rw [e])
    have l0 : l ≠ 0 := fun e => hc _ hb (by rw [e])
    rcases hx with e | e
    · by_cases z : k + 1 = size
      · rw [z, Nat.mod_self] at e; omega
      · rw [Nat.mod_eq_of_lt (by omega)] at e; omega
    · by_cases z : l + 1 = size
      · rw [z, Nat.mod_self] at e; omega
      · rw [Nat.mod_eq_of_lt (by omega)] at e; omega
end
end Mine
namespace Mine
open PySem PySem.Spec L2 PyProof.Rows DL
theorem RingOk.val {gs : List (List Int)} {c : List Nat} (h : RingOk gs.length (Ed gs) c) : ringV gs (.tup (dN c)) = true := by
  rw [ringV_tup, dN_len, if_pos (decide_eq_true h.odd)]
  have e1 : (dN c).all (okIx gs.length) = true := by
    unfold dN
    rw [List.all_map, List.all_eq_true]
    intro x hx
    have := h.lt x hx
    show (decide ((0 : Int) ≤ (x : Int)) && decide ((x : Int) < gs.length)) = true
    rw [decide_eq_true (by omega), decide_eq_true (by omega)]
    rfl
  rw [if_pos e1]
  have e2 : (dN c).map natOf = c := by
    unfold dN
    rw [List.map_map]
    exact List.map_id'' (fun _ => rfl) c
  rw [e2]
  unfold ringC
  rw [decide_eq_true h.nd, Bool.true_and, List.all_eq_true]
  exact fun k hk => h.edge k (List.mem_range.mp hk)
/-- what stands in a ring that is asked -/
def IsIB (x : D) : Prop := (∃ i, x = .int i) ∨ ∃ b, x = .bl b
theorem ib_dN {l : List Nat} : ∀ x ∈ dN l, IsIB x := fun x hx => by
  obtain ⟨i, _, rfl⟩ := List.mem_map.mp hx
  exact .inl ⟨_, rfl⟩
theorem val_tup {ds : List D} (h1 : ds.length < 64) (h2 : ∀ x ∈ ds, IsIB x) : ValOk (.tup ds) := .inr (.inr ⟨ds, rfl, h1, h2⟩)
theorem val_dN {l : List Nat} (h : l.length < 64) : ValOk (.tup (dN l)) := val_tup (by rw [dN_len]; exact h) ib_dN
theorem cut_len {α : Type} (xs : List α) (lo hi : Option Int) : (DL.cutD xs lo hi).length ≤ xs.length := by
  unfold DL.cutD
  rw [List.length_take, List.length_drop]
  omega
theorem cut_mem {α : Type} {xs : List α} {lo hi : Option Int} {x : α} (h : x ∈ DL.cutD xs lo hi) : x ∈ xs := List.mem_of_mem_drop (List.mem_of_mem_take h)
section
variable {P : Program} {w : World} {K : PySem.W.Frag} {base : Heap} {mg : Str → Option Value}
def F__law_ring_right : FD := fun xs n P => ∃ gs rg b, xs = [.box, .lst (dG gs), .tup (dN rg), .bl b] ∧ GsOk gs ∧ ¬ Colorable gs.length (Ed gs) ∧ 3 ≤ rg.length ∧ rg.length ≤ 20 ∧ 100 ≤ n ∧ ∀ n', n ≤ n' + 100 → n' ≤ n → P (.bl true) n'
theorem ok__law_ring_right (T : Top K mg) : FnOk P w K mg base CX0 7 T.f__law_ring_right.a T.f__law_ring_right.fd ["box", "groups", "ring", "by_name"] (spD K F__law_ring_right) := by
  refine dfun T.f__law_ring_right.F sc__law_ring_right ?_ (fun cdv A outer s H E b hr => (dss_cons (ds_unpA [4, 5] rfl (de_call (ok__law_asked T) (hr.mono (by decide)) T.f__law_asked.m T.f__law_asked.F.kp T.f__law_asked.b pass0 (da_cons (dv 1) (da_cons (dv 3) da_nil))) (pgs_cons (pg_name (i := 4) sc__law_ring_right.nd rfl (by first | exact .inl rfl | exact .inr rfl)) (pgs_cons (pg_name (i := 5) sc__law_ring_right.nd rfl (by first | exact .inl rfl | exact .inr rfl)) pgs_nil))) (dss_cons (ds_if (dt_pw (dw_or (dt_cmp op_notN sd_notN (DE.toB (dv 4)) (DE.toB de_non) (nomark _)) (dw_or1 (dt_not (dt_val (de_call (ok__law_is_ring T) (hr.mono (by decide)) T.f__law_is_ring.m T.f__law_is_ring.F.kp T.f__law_is_ring.b pass0 (da_cons (dv 5) (da_cons (dv 1) da_nil)))))))) (dss_one (ds_ret de_bl)) dss_nil) (dss_cons (ds_par2 (i := 6) (j := 7) rfl sc__law_ring_right.nd (by decide) (DE.toX (de_call (ok__law_take T) (hr.mono (by decide)) T.f__law_take.m T.f__law_take.F.kp T.f__law_take.b pass0 (da_cons (dv 0) (da_cons (de_callB cr_lenAll sd_len (by rfl) T.n_len (by decide +kernel) (dab_cons (DE.toB (dv 2)) dab_nil)) da_nil)))) (DE.toX (de_callB cr_lenAll sd_len (by rfl) T.n_len (by decide +kernel) (dab_cons (DE.toB (dv 1)) dab_nil)))) (dss_cons (ds_asg (i := 8) sc__law_ring_right.nd (DE.toX (de_op op_addAll sd_add (DE.toB (de_sl (DE.toB (dv 2)) (do_so (dv 6)) do_no)) (DE.toB (de_sl (DE.toB (dv 2)) do_no (do_so (dv 6))))))) (dss_cons (ds_asg (i := 9) sc__law_ring_right.nd (DE.toX (DF.toE (df_lst (da_cons (dv 2) (da_cons (dv 8) (da_cons (de_revT (DE.toB (dv 8))) (da_cons (de_sl (DE.toB (dv 2)) (do_so de_int) do_no) (da_cons (de_sl (DE.toB (dv 2)) (do_so de_int) do_no) (da_cons (de_sl (DE.toB (dv 8)) (do_so de_int) do_no) (da_cons (de_op op_addAll sd_add (DE.toB (dv 2)) (DE.toB (de_sl (DE.toB (dv 2)) do_no (do_so de_int)))) (da_cons (de_op op_mulAll sd_mul (DE.toB (de_sl (DE.toB (dv 2)) do_no (do_so de_int))) (DE.toB de_int)) (da_cons (de_sl (DE.toB (dv 2)) do_no (do_so de_int)) (da_cons (de_tup da_nil) (da_cons (DF.toE (df_callTy call_list_of sd_list (by rfl) T.n_list (by decide +kernel) (dab_cons (DE.toB (dv 2)) dab_nil))) (da_cons de_non da_nil)))))))))))))))) (dss_cons (ds_asg (i := 9) sc__law_ring_right.nd (DE.toX (de_op op_addAll sd_add (DE.toB (dv 9)) (DE.toB (DF.toE (df_lst (da_cons (de_tupRg1 rfl T.n_tuple T.n_range (dv 7)) (da_cons (de_op op_addAll sd_add (DE.toB (de_tup (da_cons de_bl da_nil))) (DE.toB (de_sl (DE.toB (dv 2)) (do_so de_int) do_no))) (da_cons (de_stepT (DE.toB (dv 2))) (da_cons (de_callTy call_tuple_of sd_tuple (by rfl) T.n_tuple (by decide +kernel) (dab_cons (DE.toB (de_call (ok__law_mixed T) (hr.mono (by decide)) T.f__law_mixed.m T.f__law_mixed.F.kp T.f__law_mixed.b pass0 (da_cons (dv 0) (da_cons (DF.toE (df_callTy call_list_of sd_list (by rfl) T.n_list (by decide +kernel) (dab_cons (DE.toB (dv 2)) dab_nil))) da_nil)))) dab_nil)) da_nil)))))))))) (dss_cons (ds_for PassesOwn.never rfl (fun b => (di_seq (dv 9))) (fun b => (dg_name 10 sc__law_ring_right.nd)) (fun b => (dss_one (ds_if (dt_not (dt_val (de_call (ok__law_is T) (hr.mono (by decide)) T.f__law_is.m T.f__law_is.F.kp T.f__law_is.b pass0 (da_cons (de_if (dt_val (dv 3)) (de_callN0 (ok_is_odd_ring T) (hr.mono (by decide)) T.f_is_odd_ring.m T.f_is_odd_ring.F.kp (Fun.kbn T.f_is_odd_ring.F 0 ["value", "groups"] [.inr 1, .inr 0] (fun _ _ _ _ _ _ us ws h1 h2 => match us, ws, h1, h2 with | [], [_, _], _, _ => rfl)) pass0 (dkn_cons (dv 10) (dkn_cons (dv 1) dkn_nil))) (de_call (ok_is_odd_ring T) (hr.mono (by decide)) T.f_is_odd_ring.m T.f_is_odd_ring.F.kp T.f_is_odd_ring.b pass0 (da_cons (dv 1) (da_cons (dv 10) da_nil)))) (da_cons (de_call (ok__law_is_ring T) (hr.mono (by decide)) T.f__law_is_ring.m T.f__law_is_ring.F.kp T.f__law_is_ring.b pass0 (da_cons (dv 10) (da_cons (dv 1) da_nil))) da_nil))))) (dss_one (ds_ret de_bl)) dss_nil)))) (dss_one (ds_ret de_bl)))))))))) ?_
  · rintro ds n Q ⟨gs, rg, b, rfl, _⟩
    rfl
  · rintro ds n Q ⟨gs, rg, b, rfl, ok, nc, r3, r20, hf, h⟩
    have h1 := ok.pos
    have h2 := ok.most
    have hl : (dG gs).length = gs.length := List.length_map ..
    conv => whnf
    refine ⟨gs, b, rfl, ok, fun c => absurd c nc, fun _ c rc => ?_⟩
    conv => whnf
    refine ⟨rfl, ?_⟩
    conv => whnf
    refine ⟨gs, _, rfl, ok, val_dN (by have := rc.len; omega), ?_⟩
    rw [rc.val]
    conv => whnf
    refine ⟨_, rfl, by rw [dN_len]; omega, by rw [dN_len]; omega, by omega, fun z z0 z1 n1 m1 m2 => ?_⟩
    conv => whnf
    have l1 := cut_len (dN rg) (some z) none
    have l2 := cut_len (dN rg) none (some z)
    have l3 := cut_len (dN rg) none (some 1)
    have l4 := cut_len (dN rg) (some 1) none
    have i1 : ∀ x ∈ DL.cutD (dN rg) (some z) none, IsIB x := fun x hx => ib_dN x (cut_mem hx)
    have i2 : ∀ x ∈ DL.cutD (dN rg) none (some z), IsIB x := fun x hx => ib_dN x (cut_mem hx)
    have i3 : ∀ x ∈ DL.cutD (dN rg) none (some 1), IsIB x := fun x hx => ib_dN x (cut_mem hx)
    have i4 : ∀ x ∈ DL.cutD (dN rg) (some 1) none, IsIB x := fun x hx => ib_dN x (cut_mem hx)
    have i5 : ∀ x ∈ DL.cutD (dN rg) (some 2) none, IsIB x := fun x hx => ib_dN x (cut_mem hx)
    have l5 := cut_len (dN rg) (some 2) none
    have l6 : (DL.cutD (dN rg) none (some 1)).length = 1 := by
      have e : DL.cutD (dN rg) none (some 1) = (dN rg).take 1 := cut_to (k := 1) rfl
      rw [e, List.length_take, dN_len]; omega
    rw [dN_len] at l1 l2 l3 l4 l5
    have lr : (dN rg).length = rg.length := dN_len
    refine ⟨by omega, ?_⟩
    conv => whnf
    refine ⟨by omega, ?_⟩
    conv => whnf
    refine ⟨⟨fun e => (by rw [e] at l6; exact absurd l6 (by decide)), by omega, by omega, by omega⟩, ?_⟩
    conv => whnf
    refine ⟨Nat.zero_le _, trivial, ?_⟩
    conv => whnf
    refine ⟨(by show 12 ≤ 1000000; omega), ⟨trivial, trivial, trivial, trivial, trivial, trivial, trivial, trivial, trivial, trivial, trivial, trivial, trivial⟩, ?_⟩
    conv => whnf
    refine ⟨⟨by omega, by omega⟩, ?_⟩
    conv => whnf
    refine ⟨(by show 1 ≤ 1000000; omega), ⟨trivial, trivial⟩, ?_⟩
    conv => whnf
    refine ⟨(by show 1 + _ ≤ 1000000; omega), ?_⟩
    conv => whnf
    refine ⟨_, dN rg, rfl, .inl rfl, dN_nb, by omega, by omega, fun ds' n2 pm q1 q2 => ?_⟩
    conv => whnf
    refine ⟨(by show 4 ≤ 1000000; omega), ⟨trivial, trivial, trivial, trivial, trivial⟩, ?_⟩
    conv => whnf
    refine ⟨(by show 12 + 4 ≤ 1000000; omega), ?_⟩
    have pl := pm.length_eq
    have ip : ∀ x ∈ ds', IsIB x := fun x hx => ib_dN x (pm.mem_iff.mp hx)
    have two : ∀ {a b : List D}, (∀ x ∈ a, IsIB x) → (∀ x ∈ b, IsIB x) → ∀ x ∈ a ++ b, IsIB x := fun ha hb x hx => (List.mem_append.mp hx).elim (ha x) (hb x)
    have lt2 : (DL.cutD (dN rg) (some z) none ++ DL.cutD (dN rg) none (some z)).length ≤ 40 := by rw [List.length_append]; omega
    refine loopD_ind (fun r ρ n3 => n3 = n2 ∧ (∀ v ∈ r, ValOk v) ∧ ∃ a8 a9 a10, ρ = [some (Sl.val .box), some (Sl.val (.lst (dG gs))), some (Sl.val (.tup (dN rg))), some (Sl.val (.bl b)), some (Sl.val .non), some (Sl.val (.tup (dN c))), some (Sl.val (.int z)), some (Sl.val (.int (dG gs).length)), a8, a9, a10]) ?_ ?_ _ _ _
      ⟨rfl, ?_, _, _, _, rfl⟩
    · rintro ρ n3 ⟨rfl, hv, a8, a9, a10, rfl⟩
      conv => whnf
      exact h _ (by omega) (by omega)
    · rintro x r ρ n3 N ⟨rfl, hv, a8, a9, a10, rfl⟩ hN
      have hx := hv x List.mem_cons_self
      cases b with
      | true =>
        conv => whnf
        refine ⟨_, gs, x, rfl, .inl rfl, ok, hx, ?_⟩
        conv => whnf
        refine ⟨gs, x, rfl, ok, hx, ?_⟩
        conv => whnf
        refine ⟨_, _, rfl, ?_⟩
        rw [decide_eq_true rfl]
        exact hN _ _ ⟨rfl, fun v q => hv v (List.mem_cons_of_mem _ q), _, _, _, rfl⟩
      | false =>
        conv => whnf
        refine ⟨_, gs, x, rfl, .inl rfl, ok, hx, ?_⟩
        conv => whnf
        refine ⟨gs, x, rfl, ok, hx, ?_⟩
        conv => whnf
        refine ⟨_, _, rfl, ?_⟩
        rw [decide_eq_true rfl]
        exact hN _ _ ⟨rfl, fun v q => hv v (List.mem_cons_of_mem _ q), _, _, _, rfl⟩
    · intro v hv
      rcases List.mem_append.mp hv with hv | hv
      · simp only [List.mem_cons, List.not_mem_nil, or_false] at hv
        rcases hv with rfl | rfl | rfl | rfl | rfl | rfl | rfl | rfl | rfl | rfl | rfl | rfl
        · exact val_dN (by omega)
        · exact val_tup (by omega) (two i1 i2)
        · exact val_tup (by rw [List.length_reverse]; omega) fun x hx => two i1 i2 x (List.mem_reverse.mp hx)
        · exact val_tup (by omega) i4
        · exact val_tup (by omega) i5
        · exact val_tup (Nat.lt_of_le_of_lt (cut_len _ _ _) (by omega)) fun x hx => two i1 i2 x (cut_mem hx)
        · exact val_tup (by rw [List.length_append]; omega) (two ib_dN i3)
        · refine val_tup ?_ fun x hx => ?_
          · show (List.replicate 3 _).flatten.length < 64
            simp [List.replicate_succ, l6]
          · obtain ⟨l, h1, h2⟩ := List.mem_flatten.mp hx
            rw [List.eq_of_mem_replicate h1] at h2
            exact i3 x h2
        · exact val_tup (by omega) i3
        · exact val_tup (by decide) fun x hx => absurd hx List.not_mem_nil
        · exact .inr (.inl ⟨_, rfl⟩)
        · exact .inl rfl
      · have hv : v = .tup (rangeD 0 ((dG gs).length : Int)) ∨ v = .tup ([.bl true] ++ DL.cutD (dN rg) (some 1) none) ∨ v = .tup (HT.stepL (dN rg) 2) ∨ v = .tup ds' := by
          simpa only [List.mem_cons, List.not_mem_nil, or_false] using hv
        rcases hv with rfl | rfl | rfl | rfl
        · rw [rangeD_nat]
          refine val_tup (by rw [List.length_map, List.length_range]; omega) fun x hx => ?_
          obtain ⟨i, _, rfl⟩ := List.mem_map.mp hx
          exact .inl ⟨_, rfl⟩
        · refine val_tup (by rw [List.length_append]; have e : [D.bl true].length = 1 := rfl; omega) (two (fun x hx => ?_) i4)
          rw [List.mem_singleton.mp hx]
          exact .inr ⟨_, rfl⟩
        · refine val_tup (Nat.lt_of_le_of_lt (HT.stepL_le _ _ (by omega)) (by omega)) fun x hx => ?_
          unfold HT.stepL at hx
          obtain ⟨k, _, e⟩ := List.mem_filterMap.mp hx
          exact ib_dN x (List.mem_of_getElem? e)
        · exact val_tup (by omega) ip
end
end Mine
namespace Mine
open PySem PySem.Spec L2 PyProof.Rows DL
theorem seq_mid {w1 w2 : WS} {DD : DEnds} {ρ : REnv} {n : Nat} (J : REnv → Nat → Prop) (h1 : ∀ N : REnv → Nat → Prop, (∀ ρ' n', J ρ' n' → N ρ' n') → w1 { DD with nx := N } ρ n) (h2 : ∀ ρ' n', J ρ' n' → w2 DD ρ' n') : wSeq w1 w2 DD ρ n := h1 _ h2
theorem perm_ints {ds : List D} {l : List Int} (h : ds.Perm (l.map D.int)) : ∃ ns : List Int, ds = ns.map D.int ∧ ns.Perm l := by
  have all : ∀ d ∈ ds, ∃ i, d = .int i := fun d hd => by
    obtain ⟨i, _, rfl⟩ := List.mem_map.mp (h.mem_iff.mp hd)
    exact ⟨i, rfl⟩
  have back : ∀ d : D, D.int ((fun d : D => match d with | .int i => i | _ => 0) d) = d ∨ ¬ ∃ i, d = .int i := fun d => by
    cases d <;> first | exact .inl rfl | exact .inr (fun ⟨_, e⟩ => by cases e)
  refine ⟨ds.map fun d => match d with | .int i => i | _ => 0, ?_, ?_⟩
  · rw [List.map_map]
    have : ∀ l : List D, (∀ d ∈ l, ∃ i, d = .int i) → l = l.map (D.int ∘ fun d => match d with | .int i => i | _ => 0) := fun l => by
      induction l with
      | nil => intro _; rfl
      | cons a r ih =>
        intro hl
        obtain ⟨i, rfl⟩ := hl a List.mem_cons_self
        rw [List.map_cons, ← ih fun d hd => hl d (List.mem_cons_of_mem _ hd)]
        rfl
    exact this ds all
  · have := h.map (fun d => match d with | .int i => i | _ => 0)
    rw [List.map_map] at this
    have e : l.map ((fun d => match d with | D.int i => i | _ => 0) ∘ D.int) = l := List.map_id'' (fun _ => rfl) l
    rw [e] at this
    exact this
section
variable {P : Program} {w : World} {K : PySem.W.Frag} {base : Heap} {mg : Str → Option Value}
/-- 0 .. 35 in any order -/
structure Names (ns : List Int) : Prop where
  nd : ns.Nodup
  len : ns.length = 36
  rng : ∀ x ∈ ns, 0 ≤ x ∧ x ≤ 35
/-- the other planted groups -/
def M7 (ns : List Int) (size : Nat) : List (List Int) := [srt (ns.take size), [ns.getD 0 0], pr ns size 0, srt ns, srt (ns.drop size), srt ((ns.drop size).take 3), [ns.getD size 0]]
theorem srt_ok {ns l : List Int} (nm : Names ns) (h0 : l ≠ []) (nd : l.Nodup) (sub : ∀ x ∈ l, x ∈ ns) (hl : l.length ≤ 36) : GrpOk (srt l) := by
  refine ⟨fun e => h0 ?_, by rw [srt_len]; exact hl, fun x hx => nm.rng x (sub x (mem_srt.mp hx)), srt_asc nd⟩
  have := srt_len (l := l)
  rw [e] at this
  exact List.eq_nil_of_length_eq_zero this.symm
theorem getD_in {ns : List Int} {k : Nat} (h : k < ns.length) : ns.getD k 0 ∈ ns := List.mem_of_getElem? (at_D h)
theorem pr_ok {ns : List Int} {size k : Nat} (nm : Names ns) (s3 : 3 ≤ size) (s32 : size ≤ 32) (hk : k < size) : GrpOk (pr ns size k) := by
  have hl := nm.len
  have hm : (k + 1) % size < size := Nat.mod_lt _ (by omega)
  refine srt_ok nm (by simp) (pr_nd0 nm.nd s3 (by omega) hk) (fun x hx => ?_) (by simp)
  rcases List.mem_cons.mp hx with rfl | hx
  · exact getD_in (by omega)
  · rw [List.mem_singleton.mp hx]
    exact getD_in (by omega)
theorem one_ok {ns : List Int} {k : Nat} (nm : Names ns) (hk : k < 36) : GrpOk [ns.getD k 0] := ⟨by simp, by simp, fun x hx => by rw [List.mem_singleton.mp hx]; exact nm.rng _ (getD_in (by rw [nm.len]; exact hk)), by simp⟩
theorem m7_ok {ns : List Int} {size : Nat} (nm : Names ns) (s3 : 3 ≤ size) (s32 : size ≤ 32) {g : List Int} (h : g ∈ M7 ns size) : GrpOk g := by
  have hl := nm.len
  have nd := nm.nd
  unfold M7 at h
  simp only [List.mem_cons, List.not_mem_nil, or_false] at h
  rcases h with rfl | rfl | rfl | rfl | rfl | rfl | rfl
  · refine srt_ok nm (List.ne_nil_of_length_pos (by rw [List.length_take]; omega)) (nd.sublist (List.take_sublist _ _)) (fun x hx => List.mem_of_mem_take hx) (by rw [List.length_take]; omega)
  · exact one_ok nm (by omega)
  · exact pr_ok nm s3 s32 (by omega)
  · exact srt_ok nm (List.ne_nil_of_length_pos (by omega)) nd (fun x hx => hx) (by omega)
  · exact srt_ok nm (List.ne_nil_of_length_pos (by rw [List.length_drop]; omega)) (nd.sublist (List.drop_sublist _ _)) (fun x hx => List.mem_of_mem_drop hx) (by rw [List.length_drop]; omega)
  · exact srt_ok nm (List.ne_nil_of_length_pos (by rw [List.length_take, List.length_drop]; omega)) ((nd.sublist (List.drop_sublist _ _)).sublist (List.take_sublist _ _)) (fun x hx => List.mem_of_mem_drop (List.mem_of_mem_take hx)) (by rw [List.length_take, List.length_drop]; omega)
  · exact one_ok nm (by omega)
theorem one_iv {ns : List Int} {k : Nat} (nm : Names ns) (hk : k < 36) : Iv ns k (k + 1) [ns.getD k 0] := by
  have hl := nm.len
  refine ⟨by simp, fun x => ?_⟩
  rw [List.mem_singleton]
  constructor
  · rintro rfl
    exact ⟨k, by omega, by omega, at_D (by omega)⟩
  · rintro ⟨i, i1, i2, i3⟩
    have : i = k := by omega
    subst this
    rw [at_D (by omega)] at i3
    exact (Option.some.inj i3).symm
theorem m7_fam {ns : List Int} {size : Nat} (nm : Names ns) (s3 : 3 ≤ size) (s32 : size ≤ 32) {g : List Int} (h : g ∈ M7 ns size) : Fam ns size g := by
  have hl := nm.len
  have nd := nm.nd
  unfold M7 at h
  simp only [List.mem_cons, List.not_mem_nil, or_false] at h
  rcases h with rfl | rfl | rfl | rfl | rfl | rfl | rfl
  · exact .inr ⟨0, size, .inl ⟨rfl, rfl⟩, by simpa using Iv.cut nd 0 size⟩
  · exact .inr ⟨0, 1, .inr (.inl ⟨rfl, rfl⟩), one_iv nm (by omega)⟩
  · exact .inl ⟨0, by omega, rfl⟩
  · refine .inr ⟨0, 36, .inr (.inr (.inl ⟨rfl, rfl⟩)), ?_⟩
    have := Iv.cut nd 0 36
    rw [List.drop_zero, List.take_of_length_le (by omega)] at this
    exact this
  · refine .inr ⟨size, 36, .inr (.inr (.inr (.inl ⟨rfl, rfl⟩))), ?_⟩
    have := Iv.cut nd size 36
    rw [List.take_of_length_le (by rw [List.length_drop]; omega)] at this
    exact this
  · refine .inr ⟨size, size + 3, .inr (.inr (.inr (.inr (.inl ⟨rfl, rfl⟩)))), ?_⟩
    have := Iv.cut nd size (size + 3)
    rw [show size + 3 - size = 3 by omega] at this
    exact this
  · exact .inr ⟨size, size + 1, .inr (.inr (.inr (.inr (.inr ⟨rfl, rfl⟩)))), one_iv nm (by omega)⟩
theorem perm_map {α β : Type} {f : α → β} {ds m : List β} (h : ds.Perm m) : ∀ l : List α, m = l.map f → ∃ l' : List α, ds = l'.map f ∧ l'.Perm l := by
  induction h with
  | nil =>
    intro l e
    cases l with
    | nil => exact ⟨[], rfl, .nil⟩
    | cons _ _ => cases e
  | cons x _ ih =>
    intro l e
    cases l with
    | nil => cases e
    | cons a r =>
      injection e with e1 e2
      obtain ⟨l', h1, h2⟩ := ih r e2
      exact ⟨a :: l', by rw [h1, e1]; rfl, h2.cons a⟩
  | swap x y r =>
    intro l e
    match l, e with
    | a :: b :: t, e =>
      injection e with e1 e2
      injection e2 with e2 e3
      exact ⟨b :: a :: t, by rw [e1, e2, e3]; rfl, .swap ..⟩
  | trans _ _ ih1 ih2 =>
    intro l e
    obtain ⟨l1, h1, h2⟩ := ih2 l e
    obtain ⟨l2, h3, h4⟩ := ih1 l1 h1
    exact ⟨l2, h3, h4.trans h2⟩
def F__law_planted : FD := fun xs n P => ∃ odd, xs = [.box, .bl odd] ∧ 100 ≤ n ∧ ∀ gs rg n', GsOk gs → 3 ≤ rg.length → rg.length ≤ 20 → rg.length % 2 = (if odd then 1 else 0) →
  (if odd = true then RingOk gs.length (Ed gs) rg ∧ ColG (gs.filter fun g => decide (g ≠ gs.getD (rg.getD 0 0) [])) ∧ gs.filter (fun g => decide (g ≠ gs.getD (rg.getD 0 0) [])) ≠ [] else ColG gs) → n ≤ n' + 100 → n' ≤ n → P (.tup [.lst (dG gs), .tup (dN rg)]) n'
theorem ok__law_planted (T : Top K mg) : FnOk P w K mg base CX0 3 T.f__law_planted.a T.f__law_planted.fd ["box", "odd"] (spD K F__law_planted) := by
  refine dfun T.f__law_planted.F sc__law_planted ?_ (fun cdv A outer s H E b hr => (dss_cons (ds_asg (i := 2) sc__law_planted.nd (DE.toX (de_if (dt_val (dv 1)) (de_op op_addAll sd_add (DE.toB de_int) (DE.toB (de_op op_mulAll sd_mul (DE.toB de_int) (DE.toB (de_call (ok__law_take T) (hr.mono (by decide)) T.f__law_take.m T.f__law_take.F.kp T.f__law_take.b pass0 (da_cons (dv 0) (da_cons de_int da_nil))))))) (de_op op_addAll sd_add (DE.toB de_int) (DE.toB (de_op op_mulAll sd_mul (DE.toB de_int) (DE.toB (de_call (ok__law_take T) (hr.mono (by decide)) T.f__law_take.m T.f__law_take.F.kp T.f__law_take.b pass0 (da_cons (dv 0) (da_cons de_int da_nil)))))))))) (dss_cons (ds_asg (i := 3) sc__law_planted.nd (DE.toX (de_call (ok__law_mixed T) (hr.mono (by decide)) T.f__law_mixed.m T.f__law_mixed.F.kp T.f__law_mixed.b pass0 (da_cons (dv 0) (da_cons (DF.toE (df_listRg1 rfl T.n_list T.n_range de_int)) da_nil))))) (dss_cons (ds_setLcV (i := 4) [("k", 9)] rfl sc__law_planted.nd (di_range1 T.n_range (da_cons (dv 2) da_nil)) (by rfl) (fun _ _ _ _ _ => (dg_name 9 sc__law_planted.nd)) (fun _ _ _ _ _ => dts_nil) (fun _ _ _ _ _ => (de_callTy call_tuple_of sd_tuple (by rfl) T.n_tuple (by decide +kernel) (dab_cons (DE.toB (DF.toE (df_callB cr_sortedQ sd_sortedQ (by rfl) T.n_sorted (by decide +kernel) (dab_cons (DE.toB (DF.toE (df_lst (da_cons (de_ix ix_seq sd_ix (DE.toB (dv 3)) (DE.toB (dv 9)) (fun _ _ => rfl)) (da_cons (de_ix ix_seq sd_ix (DE.toB (dv 3)) (DE.toB (de_op op_mod (sdI fun _ _ _ _ => .int _) (DE.toB (de_op op_addAll sd_add (DE.toB (dv 9)) (DE.toB de_int))) (DE.toB (dv 2)))) (fun _ _ => rfl)) da_nil))))) dab_nil)))) dab_nil)))) (dss_cons (ds_asg (i := 5) sc__law_planted.nd (DE.toX (de_sl (DE.toB (dv 3)) (do_so (dv 2)) do_no))) (dss_cons (ds_asg (i := 6) sc__law_planted.nd (DE.toX (DF.toE (df_lst (da_cons (de_callTy call_tuple_of sd_tuple (by rfl) T.n_tuple (by decide +kernel) (dab_cons (DE.toB (DF.toE (df_callB cr_sortedQ sd_sortedQ (by rfl) T.n_sorted (by decide +kernel) (dab_cons (DE.toB (de_sl (DE.toB (dv 3)) do_no (do_so (dv 2)))) dab_nil)))) dab_nil)) (da_cons (de_tup (da_cons (de_ix ix_seq sd_ix (DE.toB (dv 3)) (DE.toB de_int) (fun _ _ => rfl)) da_nil)) (da_cons (de_ix ix_seq sd_ix (DE.toB (dv 4)) (DE.toB de_int) (fun _ _ => rfl)) (da_cons (de_callTy call_tuple_of sd_tuple (by rfl) T.n_tuple (by decide +kernel) (dab_cons (DE.toB (DF.toE (df_callB cr_sortedQ sd_sortedQ (by rfl) T.n_sorted (by decide +kernel) (dab_cons (DE.toB (dv 3)) dab_nil)))) dab_nil)) (da_cons (de_callTy call_tuple_of sd_tuple (by rfl) T.n_tuple (by decide +kernel) (dab_cons (DE.toB (DF.toE (df_callB cr_sortedQ sd_sortedQ (by rfl) T.n_sorted (by decide +kernel) (dab_cons (DE.toB (dv 5)) dab_nil)))) dab_nil)) (da_cons (de_callTy call_tuple_of sd_tuple (by rfl) T.n_tuple (by decide +kernel) (dab_cons (DE.toB (DF.toE (df_callB cr_sortedQ sd_sortedQ (by rfl) T.n_sorted (by decide +kernel) (dab_cons (DE.toB (de_sl (DE.toB (dv 5)) do_no (do_so de_int))) dab_nil)))) dab_nil)) (da_cons (de_tup (da_cons (de_ix ix_seq sd_ix (DE.toB (dv 5)) (DE.toB de_int) (fun _ _ => rfl)) da_nil)) da_nil))))))))))) (dss_cons (ds_asg (i := 6) sc__law_planted.nd (DE.toX (de_sl (DE.toB (de_call (ok__law_mixed T) (hr.mono (by decide)) T.f__law_mixed.m T.f__law_mixed.F.kp T.f__law_mixed.b pass0 (da_cons (dv 0) (da_cons (dv 6) da_nil)))) do_no (do_so (de_call (ok__law_take T) (hr.mono (by decide)) T.f__law_take.m T.f__law_take.F.kp T.f__law_take.b pass0 (da_cons (dv 0) (da_cons (de_callB (call_min2 rfl) sd_min2 (by rfl) T.n_min (by decide +kernel) (dab_cons (DE.toB de_int) (dab_cons (DE.toB (de_op op_sub (sdI0 fun _ _ _ _ => .int _) (DE.toB de_int) (DE.toB (dv 2)))) dab_nil))) da_nil))))))) (dss_cons (ds_asg (i := 7) sc__law_planted.nd (DE.toX (de_op op_addAll sd_add (DE.toB (dv 4)) (DE.toB (dv 6))))) (dss_cons (ds_asg (i := 8) sc__law_planted.nd (DE.toX (de_call (ok__law_mixed T) (hr.mono (by decide)) T.f__law_mixed.m T.f__law_mixed.F.kp T.f__law_mixed.b pass0 (da_cons (dv 0) (da_cons (DF.toE (df_listRg1 rfl T.n_list T.n_range (de_callB cr_lenAll sd_len (by rfl) T.n_len (by decide +kernel) (dab_cons (DE.toB (dv 7)) dab_nil)))) da_nil))))) (dss_one (ds_ret (de_tup (da_cons (DF.toE (df_lc [("k", 9)] rfl sc__law_planted.nd (di_seq (dv 8)) (by rfl) (fun _ _ _ _ _ => (dg_name 9 sc__law_planted.nd)) (fun _ _ _ _ _ => dts_nil) (fun _ _ _ _ _ => (de_ix ix_seq sd_ix (DE.toB (dv 7)) (DE.toB (dv 9)) (fun _ _ => rfl))))) (da_cons (de_callTy call_tuple_of sd_tuple (by rfl) T.n_tuple (by decide +kernel) (dab_cons (DE.toB (DF.toE (df_lc [("k", 9)] rfl sc__law_planted.nd (di_range1 T.n_range (da_cons (dv 2) da_nil)) (by rfl) (fun _ _ _ _ _ => (dg_name 9 sc__law_planted.nd)) (fun _ _ _ _ _ => dts_nil) (fun _ _ _ _ _ => (have ha := (DE.toB (dv 8)); have hb := (DE.toB (dv 9)); de_index ha hb))))) dab_nil)) da_nil)))))))))))))) ?_
  · rintro ds n Q ⟨odd, rfl, _⟩
    rfl
  · rintro ds n Q ⟨odd, rfl, hf, h⟩
    refine seq_mid (fun ρ n1 => ∃ size : Nat, 3 ≤ size ∧ size ≤ 20 ∧ size % 2 = (if odd then 1 else 0) ∧ n ≤ n1 + 1 ∧ n1 ≤ n ∧ ρ = [some (Sl.val .box), some (Sl.val (.bl odd)), some (Sl.val (.int (size : Int))), none, none, none, none, none, none, none]) (fun N hN => ?_) ?_
    · cases odd with
      | true =>
        conv => whnf
        refine ⟨_, rfl, by omega, by omega, by omega, fun z z0 z1 n1 m1 m2 => ?_⟩
        conv => whnf
        refine ⟨mulW_ok (by omega) (by omega), ?_⟩
        have e : (3 : Int) + 2 * z = ((3 + 2 * z.toNat : Nat) : Int) := by omega
        refine hN _ _ ⟨3 + 2 * z.toNat, by omega, by omega, by rw [if_pos rfl]; omega, m1, m2, ?_⟩
        rw [← e]
        rfl
      | false =>
        conv => whnf
        refine ⟨_, rfl, by omega, by omega, by omega, fun z z0 z1 n1 m1 m2 => ?_⟩
        conv => whnf
        refine ⟨mulW_ok (by omega) (by omega), ?_⟩
        have e : (4 : Int) + 2 * z = ((4 + 2 * z.toNat : Nat) : Int) := by omega
        refine hN _ _ ⟨4 + 2 * z.toNat, by omega, by omega, by rw [if_neg (by decide)]; omega, m1, m2, ?_⟩
        rw [← e]
        rfl
    rintro ρ n1 ⟨size, s3, s20, sp, f1, f2, rfl⟩
    conv => whnf
    refine ⟨⟨by omega, by omega⟩, ?_⟩
    conv => whnf
    have n36 : ((List.range 36).map fun k : Nat => (k : Int)).map D.int = rangeD 0 36 := by rw [show (36 : Int) = ((36 : Nat) : Int) from rfl, rangeD_nat, List.map_map]; rfl
    refine ⟨_, rangeD 0 36, rfl, .inl rfl, by rw [← n36]; exact nbs_ints, by decide, by show 36 ≤ n1; omega, fun ds n2 pm m1 m2 => ?_⟩
    have L36 : (rangeD 0 36).length = 36 := rfl
    rw [L36] at m1
    have hns : ∃ ns : List Int, ds = ns.map D.int ∧ Names ns := by
      obtain ⟨ns, e, p⟩ := perm_ints (pm.trans (List.Perm.of_eq n36.symm))
      have nd36 : ((List.range 36).map fun k : Nat => (k : Int)).Nodup := nd_cast.mpr List.nodup_range
      refine ⟨ns, e, p.nodup_iff.mpr nd36, by rw [p.length_eq, List.length_map, List.length_range], fun x hx => ?_⟩
      obtain ⟨k, hk, rfl⟩ := List.mem_map.mp (p.mem_iff.mp hx)
      have := List.mem_range.mp hk
      omega
    obtain ⟨ns, rfl, nm⟩ := hns
    conv => whnf
    have hl := nm.len
    refine ⟨⟨by omega, by omega⟩, ?_⟩
    rw [rangeD_nat]
    refine lcD_each (fun k : Nat => D.int ((k : Nat) : Int)) (fun k => dI (pr ns size k)) (fun x hx k hk => ?_) (fun _ => trivial) (by rw [List.length_range]; omega) ?_
    · have hx := List.mem_range.mp hx
      have hm : (x + 1) % size < size := Nat.mod_lt _ (by omega)
      have a1 : atI (ns.map D.int) (x : Int) = some (.int (ns.getD x 0)) := atI_map (atI_ok rfl (at_D (by omega)))
      have a2 : atI (ns.map D.int) (((x : Int) + 1) % (size : Int)) = some (.int (ns.getD ((x + 1) % size) 0)) := atI_map (atI_ok (by rw [Int.natCast_emod, Int.natCast_add]; rfl) (at_D (by omega)))
      simp only [wRet, wAnd_s, wOr_s, bsel_bl, wIfF, keyD, DL.wNot, wUn, wOp, wC, wCF, wVar, wVarB, wK, wChain_s, wB, wAndT, wOrT, wNotT, wIf, wNil, wCons, wTup, wLst, wV, wO, wNext, wSeq, wNever, wBreak, wCont, wRetN, wDrop, wIfS, wAsg, wPar, wFree, freeD, wApp0, wApp, wCall, gN, gT, setD, wIt1, wIt2, wFor, wLc, wYes, wOf, wOfK, wOK, wDc, wRg1, wRg2, wONo, wOSo, wSlL, wSl, wRevL, wRevT, wDput, popK, wPopAsg, wPopTup, wAppPop, wExt, wCallN, pick, wStar, wUnpA, wIndex, wRep, wTupF, wStepT, wBoxIx_0, wBoxIx_1, wBoxIx_2, wBoxIx_3, wBoxTo, wBoxInc, wBoxOf, wNo, wSortedSet, wNewK, dI0, dI2, dAdd, dMul, dAbs, dInt, dIsi, dIsiT, dEq, dNe, dIn, dIsN, dNotN, dIsB, dMin2, dMax2, dDget, dDin, startD, wipeD, List.map_cons, List.map_nil, List.length_cons, List.length_nil, List.replicate_succ, List.replicate_zero, List.cons_append, List.nil_append, List.getElem?_cons_zero, List.getElem?_cons_succ, List.set_cons_zero, List.set_cons_succ, Nat.reduceAdd, Nat.reduceSub, if_true, Bool.false_eq_true, if_false, reduceIte, Option.isSome_some, Option.isSome_none, true_and, and_true, List.map_nil, dLen_lst, dLen_tup, dLen_scr, dLen_dic, optD_some, dIx_lst, dIx_tup, itD_lst, itD_tup, wIt_s, dList_lst, dList_tup, dTup_lst, dTup_tup, a1, a2]
      refine ⟨by omega, by omega, ⟨trivial, trivial, trivial⟩, _, [ns.getD x 0, ns.getD ((x + 1) % size) 0], rfl, .inl (.inl rfl), fun ns' p s => ?_⟩
      have e := is_srt p s (pr_nd0 nm.nd s3 (by omega) hx)
      subst e
      simp only [wRet, wAnd_s, wOr_s, bsel_bl, wIfF, keyD, DL.wNot, wUn, wOp, wC, wCF, wVar, wVarB, wK, wChain_s, wB, wAndT, wOrT, wNotT, wIf, wNil, wCons, wTup, wLst, wV, wO, wNext, wSeq, wNever, wBreak, wCont, wRetN, wDrop, wIfS, wAsg, wPar, wFree, freeD, wApp0, wApp, wCall, gN, gT, setD, wIt1, wIt2, wFor, wLc, wYes, wOf, wOfK, wOK, wDc, wRg1, wRg2, wONo, wOSo, wSlL, wSl, wRevL, wRevT, wDput, popK, wPopAsg, wPopTup, wAppPop, wExt, wCallN, pick, wStar, wUnpA, wIndex, wRep, wTupF, wStepT, wBoxIx_0, wBoxIx_1, wBoxIx_2, wBoxIx_3, wBoxTo, wBoxInc, wBoxOf, wNo, wSortedSet, wNewK, dI0, dI2, dAdd, dMul, dAbs, dInt, dIsi, dIsiT, dEq, dNe, dIn, dIsN, dNotN, dIsB, dMin2, dMax2, dDget, dDin, startD, wipeD, List.map_cons, List.map_nil, List.length_cons, List.length_nil, List.replicate_succ, List.replicate_zero, List.cons_append, List.nil_append, List.getElem?_cons_zero, List.getElem?_cons_succ, List.set_cons_zero, List.set_cons_succ, Nat.reduceAdd, Nat.reduceSub, if_true, Bool.false_eq_true, if_false, reduceIte, Option.isSome_some, Option.isSome_none, true_and, and_true, List.map_nil, dLen_lst, dLen_tup, dLen_scr, dLen_dic, optD_some, dIx_lst, dIx_tup, itD_lst, itD_tup, wIt_s, dList_lst, dList_tup, dTup_lst, dTup_tup]
      exact hk
    have at0 : atI (ns.map D.int) 0 = some (.int (ns.getD 0 0)) := atI_map (atI_ok (j := 0) rfl (at_D (by omega)))
    have ats : atI ((ns.drop size).map D.int) 0 = some (.int (ns.getD size 0)) := atI_map (atI_ok (j := 0) rfl (by rw [List.getElem?_drop]; exact at_D (by omega)))
    have atr : atI ((List.range size).map fun k => dI (pr ns size k)) 0 = some (dI (pr ns size 0)) := atI_map (f := fun k => dI (pr ns size k)) (atI_ok (j := 0) rfl (by rw [List.getElem?_range (by omega)]))
    have ndt : ∀ k, (ns.take k).Nodup := fun k => nm.nd.sublist (List.take_sublist _ _)
    have ndd : ∀ k, (ns.drop k).Nodup := fun k => nm.nd.sublist (List.drop_sublist _ _)
    have cu : ∀ k : Nat, DL.cutD (ns.map D.int) none (some (k : Int)) = (ns.take k).map D.int := fun k => by rw [cut_to (k := k) rfl, List.map_take]
    have cd : ∀ k : Nat, DL.cutD (ns.map D.int) (some (k : Int)) none = (ns.drop k).map D.int := fun k => by rw [cut_from (k := k) rfl, List.map_drop]
    have c3 : DL.cutD ((ns.drop size).map D.int) none (some 3) = ((ns.drop size).take 3).map D.int := by
      have e : DL.cutD ((ns.drop size).map D.int) none (some 3) = ((ns.drop size).map D.int).take 3 := cut_to (k := 3) rfl
      rw [e, List.map_take]
    with_reducible refine seq_mid (fun ρ n3 => n3 = n2 ∧ ρ = [some (Sl.val .box), some (Sl.val (.bl odd)), some (Sl.val (.int (size : Int))), some (Sl.val (.lst (ns.map D.int))), some (Sl.val (.lst ((List.range size).map fun k => dI (pr ns size k)))), some (Sl.val (.lst ((ns.drop size).map D.int))), none, none, none, none]) (fun N hN => ?_) ?_
    · conv => whnf
      refine hN _ _ ⟨rfl, ?_⟩
      rw [← cd]
      rfl
    rintro ρ n3 ⟨rfl, rfl⟩
    with_reducible refine seq_mid (fun ρ n4 => n4 = n3 ∧ ρ = [some (Sl.val .box), some (Sl.val (.bl odd)), some (Sl.val (.int (size : Int))), some (Sl.val (.lst (ns.map D.int))), some (Sl.val (.lst ((List.range size).map fun k => dI (pr ns size k)))), some (Sl.val (.lst ((ns.drop size).map D.int))),
      some (Sl.val (.lst (dG [srt (ns.take size), [ns.getD 0 0], pr ns size 0, srt ns, srt (ns.drop size), srt ((ns.drop size).take 3), [ns.getD size 0]]))), none, none, none]) (fun N hN => ?_) ?_
    · conv => whnf
      rw [cu]
      refine ⟨_, ns.take size, rfl, .inl (.inl rfl), fun s1 p1 q1 => ?_⟩
      have e1 := is_srt p1 q1 (ndt size)
      subst e1
      conv => whnf
      rw [at0]
      conv => whnf
      refine ⟨(by show 1 ≤ 1000000; omega), ⟨trivial, trivial⟩, ?_⟩
      conv => whnf
      rw [atr]
      conv => whnf
      refine ⟨_, ns, rfl, .inl (.inl rfl), fun s1 p1 q1 => ?_⟩
      have e1 := is_srt p1 q1 nm.nd
      subst e1
      conv => whnf
      refine ⟨_, ns.drop size, rfl, .inl (.inl rfl), fun s1 p1 q1 => ?_⟩
      have e1 := is_srt p1 q1 (ndd size)
      subst e1
      conv => whnf
      rw [c3]
      refine ⟨_, (ns.drop size).take 3, rfl, .inl (.inl rfl), fun s1 p1 q1 => ?_⟩
      have e1 := is_srt p1 q1 ((ndd size).sublist (List.take_sublist _ _))
      subst e1
      conv => whnf
      rw [ats]
      conv => whnf
      refine ⟨(by show 1 ≤ 1000000; omega), ⟨trivial, trivial⟩, ?_⟩
      conv => whnf
      refine ⟨(by show 7 ≤ 1000000; omega), ⟨trivial, trivial, trivial, trivial, trivial, trivial, trivial, trivial⟩, ?_⟩
      exact hN _ _ ⟨rfl, rfl⟩
    rintro ρ n4 ⟨rfl, rfl⟩
    with_reducible refine seq_mid (fun ρ n5 => ∃ mo : List (List Int), (∀ g ∈ mo, g ∈ M7 ns size) ∧ mo.length + size ≤ 20 ∧ n4 ≤ n5 + 8 ∧ n5 ≤ n4 ∧ ρ = [some (Sl.val .box), some (Sl.val (.bl odd)), some (Sl.val (.int (size : Int))), some (Sl.val (.lst (ns.map D.int))), some (Sl.val (.lst ((List.range size).map fun k => dI (pr ns size k)))), some (Sl.val (.lst ((ns.drop size).map D.int))), some (Sl.val (.lst (dG mo))), none, none, none]) (fun N hN => ?_) ?_
    · conv => whnf
      refine ⟨_, dG (M7 ns size), rfl, .inl rfl, nbs_dG, (by show 7 ≤ 1000; omega), (by show 7 ≤ n4; omega), fun ds' n5 pm' m3 m4 => ?_⟩
      obtain ⟨mo, rfl, pmo⟩ := perm_map pm' _ rfl
      have L7 : (dG (M7 ns size)).length = 7 := rfl
      rw [L7] at m3
      conv => whnf
      have m8 : (if (21 : Int) - size < 8 then (21 : Int) - size else 8) ≤ 21 - size ∧ 1 ≤ (if (21 : Int) - size < 8 then (21 : Int) - size else 8) ∧ (if (21 : Int) - size < 8 then (21 : Int) - size else 8) ≤ 8 := by split <;> omega
      refine ⟨_, rfl, by omega, by omega, by omega, fun z z0 z1 n6 m5 m6 => ?_⟩
      have e : DL.cutD (mo.map dI) none (some z) = dG (mo.take z.toNat) := by
        rw [cut_to (k := z.toNat) (by omega)]
        exact (List.map_take ..).symm
      refine hN _ _ ⟨mo.take z.toNat, fun g hg => pmo.mem_iff.mp (List.mem_of_mem_take hg), by rw [List.length_take]; omega, by omega, by omega, ?_⟩
      rw [← e]
      rfl
    rintro ρ n5 ⟨mo, hmo, lmo, g1, g2, rfl⟩
    have lg : ((List.range size).map (pr ns size) ++ mo).length = size + mo.length := by rw [List.length_append, List.length_map, List.length_range]
    have eg : ((List.range size).map fun k => dI (pr ns size k)) ++ dG mo = dG ((List.range size).map (pr ns size) ++ mo) := by
      unfold dG
      rw [List.map_append, List.map_map]
      rfl
    have gat : ∀ k, k < size → ((List.range size).map (pr ns size) ++ mo).getD k [] = pr ns size k := fun k hk => by
      rw [List.getD_eq_getElem?_getD, List.getElem?_append_left (by rw [List.length_map, List.length_range]; exact hk), List.getElem?_map, List.getElem?_range hk]
      rfl
    have gmem : ∀ g ∈ (List.range size).map (pr ns size) ++ mo, (∃ k, k < size ∧ g = pr ns size k) ∨ g ∈ M7 ns size := fun g hg => by
      rcases List.mem_append.mp hg with hg | hg
      · obtain ⟨k, hk, rfl⟩ := List.mem_map.mp hg
        exact .inl ⟨k, List.mem_range.mp hk, rfl⟩
      · exact .inr (hmo g hg)
    with_reducible refine seq_mid (fun ρ n6 => n6 = n5 ∧ ρ = [some (Sl.val .box), some (Sl.val (.bl odd)), some (Sl.val (.int (size : Int))), some (Sl.val (.lst (ns.map D.int))), some (Sl.val (.lst ((List.range size).map fun k => dI (pr ns size k)))), some (Sl.val (.lst ((ns.drop size).map D.int))), some (Sl.val (.lst (dG mo))), some (Sl.val (.lst (dG ((List.range size).map (pr ns size) ++ mo)))), none, none]) (fun N hN => ?_) ?_
    · conv => whnf
      refine ⟨?_, hN _ _ ⟨rfl, ?_⟩⟩
      · rw [List.length_map, List.length_range]
        show size + (mo.map dI).length ≤ 1000000
        rw [List.length_map]
        omega
      · rw [← eg]
        rfl
    rintro ρ n6 ⟨rfl, rfl⟩
    generalize hgrp : (List.range size).map (pr ns size) ++ mo = grp at *
    with_reducible refine seq_mid (fun ρ n7 => ∃ ord : List Nat, ord.Perm (List.range grp.length) ∧ n6 ≤ n7 + 20 ∧ n7 ≤ n6 ∧ ρ = [some (Sl.val .box), some (Sl.val (.bl odd)), some (Sl.val (.int (size : Int))), some (Sl.val (.lst (ns.map D.int))), some (Sl.val (.lst ((List.range size).map fun k => dI (pr ns size k)))), some (Sl.val (.lst ((ns.drop size).map D.int))), some (Sl.val (.lst (dG mo))), some (Sl.val (.lst (dG grp))), some (Sl.val (.lst (dN ord))), none]) (fun N hN => ?_) ?_
    · have ll : (dG grp).length = grp.length := List.length_map ..
      conv => whnf
      refine ⟨⟨by omega, by omega⟩, ?_⟩
      rw [ll, rangeD_nat]
      conv => whnf
      refine ⟨_, dN (List.range grp.length), rfl, .inl rfl, dN_nb, by rw [dN_len, List.length_range]; omega, by rw [dN_len, List.length_range]; omega, fun ds' n7 pm' m3 m4 => ?_⟩
      obtain ⟨ord, rfl, po⟩ := perm_map pm' _ rfl
      rw [dN_len, List.length_range] at m3
      exact hN _ _ ⟨ord, po, by omega, by omega, rfl⟩
    rintro ρ n7 ⟨ord, po, g3, g4, rfl⟩
    have ol : ord.length = grp.length := by rw [po.length_eq, List.length_range]
    have ond : ord.Nodup := po.nodup_iff.mpr List.nodup_range
    have olt : ∀ k ∈ ord, k < grp.length := fun k hk => List.mem_range.mp (po.mem_iff.mp hk)
    have oix : ∀ k, k < size → ∃ j, ord[j]? = some k := fun k hk => List.mem_iff_getElem?.mp (po.mem_iff.mpr (List.mem_range.mpr (by omega)))
    obtain ⟨idx, hidx⟩ : ∃ idx : Nat → Nat, ∀ k, k < size → ord[idx k]? = some k := ⟨fun k => if h : k < size then Classical.choose (oix k h) else 0, fun k hk => by
      simp only [dif_pos hk]
      exact Classical.choose_spec (oix k hk)⟩
    have idx_lt : ∀ k, k < size → idx k < ord.length := fun k hk => (List.getElem?_eq_some_iff.mp (hidx k hk)).1
    have inj : ∀ {i j x : Nat}, ord[i]? = some x → ord[j]? = some x → i = j := fun {i j x} h1 h2 => by
      have l1 := (List.getElem?_eq_some_iff.mp h1).1
      have l2 := (List.getElem?_eq_some_iff.mp h2).1
      rw [List.getElem?_eq_getElem l1] at h1
      rw [List.getElem?_eq_getElem l2] at h2
      have pw := List.pairwise_iff_getElem.mp (List.nodup_iff_pairwise_ne.mp ond)
      have e : ord[i] = ord[j] := by rw [Option.some.inj h1, Option.some.inj h2]
      rcases Nat.lt_trichotomy i j with q | q | q
      · exact absurd e (pw i j l1 l2 q)
      · exact q
      · exact absurd e.symm (pw j i l2 l1 q)
    conv => whnf
    refine lcD_each (fun k : Nat => D.int ((k : Nat) : Int)) (fun k => dI (grp.getD k [])) (fun x hx k hk => ?_) (fun _ => trivial) (by omega) ?_
    · simp only [wRet, wAnd_s, wOr_s, bsel_bl, wIfF, keyD, DL.wNot, wUn, wOp, wC, wCF, wVar, wVarB, wK, wChain_s, wB, wAndT, wOrT, wNotT, wIf, wNil, wCons, wTup, wLst, wV, wO, wNext, wSeq, wNever, wBreak, wCont, wRetN, wDrop, wIfS, wAsg, wPar, wFree, freeD, wApp0, wApp, wCall, gN, gT, setD, wIt1, wIt2, wFor, wLc, wYes, wOf, wOfK, wOK, wDc, wRg1, wRg2, wONo, wOSo, wSlL, wSl, wRevL, wRevT, wDput, popK, wPopAsg, wPopTup, wAppPop, wExt, wCallN, pick, wStar, wUnpA, wIndex, wRep, wTupF, wStepT, wBoxIx_0, wBoxIx_1, wBoxIx_2, wBoxIx_3, wBoxTo, wBoxInc, wBoxOf, wNo, wSortedSet, wNewK, dI0, dI2, dAdd, dMul, dAbs, dInt, dIsi, dIsiT, dEq, dNe, dIn, dIsN, dNotN, dIsB, dMin2, dMax2, dDget, dDin, startD, wipeD, List.map_cons, List.map_nil, List.length_cons, List.length_nil, List.replicate_succ, List.replicate_zero, List.cons_append, List.nil_append, List.getElem?_cons_zero, List.getElem?_cons_succ, List.set_cons_zero, List.set_cons_succ, Nat.reduceAdd, Nat.reduceSub, if_true, Bool.false_eq_true, if_false, reduceIte, Option.isSome_some, Option.isSome_none, true_and, and_true, List.map_nil, dLen_lst, dLen_tup, dLen_scr, dLen_dic, optD_some, dIx_lst, dIx_tup, itD_lst, itD_tup, wIt_s, dList_lst, dList_tup, dTup_lst, dTup_tup, dG_at rfl (olt x hx)]
      exact hk
    conv => whnf
    refine ⟨⟨by omega, by omega⟩, ?_⟩
    rw [rangeD_nat]
    refine lcD_each (fun k : Nat => D.int ((k : Nat) : Int)) (fun k => D.int ((idx k : Nat) : Int)) (fun x hx k hk => ?_) (fun _ => trivial) (by rw [List.length_range]; omega) ?_
    · have hx := List.mem_range.mp hx
      simp only [wRet, wAnd_s, wOr_s, bsel_bl, wIfF, keyD, DL.wNot, wUn, wOp, wC, wCF, wVar, wVarB, wK, wChain_s, wB, wAndT, wOrT, wNotT, wIf, wNil, wCons, wTup, wLst, wV, wO, wNext, wSeq, wNever, wBreak, wCont, wRetN, wDrop, wIfS, wAsg, wPar, wFree, freeD, wApp0, wApp, wCall, gN, gT, setD, wIt1, wIt2, wFor, wLc, wYes, wOf, wOfK, wOK, wDc, wRg1, wRg2, wONo, wOSo, wSlL, wSl, wRevL, wRevT, wDput, popK, wPopAsg, wPopTup, wAppPop, wExt, wCallN, pick, wStar, wUnpA, wIndex, wRep, wTupF, wStepT, wBoxIx_0, wBoxIx_1, wBoxIx_2, wBoxIx_3, wBoxTo, wBoxInc, wBoxOf, wNo, wSortedSet, wNewK, dI0, dI2, dAdd, dMul, dAbs, dInt, dIsi, dIsiT, dEq, dNe, dIn, dIsN, dNotN, dIsB, dMin2, dMax2, dDget, dDin, startD, wipeD, List.map_cons, List.map_nil, List.length_cons, List.length_nil, List.replicate_succ, List.replicate_zero, List.cons_append, List.nil_append, List.getElem?_cons_zero, List.getElem?_cons_succ, List.set_cons_zero, List.set_cons_succ, Nat.reduceAdd, Nat.reduceSub, if_true, Bool.false_eq_true, if_false, reduceIte, Option.isSome_some, Option.isSome_none, true_and, and_true, List.map_nil, dLen_lst, dLen_tup, dLen_scr, dLen_dic, optD_some, dIx_lst, dIx_tup, itD_lst, itD_tup, wIt_s, dList_lst, dList_tup, dTup_lst, dTup_tup]
      refine ⟨ord.map fun k : Nat => (k : Int), .inl (by rw [dN_ints]), (x : Int), idx x, rfl, by rw [List.getElem?_map, hidx x hx]; rfl, fun m hm q => ?_, hk⟩
      rw [List.getElem?_map] at q
      cases q2 : ord[m]? with
      | none => rw [q2] at q; cases q
      | some y =>
        rw [q2] at q
        have q3 : (y : Int) = x := Option.some.inj q
        have : y = x := by omega
        subst this
        have := inj q2 (hidx y hx)
        omega
    conv => whnf
    refine ⟨(by show 2 ≤ 1000000; omega), ⟨trivial, trivial, trivial⟩, ?_⟩
    have eout : (ord.map fun k => dI (grp.getD k [])) = dG (ord.map fun k => grp.getD k []) := by unfold dG; rw [List.map_map]; rfl
    have eout2 : ((List.range size).map fun k => D.int ((idx k : Nat) : Int)) = dN ((List.range size).map idx) := by unfold dN; rw [List.map_map]; rfl
    rw [eout, eout2]
    have gsat : ∀ k, k < size → (ord.map fun k => grp.getD k []).getD (idx k) [] = pr ns size k := fun k hk => by
      rw [List.getD_eq_getElem?_getD, List.getElem?_map, hidx k hk]
      exact gat k hk
    have rgat : ∀ k, k < size → ((List.range size).map idx).getD k 0 = idx k := fun k hk => by
      rw [List.getD_eq_getElem?_getD, List.getElem?_map, List.getElem?_range hk]
      rfl
    have gsin : ∀ g ∈ ord.map (fun k => grp.getD k []), g ∈ grp := fun g hg => by
      obtain ⟨k, hk, rfl⟩ := List.mem_map.mp hg
      exact getD_mem (olt k hk)
    have fam : ∀ g ∈ ord.map (fun k => grp.getD k []), Fam ns size g := fun g hg => by
      rcases gmem g (gsin g hg) with h | h
      · exact .inl h
      · exact m7_fam nm s3 (by omega) h
    refine h _ _ n7 ⟨by rw [List.length_map]; omega, by rw [List.length_map]; omega, fun g hg => ?_⟩ (by rw [List.length_map, List.length_range]; omega) (by rw [List.length_map, List.length_range]; omega) (by rw [List.length_map, List.length_range]; exact sp) ?_ (by omega) (by omega)
    · rcases gmem g (gsin g hg) with ⟨k, hk, rfl⟩ | h
      · exact pr_ok nm s3 (by omega) hk
      · exact m7_ok nm s3 (by omega) h
    · cases odd with
      | false =>
        rw [if_neg (by decide)]
        rw [if_neg (by decide)] at sp
        exact Fam.col nm.nd s3 (by omega) nm.len fam (.inl sp)
      | true =>
        rw [if_pos rfl]
        rw [if_pos rfl] at sp
        have e0 : (ord.map fun k => grp.getD k []).getD (((List.range size).map idx).getD 0 0) [] = pr ns size 0 := by rw [rgat 0 (by omega), gsat 0 (by omega)]
        rw [e0]
        refine ⟨⟨by rw [List.length_map, List.length_range]; exact sp, fun x hx => ?_, ?_, fun k hk => ?_⟩, ?_, ?_⟩
        · obtain ⟨k, hk, rfl⟩ := List.mem_map.mp hx
          rw [List.length_map]
          exact idx_lt k (List.mem_range.mp hk)
        · rw [List.nodup_iff_pairwise_ne, List.pairwise_map]
          refine List.Pairwise.imp_of_mem (R := fun a b => a < b) (fun {a b} ha hb hab e => ?_) List.pairwise_lt_range
          have h1 := hidx a (List.mem_range.mp ha)
          have h2 := hidx b (List.mem_range.mp hb)
          rw [e, h2] at h1
          have := Option.some.inj h1
          omega
        · rw [List.length_map, List.length_range] at hk ⊢
          have hm : (k + 1) % size < size := Nat.mod_lt _ (by omega)
          rw [rgat k hk, rgat _ hm]
          unfold Ed
          rw [gsat k hk, gsat _ hm, pr_adj nm.nd s3 (by omega) hk]
          rfl
        · refine Fam.col nm.nd s3 (by omega) nm.len (fun g hg => fam g (List.mem_filter.mp hg).1) (.inr fun g hg => ?_)
          have := (List.mem_filter.mp hg).2
          exact of_decide_eq_true this
        · refine List.ne_nil_of_mem (a := pr ns size 1) (List.mem_filter.mpr ⟨?_, decide_eq_true fun e => ?_⟩)
          · rw [← gsat 1 (by omega)]
            exact getD_mem (by rw [List.length_map]; exact idx_lt 1 (by omega))
          · have := pr_inj nm.nd s3 (by omega) (by omega) (by omega) e
            omega
end
end Mine
namespace Mine
open PySem PySem.Spec L2 PyProof.Rows DL
section
variable {P : Program} {w : World} {K : PySem.W.Frag} {base : Heap} {mg : Str → Option Value}
def cutG (ms : List Int) (p : Nat × Nat) : List Int := srt ((ms.drop p.1).take (p.2 - p.1))
def dP (p : Nat × Nat) : D := .tup [.int (p.1 : Int), .int (p.2 : Int)]
def meas : List (Nat × Nat) → Nat
  | [] => 0
  | p :: r => 2 * (p.2 - p.1) - 1 + meas r
theorem meas_app : ∀ {a b : List (Nat × Nat)}, meas (a ++ b) = meas a + meas b
  | [], b => by simp [meas]
  | p :: a, b => by
    show 2 * (p.2 - p.1) - 1 + meas (a ++ b) = 2 * (p.2 - p.1) - 1 + meas a + meas b
    rw [meas_app]; omega
theorem meas_len : ∀ {a : List (Nat × Nat)}, (∀ p ∈ a, p.1 < p.2) → a.length ≤ meas a
  | [], _ => by simp [meas]
  | p :: a, h => by
    have h1 := h p List.mem_cons_self
    have := meas_len (a := a) fun q hq => h q (List.mem_cons_of_mem _ hq)
    show a.length + 1 ≤ 2 * (p.2 - p.1) - 1 + meas a
    omega
/-- the stretches found and those that wait -/
structure Str8 (L : Nat) (fs ws : List (Nat × Nat)) : Prop where
  f : ∀ p ∈ fs, p.1 < p.2 ∧ p.2 ≤ L
  w : ∀ p ∈ ws, p.1 < p.2 ∧ p.2 ≤ L
  ff : ∀ p ∈ fs, ∀ q ∈ fs, Lam p.1 p.2 q.1 q.2
  ww : ws.Pairwise fun p q => p.2 ≤ q.1 ∨ q.2 ≤ p.1
  wf : ∀ p ∈ ws, ∀ q ∈ fs, p.2 ≤ q.1 ∨ q.2 ≤ p.1 ∨ (q.1 ≤ p.1 ∧ p.2 ≤ q.2)
theorem Str8.take {L : Nat} {fs ws : List (Nat × Nat)} {p : Nat × Nat} (h : Str8 L fs (p :: ws)) (k : Nat) : Str8 L (fs ++ List.replicate k p) ws := by
  have hp := h.w p List.mem_cons_self
  have pw := List.pairwise_cons.mp h.ww
  have rp : ∀ {q}, q ∈ List.replicate k p → q = p := fun hq => List.eq_of_mem_replicate hq
  refine ⟨fun q hq => ?_, fun q hq => h.w q (List.mem_cons_of_mem _ hq), fun q hq r hr => ?_, pw.2, fun q hq r hr => ?_⟩
  · rcases List.mem_append.mp hq with hq | hq
    · exact h.f q hq
    · rw [rp hq]; exact hp
  · unfold Lam
    rcases List.mem_append.mp hq with hq | hq <;> rcases List.mem_append.mp hr with hr | hr
    · exact h.ff q hq r hr
    · rw [rp hr]
      have := h.wf p List.mem_cons_self q hq
      omega
    · rw [rp hq]
      have := h.wf p List.mem_cons_self r hr
      omega
    · rw [rp hq, rp hr]
      omega
  · rcases List.mem_append.mp hr with hr | hr
    · exact h.wf q (List.mem_cons_of_mem _ hq) r hr
    · rw [rp hr]
      have := pw.1 q hq
      omega
theorem Str8.cut {L : Nat} {fs ws : List (Nat × Nat)} {p : Nat × Nat} (h : Str8 L fs (p :: ws)) (k c : Nat) (c1 : p.1 < c) (c2 : c < p.2) : Str8 L (fs ++ List.replicate k p) (ws ++ [(p.1, c), (c, p.2)]) := by
  have hp := h.w p List.mem_cons_self
  have pw := List.pairwise_cons.mp h.ww
  have t := h.take k
  have two : ∀ {q : Nat × Nat}, q ∈ [(p.1, c), (c, p.2)] → q = (p.1, c) ∨ q = (c, p.2) := fun hq => by simpa using hq
  refine ⟨t.f, fun q hq => ?_, t.ff, ?_, fun q hq r hr => ?_⟩
  · rcases List.mem_append.mp hq with hq | hq
    · exact t.w q hq
    · rcases two hq with rfl | rfl
      · exact ⟨c1, by show c ≤ L; omega⟩
      · exact ⟨c2, hp.2⟩
  · refine List.pairwise_append.mpr ⟨pw.2, by simp, fun q hq r hr => ?_⟩
    have := pw.1 q hq
    rcases two hr with rfl | rfl
    · show q.2 ≤ p.1 ∨ c ≤ q.1; omega
    · show q.2 ≤ c ∨ p.2 ≤ q.1; omega
  · rcases List.mem_append.mp hq with hq | hq
    · exact t.wf q hq r hr
    · have hpr : p.2 ≤ r.1 ∨ r.2 ≤ p.1 ∨ (r.1 ≤ p.1 ∧ p.2 ≤ r.2) := by
        rcases List.mem_append.mp hr with hr | hr
        · exact h.wf p List.mem_cons_self r hr
        · rw [List.eq_of_mem_replicate hr]; omega
      rcases two hq with rfl | rfl
      · show c ≤ r.1 ∨ r.2 ≤ p.1 ∨ (r.1 ≤ p.1 ∧ c ≤ r.2); omega
      · show p.2 ≤ r.1 ∨ r.2 ≤ c ∨ (r.1 ≤ c ∧ p.2 ≤ r.2); omega
/-- a test that tells c -/
def Ev (t : WT) (ρ : REnv) (n : Nat) (c : Bool) : Prop := ∀ P : Bool → Nat → Prop, P c n → t ρ n P
theorem andT_f {t1 t2 : WT} {ρ : REnv} {n : Nat} (h : Ev t1 ρ n false) : Ev (wAndT t1 t2) ρ n false := fun P hP => h _ (by rw [if_neg (by decide)]; exact hP)
theorem andT_t {t1 t2 : WT} {ρ : REnv} {n : Nat} {c : Bool} (h : Ev t1 ρ n true) (h2 : Ev t2 ρ n c) : Ev (wAndT t1 t2) ρ n c := fun P hP => h _ (by rw [if_pos rfl]; exact h2 _ hP)
def F__law_stretches : FD := fun xs n P => ∃ (ms : List Int) (many : Nat), xs = [.box, .lst (ms.map D.int), .int (many : Int)] ∧ ms.Nodup ∧ 1 ≤ ms.length ∧ ms.length ≤ 36 ∧ many ≤ 20 ∧ 200 ≤ n ∧
  ∀ (fs : List (Nat × Nat)) n', (∀ p ∈ fs, p.1 < p.2 ∧ p.2 ≤ ms.length) → (∀ p ∈ fs, ∀ q ∈ fs, Lam p.1 p.2 q.1 q.2) → fs.length ≤ many → n ≤ n' + 200 → n' ≤ n → P (.lst (dG (fs.map (cutG ms)))) n'
theorem ok__law_stretches (T : Top K mg) : FnOk P w K mg base CX0 2 T.f__law_stretches.a T.f__law_stretches.fd ["box", "members", "many"] (spD K F__law_stretches) := by
  refine dfun T.f__law_stretches.F sc__law_stretches ?_ (fun cdv A outer s H E b hr => (dss_cons (ds_par2 (i := 3) (j := 4) rfl sc__law_stretches.nd (by decide) (DF.toX (df_lst da_nil)) (DF.toX (df_lst (da_cons (de_tup (da_cons de_int (da_cons (de_callB cr_lenAll sd_len (by rfl) T.n_len (by decide +kernel) (dab_cons (DE.toB (dv 1)) dab_nil)) da_nil))) da_nil)))) (dss_cons (ds_while PassesOwn.never (dt_pw (dw_and (dt_cmp (op_neD hr.units) sd_ne (dvb 4) (DE.toB (DF.toE (df_lst da_nil))) (nomark _)) (dw_and1 (dt_cmp op_lt sd_cmp (DE.toB (de_callB cr_lenAll sd_len (by rfl) T.n_len (by decide +kernel) (dab_cons (dvb 3) dab_nil))) (DE.toB (dv 2)) (nomark _))))) (dss_cons (ds_popTup [5, 6] rfl (have ha := de_int; pe_pop 4 ha) (pgs_cons (pg_name (i := 5) sc__law_stretches.nd rfl (by first | exact .inl rfl | exact .inr rfl)) (pgs_cons (pg_name (i := 6) sc__law_stretches.nd rfl (by first | exact .inl rfl | exact .inr rfl)) pgs_nil))) (dss_cons (have ha := (DF.toE (df_rep (DE.toB (DF.toE (df_lst (da_cons (de_callTy call_tuple_of sd_tuple (by rfl) T.n_tuple (by decide +kernel) (dab_cons (DE.toB (DF.toE (df_callB cr_sortedQ sd_sortedQ (by rfl) T.n_sorted (by decide +kernel) (dab_cons (DE.toB (de_sl (DE.toB (dv 1)) (do_so (dv 5)) (do_so (dv 6)))) dab_nil)))) dab_nil)) da_nil)))) (DE.toB (de_ix ix_seq sd_ix (DE.toB (DF.toE (df_lst (da_cons de_int (da_cons de_int (da_cons de_int (da_cons de_int (da_cons de_int da_nil)))))))) (DE.toB (de_call (ok__law_take T) (hr.mono (by decide)) T.f__law_take.m T.f__law_take.F.kp T.f__law_take.b pass0 (da_cons (dv 0) (da_cons de_int da_nil)))) (fun _ _ => rfl))))); ds_ext 3 ha) (dss_one (ds_if (dt_cmp op_gt sd_cmp (DE.toB (de_op op_sub (sdI0 fun _ _ _ _ => .int _) (DE.toB (dv 6)) (DE.toB (dv 5)))) (DE.toB de_int) (nomark _)) (dss_cons (ds_asg (i := 7) sc__law_stretches.nd (DE.toX (de_op op_addAll sd_add (DE.toB (de_op op_addAll sd_add (DE.toB (dv 5)) (DE.toB de_int))) (DE.toB (de_call (ok__law_take T) (hr.mono (by decide)) T.f__law_take.m T.f__law_take.F.kp T.f__law_take.b pass0 (da_cons (dv 0) (da_cons (de_op op_sub (sdI0 fun _ _ _ _ => .int _) (DE.toB (de_op op_sub (sdI0 fun _ _ _ _ => .int _) (DE.toB (dv 6)) (DE.toB (dv 5)))) (DE.toB de_int)) da_nil))))))) (dss_one (have ha := (DF.toE (df_lst (da_cons (de_tup (da_cons (dv 5) (da_cons (dv 7) da_nil))) (da_cons (de_tup (da_cons (dv 7) (da_cons (dv 6) da_nil))) da_nil)))); ds_ext 4 ha))) dss_nil))))) (dss_one (ds_ret (DF.toE (df_slL (dvb 3) do_no (do_so (dv 2))))))))) ?_
  · rintro ds n Q ⟨ms, many, rfl, _⟩
    rfl
  · rintro ds n Q ⟨ms, many, rfl, nd, l1, l2, lm, hf, h⟩
    have lM : (ms.map D.int).length = ms.length := List.length_map ..
    refine seq_mid (fun ρ n1 => n1 = n ∧ ρ = [some (Sl.val .box), some (Sl.val (.lst (ms.map D.int))), some (Sl.val (.int (many : Int))), some (Sl.own []), some (Sl.own [dP (0, ms.length)]), none, none, none]) (fun N hN => ?_) ?_
    · conv => whnf
      refine ⟨Nat.zero_le _, trivial, ?_⟩
      conv => whnf
      refine ⟨(by show 2 ≤ 1000000; omega), ⟨trivial, trivial, trivial⟩, ?_⟩
      conv => whnf
      refine ⟨(by show 1 ≤ 1000000; omega), ⟨trivial, trivial⟩, hN _ _ ⟨rfl, ?_⟩⟩
      unfold dP
      rw [← lM]
      rfl
    rintro ρ n1 ⟨rfl, rfl⟩
    with_reducible refine seq_mid (fun ρ n2 => ∃ (fs : List (Nat × Nat)) (a4 a5 a6 a7 : Option Sl), ρ = [some (Sl.val .box), some (Sl.val (.lst (ms.map D.int))), some (Sl.val (.int (many : Int))), some (Sl.own (dG (fs.map (cutG ms)))), a4, a5, a6, a7] ∧ (∀ p ∈ fs, p.1 < p.2 ∧ p.2 ≤ ms.length) ∧ (∀ p ∈ fs, ∀ q ∈ fs, Lam p.1 p.2 q.1 q.2) ∧ fs.length ≤ many + 2 ∧ n1 ≤ n2 + 200 ∧ n2 ≤ n1) (fun N hN => ?_) ?_
    · refine ⟨fun mm ρ n' => ∃ (fs ws : List (Nat × Nat)) (a5 a6 a7 : Option Sl), ρ = [some (Sl.val .box), some (Sl.val (.lst (ms.map D.int))), some (Sl.val (.int (many : Int))), some (Sl.own (dG (fs.map (cutG ms)))), some (Sl.own (ws.map dP)), a5, a6, a7] ∧ Str8 ms.length fs ws ∧ fs.length ≤ many + 2 ∧ meas ws ≤ 2 * ms.length ∧ n1 ≤ n' + 2 * (2 * ms.length - meas ws) ∧ n' ≤ n1 ∧ mm = meas ws,
        ⟨_, [], [(0, ms.length)], none, none, none, rfl, ⟨fun _ h => absurd h List.not_mem_nil, fun p hp => by rw [List.mem_singleton.mp hp]; exact ⟨l1, Nat.le_refl _⟩, fun _ h => absurd h List.not_mem_nil, by simp, fun _ _ _ h => absurd h List.not_mem_nil⟩, by simp, by show 2 * (ms.length - 0) - 1 + 0 ≤ _; omega, by omega, Nat.le_refl _, rfl⟩, ?_⟩
      rintro mm ρ n' ⟨fs, ws, a5, a6, a7, rfl, st, lf, mw2, f1, f2, rfl⟩
      have mw := meas_len fun p hp => (st.w p hp).1
      have lfs : (dG (fs.map (cutG ms))).length = fs.length := by unfold dG; rw [List.length_map, List.length_map]
      have okw : ∀ ws : List (Nat × Nat), okd 64 (.lst (ws.map dP)) = true := fun ws => okd_lst fun d hd => by
        obtain ⟨p, _, rfl⟩ := List.mem_map.mp hd
        exact okd_tup fun d hd => by
          rcases List.mem_cons.mp hd with rfl | hd
          · exact okd_int
          · rw [List.mem_singleton.mp hd]; exact okd_int
      have bye : N [some (Sl.val .box), some (Sl.val (.lst (ms.map D.int))), some (Sl.val (.int (many : Int))), some (Sl.own (dG (fs.map (cutG ms)))), some (Sl.own (ws.map dP)), a5, a6, a7] n' := hN _ _ ⟨fs, _, _, _, _, rfl, st.f, st.ff, lf, by omega, f2⟩
      cases ws with
      | nil =>
        refine andT_f (n := n') (fun P hP => ?_) _ bye
        simp only [wRet, wAnd_s, wOr_s, bsel_bl, wIfF, keyD, DL.wNot, wUn, wOp, wC, wCF, wVar, wVarB, wK, wChain_s, wB, wAndT, wOrT, wNotT, wIf, wNil, wCons, wTup, wLst, wV, wO, wNext, wSeq, wNever, wBreak, wCont, wRetN, wDrop, wIfS, wAsg, wPar, wFree, freeD, wApp0, wApp, wCall, gN, gT, setD, wIt1, wIt2, wFor, wLc, wYes, wOf, wOfK, wOK, wDc, wRg1, wRg2, wONo, wOSo, wSlL, wSl, wRevL, wRevT, wDput, popK, wPopAsg, wPopTup, wAppPop, wExt, wCallN, pick, wStar, wUnpA, wIndex, wRep, wTupF, wStepT, wBoxIx_0, wBoxIx_1, wBoxIx_2, wBoxIx_3, wBoxTo, wBoxInc, wBoxOf, wNo, wSortedSet, wNewK, dI0, dI2, dAdd, dMul, dAbs, dInt, dIsi, dIsiT, dEq, dNe, dIn, dIsN, dNotN, dIsB, dMin2, dMax2, dDget, dDin, startD, wipeD, List.map_cons, List.map_nil, List.length_cons, List.length_nil, List.replicate_succ, List.replicate_zero, List.cons_append, List.nil_append, List.getElem?_cons_zero, List.getElem?_cons_succ, List.set_cons_zero, List.set_cons_succ, Nat.reduceAdd, Nat.reduceSub, if_true, Bool.false_eq_true, if_false, reduceIte, Option.isSome_some, Option.isSome_none, true_and, and_true, List.map_nil, dLen_lst, dLen_tup, dLen_scr, dLen_dic, optD_some, dIx_lst, dIx_tup, itD_lst, itD_tup, wIt_s, dList_lst, dList_tup, dTup_lst, dTup_tup, nbs, List.map_nil, okd_lnil, eqd_lnil, List.isEmpty_nil, Bool.not_true]
        exact ⟨Nat.zero_le _, hP⟩
      | cons p ws =>
        have e1 : Ev (wB (wOp dNe (wVarB 4) (wOf (wLst wNil)))) [some (Sl.val .box), some (Sl.val (.lst (ms.map D.int))), some (Sl.val (.int (many : Int))), some (Sl.own (dG (fs.map (cutG ms)))), some (Sl.own ((p :: ws).map dP)), a5, a6, a7] n' true := fun P hP => by
          simp only [wRet, wAnd_s, wOr_s, bsel_bl, wIfF, keyD, DL.wNot, wUn, wOp, wC, wCF, wVar, wVarB, wK, wChain_s, wB, wAndT, wOrT, wNotT, wIf, wNil, wCons, wTup, wLst, wV, wO, wNext, wSeq, wNever, wBreak, wCont, wRetN, wDrop, wIfS, wAsg, wPar, wFree, freeD, wApp0, wApp, wCall, gN, gT, setD, wIt1, wIt2, wFor, wLc, wYes, wOf, wOfK, wOK, wDc, wRg1, wRg2, wONo, wOSo, wSlL, wSl, wRevL, wRevT, wDput, popK, wPopAsg, wPopTup, wAppPop, wExt, wCallN, pick, wStar, wUnpA, wIndex, wRep, wTupF, wStepT, wBoxIx_0, wBoxIx_1, wBoxIx_2, wBoxIx_3, wBoxTo, wBoxInc, wBoxOf, wNo, wSortedSet, wNewK, dI0, dI2, dAdd, dMul, dAbs, dInt, dIsi, dIsiT, dEq, dNe, dIn, dIsN, dNotN, dIsB, dMin2, dMax2, dDget, dDin, startD, wipeD, List.map_cons, List.map_nil, List.length_cons, List.length_nil, List.replicate_succ, List.replicate_zero, List.cons_append, List.nil_append, List.getElem?_cons_zero, List.getElem?_cons_succ, List.set_cons_zero, List.set_cons_succ, Nat.reduceAdd, Nat.reduceSub, if_true, Bool.false_eq_true, if_false, reduceIte, Option.isSome_some, Option.isSome_none, true_and, and_true, List.map_nil, dLen_lst, dLen_tup, dLen_scr, dLen_dic, optD_some, dIx_lst, dIx_tup, itD_lst, itD_tup, wIt_s, dList_lst, dList_tup, dTup_lst, dTup_tup, nbs, eqd_lnil, List.isEmpty_cons, Bool.not_false, okd_lnil]
          exact ⟨Nat.zero_le _, okw (p :: ws), hP⟩
        have e2 : Ev (wB (wOp (dI0 fun i j => D.bl (decide (i < j))) (wC dLen (wCons (wVarB 3) wNil)) (wVar 2))) [some (Sl.val .box), some (Sl.val (.lst (ms.map D.int))), some (Sl.val (.int (many : Int))), some (Sl.own (dG (fs.map (cutG ms)))), some (Sl.own ((p :: ws).map dP)), a5, a6, a7] n' (decide (fs.length < many)) := fun P hP => by
          simp only [wRet, wAnd_s, wOr_s, bsel_bl, wIfF, keyD, DL.wNot, wUn, wOp, wC, wCF, wVar, wVarB, wK, wChain_s, wB, wAndT, wOrT, wNotT, wIf, wNil, wCons, wTup, wLst, wV, wO, wNext, wSeq, wNever, wBreak, wCont, wRetN, wDrop, wIfS, wAsg, wPar, wFree, freeD, wApp0, wApp, wCall, gN, gT, setD, wIt1, wIt2, wFor, wLc, wYes, wOf, wOfK, wOK, wDc, wRg1, wRg2, wONo, wOSo, wSlL, wSl, wRevL, wRevT, wDput, popK, wPopAsg, wPopTup, wAppPop, wExt, wCallN, pick, wStar, wUnpA, wIndex, wRep, wTupF, wStepT, wBoxIx_0, wBoxIx_1, wBoxIx_2, wBoxIx_3, wBoxTo, wBoxInc, wBoxOf, wNo, wSortedSet, wNewK, dI0, dI2, dAdd, dMul, dAbs, dInt, dIsi, dIsiT, dEq, dNe, dIn, dIsN, dNotN, dIsB, dMin2, dMax2, dDget, dDin, startD, wipeD, List.map_cons, List.map_nil, List.length_cons, List.length_nil, List.replicate_succ, List.replicate_zero, List.cons_append, List.nil_append, List.getElem?_cons_zero, List.getElem?_cons_succ, List.set_cons_zero, List.set_cons_succ, Nat.reduceAdd, Nat.reduceSub, if_true, Bool.false_eq_true, if_false, reduceIte, Option.isSome_some, Option.isSome_none, true_and, and_true, List.map_nil, dLen_lst, dLen_tup, dLen_scr, dLen_dic, optD_some, dIx_lst, dIx_tup, itD_lst, itD_tup, wIt_s, dList_lst, dList_tup, dTup_lst, dTup_tup, lfs]
          have : decide ((fs.length : Int) < (many : Int)) = decide (fs.length < many) := by
            by_cases z : fs.length < many
            · rw [decide_eq_true z, decide_eq_true (by omega)]
            · rw [decide_eq_false z, decide_eq_false (by omega)]
          rw [this]
          exact hP
        by_cases hlt : fs.length < many
        · rw [decide_eq_true hlt] at e2
          refine andT_t e1 e2 _ ?_
          obtain ⟨p1, p2⟩ := st.w p List.mem_cons_self
          have hm : meas (p :: ws) = 2 * (p.2 - p.1) - 1 + meas ws := rfl
          have lw : (ws.map dP).length = ws.length := List.length_map ..
          have mw' : ws.length + 1 ≤ meas (p :: ws) := mw
          conv => whnf
          refine ⟨⟨_, rfl⟩, ⟨by omega, by omega⟩, rfl, ?_⟩
          conv => whnf
          refine ⟨⟨_, rfl⟩, ?_⟩
          have ec : DL.cutD (ms.map D.int) (some (p.1 : Int)) (some (p.2 : Int)) = ((ms.drop p.1).take (p.2 - p.1)).map D.int := by
            rw [cut_mid rfl rfl (by omega) (by omega), List.map_take, List.map_drop]
          have ndc : ((ms.drop p.1).take (p.2 - p.1)).Nodup := (nd.sublist (List.drop_sublist _ _)).sublist (List.take_sublist _ _)
          conv => whnf
          rw [ec]
          refine ⟨_, (ms.drop p.1).take (p.2 - p.1), rfl, .inl (.inl rfl), fun s1 p1' q1 => ?_⟩
          have es := is_srt p1' q1 ndc
          subst es
          conv => whnf
          refine ⟨(by show 1 ≤ 1000000; omega), ⟨trivial, trivial⟩, ?_⟩
          conv => whnf
          refine ⟨(by show 5 ≤ 1000000; omega), ⟨trivial, trivial, trivial, trivial, trivial, trivial⟩, ?_⟩
          conv => whnf
          refine ⟨_, rfl, by omega, by omega, by omega, fun z z0 z1 n3 m1 m2 => ?_⟩
          have fin : ∀ k : Nat, k ≤ 2 → Str8 ms.length (fs ++ List.replicate k p) ws := fun k _ => st.take k
          have rest : ∀ k : Nat, k ≤ 2 → wIfS (wB (wOp (dI0 fun i j => D.bl (decide (j < i))) (wOp (dI0 fun x x_1 => D.int (x - x_1)) (wVar 6) (wVar 5)) (wK (D.int 1))))
              (wSeq (wAsg 7 (wV (wOp dAdd (wOp dAdd (wVar 5) (wK (D.int 1))) (wCall F__law_take (wCons (wVar 0) (wCons (wOp (dI0 fun x x_1 => D.int (x - x_1)) (wOp (dI0 fun x x_1 => D.int (x - x_1)) (wVar 6) (wVar 5)) (wK (D.int 1))) wNil))))))
                (wExt 4 (wOf (wLst (wCons (wTup (wCons (wVar 5) (wCons (wVar 7) wNil))) (wCons (wTup (wCons (wVar 7) (wCons (wVar 6) wNil))) wNil)))))) wNext
              { nx := fun ρ' n' => ∃ m', m' < meas (p :: ws) ∧ ∃ (fs ws : List (Nat × Nat)) (a5 a6 a7 : Option Sl), ρ' = [some (Sl.val .box), some (Sl.val (.lst (ms.map D.int))), some (Sl.val (.int (many : Int))), some (Sl.own (dG (fs.map (cutG ms)))), some (Sl.own (ws.map dP)), a5, a6, a7] ∧ Str8 ms.length fs ws ∧ fs.length ≤ many + 2 ∧ meas ws ≤ 2 * ms.length ∧ n1 ≤ n' + 2 * (2 * ms.length - meas ws) ∧ n' ≤ n1 ∧ m' = meas ws, rt := Q }
              [some (Sl.val .box), some (Sl.val (.lst (ms.map D.int))), some (Sl.val (.int (many : Int))), some (Sl.own (dG ((fs ++ List.replicate k p).map (cutG ms)))), some (Sl.own (ws.map dP)), some (Sl.val (.int (p.1 : Int))), some (Sl.val (.int (p.2 : Int))), a7] n3 := by
            intro k hk
            have lk : (fs ++ List.replicate k p).length ≤ many + 2 := by rw [List.length_append, List.length_replicate]; omega
            have et : Ev (wB (wOp (dI0 fun i j => D.bl (decide (j < i))) (wOp (dI0 fun x x_1 => D.int (x - x_1)) (wVar 6) (wVar 5)) (wK (D.int 1)))) [some (Sl.val .box), some (Sl.val (.lst (ms.map D.int))), some (Sl.val (.int (many : Int))), some (Sl.own (dG ((fs ++ List.replicate k p).map (cutG ms)))), some (Sl.own (ws.map dP)), some (Sl.val (.int (p.1 : Int))), some (Sl.val (.int (p.2 : Int))), a7] n3 (decide (1 < p.2 - p.1)) := fun P hP => by
              simp only [wRet, wAnd_s, wOr_s, bsel_bl, wIfF, keyD, DL.wNot, wUn, wOp, wC, wCF, wVar, wVarB, wK, wChain_s, wB, wAndT, wOrT, wNotT, wIf, wNil, wCons, wTup, wLst, wV, wO, wNext, wSeq, wNever, wBreak, wCont, wRetN, wDrop, wIfS, wAsg, wPar, wFree, freeD, wApp0, wApp, wCall, gN, gT, setD, wIt1, wIt2, wFor, wLc, wYes, wOf, wOfK, wOK, wDc, wRg1, wRg2, wONo, wOSo, wSlL, wSl, wRevL, wRevT, wDput, popK, wPopAsg, wPopTup, wAppPop, wExt, wCallN, pick, wStar, wUnpA, wIndex, wRep, wTupF, wStepT, wBoxIx_0, wBoxIx_1, wBoxIx_2, wBoxIx_3, wBoxTo, wBoxInc, wBoxOf, wNo, wSortedSet, wNewK, dI0, dI2, dAdd, dMul, dAbs, dInt, dIsi, dIsiT, dEq, dNe, dIn, dIsN, dNotN, dIsB, dMin2, dMax2, dDget, dDin, startD, wipeD, List.map_cons, List.map_nil, List.length_cons, List.length_nil, List.replicate_succ, List.replicate_zero, List.cons_append, List.nil_append, List.getElem?_cons_zero, List.getElem?_cons_succ, List.set_cons_zero, List.set_cons_succ, Nat.reduceAdd, Nat.reduceSub, if_true, Bool.false_eq_true, if_false, reduceIte, Option.isSome_some, Option.isSome_none, true_and, and_true, List.map_nil, dLen_lst, dLen_tup, dLen_scr, dLen_dic, optD_some, dIx_lst, dIx_tup, itD_lst, itD_tup, wIt_s, dList_lst, dList_tup, dTup_lst, dTup_tup]
              have : decide ((1 : Int) < (p.2 : Int) - (p.1 : Int)) = decide (1 < p.2 - p.1) := by
                by_cases z : 1 < p.2 - p.1
                · rw [decide_eq_true z, decide_eq_true (by omega)]
                · rw [decide_eq_false z, decide_eq_false (by omega)]
              rw [this]
              exact hP
            refine et _ ?_
            by_cases hb : 1 < p.2 - p.1
            · rw [decide_eq_true hb]
              conv => whnf
              refine ⟨_, rfl, by omega, by omega, by omega, fun y y0 y1 n4 m3 m4 => ?_⟩
              conv => whnf
              refine ⟨⟨_, rfl⟩, ?_⟩
              conv => whnf
              refine ⟨(by show 2 ≤ 1000000; omega), ⟨trivial, trivial, trivial⟩, ?_⟩
              conv => whnf
              refine ⟨(by show 2 ≤ 1000000; omega), ⟨trivial, trivial, trivial⟩, ?_⟩
              conv => whnf
              refine ⟨(by show 2 ≤ 1000000; omega), ⟨trivial, trivial, trivial⟩, ?_⟩
              conv => whnf
              have ec : (p.1 : Int) + 1 + y = ((p.1 + 1 + y.toNat : Nat) : Int) := by omega
              have mcut : meas (ws ++ [(p.1, p.1 + 1 + y.toNat), (p.1 + 1 + y.toNat, p.2)]) + 1 = meas (p :: ws) := by
                rw [meas_app, hm]
                show meas ws + (2 * (p.1 + 1 + y.toNat - p.1) - 1 + (2 * (p.2 - (p.1 + 1 + y.toNat)) - 1 + 0)) + 1 = _
                omega
              refine ⟨by rw [lw]; show ws.length + 2 ≤ 1000000; omega, meas (ws ++ [(p.1, p.1 + 1 + y.toNat), (p.1 + 1 + y.toNat, p.2)]), by omega, fs ++ List.replicate k p, ws ++ [(p.1, p.1 + 1 + y.toNat), (p.1 + 1 + y.toNat, p.2)], some (Sl.val (.int (p.1 : Int))), some (Sl.val (.int (p.2 : Int))), some (Sl.val (.int (((p.1 + 1 + y.toNat : Nat)) : Int))), ?_, st.cut k _ (by omega) (by omega), lk, by omega, by omega, by omega, rfl⟩
              have emap : (ws ++ [(p.1, p.1 + 1 + y.toNat), (p.1 + 1 + y.toNat, p.2)]).map dP = ws.map dP ++ [.tup [.int (p.1 : Int), .int (((p.1 + 1 + y.toNat : Nat)) : Int)], .tup [.int (((p.1 + 1 + y.toNat : Nat)) : Int), .int (p.2 : Int)]] := by
                rw [List.map_append]; rfl
              rw [emap, ← ec]
              rfl
            · rw [decide_eq_false hb]
              conv => whnf
              exact ⟨meas ws, by omega, fs ++ List.replicate k p, ws, _, _, _, rfl, st.take k, lk, by omega, by omega, by omega, rfl⟩
          have ext : ∀ k : Nat, dG (fs.map (cutG ms)) ++ (List.replicate k [dI (srt ((ms.drop p.1).take (p.2 - p.1)))]).flatten = dG ((fs ++ List.replicate k p).map (cutG ms)) := fun k => by
            unfold dG
            rw [List.map_append, List.map_append, List.map_replicate, List.map_replicate]
            congr 1
            induction k with
            | zero => rfl
            | succ k ih => rw [List.replicate_succ, List.flatten_cons, ih]; rfl
          have zc : z = 0 ∨ z = 1 ∨ z = 2 ∨ z = 3 ∨ z = 4 := by omega
          rcases zc with rfl | rfl | rfl | rfl | rfl
          · conv => whnf
            refine ⟨⟨by omega, by omega, (by show 1 ≤ 1000000; omega)⟩, ?_⟩
            conv => whnf
            refine ⟨by rw [lfs]; show fs.length + 1 ≤ 1000000; omega, ?_⟩
            have r := rest 1 (by omega)
            rw [← ext] at r
            exact r
          · conv => whnf
            refine ⟨⟨by omega, by omega, (by show 1 ≤ 1000000; omega)⟩, ?_⟩
            conv => whnf
            refine ⟨by rw [lfs]; show fs.length + 1 ≤ 1000000; omega, ?_⟩
            have r := rest 1 (by omega)
            rw [← ext] at r
            exact r
          · conv => whnf
            refine ⟨⟨by omega, by omega, (by show 1 ≤ 1000000; omega)⟩, ?_⟩
            conv => whnf
            refine ⟨by rw [lfs]; show fs.length + 1 ≤ 1000000; omega, ?_⟩
            have r := rest 1 (by omega)
            rw [← ext] at r
            exact r
          · conv => whnf
            refine ⟨⟨by omega, by omega, (by show 2 ≤ 1000000; omega)⟩, ?_⟩
            conv => whnf
            refine ⟨by rw [lfs]; show fs.length + 2 ≤ 1000000; omega, ?_⟩
            have r := rest 2 (by omega)
            rw [← ext] at r
            exact r
          · conv => whnf
            refine ⟨⟨by omega, by omega, (by show 0 ≤ 1000000; omega)⟩, ?_⟩
            conv => whnf
            refine ⟨by rw [lfs]; show fs.length + 0 ≤ 1000000; omega, ?_⟩
            have r := rest 0 (by omega)
            rw [← ext] at r
            exact r
        · rw [decide_eq_false hlt] at e2
          exact andT_t e1 e2 _ bye
    rintro ρ n2 ⟨fs, a4, a5, a6, a7, rfl, q1, q2, q3, q4, q5⟩
    conv => whnf
    have e : DL.cutD (dG (fs.map (cutG ms))) none (some (many : Int)) = dG ((fs.take many).map (cutG ms)) := by
      rw [cut_to (k := many) rfl]
      unfold dG
      rw [List.map_take, List.map_take]
    rw [e]
    exact h (fs.take many) n2 (fun p hp => q1 p (List.mem_of_mem_take hp)) (fun p hp q hq => q2 p (List.mem_of_mem_take hp) q (List.mem_of_mem_take hq)) (by rw [List.length_take]; omega) q4 q5
end
end Mine
namespace Mine
open PySem PySem.Spec L2 PyProof.Rows DL
theorem apart_cases {a b : List Int} (ha : a.Nodup) (hb : b.Nodup) (h : apart a b = true) : (∀ x ∈ a, x ∉ b) ∨ (∀ x ∈ a, x ∈ b) ∨ ∀ x ∈ b, x ∈ a := by
  by_cases h1 : ∀ x ∈ a, x ∉ b
  · exact .inl h1
  · by_cases h2 : ∀ x ∈ a, x ∈ b
    · exact .inr (.inl h2)
    · by_cases h3 : ∀ x ∈ b, x ∈ a
      · exact .inr (.inr h3)
      · exfalso
        have g1 : ∃ x, x ∈ a ∧ x ∈ b := Classical.byContradiction fun q => h1 fun x hx hx' => q ⟨x, hx, hx'⟩
        have g2 : ∃ x, x ∈ a ∧ x ∉ b := Classical.byContradiction fun q => h2 fun x hx => Classical.byContradiction fun r => q ⟨x, hx, r⟩
        have g3 : ∃ x, x ∈ b ∧ x ∉ a := Classical.byContradiction fun q => h3 fun x hx => Classical.byContradiction fun r => q ⟨x, hx, r⟩
        obtain ⟨x, x1, x2⟩ := g1
        obtain ⟨y, y1, y2⟩ := g2
        obtain ⟨z, z1, z2⟩ := g3
        rw [apart_no ha hb x1 x2 y1 y2 z1 z2] at h
        cases h
theorem apart_one {x : Int} {b : List Int} : apart [x] b = true := by
  by_cases h : x ∈ b
  · exact apart_sub fun y hy => by rw [List.mem_singleton.mp hy]; exact h
  · exact apart_disj fun y hy => by rw [List.mem_singleton.mp hy]; exact h
/-- two orders' stretches, and one alone -/
theorem two_col {ns ot : List Int} (n1 : ns.Nodup) (n2 : ot.Nodup) {f1 f2 : List (Nat × Nat)} {x : Int} (l1 : ∀ p ∈ f1, ∀ q ∈ f1, Lam p.1 p.2 q.1 q.2) (l2 : ∀ p ∈ f2, ∀ q ∈ f2, Lam p.1 p.2 q.1 q.2)
    {gs : List (List Int)} (h : ∀ g ∈ gs, g ∈ f1.map (cutG ns) ∨ g ∈ f2.map (cutG ot) ∨ g = [x]) : ColG gs := by
  refine ⟨fun g => decide (g ∈ f1.map (cutG ns)), fun a ha b hb hab q => ?_⟩
  have q := decide_eq_decide.mp q
  have stretch : ∀ {ns : List Int} {fs : List (Nat × Nat)}, ns.Nodup → (∀ p ∈ fs, ∀ q ∈ fs, Lam p.1 p.2 q.1 q.2) → a ∈ fs.map (cutG ns) → b ∈ fs.map (cutG ns) → False := fun {ns fs} nd ll ha hb => by
    obtain ⟨p, hp, rfl⟩ := List.mem_map.mp ha
    obtain ⟨r, hr, rfl⟩ := List.mem_map.mp hb
    have e : apart (cutG ns p) (cutG ns r) = true := (Iv.cut nd p.1 p.2).apart nd (Iv.cut nd r.1 r.2) (ll p hp r hr)
    rw [e] at hab
    cases hab
  by_cases z : a ∈ f1.map (cutG ns)
  · exact stretch n1 l1 z (q.mp z)
  · have z2 : b ∉ f1.map (cutG ns) := fun w => z (q.mpr w)
    rcases h a ha with h1 | h1 | h1
    · exact z h1
    · rcases h b hb with h2 | h2 | h2
      · exact z2 h2
      · exact stretch n2 l2 h1 h2
      · subst h2
        have nda : a.Nodup := by
          obtain ⟨p, hp, rfl⟩ := List.mem_map.mp h1
          exact (Iv.cut n2 p.1 p.2).nd
        rw [apart_symm nda (by simp), apart_one] at hab
        cases hab
    · subst h1
      rw [apart_one] at hab
      cases hab
/-- the groups under other names -/
def turnG (sg : List Int) (g : List Int) : List Int := srt (g.map fun x => sg.getD x.toNat 0)
theorem turn_nd {sg g : List Int} (nm : Names sg) (ok : GrpOk g) : (g.map fun x => sg.getD x.toNat 0).Nodup := by
  have hl := nm.len
  rw [List.nodup_iff_pairwise_ne, List.pairwise_map]
  refine List.Pairwise.imp_of_mem (R := fun a b => a < b) (fun {a b} ha hb hab e => ?_) ok.asc
  have h1 := ok.rng a ha
  have h2 := ok.rng b hb
  have := D_inj nm.nd (by omega) (by omega) e
  omega
theorem turn_ok {sg g : List Int} (nm : Names sg) (ok : GrpOk g) : GrpOk (turnG sg g) := by
  refine srt_ok nm (fun e => ok.ne (by simpa using e)) (turn_nd nm ok) (fun x hx => ?_) (by rw [List.length_map]; exact ok.len)
  obtain ⟨y, hy, rfl⟩ := List.mem_map.mp hx
  have := ok.rng y hy
  exact getD_in (by rw [nm.len]; omega)
theorem turn_apart {sg a b : List Int} (nm : Names sg) (ha : GrpOk a) (hb : GrpOk b) (h : apart a b = true) : apart (turnG sg a) (turnG sg b) = true := by
  have hl := nm.len
  have n1 := (turn_ok nm ha).nd
  have n2 := (turn_ok nm hb).nd
  rcases apart_cases ha.nd hb.nd h with h | h | h
  · refine apart_disj fun x hx hx' => ?_
    obtain ⟨y, hy, rfl⟩ := List.mem_map.mp (mem_srt.mp hx)
    obtain ⟨z, hz, e⟩ := List.mem_map.mp (mem_srt.mp hx')
    have h1 := ha.rng y hy
    have h2 := hb.rng z hz
    have := D_inj nm.nd (by omega) (by omega) e
    have : z = y := by omega
    subst this
    exact h z hy hz
  · refine apart_sub fun x hx => ?_
    obtain ⟨y, hy, rfl⟩ := List.mem_map.mp (mem_srt.mp hx)
    exact mem_srt.mpr (List.mem_map.mpr ⟨y, h y hy, rfl⟩)
  · refine apart_sup n1 n2 fun x hx => ?_
    obtain ⟨y, hy, rfl⟩ := List.mem_map.mp (mem_srt.mp hx)
    exact mem_srt.mpr (List.mem_map.mpr ⟨y, h y hy, rfl⟩)
theorem turn_col {sg : List Int} {gs : List (List Int)} (nm : Names sg) (ok : GsOk gs) (h : ColG gs) : Colorable (gs.reverse.map (turnG sg)).length (Ed (gs.reverse.map (turnG sg))) := by
  obtain ⟨C, h⟩ := h
  have at' : ∀ i, i < (gs.reverse.map (turnG sg)).length → (gs.reverse.map (turnG sg)).getD i [] = turnG sg (gs.reverse.getD i []) ∧ gs.reverse.getD i [] ∈ gs := fun i hi => by
    rw [List.length_map] at hi
    refine ⟨?_, List.mem_reverse.mp (getD_mem hi)⟩
    rw [List.getD_eq_getElem?_getD, List.getElem?_map, List.getElem?_eq_getElem hi, List.getD_eq_getElem?_getD, List.getElem?_eq_getElem hi]
    rfl
  refine ⟨fun i => C (gs.reverse.getD i []), fun i j hi hj he => ?_⟩
  obtain ⟨e1, m1⟩ := at' i hi
  obtain ⟨e2, m2⟩ := at' j hj
  refine h _ m1 _ m2 ?_
  unfold Ed at he
  rw [e1, e2] at he
  cases q : apart (gs.reverse.getD i []) (gs.reverse.getD j []) with
  | false => rfl
  | true =>
    rw [turn_apart nm (ok.each _ m1) (ok.each _ m2) q] at he
    cases he
theorem turn_gs {sg : List Int} {gs : List (List Int)} (nm : Names sg) (ok : GsOk gs) : GsOk (gs.reverse.map (turnG sg)) := by
  refine ⟨by rw [List.length_map, List.length_reverse]; exact ok.pos, by rw [List.length_map, List.length_reverse]; exact ok.most, fun g hg => ?_⟩
  obtain ⟨a, ha, rfl⟩ := List.mem_map.mp hg
  exact turn_ok nm (ok.each a (List.mem_reverse.mp ha))
section
variable {P : Program} {w : World} {K : PySem.W.Frag} {base : Heap} {mg : Str → Option Value}
def F__law_hierarchies_right : FD := fun xs n P => ∃ b, xs = [.box, .bl b] ∧ 1000 ≤ n ∧ ∀ n', n ≤ n' + 1000 → n' ≤ n → P (.bl true) n'
theorem ok__law_hierarchies_right (T : Top K mg) : FnOk P w K mg base CX0 7 T.f__law_hierarchies_right.a T.f__law_hierarchies_right.fd ["box", "by_name"] (spD K F__law_hierarchies_right) := by
  refine dfun T.f__law_hierarchies_right.F sc__law_hierarchies_right ?_ (fun cdv A outer s H E b hr => (dss_cons (ds_asg (i := 2) sc__law_hierarchies_right.nd (DE.toX (de_call (ok__law_mixed T) (hr.mono (by decide)) T.f__law_mixed.m T.f__law_mixed.F.kp T.f__law_mixed.b pass0 (da_cons (dv 0) (da_cons (DF.toE (df_listRg1 rfl T.n_list T.n_range (de_ix ix_seq sd_ix (DE.toB (DF.toE (df_lst (da_cons de_int (da_cons de_int (da_cons de_int da_nil)))))) (DE.toB (de_call (ok__law_take T) (hr.mono (by decide)) T.f__law_take.m T.f__law_take.F.kp T.f__law_take.b pass0 (da_cons (dv 0) (da_cons de_int da_nil)))) (fun _ _ => rfl)))) da_nil))))) (dss_cons (ds_asg (i := 3) sc__law_hierarchies_right.nd (DE.toX (de_call (ok__law_mixed T) (hr.mono (by decide)) T.f__law_mixed.m T.f__law_mixed.F.kp T.f__law_mixed.b pass0 (da_cons (dv 0) (da_cons (dv 2) da_nil))))) (dss_cons (ds_asg (i := 4) sc__law_hierarchies_right.nd (DE.toX (de_op op_addAll sd_add (DE.toB de_int) (DE.toB (de_call (ok__law_take T) (hr.mono (by decide)) T.f__law_take.m T.f__law_take.F.kp T.f__law_take.b pass0 (da_cons (dv 0) (da_cons de_int da_nil))))))) (dss_cons (ds_asg (i := 5) sc__law_hierarchies_right.nd (DE.toX (de_op op_addAll sd_add (DE.toB (de_call (ok__law_mixed T) (hr.mono (by decide)) T.f__law_mixed.m T.f__law_mixed.F.kp T.f__law_mixed.b pass0 (da_cons (dv 0) (da_cons (de_op op_addAll sd_add (DE.toB (de_call (ok__law_stretches T) (hr.mono (by decide)) T.f__law_stretches.m T.f__law_stretches.F.kp T.f__law_stretches.b pass0 (da_cons (dv 0) (da_cons (dv 2) (da_cons (dv 4) da_nil))))) (DE.toB (de_call (ok__law_stretches T) (hr.mono (by decide)) T.f__law_stretches.m T.f__law_stretches.F.kp T.f__law_stretches.b pass0 (da_cons (dv 0) (da_cons (dv 3) (da_cons (dv 4) da_nil)))))) da_nil)))) (DE.toB (DF.toE (df_lst (da_cons (de_tup (da_cons (de_ix ix_seq sd_ix (DE.toB (dv 2)) (DE.toB de_int) (fun _ _ => rfl)) da_nil)) da_nil))))))) (dss_cons (ds_asg (i := 5) sc__law_hierarchies_right.nd (DE.toX (de_sl (DE.toB (dv 5)) do_no (do_so de_int)))) (dss_cons (ds_unpA [6, 7] rfl (de_call (ok__law_asked T) (hr.mono (by decide)) T.f__law_asked.m T.f__law_asked.F.kp T.f__law_asked.b pass0 (da_cons (dv 5) (da_cons (dv 1) da_nil))) (pgs_cons (pg_name (i := 6) sc__law_hierarchies_right.nd rfl (by first | exact .inl rfl | exact .inr rfl)) (pgs_cons (pg_name (i := 7) sc__law_hierarchies_right.nd rfl (by first | exact .inl rfl | exact .inr rfl)) pgs_nil))) (dss_cons (ds_if (dt_pw (dw_or (dt_not (dt_val (de_call (ok__law_sides_right T) (hr.mono (by decide)) T.f__law_sides_right.m T.f__law_sides_right.F.kp T.f__law_sides_right.b pass0 (da_cons (dv 6) (da_cons (dv 5) da_nil))))) (dw_or1 (dt_cmp op_notN sd_notN (DE.toB (dv 7)) (DE.toB de_non) (nomark _))))) (dss_one (ds_ret de_bl)) dss_nil) (dss_cons (ds_asg (i := 8) sc__law_hierarchies_right.nd (DE.toX (de_call (ok__law_mixed T) (hr.mono (by decide)) T.f__law_mixed.m T.f__law_mixed.F.kp T.f__law_mixed.b pass0 (da_cons (dv 0) (da_cons (DF.toE (df_listRg1 rfl T.n_list T.n_range de_int)) da_nil))))) (dss_cons (ds_setLcV (i := 9) [("group", 10)] rfl sc__law_hierarchies_right.nd (di_seq (DF.toE (df_revL (DE.toB (dv 5))))) (by rfl) (fun _ _ _ _ _ => (dg_name 10 sc__law_hierarchies_right.nd)) (fun _ _ _ _ _ => dts_nil) (fun _ _ _ _ _ => (de_callTy call_tuple_of sd_tuple (by rfl) T.n_tuple (by decide +kernel) (dab_cons (DE.toB (DF.toE (df_callB cr_sortedQ sd_sortedQ (by rfl) T.n_sorted (by decide +kernel) (dab_cons (DE.toB (DF.toE (df_lc [("member", 11)] rfl sc__law_hierarchies_right.nd (di_seq (dv 10)) (by rfl) (fun _ _ _ _ _ => (dg_name 11 sc__law_hierarchies_right.nd)) (fun _ _ _ _ _ => dts_nil) (fun _ _ _ _ _ => (de_ix ix_seq sd_ix (DE.toB (dv 8)) (DE.toB (dv 11)) (fun _ _ => rfl)))))) dab_nil)))) dab_nil)))) (dss_cons (ds_unpA [6, 7] rfl (de_call (ok__law_asked T) (hr.mono (by decide)) T.f__law_asked.m T.f__law_asked.F.kp T.f__law_asked.b pass0 (da_cons (dv 9) (da_cons (de_not (dv 1)) da_nil))) (pgs_cons (pg_name (i := 6) sc__law_hierarchies_right.nd rfl (by first | exact .inl rfl | exact .inr rfl)) (pgs_cons (pg_name (i := 7) sc__law_hierarchies_right.nd rfl (by first | exact .inl rfl | exact .inr rfl)) pgs_nil))) (dss_one (ds_ret (de_and (de_call (ok__law_sides_right T) (hr.mono (by decide)) T.f__law_sides_right.m T.f__law_sides_right.F.kp T.f__law_sides_right.b pass0 (da_cons (dv 6) (da_cons (dv 9) da_nil))) (de_one (de_cmp op_isN sd_isN (DE.toB (dv 7)) (DE.toB de_non) (nomark _))))))))))))))))) ?_
  · rintro ds n Q ⟨b, rfl, _⟩
    rfl
  · rintro ds n Q ⟨b, rfl, hf, h⟩
    refine seq_mid (fun ρ n1 => ∃ ns : List Int, ns.Nodup ∧ 1 ≤ ns.length ∧ ns.length ≤ 36 ∧ (∀ x ∈ ns, 0 ≤ x ∧ x ≤ 35) ∧ n ≤ n1 + 37 ∧ n1 ≤ n ∧ ρ = [some (Sl.val .box), some (Sl.val (.bl b)), some (Sl.val (.lst (ns.map D.int))), none, none, none, none, none, none, none, none, none]) (fun N hN => ?_) ?_
    · conv => whnf
      refine ⟨(by show 3 ≤ 1000000; omega), ⟨trivial, trivial, trivial, trivial⟩, ?_⟩
      conv => whnf
      refine ⟨_, rfl, by omega, by omega, by omega, fun z z0 z1 n1 m1 m2 => ?_⟩
      have go : ∀ M : Nat, 1 ≤ M → M ≤ 36 → ∀ ds' n', ds'.Perm (rangeD 0 (M : Int)) → n1 ≤ n' + (rangeD 0 (M : Int)).length → n' ≤ n1 → N [some (Sl.val .box), some (Sl.val (.bl b)), some (Sl.val (.lst ds')), none, none, none, none, none, none, none, none, none] n' := fun M M1 M2 ds' n' pm q1 q2 => by
        rw [rangeD_nat] at pm q1
        rw [List.length_map, List.length_range] at q1
        obtain ⟨l, rfl, pl⟩ := perm_map pm _ rfl
        have e : l.map (fun k : Nat => D.int ((k : Nat) : Int)) = (l.map fun k : Nat => (k : Int)).map D.int := by rw [List.map_map]; rfl
        rw [e]
        have ll : l.length = M := by rw [pl.length_eq, List.length_range]
        refine hN _ _ ⟨l.map fun k : Nat => (k : Int), nd_cast.mpr (pl.nodup_iff.mpr List.nodup_range), by rw [List.length_map]; omega, by rw [List.length_map]; omega, fun x hx => ?_, by omega, by omega, rfl⟩
        obtain ⟨k, hk, rfl⟩ := List.mem_map.mp hx
        have := List.mem_range.mp (pl.mem_iff.mp hk)
        omega
      have zc : z = 0 ∨ z = 1 ∨ z = 2 := by omega
      rcases zc with rfl | rfl | rfl
      · conv => whnf
        refine ⟨⟨by omega, by omega⟩, ?_⟩
        conv => whnf
        exact ⟨_, _, rfl, .inl rfl, nbs_map fun _ => trivial, (by show 36 ≤ 1000; omega), (by show 36 ≤ n1; omega), go 36 (by omega) (by omega)⟩
      · conv => whnf
        refine ⟨⟨by omega, by omega⟩, ?_⟩
        conv => whnf
        exact ⟨_, _, rfl, .inl rfl, nbs_map fun _ => trivial, (by show 12 ≤ 1000; omega), (by show 12 ≤ n1; omega), go 12 (by omega) (by omega)⟩
      · conv => whnf
        refine ⟨⟨by omega, by omega⟩, ?_⟩
        conv => whnf
        exact ⟨_, _, rfl, .inl rfl, nbs_map fun _ => trivial, (by show 20 ≤ 1000; omega), (by show 20 ≤ n1; omega), go 20 (by omega) (by omega)⟩
    rintro ρ n1 ⟨ns, nd, l1, l36, rng, f1, f2, rfl⟩
    have lN : (ns.map D.int).length = ns.length := List.length_map ..
    with_reducible refine seq_mid (fun ρ n2 => ∃ ot : List Int, ot.Perm ns ∧ n ≤ n2 + 73 ∧ n2 ≤ n ∧ ρ = [some (Sl.val .box), some (Sl.val (.bl b)), some (Sl.val (.lst (ns.map D.int))), some (Sl.val (.lst (ot.map D.int))), none, none, none, none, none, none, none, none]) (fun N hN => ?_) ?_
    · conv => whnf
      refine ⟨_, ns.map D.int, rfl, .inl rfl, nbs_ints, by omega, by omega, fun ds' n2 pm m1 m2 => ?_⟩
      obtain ⟨ot, rfl, po⟩ := perm_map pm _ rfl
      exact hN _ _ ⟨ot, po, by omega, by omega, rfl⟩
    rintro ρ n2 ⟨ot, po, f3, f4, rfl⟩
    have ndo : ot.Nodup := po.nodup_iff.mpr nd
    have lo : ot.length = ns.length := po.length_eq
    with_reducible refine seq_mid (fun ρ n3 => ∃ many : Nat, many ≤ 10 ∧ n ≤ n3 + 74 ∧ n3 ≤ n ∧ ρ = [some (Sl.val .box), some (Sl.val (.bl b)), some (Sl.val (.lst (ns.map D.int))), some (Sl.val (.lst (ot.map D.int))), some (Sl.val (.int (many : Int))), none, none, none, none, none, none, none]) (fun N hN => ?_) ?_
    · conv => whnf
      refine ⟨_, rfl, by omega, by omega, by omega, fun z z0 z1 n3 m1 m2 => ?_⟩
      refine hN _ _ ⟨7 + z.toNat, by omega, by omega, by omega, ?_⟩
      rw [show ((7 + z.toNat : Nat) : Int) = 7 + z by omega]
      rfl
    rintro ρ n3 ⟨many, lm, f5, f6, rfl⟩
    have rngo : ∀ x ∈ ot, 0 ≤ x ∧ x ≤ 35 := fun x hx => rng x (po.mem_iff.mp hx)
    have cut_ok : ∀ {ms : List Int} {p : Nat × Nat}, ms.Nodup → ms.length ≤ 36 → (∀ x ∈ ms, 0 ≤ x ∧ x ≤ 35) → p.1 < p.2 → p.2 ≤ ms.length → GrpOk (cutG ms p) := fun {ms p} nd' l' r' p1 p2 => by
      have ll : ((ms.drop p.1).take (p.2 - p.1)).length = p.2 - p.1 := by rw [List.length_take, List.length_drop]; omega
      have nd2 : ((ms.drop p.1).take (p.2 - p.1)).Nodup := (nd'.sublist (List.drop_sublist _ _)).sublist (List.take_sublist _ _)
      refine ⟨fun e => ?_, by unfold cutG; rw [srt_len, ll]; omega, fun x hx => r' x (List.mem_of_mem_drop (List.mem_of_mem_take (mem_srt.mp hx))), srt_asc nd2⟩
      have := srt_len (l := (ms.drop p.1).take (p.2 - p.1))
      unfold cutG at e
      rw [e, ll] at this
      simp at this
      omega
    with_reducible refine seq_mid (fun ρ n4 => ∃ gs : List (List Int), 1 ≤ gs.length ∧ (∀ g ∈ gs, GrpOk g) ∧ (∀ gs' : List (List Int), (∀ g ∈ gs', g ∈ gs) → ColG gs') ∧ n ≤ n4 + 500 ∧ n4 ≤ n ∧ ρ = [some (Sl.val .box), some (Sl.val (.bl b)), some (Sl.val (.lst (ns.map D.int))), some (Sl.val (.lst (ot.map D.int))), some (Sl.val (.int (many : Int))), some (Sl.val (.lst (dG gs))), none, none, none, none, none, none]) (fun N hN => ?_) ?_
    · have at0 : atI (ns.map D.int) 0 = some (.int (ns.getD 0 0)) := atI_map (atI_ok (j := 0) rfl (at_D (by omega)))
      conv => whnf
      refine ⟨ns, many, rfl, nd, l1, l36, by omega, by omega, fun fa n4 p1 p2 p3 p4 p5 => ?_⟩
      conv => whnf
      refine ⟨ot, many, rfl, ndo, by omega, by omega, by omega, by omega, fun fb n5 q1 q2 q3 q4 q5 => ?_⟩
      have la : (dG (fa.map (cutG ns))).length = fa.length := by unfold dG; rw [List.length_map, List.length_map]
      have lb : (dG (fb.map (cutG ot))).length = fb.length := by unfold dG; rw [List.length_map, List.length_map]
      have eab : dG (fa.map (cutG ns)) ++ dG (fb.map (cutG ot)) = (fa.map (cutG ns) ++ fb.map (cutG ot)).map dI := (List.map_append ..).symm
      conv => whnf
      refine ⟨by rw [la, lb]; omega, ?_⟩
      conv => whnf
      refine ⟨_, _, rfl, .inl rfl, by rw [eab]; exact nbs_map fun _ => trivial, by rw [List.length_append, la, lb]; omega, by rw [List.length_append, la, lb]; omega, fun ds' n6 pm m1 m2 => ?_⟩
      rw [List.length_append, la, lb] at m1
      rw [eab] at pm
      obtain ⟨gl, rfl, pg⟩ := perm_map pm _ rfl
      have lgl : gl.length = fa.length + fb.length := by rw [pg.length_eq, List.length_append, List.length_map, List.length_map]
      conv => whnf
      rw [at0]
      conv => whnf
      refine ⟨(by show 1 ≤ 1000000; omega), ⟨trivial, trivial⟩, ?_⟩
      conv => whnf
      refine ⟨(by show 1 ≤ 1000000; omega), ⟨trivial, trivial⟩, ?_⟩
      conv => whnf
      refine ⟨by rw [List.length_map]; show gl.length + 1 ≤ 1000000; omega, ?_⟩
      have cases3 : ∀ g ∈ gl ++ [[ns.getD 0 0]], g ∈ fa.map (cutG ns) ∨ g ∈ fb.map (cutG ot) ∨ g = [ns.getD 0 0] := fun g hg => by
        rcases List.mem_append.mp hg with hg | hg
        · rcases List.mem_append.mp (pg.mem_iff.mp hg) with h | h
          · exact .inl h
          · exact .inr (.inl h)
        · exact .inr (.inr (List.mem_singleton.mp hg))
      refine hN _ _ ⟨gl ++ [[ns.getD 0 0]], by rw [List.length_append]; show 1 ≤ gl.length + 1; omega, fun g hg => ?_, fun gs' hs => two_col nd ndo p2 q2 (x := ns.getD 0 0) fun g hg => cases3 g (hs g hg), by omega, by omega, ?_⟩
      · rcases cases3 g hg with h | h | h
        · obtain ⟨p, hp, rfl⟩ := List.mem_map.mp h
          exact cut_ok nd l36 rng (p1 p hp).1 (p1 p hp).2
        · obtain ⟨p, hp, rfl⟩ := List.mem_map.mp h
          exact cut_ok ndo (by omega) rngo (q1 p hp).1 (q1 p hp).2
        · subst h
          exact ⟨by simp, by simp, fun x hx => by rw [List.mem_singleton.mp hx]; exact rng _ (getD_in (by omega)), by simp⟩
      · have e : dG (gl ++ [[ns.getD 0 0]]) = gl.map dI ++ [dI [ns.getD 0 0]] := List.map_append ..
        rw [e]
        rfl
    rintro ρ n4 ⟨gl, g1, gok, gcol, f7, f8, rfl⟩
    with_reducible refine seq_mid (fun ρ n5 => ∃ gs : List (List Int), GsOk gs ∧ ColG gs ∧ n5 = n4 ∧ ρ = [some (Sl.val .box), some (Sl.val (.bl b)), some (Sl.val (.lst (ns.map D.int))), some (Sl.val (.lst (ot.map D.int))), some (Sl.val (.int (many : Int))), some (Sl.val (.lst (dG gs))), none, none, none, none, none, none]) (fun N hN => ?_) ?_
    · conv => whnf
      have e : DL.cutD (dG gl) none (some 20) = dG (gl.take 20) := by
        have e1 : DL.cutD (dG gl) none (some 20) = (dG gl).take 20 := cut_to (k := 20) rfl
        rw [e1]
        exact (List.map_take ..).symm
      refine hN _ _ ⟨gl.take 20, ⟨by rw [List.length_take]; omega, by rw [List.length_take]; omega, fun g hg => gok g (List.mem_of_mem_take hg)⟩, gcol _ fun g hg => List.mem_of_mem_take hg, rfl, ?_⟩
      rw [← e]
      rfl
    rintro ρ n5 ⟨gs, ok, col, rfl, rfl⟩
    conv => whnf
    refine ⟨gs, b, rfl, ok, fun _ a c so => ?_, fun nc => absurd col.col nc⟩
    conv => whnf
    refine ⟨rfl, ?_⟩
    conv => whnf
    refine ⟨gs, a, c, rfl, ok, so, ?_⟩
    conv => whnf
    refine ⟨⟨by omega, by omega⟩, ?_⟩
    conv => whnf
    have L36 : (rangeD 0 36).length = 36 := rfl
    refine ⟨_, _, rfl, .inl rfl, nbs_map fun _ => trivial, (by show 36 ≤ 1000; omega), (by show 36 ≤ n5; omega), fun ds' n6 pm m1 m2 => ?_⟩
    rw [L36] at m1
    have hns : ∃ sg : List Int, ds' = sg.map D.int ∧ Names sg := by
      have n36 : rangeD 0 36 = ((List.range 36).map fun k : Nat => (k : Int)).map D.int := by rw [show (36 : Int) = ((36 : Nat) : Int) from rfl, rangeD_nat, List.map_map]; rfl
      rw [n36] at pm
      obtain ⟨sg, e, p⟩ := perm_map pm _ rfl
      refine ⟨sg, e, p.nodup_iff.mpr (nd_cast.mpr List.nodup_range), by rw [p.length_eq, List.length_map, List.length_range], fun x hx => ?_⟩
      obtain ⟨k, hk, rfl⟩ := List.mem_map.mp (p.mem_iff.mp hx)
      have := List.mem_range.mp hk
      omega
    obtain ⟨sg, rfl, nm⟩ := hns
    conv => whnf
    have erev : (dG gs).reverse = gs.reverse.map dI := (List.map_reverse ..).symm
    rw [erev]
    refine lcD_each dI (fun g => dI (turnG sg g)) (fun g hg k hk => ?_) (fun _ => trivial) (by rw [List.length_reverse]; have := ok.most; omega) ?_
    · have gk := ok.each g (List.mem_reverse.mp hg)
      have gl36 := gk.len
      simp only [wRet, wAnd_s, wOr_s, bsel_bl, wIfF, keyD, DL.wNot, wUn, wOp, wC, wCF, wVar, wVarB, wK, wChain_s, wB, wAndT, wOrT, wNotT, wIf, wNil, wCons, wTup, wLst, wV, wO, wNext, wSeq, wNever, wBreak, wCont, wRetN, wDrop, wIfS, wAsg, wPar, wFree, freeD, wApp0, wApp, wCall, gN, gT, setD, wIt1, wIt2, wFor, wLc, wYes, wOf, wOfK, wOK, wDc, wRg1, wRg2, wONo, wOSo, wSlL, wSl, wRevL, wRevT, wDput, popK, wPopAsg, wPopTup, wAppPop, wExt, wCallN, pick, wStar, wUnpA, wIndex, wRep, wTupF, wStepT, wBoxIx_0, wBoxIx_1, wBoxIx_2, wBoxIx_3, wBoxTo, wBoxInc, wBoxOf, wNo, wSortedSet, wNewK, dI0, dI2, dAdd, dMul, dAbs, dInt, dIsi, dIsiT, dEq, dNe, dIn, dIsN, dNotN, dIsB, dMin2, dMax2, dDget, dDin, startD, wipeD, List.map_cons, List.map_nil, List.length_cons, List.length_nil, List.replicate_succ, List.replicate_zero, List.cons_append, List.nil_append, List.getElem?_cons_zero, List.getElem?_cons_succ, List.set_cons_zero, List.set_cons_succ, Nat.reduceAdd, Nat.reduceSub, if_true, Bool.false_eq_true, if_false, reduceIte, Option.isSome_some, Option.isSome_none, true_and, and_true, List.map_nil, dLen_lst, dLen_tup, dLen_scr, dLen_dic, optD_some, dIx_lst, dIx_tup, itD_lst, itD_tup, wIt_s, dList_lst, dList_tup, dTup_lst, dTup_tup, dI]
      refine lcD_each D.int (fun x => D.int (sg.getD x.toNat 0)) (fun x hx k2 hk2 => ?_) (fun _ => trivial) (by omega) ?_
      · have hr := gk.rng x hx
        have a1 : atI (sg.map D.int) x = some (.int (sg.getD x.toNat 0)) := atI_map (atI_ok (j := x.toNat) (by omega) (at_D (by rw [nm.len]; omega)))
        simp only [wRet, wAnd_s, wOr_s, bsel_bl, wIfF, keyD, DL.wNot, wUn, wOp, wC, wCF, wVar, wVarB, wK, wChain_s, wB, wAndT, wOrT, wNotT, wIf, wNil, wCons, wTup, wLst, wV, wO, wNext, wSeq, wNever, wBreak, wCont, wRetN, wDrop, wIfS, wAsg, wPar, wFree, freeD, wApp0, wApp, wCall, gN, gT, setD, wIt1, wIt2, wFor, wLc, wYes, wOf, wOfK, wOK, wDc, wRg1, wRg2, wONo, wOSo, wSlL, wSl, wRevL, wRevT, wDput, popK, wPopAsg, wPopTup, wAppPop, wExt, wCallN, pick, wStar, wUnpA, wIndex, wRep, wTupF, wStepT, wBoxIx_0, wBoxIx_1, wBoxIx_2, wBoxIx_3, wBoxTo, wBoxInc, wBoxOf, wNo, wSortedSet, wNewK, dI0, dI2, dAdd, dMul, dAbs, dInt, dIsi, dIsiT, dEq, dNe, dIn, dIsN, dNotN, dIsB, dMin2, dMax2, dDget, dDin, startD, wipeD, List.map_cons, List.map_nil, List.length_cons, List.length_nil, List.replicate_succ, List.replicate_zero, List.cons_append, List.nil_append, List.getElem?_cons_zero, List.getElem?_cons_succ, List.set_cons_zero, List.set_cons_succ, Nat.reduceAdd, Nat.reduceSub, if_true, Bool.false_eq_true, if_false, reduceIte, Option.isSome_some, Option.isSome_none, true_and, and_true, List.map_nil, dLen_lst, dLen_tup, dLen_scr, dLen_dic, optD_some, dIx_lst, dIx_tup, itD_lst, itD_tup, wIt_s, dList_lst, dList_tup, dTup_lst, dTup_tup, a1]
        exact hk2
      · refine ⟨_, g.map fun x => sg.getD x.toNat 0, rfl, .inl (.inl (by rw [List.map_map]; rfl)), fun s1 p1 q1 => ?_⟩
        have e1 := is_srt p1 q1 (turn_nd nm gk)
        subst e1
        simp only [wRet, wAnd_s, wOr_s, bsel_bl, wIfF, keyD, DL.wNot, wUn, wOp, wC, wCF, wVar, wVarB, wK, wChain_s, wB, wAndT, wOrT, wNotT, wIf, wNil, wCons, wTup, wLst, wV, wO, wNext, wSeq, wNever, wBreak, wCont, wRetN, wDrop, wIfS, wAsg, wPar, wFree, freeD, wApp0, wApp, wCall, gN, gT, setD, wIt1, wIt2, wFor, wLc, wYes, wOf, wOfK, wOK, wDc, wRg1, wRg2, wONo, wOSo, wSlL, wSl, wRevL, wRevT, wDput, popK, wPopAsg, wPopTup, wAppPop, wExt, wCallN, pick, wStar, wUnpA, wIndex, wRep, wTupF, wStepT, wBoxIx_0, wBoxIx_1, wBoxIx_2, wBoxIx_3, wBoxTo, wBoxInc, wBoxOf, wNo, wSortedSet, wNewK, dI0, dI2, dAdd, dMul, dAbs, dInt, dIsi, dIsiT, dEq, dNe, dIn, dIsN, dNotN, dIsB, dMin2, dMax2, dDget, dDin, startD, wipeD, List.map_cons, List.map_nil, List.length_cons, List.length_nil, List.replicate_succ, List.replicate_zero, List.cons_append, List.nil_append, List.getElem?_cons_zero, List.getElem?_cons_succ, List.set_cons_zero, List.set_cons_succ, Nat.reduceAdd, Nat.reduceSub, if_true, Bool.false_eq_true, if_false, reduceIte, Option.isSome_some, Option.isSome_none, true_and, and_true, List.map_nil, dLen_lst, dLen_tup, dLen_scr, dLen_dic, optD_some, dIx_lst, dIx_tup, itD_lst, itD_tup, wIt_s, dList_lst, dList_tup, dTup_lst, dTup_tup]
        exact hk
    have eT : (gs.reverse.map fun g => dI (turnG sg g)) = dG (gs.reverse.map (turnG sg)) := by unfold dG; rw [List.map_map]; rfl
    rw [eT]
    conv => whnf
    refine ⟨gs.reverse.map (turnG sg), !b, rfl, turn_gs nm ok, fun _ a2 c2 so2 => ?_, fun nc => absurd (turn_col nm ok col) nc⟩
    conv => whnf
    refine ⟨rfl, ?_⟩
    conv => whnf
    refine ⟨_, a2, c2, rfl, turn_gs nm ok, so2, ?_⟩
    conv => whnf
    exact h n6 (by omega) (by omega)
end
end Mine
namespace Mine
open PySem PySem.Spec L2 PyProof.Rows DL
section
variable {P : Program} {w : World} {K : PySem.W.Frag} {base : Heap} {mg : Str → Option Value}
def F_law : FD := fun xs n P => ∃ ns : List Int, xs = [.scr ns] ∧ ns.length ≤ 63 ∧ 100000 ≤ n ∧ n ≤ lineB ∧ ∀ n', P (.bl true) n'
theorem ok_law (T : Top K mg) : FnOk P w K mg base CX0 8 T.f_law.a T.f_law.fd ["script"] (spD K F_law) := by
  refine dfun T.f_law.F sc_law ?_ (fun cdv A outer s H E b hr => (dss_cons (ds_for PassesOwn.never rfl (fun b => (di_range1 T.n_range (da_cons (de_callB (call_max2 rfl) sd_max2 (by rfl) T.n_max (by decide +kernel) (dab_cons (DE.toB de_int) (dab_cons (DE.toB (de_callB (call_min2 rfl) sd_min2 (by rfl) T.n_min (by decide +kernel) (dab_cons (DE.toB de_int) (dab_cons (DE.toB (de_callB cr_lenAll sd_len (by rfl) T.n_len (by decide +kernel) (dab_cons (DE.toB (dv 0)) dab_nil))) dab_nil)))) dab_nil))) da_nil))) (fun b => (dg_name 1 sc_law.nd)) (fun b => (dss_cons (ds_asg (i := 2) sc_law.nd (DE.toX (de_call (ok__law_box T) (hr.mono (by decide)) T.f__law_box.m T.f__law_box.F.kp T.f__law_box.b pass0 (da_cons (de_call (ok__law_cell T) (hr.mono (by decide)) T.f__law_cell.m T.f__law_cell.F.kp T.f__law_cell.b pass0 (da_cons (dv 0) (da_cons (dv 1) da_nil))) da_nil)))) (dss_cons (ds_asg (i := 3) sc_law.nd (DE.toX (de_cmp (op_eqD hr.units) sd_eq (DE.toB (de_call (ok__law_take T) (hr.mono (by decide)) T.f__law_take.m T.f__law_take.F.kp T.f__law_take.b pass0 (da_cons (dv 2) (da_cons de_int da_nil)))) (DE.toB de_int) (nomark _)))) (dss_cons (ds_unpA [4, 5] rfl (de_call (ok__law_planted T) (hr.mono (by decide)) T.f__law_planted.m T.f__law_planted.F.kp T.f__law_planted.b pass0 (da_cons (dv 2) (da_cons de_bl da_nil))) (pgs_cons (pg_name (i := 4) sc_law.nd rfl (by first | exact .inl rfl | exact .inr rfl)) (pgs_cons (pg_name (i := 5) sc_law.nd rfl (by first | exact .inl rfl | exact .inr rfl)) pgs_nil))) (dss_cons (ds_if (dt_not (dt_val (de_call (ok__law_ring_right T) (hr.mono (by decide)) T.f__law_ring_right.m T.f__law_ring_right.F.kp T.f__law_ring_right.b pass0 (da_cons (dv 2) (da_cons (dv 4) (da_cons (dv 5) (da_cons (dv 3) da_nil))))))) (dss_one (ds_ret de_bl)) dss_nil) (dss_cons (ds_setLcV (i := 6) [("group", 9)] rfl sc_law.nd (di_seq (dv 4)) (by rfl) (fun _ _ _ _ _ => (dg_name 9 sc_law.nd)) (fun _ _ _ _ _ => (dts_one (dt_cmp (op_neD hr.units) sd_ne (DE.toB (dv 9)) (DE.toB (de_ix ix_seq sd_ix (DE.toB (dv 4)) (DE.toB (de_ix ix_seq sd_ix (DE.toB (dv 5)) (DE.toB de_int) (fun _ _ => rfl))) (fun _ _ => rfl))) (nomark _)))) (fun _ _ _ _ _ => (dv 9))) (dss_cons (ds_unpA [7, 8] rfl (de_call (ok__law_asked T) (hr.mono (by decide)) T.f__law_asked.m T.f__law_asked.F.kp T.f__law_asked.b pass0 (da_cons (dv 6) (da_cons (de_not (dv 3)) da_nil))) (pgs_cons (pg_name (i := 7) sc_law.nd rfl (by first | exact .inl rfl | exact .inr rfl)) (pgs_cons (pg_name (i := 8) sc_law.nd rfl (by first | exact .inl rfl | exact .inr rfl)) pgs_nil))) (dss_cons (ds_if (dt_pw (dw_or (dt_not (dt_val (de_call (ok__law_sides_right T) (hr.mono (by decide)) T.f__law_sides_right.m T.f__law_sides_right.F.kp T.f__law_sides_right.b pass0 (da_cons (dv 7) (da_cons (dv 6) da_nil))))) (dw_or1 (dt_cmp op_notN sd_notN (DE.toB (dv 8)) (DE.toB de_non) (nomark _))))) (dss_one (ds_ret de_bl)) dss_nil) (dss_cons (ds_unpA [4, 5] rfl (de_call (ok__law_planted T) (hr.mono (by decide)) T.f__law_planted.m T.f__law_planted.F.kp T.f__law_planted.b pass0 (da_cons (dv 2) (da_cons de_bl da_nil))) (pgs_cons (pg_name (i := 4) sc_law.nd rfl (by first | exact .inl rfl | exact .inr rfl)) (pgs_cons (pg_name (i := 5) sc_law.nd rfl (by first | exact .inl rfl | exact .inr rfl)) pgs_nil))) (dss_cons (ds_unpA [7, 8] rfl (de_call (ok__law_asked T) (hr.mono (by decide)) T.f__law_asked.m T.f__law_asked.F.kp T.f__law_asked.b pass0 (da_cons (dv 4) (da_cons (dv 3) da_nil))) (pgs_cons (pg_name (i := 7) sc_law.nd rfl (by first | exact .inl rfl | exact .inr rfl)) (pgs_cons (pg_name (i := 8) sc_law.nd rfl (by first | exact .inl rfl | exact .inr rfl)) pgs_nil))) (dss_cons (ds_if (dt_pw (dw_or (dt_not (dt_val (de_call (ok__law_sides_right T) (hr.mono (by decide)) T.f__law_sides_right.m T.f__law_sides_right.F.kp T.f__law_sides_right.b pass0 (da_cons (dv 7) (da_cons (dv 4) da_nil))))) (dw_or (dt_cmp op_notN sd_notN (DE.toB (dv 8)) (DE.toB de_non) (nomark _)) (dw_or1 (dt_not (dt_val (de_call (ok__law_is T) (hr.mono (by decide)) T.f__law_is.m T.f__law_is.F.kp T.f__law_is.b pass0 (da_cons (de_call (ok_is_odd_ring T) (hr.mono (by decide)) T.f_is_odd_ring.m T.f_is_odd_ring.F.kp T.f_is_odd_ring.b pass0 (da_cons (dv 4) (da_cons (dv 5) da_nil))) (da_cons de_bl da_nil))))))))) (dss_one (ds_ret de_bl)) dss_nil) (dss_one (ds_if (dt_not (dt_val (de_call (ok__law_hierarchies_right T) (hr.mono (by decide)) T.f__law_hierarchies_right.m T.f__law_hierarchies_right.F.kp T.f__law_hierarchies_right.b pass0 (da_cons (dv 2) (da_cons (de_not (dv 3)) da_nil))))) (dss_one (ds_ret de_bl)) dss_nil)))))))))))))) (dss_one (ds_ret de_bl)))) ?_
  · rintro ds n Q ⟨ns, rfl, _⟩
    rfl
  · rintro ds n Q ⟨ns, rfl, hl, hf, hb, h⟩
    have hM : ∃ M : Nat, M ≤ 4 ∧ (if (if (ns.length : Int) < 4 then (ns.length : Int) else 4) > 3 then (if (ns.length : Int) < 4 then (ns.length : Int) else 4) else 3) = (M : Int) := ⟨if ns.length < 4 then 3 else 4, by split <;> omega, by split <;> split <;> split <;> omega⟩
    obtain ⟨M, M4, eM⟩ := hM
    conv => whnf
    rw [eM]
    refine ⟨⟨by omega, by omega⟩, ?_⟩
    rw [rangeD_nat]
    refine loopD_ind (fun r ρ n' => ∃ k a1 a2 a3 a4 a5 a6 a7 a8 a9, r = ((List.range M).drop k).map (fun k : Nat => D.int ((k : Nat) : Int)) ∧ ρ = [some (Sl.val (.scr ns)), a1, a2, a3, a4, a5, a6, a7, a8, a9] ∧ n ≤ n' + 3000 * k ∧ n' ≤ n) ?_ ?_ _ _ _
      ⟨0, none, none, none, none, none, none, none, none, none, rfl, rfl, by omega, Nat.le_refl _⟩
    · rintro ρ n' ⟨k, a1, a2, a3, a4, a5, a6, a7, a8, a9, hr, rfl, k1, k2⟩
      exact h n'
    · rintro x r ρ n' N ⟨k, a1, a2, a3, a4, a5, a6, a7, a8, a9, hr, rfl, k1, k2⟩ hN
      have hkl : k < M := by
        have := congrArg List.length hr
        simp at this
        omega
      rw [List.drop_eq_getElem_cons (by simpa using hkl), List.map_cons, List.getElem_range] at hr
      injection hr with hx hr
      subst hx
      conv => whnf
      refine ⟨ns, k, rfl, hl, by omega, fun z => ?_⟩
      conv => whnf
      refine ⟨z, rfl, by omega, ?_⟩
      conv => whnf
      refine ⟨_, rfl, by omega, by omega, by omega, fun y _ _ n1 m1 m2 => ?_⟩
      conv => whnf
      refine ⟨⟨okd_int, okd_int⟩, ?_⟩
      generalize eqd (.int y) (.int 0) = b
      conv => whnf
      refine ⟨true, rfl, by omega, fun gs rg n2 ok r3 r20 _ ho m3 m4 => ?_⟩
      obtain ⟨ro, rc, rn⟩ := (show RingOk gs.length (Ed gs) rg ∧ ColG (gs.filter fun g => decide (g ≠ gs.getD (rg.getD 0 0) [])) ∧ gs.filter (fun g => decide (g ≠ gs.getD (rg.getD 0 0) [])) ≠ [] by rw [if_pos rfl] at ho; exact ho)
      conv => whnf
      refine ⟨rfl, ?_⟩
      conv => whnf
      refine ⟨gs, rg, b, rfl, ok, ro.not, r3, r20, by omega, fun n3 m5 m6 => ?_⟩
      have rg0 : rg[0]? = some (rg.getD 0 0) := by rw [List.getD_eq_getElem?_getD, List.getElem?_eq_getElem (by omega)]; rfl
      have rlt : rg.getD 0 0 < gs.length := ro.lt _ (List.mem_of_getElem? rg0)
      have rest_ok : GsOk (gs.filter fun g => decide (g ≠ gs.getD (rg.getD 0 0) [])) := ⟨List.length_pos_iff.mpr rn, Nat.le_trans (List.length_filter_le _ _) ok.most, fun g hg => ok.each g (List.mem_filter.mp hg).1⟩
      conv => whnf
      refine lcD_if dI (fun g => decide (g ≠ gs.getD (rg.getD 0 0) [])) dI (fun g hg A B hk k ea eb => ?_) (fun _ => trivial) (by have := ok.most; omega) ?_
      · subst ea eb
        simp only [wRet, wAnd_s, wOr_s, bsel_bl, wIfF, keyD, DL.wNot, wUn, wOp, wC, wCF, wVar, wVarB, wK, wChain_s, wB, wAndT, wOrT, wNotT, wIf, wNil, wCons, wTup, wLst, wV, wO, wNext, wSeq, wNever, wBreak, wCont, wRetN, wDrop, wIfS, wAsg, wPar, wFree, freeD, wApp0, wApp, wCall, gN, gT, setD, wIt1, wIt2, wFor, wLc, wYes, wOf, wOfK, wOK, wDc, wRg1, wRg2, wONo, wOSo, wSlL, wSl, wRevL, wRevT, wDput, popK, wPopAsg, wPopTup, wAppPop, wExt, wCallN, pick, wStar, wUnpA, wIndex, wRep, wTupF, wStepT, wBoxIx_0, wBoxIx_1, wBoxIx_2, wBoxIx_3, wBoxTo, wBoxInc, wBoxOf, wNo, wSortedSet, wNewK, dI0, dI2, dAdd, dMul, dAbs, dInt, dIsi, dIsiT, dEq, dNe, dIn, dIsN, dNotN, dIsB, dMin2, dMax2, dDget, dDin, startD, wipeD, List.map_cons, List.map_nil, List.length_cons, List.length_nil, List.replicate_succ, List.replicate_zero, List.cons_append, List.nil_append, List.getElem?_cons_zero, List.getElem?_cons_succ, List.set_cons_zero, List.set_cons_succ, Nat.reduceAdd, Nat.reduceSub, if_true, Bool.false_eq_true, if_false, reduceIte, Option.isSome_some, Option.isSome_none, true_and, and_true, List.map_nil, dLen_lst, dLen_tup, dLen_scr, dLen_dic, optD_some, dIx_lst, dIx_tup, itD_lst, itD_tup, wIt_s, dList_lst, dList_tup, dTup_lst, dTup_tup, dN_at (l := rg) (i := 0) (k := 0) rfl rg0, dG_at rfl rlt, okd_dI, eqd_dI, true_and]
        have e : (!decide (g = gs.getD (rg.getD 0 0) [])) = decide (g ≠ gs.getD (rg.getD 0 0) []) := by simp
        rw [e]
        exact hk
      conv => whnf
      refine ⟨_, !b, rfl, rest_ok, fun _ a c so => ?_, fun nc => absurd rc.col nc⟩
      conv => whnf
      refine ⟨rfl, ?_⟩
      conv => whnf
      refine ⟨_, a, c, rfl, rest_ok, so, ?_⟩
      conv => whnf
      refine ⟨false, rfl, by omega, fun gs2 rg2 n4 ok2 r3' r20' re2 ho2 m7 m8 => ?_⟩
      have col2 : ColG gs2 := by rw [if_neg (by decide)] at ho2; exact ho2
      have re2 : rg2.length % 2 = 0 := by rw [if_neg (by decide)] at re2; exact re2
      conv => whnf
      refine ⟨rfl, ?_⟩
      conv => whnf
      refine ⟨gs2, b, rfl, ok2, fun _ a2 c2 so2 => ?_, fun nc => absurd col2.col nc⟩
      conv => whnf
      refine ⟨rfl, ?_⟩
      conv => whnf
      refine ⟨gs2, a2, c2, rfl, ok2, so2, ?_⟩
      conv => whnf
      refine ⟨_, gs2, _, rfl, .inl rfl, ok2, val_dN (l := rg2) (by omega), ?_⟩
      have ev : ringV gs2 (.tup (dN rg2)) = false := by rw [ringV_tup, dN_len, if_neg (by simp; omega)]
      rw [ev]
      conv => whnf
      refine ⟨false, false, rfl, ?_⟩
      conv => whnf
      refine ⟨!b, rfl, by omega, fun n5 m9 m10 => ?_⟩
      conv => whnf
      exact hN _ _ ⟨k + 1, _, _, _, _, _, _, _, _, _, hr, rfl, by omega, by omega⟩
def spLaw (K : PySem.W.Frag) : Sp := fun vs H Q _ => ∃ (a : Addr) (ns : List Int), vs = [.ref a] ∧ SqL K H a (ns.map V.int) ∧ ns.length ≤ 63 ∧ ∀ H', Q (.bl true) H'
theorem law_sp (vs : List V) (H : Hp) (Q : VK) (E : XK) (h : spLaw K vs H Q E) : spD K F_law vs H Q E := by
  obtain ⟨a, ns, rfl, hS, hl, hq⟩ := h
  refine ⟨H, 1000000, [.scr ns], fun d _ => d = .bl true, Same.refl _, .cons (show Den K H (.ref a) (.scr ns) from .scr hS) .nil, ⟨ns, rfl, hl, by omega, by show 1000000 ≤ 68719476736; omega, fun _ => rfl⟩, fun d n' U' H' v e g dx => ?_⟩
  subst e
  cases dx
  exact hq H'
end
end Mine
namespace Mine
open PySem PySem.Spec L2 PyProof.Rows DL
section
variable {l : PySem.W.OpenLaw} {w : World} {K : PySem.W.Frag} {h : Heap} {mg : Str → Option Value}
def all_top (X : K.In h) (G : h.Ns mainGlobals mg)
    {a__law_box : Addr} {od__law_box an__law_box : Option Addr} {sl__law_box : Array (Option Value)} {oc__law_box kV__law_box dc__law_box pm__law_box cd__law_box ct__law_box : Value}
    (p__law_box : PySem.W.nsIn K mainGlobals "_law_box" = some (some (.ref a__law_box))) (l__law_box : K.lookup a__law_box = some ⟨oc__law_box, od__law_box, .func (PySem.W.fnOf "_law_box" "_law_box" (defArgs s__law_box) (defBody s__law_box) (defScope s__law_box) .none kV__law_box dc__law_box pm__law_box an__law_box cd__law_box ct__law_box), sl__law_box⟩) (c__law_box : PySem.W.codeIn K cd__law_box "_law_box" = true) (k__law_box : PySem.W.keepIn K (.ref a__law_box) = true)
    {a__law_take : Addr} {od__law_take an__law_take : Option Addr} {sl__law_take : Array (Option Value)} {oc__law_take kV__law_take dc__law_take pm__law_take cd__law_take ct__law_take : Value}
    (p__law_take : PySem.W.nsIn K mainGlobals "_law_take" = some (some (.ref a__law_take))) (l__law_take : K.lookup a__law_take = some ⟨oc__law_take, od__law_take, .func (PySem.W.fnOf "_law_take" "_law_take" (defArgs s__law_take) (defBody s__law_take) (defScope s__law_take) .none kV__law_take dc__law_take pm__law_take an__law_take cd__law_take ct__law_take), sl__law_take⟩) (c__law_take : PySem.W.codeIn K cd__law_take "_law_take" = true) (k__law_take : PySem.W.keepIn K (.ref a__law_take) = true)
    {a__law_mixed : Addr} {od__law_mixed an__law_mixed : Option Addr} {sl__law_mixed : Array (Option Value)} {oc__law_mixed kV__law_mixed dc__law_mixed pm__law_mixed cd__law_mixed ct__law_mixed : Value}
    (p__law_mixed : PySem.W.nsIn K mainGlobals "_law_mixed" = some (some (.ref a__law_mixed))) (l__law_mixed : K.lookup a__law_mixed = some ⟨oc__law_mixed, od__law_mixed, .func (PySem.W.fnOf "_law_mixed" "_law_mixed" (defArgs s__law_mixed) (defBody s__law_mixed) (defScope s__law_mixed) .none kV__law_mixed dc__law_mixed pm__law_mixed an__law_mixed cd__law_mixed ct__law_mixed), sl__law_mixed⟩) (c__law_mixed : PySem.W.codeIn K cd__law_mixed "_law_mixed" = true) (k__law_mixed : PySem.W.keepIn K (.ref a__law_mixed) = true)
    {a__law_planted : Addr} {od__law_planted an__law_planted : Option Addr} {sl__law_planted : Array (Option Value)} {oc__law_planted kV__law_planted dc__law_planted pm__law_planted cd__law_planted ct__law_planted : Value}
    (p__law_planted : PySem.W.nsIn K mainGlobals "_law_planted" = some (some (.ref a__law_planted))) (l__law_planted : K.lookup a__law_planted = some ⟨oc__law_planted, od__law_planted, .func (PySem.W.fnOf "_law_planted" "_law_planted" (defArgs s__law_planted) (defBody s__law_planted) (defScope s__law_planted) .none kV__law_planted dc__law_planted pm__law_planted an__law_planted cd__law_planted ct__law_planted), sl__law_planted⟩) (c__law_planted : PySem.W.codeIn K cd__law_planted "_law_planted" = true) (k__law_planted : PySem.W.keepIn K (.ref a__law_planted) = true)
    {a_is_whole : Addr} {od_is_whole an_is_whole : Option Addr} {sl_is_whole : Array (Option Value)} {oc_is_whole kV_is_whole dc_is_whole pm_is_whole cd_is_whole ct_is_whole : Value}
    (p_is_whole : PySem.W.nsIn K mainGlobals "is_whole" = some (some (.ref a_is_whole))) (l_is_whole : K.lookup a_is_whole = some ⟨oc_is_whole, od_is_whole, .func (PySem.W.fnOf "is_whole" "is_whole" (defArgs s_is_whole) (defBody s_is_whole) (defScope s_is_whole) .none kV_is_whole dc_is_whole pm_is_whole an_is_whole cd_is_whole ct_is_whole), sl_is_whole⟩) (c_is_whole : PySem.W.codeIn K cd_is_whole "is_whole" = true) (k_is_whole : PySem.W.keepIn K (.ref a_is_whole) = true)
    {a_is_group : Addr} {od_is_group an_is_group : Option Addr} {sl_is_group : Array (Option Value)} {oc_is_group kV_is_group dc_is_group pm_is_group cd_is_group ct_is_group : Value}
    (p_is_group : PySem.W.nsIn K mainGlobals "is_group" = some (some (.ref a_is_group))) (l_is_group : K.lookup a_is_group = some ⟨oc_is_group, od_is_group, .func (PySem.W.fnOf "is_group" "is_group" (defArgs s_is_group) (defBody s_is_group) (defScope s_is_group) .none kV_is_group dc_is_group pm_is_group an_is_group cd_is_group ct_is_group), sl_is_group⟩) (c_is_group : PySem.W.codeIn K cd_is_group "is_group" = true) (k_is_group : PySem.W.keepIn K (.ref a_is_group) = true)
    {a_check_groups : Addr} {od_check_groups an_check_groups : Option Addr} {sl_check_groups : Array (Option Value)} {oc_check_groups kV_check_groups dc_check_groups pm_check_groups cd_check_groups ct_check_groups : Value}
    (p_check_groups : PySem.W.nsIn K mainGlobals "check_groups" = some (some (.ref a_check_groups))) (l_check_groups : K.lookup a_check_groups = some ⟨oc_check_groups, od_check_groups, .func (PySem.W.fnOf "check_groups" "check_groups" (defArgs s_check_groups) (defBody s_check_groups) (defScope s_check_groups) .none kV_check_groups dc_check_groups pm_check_groups an_check_groups cd_check_groups ct_check_groups), sl_check_groups⟩) (c_check_groups : PySem.W.codeIn K cd_check_groups "check_groups" = true) (k_check_groups : PySem.W.keepIn K (.ref a_check_groups) = true)
    {a_are_apart_or_within : Addr} {od_are_apart_or_within an_are_apart_or_within : Option Addr} {sl_are_apart_or_within : Array (Option Value)} {oc_are_apart_or_within kV_are_apart_or_within dc_are_apart_or_within pm_are_apart_or_within cd_are_apart_or_within ct_are_apart_or_within : Value}
    (p_are_apart_or_within : PySem.W.nsIn K mainGlobals "are_apart_or_within" = some (some (.ref a_are_apart_or_within))) (l_are_apart_or_within : K.lookup a_are_apart_or_within = some ⟨oc_are_apart_or_within, od_are_apart_or_within, .func (PySem.W.fnOf "are_apart_or_within" "are_apart_or_within" (defArgs s_are_apart_or_within) (defBody s_are_apart_or_within) (defScope s_are_apart_or_within) .none kV_are_apart_or_within dc_are_apart_or_within pm_are_apart_or_within an_are_apart_or_within cd_are_apart_or_within ct_are_apart_or_within), sl_are_apart_or_within⟩) (c_are_apart_or_within : PySem.W.codeIn K cd_are_apart_or_within "are_apart_or_within" = true) (k_are_apart_or_within : PySem.W.keepIn K (.ref a_are_apart_or_within) = true)
    {a_crossing : Addr} {od_crossing an_crossing : Option Addr} {sl_crossing : Array (Option Value)} {oc_crossing kV_crossing dc_crossing pm_crossing cd_crossing ct_crossing : Value}
    (p_crossing : PySem.W.nsIn K mainGlobals "crossing" = some (some (.ref a_crossing))) (l_crossing : K.lookup a_crossing = some ⟨oc_crossing, od_crossing, .func (PySem.W.fnOf "crossing" "crossing" (defArgs s_crossing) (defBody s_crossing) (defScope s_crossing) .none kV_crossing dc_crossing pm_crossing an_crossing cd_crossing ct_crossing), sl_crossing⟩) (c_crossing : PySem.W.codeIn K cd_crossing "crossing" = true) (k_crossing : PySem.W.keepIn K (.ref a_crossing) = true)
    {a_levels_of : Addr} {od_levels_of an_levels_of : Option Addr} {sl_levels_of : Array (Option Value)} {oc_levels_of kV_levels_of dc_levels_of pm_levels_of cd_levels_of ct_levels_of : Value}
    (p_levels_of : PySem.W.nsIn K mainGlobals "levels_of" = some (some (.ref a_levels_of))) (l_levels_of : K.lookup a_levels_of = some ⟨oc_levels_of, od_levels_of, .func (PySem.W.fnOf "levels_of" "levels_of" (defArgs s_levels_of) (defBody s_levels_of) (defScope s_levels_of) .none kV_levels_of dc_levels_of pm_levels_of an_levels_of cd_levels_of ct_levels_of), sl_levels_of⟩) (c_levels_of : PySem.W.codeIn K cd_levels_of "levels_of" = true) (k_levels_of : PySem.W.keepIn K (.ref a_levels_of) = true)
    {a_ring_of : Addr} {od_ring_of an_ring_of : Option Addr} {sl_ring_of : Array (Option Value)} {oc_ring_of kV_ring_of dc_ring_of pm_ring_of cd_ring_of ct_ring_of : Value}
    (p_ring_of : PySem.W.nsIn K mainGlobals "ring_of" = some (some (.ref a_ring_of))) (l_ring_of : K.lookup a_ring_of = some ⟨oc_ring_of, od_ring_of, .func (PySem.W.fnOf "ring_of" "ring_of" (defArgs s_ring_of) (defBody s_ring_of) (defScope s_ring_of) .none kV_ring_of dc_ring_of pm_ring_of an_ring_of cd_ring_of ct_ring_of), sl_ring_of⟩) (c_ring_of : PySem.W.codeIn K cd_ring_of "ring_of" = true) (k_ring_of : PySem.W.keepIn K (.ref a_ring_of) = true)
    {a_two_hierarchies : Addr} {od_two_hierarchies an_two_hierarchies : Option Addr} {sl_two_hierarchies : Array (Option Value)} {oc_two_hierarchies kV_two_hierarchies dc_two_hierarchies pm_two_hierarchies cd_two_hierarchies ct_two_hierarchies : Value}
    (p_two_hierarchies : PySem.W.nsIn K mainGlobals "two_hierarchies" = some (some (.ref a_two_hierarchies))) (l_two_hierarchies : K.lookup a_two_hierarchies = some ⟨oc_two_hierarchies, od_two_hierarchies, .func (PySem.W.fnOf "two_hierarchies" "two_hierarchies" (defArgs s_two_hierarchies) (defBody s_two_hierarchies) (defScope s_two_hierarchies) .none kV_two_hierarchies dc_two_hierarchies pm_two_hierarchies an_two_hierarchies cd_two_hierarchies ct_two_hierarchies), sl_two_hierarchies⟩) (c_two_hierarchies : PySem.W.codeIn K cd_two_hierarchies "two_hierarchies" = true) (k_two_hierarchies : PySem.W.keepIn K (.ref a_two_hierarchies) = true)
    {a_odd_ring : Addr} {od_odd_ring an_odd_ring : Option Addr} {sl_odd_ring : Array (Option Value)} {oc_odd_ring kV_odd_ring dc_odd_ring pm_odd_ring cd_odd_ring ct_odd_ring : Value}
    (p_odd_ring : PySem.W.nsIn K mainGlobals "odd_ring" = some (some (.ref a_odd_ring))) (l_odd_ring : K.lookup a_odd_ring = some ⟨oc_odd_ring, od_odd_ring, .func (PySem.W.fnOf "odd_ring" "odd_ring" (defArgs s_odd_ring) (defBody s_odd_ring) (defScope s_odd_ring) .none kV_odd_ring dc_odd_ring pm_odd_ring an_odd_ring cd_odd_ring ct_odd_ring), sl_odd_ring⟩) (c_odd_ring : PySem.W.codeIn K cd_odd_ring "odd_ring" = true) (k_odd_ring : PySem.W.keepIn K (.ref a_odd_ring) = true)
    {a__law_asked : Addr} {od__law_asked an__law_asked : Option Addr} {sl__law_asked : Array (Option Value)} {oc__law_asked kV__law_asked dc__law_asked pm__law_asked cd__law_asked ct__law_asked : Value}
    (p__law_asked : PySem.W.nsIn K mainGlobals "_law_asked" = some (some (.ref a__law_asked))) (l__law_asked : K.lookup a__law_asked = some ⟨oc__law_asked, od__law_asked, .func (PySem.W.fnOf "_law_asked" "_law_asked" (defArgs s__law_asked) (defBody s__law_asked) (defScope s__law_asked) .none kV__law_asked dc__law_asked pm__law_asked an__law_asked cd__law_asked ct__law_asked), sl__law_asked⟩) (c__law_asked : PySem.W.codeIn K cd__law_asked "_law_asked" = true) (k__law_asked : PySem.W.keepIn K (.ref a__law_asked) = true)
    {a__law_cell : Addr} {od__law_cell an__law_cell : Option Addr} {sl__law_cell : Array (Option Value)} {oc__law_cell kV__law_cell dc__law_cell pm__law_cell cd__law_cell ct__law_cell : Value}
    (p__law_cell : PySem.W.nsIn K mainGlobals "_law_cell" = some (some (.ref a__law_cell))) (l__law_cell : K.lookup a__law_cell = some ⟨oc__law_cell, od__law_cell, .func (PySem.W.fnOf "_law_cell" "_law_cell" (defArgs s__law_cell) (defBody s__law_cell) (defScope s__law_cell) .none kV__law_cell dc__law_cell pm__law_cell an__law_cell cd__law_cell ct__law_cell), sl__law_cell⟩) (c__law_cell : PySem.W.codeIn K cd__law_cell "_law_cell" = true) (k__law_cell : PySem.W.keepIn K (.ref a__law_cell) = true)
    {a__law_cross : Addr} {od__law_cross an__law_cross : Option Addr} {sl__law_cross : Array (Option Value)} {oc__law_cross kV__law_cross dc__law_cross pm__law_cross cd__law_cross ct__law_cross : Value}
    (p__law_cross : PySem.W.nsIn K mainGlobals "_law_cross" = some (some (.ref a__law_cross))) (l__law_cross : K.lookup a__law_cross = some ⟨oc__law_cross, od__law_cross, .func (PySem.W.fnOf "_law_cross" "_law_cross" (defArgs s__law_cross) (defBody s__law_cross) (defScope s__law_cross) .none kV__law_cross dc__law_cross pm__law_cross an__law_cross cd__law_cross ct__law_cross), sl__law_cross⟩) (c__law_cross : PySem.W.codeIn K cd__law_cross "_law_cross" = true) (k__law_cross : PySem.W.keepIn K (.ref a__law_cross) = true)
    {a__law_whole : Addr} {od__law_whole an__law_whole : Option Addr} {sl__law_whole : Array (Option Value)} {oc__law_whole kV__law_whole dc__law_whole pm__law_whole cd__law_whole ct__law_whole : Value}
    (p__law_whole : PySem.W.nsIn K mainGlobals "_law_whole" = some (some (.ref a__law_whole))) (l__law_whole : K.lookup a__law_whole = some ⟨oc__law_whole, od__law_whole, .func (PySem.W.fnOf "_law_whole" "_law_whole" (defArgs s__law_whole) (defBody s__law_whole) (defScope s__law_whole) .none kV__law_whole dc__law_whole pm__law_whole an__law_whole cd__law_whole ct__law_whole), sl__law_whole⟩) (c__law_whole : PySem.W.codeIn K cd__law_whole "_law_whole" = true) (k__law_whole : PySem.W.keepIn K (.ref a__law_whole) = true)
    {a__law_is_ring : Addr} {od__law_is_ring an__law_is_ring : Option Addr} {sl__law_is_ring : Array (Option Value)} {oc__law_is_ring kV__law_is_ring dc__law_is_ring pm__law_is_ring cd__law_is_ring ct__law_is_ring : Value}
    (p__law_is_ring : PySem.W.nsIn K mainGlobals "_law_is_ring" = some (some (.ref a__law_is_ring))) (l__law_is_ring : K.lookup a__law_is_ring = some ⟨oc__law_is_ring, od__law_is_ring, .func (PySem.W.fnOf "_law_is_ring" "_law_is_ring" (defArgs s__law_is_ring) (defBody s__law_is_ring) (defScope s__law_is_ring) .none kV__law_is_ring dc__law_is_ring pm__law_is_ring an__law_is_ring cd__law_is_ring ct__law_is_ring), sl__law_is_ring⟩) (c__law_is_ring : PySem.W.codeIn K cd__law_is_ring "_law_is_ring" = true) (k__law_is_ring : PySem.W.keepIn K (.ref a__law_is_ring) = true)
    {a__law_is : Addr} {od__law_is an__law_is : Option Addr} {sl__law_is : Array (Option Value)} {oc__law_is kV__law_is dc__law_is pm__law_is cd__law_is ct__law_is : Value}
    (p__law_is : PySem.W.nsIn K mainGlobals "_law_is" = some (some (.ref a__law_is))) (l__law_is : K.lookup a__law_is = some ⟨oc__law_is, od__law_is, .func (PySem.W.fnOf "_law_is" "_law_is" (defArgs s__law_is) (defBody s__law_is) (defScope s__law_is) .none kV__law_is dc__law_is pm__law_is an__law_is cd__law_is ct__law_is), sl__law_is⟩) (c__law_is : PySem.W.codeIn K cd__law_is "_law_is" = true) (k__law_is : PySem.W.keepIn K (.ref a__law_is) = true)
    {a_is_odd_ring : Addr} {od_is_odd_ring an_is_odd_ring : Option Addr} {sl_is_odd_ring : Array (Option Value)} {oc_is_odd_ring kV_is_odd_ring dc_is_odd_ring pm_is_odd_ring cd_is_odd_ring ct_is_odd_ring : Value}
    (p_is_odd_ring : PySem.W.nsIn K mainGlobals "is_odd_ring" = some (some (.ref a_is_odd_ring))) (l_is_odd_ring : K.lookup a_is_odd_ring = some ⟨oc_is_odd_ring, od_is_odd_ring, .func (PySem.W.fnOf "is_odd_ring" "is_odd_ring" (defArgs s_is_odd_ring) (defBody s_is_odd_ring) (defScope s_is_odd_ring) .none kV_is_odd_ring dc_is_odd_ring pm_is_odd_ring an_is_odd_ring cd_is_odd_ring ct_is_odd_ring), sl_is_odd_ring⟩) (c_is_odd_ring : PySem.W.codeIn K cd_is_odd_ring "is_odd_ring" = true) (k_is_odd_ring : PySem.W.keepIn K (.ref a_is_odd_ring) = true)
    {a__law_ring_right : Addr} {od__law_ring_right an__law_ring_right : Option Addr} {sl__law_ring_right : Array (Option Value)} {oc__law_ring_right kV__law_ring_right dc__law_ring_right pm__law_ring_right cd__law_ring_right ct__law_ring_right : Value}
    (p__law_ring_right : PySem.W.nsIn K mainGlobals "_law_ring_right" = some (some (.ref a__law_ring_right))) (l__law_ring_right : K.lookup a__law_ring_right = some ⟨oc__law_ring_right, od__law_ring_right, .func (PySem.W.fnOf "_law_ring_right" "_law_ring_right" (defArgs s__law_ring_right) (defBody s__law_ring_right) (defScope s__law_ring_right) .none kV__law_ring_right dc__law_ring_right pm__law_ring_right an__law_ring_right cd__law_ring_right ct__law_ring_right), sl__law_ring_right⟩) (c__law_ring_right : PySem.W.codeIn K cd__law_ring_right "_law_ring_right" = true) (k__law_ring_right : PySem.W.keepIn K (.ref a__law_ring_right) = true)
    {a__law_sides_right : Addr} {od__law_sides_right an__law_sides_right : Option Addr} {sl__law_sides_right : Array (Option Value)} {oc__law_sides_right kV__law_sides_right dc__law_sides_right pm__law_sides_right cd__law_sides_right ct__law_sides_right : Value}
    (p__law_sides_right : PySem.W.nsIn K mainGlobals "_law_sides_right" = some (some (.ref a__law_sides_right))) (l__law_sides_right : K.lookup a__law_sides_right = some ⟨oc__law_sides_right, od__law_sides_right, .func (PySem.W.fnOf "_law_sides_right" "_law_sides_right" (defArgs s__law_sides_right) (defBody s__law_sides_right) (defScope s__law_sides_right) .none kV__law_sides_right dc__law_sides_right pm__law_sides_right an__law_sides_right cd__law_sides_right ct__law_sides_right), sl__law_sides_right⟩) (c__law_sides_right : PySem.W.codeIn K cd__law_sides_right "_law_sides_right" = true) (k__law_sides_right : PySem.W.keepIn K (.ref a__law_sides_right) = true)
    {a__law_stretches : Addr} {od__law_stretches an__law_stretches : Option Addr} {sl__law_stretches : Array (Option Value)} {oc__law_stretches kV__law_stretches dc__law_stretches pm__law_stretches cd__law_stretches ct__law_stretches : Value}
    (p__law_stretches : PySem.W.nsIn K mainGlobals "_law_stretches" = some (some (.ref a__law_stretches))) (l__law_stretches : K.lookup a__law_stretches = some ⟨oc__law_stretches, od__law_stretches, .func (PySem.W.fnOf "_law_stretches" "_law_stretches" (defArgs s__law_stretches) (defBody s__law_stretches) (defScope s__law_stretches) .none kV__law_stretches dc__law_stretches pm__law_stretches an__law_stretches cd__law_stretches ct__law_stretches), sl__law_stretches⟩) (c__law_stretches : PySem.W.codeIn K cd__law_stretches "_law_stretches" = true) (k__law_stretches : PySem.W.keepIn K (.ref a__law_stretches) = true)
    {a__law_hierarchies_right : Addr} {od__law_hierarchies_right an__law_hierarchies_right : Option Addr} {sl__law_hierarchies_right : Array (Option Value)} {oc__law_hierarchies_right kV__law_hierarchies_right dc__law_hierarchies_right pm__law_hierarchies_right cd__law_hierarchies_right ct__law_hierarchies_right : Value}
    (p__law_hierarchies_right : PySem.W.nsIn K mainGlobals "_law_hierarchies_right" = some (some (.ref a__law_hierarchies_right))) (l__law_hierarchies_right : K.lookup a__law_hierarchies_right = some ⟨oc__law_hierarchies_right, od__law_hierarchies_right, .func (PySem.W.fnOf "_law_hierarchies_right" "_law_hierarchies_right" (defArgs s__law_hierarchies_right) (defBody s__law_hierarchies_right) (defScope s__law_hierarchies_right) .none kV__law_hierarchies_right dc__law_hierarchies_right pm__law_hierarchies_right an__law_hierarchies_right cd__law_hierarchies_right ct__law_hierarchies_right), sl__law_hierarchies_right⟩) (c__law_hierarchies_right : PySem.W.codeIn K cd__law_hierarchies_right "_law_hierarchies_right" = true) (k__law_hierarchies_right : PySem.W.keepIn K (.ref a__law_hierarchies_right) = true)
    {a_law : Addr} {od_law an_law : Option Addr} {sl_law : Array (Option Value)} {oc_law kV_law dc_law pm_law cd_law ct_law : Value}
    (p_law : PySem.W.nsIn K mainGlobals "law" = some (some (.ref a_law))) (l_law : K.lookup a_law = some ⟨oc_law, od_law, .func (PySem.W.fnOf "law" "law" (defArgs s_law) (defBody s_law) (defScope s_law) .none kV_law dc_law pm_law an_law cd_law ct_law), sl_law⟩) (c_law : PySem.W.codeIn K cd_law "law" = true) (k_law : PySem.W.keepIn K (.ref a_law) = true)
    {t_MOST_GROUPS : Tok} (g_MOST_GROUPS : PySem.W.nsIn K mainGlobals "MOST_GROUPS" = some (some (.int 20 t_MOST_GROUPS)))
    {t_MOST_MEMBER : Tok} (g_MOST_MEMBER : PySem.W.nsIn K mainGlobals "MOST_MEMBER" = some (some (.int 35 t_MOST_MEMBER)))
    (z_abs : PySem.W.nsIn K mainGlobals "abs" = some none)
    (z_all : PySem.W.nsIn K mainGlobals "all" = some none)
    (z_bool : PySem.W.nsIn K mainGlobals "bool" = some none)
    (z_int : PySem.W.nsIn K mainGlobals "int" = some none)
    (z_isinstance : PySem.W.nsIn K mainGlobals "isinstance" = some none)
    (z_len : PySem.W.nsIn K mainGlobals "len" = some none)
    (z_list : PySem.W.nsIn K mainGlobals "list" = some none)
    (z_max : PySem.W.nsIn K mainGlobals "max" = some none)
    (z_min : PySem.W.nsIn K mainGlobals "min" = some none)
    (z_range : PySem.W.nsIn K mainGlobals "range" = some none)
    (z_set : PySem.W.nsIn K mainGlobals "set" = some none)
    (z_sorted : PySem.W.nsIn K mainGlobals "sorted" = some none)
    (z_str : PySem.W.nsIn K mainGlobals "str" = some none)
    (z_sum : PySem.W.nsIn K mainGlobals "sum" = some none)
    (z_tuple : PySem.W.nsIn K mainGlobals "tuple" = some none) : Top K mg where
  f__law_box := fn1_mk X G p__law_box l__law_box c__law_box k__law_box fun _ _ _ _ _ _ us hl => match us, hl with | [_], _ => rfl
  f__law_take := fn1_mk X G p__law_take l__law_take c__law_take k__law_take fun _ _ _ _ _ _ us hl => match us, hl with | [_, _], _ => rfl
  f__law_mixed := fn1_mk X G p__law_mixed l__law_mixed c__law_mixed k__law_mixed fun _ _ _ _ _ _ us hl => match us, hl with | [_, _], _ => rfl
  f__law_planted := fn1_mk X G p__law_planted l__law_planted c__law_planted k__law_planted fun _ _ _ _ _ _ us hl => match us, hl with | [_, _], _ => rfl
  f_is_whole := fn1_mk X G p_is_whole l_is_whole c_is_whole k_is_whole fun _ _ _ _ _ _ us hl => match us, hl with | [_], _ => rfl
  f_is_group := fn1_mk X G p_is_group l_is_group c_is_group k_is_group fun _ _ _ _ _ _ us hl => match us, hl with | [_], _ => rfl
  f_check_groups := fn1_mk X G p_check_groups l_check_groups c_check_groups k_check_groups fun _ _ _ _ _ _ us hl => match us, hl with | [_], _ => rfl
  f_are_apart_or_within := fn1_mk X G p_are_apart_or_within l_are_apart_or_within c_are_apart_or_within k_are_apart_or_within fun _ _ _ _ _ _ us hl => match us, hl with | [_, _], _ => rfl
  f_crossing := fn1_mk X G p_crossing l_crossing c_crossing k_crossing fun _ _ _ _ _ _ us hl => match us, hl with | [_, _], _ => rfl
  f_levels_of := fn1_mk X G p_levels_of l_levels_of c_levels_of k_levels_of fun _ _ _ _ _ _ us hl => match us, hl with | [_], _ => rfl
  f_ring_of := fn1_mk X G p_ring_of l_ring_of c_ring_of k_ring_of fun _ _ _ _ _ _ us hl => match us, hl with | [_], _ => rfl
  f_two_hierarchies := fn1_mk X G p_two_hierarchies l_two_hierarchies c_two_hierarchies k_two_hierarchies fun _ _ _ _ _ _ us hl => match us, hl with | [_], _ => rfl
  f_odd_ring := fn1_mk X G p_odd_ring l_odd_ring c_odd_ring k_odd_ring fun _ _ _ _ _ _ us hl => match us, hl with | [_], _ => rfl
  f__law_asked := fn1_mk X G p__law_asked l__law_asked c__law_asked k__law_asked fun _ _ _ _ _ _ us hl => match us, hl with | [_, _], _ => rfl
  f__law_cell := fn1_mk X G p__law_cell l__law_cell c__law_cell k__law_cell fun _ _ _ _ _ _ us hl => match us, hl with | [_, _], _ => rfl
  f__law_cross := fn1_mk X G p__law_cross l__law_cross c__law_cross k__law_cross fun _ _ _ _ _ _ us hl => match us, hl with | [_, _], _ => rfl
  f__law_whole := fn1_mk X G p__law_whole l__law_whole c__law_whole k__law_whole fun _ _ _ _ _ _ us hl => match us, hl with | [_], _ => rfl
  f__law_is_ring := fn1_mk X G p__law_is_ring l__law_is_ring c__law_is_ring k__law_is_ring fun _ _ _ _ _ _ us hl => match us, hl with | [_, _], _ => rfl
  f__law_is := fn1_mk X G p__law_is l__law_is c__law_is k__law_is fun _ _ _ _ _ _ us hl => match us, hl with | [_, _], _ => rfl
  f_is_odd_ring := fn1_mk X G p_is_odd_ring l_is_odd_ring c_is_odd_ring k_is_odd_ring fun _ _ _ _ _ _ us hl => match us, hl with | [_, _], _ => rfl
  f__law_ring_right := fn1_mk X G p__law_ring_right l__law_ring_right c__law_ring_right k__law_ring_right fun _ _ _ _ _ _ us hl => match us, hl with | [_, _, _, _], _ => rfl
  f__law_sides_right := fn1_mk X G p__law_sides_right l__law_sides_right c__law_sides_right k__law_sides_right fun _ _ _ _ _ _ us hl => match us, hl with | [_, _], _ => rfl
  f__law_stretches := fn1_mk X G p__law_stretches l__law_stretches c__law_stretches k__law_stretches fun _ _ _ _ _ _ us hl => match us, hl with | [_, _, _], _ => rfl
  f__law_hierarchies_right := fn1_mk X G p__law_hierarchies_right l__law_hierarchies_right c__law_hierarchies_right k__law_hierarchies_right fun _ _ _ _ _ _ us hl => match us, hl with | [_, _], _ => rfl
  f_law := fn1_mk X G p_law l_law c_law k_law fun _ _ _ _ _ _ us hl => match us, hl with | [_], _ => rfl
  t_MOST_GROUPS := t_MOST_GROUPS
  c_MOST_GROUPS := PySem.W.mg_of X G g_MOST_GROUPS
  t_MOST_MEMBER := t_MOST_MEMBER
  c_MOST_MEMBER := PySem.W.mg_of X G g_MOST_MEMBER
  n_abs := PySem.W.mg_none_of X G z_abs
  n_all := PySem.W.mg_none_of X G z_all
  n_bool := PySem.W.mg_none_of X G z_bool
  n_int := PySem.W.mg_none_of X G z_int
  n_isinstance := PySem.W.mg_none_of X G z_isinstance
  n_len := PySem.W.mg_none_of X G z_len
  n_list := PySem.W.mg_none_of X G z_list
  n_max := PySem.W.mg_none_of X G z_max
  n_min := PySem.W.mg_none_of X G z_min
  n_range := PySem.W.mg_none_of X G z_range
  n_set := PySem.W.mg_none_of X G z_set
  n_sorted := PySem.W.mg_none_of X G z_sorted
  n_str := PySem.W.mg_none_of X G z_str
  n_sum := PySem.W.mg_none_of X G z_sum
  n_tuple := PySem.W.mg_none_of X G z_tuple
end
theorem walk {l : PySem.W.OpenLaw} {q : Program} {loose : List Str} {XP : (Str → Option Value) → Heap → Prop} {YP : World → Heap → Prop} {d : DefRec} {K : Params → PySem.W.Frag} (hn : l.most = some 63) (hdf : d.params.defaults = [])
    (hY : ∀ (w : World) (h : Heap), YP w h → (K w.params).In h)
    (F : ∀ (w : World) (mg : Str → Option Value) (fa : Addr) (h : Heap), (K w.params).In h → h.Ns mainGlobals mg → mg d.name = some (.ref fa) →
      ∃ fd : FuncData, (∀ (s : Shared) (u : Value), BindsTo s fd ⟨[u], []⟩ [("script", u)]) ∧ ∀ base : Heap, (K w.params).In base → base.Ns mainGlobals mg → FnOk l.prog w (K w.params) mg base CX0 8 fa fd ["script"] (spLaw (K w.params))) :
    PySem.W.WalkO q loose XP YP l.row.toRowW d [] (fun f vs => PySem.call f vs) :=
  L2.walk_of (n := 63) (k := 8) (x := "script") (CX := fun _ => CX0) (sp := fun w => spLaw (K w.params)) hn (by decide) hdf ⟨rfl, by decide, by decide⟩ hY F (fun _ _ a ns hl _ hS => ⟨a, ns, rfl, hS, hl, fun _ => rfl⟩) fun _ _ _ _ _ z => z
theorem law_top {l : PySem.W.OpenLaw} {w : World} {K : PySem.W.Frag} {mg : Str → Option Value} {fa : Addr} (T : Top K mg) (hfa : mg "law" = some (.ref fa)) : ∃ fd : FuncData, (∀ (s : Shared) (u : Value), BindsTo s fd ⟨[u], []⟩ [("script", u)]) ∧ ∀ base : Heap, K.In base → base.Ns mainGlobals mg → FnOk l.prog w K mg base CX0 8 fa fd ["script"] (spLaw K) := by
  have e := hfa.symm.trans T.f_law.m
  cases e
  exact ⟨T.f_law.fd, fun s u => T.f_law.b1 s [u] rfl, fun base _ _ => (ok_law T).imp law_sp⟩
end Mine
open PySem PySem.W PyProof.Rows
set_option maxRecDepth 100000 in
set_option maxHeartbeats 0 in
theorem PySem.Challenge.cw_thingsclear_k64_whole_many_groups_holds : PySem.Challenge.rw_thingsclear_k64_whole_many_groups.Holds := by
  w_on; o_law; k_head; (case hw => w_witness2)
  k_fill
  refine Mine.walk (l := PySem.Challenge.rw_thingsclear_k64_whole_many_groups) rfl rfl (fun w h Y => PySem.W.kIn_of Y) ?F
  case F =>
    intro w mg fa h KX G hmg
    refine' Mine.law_top (Mine.all_top KX G ?p__law_box ?l__law_box ?c__law_box ?k__law_box ?p__law_take ?l__law_take ?c__law_take ?k__law_take ?p__law_mixed ?l__law_mixed ?c__law_mixed ?k__law_mixed ?p__law_planted ?l__law_planted ?c__law_planted ?k__law_planted ?p_is_whole ?l_is_whole ?c_is_whole ?k_is_whole ?p_is_group ?l_is_group ?c_is_group ?k_is_group ?p_check_groups ?l_check_groups ?c_check_groups ?k_check_groups ?p_are_apart_or_within ?l_are_apart_or_within ?c_are_apart_or_within ?k_are_apart_or_within ?p_crossing ?l_crossing ?c_crossing ?k_crossing ?p_levels_of ?l_levels_of ?c_levels_of ?k_levels_of ?p_ring_of ?l_ring_of ?c_ring_of ?k_ring_of ?p_two_hierarchies ?l_two_hierarchies ?c_two_hierarchies ?k_two_hierarchies ?p_odd_ring ?l_odd_ring ?c_odd_ring ?k_odd_ring ?p__law_asked ?l__law_asked ?c__law_asked ?k__law_asked ?p__law_cell ?l__law_cell ?c__law_cell ?k__law_cell ?p__law_cross ?l__law_cross ?c__law_cross ?k__law_cross ?p__law_whole ?l__law_whole ?c__law_whole ?k__law_whole ?p__law_is_ring ?l__law_is_ring ?c__law_is_ring ?k__law_is_ring ?p__law_is ?l__law_is ?c__law_is ?k__law_is ?p_is_odd_ring ?l_is_odd_ring ?c_is_odd_ring ?k_is_odd_ring ?p__law_ring_right ?l__law_ring_right ?c__law_ring_right ?k__law_ring_right ?p__law_sides_right ?l__law_sides_right ?c__law_sides_right ?k__law_sides_right ?p__law_stretches ?l__law_stretches ?c__law_stretches ?k__law_stretches ?p__law_hierarchies_right ?l__law_hierarchies_right ?c__law_hierarchies_right ?k__law_hierarchies_right ?p_law ?l_law ?c_law ?k_law ?g_MOST_GROUPS ?g_MOST_MEMBER ?z_abs ?z_all ?z_bool ?z_int ?z_isinstance ?z_len ?z_list ?z_max ?z_min ?z_range ?z_set ?z_sorted ?z_str ?z_sum ?z_tuple) hmg
    (case p__law_box => k_is); (case l__law_box => k_is); (case c__law_box => k_is); (case k__law_box => k_is); (case p__law_take => k_is); (case l__law_take => k_is); (case c__law_take => k_is); (case k__law_take => k_is)
    (case p__law_mixed => k_is); (case l__law_mixed => k_is); (case c__law_mixed => k_is); (case k__law_mixed => k_is); (case p__law_planted => k_is); (case l__law_planted => k_is); (case c__law_planted => k_is); (case k__law_planted => k_is)
    (case p_is_whole => k_is); (case l_is_whole => k_is); (case c_is_whole => k_is); (case k_is_whole => k_is); (case p_is_group => k_is); (case l_is_group => k_is); (case c_is_group => k_is); (case k_is_group => k_is)
    (case p_check_groups => k_is); (case l_check_groups => k_is); (case c_check_groups => k_is); (case k_check_groups => k_is); (case p_are_apart_or_within => k_is); (case l_are_apart_or_within => k_is); (case c_are_apart_or_within => k_is); (case k_are_apart_or_within => k_is)
    (case p_crossing => k_is); (case l_crossing => k_is); (case c_crossing => k_is); (case k_crossing => k_is); (case p_levels_of => k_is); (case l_levels_of => k_is); (case c_levels_of => k_is); (case k_levels_of => k_is)
    (case p_ring_of => k_is); (case l_ring_of => k_is); (case c_ring_of => k_is); (case k_ring_of => k_is); (case p_two_hierarchies => k_is); (case l_two_hierarchies => k_is); (case c_two_hierarchies => k_is); (case k_two_hierarchies => k_is)
    (case p_odd_ring => k_is); (case l_odd_ring => k_is); (case c_odd_ring => k_is); (case k_odd_ring => k_is); (case p__law_asked => k_is); (case l__law_asked => k_is); (case c__law_asked => k_is); (case k__law_asked => k_is)
    (case p__law_cell => k_is); (case l__law_cell => k_is); (case c__law_cell => k_is); (case k__law_cell => k_is); (case p__law_cross => k_is); (case l__law_cross => k_is); (case c__law_cross => k_is); (case k__law_cross => k_is)
    (case p__law_whole => k_is); (case l__law_whole => k_is); (case c__law_whole => k_is); (case k__law_whole => k_is); (case p__law_is_ring => k_is); (case l__law_is_ring => k_is); (case c__law_is_ring => k_is); (case k__law_is_ring => k_is)
    (case p__law_is => k_is); (case l__law_is => k_is); (case c__law_is => k_is); (case k__law_is => k_is); (case p_is_odd_ring => k_is); (case l_is_odd_ring => k_is); (case c_is_odd_ring => k_is); (case k_is_odd_ring => k_is)
    (case p__law_ring_right => k_is); (case l__law_ring_right => k_is); (case c__law_ring_right => k_is); (case k__law_ring_right => k_is); (case p__law_sides_right => k_is); (case l__law_sides_right => k_is); (case c__law_sides_right => k_is); (case k__law_sides_right => k_is)
    (case p__law_stretches => k_is); (case l__law_stretches => k_is); (case c__law_stretches => k_is); (case k__law_stretches => k_is); (case p__law_hierarchies_right => k_is); (case l__law_hierarchies_right => k_is); (case c__law_hierarchies_right => k_is); (case k__law_hierarchies_right => k_is)
    (case p_law => k_is); (case l_law => k_is); (case c_law => k_is); (case k_law => k_is); (case g_MOST_GROUPS => k_is); (case g_MOST_MEMBER => k_is); (case z_abs => k_is); (case z_all => k_is)
    (case z_bool => k_is); (case z_int => k_is); (case z_isinstance => k_is); (case z_len => k_is); (case z_list => k_is); (case z_max => k_is); (case z_min => k_is); (case z_range => k_is)
    (case z_set => k_is); (case z_sorted => k_is); (case z_str => k_is); (case z_sum => k_is); (case z_tuple => k_is)
