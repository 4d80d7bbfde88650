import PyProof.Rows.All
import Wide.All
import OpenK.AllK
import Wide.FinOn
import HandS.ForMost
import HandS.ForExc
import HandS.CallSlots
import HandS.IsInst
import HandS.Wide
import HandS.Deep
import HandS.Text
import PyProof.StrOps2
import PyProof.Rows.InDataRows
import PyProof.ReprRoads
import HandS.TupLen
import HandS.EndBits
import HandS.Words
import PySem.Challenge.RW_handonwall_k01_names_and_darts
set_option Elab.async false
set_option linter.all false
set_option maxRecDepth 100000
set_option maxHeartbeats 4000000

/-! Fx: readings of Python code as functions on plain data trees. -/
namespace Fx
open PySem PySem.Spec PyProof.Rows L2

/-- data as a tree -/
inductive D where
  | non | bl (b : Bool) | int (i : Int) | str (x : Str)
  | lst (l : List D) | tup (l : List D) | dic (l : List (D × D)) | raw (v : V) | ins (C : Addr) (fs : List (Str × D))
instance : Inhabited D := ⟨.non⟩

def kD : Key → D
  | .inl i => .int i
  | .inr x => .str x
def ktD (k : List Key) : D := .tup (k.map kD)

mutual
/-- v stands for the tree in H -/
inductive Rp (K : PySem.W.Frag) (H : Hp) : V → D → Prop
  | non : Rp K H .non .non
  | bl (b : Bool) : Rp K H (.bl b) (.bl b)
  | int (i : Int) : Rp K H (.int i) (.int i)
  | str (x : Str) : Rp K H (.str x) (.str x)
  | lst {a : Addr} {xs : List V} {ds : List D} : SqL K H a xs → RpL K H xs ds → Rp K H (.ref a) (.lst ds)
  | tup {a : Addr} {xs : List V} {ds : List D} : SqT K H a xs → RpL K H xs ds → Rp K H (.ref a) (.tup ds)
  | dicK {a : Addr} {kvs : List (Key × V)} {es : List (D × D)} : Rd H a (.dK kvs) → RpK K H kvs es → Rp K H (.ref a) (.dic es)
  | dicT {a : Addr} {kvs : List (List Key × V)} {es : List (D × D)} : Rd H a (.dT kvs) → RpT K H kvs es → Rp K H (.ref a) (.dic es)
  | raw (v : V) : Rp K H v (.raw v)
  | ins {a C dx : Addr} {fs : List (Str × V)} {gs : List (Str × D)} : H a = some (.ins C dx fs) → RpF K H fs gs → Rp K H (.ref a) (.ins C gs)
inductive RpL (K : PySem.W.Frag) (H : Hp) : List V → List D → Prop
  | nil : RpL K H [] []
  | cons {v : V} {vs : List V} {d : D} {ds : List D} : Rp K H v d → RpL K H vs ds → RpL K H (v :: vs) (d :: ds)
inductive RpK (K : PySem.W.Frag) (H : Hp) : List (Key × V) → List (D × D) → Prop
  | nil : RpK K H [] []
  | cons {k : Key} {v : V} {d : D} {r : List (Key × V)} {es : List (D × D)} : Rp K H v d → RpK K H r es → RpK K H ((k, v) :: r) ((kD k, d) :: es)
inductive RpT (K : PySem.W.Frag) (H : Hp) : List (List Key × V) → List (D × D) → Prop
  | nil : RpT K H [] []
  | cons {k : List Key} {v : V} {d : D} {r : List (List Key × V)} {es : List (D × D)} : Rp K H v d → RpT K H r es → RpT K H ((k, v) :: r) ((ktD k, d) :: es)
inductive RpF (K : PySem.W.Frag) (H : Hp) : List (Str × V) → List (Str × D) → Prop
  | nil : RpF K H [] []
  | cons {k : Str} {v : V} {d : D} {r : List (Str × V)} {gs : List (Str × D)} : Rp K H v d → RpF K H r gs → RpF K H ((k, v) :: r) ((k, d) :: gs)
end

theorem same_rd {H H' : Hp} {a : Addr} {u : HO} (e : Same H H') (h : Rd H a u) : Rd H' a u := by
  rcases h with h | ⟨o, h⟩
  · exact .inl (e _ _ h)
  · exact .inr ⟨o, e _ _ h⟩
theorem same_t {K : PySem.W.Frag} {H H' : Hp} {a : Addr} {xs : List V} (e : Same H H') (h : SqT K H a xs) : SqT K H' a xs := by
  rcases h with h | h
  · exact .inl (same_rd e h)
  · exact .inr h

section
variable {K : PySem.W.Frag} {H H' : Hp}
mutual
theorem Rp.mono (e : Same H H') : ∀ {v : V} {d : D}, Rp K H v d → Rp K H' v d
  | _, _, .non => .non
  | _, _, .bl b => .bl b
  | _, _, .int i => .int i
  | _, _, .str x => .str x
  | _, _, .lst h t => .lst (e.seq h) (RpL.mono e t)
  | _, _, .tup h t => .tup (same_t e h) (RpL.mono e t)
  | _, _, .dicK h t => .dicK (same_rd e h) (RpK.mono e t)
  | _, _, .dicT h t => .dicT (same_rd e h) (RpT.mono e t)
  | _, _, .raw v => .raw v
  | _, _, .ins h t => .ins (e _ _ h) (RpF.mono e t)
theorem RpL.mono (e : Same H H') : ∀ {v : List V} {d : List D}, RpL K H v d → RpL K H' v d
  | _, _, .nil => .nil
  | _, _, .cons h t => .cons (Rp.mono e h) (RpL.mono e t)
theorem RpK.mono (e : Same H H') : ∀ {v : List (Key × V)} {d : List (D × D)}, RpK K H v d → RpK K H' v d
  | _, _, .nil => .nil
  | _, _, .cons h t => .cons (Rp.mono e h) (RpK.mono e t)
theorem RpT.mono (e : Same H H') : ∀ {v : List (List Key × V)} {d : List (D × D)}, RpT K H v d → RpT K H' v d
  | _, _, .nil => .nil
  | _, _, .cons h t => .cons (Rp.mono e h) (RpT.mono e t)
theorem RpF.mono (e : Same H H') : ∀ {v : List (Str × V)} {d : List (Str × D)}, RpF K H v d → RpF K H' v d
  | _, _, .nil => .nil
  | _, _, .cons h t => .cons (Rp.mono e h) (RpF.mono e t)
end
theorem RpL.length : ∀ {v : List V} {d : List D}, RpL K H v d → v.length = d.length
  | _, _, .nil => rfl
  | _, _, .cons _ t => by simp [RpL.length t]
theorem RpL.get : ∀ {vs : List V} {ds : List D} {i : Nat} {d : D}, RpL K H vs ds → ds[i]? = some d → ∃ v, vs[i]? = some v ∧ Rp K H v d
  | _, _, _, _, .nil, e => by simp at e
  | _, _, 0, _, .cons r _, e => by simp at e; subst e; exact ⟨_, rfl, r⟩
  | _, _, i + 1, d, .cons _ t, e => by
    obtain ⟨v, h1, h2⟩ := RpL.get (i := i) (d := d) t (by simpa using e)
    exact ⟨v, by simpa using h1, h2⟩
theorem RpL.append : ∀ {xs ys : List V} {ds es : List D}, RpL K H xs ds → RpL K H ys es → RpL K H (xs ++ ys) (ds ++ es)
  | _, _, _, _, .nil, s => s
  | _, _, _, _, .cons r t, s => .cons r (RpL.append t s)
theorem RpL.take : ∀ {xs : List V} {ds : List D} (n : Nat), RpL K H xs ds → RpL K H (xs.take n) (ds.take n)
  | _, _, 0, _ => .nil
  | _, _, _ + 1, .nil => .nil
  | _, _, n + 1, .cons r t => .cons r (RpL.take n t)
theorem RpL.drop : ∀ {xs : List V} {ds : List D} (n : Nat), RpL K H xs ds → RpL K H (xs.drop n) (ds.drop n)
  | _, _, 0, r => r
  | _, _, _ + 1, .nil => .nil
  | _, _, n + 1, .cons _ t => RpL.drop n t
theorem RpL.set {x : V} {d : D} (r : Rp K H x d) : ∀ {xs : List V} {ds : List D} (i : Nat), RpL K H xs ds → RpL K H (xs.set i x) (ds.set i d)
  | _, _, _, .nil => .nil
  | _, _, 0, .cons _ t => .cons r t
  | _, _, i + 1, .cons q t => .cons q (RpL.set r i t)
end

/-! ### slots -/
/-- what is known of a name: nothing; a tree that stays; a list or dict of one's own; a caller's list or dict -/
inductive Sl where
  | un | val (d : D) | own (d : D) | io (d : D)
def Sl.mine : Sl → Bool
  | .own _ => true
  | .io _ => true
  | _ => false
abbrev Gm := List Sl

/-- a list or dict at a that may be written: its items stay -/
def OwnAt (K : PySem.W.Frag) (Hf H : Hp) (a : Addr) : D → Prop
  | .lst ds => ∃ xs, H a = some (.lst xs) ∧ RpL K Hf xs ds
  | .dic es => (∃ kvs, H a = some (.dK kvs) ∧ RpK K Hf kvs es) ∨ ∃ kvs, H a = some (.dT kvs) ∧ RpT K Hf kvs es
  | _ => False
theorem OwnAt.mono {K : PySem.W.Frag} {Hf Hf' H H' : Hp} {a : Addr} {d : D} (e : Same Hf Hf') (h : H' a = H a) (o : OwnAt K Hf H a d) : OwnAt K Hf' H' a d := by
  cases d with
  | lst ds => obtain ⟨xs, h1, h2⟩ := o; exact ⟨xs, h.trans h1, h2.mono e⟩
  | dic es =>
    rcases o with ⟨kvs, h1, h2⟩ | ⟨kvs, h1, h2⟩
    · exact .inl ⟨kvs, h.trans h1, h2.mono e⟩
    · exact .inr ⟨kvs, h.trans h1, h2.mono e⟩
  | _ => exact o.elim
theorem OwnAt.there {K : PySem.W.Frag} {Hf H : Hp} {a : Addr} {d : D} (o : OwnAt K Hf H a d) : ∃ u, H a = some u := by
  cases d with
  | lst ds => obtain ⟨xs, h1, h2⟩ := o; exact ⟨_, h1⟩
  | dic es =>
    rcases o with ⟨kvs, h1, h2⟩ | ⟨kvs, h1, h2⟩
    · exact ⟨_, h1⟩
    · exact ⟨_, h1⟩
  | _ => exact o.elim
/-- .. as a tree that stays -/
theorem OwnAt.rp {K : PySem.W.Frag} {Hf H : Hp} {a : Addr} {d : D} (e : Same Hf H) (o : OwnAt K Hf H a d) : Rp K H (.ref a) d := by
  cases d with
  | lst ds => obtain ⟨xs, h1, h2⟩ := o; exact .lst (SqL.of h1) (h2.mono e)
  | dic es =>
    rcases o with ⟨kvs, h1, h2⟩ | ⟨kvs, h1, h2⟩
    · exact .dicK (.inl h1) (h2.mono e)
    · exact .dicT (.inl h1) (h2.mono e)
  | _ => exact o.elim

/-- the entry of a body: the heap, what stays, what may be written, the callers' lists by slot -/
structure Ent where
  H0 : Hp
  F0 : Hp
  W : Addr → Prop
  ad : Nat → Addr

def SlOk (K : PySem.W.Frag) (n : Ent) (F H : Hp) (i : Nat) (ov : Option V) : Sl → Prop
  | .un => True
  | .val d => ∃ v, ov = some v ∧ Rp K F v d
  | .own d => ∃ a, ov = some (.ref a) ∧ F a = none ∧ (n.H0 a = none ∨ n.W a) ∧ OwnAt K F H a d
  | .io d => ov = some (.ref (n.ad i)) ∧ F (n.ad i) = none ∧ (n.H0 (n.ad i) = none ∨ n.W (n.ad i)) ∧ OwnAt K F H (n.ad i) d

structure Sim (K : PySem.W.Frag) (n : Ent) (F : Hp) (Γ : Gm) (σ : L2.St) (H : Hp) : Prop where
  sub : Same F H
  len : Γ.length = σ.length
  sl : ∀ (i : Nat) (s : Sl) (ov : Option V), Γ[i]? = some s → σ[i]? = some ov → SlOk K n F H i ov s
  dis : ∀ (i j : Nat) (s t : Sl) (a : Addr), Γ[i]? = some s → Γ[j]? = some t → s.mine = true → t.mine = true → σ[i]? = some (some (.ref a)) → σ[j]? = some (some (.ref a)) → i = j
  frame : ∀ (b : Addr) (o : HO), n.H0 b = some o → ¬ n.W b → H b = some o
  frz : ∀ (b : Addr) (o : HO), F b = some o → (∃ u, n.F0 b = some u) ∨ n.H0 b = none ∨ n.W b
  sub0 : Same n.F0 F

/-- the heap grows, what stays grows with it -/
structure Grow (F H F' H' : Hp) : Prop where
  fz : Same F F'
  hp : Same H H'
  sub : Same F' H'
  new : ∀ b o, F' b = some o → (∃ u, F b = some u) ∨ H b = none
theorem Grow.refl {F H : Hp} (s : Same F H) : Grow F H F H := ⟨.refl _, .refl _, s, fun b o h => .inl ⟨o, h⟩⟩
theorem Grow.trans {F H F1 H1 F2 H2 : Hp} (a : Grow F H F1 H1) (b : Grow F1 H1 F2 H2) : Grow F H F2 H2 :=
  ⟨a.fz.trans b.fz, a.hp.trans b.hp, b.sub, fun x o h => by
    rcases b.new x o h with ⟨u, q⟩ | q
    · exact a.new x u q
    · exact .inr (a.hp.free q)⟩
theorem same_new {H : Hp} {p : Addr} {o : HO} (h : H p = none) : Same H (upd H p o) := fun b x e => by
  rw [upd_ne (ne_of_none e h)]
  exact e
theorem same_none {F H : Hp} (s : Same F H) {p : Addr} (h : H p = none) : F p = none := s.free h
theorem same_upd2 {F H : Hp} {p : Addr} {o : HO} (s : Same F H) : Same (upd F p o) (upd H p o) := fun b x e => by
  by_cases hb : b = p
  · subst hb; rw [upd_same] at e ⊢; exact e
  · rw [upd_ne hb] at e ⊢; exact s _ _ e
/-- a new object that stays -/
theorem Grow.one {F H : Hp} (s : Same F H) {p : Addr} {o : HO} (h : H p = none) : Grow F H (upd F p o) (upd H p o) :=
  ⟨same_new (same_none s h), same_new h, same_upd2 s, fun b x e => by
    by_cases hb : b = p
    · subst hb; exact .inr h
    · rw [upd_ne hb] at e; exact .inl ⟨x, e⟩⟩
/-- a new object beside what stays -/
theorem Grow.beside {F H : Hp} (s : Same F H) {p : Addr} {o : HO} (h : H p = none) : Grow F H F (upd H p o) :=
  ⟨.refl _, same_new h, s.trans (same_new h), fun b x e => .inl ⟨x, e⟩⟩

section
variable {K : PySem.W.Frag} {n : Ent} {F F' H H' : Hp} {Γ Γ' : Gm} {σ : L2.St}
theorem Sim.slot_at (S : Sim K n F Γ σ H) {i : Nat} {s : Sl} (h : Γ[i]? = some s) : ∃ ov, σ[i]? = some ov ∧ SlOk K n F H i ov s := by
  have hi : i < σ.length := by rw [← S.len]; exact (List.getElem?_eq_some_iff.mp h).1
  exact ⟨σ[i], List.getElem?_eq_getElem hi, S.sl i s _ h (List.getElem?_eq_getElem hi)⟩
theorem SlOk.grow {i : Nat} {ov : Option V} {s : Sl} (g : Grow F H F' H') (h : SlOk K n F H i ov s) : SlOk K n F' H' i ov s := by
  have key : ∀ a d, F a = none → OwnAt K F H a d → F' a = none ∧ OwnAt K F' H' a d := fun a d h1 h2 => by
    obtain ⟨u, hu⟩ := h2.there
    refine ⟨?_, h2.mono g.fz ((g.hp _ _ hu).trans hu.symm)⟩
    cases q : F' a with
    | none => rfl
    | some o =>
      rcases g.new a o q with ⟨z, e⟩ | e
      · rw [h1] at e; cases e
      · rw [hu] at e; cases e
  cases s with
  | un => trivial
  | val d => obtain ⟨v, h1, h2⟩ := h; exact ⟨v, h1, h2.mono g.fz⟩
  | own d =>
    obtain ⟨a, h1, h2, h3, h4⟩ := h
    obtain ⟨k1, k2⟩ := key a d h2 h4
    exact ⟨a, h1, k1, h3, k2⟩
  | io d =>
    obtain ⟨h1, h2, h3, h4⟩ := h
    obtain ⟨k1, k2⟩ := key _ d h2 h4
    exact ⟨h1, k1, h3, k2⟩
theorem Sim.grow (S : Sim K n F Γ σ H) (g : Grow F H F' H') : Sim K n F' Γ σ H' where
  sub := g.sub
  len := S.len
  sl := fun i s ov h1 h2 => (S.sl i s ov h1 h2).grow g
  dis := S.dis
  frame := fun b o h1 h2 => g.hp _ _ (S.frame b o h1 h2)
  frz := fun b o h => by
    rcases g.new b o h with ⟨u, e⟩ | e
    · exact S.frz b u e
    · by_cases hw : n.W b
      · exact .inr (.inr hw)
      · cases q : n.H0 b with
        | none => exact .inr (.inl rfl)
        | some u => rw [S.frame b u q hw] at e; cases e
  sub0 := S.sub0.trans g.fz
end

end Fx

/-! Fx: operators, comparisons and built-in calls as functions on trees. -/
namespace Fx
open PySem PySem.Spec PyProof.Rows L2

/-- v reads as the tree now: it stays, or it is a list or dict of one's own -/
inductive Rq (K : PySem.W.Frag) (F H : Hp) : V → D → Prop
  | rp {v : V} {d : D} : Rp K F v d → Rq K F H v d
  | own {a : Addr} {d : D} : OwnAt K F H a d → Rq K F H (.ref a) d
inductive RqL (K : PySem.W.Frag) (F H : Hp) : List V → List D → Prop
  | nil : RqL K F H [] []
  | cons {v : V} {vs : List V} {d : D} {ds : List D} : Rq K F H v d → RqL K F H vs ds → RqL K F H (v :: vs) (d :: ds)

section
variable {K : PySem.W.Frag} {F H : Hp} {v : V}
theorem Rq.to (s : Same F H) {d : D} : Rq K F H v d → Rp K H v d
  | .rp r => r.mono s
  | .own o => o.rp s
theorem Rq.int {i : Int} : Rq K F H v (.int i) → v = .int i
  | .rp r => by cases r; rfl
  | .own o => o.elim
theorem Rq.bl {i : Bool} : Rq K F H v (.bl i) → v = .bl i
  | .rp r => by cases r; rfl
  | .own o => o.elim
theorem Rq.str {i : Str} : Rq K F H v (.str i) → v = .str i
  | .rp r => by cases r; rfl
  | .own o => o.elim
theorem Rq.non : Rq K F H v .non → v = .non
  | .rp r => by cases r; rfl
  | .own o => o.elim
theorem Rq.raw {x : V} : Rq K F H v (.raw x) → v = x
  | .rp r => by cases r; rfl
  | .own o => o.elim
theorem Rq.lst (s : Same F H) {ds : List D} : Rq K F H v (.lst ds) → ∃ a xs, v = .ref a ∧ SqL K H a xs ∧ RpL K F xs ds
  | .rp r => by
    cases r with
    | lst h t => exact ⟨_, _, rfl, s.seq h, t⟩
  | .own o => by
    obtain ⟨xs, h, t⟩ := o
    exact ⟨_, xs, rfl, SqL.of h, t⟩
theorem Rq.tup (s : Same F H) {ds : List D} : Rq K F H v (.tup ds) → ∃ a xs, v = .ref a ∧ SqT K H a xs ∧ RpL K F xs ds
  | .rp r => by
    cases r with
    | tup h t => exact ⟨_, _, rfl, same_t s h, t⟩
  | .own o => o.elim
theorem Rq.dic (s : Same F H) {es : List (D × D)} : Rq K F H v (.dic es) → ∃ a, v = .ref a ∧ ((∃ kvs, Rd H a (.dK kvs) ∧ RpK K F kvs es) ∨ ∃ kvs, Rd H a (.dT kvs) ∧ RpT K F kvs es)
  | .rp r => by
    cases r with
    | dicK h t => exact ⟨_, rfl, .inl ⟨_, same_rd s h, t⟩⟩
    | dicT h t => exact ⟨_, rfl, .inr ⟨_, same_rd s h, t⟩⟩
  | .own o => by
    rcases o with ⟨kvs, h, t⟩ | ⟨kvs, h, t⟩
    · exact ⟨_, rfl, .inl ⟨_, .inl h, t⟩⟩
    · exact ⟨_, rfl, .inr ⟨_, .inl h, t⟩⟩
theorem Rq.ins (s : Same F H) {C : Addr} {gs : List (Str × D)} : Rq K F H v (.ins C gs) → ∃ a dx fs, v = .ref a ∧ H a = some (.ins C dx fs) ∧ RpF K F fs gs
  | .rp r => by
    cases r with
    | ins h t => exact ⟨_, _, _, rfl, s _ _ h, t⟩
  | .own o => o.elim
theorem RqL.one {xs : List V} {d : D} (h : RqL K F H xs [d]) : ∃ v, xs = [v] ∧ Rq K F H v d := by
  cases h with
  | cons a b => cases b; exact ⟨_, rfl, a⟩
theorem RqL.two {xs : List V} {d e : D} (h : RqL K F H xs [d, e]) : ∃ v u, xs = [v, u] ∧ Rq K F H v d ∧ Rq K F H u e := by
  cases h with
  | cons a b => obtain ⟨u, rfl, q⟩ := b.one; exact ⟨_, _, rfl, a, q⟩
theorem RqL.zero {xs : List V} (h : RqL K F H xs []) : xs = [] := by cases h; rfl
end

/-! ### by values -/
/-- what stands behind: a value for the tree z, the heap grown -/
def Out (K : PySem.W.Frag) (F H : Hp) (z : D) (Q : VK) : Prop := ∀ v F' H', Grow F H F' H' → Rp K F' v z → Q v H'
theorem Out.same {K : PySem.W.Frag} {F H : Hp} {z : D} {Q : VK} (o : Out K F H z Q) (s : Same F H) {v : V} (r : Rp K F v z) : Q v H := o v F H (.refl s) r
def rF2 (K : PySem.W.Frag) (f : D → D → Option D) : R2 := fun x y H Q => ∃ F d e z, Same F H ∧ Rq K F H x d ∧ Rq K F H y e ∧ f d e = some z ∧ Out K F H z Q
def rF1 (K : PySem.W.Frag) (f : D → Option D) : V → Hp → VK → Prop := fun x H Q => ∃ F d z, Same F H ∧ Rq K F H x d ∧ f d = some z ∧ Out K F H z Q
def rFn (K : PySem.W.Frag) (g : List D → Option D) : List V → Hp → VK → Prop := fun xs H Q => ∃ F ds z, Same F H ∧ RqL K F H xs ds ∧ g ds = some z ∧ Out K F H z Q
def rFm (K : PySem.W.Frag) (g : D → List D → Option D) : V → List V → Hp → VK → Prop := fun x xs H Q => ∃ F d ds z, Same F H ∧ Rq K F H x d ∧ RqL K F H xs ds ∧ g d ds = some z ∧ Out K F H z Q
/-- a new list, a new tuple of what stays -/
theorem Out.lnew {K : PySem.W.Frag} {F H : Hp} {ds : List D} {Q : VK} (o : Out K F H (.lst ds) Q) (s : Same F H) {p : Addr} {xs : List V} (h : H p = none) (r : RpL K F xs ds) : Q (.ref p) (upd H p (.lst xs)) :=
  o _ _ _ (Grow.one s h) (.lst (SqL.of upd_same) (r.mono (same_new (same_none s h))))
theorem Out.tnew {K : PySem.W.Frag} {F H : Hp} {ds : List D} {Q : VK} (o : Out K F H (.tup ds) Q) (s : Same F H) {p : Addr} {xs : List V} (h : H p = none) (r : RpL K F xs ds) : Q (.ref p) (upd H p (.tup xs)) :=
  o _ _ _ (Grow.one s h) (.tup (SqT.of upd_same) (r.mono (same_new (same_none s h))))

/-! ### data of the library -/
mutual
def toPy : D → PyData
  | .non => .none
  | .bl b => .bool b
  | .int i => .int i
  | .str x => .str x
  | .lst l => .list (toPyL l)
  | .tup l => .tuple (toPyL l)
  | .dic l => .dict (toPyK l)
  | .raw _ => .none
  | .ins _ _ => .none
def toPyL : List D → List PyData
  | [] => []
  | d :: r => toPy d :: toPyL r
def toPyK : List (D × D) → List (PyData × PyData)
  | [] => []
  | (k, d) :: r => (toPy k, toPy d) :: toPyK r
end
mutual
/-- none, bools, ints, texts, lists, tuples -/
def flatD : D → Bool
  | .lst l => flatL l
  | .tup l => flatL l
  | .dic _ => false
  | .raw _ => false
  | .ins _ _ => false
  | _ => true
def flatL : List D → Bool
  | [] => true
  | d :: r => flatD d && flatL r
end
section
variable {K : PySem.W.Frag} {H : Hp}
mutual
theorem Rp.dp : ∀ {d : D} {v : V}, Rp K H v d → flatD d = true → Dp K H v (toPy d)
  | .non, _, r, _ => by cases r; simp only [toPy]; exact .non
  | .bl b, _, r, _ => by cases r; simp only [toPy]; exact .bl b
  | .int i, _, r, _ => by cases r; simp only [toPy]; exact .int i
  | .str x, _, r, _ => by cases r; simp only [toPy]; exact .str x
  | .lst l, _, r, h => by
    cases r with
    | lst a b => simp only [toPy]; exact .lst a (RpL.dp b (by simpa [flatD] using h))
  | .tup l, _, r, h => by
    cases r with
    | tup a b => simp only [toPy]; exact .tup a (RpL.dp b (by simpa [flatD] using h))
  | .dic l, _, _, h => by simp [flatD] at h
  | .raw _, _, _, h => by simp [flatD] at h
  | .ins _ _, _, _, h => by simp [flatD] at h
theorem RpL.dp : ∀ {ds : List D} {vs : List V}, RpL K H vs ds → flatL ds = true → DpAll K H vs (toPyL ds)
  | [], _, r, _ => by cases r; simp only [toPyL]; exact .nil
  | d :: ds, _, r, h => by
    cases r with
    | cons a b =>
      simp only [flatL, Bool.and_eq_true] at h
      simp only [toPyL]
      exact .cons (Rp.dp a h.1) (RpL.dp b h.2)
end
end

/-! ### operators -/
def okSize (n : Nat) : Bool := decide (n ≤ sizeLine)
def addD : D → D → Option D
  | .int a, .int b => some (.int (a + b))
  | .str a, .str b => if a.length + b.length ≤ sizeLine then some (.str (a ++ b)) else none
  | .lst a, .lst b => if a.length + b.length ≤ sizeLine then some (.lst (a ++ b)) else none
  | _, _ => none
def subD : D → D → Option D
  | .int a, .int b => some (.int (a - b))
  | _, _ => none
/-- one factor below 2 ^ 64 -/
def smallI (m : Nat) : Int → Bool
  | .ofNat n => Nat.blt n m
  | .negSucc n => Nat.blt (n + 1) m
theorem smallI_iff {m : Nat} {a : Int} : smallI m a = true ↔ -(m : Int) < a ∧ a < m := by
  cases a with
  | ofNat n =>
    show Nat.blt n m = true ↔ _
    rw [Nat.blt_eq, Int.ofNat_eq_natCast]
    omega
  | negSucc n =>
    show Nat.blt (n + 1) m = true ↔ _
    rw [Nat.blt_eq, Int.negSucc_eq]
    omega
def mulIn (a b : Int) : Bool := smallI 18446744073709551616 a || smallI 18446744073709551616 b
theorem mulIn_in {a b : Int} (h : mulIn a b = true) : (-(2 ^ 64) < a ∧ a < 2 ^ 64) ∨ (-(2 ^ 64) < b ∧ b < 2 ^ 64) := by
  unfold mulIn at h
  rw [Bool.or_eq_true, smallI_iff, smallI_iff] at h
  exact h
def repS (x : Str) (n : Nat) : Str := ⟨(List.replicate n x.cps).foldl (· ++ ·) #[]⟩
theorem repS_one (x : Str) : repS x 1 = x := by
  cases x
  simp [repS]
theorem repS_nil {x : Str} (h : x.length = 0) : ∀ n : Nat, repS x n = x := by
  have e : x.cps = #[] := by
    have h' : x.cps.size = 0 := h
    exact Array.eq_empty_of_size_eq_zero h'
  have f : ∀ n : Nat, (List.replicate n (#[] : Array Nat)).foldl (· ++ ·) #[] = #[] := fun n => by
    induction n with
    | zero => rfl
    | succ k ih => rw [List.replicate_succ, List.foldl_cons]; exact ih
  intro n
  cases x with
  | mk c =>
    have e' : c = #[] := e
    subst e'
    unfold repS
    exact congrArg Str.mk (f n)
def mulD : D → D → Option D
  | .int a, .int b => if mulIn a b then some (.int (a * b)) else none
  | .str x, .int n => if 0 < n ∧ n < 1000 ∧ x.length * n.toNat ≤ sizeLine then some (.str (repS x n.toNat)) else none
  | .lst x, .int n => if 0 ≤ n ∧ n < 2 ^ 63 ∧ x.length * n.toNat ≤ sizeLine then some (.lst (List.replicate n.toNat x).flatten) else none
  | _, _ => none
def divD : D → D → Option D
  | .int a, .int b => if b ≠ 0 ∧ b.natAbs < 1073741824 then some (.int (a.fdiv b)) else none
  | _, _ => none
def modD : D → D → Option D
  | .int a, .int b => if b ≠ 0 then some (.int (a.fmod b)) else none
  | _, _ => none
def powD : D → D → Option D
  | .int a, .int b => if 0 ≤ b ∧ b ≤ 1000000 ∧ a.natAbs < 2 ^ 64 then some (.int (a ^ b.toNat)) else none
  | _, _ => none
def negD : D → Option D
  | .int a => some (.int (-a))
  | _ => none

section
variable {X : Cx}
theorem list_cat {pins : List (Addr × Obj)} {σ : L2.St} {H : Hp} {s : Shared} {l b : Addr} {xs zs : List V} {Q : VK} (I : Inv X pins σ H s) (hl : SqL X.K H l xs) (hb : SqL X.K H b zs) (hz : xs.length + zs.length ≤ sizeLine)
    (q : ∀ p, H p = none → Q (.ref p) (upd H p (.lst (xs ++ zs)))) : wpAny (model X.prog X.w) X.A (binaryOp .Add (.ref l) (.ref b)) (EP X pins σ Q) X.xe s := by
  obtain ⟨i1, r1, ⟨⟨cl1, dc1, dt1, sl1⟩, n1, e1, c1, k1, d1⟩, _⟩ := I.list hl
  obtain ⟨i2, r2, ⟨⟨cl2, dc2, dt2, sl2⟩, n2, e2, c2, k2, d2⟩, _⟩ := I.list hb
  have z1 := r1.length
  have z2 := r2.length
  simp only at c1 k1 d1 c2 k2 d2
  subst c1 k1 d1 c2 k2 d2
  have hsz : i1.toArray.size + i2.toArray.size ≤ sizeLine := by rw [List.size_toArray, List.size_toArray]; omega
  refine PySem.concat_meets ⟨_, e1, rfl⟩ ⟨_, e2, rfl⟩ noFill_list_add seq_list_add PySem.F.slot_list_add PySem.F.entry_list_add (PySem.F.args_list_add_2 _ _) (list_addW l b i1.toArray i2.toArray n1 n2 none none sl1 sl2 hsz) ⟨e1, e2, ?_⟩
  have ea : i1.toArray ++ i2.toArray = (i1 ++ i2).toArray := by simp
  rw [ea]
  exact ⟨.ref _, _, I.lnew (t' := s.toks) (r1.append r2) (by rw [List.length_append]; omega), rfl, q _ I.fresh⟩
theorem op_addF : OpR X (binaryOp .Add) (rF2 X.K addD) := by
  intro pins s σ H x y v u Q I rx ry ⟨F, d, e, z, sF, qd, qe, hz, o⟩
  unfold addD at hz
  split at hz
  · cases hz
    exact op_add pins s σ H x y v u Q I rx ry ⟨_, _, qd.int, qe.int, o.same sF (.int _)⟩
  · split at hz
    · cases hz
      exact op_add_str pins s σ H x y v u Q I rx ry ⟨_, _, qd.str, qe.str, by assumption, o.same sF (.str _)⟩
    · cases hz
  · split at hz
    · rename_i hl
      cases hz
      obtain ⟨l, xs, rfl, h1, t1⟩ := qd.lst sF
      obtain ⟨b, ys, rfl, h2, t2⟩ := qe.lst sF
      cases rx
      cases ry
      exact list_cat I h1 h2 (by rw [t1.length, t2.length]; exact hl) fun p hp => o.lnew sF hp (t1.append t2)
    · cases hz
  · cases hz
theorem op_subF : OpR X (binaryOp .Sub) (rF2 X.K subD) := by
  intro pins s σ H x y v u Q I rx ry ⟨F, d, e, z, sF, qd, qe, hz, o⟩
  unfold subD at hz
  split at hz
  · cases hz
    exact op_sub pins s σ H x y v u Q I rx ry ⟨_, _, qd.int, qe.int, o.same sF (.int _)⟩
  · cases hz
theorem op_divF : OpR X (binaryOp .FloorDiv) (rF2 X.K divD) := by
  intro pins s σ H x y v u Q I rx ry ⟨F, d, e, z, sF, qd, qe, hz, o⟩
  unfold divD at hz
  split at hz
  · split at hz
    · cases hz
      exact op_fdivN pins s σ H x y v u Q I rx ry ⟨_, _, qd.int, qe.int, by assumption, o.same sF (.int _)⟩
    · cases hz
  · cases hz
theorem op_modF : OpR X (binaryOp .Mod) (rF2 X.K modD) := by
  intro pins s σ H x y v u Q I rx ry ⟨F, d, e, z, sF, qd, qe, hz, o⟩
  unfold modD at hz
  split at hz
  · split at hz
    · cases hz
      exact op_modN pins s σ H x y v u Q I rx ry ⟨_, _, qd.int, qe.int, by assumption, o.same sF (.int _)⟩
    · cases hz
  · cases hz
theorem op_powF : OpR X (binaryOp .Pow) (rF2 X.K powD) := by
  intro pins s σ H x y v u Q I rx ry ⟨F, d, e, z, sF, qd, qe, hz, o⟩
  unfold powD at hz
  split at hz
  · split at hz
    · cases hz
      exact op_pow pins s σ H x y v u Q I rx ry ⟨_, _, qd.int, qe.int, by assumption, o.same sF (.int _)⟩
    · cases hz
  · cases hz
theorem un_negF : UnR X (unaryOp .USub) (rF1 X.K negD) := by
  intro pins s σ H x v Q I rx ⟨F, d, z, sF, qd, hz, o⟩
  unfold negD at hz
  split at hz
  · cases hz
    exact un_neg pins s σ H x v Q I rx ⟨_, qd.int, o.same sF (.int _)⟩
  · cases hz
theorem op_mulF : OpR X (binaryOp .Mult) (rF2 X.K mulD) := by
  intro pins s σ H x y v u Q I rx ry ⟨F, d, e, z, sF, qd, qe, hz, o⟩
  unfold mulD at hz
  split at hz
  · split at hz
    · rename_i hm
      cases hz
      exact op_mul pins s σ H x y v u Q I rx ry ⟨_, _, qd.int, qe.int, mulIn_in hm, o.same sF (.int _)⟩
    · cases hz
  · rename_i x' n
    split at hz
    · rename_i hn
      cases hz
      cases qd.str
      cases qe.int
      obtain ⟨t, rfl⟩ := rx
      obtain ⟨t', rfl⟩ := ry
      have h1 : (decide (n < -(2 ^ 63 : Int)) || decide (n ≥ 2 ^ 63)) = false := by
        rw [Bool.or_eq_false_iff]
        exact ⟨decide_eq_false (by omega), decide_eq_false (by omega)⟩
      have hsz : sizeLine = 16777216 := sizeLine_eq
      have hle : x'.length ≤ x'.length * n.toNat := Nat.le_mul_of_pos_right _ (by omega)
      refine PySem.P.mul_str h1 (fun _ _ => ?_) (fun _ _ => ?_) ?_
      · have : (16777216 : Int) ≤ (2 ^ 63 - 1) / n := by
          refine Int.le_ediv_of_mul_le (by omega) ?_
          have : (16777216 : Int) * n ≤ 16777216 * 1000 := by omega
          omega
        omega
      · show decide (x'.length * n.toNat > sizeLine) = false
        exact decide_eq_false (by omega)
      · rw [if_neg (by omega)]
        have fin : ∀ (y : Str) (tk : Tok) (s' : Shared), y = repS x' n.toNat → L2.Inv X pins σ H s' → EP X pins σ Q (.str y tk) s' := fun y tk s' e J => ⟨.str y, H, J, ⟨tk, rfl⟩, by rw [e]; exact o.same sF (.str _)⟩
        split
        · rename_i hc
          refine fin x' t s ?_ I
          rw [Bool.or_eq_true] at hc
          rcases hc with hc | hc
          · have : n = 1 := by simpa using hc
            subst this
            exact (repS_one x').symm
          · exact (repS_nil (by simpa using hc) _).symm
        · refine ⟨?_, fin _ _ _ rfl (I.tok _)⟩
          have e : ∀ k : Nat, ((List.replicate k x'.cps).foldl (· ++ ·) (#[] : Array Nat)).size = x'.cps.size * k := by
            have g : ∀ (k : Nat) (acc : Array Nat), ((List.replicate k x'.cps).foldl (· ++ ·) acc).size = acc.size + x'.cps.size * k := fun k => by
              induction k with
              | zero => intro acc; simp
              | succ k ih =>
                intro acc
                rw [List.replicate_succ, List.foldl_cons, ih, Array.size_append, Nat.mul_succ]
                omega
            intro k
            rw [g]
            simp
          show ((List.replicate n.toNat x'.cps).foldl (· ++ ·) (#[] : Array Nat)).size ≤ sizeLine
          rw [e]
          exact hn.2.2
    · cases hz
  · rename_i x' n
    split at hz
    · rename_i hn
      cases hz
      obtain ⟨l, xs, rfl, h1, t1⟩ := qd.lst sF
      cases qe.int
      cases rx
      obtain ⟨t', rfl⟩ := ry
      obtain ⟨i1, r1, ⟨⟨cl1, dc1, dt1, sl1⟩, n1, e1, c1, k1, d1⟩, _⟩ := I.list h1
      have z1 := r1.length
      have z2 := t1.length
      simp only at c1 k1 d1
      subst c1 k1 d1
      have hsz : i1.toArray.size * n.toNat ≤ 2 ^ 24 := by
        rw [List.size_toArray, ← z1, z2]
        exact hn.2.2
      refine PySem.wpAny_binaryOp_repeat_ref (T := "list") (U := "int") (by decide) ⟨_, e1, rfl⟩ (fun s' => typeIs_int s' n t') PySem.noFill_list_mul PySem.F.fills_int_mul PySem.F.slot_int_rmul PySem.repeat_list PySem.F.slot_int_index.lookup
        (call_meets PySem.F.slot_int_rmul (typeIs_int s n t') PySem.F.entry_int_rmul (PySem.F.args_int_rmul_2 _ _) (PySem.lm_int_rmul_list_any n t' l i1.toArray n1 none sl1)
          ⟨e1, rfl, ⟨_, e1, rfl⟩, call_meets PySem.F.slot_list_mul ⟨_, e1, rfl⟩ PySem.F.entry_list_mul (PySem.F.args_list_mul_2 _ _)
            (PySem.lm_list_mul_any l i1.toArray n1 none sl1 n t' (by simp [Builtin.List.listFitsIndex]; omega) (by omega) (by simp [Builtin.List.listTooLong, sizeLine]; omega)) ⟨e1, ?_⟩⟩)
      rw [listMul_foldl_if]
      have rr : ∀ k : Nat, Vals (List.replicate k xs).flatten (List.replicate k i1).flatten := fun k => by
        induction k with
        | zero => exact .nil
        | succ k ih => rw [List.replicate_succ, List.replicate_succ, List.flatten_cons, List.flatten_cons]; exact r1.append ih
      have rd : ∀ k : Nat, RpL X.K F (List.replicate k xs).flatten (List.replicate k _).flatten := fun k => by
        induction k with
        | zero => exact .nil
        | succ k ih => rw [List.replicate_succ, List.replicate_succ, List.flatten_cons, List.flatten_cons]; exact t1.append ih
      have hl : (List.replicate n.toNat xs).flatten.length ≤ sizeLine := by
        rw [(rr n.toNat).length]
        have : (List.replicate n.toNat i1).flatten.length = i1.length * n.toNat := by simp [Nat.mul_comm]
        rw [this]
        rw [List.size_toArray] at hsz
        exact hsz
      exact ⟨.ref _, _, I.lnew (t' := s.toks) (rr n.toNat) hl, rfl, o.lnew sF I.fresh (rd n.toNat)⟩
    · cases hz
  · cases hz
end
/-! ### comparisons -/
def bD (o : Option Bool) : Option D := o.map .bl
def rC2 (K : PySem.W.Frag) (f : D → D → Option Bool) : R2 := fun x y H Q => ∃ F d e b, Same F H ∧ Rq K F H x d ∧ Rq K F H y e ∧ f d e = some b ∧ Q (.bl b) H
def shD (d : D) : Bool := flatD d && SeqAt.shaped (toPy d)
/-- == of data without dicts -/
def eqD (d e : D) : Option Bool := if shD d && shD e then some (PyData.eqv (toPy d) (toPy e)) else none
def neD (d e : D) : Option Bool := (eqD d e).map (!·)
def ltD : D → D → Option Bool
  | .int a, .int b => some (decide (a < b))
  | .str a, .str b => some (decide (a.cps.toList < b.cps.toList))
  | _, _ => none
def gtD : D → D → Option Bool
  | .int a, .int b => some (decide (b < a))
  | .str a, .str b => some (decide (b.cps.toList < a.cps.toList))
  | _, _ => none
def leD : D → D → Option Bool
  | .int a, .int b => some (decide (a ≤ b))
  | .str a, .str b => some (!decide (b.cps.toList < a.cps.toList))
  | _, _ => none
def geD : D → D → Option Bool
  | .int a, .int b => some (decide (b ≤ a))
  | .str a, .str b => some (!decide (a.cps.toList < b.cps.toList))
  | _, _ => none
section
variable {X : Cx} {K : PySem.W.Frag} {F H : Hp}
theorem shD_dp (s : Same F H) {v : V} {d : D} (q : Rq K F H v d) (h : shD d = true) : Dp K H v (toPy d) ∧ SeqAt.shaped (toPy d) = true := by
  unfold shD at h
  rw [Bool.and_eq_true] at h
  exact ⟨(q.to s).dp h.1, h.2⟩
theorem op_eqF (hu : X.A.units + 64 < cLine) : OpR X (compareOp .Eq) (rC2 X.K eqD) := by
  intro pins s σ H x y v u Q I rx ry ⟨F, d, e, b, sF, qd, qe, hz, o⟩
  unfold eqD at hz
  split at hz
  · rename_i h
    cases hz
    rw [Bool.and_eq_true] at h
    obtain ⟨h1, h2⟩ := shD_dp sF qd h.1
    obtain ⟨h3, h4⟩ := shD_dp sF qe h.2
    exact op_eqD hu pins s σ H x y v u Q I rx ry ⟨_, _, h1, h3, h2, h4, o⟩
  · cases hz
theorem op_neF (hu : X.A.units + 64 < cLine) : OpR X (compareOp .NotEq) (rC2 X.K neD) := by
  intro pins s σ H x y v u Q I rx ry ⟨F, d, e, b, sF, qd, qe, hz, o⟩
  unfold neD eqD at hz
  split at hz
  · rename_i h
    cases hz
    rw [Bool.and_eq_true] at h
    obtain ⟨h1, h2⟩ := shD_dp sF qd h.1
    obtain ⟨h3, h4⟩ := shD_dp sF qe h.2
    exact op_neD hu pins s σ H x y v u Q I rx ry ⟨_, _, h1, h3, h2, h4, o⟩
  · cases hz
theorem op_ltF : OpR X (compareOp .Lt) (rC2 X.K ltD) := by
  intro pins s σ H x y v u Q I rx ry ⟨F, d, e, b, sF, qd, qe, hz, o⟩
  unfold ltD at hz
  split at hz
  · cases hz
    exact op_lt pins s σ H x y v u Q I rx ry ⟨_, _, qd.int, qe.int, o⟩
  · cases hz
    exact op_lt_str pins s σ H x y v u Q I rx ry ⟨_, _, qd.str, qe.str, o⟩
  · cases hz
theorem op_gtF : OpR X (compareOp .Gt) (rC2 X.K gtD) := by
  intro pins s σ H x y v u Q I rx ry ⟨F, d, e, b, sF, qd, qe, hz, o⟩
  unfold gtD at hz
  split at hz
  · cases hz
    exact op_gt pins s σ H x y v u Q I rx ry ⟨_, _, qd.int, qe.int, o⟩
  · cases hz
    exact op_gt_str pins s σ H x y v u Q I rx ry ⟨_, _, qd.str, qe.str, o⟩
  · cases hz
theorem op_leF : OpR X (compareOp .LtE) (rC2 X.K leD) := by
  intro pins s σ H x y v u Q I rx ry ⟨F, d, e, b, sF, qd, qe, hz, o⟩
  unfold leD at hz
  split at hz
  · cases hz
    exact op_le pins s σ H x y v u Q I rx ry ⟨_, _, qd.int, qe.int, o⟩
  · cases hz
    exact op_le_str pins s σ H x y v u Q I rx ry ⟨_, _, qd.str, qe.str, o⟩
  · cases hz
theorem op_geF : OpR X (compareOp .GtE) (rC2 X.K geD) := by
  intro pins s σ H x y v u Q I rx ry ⟨F, d, e, b, sF, qd, qe, hz, o⟩
  unfold geD at hz
  split at hz
  · cases hz
    exact op_ge pins s σ H x y v u Q I rx ry ⟨_, _, qd.int, qe.int, o⟩
  · cases hz
    exact op_ge_str pins s σ H x y v u Q I rx ry ⟨_, _, qd.str, qe.str, o⟩
  · cases hz
/-- is None -/
def isND : D → D → Option Bool
  | .raw _, .non => none
  | d, .non => some (match d with | .non => true | _ => false)
  | _, _ => none
def notND (d e : D) : Option Bool := (isND d e).map (!·)
theorem Rq.isnon (s : Same F H) {v : V} {d e : D} {b : Bool} (q : Rq K F H v d) (h : isND d e = some b) : e = .non ∧ b = decide (v = .non) := by
  cases e with
  | non =>
    refine ⟨rfl, ?_⟩
    cases d with
    | raw x => cases h
    | non => cases h; rw [q.non]; rfl
    | bl x => cases h; rw [q.bl]; rfl
    | int x => cases h; rw [q.int]; rfl
    | str x => cases h; rw [q.str]; rfl
    | lst x => cases h; obtain ⟨a, xs, rfl, _⟩ := q.lst s; rfl
    | tup x => cases h; obtain ⟨a, xs, rfl, _⟩ := q.tup s; rfl
    | dic x => cases h; obtain ⟨a, rfl, _⟩ := q.dic s; rfl
    | ins x y => cases h; obtain ⟨a, dx, fs, rfl, _⟩ := q.ins s; rfl
  | _ => cases d <;> cases h
theorem op_isF : OpR X (compareOp .Is) (rC2 X.K isND) := by
  intro pins s σ H x y v u Q I rx ry ⟨F, d, e, b, sF, qd, qe, hz, o⟩
  obtain ⟨rfl, rfl⟩ := qd.isnon sF hz
  exact op_isN pins s σ H x y v u Q I rx ry ⟨qe.non, o⟩
theorem op_notF : OpR X (compareOp .IsNot) (rC2 X.K notND) := by
  intro pins s σ H x y v u Q I rx ry ⟨F, d, e, b, sF, qd, qe, hz, o⟩
  unfold notND at hz
  cases h : isND d e with
  | none => rw [h] at hz; cases hz
  | some c =>
    rw [h] at hz
    cases hz
    obtain ⟨rfl, rfl⟩ := qd.isnon sF h
    exact op_notN pins s σ H x y v u Q I rx ry ⟨qe.non, o⟩
/-- in a text, a list, a tuple (of data without dicts) -/
def inSD (a b : Str) : Bool := match a.cps.toList with
  | [c] => decide (c ∈ b.cps.toList)
  | _ => !(Builtin.Str.occurrences b a 0 b.length 1).isEmpty
def memD (d : D) (l : List D) : Bool := (toPyL l).any fun z => PyData.eqv z (toPy d)
def inD : D → D → Option Bool
  | .str a, .str b => some (inSD a b)
  | d, .lst l => if shD d && shD (.lst l) then some (memD d l) else none
  | d, .tup l => if shD d && shD (.tup l) then some (memD d l) else none
  | _, _ => none
def notInD (d e : D) : Option Bool := (inD d e).map (!·)
theorem str_one {a : Str} {c : Nat} (h : a.cps.toList = [c]) : a = ⟨#[c]⟩ := by
  cases a with
  | mk cps =>
    have : cps = #[c] := by
      apply Array.ext'
      exact h
    rw [this]
theorem op_inF (hu : X.A.units + 65 < cLine) : OpR X (compareOp .In) (rC2 X.K inD) := by
  intro pins s σ H x y v u Q I rx ry ⟨F, d, e, b, sF, qd, qe, hz, o⟩
  unfold inD at hz
  split at hz
  · rename_i a b'
    cases hz
    unfold inSD at o
    split at o
    · rename_i c hc
      rw [str_one hc] at qd
      exact op_in_sign pins s σ H x y v u Q I rx ry ⟨c, _, qd.str, qe.str, o⟩
    · exact op_in_str pins s σ H x y v u Q I rx ry ⟨_, _, qd.str, qe.str, o⟩
  · split at hz
    · rename_i h
      cases hz
      rw [Bool.and_eq_true] at h
      obtain ⟨h1, h2⟩ := shD_dp sF qd h.1
      obtain ⟨h3, h4⟩ := shD_dp sF qe h.2
      obtain ⟨as, r1⟩ := Dp.reads I _ x v h1 rx
      obtain ⟨bs, r2⟩ := Dp.reads I _ y u h3 ry
      simp only [toPy] at r2 h4
      exact SeqAt.in_list_reads r2 r1 (SeqAt.canLay_of_shaped h4) (SeqAt.canLay_of_shaped h2) (room_in_shaped h2 hu) ⟨.bl _, H, I, rfl, o⟩
    · cases hz
  · split at hz
    · rename_i h
      cases hz
      rw [Bool.and_eq_true] at h
      obtain ⟨h1, h2⟩ := shD_dp sF qd h.1
      obtain ⟨h3, h4⟩ := shD_dp sF qe h.2
      obtain ⟨as, r1⟩ := Dp.reads I _ x v h1 rx
      obtain ⟨bs, r2⟩ := Dp.reads I _ y u h3 ry
      simp only [toPy] at r2 h4
      exact SeqAt.in_tuple_reads r2 r1 (SeqAt.canLay_of_shaped h4) (SeqAt.canLay_of_shaped h2) (room_in_shaped h2 hu) ⟨.bl _, H, I, rfl, o⟩
    · cases hz
  · cases hz
end
end Fx

/-! Fx: built-in functions as functions on trees. -/
namespace Fx
open PySem PySem.Spec PyProof.Rows L2

section
variable {X : Cx}
/-! ### len -/
def lenF : List D → Option D
  | [.str x] => if x.length ≤ sizeLine then some (.int x.length) else none
  | [.lst l] => some (.int l.length)
  | [.tup l] => some (.int l.length)
  | [.dic l] => some (.int l.length)
  | _ => none
theorem RpK.len {K : PySem.W.Frag} {H : Hp} : ∀ {kvs : List (Key × V)} {es : List (D × D)}, RpK K H kvs es → kvs.length = es.length
  | _, _, .nil => rfl
  | _, _, .cons _ t => by simp [RpK.len t]
theorem RpT.len {K : PySem.W.Frag} {H : Hp} : ∀ {kvs : List (List Key × V)} {es : List (D × D)}, RpT K H kvs es → kvs.length = es.length
  | _, _, .nil => rfl
  | _, _, .cons _ t => by simp [RpT.len t]
theorem RpF.len {K : PySem.W.Frag} {H : Hp} : ∀ {kvs : List (Str × V)} {es : List (Str × D)}, RpF K H kvs es → kvs.length = es.length
  | _, _, .nil => rfl
  | _, _, .cons _ t => by simp [RpF.len t]
theorem call_lenF : CallR X (.builtin "len") (rFn X.K lenF) := by
  intro pins s σ H xs us Q I r ⟨F, ds, z, sF, q, hz, o⟩
  unfold lenF at hz
  split at hz
  · split at hz
    · cases hz
      obtain ⟨v, rfl, q1⟩ := q.one
      cases q1.str
      exact call_len pins s σ H _ us Q I r ⟨_, _, rfl, ⟨by assumption, rfl⟩, o.same sF (.int _)⟩
    · cases hz
  · cases hz
    obtain ⟨v, rfl, q1⟩ := q.one
    obtain ⟨a, ys, rfl, h1, t1⟩ := q1.lst sF
    exact call_len pins s σ H _ us Q I r ⟨_, _, rfl, .inl ⟨ys, h1, rfl⟩, o.same sF (by rw [t1.length]; exact .int _)⟩
  · cases hz
    obtain ⟨v, rfl, q1⟩ := q.one
    obtain ⟨a, ys, rfl, h1, t1⟩ := q1.tup sF
    exact call_len pins s σ H _ us Q I r ⟨_, _, rfl, .inr ⟨ys, h1, rfl⟩, o.same sF (by rw [t1.length]; exact .int _)⟩
  · cases hz
    obtain ⟨v, rfl, q1⟩ := q.one
    obtain ⟨u, rfl, ru⟩ := vals1 r
    obtain ⟨a, rfl, ⟨kvs, h, t⟩ | ⟨kvs, h, t⟩⟩ := q1.dic sF
    · cases (show u = Value.ref a from ru)
      exact d_len I h fun tk s' I' => ⟨.int kvs.length, H, I', ⟨tk, rfl⟩, o.same sF (by rw [t.len]; exact .int _)⟩
    · cases (show u = Value.ref a from ru)
      obtain ⟨zz, hd, ys, rel, dd⟩ := dt_rd I.hok h
      have hl : kvs.length = ys.length := Paired.length rel
      refine PySem.call_len_dictH hd dd (by rw [← hl]; rw [sizeLine_eq] at zz; omega) ?_
      rw [← hl]
      exact ⟨.int (kvs.length : Nat), H, I.tok _, ⟨_, rfl⟩, o.same sF (by rw [t.len]; exact .int _)⟩
  · cases hz

/-! ### isinstance(x, T) of built-in types -/
def tyD : D → Option String
  | .non => some "NoneType"
  | .bl _ => some "bool"
  | .int _ => some "int"
  | .str _ => some "str"
  | .lst _ => some "list"
  | .tup _ => some "tuple"
  | .dic _ => some "dict"
  | _ => none
def isTy (d : D) (T : String) : Option Bool := match tyD d with
  | none => none
  | some t =>
    if T = "str" then some (t == "str") else if T = "int" then some (t == "int" || t == "bool") else if T = "bool" then some (t == "bool")
    else if T = "list" then some (t == "list") else if T = "tuple" then some (t == "tuple") else if T = "dict" then some (t == "dict") else none
theorem isTy_kit {d : D} {T t : String} {b : Bool} (ht : tyD d = some t) (h : isTy d T = some b) : kitB t T = some b := by
  unfold isTy at h
  rw [ht] at h
  simp only at h
  have all : t = "NoneType" ∨ t = "bool" ∨ t = "int" ∨ t = "str" ∨ t = "list" ∨ t = "tuple" ∨ t = "dict" := by
    cases d <;> simp [tyD] at ht <;> subst ht <;> simp
  have fin : ∀ t' T' : String, ∀ b' : Bool, kitB t' T' = some b' → t = t' → T = T' → b = b' → kitB t T = some b := fun t' T' b' e1 e2 e3 e4 => by rw [e2, e3, e4]; exact e1
  split at h
  · rename_i e
    subst e
    cases h
    rcases all with e | e | e | e | e | e | e <;> subst e <;> decide +kernel
  · split at h
    · rename_i e
      subst e
      cases h
      rcases all with e | e | e | e | e | e | e <;> subst e <;> decide +kernel
    · split at h
      · rename_i e
        subst e
        cases h
        rcases all with e | e | e | e | e | e | e <;> subst e <;> decide +kernel
      · split at h
        · rename_i e
          subst e
          cases h
          rcases all with e | e | e | e | e | e | e <;> subst e <;> decide +kernel
        · split at h
          · rename_i e
            subst e
            cases h
            rcases all with e | e | e | e | e | e | e <;> subst e <;> decide +kernel
          · split at h
            · rename_i e
              subst e
              cases h
              rcases all with e | e | e | e | e | e | e <;> subst e <;> decide +kernel
            · cases h
/-- what isinstance asks of a value whose tree has a built-in type -/
theorem kit_tree {pins : List (Addr × Obj)} {σ : L2.St} {F H : Hp} {s : Shared} {x : V} {u : Value} {d : D} {t : String} (I : Inv X pins σ H s) (rx : RelV x u) (sF : Same F H) (q : Rq X.K F H x d) (ht : tyD d = some t) :
    ∃ P : Heap → Prop, PySem.W.KitX X.K u (.type t) P ∧ P s.heap ∧ u ≠ .builtin "__main__.__loader__#opaque" := by
  have base : ∀ {x : V}, RelV x u → TyX X.K H x (.type t) → ∃ P : Heap → Prop, PySem.W.KitX X.K u (.type t) P ∧ P s.heap ∧ u ≠ .builtin "__main__.__loader__#opaque" := fun rx ty => kit_of I rx ty
  cases d with
  | non => cases q.non; cases ht; exact base rx (.base .non)
  | bl b => cases q.bl; cases ht; exact base rx (.base (.bl b))
  | int b => cases q.int; cases ht; exact base rx (.base (.int b))
  | str b => cases q.str; cases ht; exact base rx (.base (.str b))
  | lst l =>
    obtain ⟨a, ys, rfl, h1, t1⟩ := q.lst sF
    cases ht
    rcases h1 with (h | ⟨o, h⟩) | ⟨o, its, n, h, c, _⟩
    · exact base rx (.base (.lst h))
    · exact base rx (.base (.frz h))
    · exact base rx (.kList h c)
  | tup l =>
    obtain ⟨a, ys, rfl, h1, t1⟩ := q.tup sF
    cases ht
    rcases h1 with (h | ⟨o, h⟩) | ⟨o, its, n, h, c, _⟩
    · exact base rx (.base (.tup h))
    · exact base rx (.fTuple h)
    · exact base rx (.kTuple h c)
  | dic l =>
    obtain ⟨a, rfl, ⟨kvs, h, _⟩ | ⟨kvs, h, _⟩⟩ := q.dic sF
    · cases ht
      rcases h with h | ⟨o, h⟩
      · exact base rx (.base (.dK h))
      · exact base rx (.fDict h)
    · cases ht
      cases (show u = Value.ref a from rx)
      obtain ⟨_, _, xs, _, o, es, ep, h1, h2, _⟩ := (show ObjOk X.prog X.w H s.heap a (.dT kvs) from h.ok I.hok)
      exact ⟨_, PySem.W.kitx_dict, ⟨o, h1, h2.1⟩, fun z => nomatch z⟩
  | raw v => cases ht
  | ins C fs => cases ht
def isiF : List D → Option D
  | [d, .raw (.ty T)] => (isTy d T).map .bl
  | _ => none
theorem call_isiF : CallR X (.builtin "isinstance") (rFn X.K isiF) := by
  intro pins s σ H xs us Q I r ⟨F, ds, z, sF, q, hz, o⟩
  unfold isiF at hz
  split at hz
  · rename_i d T
    obtain ⟨v, c, rfl, q1, q2⟩ := q.two
    cases q2.raw
    obtain ⟨u1, u2, rfl, r1, r2⟩ := vals2 r
    cases (show u2 = Value.type T from r2)
    cases hb : isTy d T with
    | none => rw [hb] at hz; cases hz
    | some b =>
      rw [hb] at hz
      cases hz
      cases ht : tyD d with
      | none => unfold isTy at hb; rw [ht] at hb; cases hb
      | some t =>
        obtain ⟨P, Z, p, hx⟩ := kit_tree I r1 sF q1 ht
        exact PySem.W.kia_one Z I.kIn p (kit_ty (isTy_kit ht hb)) hx fun tk => ⟨.bl b, H, I.tok tk, rfl, o.same sF (.bl b)⟩
  · cases hz

/-! ### all, any, sum, max, min, abs, int, str of ints -/
def blsD : List D → Option (List Bool)
  | [] => some []
  | .bl b :: r => (blsD r).map (b :: ·)
  | _ :: _ => none
def intsD : List D → Option (List Int)
  | [] => some []
  | .int b :: r => (intsD r).map (b :: ·)
  | _ :: _ => none
theorem bls_rp {K : PySem.W.Frag} {F : Hp} : ∀ {vs : List V} {ds : List D} {bs : List Bool}, RpL K F vs ds → blsD ds = some bs → vs = bs.map V.bl
  | _, _, _, .nil, h => by cases h; rfl
  | _, _, bs, .cons (d := d) a t, h => by
    cases d <;> simp only [blsD] at h <;> try (cases h; done)
    rename_i b
    cases e : blsD _ with
    | none => rw [e] at h; cases h
    | some r =>
      rw [e] at h
      cases h
      cases a
      rw [bls_rp t e]
      rfl
theorem ints_rp {K : PySem.W.Frag} {F : Hp} : ∀ {vs : List V} {ds : List D} {bs : List Int}, RpL K F vs ds → intsD ds = some bs → vs = bs.map V.int
  | _, _, _, .nil, h => by cases h; rfl
  | _, _, bs, .cons (d := d) a t, h => by
    cases d <;> simp only [intsD] at h <;> try (cases h; done)
    rename_i b
    cases e : intsD _ with
    | none => rw [e] at h; cases h
    | some r =>
      rw [e] at h
      cases h
      cases a
      rw [ints_rp t e]
      rfl
def allF : List D → Option D
  | [.lst l] => (blsD l).map fun bs => .bl (bs.all id)
  | _ => none
def anyF : List D → Option D
  | [.lst l] => (blsD l).map fun bs => .bl (bs.any id)
  | _ => none
def sumF : List D → Option D
  | [.lst l] => (intsD l).map fun bs => .int bs.sum
  | _ => none
theorem one_lst {K : PySem.W.Frag} {F H : Hp} {xs : List V} {l : List D} (s : Same F H) (q : RqL K F H xs [.lst l]) : ∃ a ys, xs = [.ref a] ∧ SqL K H a ys ∧ RpL K F ys l := by
  obtain ⟨v, rfl, q1⟩ := q.one
  obtain ⟨a, ys, rfl, h, t⟩ := q1.lst s
  exact ⟨a, ys, rfl, h, t⟩
theorem call_allF (hc : X.calm = true) : CallR X (.builtin "all") (rFn X.K allF) := by
  intro pins s σ H xs us Q I r ⟨F, ds, z, sF, q, hz, o⟩
  unfold allF at hz
  split at hz
  · obtain ⟨a, ys, rfl, h, t⟩ := one_lst sF q
    cases e : blsD _ with
    | none => rw [e] at hz; cases hz
    | some bs =>
      rw [e] at hz
      cases hz
      exact cr_all hc pins s σ H _ us Q I r ⟨a, bs, rfl, by rw [← bls_rp t e]; exact h, o.same sF (.bl _)⟩
  · cases hz
theorem call_anyF (hc : X.calm = true) : CallR X (.builtin "any") (rFn X.K anyF) := by
  intro pins s σ H xs us Q I r ⟨F, ds, z, sF, q, hz, o⟩
  unfold anyF at hz
  split at hz
  · obtain ⟨a, ys, rfl, h, t⟩ := one_lst sF q
    cases e : blsD _ with
    | none => rw [e] at hz; cases hz
    | some bs =>
      rw [e] at hz
      cases hz
      exact cr_any hc pins s σ H _ us Q I r ⟨a, bs, rfl, by rw [← bls_rp t e]; exact h, o.same sF (.bl _)⟩
  · cases hz
theorem call_sumF (hc : X.calm = true) : CallR X (.builtin "sum") (rFn X.K sumF) := by
  intro pins s σ H xs us Q I r ⟨F, ds, z, sF, q, hz, o⟩
  unfold sumF at hz
  split at hz
  · obtain ⟨a, ys, rfl, h, t⟩ := one_lst sF q
    cases e : intsD _ with
    | none => rw [e] at hz; cases hz
    | some bs =>
      rw [e] at hz
      cases hz
      exact cr_sum hc pins s σ H _ us Q I r ⟨a, bs, rfl, by rw [← ints_rp t e]; exact h, o.same sF (.int _)⟩
  · cases hz
def max2F : List D → Option D
  | [.int a, .int b] => some (.int (if b > a then b else a))
  | _ => none
def min2F : List D → Option D
  | [.int a, .int b] => some (.int (if b < a then b else a))
  | _ => none
theorem call_max2F (hc : X.calm = true) : CallR X (.builtin "max") (rFn X.K max2F) := by
  intro pins s σ H xs us Q I r ⟨F, ds, z, sF, q, hz, o⟩
  unfold max2F at hz
  split at hz
  · cases hz
    obtain ⟨v, c, rfl, q1, q2⟩ := q.two
    cases q1.int
    cases q2.int
    exact call_max2 hc pins s σ H _ us Q I r ⟨_, _, rfl, o.same sF (.int _)⟩
  · cases hz
theorem call_min2F (hc : X.calm = true) : CallR X (.builtin "min") (rFn X.K min2F) := by
  intro pins s σ H xs us Q I r ⟨F, ds, z, sF, q, hz, o⟩
  unfold min2F at hz
  split at hz
  · cases hz
    obtain ⟨v, c, rfl, q1, q2⟩ := q.two
    cases q1.int
    cases q2.int
    exact call_min2 hc pins s σ H _ us Q I r ⟨_, _, rfl, o.same sF (.int _)⟩
  · cases hz
def absF : List D → Option D
  | [.int a] => some (.int (if a < 0 then -a else a))
  | _ => none
theorem call_absF : CallR X (.builtin "abs") (rFn X.K absF) := by
  intro pins s σ H xs us Q I r ⟨F, ds, z, sF, q, hz, o⟩
  unfold absF at hz
  split at hz
  · cases hz
    obtain ⟨v, rfl, q1⟩ := q.one
    cases q1.int
    exact call_abs pins s σ H _ us Q I r ⟨_, rfl, o.same sF (.int _)⟩
  · cases hz
def intF : List D → Option D
  | [.int a] => some (.int a)
  | [.bl b] => some (.int (if b then 1 else 0))
  | _ => none
theorem call_intF : CallR X (.type "int") (rFn X.K intF) := by
  intro pins s σ H xs us Q I r ⟨F, ds, z, sF, q, hz, o⟩
  unfold intF at hz
  split at hz
  · cases hz
    obtain ⟨v, rfl, q1⟩ := q.one
    cases q1.int
    exact call_int1 pins s σ H _ us Q I r (.inl ⟨_, rfl, o.same sF (.int _)⟩)
  · cases hz
    obtain ⟨v, rfl, q1⟩ := q.one
    cases q1.bl
    exact call_int1 pins s σ H _ us Q I r (.inr ⟨_, rfl, o.same sF (.int _)⟩)
  · cases hz
def strF : List D → Option D
  | [.int a] => if a.natAbs.log2 < 1920 then some (.str (toString a)) else none
  | _ => none
theorem call_strF : CallR X (.type "str") (rFn X.K strF) := by
  intro pins s σ H xs us Q I r ⟨F, ds, z, sF, q, hz, o⟩
  unfold strF at hz
  split at hz
  · split at hz
    · cases hz
      obtain ⟨v, rfl, q1⟩ := q.one
      cases q1.int
      exact call_str_int pins s σ H _ us Q I r ⟨_, rfl, by assumption, o.same sF (.str _)⟩
    · cases hz
  · cases hz

/-! ### repr, of data without dicts -/
def rprF : List D → Option D
  | [d] => if flatD d && (toPy d).showable && decide ((toPy d).depth ≤ 60) && decide ((toPy d).shown.length ≤ sizeLine) then some (.str (toPy d).shown) else none
  | _ => none
mutual
theorem flat_nodict : ∀ {d : D}, flatD d = true → (toPy d).hasDict = false
  | .non, _ => by simp only [toPy, PyData.hasDict]
  | .bl _, _ => by simp only [toPy, PyData.hasDict]
  | .int _, _ => by simp only [toPy, PyData.hasDict]
  | .str _, _ => by simp only [toPy, PyData.hasDict]
  | .lst l, h => by simp only [toPy, PyData.hasDict]; exact flatL_nodict (by simpa [flatD] using h)
  | .tup l, h => by simp only [toPy, PyData.hasDict]; exact flatL_nodict (by simpa [flatD] using h)
  | .dic _, h => by simp [flatD] at h
  | .raw _, h => by simp [flatD] at h
  | .ins _ _, h => by simp [flatD] at h
theorem flatL_nodict : ∀ {l : List D}, flatL l = true → PyData.hasDictAll (toPyL l) = false
  | [], _ => by simp only [toPyL, PyData.hasDictAll]
  | d :: r, h => by
    simp only [flatL, Bool.and_eq_true] at h
    simp only [toPyL, PyData.hasDictAll, flat_nodict h.1, flatL_nodict h.2, Bool.or_self]
end
theorem call_reprF (hg : X.A.guards = some []) (hu : X.A.units + 64 < cLine) : CallR X (.builtin "repr") (rFn X.K rprF) := by
  intro pins s σ H xs us Q I r ⟨F, ds, z, sF, q, hz, o⟩
  unfold rprF at hz
  split at hz
  · rename_i d
    split at hz
    · rename_i hc
      cases hz
      simp only [Bool.and_eq_true, decide_eq_true_eq] at hc
      obtain ⟨⟨⟨c1, c2⟩, c3⟩, c4⟩ := hc
      obtain ⟨v, rfl, q1⟩ := q.one
      obtain ⟨u, rfl, rv⟩ := vals1 r
      have out : ∀ (h' : Heap) (t : Tok) (tk : Nat), (∀ b ob, s.heap.get? b = some ob → h'.get? b = some ob) → EP X pins σ Q (.str (toPy d).shown t) { s with heap := h', toks := tk } :=
        fun h' t tk k => ⟨.str _, H, I.kept k, ⟨t, rfl⟩, o.same sF (.str _)⟩
      have byRef : ∀ a, v = .ref a → wpAny (model X.prog X.w) X.A (call (.builtin "repr") [u]) (EP X pins σ Q) X.xe s := fun a e => by
        subst e
        have dp := (q1.to sF).dp c1
        obtain ⟨as, rd⟩ := Dp.reads I _ _ u dp rv
        cases (show u = Value.ref a from rv)
        exact repr_of_reads' rd c2 (fun e => by rw [flat_nodict c1] at e; cases e) hg (by omega) (fun _ _ e => e) (fun h' t tk k => out h' t tk k) c4
      cases d with
      | non =>
        cases q1.non
        cases rv
        exact PySem.P.repr_of_none (out s.heap _ _ fun _ _ e => e)
      | bl b =>
        cases q1.bl
        cases rv
        refine PySem.P.repr_of_bool ?_
        have e : (toPy (.bl b)).shown = (if b then "True" else "False" : Str) := by cases b <;> simp only [toPy, PyData.shown] <;> rfl
        have := out s.heap s.toks (s.toks + 1) fun _ _ e => e
        rw [e] at this
        cases b <;> exact this
      | int i =>
        cases q1.int
        obtain ⟨t, rfl⟩ := rv
        simp only [toPy, PyData.showable, decide_eq_true_eq] at c2
        refine PySem.P.repr_of_int c2 ?_
        have e : (toPy (.int i)).shown = (toString i : Str) := by simp only [toPy, PyData.shown]
        have := out s.heap s.toks (s.toks + 1) fun _ _ e => e
        rw [e] at this
        exact this
      | str x =>
        cases q1.str
        obtain ⟨t, rfl⟩ := rv
        have e : (toPy (.str x)).shown = reprText x := by simp only [toPy, PyData.shown]
        rw [e] at c4
        have := out s.heap s.toks (s.toks + 1) fun _ _ e => e
        rw [e] at this
        exact PySem.P.repr_of_str this c4
      | lst l =>
        obtain ⟨a, ys, rfl, _⟩ := q1.lst sF
        exact byRef a rfl
      | tup l =>
        obtain ⟨a, ys, rfl, _⟩ := q1.tup sF
        exact byRef a rfl
      | dic l => simp [flatD] at c1
      | raw l => simp [flatD] at c1
      | ins l => simp [flatD] at c1
    · cases hz
  · cases hz
end
end Fx

/-! Fx: expressions and tests as functions on slot states. -/
namespace Fx
open PySem PySem.Spec PyProof.Rows L2

/-! ### what an expression hands on: a tree, or the object that slot j holds -/
inductive Ar where
  | v (d : D) | sl (j : Nat)
/-- what a call hands on: a tree that stays, or a new list or dict -/
inductive Rv where
  | v (d : D) | nw (d : D)
/-- an exception: its class, its fields -/
structure Xn where
  cls : Value
  fs : List (Str × D)
inductive R (α : Type) where
  | ok (a : α) (Γ : Gm) | ex (x : Xn) (Γ : Gm) | no
abbrev M (α : Type) := Gm → R α
def R.bind {α β : Type} : R α → (α → Gm → R β) → R β
  | .ok a Γ, f => f a Γ
  | .ex x Γ, _ => .ex x Γ
  | .no, _ => .no
def R.opt {α : Type} (Γ : Gm) : Option α → R α
  | some a => .ok a Γ
  | none => .no
def XOk (K : PySem.W.Frag) (F : Hp) (x : Xn) (cls : Value) (dO : Option Addr) : Prop :=
  cls = x.cls ∧ ((dO = none ∧ x.fs = []) ∨ ∃ d fs, dO = some d ∧ F d = some (.xd fs) ∧ RpF K F fs x.fs)

/-- what stands behind a run: REL relates what came to what was told -/
def Post {α β : Type} (K : PySem.W.Frag) (W : WX) (n : Ent) (F : Hp) (σ : L2.St) (REL : Hp → Hp → Gm → β → α → Prop) (Q : β → Hp → Prop) : R α → Prop
  | .ok a Γ' => ∀ b F' H', Same F F' → Sim K n F' Γ' σ H' → REL F' H' Γ' b a → Q b H'
  | .ex x Γ' => ∀ cls dO F' H', Same F F' → Sim K n F' Γ' σ H' → XOk K F' x cls dO → W cls dO σ H'
  | .no => False
def RelA (K : PySem.W.Frag) (σ : L2.St) (F : Hp) (v : V) : Ar → Prop
  | .v d => Rp K F v d
  | .sl j => σ[j]? = some (some v)
inductive RelAs (K : PySem.W.Frag) (σ : L2.St) (F : Hp) : List V → List Ar → Prop
  | nil : RelAs K σ F [] []
  | cons {v : V} {vs : List V} {a : Ar} {as : List Ar} : RelA K σ F v a → RelAs K σ F vs as → RelAs K σ F (v :: vs) (a :: as)
def RvOk (K : PySem.W.Frag) (n : Ent) (σ : L2.St) (F H : Hp) (Γ : Gm) (v : V) : Rv → Prop
  | .v d => Rp K F v d
  | .nw d => ∃ p, v = .ref p ∧ F p = none ∧ (n.H0 p = none ∨ n.W p) ∧ OwnAt K F H p d ∧ ∀ (i : Nat) (s : Sl), Γ[i]? = some s → s.mine = true → σ[i]? ≠ some (some (V.ref p))
theorem RelA.mono {K : PySem.W.Frag} {σ : L2.St} {F F' : Hp} {v : V} {a : Ar} (e : Same F F') (h : RelA K σ F v a) : RelA K σ F' v a := by
  cases a with
  | v d => exact Rp.mono e h
  | sl j => exact h
theorem RelAs.mono {K : PySem.W.Frag} {σ : L2.St} {F F' : Hp} (e : Same F F') : ∀ {vs : List V} {as : List Ar}, RelAs K σ F vs as → RelAs K σ F' vs as
  | _, _, .nil => .nil
  | _, _, .cons h t => .cons (h.mono e) (RelAs.mono e t)

/-- the reading of an expression that does m -/
def tM (K : PySem.W.Frag) (W : WX) (m : M Ar) : TE := fun σ H Q => ∃ n F Γ, Sim K n F Γ σ H ∧ Post K W n F σ (fun F _ _ => RelA K σ F) Q (m Γ)
/-- .. of an expression whose value is assigned or returned -/
def tN (K : PySem.W.Frag) (W : WX) (m : M Rv) : TE := fun σ H Q => ∃ n F Γ, Sim K n F Γ σ H ∧ Post K W n F σ (RvOk K n σ) Q (m Γ)
/-- .. of a test -/
def tQ (K : PySem.W.Frag) (W : WX) (m : M Bool) : TT := fun σ H Q => ∃ n F Γ, Sim K n F Γ σ H ∧ Post K W n F σ (fun _ _ _ b c => b = c) Q (m Γ)
/-- .. of arguments -/
def tAs (K : PySem.W.Frag) (W : WX) (m : M (List Ar)) : TA := fun σ H Q => ∃ n F Γ, Sim K n F Γ σ H ∧ Post K W n F σ (fun F _ _ => RelAs K σ F) Q (m Γ)

theorem Post.wk {α β : Type} {K : PySem.W.Frag} {W : WX} {n : Ent} {F F1 : Hp} {σ : L2.St} {REL : Hp → Hp → Gm → β → α → Prop} {Q : β → Hp → Prop} {r : R α} (e : Same F F1) (h : Post K W n F σ REL Q r) : Post K W n F1 σ REL Q r := by
  cases r with
  | ok a Γ' => exact fun b F' H' s S q => h b F' H' (e.trans s) S q
  | ex x Γ' => exact fun c d F' H' s S q => h c d F' H' (e.trans s) S q
  | no => exact h
/-- one run, then the next -/
theorem Post.seq {α β γ δ : Type} {K : PySem.W.Frag} {W : WX} {n : Ent} {F : Hp} {σ : L2.St} {REL : Hp → Hp → Gm → β → α → Prop} {REL2 : Hp → Hp → Gm → δ → γ → Prop} {Q : δ → Hp → Prop} {Q1 : β → Hp → Prop} {r : R α} {f : α → Gm → R γ}
    (h : Post K W n F σ REL2 Q (r.bind f)) (k : ∀ a Γ1 b F1 H1, r = .ok a Γ1 → Same F F1 → Sim K n F1 Γ1 σ H1 → REL F1 H1 Γ1 b a → Post K W n F1 σ REL2 Q (f a Γ1) → Q1 b H1) : Post K W n F σ REL Q1 r := by
  cases r with
  | ok a Γ' => exact fun b F' H' s S q => k a Γ' b F' H' rfl s S q (h.wk s)
  | ex x Γ' => exact h
  | no => exact h
theorem Post.ok {α β : Type} {K : PySem.W.Frag} {W : WX} {n : Ent} {F : Hp} {σ : L2.St} {REL : Hp → Hp → Gm → β → α → Prop} {Q : β → Hp → Prop} {a : α} {Γ : Gm} {b : β} {F' H' : Hp} (h : Post K W n F σ REL Q (.ok a Γ)) (e : Same F F') (S : Sim K n F' Γ σ H') (r : REL F' H' Γ b a) : Q b H' := h b F' H' e S r

theorem pe_imp {X : Cx} {e : Expr} {t t' : TE} (h : PE X e t) (i : ∀ σ H Q, t' σ H Q → t σ H Q) : PE X e t' := ⟨fun pins s σ H Q I q => h.run pins s σ H Q I (i _ _ _ q)⟩
theorem pt_imp {X : Cx} {e : Expr} {t t' : TT} (h : PT X e t) (i : ∀ σ H Q, t' σ H Q → t σ H Q) : PT X e t' := ⟨fun pins s σ H Q I q => h.run pins s σ H Q I (i _ _ _ q)⟩
theorem pw_imp {X : Cx} {e : Expr} {t t' : TT} (h : PW X e t) (i : ∀ σ H Q, t' σ H Q → t σ H Q) : PW X e t' := ⟨fun wh pins s σ H Q I q => h.run wh pins s σ H Q I (i _ _ _ q)⟩
theorem pa_imp {X : Cx} {es : List Expr} {t t' : TA} (h : PA X es t) (i : ∀ σ H Q, t' σ H Q → t σ H Q) : PA X es t' := ⟨fun pos pins s σ H Q I q => h.run pos pins s σ H Q I (i _ _ _ q)⟩
theorem ps_imp {X : Cx} {st : Stmt} {t t' : TS} (h : PS X st t) (i : ∀ D σ H, t' D σ H → t D σ H) : PS X st t' := ⟨fun pins s σ H D I q => h.run pins s σ H D I (i _ _ _ q)⟩
theorem pss_imp {X : Cx} {st : List Stmt} {t t' : TS} (h : PSs X st t) (i : ∀ D σ H, t' D σ H → t D σ H) : PSs X st t' := ⟨fun pins s σ H D I q => h.run pins s σ H D I (i _ _ _ q)⟩

/-! ### what is held by a slot -/
def Sl.tree : Sl → Option D
  | .val d => some d
  | .own d => some d
  | .io d => some d
  | .un => none
/-- the tree of what was handed on -/
def atG (Γ : Gm) : Ar → Option D
  | .v d => some d
  | .sl j => (Γ[j]?).bind Sl.tree
def atL (Γ : Gm) : List Ar → Option (List D)
  | [] => some []
  | a :: as => (atG Γ a).bind fun d => (atL Γ as).map (d :: ·)
section
variable {K : PySem.W.Frag} {W : WX} {n : Ent} {F H : Hp} {Γ : Gm} {σ : L2.St}
theorem Sim.rq (S : Sim K n F Γ σ H) {v : V} {a : Ar} {d : D} (r : RelA K σ F v a) (h : atG Γ a = some d) : Rq K F H v d := by
  cases a with
  | v d' => cases h; exact .rp r
  | sl j =>
    have r : σ[j]? = some (some v) := r
    have h : (Γ[j]?).bind Sl.tree = some d := h
    cases e : Γ[j]? with
    | none => rw [e] at h; cases h
    | some s =>
      rw [e] at h
      have h : s.tree = some d := h
      have q := S.sl j s _ e r
      cases s with
      | un => cases h
      | val d' => cases h; obtain ⟨v', e1, q⟩ := q; cases e1; exact .rp q
      | own d' => cases h; obtain ⟨a, e1, _, _, q⟩ := q; cases e1; exact .own q
      | io d' => cases h; obtain ⟨e1, _, _, q⟩ := q; cases e1; exact .own q
theorem Sim.rqs (S : Sim K n F Γ σ H) : ∀ {vs : List V} {as : List Ar} {ds : List D}, RelAs K σ F vs as → atL Γ as = some ds → RqL K F H vs ds
  | _, _, _, .nil, h => by cases h; exact .nil
  | _, _, ds, .cons (a := a) r t, h => by
    unfold atL at h
    cases e : atG Γ a with
    | none => rw [e] at h; cases h
    | some d =>
      rw [e] at h
      cases e2 : atL Γ _ with
      | none => rw [e2] at h; cases h
      | some es => rw [e2] at h; cases h; exact .cons (S.rq r e) (Sim.rqs S t e2)

/-- what was handed on becomes a tree that stays -/
def fzS (Γ : Gm) (j : Nat) : Option (D × Gm) := match Γ[j]? with
  | some (.val d) => some (d, Γ)
  | some (.own d) => some (d, Γ.set j (.val d))
  | _ => none
def fzA (Γ : Gm) : Ar → Option (D × Gm)
  | .v d => some (d, Γ)
  | .sl j => fzS Γ j
def fzL (Γ : Gm) : List Ar → Option (List D × Gm)
  | [] => some ([], Γ)
  | a :: as => (fzA Γ a).bind fun p => (fzL p.2 as).map fun q => (p.1 :: q.1, q.2)
theorem Sim.frz1 (S : Sim K n F Γ σ H) {v : V} {a : Ar} {d : D} {Γ' : Gm} (r : RelA K σ F v a) (h : fzA Γ a = some (d, Γ')) : ∃ F', Same F F' ∧ Sim K n F' Γ' σ H ∧ Rp K F' v d := by
  cases a with
  | v d' => cases h; exact ⟨F, .refl _, S, r⟩
  | sl j =>
    have r : σ[j]? = some (some v) := r
    have h : fzS Γ j = some (d, Γ') := h
    unfold fzS at h
    split at h
    · rename_i d' e
      cases h
      obtain ⟨v', e1, q⟩ := S.sl j _ _ e r
      cases e1
      exact ⟨F, .refl _, S, q⟩
    · rename_i d' e
      cases h
      obtain ⟨a, e1, fa, ha, q⟩ := S.sl j _ _ e r
      cases e1
      obtain ⟨u, hu⟩ := q.there
      have ss : Same F (upd F a u) := same_new fa
      have sub : Same (upd F a u) H := fun b x ex => by
        by_cases hb : b = a
        · subst hb; rw [upd_same] at ex; cases ex; exact hu
        · rw [upd_ne hb] at ex; exact S.sub _ _ ex
      have rp : Rp K (upd F a u) (.ref a) d := by
        cases d with
        | lst ds => obtain ⟨xs, h1, h2⟩ := q; rw [hu] at h1; cases h1; exact .lst (SqL.of upd_same) (h2.mono ss)
        | dic es =>
          rcases q with ⟨kvs, h1, h2⟩ | ⟨kvs, h1, h2⟩
          · rw [hu] at h1; cases h1; exact .dicK (.inl upd_same) (h2.mono ss)
          · rw [hu] at h1; cases h1; exact .dicT (.inl upd_same) (h2.mono ss)
        | _ => exact q.elim
      have hj : j < Γ.length := (List.getElem?_eq_some_iff.mp e).1
      refine ⟨upd F a u, ss, ⟨sub, by rw [List.length_set]; exact S.len, fun i s ov h1 h2 => ?_, fun i i' s t b h1 h2 m1 m2 h3 h4 => ?_, S.frame, fun b o hb => ?_, S.sub0.trans ss⟩, rp⟩
      · by_cases hi : j = i
        · subst hi
          rw [List.getElem?_set_self hj] at h1
          cases h1
          rw [r] at h2
          cases h2
          exact ⟨_, rfl, rp⟩
        · rw [List.getElem?_set_ne hi] at h1
          have old := S.sl i s ov h1 h2
          have ne : ∀ b, s.mine = true → ov = some (.ref b) → b ≠ a := fun b m eo eb => hi (S.dis j i _ s a e h1 rfl m r (by rw [h2, eo, eb]))
          have fne : ∀ b, b ≠ a → F b = none → upd F a u b = none := fun b hb q => by rw [upd_ne hb]; exact q
          cases s with
          | un => trivial
          | val d2 => obtain ⟨v2, k1, k2⟩ := old; exact ⟨v2, k1, k2.mono ss⟩
          | own d2 => obtain ⟨b, k1, k2, k3, k4⟩ := old; exact ⟨b, k1, fne b (ne b rfl k1) k2, k3, k4.mono ss rfl⟩
          | io d2 => obtain ⟨k1, k2, k3, k4⟩ := old; exact ⟨k1, fne _ (ne _ rfl k1) k2, k3, k4.mono ss rfl⟩
      · have not : ∀ (i : Nat) (s : Sl), (Γ.set j (.val d))[i]? = some s → s.mine = true → Γ[i]? = some s := fun i s h m => by
          by_cases hi : j = i
          · subst hi; rw [List.getElem?_set_self hj] at h; cases h; cases m
          · rw [List.getElem?_set_ne hi] at h; exact h
        exact S.dis i i' s t b (not i s h1 m1) (not i' t h2 m2) m1 m2 h3 h4
      · by_cases hb' : b = a
        · subst hb'
          rcases ha with k | k
          · exact .inr (.inl k)
          · exact .inr (.inr k)
        · rw [upd_ne hb'] at hb; exact S.frz b o hb
    · cases h
theorem Sim.frzs : ∀ {vs : List V} {as : List Ar} {F : Hp} {Γ : Gm} {ds : List D} {Γ' : Gm}, Sim K n F Γ σ H → RelAs K σ F vs as → fzL Γ as = some (ds, Γ') → ∃ F', Same F F' ∧ Sim K n F' Γ' σ H ∧ RpL K F' vs ds
  | _, _, F, _, _, _, S, .nil, h => by cases h; exact ⟨F, .refl _, S, .nil⟩
  | _, _, F, Γ, ds, Γ', S, .cons (a := a) r t, h => by
    unfold fzL at h
    cases e : fzA Γ a with
    | none => rw [e] at h; cases h
    | some p =>
      rw [e] at h
      obtain ⟨d, Γ1⟩ := p
      cases e2 : fzL Γ1 _ with
      | none => simp only [Option.bind_some] at h; rw [e2] at h; cases h
      | some q =>
        simp only [Option.bind_some] at h
        rw [e2] at h
        cases h
        obtain ⟨F1, s1, S1, r1⟩ := S.frz1 r e
        obtain ⟨F2, s2, S2, r2⟩ := Sim.frzs S1 (t.mono s1) e2
        exact ⟨F2, s1.trans s2, S2, .cons (r1.mono s2) r2⟩
end

/-! ### expressions -/
def mC (d : D) : M Ar := fun Γ => .ok (.v d) Γ
def mV (j : Nat) : M Ar := fun Γ => match Γ[j]? with
  | some (.val d) => .ok (.v d) Γ
  | some (.own _) => .ok (.sl j) Γ
  | some (.io _) => .ok (.sl j) Γ
  | _ => .no
def mOp2 (f : D → D → Option D) (ma mb : M Ar) : M Ar := fun Γ => (ma Γ).bind fun a Γ1 => (mb Γ1).bind fun b Γ2 => R.opt Γ2 ((atG Γ2 a).bind fun d => (atG Γ2 b).bind fun e => (f d e).map .v)
def mOp1 (f : D → Option D) (ma : M Ar) : M Ar := fun Γ => (ma Γ).bind fun a Γ1 => R.opt Γ1 ((atG Γ1 a).bind fun d => (f d).map .v)
def mCmp (f : D → D → Option Bool) (ma mb : M Ar) : M Bool := fun Γ => (ma Γ).bind fun a Γ1 => (mb Γ1).bind fun b Γ2 => R.opt Γ2 ((atG Γ2 a).bind fun d => (atG Γ2 b).bind fun e => f d e)
/-- a test's answer as a value -/
def mB (m : M Bool) : M Ar := fun Γ => (m Γ).bind fun b Γ1 => .ok (.v (.bl b)) Γ1
/-- a value that is a bool as a test -/
def mTst (m : M Ar) : M Bool := fun Γ => (m Γ).bind fun a Γ1 => match atG Γ1 a with
  | some (.bl b) => .ok b Γ1
  | _ => .no
def mAnd (ma mb : M Bool) : M Bool := fun Γ => (ma Γ).bind fun a Γ1 => if a then mb Γ1 else .ok false Γ1
def mOr (ma mb : M Bool) : M Bool := fun Γ => (ma Γ).bind fun a Γ1 => if a then .ok true Γ1 else mb Γ1
def mNot (ma : M Bool) : M Bool := fun Γ => (ma Γ).bind fun a Γ1 => .ok (!a) Γ1
def mIf {α : Type} (mt : M Bool) (ma mb : M α) : M α := fun Γ => (mt Γ).bind fun a Γ1 => if a then ma Γ1 else mb Γ1
def mChain (f g : D → D → Option Bool) (ma mb mc : M Ar) : M Bool := fun Γ => (ma Γ).bind fun a Γ1 => (mb Γ1).bind fun b Γ2 => (R.opt Γ2 ((atG Γ2 a).bind fun d => (atG Γ2 b).bind fun e => f d e)).bind fun k Γ3 =>
  if k then (mc Γ3).bind fun c Γ4 => R.opt Γ4 ((atG Γ4 b).bind fun d => (atG Γ4 c).bind fun e => g d e) else .ok false Γ3
def mNil : M (List Ar) := fun Γ => .ok [] Γ
def mCons (ma : M Ar) (mr : M (List Ar)) : M (List Ar) := fun Γ => (ma Γ).bind fun a Γ1 => (mr Γ1).bind fun r Γ2 => .ok (a :: r) Γ2
def mBlt (g : List D → Option D) (mr : M (List Ar)) : M Ar := fun Γ => (mr Γ).bind fun as Γ1 => R.opt Γ1 ((atL Γ1 as).bind fun ds => (g ds).map .v)
def mTup (mr : M (List Ar)) : M Ar := fun Γ => (mr Γ).bind fun as Γ1 => match fzL Γ1 as with
  | some (ds, Γ2) => if ds.length ≤ sizeLine then .ok (.v (.tup ds)) Γ2 else .no
  | none => .no
def mLst (mr : M (List Ar)) : M Rv := fun Γ => (mr Γ).bind fun as Γ1 => match fzL Γ1 as with
  | some (ds, Γ2) => if ds.length ≤ sizeLine then .ok (.nw (.lst ds)) Γ2 else .no
  | none => .no
/-- a new list that stays from the start -/
def mFz (m : M Rv) : M Ar := fun Γ => (m Γ).bind fun r Γ1 => match r with
  | .v d => .ok (.v d) Γ1
  | .nw d => .ok (.v d) Γ1
/-- what stays, where a new one may come -/
def mRv (m : M Ar) : M Rv := fun Γ => (m Γ).bind fun a Γ1 => match fzA Γ1 a with
  | some (d, Γ2) => .ok (.v d) Γ2
  | none => .no
end Fx

/-! Fx: the rules of expressions. -/
namespace Fx
open PySem PySem.Spec PyProof.Rows L2

section
variable {K : PySem.W.Frag} {W : WX} {n : Ent} {F H : Hp} {Γ : Gm} {σ : L2.St}
/-- start a run from what is told -/
theorem go {α β : Type} {REL : Hp → Hp → Gm → β → α → Prop} {Q : β → Hp → Prop} {m : M α} (S : Sim K n F Γ σ H) (h : Post K W n F σ REL Q (m Γ)) : ∃ n F Γ, Sim K n F Γ σ H ∧ Post K W n F σ REL Q (m Γ) := ⟨n, F, Γ, S, h⟩
theorem out_end {z : D} {Q : VK} (S : Sim K n F Γ σ H) (h : Post K W n F σ (fun F _ _ => RelA K σ F) Q (.ok (.v z) Γ)) : Out K F H z Q := fun v F' H' g r => h.ok g.fz (S.grow g) r
theorem opt_v {o : Option D} {Q : VK} (h : Post K W n F σ (fun F _ _ => RelA K σ F) Q (R.opt Γ (o.map .v))) : ∃ z, o = some z ∧ Post K W n F σ (fun F _ _ => RelA K σ F) Q (.ok (.v z) Γ) := by
  cases o with
  | none => exact h.elim
  | some z => exact ⟨z, rfl, h⟩
theorem opt_b {o : Option Bool} {Q : Bool → Hp → Prop} (h : Post K W n F σ (fun _ _ _ b c => b = c) Q (R.opt Γ o)) : ∃ z, o = some z ∧ Post K W n F σ (fun _ _ _ b c => b = c) Q (.ok z Γ) := by
  cases o with
  | none => exact h.elim
  | some z => exact ⟨z, rfl, h⟩
theorem bind2 {α : Type} {x y : Option D} {f : D → D → Option α} {z : α} (h : (x.bind fun d => y.bind fun e => f d e) = some z) : ∃ d e, x = some d ∧ y = some e ∧ f d e = some z := by
  cases x with
  | none => cases h
  | some d =>
    cases y with
    | none => cases h
    | some e => exact ⟨d, e, rfl, rfl, h⟩
theorem bind1 {α : Type} {x : Option D} {f : D → Option α} {z : α} (h : (x.bind fun d => f d) = some z) : ∃ d, x = some d ∧ f d = some z := by
  cases x with
  | none => cases h
  | some d => exact ⟨d, rfl, h⟩
end

section
variable {X : Cx} {W : WX} {pos : Pos}

/-! ### constants and names -/
theorem im_c {K : PySem.W.Frag} {v : V} {d : D} (r : ∀ F, Rp K F v d) : ∀ σ H Q, tM K W (mC d) σ H Q → tC v σ H Q := fun σ H Q ⟨n, F, Γ, S, h⟩ => h.ok (.refl _) S (r F)
theorem fx_int {i j pos} : PE X (.Constant (.int i) j pos) (tM X.K W (mC (.int i))) := pe_imp pe_int (im_c fun _ => .int _)
theorem fx_bl {b j pos} : PE X (.Constant (.bool b) j pos) (tM X.K W (mC (.bl b))) := pe_imp pe_bl (im_c fun _ => .bl _)
theorem fx_non {j pos} : PE X (.Constant .none j pos) (tM X.K W (mC .non)) := pe_imp pe_non (im_c fun _ => .non)
theorem fx_str {x j pos} : PE X (.Constant (.str x) j pos) (tM X.K W (mC (.str x))) := pe_imp pe_str (im_c fun _ => .str _)
/-- a name of the module that holds a value, a def, a class -/
theorem fx_glob {x : Str} {v : V} {u : Value} {d : D} (hg : Gl X x) (hm : X.mg x = some u) (r : RelV v u) (q : ∀ F, Rp X.K F v d) (hd : (x == ("__debug__" : Str)) = false := by decide) : PE X (.Name x pos) (tM X.K W (mC d)) := pe_imp (pe_glob hg hm r hd) (im_c q)
/-- a built-in type's name as a value -/
theorem fx_ty {x : Str} {T : String} (hg : Gl X x) (hm : X.mg x = none) (hv : bootBuiltins x = some (.type T)) (hn : x ≠ "__name__" := by decide) (hd : (x == ("__debug__" : Str)) = false := by decide) : PE X (.Name x pos) (tM X.K W (mC (.raw (.ty T)))) :=
  pe_imp (pe_bltn (v := .ty T) hg hm hv rfl hn hd) (im_c fun _ => .raw _)
theorem im_v {K : PySem.W.Frag} {i : Nat} : ∀ σ H Q, tM K W (mV i) σ H Q → tVar i σ H Q := fun σ H Q ⟨n, F, Γ, S, h⟩ => by
  unfold mV at h
  split at h
  · rename_i d e
    obtain ⟨ov, e1, v, rfl, r⟩ := S.slot_at e
    exact ⟨v, e1, h.ok (.refl _) S r⟩
  · rename_i d e
    obtain ⟨ov, e1, a, rfl, r⟩ := S.slot_at e
    exact ⟨_, e1, h.ok (.refl _) S e1⟩
  · rename_i d e
    obtain ⟨ov, e1, rfl, r⟩ := S.slot_at e
    exact ⟨_, e1, h.ok (.refl _) S e1⟩
  · exact h.elim
theorem fx_v (i : Nat) {x : Str} {pos : Pos} (hN : X.N[i]? = some x := by rfl) (hv : Vis X.env.scope x := by first | exact Or.inl rfl | exact Or.inr (Or.inl rfl) | exact Or.inr (Or.inr rfl)) (hd : (x == ("__debug__" : Str)) = false := by decide)
    (hcd : (x == ("__classdict__" : Str)) = false := by decide) : PE X (.Name x pos) (tM X.K W (mV i)) := pe_imp (pe_var hN hv hd hcd) im_v

/-! ### operators -/
variable {a b c : Expr} {ma mb mc : M Ar}
theorem im_op2 {K : PySem.W.Frag} {f : D → D → Option D} : ∀ σ H Q, tM K W (mOp2 f ma mb) σ H Q → tOp (rF2 K f) (tM K W ma) (tM K W mb) σ H Q := fun σ H Q ⟨n, F, Γ, S, h⟩ => by
  refine go S (h.seq fun a Γ1 x F1 H1 _ s1 S1 r1 h1 => ?_)
  refine go S1 (h1.seq fun b Γ2 y F2 H2 _ s2 S2 r2 h2 => ?_)
  have h2 : Post K W n F2 σ (fun F _ _ => RelA K σ F) Q (R.opt Γ2 (((atG Γ2 a).bind fun d => (atG Γ2 b).bind fun e => f d e).map .v)) := by
    cases ea : atG Γ2 a <;> cases eb : atG Γ2 b <;> rw [ea] at h2 <;> simp only [eb, Option.bind_some, Option.bind_none] at h2 ⊢ <;> exact h2
  obtain ⟨z, hz, h3⟩ := opt_v h2
  obtain ⟨d, e, e1, e2, e3⟩ := bind2 hz
  exact ⟨F2, d, e, z, S2.sub, S2.rq (r1.mono s2) e1, S2.rq r2 e2, e3, out_end S2 h3⟩
theorem fx_op2 {op : Operator} {f : D → D → Option D} (ho : OpR X (binaryOp op) (rF2 X.K f)) (ha : PE X a (tM X.K W ma)) (hb : PE X b (tM X.K W mb)) : PE X (.BinOp a op b pos) (tM X.K W (mOp2 f ma mb)) := pe_imp (pe_op ho ha hb) im_op2
theorem fx_add (ha : PE X a (tM X.K W ma)) (hb : PE X b (tM X.K W mb)) : PE X (.BinOp a .Add b pos) (tM X.K W (mOp2 addD ma mb)) := fx_op2 op_addF ha hb
theorem fx_sub (ha : PE X a (tM X.K W ma)) (hb : PE X b (tM X.K W mb)) : PE X (.BinOp a .Sub b pos) (tM X.K W (mOp2 subD ma mb)) := fx_op2 op_subF ha hb
theorem fx_mul (ha : PE X a (tM X.K W ma)) (hb : PE X b (tM X.K W mb)) : PE X (.BinOp a .Mult b pos) (tM X.K W (mOp2 mulD ma mb)) := fx_op2 op_mulF ha hb
theorem fx_div (ha : PE X a (tM X.K W ma)) (hb : PE X b (tM X.K W mb)) : PE X (.BinOp a .FloorDiv b pos) (tM X.K W (mOp2 divD ma mb)) := fx_op2 op_divF ha hb
theorem fx_mod (ha : PE X a (tM X.K W ma)) (hb : PE X b (tM X.K W mb)) : PE X (.BinOp a .Mod b pos) (tM X.K W (mOp2 modD ma mb)) := fx_op2 op_modF ha hb
theorem fx_pow (ha : PE X a (tM X.K W ma)) (hb : PE X b (tM X.K W mb)) : PE X (.BinOp a .Pow b pos) (tM X.K W (mOp2 powD ma mb)) := fx_op2 op_powF ha hb
theorem im_op1 {K : PySem.W.Frag} {f : D → Option D} : ∀ σ H Q, tM K W (mOp1 f ma) σ H Q → tUn (rF1 K f) (tM K W ma) σ H Q := fun σ H Q ⟨n, F, Γ, S, h⟩ => by
  refine go S (h.seq fun a Γ1 x F1 H1 _ s1 S1 r1 h1 => ?_)
  have h2 : Post K W n F1 σ (fun F _ _ => RelA K σ F) Q (R.opt Γ1 (((atG Γ1 a).bind fun d => f d).map .v)) := by
    cases ea : atG Γ1 a <;> rw [ea] at h1 <;> exact h1
  obtain ⟨z, hz, h3⟩ := opt_v h2
  obtain ⟨d, e1, e3⟩ := bind1 hz
  exact ⟨F1, d, z, S1.sub, S1.rq r1 e1, e3, out_end S1 h3⟩
theorem fx_neg (ha : PE X a (tM X.K W ma)) : PE X (.UnaryOp .USub a pos) (tM X.K W (mOp1 negD ma)) := pe_imp (pe_un un_negF ha) im_op1

/-! ### comparisons -/
theorem post_b {K : PySem.W.Frag} {n : Ent} {F : Hp} {σ : L2.St} {m : M Bool} {Γ : Gm} {Q : VK} (h : Post K W n F σ (fun F _ _ => RelA K σ F) Q (mB m Γ)) : Post K W n F σ (fun _ _ _ b c => b = c) (fun b H => Q (.bl b) H) (m Γ) :=
  h.seq fun a Γ1 b F1 H1 _ s1 S1 r1 h1 => by
    subst r1
    exact h1.ok (.refl _) S1 (.bl b)
theorem im_cmpT {K : PySem.W.Frag} {f : D → D → Option Bool} : ∀ σ H (Q : Bool → Hp → Prop), tQ K W (mCmp f ma mb) σ H Q → tOp (rC2 K f) (tM K W ma) (tM K W mb) σ H (fun v H' => ∃ k, v = .bl k ∧ Q k H') := fun σ H Q ⟨n, F, Γ, S, h⟩ => by
  refine go S (h.seq fun a Γ1 x F1 H1 _ s1 S1 r1 h1 => ?_)
  refine go S1 (h1.seq fun b Γ2 y F2 H2 _ s2 S2 r2 h2 => ?_)
  obtain ⟨z, hz, h3⟩ := opt_b h2
  obtain ⟨d, e, e1, e2, e3⟩ := bind2 hz
  exact ⟨F2, d, e, z, S2.sub, S2.rq (r1.mono s2) e1, S2.rq r2 e2, e3, z, rfl, h3.ok (.refl _) S2 rfl⟩
theorem rC2_wk {K : PySem.W.Frag} {f : D → D → Option Bool} {x y : V} {H : Hp} {Q : VK} (h : rC2 K f x y H fun v H' => ∃ k, v = .bl k ∧ Q (.bl k) H') : rC2 K f x y H Q := by
  obtain ⟨F, d, e, b, h1, h2, h3, h4, k, e5, q⟩ := h
  cases e5
  exact ⟨F, d, e, b, h1, h2, h3, h4, q⟩
theorem im_cmp {K : PySem.W.Frag} {f : D → D → Option Bool} : ∀ σ H Q, tM K W (mB (mCmp f ma mb)) σ H Q → tOp (rC2 K f) (tM K W ma) (tM K W mb) σ H Q := fun σ H Q ⟨n, F, Γ, S, h⟩ => by
  have h := post_b h
  refine go S (h.seq fun a Γ1 x F1 H1 _ s1 S1 r1 h1 => ?_)
  refine go S1 (h1.seq fun b Γ2 y F2 H2 _ s2 S2 r2 h2 => ?_)
  obtain ⟨z, hz, h3⟩ := opt_b h2
  obtain ⟨d, e, e1, e2, e3⟩ := bind2 hz
  exact ⟨F2, d, e, z, S2.sub, S2.rq (r1.mono s2) e1, S2.rq r2 e2, e3, h3.ok (.refl _) S2 rfl⟩
theorem fx_cmp {op : CmpOp} {f : D → D → Option Bool} (ho : OpR X (compareOp op) (rC2 X.K f)) (ha : PE X a (tM X.K W ma)) (hb : PE X b (tM X.K W mb)) (hm : behindInMarks op b = false) : PE X (.Compare a [op] [b] pos) (tM X.K W (mB (mCmp f ma mb))) := pe_imp (pe_cmpR ho ha hb hm) im_cmp
theorem fq_cmp {op : CmpOp} {f : D → D → Option Bool} (ho : OpR X (compareOp op) (rC2 X.K f)) (ha : PE X a (tM X.K W ma)) (hb : PE X b (tM X.K W mb)) (hm : behindInMarks op b = false) : PT X (.Compare a [op] [b] pos) (tQ X.K W (mCmp f ma mb)) := pt_imp (pt_cmpR ho ha hb hm) im_cmpT

/-! ### chains: a < b < c -/
theorem im_chain {K : PySem.W.Frag} {f g : D → D → Option Bool} {Q : Bool → Hp → Prop} {QQ : VK} (i : ∀ k H, Q k H → QQ (.bl k) H) : ∀ σ H, tQ K W (mChain f g ma mb mc) σ H Q → tChain (rC2 K f) (rC2 K g) (tM K W ma) (tM K W mb) (tM K W mc) σ H QQ := fun σ H ⟨n, F, Γ, S, h⟩ => by
  refine go S (h.seq fun a Γ1 x F1 H1 _ s1 S1 r1 h1 => ?_)
  refine go S1 (h1.seq fun b Γ2 y F2 H2 _ s2 S2 r2 h2 => ?_)
  cases hz : (atG Γ2 a).bind fun d => (atG Γ2 b).bind fun e => f d e with
  | none => rw [hz] at h2; exact h2.elim
  | some k =>
    obtain ⟨d, e, e1, e2, e3⟩ := bind2 hz
    rw [hz] at h2
    refine ⟨F2, d, e, k, S2.sub, S2.rq (r1.mono s2) e1, S2.rq r2 e2, e3, k, rfl, ?_⟩
    cases k with
    | false =>
      rw [if_neg (by decide)]
      exact i _ _ (h2.ok (.refl _) S2 rfl)
    | true =>
      rw [if_pos rfl]
      have h2 : Post K W n F2 σ (fun _ _ _ b c => b = c) Q ((mc Γ2).bind fun c Γ4 => R.opt Γ4 ((atG Γ4 b).bind fun d => (atG Γ4 c).bind fun e => g d e)) := h2
      refine go S2 (h2.seq fun c Γ4 z F4 H4 _ s4 S4 r4 h4 => ?_)
      obtain ⟨k2, hz2, h5⟩ := opt_b h4
      obtain ⟨d', e', e1', e2', e3'⟩ := bind2 hz2
      exact ⟨F4, d', e', k2, S4.sub, S4.rq (r2.mono s4) e1', S4.rq r4 e2', e3', i _ _ (h5.ok (.refl _) S4 rfl)⟩
theorem fx_chain {op op' : CmpOp} {f g : D → D → Option Bool} (ho : OpR X (compareOp op) (rC2 X.K f)) (ho' : OpR X (compareOp op') (rC2 X.K g)) (ha : PE X a (tM X.K W ma)) (hb : PE X b (tM X.K W mb)) (hc : PE X c (tM X.K W mc))
    (hm : lastMarks [op, op'] [b, c] = false := by with_unfolding_all rfl) : PE X (.Compare a [op, op'] [b, c] pos) (tM X.K W (mB (mChain f g ma mb mc))) :=
  pe_imp (pe_chain ho ho' ha hb hc hm) fun σ H Q ⟨n, F, Γ, S, h⟩ => im_chain (Q := fun b H => Q (.bl b) H) (fun _ _ q => q) σ H ⟨n, F, Γ, S, post_b h⟩
theorem fq_chain {op op' : CmpOp} {f g : D → D → Option Bool} (ho : OpR X (compareOp op) (rC2 X.K f)) (ho' : OpR X (compareOp op') (rC2 X.K g)) (ha : PE X a (tM X.K W ma)) (hb : PE X b (tM X.K W mb)) (hc : PE X c (tM X.K W mc))
    (hm : lastMarks [op, op'] [b, c] = false := by with_unfolding_all rfl) : PT X (.Compare a [op, op'] [b, c] pos) (tQ X.K W (mChain f g ma mb mc)) :=
  pt_imp (pt_chain ho ho' ha hb hc hm) fun σ H Q h => im_chain (fun k H q => ⟨k, rfl, q⟩) σ H h

/-! ### tests -/
variable {qa qb : M Bool} {rest : List Expr}
theorem im_tst {K : PySem.W.Frag} : ∀ σ H (Q : Bool → Hp → Prop), tQ K W (mTst ma) σ H Q → tB (tM K W ma) σ H Q := fun σ H Q ⟨n, F, Γ, S, h⟩ => by
  refine go S (h.seq fun a Γ1 x F1 H1 _ s1 S1 r1 h1 => ?_)
  split at h1
  · rename_i b e
    cases (S1.rq r1 e).bl
    exact ⟨b, rfl, h1.ok (.refl _) S1 rfl⟩
  · exact h1.elim
/-- a value that is a bool, as a test -/
theorem fq_val (ha : PE X a (tM X.K W ma)) (he : ∀ whole, isTrue a X.env whole = (do let v ← whole; standAt a.pos; holding [v] (truthy v)) := by intro _; rfl) : PT X a (tQ X.K W (mTst ma)) := pt_imp (pt_val ha he) im_tst
theorem fq_not (ha : PT X a (tQ X.K W qa)) : PT X (.UnaryOp .Not a pos) (tQ X.K W (mNot qa)) := pt_imp (pt_not ha) fun σ H Q ⟨n, F, Γ, S, h⟩ => go S (h.seq fun a Γ1 x F1 H1 _ s1 S1 r1 h1 => by subst r1; exact h1.ok (.refl _) S1 rfl)
theorem fw_and1 (ha : PT X a (tQ X.K W qa)) : PW X (.BoolOp .And [a] pos) (tQ X.K W qa) := pw_and1 ha
theorem fw_or1 (ha : PT X a (tQ X.K W qa)) : PW X (.BoolOp .Or [a] pos) (tQ X.K W qa) := pw_or1 ha
theorem fw_and (ha : PT X a (tQ X.K W qa)) (hb : PW X (.BoolOp .And (b :: rest) pos) (tQ X.K W qb)) : PW X (.BoolOp .And (a :: b :: rest) pos) (tQ X.K W (mAnd qa qb)) := pw_imp (pw_and ha hb) fun σ H Q ⟨n, F, Γ, S, h⟩ => go S (h.seq fun a Γ1 x F1 H1 _ s1 S1 r1 h1 => by
  subst r1
  cases x with
  | true => exact iteT (go S1 h1)
  | false => exact iteF (h1.ok (.refl _) S1 rfl))
theorem fw_or (ha : PT X a (tQ X.K W qa)) (hb : PW X (.BoolOp .Or (b :: rest) pos) (tQ X.K W qb)) : PW X (.BoolOp .Or (a :: b :: rest) pos) (tQ X.K W (mOr qa qb)) := pw_imp (pw_or ha hb) fun σ H Q ⟨n, F, Γ, S, h⟩ => go S (h.seq fun a Γ1 x F1 H1 _ s1 S1 r1 h1 => by
  subst r1
  cases x with
  | true => exact iteT (h1.ok (.refl _) S1 rfl)
  | false => exact iteF (go S1 h1))
theorem fq_w {e : Expr} (h : PW X e (tQ X.K W qa)) : PT X e (tQ X.K W qa) := h.pt
/-- and, or, not of bools as values -/
def mAndV (ma mb : M Ar) : M Ar := fun Γ => (mTst ma Γ).bind fun c Γ1 => if c then mb Γ1 else .ok (.v (.bl false)) Γ1
def mOrV (ma mb : M Ar) : M Ar := fun Γ => (mTst ma Γ).bind fun c Γ1 => if c then .ok (.v (.bl true)) Γ1 else mb Γ1
def mNotV (ma : M Ar) : M Ar := mB (mNot (mTst ma))
theorem seq_tst {α β : Type} {K : PySem.W.Frag} {n : Ent} {F H : Hp} {Γ : Gm} {σ : L2.St} {REL : Hp → Hp → Gm → β → α → Prop} {Q : β → Hp → Prop} {f : Bool → Gm → R α} {QQ : VK} (S : Sim K n F Γ σ H) (h : Post K W n F σ REL Q ((mTst ma Γ).bind f))
    (k : ∀ c Γ1 F1 H1, Same F F1 → Sim K n F1 Γ1 σ H1 → Post K W n F1 σ REL Q (f c Γ1) → QQ (.bl c) H1) : tM K W ma σ H QQ := by
  have e : (mTst ma Γ).bind f = (ma Γ).bind fun a Γ1 => match atG Γ1 a with
    | some (.bl b) => f b Γ1
    | _ => .no := by
    unfold mTst
    cases ma Γ with
    | ok a Γ1 =>
      show R.bind (match atG Γ1 a with
        | some (.bl b) => R.ok b Γ1
        | _ => R.no) f = _
      show _ = (match atG Γ1 a with
        | some (.bl b) => f b Γ1
        | _ => .no)
      split <;> rfl
    | ex x Γ1 => rfl
    | no => rfl
  rw [e] at h
  refine go S (h.seq fun a Γ1 x F1 H1 _ s1 S1 r1 h1 => ?_)
  split at h1
  · rename_i b eb
    cases (S1.rq r1 eb).bl
    exact k b Γ1 F1 H1 s1 S1 h1
  · exact h1.elim
theorem fx_one {op : BoolOp} (ha : PE X a (tM X.K W ma)) : PE X (.BoolOp op [a] pos) (tM X.K W ma) := pe_one ha
theorem fx_and (ha : PE X a (tM X.K W ma)) (hb : PE X (.BoolOp .And (b :: rest) pos) (tM X.K W mb)) : PE X (.BoolOp .And (a :: b :: rest) pos) (tM X.K W (mAndV ma mb)) := pe_imp (pe_and ha hb) fun σ H Q ⟨n, F, Γ, S, h⟩ => seq_tst S h fun c Γ1 F1 H1 s1 S1 h1 => ⟨c, rfl, by
  cases c with
  | true => exact iteT (go S1 h1)
  | false => exact iteF (h1.ok (.refl _) S1 (.bl false))⟩
theorem fx_or (ha : PE X a (tM X.K W ma)) (hb : PE X (.BoolOp .Or (b :: rest) pos) (tM X.K W mb)) : PE X (.BoolOp .Or (a :: b :: rest) pos) (tM X.K W (mOrV ma mb)) := pe_imp (pe_or ha hb) fun σ H Q ⟨n, F, Γ, S, h⟩ => seq_tst S h fun c Γ1 F1 H1 s1 S1 h1 => ⟨c, rfl, by
  cases c with
  | true => exact iteT (h1.ok (.refl _) S1 (.bl true))
  | false => exact iteF (go S1 h1)⟩
theorem fx_not (ha : PE X a (tM X.K W ma)) : PE X (.UnaryOp .Not a pos) (tM X.K W (mNotV ma)) := pe_imp (pe_not ha) fun σ H Q ⟨n, F, Γ, S, h⟩ => by
  have h := post_b h
  exact seq_tst S h fun c Γ1 F1 H1 s1 S1 h1 => ⟨c, rfl, h1.ok (.refl _) S1 rfl⟩
theorem fx_if {t : Expr} (ht : PT X t (tQ X.K W qa)) (ha : PE X a (tM X.K W ma)) (hb : PE X b (tM X.K W mb)) : PE X (.IfExp t a b pos) (tM X.K W (mIf qa ma mb)) := pe_imp (pe_ifExp ht ha hb) fun σ H Q ⟨n, F, Γ, S, h⟩ => go S (h.seq fun a Γ1 x F1 H1 _ s1 S1 r1 h1 => by
  subst r1
  cases x with
  | true => exact iteT (go S1 h1)
  | false => exact iteF (go S1 h1))

/-! ### arguments, displays, built-in calls -/
variable {es : List Expr} {mr : M (List Ar)}
theorem fa_nil : PA X [] (tAs X.K W mNil) := pa_imp pa_nil fun σ H Q ⟨n, F, Γ, S, h⟩ => h.ok (.refl _) S .nil
theorem fa_cons (ha : PE X a (tM X.K W ma)) (hr : PA X es (tAs X.K W mr)) (hs : starEach (a :: es) X.env = (false, eval a X.env) :: starEach es X.env := by rfl) : PA X (a :: es) (tAs X.K W (mCons ma mr)) :=
  pa_imp (pa_cons ha hr hs) fun σ H Q ⟨n, F, Γ, S, h⟩ => go S (h.seq fun a Γ1 x F1 H1 _ s1 S1 r1 h1 => go S1 (h1.seq fun r Γ2 xs F2 H2 _ s2 S2 r2 h2 => h2.ok (.refl _) S2 (.cons (r1.mono s2) r2)))
theorem fx_tup {k : Nat} (h : PA X es (tAs X.K W mr)) : PE X (.Tuple es k pos) (tM X.K W (mTup mr)) := pe_imp (pe_tup h) fun σ H Q ⟨n, F, Γ, S, h⟩ => go S (h.seq fun as Γ1 xs F1 H1 _ s1 S1 r1 h1 => by
  split at h1
  · rename_i ds Γ2 e
    obtain ⟨F2, s2, S2, r2⟩ := Sim.frzs S1 r1 e
    split at h1
    · rename_i hl
      refine ⟨by rw [r2.length]; exact hl, fun p hp => ?_⟩
      exact (out_end S2 (h1.wk s2)).tnew S2.sub hp r2
    · exact h1.elim
  · exact h1.elim)
theorem Sim.beside {K : PySem.W.Frag} {n : Ent} {F H : Hp} {Γ : Gm} {σ : L2.St} (S : Sim K n F Γ σ H) {p : Addr} {o : HO} (h : H p = none) : Sim K n F Γ σ (upd H p o) := S.grow (Grow.beside S.sub h)
/-- a new list or dict beside what is -/
theorem rv_new {K : PySem.W.Frag} {n : Ent} {F H : Hp} {Γ : Gm} {σ : L2.St} (S : Sim K n F Γ σ H) {p : Addr} {o : HO} {d : D} (h : H p = none) (q : OwnAt K F (upd H p o) p d) : RvOk K n σ F (upd H p o) Γ (.ref p) (.nw d) := by
  refine ⟨p, rfl, same_none S.sub h, ?_, q, fun i s h1 h2 h3 => ?_⟩
  · by_cases hw : n.W p
    · exact .inr hw
    · left
      cases e : n.H0 p with
      | none => rfl
      | some u => rw [S.frame p u e hw] at h; cases h
  · have k := S.sl i s _ h1 h3
    cases s with
    | un => cases h2
    | val d => cases h2
    | own d =>
      obtain ⟨a, e, _, _, o⟩ := k
      cases e
      obtain ⟨u, hu⟩ := o.there
      rw [hu] at h; cases h
    | io d =>
      obtain ⟨e, _, _, o⟩ := k
      have e := V.ref.inj (Option.some.inj e)
      obtain ⟨u, hu⟩ := o.there
      rw [← e, h] at hu; cases hu
theorem fn_lst (h : PA X es (tAs X.K W mr)) : PE X (.List es pos) (tN X.K W (mLst mr)) := pe_imp (pe_lst h) fun σ H Q ⟨n, F, Γ, S, h⟩ => go S (h.seq fun as Γ1 xs F1 H1 _ s1 S1 r1 h1 => by
  split at h1
  · rename_i ds Γ2 e
    obtain ⟨F2, s2, S2, r2⟩ := Sim.frzs S1 r1 e
    split at h1
    · rename_i hl
      refine ⟨by rw [r2.length]; exact hl, fun p hp => ?_⟩
      exact h1.ok s2 (S2.beside hp) (rv_new S2 hp ⟨xs, upd_same, r2⟩)
    · exact h1.elim
  · exact h1.elim)
/-- what is new becomes what stays -/
theorem im_fz {K : PySem.W.Frag} {m : M Rv} : ∀ σ H Q, tM K W (mFz m) σ H Q → tN K W m σ H Q := fun σ H Q ⟨n, F, Γ, S, h⟩ => ⟨n, F, Γ, S, h.seq (REL := RvOk K n σ) fun r Γ1 x F1 H1 _ s1 S1 r1 h1 => by
  cases r with
  | v d => exact h1.ok (.refl _) S1 r1
  | nw d =>
    obtain ⟨p, rfl, hf, hz, o, ap⟩ := r1
    obtain ⟨u, hu⟩ := o.there
    have ss : Same F1 (upd F1 p u) := same_new hf
    have rp : Rp K (upd F1 p u) (.ref p) d := by
      cases d with
      | lst ds => obtain ⟨xs, h1, h2⟩ := o; rw [hu] at h1; cases h1; exact .lst (SqL.of upd_same) (h2.mono ss)
      | dic es =>
        rcases o with ⟨kvs, h1, h2⟩ | ⟨kvs, h1, h2⟩
        · rw [hu] at h1; cases h1; exact .dicK (.inl upd_same) (h2.mono ss)
        · rw [hu] at h1; cases h1; exact .dicT (.inl upd_same) (h2.mono ss)
      | _ => exact o.elim
    refine h1.ok ss ⟨fun b x ex => ?_, S1.len, fun i s ov h1 h2 => ?_, S1.dis, S1.frame, fun b x hb => ?_, S1.sub0.trans ss⟩ rp
    · by_cases hb : b = p
      · subst hb; rw [upd_same] at ex; cases ex; exact hu
      · rw [upd_ne hb] at ex; exact S1.sub _ _ ex
    · have old := S1.sl i s ov h1 h2
      have fne : ∀ b, b ≠ p → F1 b = none → upd F1 p u b = none := fun b hb q => by rw [upd_ne hb]; exact q
      cases s with
      | un => trivial
      | val d2 => obtain ⟨v2, k1, k2⟩ := old; exact ⟨v2, k1, k2.mono ss⟩
      | own d2 =>
        obtain ⟨b, k1, k2, k3, k4⟩ := old
        exact ⟨b, k1, fne b (fun e => ap i _ h1 rfl (by rw [h2, k1, e])) k2, k3, k4.mono ss rfl⟩
      | io d2 =>
        obtain ⟨k1, k2, k3, k4⟩ := old
        exact ⟨k1, fne _ (fun e => ap i _ h1 rfl (by rw [h2, k1, e])) k2, k3, k4.mono ss rfl⟩
    · by_cases hb' : b = p
      · subst hb'
        rcases hz with k | k
        · exact .inr (.inl k)
        · exact .inr (.inr k)
      · rw [upd_ne hb'] at hb; exact S1.frz b x hb⟩
theorem fx_fz {e : Expr} {m : M Rv} (h : PE X e (tN X.K W m)) : PE X e (tM X.K W (mFz m)) := pe_imp h im_fz
theorem fx_lst (h : PA X es (tAs X.K W mr)) : PE X (.List es pos) (tM X.K W (mFz (mLst mr))) := fx_fz (fn_lst h)
/-- what stays, where a new one may come -/
theorem fn_ex {e : Expr} (h : PE X e (tM X.K W ma)) : PE X e (tN X.K W (mRv ma)) := pe_imp h fun σ H Q ⟨n, F, Γ, S, h⟩ => go S (h.seq fun a Γ1 x F1 H1 _ s1 S1 r1 h1 => by
  split at h1
  · rename_i d Γ2 e
    obtain ⟨F2, s2, S2, r2⟩ := S1.frz1 r1 e
    exact h1.ok s2 S2 r2
  · exact h1.elim)
theorem im_blt {K : PySem.W.Frag} {g : List D → Option D} : ∀ σ H Q, tM K W (mBlt g mr) σ H Q → tCB (rFn K g) (tAs K W mr) σ H Q := fun σ H Q ⟨n, F, Γ, S, h⟩ => go S (h.seq fun as Γ1 xs F1 H1 _ s1 S1 r1 h1 => by
  cases e : atL Γ1 as with
  | none => rw [e] at h1; exact h1.elim
  | some ds =>
    rw [e] at h1
    obtain ⟨z, hz, h2⟩ := opt_v (o := g ds) h1
    exact ⟨F1, ds, z, S1.sub, S1.rqs r1 e, hz, out_end S1 h2⟩)
theorem fx_blt {x : Str} {p : Pos} {e : Expr} {id : String} {g : List D → Option D} (hc : CallR X (.builtin id) (rFn X.K g)) (hg : Gl X x) (hm : X.mg x = none) (hv : bootBuiltins x = some (.builtin id)) (ha : PA X (e :: es) (tAs X.K W mr)) (hn : x ≠ "__name__" := by decide) (hdb : (x == ("__debug__" : Str)) = false := by decide)
    (he : starEach (e :: es) X.env = (false, eval e X.env) :: starEach es X.env := by rfl) (hpl : (backTo pos (starEach es X.env)).any (·.1) = false := by rfl) : PE X (.Call (.Name x p) (e :: es) [] pos) (tM X.K W (mBlt g mr)) := pe_imp (pe_callB hc hg hm hv ha hn hdb he hpl) im_blt
theorem fx_bty {x : Str} {p : Pos} {e : Expr} {T : String} {g : List D → Option D} (hc : CallR X (.type T) (rFn X.K g)) (hg : Gl X x) (hm : X.mg x = none) (hv : bootBuiltins x = some (.type T)) (ha : PA X (e :: es) (tAs X.K W mr)) (hn : x ≠ "__name__" := by decide) (hdb : (x == ("__debug__" : Str)) = false := by decide)
    (he : starEach (e :: es) X.env = (false, eval e X.env) :: starEach es X.env := by rfl) (hpl : (backTo pos (starEach es X.env)).any (·.1) = false := by rfl) : PE X (.Call (.Name x p) (e :: es) [] pos) (tM X.K W (mBlt g mr)) := pe_imp (pe_callTy hc hg hm hv ha hn hdb he hpl) im_blt

/-! ### a[i], a[lo:hi] -/
def ixD : D → D → Option D
  | .lst l, .int i => atI l i
  | .tup l, .int i => atI l i
  | .str x, .int i => if x.length ≤ sizeLine then (atI x.cps.toList i).map fun c => .str ⟨#[c]⟩ else none
  | _, _ => none
theorem atI_rp {K : PySem.W.Frag} {F : Hp} {xs : List V} {ds : List D} {i : Int} {z : D} (t : RpL K F xs ds) (h : atI ds i = some z) : ∃ v, atI xs i = some v ∧ Rp K F v z := by
  unfold atI at h ⊢
  rw [t.length]
  cases e : ixN ds.length i with
  | none => rw [e] at h; cases h
  | some j =>
    rw [e] at h
    obtain ⟨v, h1, h2⟩ := t.get (show ds[j]? = some z from h)
    exact ⟨v, h1, h2⟩
theorem ix_F : IxR X (rF2 X.K ixD) := by
  intro value slice pins s σ H x y v u Q I rx ry ⟨F, d, e, z, sF, qd, qe, hz, o⟩ hs
  unfold ixD at hz
  split at hz
  · obtain ⟨a, xs, rfl, h, t⟩ := qd.lst sF
    obtain ⟨w, h1, r⟩ := atI_rp t hz
    exact ix_list value slice pins s σ H _ y v u Q I rx ry ⟨a, xs, _, w, rfl, qe.int, h, h1, o.same sF r⟩ hs
  · obtain ⟨a, xs, rfl, h, t⟩ := qd.tup sF
    obtain ⟨w, h1, r⟩ := atI_rp t hz
    exact ix_tup value slice pins s σ H _ y v u Q I rx ry ⟨a, xs, _, w, rfl, qe.int, h, h1, o.same sF r⟩ hs
  · split at hz
    · rename_i i hl
      cases e : atI _ i with
      | none => rw [e] at hz; cases hz
      | some c => rw [e] at hz; cases hz; exact ix_str value slice pins s σ H x y v u Q I rx ry ⟨_, _, c, qd.str, qe.int, hl, e, o.same sF (.str _)⟩ hs
    · cases hz
  · cases hz
theorem fx_ix (ha : PE X a (tM X.K W ma)) (hb : PE X b (tM X.K W mb)) (hs : PlainIx b) : PE X (.Subscript a b pos) (tM X.K W (mOp2 ixD ma mb)) := pe_imp (pe_ix ix_F ha hb hs) im_op2
abbrev mO := M (Option Int)
def tO (K : PySem.W.Frag) (W : WX) (m : mO) : TO := fun σ H Q => ∃ n F Γ, Sim K n F Γ σ H ∧ Post K W n F σ (fun _ _ _ b c => b = c) Q (m Γ)
def mO0 : mO := fun Γ => .ok none Γ
def mO1 (m : M Ar) : mO := fun Γ => (m Γ).bind fun a Γ1 => match atG Γ1 a with
  | some (.int i) => .ok (some i) Γ1
  | _ => .no
theorem fo_none : PO X none (tO X.K W mO0) := ⟨fun pins s σ H Q I ⟨n, F, Γ, S, h⟩ => po_none.run pins s σ H Q I (h.ok (.refl _) S rfl)⟩
theorem fo_some {e : Expr} (he : PE X e (tM X.K W ma)) : PO X (some e) (tO X.K W (mO1 ma)) := ⟨fun pins s σ H Q I ⟨n, F, Γ, S, h⟩ => (po_some he).run pins s σ H Q I (go S (h.seq fun a Γ1 x F1 H1 _ s1 S1 r1 h1 => by
  split at h1
  · rename_i i e
    cases (S1.rq r1 e).int
    exact ⟨i, rfl, h1.ok (.refl _) S1 rfl⟩
  · exact h1.elim))⟩
def cutL {α : Type} (xs : List α) (lo hi : Option Int) : List α := (xs.drop (HT.sIx xs.length 0 lo)).take (HT.sIx xs.length xs.length hi - HT.sIx xs.length 0 lo)
def cutD : D → Option Int → Option Int → Option D
  | .lst l, lo, hi => some (.lst (cutL l lo hi))
  | .str x, lo, hi => if x.length ≤ sizeLine then some (.str (cutS x lo hi)) else none
  | _, _, _ => none
def rSlF (K : PySem.W.Frag) : V → Option Int → Option Int → Hp → VK → Prop := fun x lo hi H Q => ∃ F d z, Same F H ∧ Rq K F H x d ∧ cutD d lo hi = some z ∧ Out K F H z Q
theorem cut_rp {K : PySem.W.Frag} {F : Hp} {xs : List V} {ds : List D} {lo hi : Option Int} (t : RpL K F xs ds) : RpL K F (cutV xs lo hi) (cutL ds lo hi) := by
  unfold cutV cutL
  rw [t.length]
  exact (t.drop _).take _
theorem sl_F : SlR X (rSlF X.K) := by
  intro pins s σ H x v vl vu lo hi sl Q I rx hs pl pu ⟨F, d, z, sF, qd, hz, o⟩
  unfold cutD at hz
  split at hz
  · cases hz
    obtain ⟨a, xs, rfl, h, t⟩ := qd.lst sF
    exact sl_list pins s σ H _ v vl vu _ _ sl Q I rx hs pl pu ⟨a, xs, rfl, h, fun p hp => o.lnew sF hp (cut_rp t)⟩
  · split at hz
    · cases hz
      exact sl_str pins s σ H x v vl vu _ _ sl Q I rx hs pl pu ⟨_, qd.str, by assumption, o.same sF (.str _)⟩
    · cases hz
  · cases hz
def mSl (ma : M Ar) (ml mh : mO) : M Ar := fun Γ => (ma Γ).bind fun a Γ1 => (ml Γ1).bind fun lo Γ2 => (mh Γ2).bind fun hi Γ3 => R.opt Γ3 ((atG Γ3 a).bind fun d => (cutD d lo hi).map .v)
theorem fx_sl {lo hi : Option Expr} {ml mh : mO} {p2 : Pos} (ha : PE X a (tM X.K W ma)) (hl : PO X lo (tO X.K W ml)) (hh : PO X hi (tO X.K W mh)) : PE X (.Subscript a (.Slice lo hi none p2) pos) (tM X.K W (mSl ma ml mh)) :=
  pe_imp (pe_slice sl_F ha hl hh) fun σ H Q ⟨n, F, Γ, S, h⟩ => go S (h.seq fun a Γ1 x F1 H1 _ s1 S1 r1 h1 => go S1 (h1.seq fun lo Γ2 lo' F2 H2 _ s2 S2 r2 h2 => by
    subst r2
    refine go S2 (h2.seq fun hi Γ3 hi' F3 H3 _ s3 S3 r3 h3 => ?_)
    subst r3
    cases e : atG Γ3 a with
    | none => rw [e] at h3; exact h3.elim
    | some d =>
      rw [e] at h3
      obtain ⟨z, hz, h4⟩ := opt_v (o := cutD d lo' hi') h3
      exact ⟨F3, d, z, S3.sub, S3.rq ((r1.mono s2).mono s3) e, hz, out_end S3 h4⟩))
end
end Fx

/-! Fx: targets, loops, statements. -/
namespace Fx
open PySem PySem.Spec PyProof.Rows L2

inductive Rs where
  | nx (Γ : Gm) | rt (r : Rv) (Γ : Gm) | bk (Γ : Gm) | ct (Γ : Gm) | ex (x : Xn) (Γ : Gm) | no
def PostS (K : PySem.W.Frag) (W : WX) (n : Ent) (F : Hp) (E : Ends) : Rs → Prop
  | .nx Γ' => ∀ σ' F' H', Same F F' → Sim K n F' Γ' σ' H' → E.nx σ' H'
  | .rt r Γ' => ∀ v σ' F' H', Same F F' → Sim K n F' Γ' σ' H' → RvOk K n σ' F' H' Γ' v r → E.rt v H'
  | .bk Γ' => ∀ σ' F' H', Same F F' → Sim K n F' Γ' σ' H' → E.bk σ' H'
  | .ct Γ' => ∀ σ' F' H', Same F F' → Sim K n F' Γ' σ' H' → E.ct σ' H'
  | .ex x Γ' => ∀ cls dO σ' F' H', Same F F' → Sim K n F' Γ' σ' H' → XOk K F' x cls dO → W cls dO σ' H'
  | .no => False
abbrev Ms := Gm → Rs
def tS (K : PySem.W.Frag) (W : WX) (m : Ms) : TS := fun E σ H => ∃ n F Γ, Sim K n F Γ σ H ∧ PostS K W n F E (m Γ)
/-- an expression's run, then a statement's rest -/
def R.then {α : Type} : R α → (α → Gm → Rs) → Rs
  | .ok a Γ, f => f a Γ
  | .ex x Γ, _ => .ex x Γ
  | .no, _ => .no
def Rs.bind : Rs → Ms → Rs
  | .nx Γ, f => f Γ
  | r, _ => r
section
variable {K : PySem.W.Frag} {W : WX} {n : Ent} {F F1 H : Hp} {Γ : Gm} {σ : L2.St} {E : Ends}
theorem PostS.wk {r : Rs} (e : Same F F1) (h : PostS K W n F E r) : PostS K W n F1 E r := by
  cases r with
  | nx Γ' => exact fun σ' F' H' s S => h σ' F' H' (e.trans s) S
  | rt r Γ' => exact fun v σ' F' H' s S q => h v σ' F' H' (e.trans s) S q
  | bk Γ' => exact fun σ' F' H' s S => h σ' F' H' (e.trans s) S
  | ct Γ' => exact fun σ' F' H' s S => h σ' F' H' (e.trans s) S
  | ex x Γ' => exact fun c d σ' F' H' s S q => h c d σ' F' H' (e.trans s) S q
  | no => exact h
theorem PostS.nx (h : PostS K W n F E (.nx Γ)) (s : Same F F1) (S : Sim K n F1 Γ σ H) : E.nx σ H := h σ F1 H s S
/-- an expression first -/
theorem PostS.seq {α β : Type} {REL : Hp → Hp → Gm → β → α → Prop} {Q1 : β → Hp → Prop} {r : R α} {f : α → Gm → Rs} (h : PostS K W n F E (r.then f))
    (k : ∀ a Γ1 b F1 H1, Same F F1 → Sim K n F1 Γ1 σ H1 → REL F1 H1 Γ1 b a → PostS K W n F1 E (f a Γ1) → Q1 b H1) : Post K W n F σ REL Q1 r := by
  cases r with
  | ok a Γ' => exact fun b F' H' s S q => k a Γ' b F' H' s S q (h.wk s)
  | ex x Γ' => exact fun c d F' H' s S q => h c d σ F' H' s S q
  | no => exact h
theorem goS {m : Ms} (S : Sim K n F Γ σ H) (h : PostS K W n F E (m Γ)) : tS K W m E σ H := ⟨n, F, Γ, S, h⟩
end

/-! ### stores -/
/-- slot i gets a new word -/
theorem Sim.set {K : PySem.W.Frag} {n : Ent} {F H : Hp} {Γ : Gm} {σ : L2.St} {i : Nat} {v : V} {s : Sl} (S : Sim K n F Γ σ H) (q : SlOk K n F H i (some v) s)
    (ap : s.mine = true → ∀ (j : Nat) (t : Sl) (a : Addr), Γ[j]? = some t → t.mine = true → σ[j]? = some (some (.ref a)) → v ≠ .ref a) : Sim K n F (Γ.set i s) (σ.set i (some v)) H where
  sub := S.sub
  len := by rw [List.length_set, List.length_set]; exact S.len
  sl := fun j t ov h1 h2 => by
    by_cases hj : i = j
    · subst hj
      have l1 : i < Γ.length := by
        have := (List.getElem?_eq_some_iff.mp h1).1
        rwa [List.length_set] at this
      rw [List.getElem?_set_self l1] at h1
      rw [List.getElem?_set_self (by rw [← S.len]; exact l1)] at h2
      cases h1
      cases h2
      exact q
    · rw [List.getElem?_set_ne hj] at h1 h2
      exact S.sl j t ov h1 h2
  dis := fun j j' t t' a h1 h2 m1 m2 h3 h4 => by
    have self : ∀ (j : Nat) (t : Sl), (Γ.set i s)[j]? = some t → i = j → t = s ∧ ∀ b, (σ.set i (some v))[j]? = some (some (.ref b)) → v = .ref b := fun j t h e => by
      subst e
      have l1 : i < Γ.length := by
        have := (List.getElem?_eq_some_iff.mp h).1
        rwa [List.length_set] at this
      rw [List.getElem?_set_self l1] at h
      cases h
      refine ⟨rfl, fun b hb => ?_⟩
      rw [List.getElem?_set_self (by rw [← S.len]; exact l1)] at hb
      cases hb
      rfl
    by_cases e1 : i = j
    · by_cases e2 : i = j'
      · exact e1.symm.trans e2
      · obtain ⟨rfl, k⟩ := self j t h1 e1
        rw [List.getElem?_set_ne e2] at h2 h4
        exact (ap m1 j' t' a h2 m2 h4 (k a h3)).elim
    · by_cases e2 : i = j'
      · obtain ⟨rfl, k⟩ := self j' t' h2 e2
        rw [List.getElem?_set_ne e1] at h1 h3
        exact (ap m2 j t a h1 m1 h3 (k a h4)).elim
      · rw [List.getElem?_set_ne e1] at h1 h3
        rw [List.getElem?_set_ne e2] at h2 h4
        exact S.dis j j' t t' a h1 h2 m1 m2 h3 h4
  frame := S.frame
  frz := S.frz
  sub0 := S.sub0
def isIo (Γ : Gm) (i : Nat) : Bool := match Γ[i]? with
  | some (.io _) => true
  | _ => false
/-- the word of what came -/
def Rv.sl : Rv → Sl
  | .v d => .val d
  | .nw d => .own d
theorem Sim.store {K : PySem.W.Frag} {n : Ent} {F H : Hp} {Γ : Gm} {σ : L2.St} {i : Nat} {v : V} {r : Rv} (S : Sim K n F Γ σ H) (q : RvOk K n σ F H Γ v r) : Sim K n F (Γ.set i r.sl) (σ.set i (some v)) H := by
  cases r with
  | v d => exact S.set ⟨v, rfl, q⟩ fun m => by cases m
  | nw d =>
    obtain ⟨p, rfl, hf, hz, o, ap⟩ := q
    exact S.set ⟨p, rfl, hf, hz, o⟩ fun _ j t a h1 h2 h3 e => by
      cases e
      exact ap j t h1 h2 h3

/-! ### targets -/
abbrev Mg := D → Gm → Option Gm
/-- the slots but those at ts are as they were -/
def Agr (ts : List Nat) (σ σ' : L2.St) : Prop := σ'.length = σ.length ∧ ∀ i, i ∉ ts → σ'[i]? = σ[i]?
def tG (K : PySem.W.Frag) (ts : List Nat) (g : Mg) : TG := fun v σ H Q => ∃ n F Γ d Γ', Sim K n F Γ σ H ∧ Rp K F v d ∧ g d Γ = some Γ' ∧ ∀ σ', Agr ts σ σ' → Sim K n F Γ' σ' H → Q σ' H
abbrev MgL := List D → Gm → Option Gm
def tGL (K : PySem.W.Frag) (ts : List Nat) (g : MgL) : TGs := fun vs σ H Q => ∃ n F Γ ds Γ', Sim K n F Γ σ H ∧ RpL K F vs ds ∧ g ds Γ = some Γ' ∧ ∀ σ', Agr ts σ σ' → Sim K n F Γ' σ' H → Q σ' H
def gN (i : Nat) : Mg := fun d Γ => if isIo Γ i then none else some (Γ.set i (.val d))
def gN0 : MgL := fun ds Γ => if ds.isEmpty then some Γ else none
def gNC (g : Mg) (r : MgL) : MgL := fun ds Γ => match ds with
  | [] => none
  | d :: ds => (g d Γ).bind fun Γ1 => r ds Γ1
def gT (k : Nat) (g : MgL) : Mg := fun d Γ => match d with
  | .tup ds => if ds.length = k then g ds Γ else none
  | .lst ds => if ds.length = k then g ds Γ else none
  | _ => none
theorem pg_imp {X : Cx} {e : Expr} {t t' : TG} (h : PG X e t) (i : ∀ v σ H Q, t' v σ H Q → t v σ H Q) : PG X e t' := ⟨fun pins s σ H v u Q I r q => h.run pins s σ H v u Q I r (i _ _ _ _ q)⟩
theorem pgs_imp {X : Cx} {e : List Expr} {t t' : TGs} (h : PGs X e t) (i : ∀ v σ H Q, t' v σ H Q → t v σ H Q) : PGs X e t' := ⟨fun pins s σ H v u Q I r q => h.run pins s σ H v u Q I r (i _ _ _ _ q)⟩
section
variable {X : Cx} {W : WX} {pos : Pos}
theorem fg_name {i : Nat} {x : Str} (hN : X.N.Nodup) (hi : X.N[i]? = some x) (hx : Loc X.env.scope x) (hf : X.fn x = true ∨ X.env.scope.names.lookup x = some .local := by first | exact .inl rfl | exact .inr rfl | assumption) : PG X (.Name x pos) (tG X.K [i] (gN i)) :=
  pg_imp (pg_name hN hi hx hf) fun v σ H Q ⟨n, F, Γ, d, Γ', S, r, h, q⟩ => by
    unfold gN at h
    split at h
    · cases h
    · cases h
      exact q _ ⟨List.length_set, fun j hj => List.getElem?_set_ne (fun e => hj (by simp [e]))⟩ (S.store (r := .v d) r)
theorem fgs_nil : PGs X [] (tGL X.K [] gN0) := pgs_imp pgs_nil fun v σ H Q ⟨n, F, Γ, d, Γ', S, r, h, q⟩ => by
  unfold gN0 at h
  split at h
  · rename_i e
    cases h
    have : d = [] := List.isEmpty_iff.mp e
    subst this
    cases r
    exact ⟨rfl, q _ ⟨rfl, fun _ _ => rfl⟩ S⟩
  · cases h
theorem fgs_cons {e : Expr} {es : List Expr} {g : Mg} {r : MgL} {t1 t2 : List Nat} (h1 : PG X e (tG X.K t1 g)) (h2 : PGs X es (tGL X.K t2 r))
    (hs : (assignEach (e :: es) X.env).map (·.2) = assign e X.env :: (assignEach es X.env).map (·.2) := by rfl) : PGs X (e :: es) (tGL X.K (t1 ++ t2) (gNC g r)) := pgs_imp (pgs_cons h1 h2 hs) fun v σ H Q ⟨n, F, Γ, d, Γ', S, rr, h, q⟩ => by
  cases rr with
  | nil => cases h
  | @cons v vs d ds r1 r2 =>
    unfold gNC at h
    simp only at h
    cases e1 : g d Γ with
    | none => rw [e1] at h; cases h
    | some Γ1 =>
      rw [e1] at h
      exact ⟨v, vs, rfl, n, F, Γ, d, Γ1, S, r1, e1, fun σ' a1 S' => ⟨n, F, Γ1, ds, Γ', S', r2, h, fun σ2 a2 S2 => q σ2 ⟨a2.1.trans a1.1, fun i hi => by
        rw [List.mem_append, not_or] at hi
        exact (a2.2 i hi.2).trans (a1.2 i hi.1)⟩ S2⟩⟩
theorem pg_or {e : Expr} {t t' : TG} (h : PG X e t) (h' : PG X e t') : PG X e (fun v σ H Q => t v σ H Q ∨ t' v σ H Q) := ⟨fun pins s σ H v u Q I r q => q.elim (h.run pins s σ H v u Q I r) (h'.run pins s σ H v u Q I r)⟩
theorem fg_tup {es : List Expr} {k : Nat} {g : MgL} {n : Nat} {ts : List Nat} (hc : X.calm = true) (h : PGs X es (tGL X.K ts g))
    (hn : (assignEach es X.env).length = n := by rfl) (hst : (assignEach es X.env).findIdx? (·.1) = none := by rfl) : PG X (.Tuple es k pos) (tG X.K ts (gT n g)) :=
  pg_imp (pg_or (pg_tup (n := n) hc h hn hst) (pg_lst (n := n) hc h hn hst)) fun v σ H Q ⟨n', F, Γ, d, Γ', S, r, h, q⟩ => by
    unfold gT at h
    split at h
    · split at h
      · rename_i hl
        cases r with
        | tup a t => exact .inl ⟨_, _, rfl, same_t S.sub a, by rw [t.length]; exact hl, n', F, Γ, _, Γ', S, t, h, q⟩
      · cases h
    · split at h
      · rename_i hl
        cases r with
        | lst a t => exact .inr ⟨_, _, rfl, S.sub.seq a, by rw [t.length]; exact hl, n', F, Γ, _, Γ', S, t, h, q⟩
      · cases h
    · cases h
end

/-! ### what is walked -/
/-- J yields the trees ds, one a turn; what it makes is new -/
def Walk (K : PySem.W.Frag) (J : It) (F : Hp) (ds : List D) : Prop := ∀ (i : Nat) (F1 H1 : Hp), Same F F1 → Same F1 H1 →
  (∀ d, ds[i]? = some d → J.go i H1 ∧ ∀ x H2, J.yld i H1 x H2 → ∃ F2, Grow F1 H1 F2 H2 ∧ Rp K F2 x d) ∧ (ds.length ≤ i → J.stop i H1)
def tI (K : PySem.W.Frag) (W : WX) (m : M (List D)) : TI := fun σ H R => ∃ n F Γ, Sim K n F Γ σ H ∧ Post K W n F σ (fun F _ _ J ds => Walk K J F ds) R (m Γ)
theorem pi_imp {X : Cx} {tg e : Expr} {t t' : TI} (h : PI X tg e t) (i : ∀ σ H R, t' σ H R → t σ H R) : PI X tg e t' := ⟨fun pins s σ H R I q => h.run pins s σ H R I (i _ _ _ q)⟩
/-- the items of a list or tuple that stays, the signs of a text -/
def chrs (x : Str) : List D := x.cps.toList.map fun c => .str ⟨#[c]⟩
def mItL (m : M Ar) : M (List D) := fun Γ => (m Γ).bind fun a Γ1 => match fzA Γ1 a with
  | some (.lst ds, Γ2) => .ok ds Γ2
  | _ => .no
def mItT (m : M Ar) : M (List D) := fun Γ => (m Γ).bind fun a Γ1 => match fzA Γ1 a with
  | some (.tup ds, Γ2) => .ok ds Γ2
  | _ => .no
def mItS (m : M Ar) : M (List D) := fun Γ => (m Γ).bind fun a Γ1 => match fzA Γ1 a with
  | some (.str x, Γ2) => .ok (chrs x) Γ2
  | _ => .no
section
variable {X : Cx} {W : WX} {pos : Pos} {tg e : Expr} {ma : M Ar} {es : List Expr} {mr : M (List Ar)} {K : PySem.W.Frag}
theorem walk_list {F : Hp} {a : Addr} {xs : List V} {ds : List D} (h : SqL K F a xs) (t : RpL K F xs ds) : Walk K (Itl K a) F ds := fun i F1 H1 s1 s2 => by
  have hq := s2.seq (s1.seq h)
  refine ⟨fun d hd => ?_, fun hl => ⟨xs, hq, by rw [t.length]; exact hl⟩⟩
  obtain ⟨v, h1, h2⟩ := t.get hd
  refine ⟨⟨xs, v, hq, h1⟩, fun x H2 y => ?_⟩
  obtain ⟨rfl, y⟩ := y
  have e := (y xs hq).symm.trans h1
  cases e
  exact ⟨F1, Grow.refl s2, h2.mono s1⟩
theorem fi_list (h : PE X e (tM X.K W ma)) : PI X tg e (tI X.K W (mItL ma)) := pi_imp (pi_list h) fun σ H R ⟨n, F, Γ, S, h⟩ => go S (h.seq fun a Γ1 x F1 H1 _ s1 S1 r1 h1 => by
  split at h1
  · rename_i ds Γ2 e
    obtain ⟨F2, s2, S2, r2⟩ := S1.frz1 r1 e
    cases r2 with
    | lst a t => exact ⟨_, rfl, ⟨_, S2.sub.seq a⟩, h1.ok s2 S2 (walk_list a t)⟩
  · exact h1.elim)
theorem fi_tup (h : PE X e (tM X.K W ma)) : PI X tg e (tI X.K W (mItT ma)) := pi_imp (pi_tup h) fun σ H R ⟨n, F, Γ, S, h⟩ => go S (h.seq fun a Γ1 x F1 H1 _ s1 S1 r1 h1 => by
  split at h1
  · rename_i ds Γ2 e
    obtain ⟨F2, s2, S2, r2⟩ := S1.frz1 r1 e
    cases r2 with
    | tup a t =>
      refine ⟨_, rfl, ⟨_, same_t S2.sub a⟩, h1.ok s2 S2 fun i F1 H1 s3 s4 => ?_⟩
      have hq := same_t s4 (same_t s3 a)
      refine ⟨fun d hd => ?_, fun hl => ⟨_, hq, by rw [t.length]; exact hl⟩⟩
      obtain ⟨v, k1, k2⟩ := t.get hd
      refine ⟨⟨_, v, hq, k1⟩, fun x H2 y => ?_⟩
      obtain ⟨rfl, y⟩ := y
      have e := (y _ hq).symm.trans k1
      cases e
      exact ⟨F1, Grow.refl s4, k2.mono s3⟩
  · exact h1.elim)
theorem fi_str (h : PE X e (tM X.K W ma)) : PI X tg e (tI X.K W (mItS ma)) := pi_imp (pi_str h) fun σ H R ⟨n, F, Γ, S, h⟩ => go S (h.seq fun a Γ1 x F1 H1 _ s1 S1 r1 h1 => by
  split at h1
  · rename_i z Γ2 e
    obtain ⟨F2, s2, S2, r2⟩ := S1.frz1 r1 e
    cases r2 with
    | str a =>
      refine ⟨_, rfl, h1.ok s2 S2 fun i F1 H1 s3 s4 => ⟨fun d hd => ?_, fun hl => ?_⟩⟩
      · unfold chrs at hd
        rw [List.getElem?_map] at hd
        cases ec : z.cps.toList[i]? with
        | none => rw [ec] at hd; cases hd
        | some c =>
          rw [ec] at hd
          cases hd
          have hi : i < z.cps.toList.length := (List.getElem?_eq_some_iff.mp ec).1
          refine ⟨(by show i < z.cps.size; simpa using hi), fun x H2 y => ?_⟩
          obtain ⟨rfl, c', h1, rfl⟩ := y
          have : z.cps.toList[i]? = some c' := by simpa using h1
          rw [ec] at this
          cases this
          exact ⟨F1, Grow.refl s4, .str _⟩
      · unfold chrs at hl
        rw [List.length_map] at hl
        show z.cps.size ≤ i
        simpa using hl
  · exact h1.elim)
/-- range(n), range(a, b) -/
def rngL (lo hi : Int) : List D := (List.range (hi - lo).toNat).map fun (i : Nat) => D.int (lo + (i : Int))
def small62 (a : Int) : Bool := smallI 4611686018427387904 a
theorem small62_in {a : Int} (h : small62 a = true) : -(2 ^ 62) ≤ a ∧ a < 2 ^ 62 := by
  have h := smallI_iff.mp h
  omega
def mRg1 (mr : M (List Ar)) : M (List D) := fun Γ => (mr Γ).bind fun as Γ1 => match atL Γ1 as with
  | some [.int b] => if small62 b then .ok (rngL 0 b) Γ1 else .no
  | _ => .no
def mRg2 (mr : M (List Ar)) : M (List D) := fun Γ => (mr Γ).bind fun as Γ1 => match atL Γ1 as with
  | some [.int a, .int b] => if small62 a && small62 b then .ok (rngL a b) Γ1 else .no
  | _ => .no
theorem walk_range {F : Hp} {lo : Int} {n : Nat} : Walk K (Itr lo n) F ((List.range n).map fun (i : Nat) => D.int (lo + (i : Int))) := fun i F1 H1 s3 s4 => by
  refine ⟨fun d hd => ?_, fun hl => by rw [List.length_map, List.length_range] at hl; exact hl⟩
  rw [List.getElem?_map] at hd
  by_cases hi : i < n
  · rw [List.getElem?_range hi] at hd
    cases hd
    exact ⟨hi, fun x H2 y => by obtain ⟨rfl, rfl⟩ := y; exact ⟨F1, Grow.refl s4, .int _⟩⟩
  · rw [List.getElem?_eq_none (by rw [List.length_range]; omega)] at hd
    cases hd
theorem fi_range1 {p : Pos} {a : Expr} (hg : Gl X "range") (hm : X.mg "range" = none) (ha : PA X [a] (tAs X.K W mr)) (hs : starEach [a] X.env = [(false, eval a X.env)] := by rfl) : PI X tg (.Call (.Name "range" p) [a] [] pos) (tI X.K W (mRg1 mr)) :=
  pi_imp (pi_range1 hg hm ha hs) fun σ H R ⟨n, F, Γ, S, h⟩ => go S (h.seq fun as Γ1 xs F1 H1 _ s1 S1 r1 h1 => by
    split at h1
    · rename_i b e
      split at h1
      · rename_i hb
        have q := S1.rqs r1 e
        obtain ⟨v, rfl, q1⟩ := q.one
        cases q1.int
        have hb := small62_in hb
        refine ⟨b, rfl, hb.1, hb.2, ?_⟩
        have w := walk_range (K := X.K) (F := F1) (lo := 0) (n := b.toNat)
        unfold rngL at h1
        rw [Int.sub_zero] at h1
        exact h1.ok (.refl _) S1 w
      · exact h1.elim
    · exact h1.elim)
theorem fi_range2 {p : Pos} {a b : Expr} (hg : Gl X "range") (hm : X.mg "range" = none) (ha : PA X [a, b] (tAs X.K W mr)) (hs : starEach [a, b] X.env = [(false, eval a X.env), (false, eval b X.env)] := by rfl) (hs2 : starEach [b] X.env = [(false, eval b X.env)] := by rfl) : PI X tg (.Call (.Name "range" p) [a, b] [] pos) (tI X.K W (mRg2 mr)) :=
  pi_imp (pi_range2 hg hm ha hs hs2) fun σ H R ⟨n, F, Γ, S, h⟩ => go S (h.seq fun as Γ1 xs F1 H1 _ s1 S1 r1 h1 => by
    split at h1
    · rename_i a b e
      split at h1
      · rename_i hb
        have q := S1.rqs r1 e
        obtain ⟨v, u, rfl, q1, q2⟩ := q.two
        cases q1.int
        cases q2.int
        rw [Bool.and_eq_true] at hb
        have ha := small62_in hb.1
        have hb := small62_in hb.2
        exact ⟨a, b, rfl, ⟨ha.1, ha.2, hb.1, hb.2⟩, h1.ok (.refl _) S1 walk_range⟩
      · exact h1.elim
    · exact h1.elim)
/-- enumerate(list), zip(list, list): pairs -/
def pairD (a b : D) : D := .tup [a, b]
def mEnum (mr : M (List Ar)) : M (List D) := fun Γ => (mr Γ).bind fun as Γ1 => match fzL Γ1 as with
  | some ([.lst ds], Γ2) => .ok (ds.zipIdx.map fun p => pairD (.int p.2) p.1) Γ2
  | _ => .no
def mZip (mr : M (List Ar)) : M (List D) := fun Γ => (mr Γ).bind fun as Γ1 => match fzL Γ1 as with
  | some ([.lst ds, .lst es], Γ2) => .ok (List.zipWith pairD ds es) Γ2
  | _ => .no
theorem grow_pair {F1 H1 : Hp} {T : Addr} {x y : V} {d e : D} (s : Same F1 H1) (h : H1 T = none) (r1 : Rp K F1 x d) (r2 : Rp K F1 y e) : ∃ F2, Grow F1 H1 F2 (upd H1 T (.tup [x, y])) ∧ Rp K F2 (.ref T) (pairD d e) :=
  ⟨_, Grow.one s h, .tup (SqT.of upd_same) (.cons (r1.mono (same_new (same_none s h))) (.cons (r2.mono (same_new (same_none s h))) .nil))⟩
theorem fi_enum {p tpos : Pos} {elts : List Expr} {kk : Nat} {a : Expr} (hg : Gl X "enumerate") (hm : X.mg "enumerate" = none) (ha : PA X [a] (tAs X.K W mr)) (hs : starEach [a] X.env = [(false, eval a X.env)] := by rfl) : PI X (.Tuple elts kk tpos) (.Call (.Name "enumerate" p) [a] [] pos) (tI X.K W (mEnum mr)) :=
  pi_imp (pi_enum hg hm ha hs) fun σ H R ⟨n, F, Γ, S, h⟩ => go S (h.seq fun as Γ1 xs F1 H1 _ s1 S1 r1 h1 => by
    split at h1
    · rename_i ds Γ2 e
      obtain ⟨F2, s2, S2, r2⟩ := Sim.frzs S1 r1 e
      cases r2 with
      | cons a b =>
        cases b
        cases a with
        | lst a t =>
          refine ⟨_, _, rfl, S2.sub.seq a, h1.ok s2 S2 fun i F3 H3 s3 s4 => ?_⟩
          have hq := s4.seq (s3.seq a)
          refine ⟨fun d hd => ?_, fun hl => ⟨_, hq, by rw [List.length_map, List.length_zipIdx] at hl; rw [t.length]; exact hl⟩⟩
          rw [List.getElem?_map, List.getElem?_zipIdx] at hd
          cases ed : ds[i]? with
          | none => rw [ed] at hd; cases hd
          | some d0 =>
            rw [ed] at hd
            cases hd
            obtain ⟨v, k1, k2⟩ := t.get ed
            refine ⟨⟨_, v, hq, k1⟩, fun x H2 y => ?_⟩
            obtain ⟨T, x', rfl, hT, rfl, y⟩ := y
            have e := (y _ hq).symm.trans k1
            cases e
            have z : (0 : Nat) + i = i := Nat.zero_add i
            exact grow_pair s4 hT (by rw [z]; exact .int _) (k2.mono s3)
    · exact h1.elim)
theorem fi_zip {p tpos : Pos} {elts : List Expr} {kk : Nat} {a b : Expr} (hg : Gl X "zip") (hm : X.mg "zip" = none) (ha : PA X [a, b] (tAs X.K W mr)) (hs : starEach [a, b] X.env = (false, eval a X.env) :: starEach [b] X.env := by rfl) (hpl : (backTo pos (starEach [b] X.env)).any (·.1) = false := by rfl) : PI X (.Tuple elts kk tpos) (.Call (.Name "zip" p) [a, b] [] pos) (tI X.K W (mZip mr)) :=
  pi_imp (pi_zip hg hm ha hs hpl) fun σ H R ⟨n, F, Γ, S, h⟩ => go S (h.seq fun as Γ1 xs F1 H1 _ s1 S1 r1 h1 => by
    split at h1
    · rename_i ds es Γ2 e
      obtain ⟨F2, s2, S2, r2⟩ := Sim.frzs S1 r1 e
      cases r2 with
      | cons a b =>
        cases b with
        | cons b c =>
          cases c
          cases a with
          | lst a t =>
            cases b with
            | lst b u =>
              refine ⟨_, _, _, _, rfl, S2.sub.seq a, S2.sub.seq b, h1.ok s2 S2 fun i F3 H3 s3 s4 => ?_⟩
              have hq := s4.seq (s3.seq a)
              have hq2 := s4.seq (s3.seq b)
              refine ⟨fun d hd => ?_, fun hl => ?_⟩
              · rw [List.getElem?_zipWith] at hd
                cases ed : ds[i]? with
                | none => rw [ed] at hd; cases hd
                | some d0 =>
                  cases ee : es[i]? with
                  | none => rw [ed, ee] at hd; cases hd
                  | some e0 =>
                    rw [ed, ee] at hd
                    cases hd
                    obtain ⟨v, k1, k2⟩ := t.get ed
                    obtain ⟨w, k3, k4⟩ := u.get ee
                    refine ⟨⟨_, _, _, _, hq, hq2, k1, k3⟩, fun x H2 y => ?_⟩
                    obtain ⟨T, x1, x2, rfl, hT, rfl, y1, y2⟩ := y
                    have e := (y1 _ hq).symm.trans k1
                    cases e
                    have e := (y2 _ hq2).symm.trans k3
                    cases e
                    exact grow_pair s4 hT (k2.mono s3) (k4.mono s3)
              · rw [List.length_zipWith] at hl
                refine ⟨_, _, hq, hq2, ?_⟩
                rw [t.length, u.length]
                omega
    · exact h1.elim)
end

/-! ### blocks, loops -/
theorem imp_sq {K : PySem.W.Frag} {W : WX} {a b : Ms} : ∀ E σ H, tS K W (fun Γ => (a Γ).bind b) E σ H → tSeq (tS K W a) (tS K W b) E σ H := fun E σ H ⟨n, F, Γ, S, h⟩ => by
  refine ⟨n, F, Γ, S, ?_⟩
  have h : PostS K W n F E ((a Γ).bind b) := h
  cases e : a Γ with
  | nx Γ1 => rw [e] at h; exact fun σ' F' H' s S' => ⟨n, F', Γ1, S', PostS.wk s h⟩
  | rt r Γ1 => rw [e] at h; exact h
  | bk Γ1 => rw [e] at h; exact h
  | ct Γ1 => rw [e] at h; exact h
  | ex x Γ1 => rw [e] at h; exact h
  | no => rw [e] at h; exact h
def mSq (a b : Ms) : Ms := fun Γ => (a Γ).bind b
def mNx : Ms := fun Γ => .nx Γ
def mPass : Ms := fun Γ => .nx Γ
def mBk : Ms := fun Γ => .bk Γ
def mCt : Ms := fun Γ => .ct Γ
def mIfS (q : M Bool) (a b : Ms) : Ms := fun Γ => (q Γ).then fun c Γ1 => if c then a Γ1 else b Γ1
def mRet (m : M Rv) : Ms := fun Γ => (m Γ).then fun r Γ1 => .rt r Γ1
def mRetN : Ms := fun Γ => .rt (.v .non) Γ
def mDrop (m : M Ar) : Ms := fun Γ => (m Γ).then fun _ Γ1 => .nx Γ1
/-- name = value -/
def mSet (i : Nat) (m : M Rv) : Ms := fun Γ => (m Γ).then fun r Γ1 => if isIo Γ1 i then .no else .nx (Γ1.set i r.sl)
/-- target = value -/
def mAsg (g : Mg) (m : M Ar) : Ms := fun Γ => (m Γ).then fun a Γ1 => match fzA Γ1 a with
  | some (d, Γ2) => match g d Γ2 with
    | some Γ3 => .nx Γ3
    | none => .no
  | none => .no
/-- what a slot holds is handed on for good -/
def mMv (m : M Ar) : M Rv := fun Γ => (m Γ).bind fun a Γ1 => match a with
  | .v d => .ok (.v d) Γ1
  | .sl j => match Γ1[j]? with
    | some (.own d) => .ok (.nw d) (Γ1.set j .un)
    | some (.val d) => .ok (.v d) Γ1
    | _ => .no
def loopS (body : Ms) (g : Mg) : List D → Ms
  | [] => fun Γ => .nx Γ
  | d :: ds => fun Γ => match g d Γ with
    | none => .no
    | some Γ1 => match body Γ1 with
      | .nx Γ2 => loopS body g ds Γ2
      | .ct Γ2 => loopS body g ds Γ2
      | .bk Γ2 => .nx Γ2
      | r => r
def mFor (mi : M (List D)) (g : Mg) (body : Ms) : Ms := fun Γ => (mi Γ).then fun ds Γ1 => loopS body g ds Γ1
def loopW (q : M Bool) (body : Ms) : Nat → Ms
  | 0 => fun _ => .no
  | k + 1 => fun Γ => (q Γ).then fun b Γ1 => if b then (match body Γ1 with
      | .nx Γ2 => loopW q body k Γ2
      | .ct Γ2 => loopW q body k Γ2
      | .bk Γ2 => .nx Γ2
      | r => r) else .nx Γ1
section
variable {X : Cx} {W : WX} {pos : Pos} {st : Stmt} {rest : List Stmt} {a b : Ms} {e : Expr} {ma : M Ar} {mr : M Rv} {q : M Bool}
theorem fss_nil : PSs X [] (tS X.K W mNx) := pss_imp pss_nil fun E σ H ⟨n, F, Γ, S, h⟩ => PostS.nx h (.refl _) S
theorem fss_one (h : PS X st (tS X.K W a)) : PSs X [st] (tS X.K W a) := pss_one h
theorem fss_cons (h : PS X st (tS X.K W a)) (h2 : PSs X rest (tS X.K W b)) : PSs X (st :: rest) (tS X.K W (mSq a b)) := pss_imp (pss_cons h h2) imp_sq
theorem fs_pass : PS X (.Pass pos) (tS X.K W mPass) := ps_imp ps_pass fun E σ H ⟨n, F, Γ, S, h⟩ => PostS.nx h (.refl _) S
theorem fs_bk : PS X (.Break pos) (tS X.K W mBk) := ps_imp ps_break fun E σ H ⟨n, F, Γ, S, h⟩ => h σ F H (.refl _) S
theorem fs_ct : PS X (.Continue pos) (tS X.K W mCt) := ps_imp ps_continue fun E σ H ⟨n, F, Γ, S, h⟩ => h σ F H (.refl _) S
theorem fs_if {c : Expr} {p r : List Stmt} (hc : PT X c (tQ X.K W q)) (ha : PSs X p (tS X.K W a)) (hb : PSs X r (tS X.K W b)) : PS X (.If c p r pos) (tS X.K W (mIfS q a b)) := ps_imp (ps_if hc ha hb) fun E σ H ⟨n, F, Γ, S, h⟩ => go S (PostS.seq h fun c Γ1 x F1 H1 s1 S1 r1 h1 => by
  subst r1
  cases x with
  | true => exact iteT (goS S1 h1)
  | false => exact iteF (goS S1 h1))
theorem fs_ret (he : PE X e (tN X.K W mr)) : PS X (.Return (some e) pos) (tS X.K W (mRet mr)) := ps_imp (ps_ret he) fun E σ H ⟨n, F, Γ, S, h⟩ => ⟨n, F, Γ, S, PostS.seq (REL := RvOk X.K n σ) h fun r Γ1 x F1 H1 s1 S1 r1 h1 => h1 x σ F1 H1 (.refl _) S1 r1⟩
theorem fs_retN : PS X (.Return none pos) (tS X.K W mRetN) := ps_imp ps_retN fun E σ H ⟨n, F, Γ, S, h⟩ => h .non σ F H (.refl _) S .non
theorem fs_expr (he : PE X e (tM X.K W ma)) (hs : swapsWith e none pos.line X.env = pure false := by rfl) : PS X (.Expr e pos) (tS X.K W (mDrop ma)) := ps_imp (ps_expr he hs) fun E σ H ⟨n, F, Γ, S, h⟩ => go S (PostS.seq h fun c Γ1 x F1 H1 s1 S1 r1 h1 => PostS.nx h1 (.refl _) S1)
theorem fs_doc {x j pos pos'} : PS X (.Expr (.Constant (.str x) j pos) pos') (tS X.K W mPass) := ps_imp ps_doc fun E σ H ⟨n, F, Γ, S, h⟩ => PostS.nx h (.refl _) S
theorem fs_set {i : Nat} {x : Str} {pos' : Pos} (hN : X.N.Nodup) (hi : X.N[i]? = some x) (hx : Loc X.env.scope x) (he : PE X e (tN X.K W mr)) (hs : swapsWith e (some (.Name x pos')) pos.line X.env = pure false := by rfl) (hf : X.fn x = true ∨ X.env.scope.names.lookup x = some .local := by first | exact .inl rfl | exact .inr rfl | assumption) :
    PS X (.Assign [.Name x pos'] e pos) (tS X.K W (mSet i mr)) := ps_imp (ps_set hN hi hx he hs hf) fun E σ H ⟨n, F, Γ, S, h⟩ => ⟨n, F, Γ, S, PostS.seq (REL := RvOk X.K n σ) h fun r Γ1 x F1 H1 s1 S1 r1 h1 => by
  split at h1
  · exact h1.elim
  · exact PostS.nx h1 (.refl _) (S1.store r1)⟩
theorem fs_asg {tg : Expr} {g : Mg} {ts : List Nat} (he : PE X e (tM X.K W ma)) (hg : PG X tg (tG X.K ts g)) (hs : swapsWithSole [tg] e pos.line X.env = pure false := by rfl) (hw : swappedStores [tg] e X.env = pure none := by rfl)
    (h1 : (assignEach [tg] X.env).map (·.2) = [assign tg X.env] := by rfl) : PS X (.Assign [tg] e pos) (tS X.K W (mAsg g ma)) := ps_imp (ps_asg he hg hs hw h1) fun E σ H ⟨n, F, Γ, S, h⟩ => go S (PostS.seq h fun a Γ1 x F1 H1 s1 S1 r1 h1 => by
  cases ef : fzA Γ1 a with
  | none => rw [ef] at h1; exact h1.elim
  | some p =>
    obtain ⟨d, Γ2⟩ := p
    rw [ef] at h1
    obtain ⟨F2, s2, S2, r2⟩ := S1.frz1 r1 ef
    simp only at h1
    cases eg : g d Γ2 with
    | none => rw [eg] at h1; exact h1.elim
    | some Γ3 =>
      rw [eg] at h1
      exact ⟨n, F2, Γ2, d, Γ3, S2, r2, eg, fun σ' _ S' => PostS.nx h1 s2 S'⟩)
theorem Sim.drop {K : PySem.W.Frag} {n : Ent} {F H : Hp} {Γ : Gm} {σ : L2.St} (S : Sim K n F Γ σ H) (j : Nat) : Sim K n F (Γ.set j .un) σ H where
  sub := S.sub
  len := by rw [List.length_set]; exact S.len
  sl := fun i s ov h1 h2 => by
    by_cases hj : j = i
    · subst hj
      have l1 := (List.getElem?_eq_some_iff.mp h1).1
      rw [List.length_set] at l1
      rw [List.getElem?_set_self l1] at h1
      cases h1
      trivial
    · rw [List.getElem?_set_ne hj] at h1; exact S.sl i s ov h1 h2
  dis := fun i i' s t b h1 h2 m1 m2 h3 h4 => by
    have not : ∀ (i : Nat) (s : Sl), (Γ.set j .un)[i]? = some s → s.mine = true → Γ[i]? = some s := fun i s h m => by
      by_cases hi : j = i
      · subst hi
        have l1 := (List.getElem?_eq_some_iff.mp h).1
        rw [List.length_set] at l1
        rw [List.getElem?_set_self l1] at h; cases h; cases m
      · rw [List.getElem?_set_ne hi] at h; exact h
    exact S.dis i i' s t b (not i s h1 m1) (not i' t h2 m2) m1 m2 h3 h4
  frame := S.frame
  frz := S.frz
  sub0 := S.sub0
theorem fn_mv (h : PE X e (tM X.K W ma)) : PE X e (tN X.K W (mMv ma)) := pe_imp h fun σ H Q ⟨n, F, Γ, S, h⟩ => go S (h.seq fun a Γ1 x F1 H1 _ s1 S1 r1 h1 => by
  cases a with
  | v d => exact h1.ok (.refl _) S1 r1
  | sl j =>
    have r1 : σ[j]? = some (some x) := r1
    simp only at h1
    split at h1
    · rename_i d ed
      obtain ⟨p, k1, k2, k3, k4⟩ := S1.sl j _ _ ed r1
      cases k1
      refine h1.ok (.refl _) (S1.drop j) ⟨p, rfl, k2, k3, k4, fun i s h2 m h3 => ?_⟩
      by_cases hi : j = i
      · subst hi
        rw [List.getElem?_set_self (List.getElem?_eq_some_iff.mp ed).1] at h2
        cases h2
        cases m
      · rw [List.getElem?_set_ne hi] at h2
        exact hi (S1.dis j i _ s p ed h2 rfl m r1 h3)
    · rename_i d ed
      obtain ⟨v, k1, k2⟩ := S1.sl j _ _ ed r1
      cases k1
      exact h1.ok (.refl _) S1 k2
    · exact h1.elim)
theorem fs_for {tg iter : Expr} {body : List Stmt} {mi : M (List D)} {g : Mg} {ts : List Nat} (hp : PassesOwn (model X.prog X.w) X.A X.env X.xe) (hc : X.calm = true) (hi : PI X tg iter (tI X.K W mi)) (hg : PG X tg (tG X.K ts g)) (hb : PSs X body (tS X.K W a))
    (hs : ∀ x, foldedSetIterable iter X.env x = pure x := by intro _; rfl) : PS X (.For tg iter body [] pos) (tS X.K W (mFor mi g a)) := ps_imp (ps_for hp hc hi hg hb hs) fun E σ H ⟨n, F, Γ, S, h⟩ => go S (PostS.seq h fun ds Γ1 J F1 H1 s1 S1 w1 h1 => by
  refine ⟨fun i m σ' H' => ∃ F' Γ', Same F1 F' ∧ Sim X.K n F' Γ' σ' H' ∧ PostS X.K W n F' E (loopS a g (ds.drop i) Γ') ∧ i + m = ds.length, ⟨ds.length, F1, Γ1, .refl _, S1, h1, by omega⟩, fun i m σ' H' ⟨F', Γ', sF, S', h', hm⟩ => ?_⟩
  obtain ⟨w2, w3⟩ := w1 i F' H' sF S'.sub
  by_cases hi : i < ds.length
  · obtain ⟨g1, g2⟩ := w2 ds[i] (List.getElem?_eq_getElem hi)
    refine .inr ⟨g1, _, fun σ2 H2 hN => ⟨m - 1, by omega, hN⟩, fun x H2 y => ?_⟩
    obtain ⟨F2, gr, rp⟩ := g2 x H2 y
    have S2 := S'.grow gr
    rw [List.drop_eq_getElem_cons hi] at h'
    unfold loopS at h'
    cases eg : g ds[i] Γ' with
    | none => rw [eg] at h'; exact h'.elim
    | some Γ2 =>
      rw [eg] at h'
      have h' := PostS.wk gr.fz h'
      refine ⟨n, F2, Γ', _, Γ2, S2, rp, eg, fun σ3 _ S3 => ⟨n, F2, Γ2, S3, ?_⟩⟩
      cases eb : a Γ2 with
      | nx Γ3 => simp only [eb] at h'; exact fun σ4 F4 H4 s4 S4 => ⟨F4, Γ3, sF.trans (gr.fz.trans s4), S4, PostS.wk s4 h', by omega⟩
      | ct Γ3 => simp only [eb] at h'; exact fun σ4 F4 H4 s4 S4 => ⟨F4, Γ3, sF.trans (gr.fz.trans s4), S4, PostS.wk s4 h', by omega⟩
      | bk Γ3 => simp only [eb] at h'; exact fun σ4 F4 H4 s4 S4 => PostS.nx h' s4 S4
      | rt r Γ3 => simp only [eb] at h'; exact h'
      | ex x Γ3 => simp only [eb] at h'; exact h'
      | no => simp only [eb] at h'; exact h'
  · refine .inl ⟨w3 (by omega), ?_⟩
    rw [List.drop_eq_nil_of_le (by omega)] at h'
    exact PostS.nx h' (.refl _) S')
theorem fs_while {c : Expr} {body : List Stmt} (k : Nat) (hp : PassesOwn (model X.prog X.w) X.A X.env X.xe) (hc : PT X c (tQ X.K W q)) (hb : PSs X body (tS X.K W a)) : PS X (.While c body [] pos) (tS X.K W (loopW q a k)) := ps_imp (ps_while hp hc hb) fun E σ H ⟨n, F, Γ, S, h⟩ => by
  refine ⟨fun m σ' H' => ∃ F' Γ', Sim X.K n F' Γ' σ' H' ∧ PostS X.K W n F' E (loopW q a m Γ'), ⟨k, F, Γ, S, h⟩, fun m σ' H' ⟨F', Γ', S', h'⟩ => ?_⟩
  cases m with
  | zero => exact h'.elim
  | succ m =>
    unfold loopW at h'
    refine go S' (PostS.seq h' fun c Γ1 x F1 H1 s1 S1 r1 h1 => ?_)
    subst r1
    cases x with
    | true =>
      refine iteT ⟨_, fun σ2 H2 hN => ⟨m, by omega, hN⟩, n, F1, Γ1, S1, ?_⟩
      cases eb : a Γ1 with
      | nx Γ3 => simp only [eb] at h1; exact fun σ4 F4 H4 s4 S4 => ⟨F4, Γ3, S4, PostS.wk s4 h1⟩
      | ct Γ3 => simp only [eb] at h1; exact fun σ4 F4 H4 s4 S4 => ⟨F4, Γ3, S4, PostS.wk s4 h1⟩
      | bk Γ3 => simp only [eb] at h1; exact fun σ4 F4 H4 s4 S4 => PostS.nx h1 s4 S4
      | rt r Γ3 => simp only [eb] at h1; exact h1
      | ex x Γ3 => simp only [eb] at h1; exact h1
      | no => simp only [eb] at h1; exact h1
    | false => exact iteF (PostS.nx h1 (.refl _) S1)
end
end Fx

/-! Fx: defs, their promises, calls. -/
namespace Fx
open PySem PySem.Spec PyProof.Rows L2

/-! ### a def's promise, where no repr is on its way (guards) -/
structure FnG (P : Program) (w : World) (K : PySem.W.Frag) (mg : Str → Option Value) (base : Heap) (k : Nat) (f : Addr) (fd : FuncData) (ps : List Str) (sp : Sp) : Prop where
  len : ∀ vs H Q E, sp vs H Q E → vs.length = ps.length
  run : ∀ (A : Around) (outer : List Env) (s : Shared) (H : Hp) (args : Args) (us : List Value) (vs : List V) (Q : VK) (E : XK), Room k A → A.guards = some [] → Env0 P w K mg base A outer s H → BindsTo s fd args (ps.zip us) → Vals vs us → sp vs H Q E →
    codeAny (model P w) A (.call (.ref f) args) (CR (L2.CX P w) outer P w H s Q E) s
theorem FnG.mono {P : Program} {w : World} {K : PySem.W.Frag} {mg : Str → Option Value} {base : Heap} {j k : Nat} {f : Addr} {fd : FuncData} {ps : List Str} {sp : Sp} (F : FnG P w K mg base j f fd ps sp) (h : j ≤ k) : FnG P w K mg base k f fd ps sp :=
  ⟨F.len, fun A outer s H args us vs Q E hr => F.run A outer s H args us vs Q E (hr.mono h)⟩
theorem fng_body {P : Program} {w : World} {K : PySem.W.Frag} {mg : Str → Option Value} {base : Heap} {k : Nat} {f : Addr} {fd : FuncData} {x qual : Str} {st : Stmt} {N ps : List Str} {sp : Sp} (F : Fun K x qual st f fd) (S : FnScope N ps (defScope st))
    (len : ∀ vs H Q E, sp vs H Q E → vs.length = ps.length)
    (hbody : ∀ (cdv : Value) (A : Around) (outer : List Env) (s : Shared) (H : Hp) (vs : List V) (Q : VK) (E : XK), Room k (A.deeper (envOfC qual (defScope st) s.heap.objs.size f cdv)) → A.guards = some [] → sp vs H Q E →
      ∃ t, PSs (cxOf (L2.CX P w) P w K mg base N qual (defScope st) f cdv A outer s H E) (defBody st) t ∧ t { nx := fun _ H' => Q .non H', rt := Q } (start N vs) H) : FnG P w K mg base (k + 1) f fd ps sp := by
  obtain ⟨oc, od, kV, doc, pm, an, cdv, ct, osl, rfl, lk, hcd⟩ := F.ex
  constructor
  · exact len
  intro A outer s H args us vs Q E hr hgd e0 hb r hsp
  have l0 := len _ _ _ _ hsp
  have kin : K.In s.heap := e0.mod.kin.keeps fun b o e => (e0.bs b o e).1
  have nl : s.heap.NoLimit := e0.mod.nolimit.keeps fun b o e => (e0.bs b o e).1
  refine codeAny_call_function hr.depth (kin _ _ lk) rfl S.co S.gen rfl (PySem.W.codeRec_of kin hcd) (hb _ _ _ _ ?_)
  refine wpAny_newFunctionEnv_cells S.kind (fun ⟨nm, v⟩ hy => ?_) fun env he s1 y => ?_
  · rcases S.par nm (List.of_mem_zip hy).1 with q | q
    · exact Or.inl q
    · exact Or.inr ⟨q, PySem.W.cellsFrom_some _ _ _ (Or.inl q)⟩
  subst he
  refine ⟨nl.keeps y.toInCall.keep, codeAny_func ?_⟩
  obtain ⟨t, ht, hq⟩ := hbody cdv A outer s H vs Q E (hr.deeper _) hgd hsp
  have I0 := inv_start (CX := L2.CX P w) (f := f) (cd := cdv) (qual := qual) (outer := outer) (E := E) S hr.hd e0 l0 r y
  refine wpAny_mono (ht.run [] s1 _ H _ I0 hq) (fun fl s' hs => ?_) fun e s' hs => hs
  cases fl with
  | brk => obtain ⟨_, _, _, z⟩ := hs; exact z.elim
  | cont => obtain ⟨_, _, _, z⟩ := hs; exact z.elim
  | next =>
    obtain ⟨σ', H', J, q⟩ := hs
    exact ⟨V.non, H', J.os, J.bare, J.base, J.hok, rfl, q⟩
  | ret u =>
    obtain ⟨v, σ', H', J, rv, q⟩ := hs
    exact ⟨v, H', J.os, J.bare, J.base, J.hok, rv, q⟩

section
variable {X : Cx} {k : Nat} {f : Addr} {fd : FuncData} {ps : List Str} {sp : Sp} {x : Str} {p pos : Pos} {e : Expr} {es : List Expr} {t : TA} {W : WX} {dvs : List V} {ds : List Value}
theorem run_fng {pins : List (Addr × Obj)} {σ : L2.St} {H : Hp} {s : Shared} {Q : VK} {us : List Value} {vs : List V} (Fn : FnG X.prog X.w X.K X.mg X.base k f fd ps sp) (hr : Room k X.A) (hgd : X.A.guards = some []) (hb : Binds X.K fd ps ds) (hd : Vals dvs ds) (tk : Takes X W)
    (I : Inv X pins σ H s) (r : Vals vs us) (h : sp (vs ++ dvs) H Q (WE W σ)) : wpAny (model X.prog X.w) X.A (call (.ref f) us) (EP X pins σ Q) X.xe s := by
  have r2 := r.append hd
  have l0 : (us ++ ds).length = ps.length := by rw [← r2.length]; exact Fn.len _ _ _ _ h
  refine wpAny_call (codeAny_mono (Fn.run X.A X.stack s H ⟨us, []⟩ (us ++ ds) (vs ++ dvs) Q (WE W σ) hr hgd I.env0 (hb s us I.kIn l0) r2 h) fun res s' hq => ?_)
  match res, hq with
  | .error e, hq => exact (passAt tk σ) pins H s e s' I hq
  | .ok (.ret u), hq => exact I.after hq
  | .ok .next, hq => exact False.elim hq
  | .ok .brk, hq => exact False.elim hq
  | .ok .cont, hq => exact False.elim hq
def tCallG (sp : Sp) (dvs : List V) (W : WX) (t : TA) : TE := fun σ H Q => t σ H fun vs H1 => sp (vs ++ dvs) H1 Q (WE W σ)
theorem pe_callG (Fn : FnG X.prog X.w X.K X.mg X.base k f fd ps sp) (hr : Room k X.A) (hgd : X.A.guards = some []) (hg : Gl X x) (hm : X.mg x = some (.ref f)) (hk : PySem.W.keepIn X.K (.ref f) = true) (hb : Binds X.K fd ps ds) (hd : Vals dvs ds) (tk : Takes X W)
    (ha : PA X (e :: es) t) (hdb : (x == ("__debug__" : Str)) = false := by decide) (he : starEach (e :: es) X.env = (false, eval e X.env) :: starEach es X.env := by rfl) (hpl : (backTo pos (starEach es X.env)).any (·.1) = false := by rfl) :
    PE X (.Call (.Name x p) (e :: es) [] pos) (tCallG sp dvs W t) := ⟨fun pins s σ H Q I h =>
  wpAny_Call_Name_kw (ld_glob I hg hm (PySem.W.callWith_K (h₀ := X.base) I.ok.mod.kin hk (thn (ha.run pos pins s σ H _ I h) fun us s1 ⟨vs, H1, I1, r, q⟩ => ⟨I1.kIn, run_fng Fn hr hgd hb hd tk I1 r q⟩) he hpl) hdb)⟩
theorem pe_callG0 (Fn : FnG X.prog X.w X.K X.mg X.base k f fd ps sp) (hr : Room k X.A) (hgd : X.A.guards = some []) (hg : Gl X x) (hm : X.mg x = some (.ref f)) (hk : PySem.W.keepIn X.K (.ref f) = true) (hb : Binds X.K fd ps ds) (hd : Vals dvs ds) (tk : Takes X W)
    (hdb : (x == ("__debug__" : Str)) = false := by decide) : PE X (.Call (.Name x p) [] [] pos) (tCallG sp dvs W tNil) := ⟨fun pins s σ H Q I h =>
  wpAny_Call_Name_kw (ld_glob I hg hm (PySem.W.callWith_K0 I.kIn hk (run_fng (us := []) Fn hr hgd hb hd tk I .nil h)) hdb)⟩
end

/-! ### the promise of a mirror: np parameters, of which the one at io (if any) is a caller's list or dict that may change -/
inductive FR where
  | ok (r : Rv) (e : D) | ex (x : Xn) (e : D) | no
def parG (io : Option Nat) (e : D) (ds : List D) : Gm := match io with
  | none => ds.map .val
  | some i => (ds.map .val).set i (.io e)
def ioD (io : Option Nat) (ds : List D) : D := match io with
  | none => .non
  | some i => ds.getD i .non
def RvF (K : PySem.W.Frag) (H0 F H : Hp) (v : V) : Rv → Prop
  | .v d => Rp K F v d
  | .nw d => ∃ p, v = .ref p ∧ F p = none ∧ H0 p = none ∧ OwnAt K F H p d
def spF (K : PySem.W.Frag) (np : Nat) (io : Option Nat) (mf : List D → FR) : Sp := fun vs H Q E => ∃ n F ds, Sim K n F (parG io (ioD io ds) ds) (vs.map some) H ∧ vs.length = np ∧ ds.length = np ∧ n.H0 = H ∧ n.F0 = F ∧ (∀ b, n.W b → ∃ i, io = some i ∧ n.ad i = b ∧ i < np) ∧
  match mf ds with
  | .ok r e => ∀ v F' H', Same F F' → Sim K n F' (parG io e ds) (vs.map some) H' → RvF K H F' H' v r → Q v H'
  | .ex x e => ∀ cls dO F' H', Same F F' → Sim K n F' (parG io e ds) (vs.map some) H' → XOk K F' x cls dO → E cls dO H'
  | .no => False
def ioOut (io : Option Nat) (Γ : Gm) : Option D := match io with
  | none => some .non
  | some i => match Γ[i]? with
    | some (.io d) => some d
    | _ => none
/-- a body as a mirror: N names -/
def bodyF (np N : Nat) (io : Option Nat) (body : Ms) (ds : List D) : FR := match body (parG io (ioD io ds) ds ++ List.replicate (N - np) .un) with
  | .rt r Γ' => match ioOut io Γ' with
    | some e => .ok r e
    | none => .no
  | .nx Γ' => match ioOut io Γ' with
    | some e => .ok (.v .non) e
    | none => .no
  | .ex x Γ' => match ioOut io Γ' with
    | some e => .ex x e
    | none => .no
  | _ => .no
section
variable {K : PySem.W.Frag} {n : Ent} {F F' H H' : Hp} {Γ Γ' : Gm} {σ σ' : L2.St}
theorem Sim.ext (S : Sim K n F Γ σ H) (k : Nat) : Sim K n F (Γ ++ List.replicate k .un) (σ ++ List.replicate k none) H := by
  have low : ∀ (i : Nat) (s : Sl), (Γ ++ List.replicate k .un)[i]? = some s → s ≠ .un → Γ[i]? = some s ∧ (σ ++ List.replicate k none)[i]? = σ[i]? := fun i s h ne => by
    by_cases hi : i < Γ.length
    · rw [List.getElem?_append_left hi] at h
      exact ⟨h, List.getElem?_append_left (by rw [← S.len]; exact hi)⟩
    · rw [List.getElem?_append_right (by omega), List.getElem?_replicate] at h
      split at h
      · cases h; exact (ne rfl).elim
      · cases h
  have nun : ∀ s : Sl, s.mine = true → s ≠ .un := fun s m e => by subst e; cases m
  refine ⟨S.sub, by rw [List.length_append, List.length_append, List.length_replicate, List.length_replicate, S.len], fun i s ov h1 h2 => ?_, fun i j s t a h1 h2 m1 m2 h3 h4 => ?_, S.frame, S.frz, S.sub0⟩
  · by_cases hs : s = .un
    · subst hs; trivial
    · obtain ⟨k1, k2⟩ := low i s h1 hs
      rw [k2] at h2
      exact S.sl i s ov k1 h2
  · obtain ⟨k1, k2⟩ := low i s h1 (nun s m1)
    obtain ⟨k3, k4⟩ := low j t h2 (nun t m2)
    rw [k2] at h3
    rw [k4] at h4
    exact S.dis i j s t a k1 k3 m1 m2 h3 h4
theorem parG_get {io : Option Nat} {e : D} {ds : List D} {i : Nat} {s : Sl} (h : (parG io e ds)[i]? = some s) : (io = some i ∧ s = .io e ∧ i < ds.length) ∨ (io ≠ some i ∧ ∃ d, ds[i]? = some d ∧ s = .val d) := by
  cases io with
  | none =>
    have h : (ds.map Sl.val)[i]? = some s := h
    rw [List.getElem?_map] at h
    cases e1 : ds[i]? with
    | none => rw [e1] at h; cases h
    | some d => rw [e1] at h; cases h; exact .inr ⟨by simp, d, rfl, rfl⟩
  | some j =>
    have h : ((ds.map Sl.val).set j (.io e))[i]? = some s := h
    by_cases hj : j = i
    · subst hj
      have l := (List.getElem?_eq_some_iff.mp h).1
      rw [List.length_set, List.length_map] at l
      rw [List.getElem?_set_self (by rw [List.length_map]; exact l)] at h
      cases h
      exact .inl ⟨rfl, rfl, l⟩
    · rw [List.getElem?_set_ne hj, List.getElem?_map] at h
      cases e1 : ds[i]? with
      | none => rw [e1] at h; cases h
      | some d => rw [e1] at h; cases h; exact .inr ⟨fun e => hj (Option.some.inj e), d, rfl, rfl⟩
theorem parG_len (io : Option Nat) (e : D) (ds : List D) : (parG io e ds).length = ds.length := by
  cases io with
  | none => exact List.length_map _
  | some j => exact (List.length_set).trans (List.length_map _)
theorem parG_io {i : Nat} {e : D} {ds : List D} (h : i < ds.length) : (parG (some i) e ds)[i]? = some (.io e) := by
  show ((ds.map Sl.val).set i (.io e))[i]? = _
  rw [List.getElem?_set_self (by rw [List.length_map]; exact h)]
theorem parG_val {io : Option Nat} {i : Nat} {e d : D} {ds : List D} (h : io ≠ some i) (hd : ds[i]? = some d) : (parG io e ds)[i]? = some (.val d) := by
  cases io with
  | none =>
    show (ds.map Sl.val)[i]? = _
    rw [List.getElem?_map, hd]
    rfl
  | some j =>
    show ((ds.map Sl.val).set j (.io e))[i]? = _
    rw [List.getElem?_set_ne (fun q => h (by rw [q])), List.getElem?_map, hd]
    rfl
/-- the parameters behind the run -/
theorem Sim.exit {io : Option Nat} {e0 e : D} {ds : List D} (S0 : Sim K n F (parG io e0 ds) σ H) (S : Sim K n F' Γ' σ' H') (ss : Same F F') (ho : ioOut io Γ' = some e) : Sim K n F' (parG io e ds) σ H' where
  sub := S.sub
  len := by rw [parG_len, ← S0.len, parG_len]
  sl := fun i s ov h1 h2 => by
    rcases parG_get h1 with ⟨rfl, rfl, hi⟩ | ⟨hi, d, hd, rfl⟩
    · obtain ⟨k1, _, _, _⟩ := S0.sl i _ ov (parG_io hi) h2
      have ho : (match Γ'[i]? with | some (.io d) => some d | _ => none) = some e := ho
      split at ho
      · rename_i d ed
        cases ho
        obtain ⟨ov', _, _, m2, m3, m4⟩ := S.slot_at ed
        exact ⟨k1, m2, m3, m4⟩
      · cases ho
    · obtain ⟨v, k1, k2⟩ := S0.sl i _ ov (parG_val hi hd) h2
      exact ⟨v, k1, k2.mono ss⟩
  dis := fun i j s t a h1 h2 m1 m2 _ _ => by
    rcases parG_get h1 with ⟨e1, _, _⟩ | ⟨_, d, _, rfl⟩
    · rcases parG_get h2 with ⟨e2, _, _⟩ | ⟨_, d, _, rfl⟩
      · exact Option.some.inj (e1.symm.trans e2)
      · cases m2
    · cases m1
  frame := S.frame
  frz := S.frz
  sub0 := S.sub0
end
abbrev CxD (P : Program) (w : World) (K : PySem.W.Frag) (mg : Str → Option Value) (base : Heap) (N : List Str) (qual : Str) (st : Stmt) (f : Addr) (cd : Value) (A : Around) (outer : List Env) (s : Shared) (H : Hp) (E : XK) : Cx := cxOf (L2.CX P w) P w K mg base N qual (defScope st) f cd A outer s H E
abbrev WD (E : XK) : WX := fun cls d _ H => E cls d H
/-- THE RULE of a def: its body's mirror -/
theorem fng_mirror {P : Program} {w : World} {K : PySem.W.Frag} {mg : Str → Option Value} {base : Heap} {k : Nat} {f : Addr} {fd : FuncData} {x qual : Str} {st : Stmt} {N ps : List Str} {np : Nat} {io : Option Nat} {body : Ms} (F : Fun K x qual st f fd) (S : FnScope N ps (defScope st)) (hnp : ps.length = np)
    (hbody : ∀ (cd : Value) (A : Around) (outer : List Env) (s : Shared) (H : Hp) (E : XK), Room k (CxD P w K mg base N qual st f cd A outer s H E).A → (CxD P w K mg base N qual st f cd A outer s H E).A.guards = some [] → Takes (CxD P w K mg base N qual st f cd A outer s H E) (WD E) →
      PassesOwn (model P w) (CxD P w K mg base N qual st f cd A outer s H E).A (CxD P w K mg base N qual st f cd A outer s H E).env (CxD P w K mg base N qual st f cd A outer s H E).xe → PSs (CxD P w K mg base N qual st f cd A outer s H E) (defBody st) (tS K (WD E) body)) : FnG P w K mg base (k + 1) f fd ps (spF K np io (bodyF np N.length io body)) := by
  refine fng_body F S (fun vs H Q E h => ?_) fun cdv A outer s H vs Q E hr hg h => ?_
  · obtain ⟨n, F, ds, _, h1, _⟩ := h
    rw [h1, hnp]
  · obtain ⟨n, F0, ds, S0, h1, h2, hH, hF, hW, h3⟩ := h
    refine ⟨_, hbody cdv A outer s H E hr hg (takes_of rfl rfl rfl rfl) (passes_of rfl), n, F0, parG io (ioD io ds) ds ++ List.replicate (N.length - np) .un, ?_, ?_⟩
    · have := S0.ext (N.length - np)
      unfold L2.start
      rw [h1]
      exact this
    · have low : ∀ (b : Addr) (Γ' : Gm) (σ' : L2.St) (F' H' : Hp) (e : D), Sim K n F' Γ' σ' H' → ioOut io Γ' = some e → (∀ (i : Nat) (s : Sl), Γ'[i]? = some s → s.mine = true → σ'[i]? ≠ some (some (V.ref b))) → ¬ n.W b := fun b Γ' σ' F' H' e S' ho ap hb => by
        obtain ⟨i, rfl, rfl, hi⟩ := hW b hb
        have ho : (match Γ'[i]? with | some (.io d) => some d | _ => none) = some e := ho
        split at ho
        · rename_i d ed
          obtain ⟨ov', k1, k2, _⟩ := S'.slot_at ed
          exact ap i _ ed rfl (by rw [k1, k2])
        · cases ho
      unfold bodyF at h3
      cases eb : body (parG io (ioD io ds) ds ++ List.replicate (N.length - np) .un) with
      | rt r Γ' =>
        rw [eb] at h3
        cases eo : ioOut io Γ' with
        | none => simp only [eo] at h3
        | some e =>
          simp only [eo] at h3
          intro v σ' F' H' ss S' rv
          refine h3 v F' H' ss (S0.exit S' ss eo) ?_
          cases r with
          | v d => exact rv
          | nw d =>
            obtain ⟨p, rfl, q1, q2, q3, q4⟩ := rv
            refine ⟨p, rfl, q1, ?_, q3⟩
            rcases q2 with q2 | q2
            · rw [← hH]; exact q2
            · exact (low p Γ' σ' F' H' e S' eo q4 q2).elim
      | nx Γ' =>
        rw [eb] at h3
        cases eo : ioOut io Γ' with
        | none => simp only [eo] at h3
        | some e =>
          simp only [eo] at h3
          exact fun σ' F' H' ss S' => h3 .non F' H' ss (S0.exit S' ss eo) .non
      | ex x Γ' =>
        rw [eb] at h3
        cases eo : ioOut io Γ' with
        | none => simp only [eo] at h3
        | some e =>
          simp only [eo] at h3
          exact fun cls dO σ' F' H' ss S' xx => h3 cls dO F' H' ss (S0.exit S' ss eo) xx
      | bk Γ' => rw [eb] at h3; exact h3.elim
      | ct Γ' => rw [eb] at h3; exact h3.elim
      | no => rw [eb] at h3; exact h3.elim

/-! ### the call of a def by its mirror -/
/-- the arguments: what stays becomes trees, the one at io is a slot of one's own -/
def preA (io : Option Nat) : Nat → List Ar → Gm → Option Gm
  | _, [], Γ => some Γ
  | i, a :: as, Γ => if io = some i then preA io (i + 1) as Γ else (fzA Γ a).bind fun p => preA io (i + 1) as p.2
/-- a tree that stays -/
def valG (Γ : Gm) : Ar → Option D
  | .v d => some d
  | .sl j => match Γ[j]? with
    | some (.val d) => some d
    | _ => none
def mineG (Γ : Gm) : Ar → Option D
  | .v _ => none
  | .sl j => match Γ[j]? with
    | some (.own d) => some d
    | some (.io d) => some d
    | _ => none
def argD (io : Option Nat) (Γ : Gm) : Nat → List Ar → Option (List D)
  | _, [] => some []
  | i, a :: as => (if io = some i then mineG Γ a else valG Γ a).bind fun d => (argD io Γ (i + 1) as).map (d :: ·)
def setS : Sl → D → Sl
  | .own _, d => .own d
  | .io _, d => .io d
  | s, _ => s
/-- the slot that was handed on gets its list back -/
def putIo (io : Option Nat) (as : List Ar) (e : D) (Γ : Gm) : Gm := match io with
  | none => Γ
  | some i => match as[i]? with
    | some (.sl j) => match Γ[j]? with
      | some s => Γ.set j (setS s e)
      | none => Γ
    | _ => Γ
def FR.run (io : Option Nat) (as : List Ar) (Γ : Gm) : FR → R Rv
  | .ok r e => .ok r (putIo io as e Γ)
  | .ex x e => .ex x (putIo io as e Γ)
  | .no => .no
/-- dv: the defaults that fill up -/
def mCall (np : Nat) (io : Option Nat) (mf : List D → FR) (dv : List D) (mr : M (List Ar)) : M Rv := fun Γ => (mr Γ).bind fun as Γ1 => match preA io 0 as Γ1 with
  | none => .no
  | some Γ2 => match argD io Γ2 0 (as ++ dv.map .v) with
    | none => .no
    | some ds => if ds.length = np then (mf ds).run io as Γ2 else .no
section
variable {K : PySem.W.Frag} {n : Ent} {F F' H H' : Hp} {Γ Γ' : Gm} {σ : L2.St} {io : Option Nat}
theorem preA_ok : ∀ {vs : List V} {as : List Ar} {i : Nat} {F : Hp} {Γ Γ' : Gm}, Sim K n F Γ σ H → RelAs K σ F vs as → preA io i as Γ = some Γ' → ∃ F', Same F F' ∧ Sim K n F' Γ' σ H
  | _, _, _, F, _, _, S, .nil, h => by cases h; exact ⟨F, .refl _, S⟩
  | _, _, i, F, Γ, Γ', S, .cons (a := a) r t, h => by
    unfold preA at h
    split at h
    · exact preA_ok S t h
    · cases e : fzA Γ a with
      | none => rw [e] at h; cases h
      | some p =>
        rw [e] at h
        obtain ⟨d, Γ1⟩ := p
        obtain ⟨F1, s1, S1, _⟩ := S.frz1 r e
        obtain ⟨F2, s2, S2⟩ := preA_ok S1 (t.mono s1) h
        exact ⟨F2, s1.trans s2, S2⟩
theorem Sim.valG (S : Sim K n F Γ σ H) {v : V} {a : Ar} {d : D} (r : RelA K σ F v a) (h : valG Γ a = some d) : Rp K F v d := by
  cases a with
  | v d' => cases h; exact r
  | sl j =>
    have r : σ[j]? = some (some v) := r
    have h : (match Γ[j]? with | some (.val d) => some d | _ => none) = some d := h
    split at h
    · rename_i d' e
      cases h
      obtain ⟨v', e1, q⟩ := S.sl j _ _ e r
      cases e1
      exact q
    · cases h
theorem Sim.mineG (S : Sim K n F Γ σ H) {v : V} {a : Ar} {d : D} (r : RelA K σ F v a) (h : mineG Γ a = some d) : ∃ j s p, a = .sl j ∧ Γ[j]? = some s ∧ s.mine = true ∧ v = .ref p ∧ σ[j]? = some (some (.ref p)) ∧ F p = none ∧ OwnAt K F H p d ∧ (n.H0 p = none ∨ n.W p) := by
  cases a with
  | v d' => cases h
  | sl j =>
    have r : σ[j]? = some (some v) := r
    have h : (match Γ[j]? with | some (.own d) => some d | some (.io d) => some d | _ => none) = some d := h
    split at h
    · rename_i d' e
      cases h
      obtain ⟨p, e1, q1, q2, q3⟩ := S.sl j _ _ e r
      cases e1
      exact ⟨j, _, p, rfl, e, rfl, rfl, r, q1, q3, q2⟩
    · rename_i d' e
      cases h
      obtain ⟨e1, q1, q2, q3⟩ := S.sl j _ _ e r
      cases e1
      exact ⟨j, _, _, rfl, e, rfl, rfl, r, q1, q3, q2⟩
    · cases h
theorem argD_ok (S : Sim K n F Γ σ H) : ∀ {vs : List V} {as : List Ar} {k : Nat} {ds : List D}, RelAs K σ F vs as → argD io Γ k as = some ds → vs.length = ds.length ∧ as.length = ds.length ∧
    ∀ (i : Nat) (d : D), ds[i]? = some d → ∃ v a, vs[i]? = some v ∧ as[i]? = some a ∧ RelA K σ F v a ∧ (io ≠ some (k + i) → Rp K F v d) ∧ (io = some (k + i) → mineG Γ a = some d)
  | _, _, _, _, .nil, h => by cases h; exact ⟨rfl, rfl, fun i d h => by simp at h⟩
  | _, _, k, ds, .cons (a := a) r t, h => by
    unfold argD at h
    cases e : (if io = some k then mineG Γ a else valG Γ a) with
    | none => rw [e] at h; cases h
    | some d0 =>
      rw [e] at h
      simp only [Option.bind_some] at h
      cases e2 : argD io Γ (k + 1) _ with
      | none => rw [e2] at h; cases h
      | some ds' =>
        rw [e2] at h
        cases h
        obtain ⟨l1, l2, q⟩ := argD_ok S t e2
        refine ⟨by simp [l1], by simp [l2], fun i d hd => ?_⟩
        cases i with
        | zero =>
          simp at hd
          subst hd
          refine ⟨_, a, rfl, rfl, r, fun ne => ?_, fun eq => ?_⟩
          · rw [if_neg (by simpa using ne)] at e
            exact S.valG r e
          · rw [if_pos (by simpa using eq)] at e
            exact e
        | succ i =>
          obtain ⟨v, a', k1, k2, k3, k4, k5⟩ := q i d (by simpa using hd)
          have z : k + 1 + i = k + (i + 1) := by omega
          rw [z] at k4 k5
          exact ⟨v, a', by simpa using k1, by simpa using k2, k3, k4, k5⟩
/-- the slot at j has changed to e, all else is as it was -/
theorem Sim.change (S : Sim K n F Γ σ H) {n2 : Ent} {F' H' : Hp} {ds : List D} {vs : List V} {e : D} (hH : n2.H0 = H) (hF : n2.F0 = F) (ss : Same F F') (S2 : Sim K n2 F' (parG io e ds) (vs.map some) H') {j : Nat} {s : Sl} {p : Addr} {i : Nat} (hi : io = some i) (hil : i < ds.length) (hW : ∀ b, n2.W b → b = p) (had : n2.ad i = p)
    (ej : Γ[j]? = some s) (m : s.mine = true) (eσ : σ[j]? = some (some (.ref p))) (hp : n.H0 p = none ∨ n.W p) : Sim K n F' (Γ.set j (setS s e)) σ H' := by
  have hj : j < Γ.length := (List.getElem?_eq_some_iff.mp ej).1
  have io1 := S2.slot_at (parG_io (e := e) hil |> fun q => by rw [hi]; exact q)
  obtain ⟨ov, _, _, k2, _, k4⟩ := io1
  rw [had] at k2 k4
  have m2 : (setS s e).mine = true := by cases s <;> first | rfl | cases m
  have keep : ∀ b u, H b = some u → b ≠ p → H' b = some u := fun b u h ne => S2.frame b u (by rw [hH]; exact h) fun w => ne (hW b w)
  have not : ∀ (i : Nat) (t : Sl), (Γ.set j (setS s e))[i]? = some t → ∃ t', Γ[i]? = some t' ∧ (t.mine = true → t'.mine = true) := fun i t h => by
    by_cases hi : j = i
    · subst hi; exact ⟨s, ej, fun _ => m⟩
    · rw [List.getElem?_set_ne hi] at h; exact ⟨t, h, id⟩
  refine ⟨S2.sub, by rw [List.length_set]; exact S.len, fun i t ov h1 h2 => ?_, fun i i' t t' a h1 h2 m1 m2 h3 h4 => ?_, fun b u h w => ?_, fun b u h => ?_, S.sub0.trans ss⟩
  · by_cases hij : j = i
    · subst hij
      rw [List.getElem?_set_self hj] at h1
      cases h1
      rw [eσ] at h2
      cases h2
      cases s with
      | un => cases m
      | val d => cases m
      | own d => exact ⟨p, rfl, k2, hp, k4⟩
      | io d =>
        obtain ⟨q1, _, q3, _⟩ := S.sl j _ _ ej eσ
        have q1 := V.ref.inj (Option.some.inj q1)
        exact ⟨by rw [← q1], by rw [← q1]; exact k2, q3, by rw [← q1]; exact k4⟩
    · rw [List.getElem?_set_ne hij] at h1
      have old := S.sl i t ov h1 h2
      have ne : ∀ b, t.mine = true → ov = some (.ref b) → b ≠ p := fun b mt eo eb => hij (S.dis j i s t p ej h1 m mt eσ (by rw [h2, eo, eb]))
      have fne : ∀ b d, b ≠ p → F b = none → OwnAt K F H b d → F' b = none ∧ OwnAt K F' H' b d := fun b d hb q o => by
        obtain ⟨u, hu⟩ := o.there
        refine ⟨?_, o.mono ss ((keep b u hu hb).trans hu.symm)⟩
        cases z : F' b with
        | none => rfl
        | some o' =>
          rcases S2.frz b o' z with ⟨u', k⟩ | k | k
          · rw [hF, q] at k; cases k
          · rw [hH, hu] at k; cases k
          · exact (hb (hW b k)).elim
      cases t with
      | un => trivial
      | val d => obtain ⟨v, q1, q2⟩ := old; exact ⟨v, q1, q2.mono ss⟩
      | own d =>
        obtain ⟨b, q1, q2, q3, q4⟩ := old
        obtain ⟨r1, r2⟩ := fne b d (ne b rfl q1) q2 q4
        exact ⟨b, q1, r1, q3, r2⟩
      | io d =>
        obtain ⟨q1, q2, q3, q4⟩ := old
        obtain ⟨r1, r2⟩ := fne _ d (ne _ rfl q1) q2 q4
        exact ⟨q1, r1, q3, r2⟩
  · obtain ⟨t1, k1, k2⟩ := not i t h1
    obtain ⟨t2, k3, k4⟩ := not i' t' h2
    exact S.dis i i' t1 t2 a k1 k3 (k2 m1) (k4 m2) h3 h4
  · refine keep b u (S.frame b u h w) fun e => ?_
    subst e
    rcases hp with q | q
    · rw [h] at q; cases q
    · exact w q
  · rcases S2.frz b u h with ⟨u', k⟩ | k | k
    · rw [hF] at k; exact S.frz b u' k
    · rw [hH] at k
      by_cases hw : n.W b
      · exact .inr (.inr hw)
      · cases z : n.H0 b with
        | none => exact .inr (.inl rfl)
        | some o => rw [S.frame b o z hw] at k; cases k
    · have := hW b k
      subst this
      exact .inr hp
/-- nothing of the caller's has changed -/
theorem Sim.same (S : Sim K n F Γ σ H) {n2 : Ent} {F' H' : Hp} {Γ2 : Gm} {σ2 : L2.St} (hH : n2.H0 = H) (hF : n2.F0 = F) (ss : Same F F') (S2 : Sim K n2 F' Γ2 σ2 H') (hW : ∀ b, ¬ n2.W b) : Sim K n F' Γ σ H' :=
  S.grow ⟨ss, fun b u h => S2.frame b u (by rw [hH]; exact h) (hW b), S2.sub, fun b o h => by
    rcases S2.frz b o h with q | q | q
    · rw [hF] at q; exact .inl q
    · rw [hH] at q; exact .inr q
    · exact (hW b q).elim⟩
theorem RelAs.append : ∀ {vs us : List V} {as bs : List Ar}, RelAs K σ F vs as → RelAs K σ F us bs → RelAs K σ F (vs ++ us) (as ++ bs)
  | _, _, _, _, .nil, h => h
  | _, _, _, _, .cons a t, h => .cons a (RelAs.append t h)
theorem rel_dv : ∀ {us : List V} {ds : List D}, (∀ F : Hp, RpL K F us ds) → RelAs K σ F us (ds.map .v)
  | [], [], _ => .nil
  | [], _ :: _, h => nomatch h (fun _ => none)
  | _ :: _, [], h => nomatch h (fun _ => none)
  | u :: us, d :: ds, h => by
    have h1 : ∀ F : Hp, Rp K F u d := fun F => by cases h F; assumption
    have h2 : ∀ F : Hp, RpL K F us ds := fun F => by cases h F; assumption
    exact .cons (h1 F) (rel_dv h2)
theorem putIo_mine {as : List Ar} {e : D} {i : Nat} {s : Sl} (h : (putIo io as e Γ)[i]? = some s) (m : s.mine = true) : ∃ s', Γ[i]? = some s' ∧ s'.mine = true := by
  unfold putIo at h
  split at h
  · exact ⟨s, h, m⟩
  · split at h
    · rename_i j _
      split at h
      · rename_i s0 e0
        by_cases hj : j = i
        · subst hj
          have l := (List.getElem?_eq_some_iff.mp e0).1
          rw [List.getElem?_set_self l] at h
          cases h
          exact ⟨s0, e0, by cases s0 <;> first | rfl | exact m⟩
        · rw [List.getElem?_set_ne hj] at h
          exact ⟨s, h, m⟩
      · exact ⟨s, h, m⟩
    · exact ⟨s, h, m⟩
theorem im_call {W : WX} {np : Nat} {mf : List D → FR} {mr : M (List Ar)} {dv : List D} {dvs : List V} (hdv : ∀ F : Hp, RpL K F dvs dv) : ∀ σ H Q, tN K W (mCall np io mf dv mr) σ H Q → tCallG (spF K np io mf) dvs W (tAs K W mr) σ H Q := fun σ H Q ⟨n, F, Γ, S, h⟩ => go S (h.seq fun as Γ1 vs F1 H1 _ s1 S1 r1 h1 => by
  cases e1 : preA io 0 as Γ1 with
  | none => rw [e1] at h1; exact h1.elim
  | some Γ2 =>
    simp only [e1] at h1
    obtain ⟨F2, s2, S2⟩ := preA_ok S1 r1 e1
    have r2 : RelAs K σ F2 (vs ++ dvs) (as ++ dv.map .v) := (r1.mono s2).append (rel_dv hdv)
    cases e2 : argD io Γ2 0 (as ++ dv.map .v) with
    | none => rw [e2] at h1; exact h1.elim
    | some ds =>
      simp only [e2] at h1
      split at h1
      · rename_i hnp
        obtain ⟨l1, l2, q⟩ := argD_ok S2 r2 e2
        have h1 := h1.wk s2
        have zz : ∀ i : Nat, 0 + i = i := fun i => Nat.zero_add i
        simp only [zz] at q
        -- the callee's entry
        generalize hvs : vs ++ dvs = ws at *
        let n2 : Ent := ⟨H1, F2, fun b => ∃ i, io = some i ∧ i < ds.length ∧ ws[i]? = some (.ref b), fun i => match ws[i]? with | some (.ref a) => a | _ => 0⟩
        have ad : ∀ i a, ws[i]? = some (.ref a) → n2.ad i = a := fun i a e => by show (match ws[i]? with | some (.ref a) => a | _ => 0) = a; rw [e]
        have S3 : Sim K n2 F2 (parG io (ioD io ds) ds) (ws.map some) H1 := by
          refine ⟨S2.sub, by rw [parG_len, List.length_map, l1], fun i s ov h1 h2 => ?_, fun i j s t a h1 h2 m1 m2 _ _ => ?_, fun b o h _ => h, fun b o h => .inl ⟨o, h⟩, .refl _⟩
          · rw [List.getElem?_map] at h2
            rcases parG_get h1 with ⟨rfl, rfl, hi⟩ | ⟨hi, d, hd, rfl⟩
            · obtain ⟨v, a, k1, k2, k3, _, k5⟩ := q i _ (List.getElem?_eq_getElem hi)
              obtain ⟨j, s, p, rfl, m1, m2, rfl, m3, m4, m5, m6⟩ := S2.mineG k3 (k5 rfl)
              rw [k1] at h2
              cases h2
              rw [show ioD (some i) ds = ds[i] from by show ds.getD i .non = ds[i]; rw [List.getD_eq_getElem?_getD, List.getElem?_eq_getElem hi]; rfl]
              exact ⟨by rw [ad i p k1], by rw [ad i p k1]; exact m4, .inr ⟨i, rfl, hi, by rw [ad i p k1]; exact k1⟩, by rw [ad i p k1]; exact m5⟩
            · obtain ⟨v, a, k1, k2, k3, k4, _⟩ := q i _ hd
              rw [k1] at h2
              cases h2
              exact ⟨v, rfl, k4 hi⟩
          · rcases parG_get h1 with ⟨z1, _, _⟩ | ⟨_, d, _, rfl⟩
            · rcases parG_get h2 with ⟨z2, _, _⟩ | ⟨_, d, _, rfl⟩
              · exact Option.some.inj (z1.symm.trans z2)
              · cases m2
            · cases m1
        refine ⟨n2, F2, ds, S3, by rw [← hnp, l1], hnp, rfl, rfl, fun b ⟨i, z1, z2, z3⟩ => ⟨i, z1, ad i b z3, by rw [← hnp]; exact z2⟩, ?_⟩
        -- behind the call
        have back : ∀ (e : D) (F' H' : Hp), Same F2 F' → Sim K n2 F' (parG io e ds) (ws.map some) H' → Sim K n F' (putIo io as e Γ2) σ H' := fun e F' H' ss S4 => by
          cases io with
          | none => exact S2.same (n2 := n2) rfl rfl ss S4 fun b ⟨i, z, _⟩ => by cases z
          | some i =>
            by_cases hi : i < ds.length
            · obtain ⟨v, a, k1, k2, k3, _, k5⟩ := q i _ (List.getElem?_eq_getElem hi)
              obtain ⟨j, s, p, rfl, m1, m2, rfl, m3, m4, m5, m6⟩ := S2.mineG k3 (k5 rfl)
              have ai : as[i]? = some (.sl j) := by
                by_cases hl : i < as.length
                · rwa [List.getElem?_append_left hl] at k2
                · rw [List.getElem?_append_right (by omega), List.getElem?_map] at k2
                  cases z : dv[i - as.length]? with
                  | none => rw [z] at k2; cases k2
                  | some d => rw [z] at k2; cases k2
              have pe : putIo (some i) as e Γ2 = Γ2.set j (setS s e) := by
                show (match as[i]? with | some (.sl j) => (match Γ2[j]? with | some s => Γ2.set j (setS s e) | none => Γ2) | _ => Γ2) = _
                rw [ai]
                show (match Γ2[j]? with | some s => Γ2.set j (setS s e) | none => Γ2) = _
                rw [m1]
              rw [pe]
              refine S2.change (n2 := n2) rfl rfl ss S4 rfl hi (fun b ⟨i', z1, z2, z3⟩ => ?_) (ad i p k1) m1 m2 m3 m6
              cases z1
              rw [k1] at z3
              cases z3
              rfl
            · have pe : putIo (some i) as e Γ2 = Γ2 := by
                have : as[i]? = none := List.getElem?_eq_none (by rw [List.length_append, List.length_map] at l2; omega)
                show (match as[i]? with | some (.sl j) => (match Γ2[j]? with | some s => Γ2.set j (setS s e) | none => Γ2) | _ => Γ2) = _
                rw [this]
              rw [pe]
              exact S2.same (n2 := n2) rfl rfl ss S4 fun b ⟨i', z1, z2, _⟩ => by cases z1; exact hi z2
        cases em : mf ds with
        | no => rw [em] at h1; exact h1.elim
        | ex x e =>
          rw [em] at h1
          exact fun cls dO F' H' ss S4 xx => h1 cls dO F' H' ss (back e F' H' ss S4) xx
        | ok r e =>
          rw [em] at h1
          intro v F' H' ss S4 rv
          refine h1.ok ss (back e F' H' ss S4) ?_
          cases r with
          | v d => exact rv
          | nw d =>
            obtain ⟨p, rfl, k1, k2, k3⟩ := rv
            refine ⟨p, rfl, k1, ?_, k3, fun i s hs m hσ => ?_⟩
            · by_cases hw : n.W p
              · exact .inr hw
              · left
                cases z : n.H0 p with
                | none => rfl
                | some u => rw [S2.frame p u z hw] at k2; cases k2
            · obtain ⟨s', z1, z2⟩ := putIo_mine hs m
              have old := S2.sl i s' _ z1 hσ
              cases s' with
              | un => cases z2
              | val d => cases z2
              | own d =>
                obtain ⟨a, y1, _, _, y4⟩ := old
                cases y1
                obtain ⟨u, hu⟩ := y4.there
                rw [k2] at hu; cases hu
              | io d =>
                obtain ⟨y1, _, _, y4⟩ := old
                have y1 := V.ref.inj (Option.some.inj y1)
                obtain ⟨u, hu⟩ := y4.there
                rw [← y1, k2] at hu; cases hu
      · exact h1.elim)
end
section
variable {X : Cx} {k : Nat} {f : Addr} {fd : FuncData} {ps : List Str} {x : Str} {p pos : Pos} {e : Expr} {es : List Expr} {W : WX} {np : Nat} {io : Option Nat} {mf : List D → FR} {mr : M (List Ar)} {dvs : List V} {ds : List Value} {dv : List D}
theorem fn_call (Fn : FnG X.prog X.w X.K X.mg X.base k f fd ps (spF X.K np io mf)) (hr : Room k X.A) (hgd : X.A.guards = some []) (hg : Gl X x) (hm : X.mg x = some (.ref f)) (hk : PySem.W.keepIn X.K (.ref f) = true) (hb : Binds X.K fd ps ds) (hd : Vals dvs ds) (hdv : ∀ F : Hp, RpL X.K F dvs dv) (tk : Takes X W)
    (ha : PA X (e :: es) (tAs X.K W mr)) (hdb : (x == ("__debug__" : Str)) = false := by decide) (he : starEach (e :: es) X.env = (false, eval e X.env) :: starEach es X.env := by rfl) (hpl : (backTo pos (starEach es X.env)).any (·.1) = false := by rfl) :
    PE X (.Call (.Name x p) (e :: es) [] pos) (tN X.K W (mCall np io mf dv mr)) := pe_imp (pe_callG Fn hr hgd hg hm hk hb hd tk ha hdb he hpl) (im_call hdv)
theorem fn_call0 (Fn : FnG X.prog X.w X.K X.mg X.base k f fd ps (spF X.K np io mf)) (hr : Room k X.A) (hgd : X.A.guards = some []) (hg : Gl X x) (hm : X.mg x = some (.ref f)) (hk : PySem.W.keepIn X.K (.ref f) = true) (hb : Binds X.K fd ps ds) (hd : Vals dvs ds) (hdv : ∀ F : Hp, RpL X.K F dvs dv) (tk : Takes X W)
    (hdb : (x == ("__debug__" : Str)) = false := by decide) : PE X (.Call (.Name x p) [] [] pos) (tN X.K W (mCall np io mf dv mNil)) := pe_imp (pe_callG0 Fn hr hgd hg hm hk hb hd tk hdb) fun σ H Q h => by
  obtain ⟨n, F, Γ, S, h1⟩ := im_call hdv σ H Q h
  exact h1.ok (.refl _) S .nil
end
end Fx

/-! Fx: lists of one's own, changed; comprehensions. -/
namespace Fx
open PySem PySem.Spec PyProof.Rows L2

section
variable {K : PySem.W.Frag} {n : Ent} {F F' H H' : Hp} {Γ Γ' : Gm} {σ : L2.St}
/-- what slot j holds is written anew -/
theorem Sim.upd (S : Sim K n F Γ σ H) {j : Nat} {s : Sl} {p : Addr} {o : HO} {d : D} (ej : Γ[j]? = some s) (m : s.mine = true) (eσ : σ[j]? = some (some (.ref p))) (q : OwnAt K F (upd H p o) p d) : Sim K n F (Γ.set j (setS s d)) σ (upd H p o) := by
  have hj : j < Γ.length := (List.getElem?_eq_some_iff.mp ej).1
  have fp : F p = none ∧ (n.H0 p = none ∨ n.W p) := by
    have old := S.sl j s _ ej eσ
    cases s with
    | un => cases m
    | val d => cases m
    | own d => obtain ⟨a, e, h1, h2, _⟩ := old; cases e; exact ⟨h1, h2⟩
    | io d => obtain ⟨e, h1, h2, _⟩ := old; cases e; exact ⟨h1, h2⟩
  have not : ∀ (i : Nat) (t : Sl), (Γ.set j (setS s d))[i]? = some t → ∃ t', Γ[i]? = some t' ∧ (t.mine = true → t'.mine = true) := fun i t h => by
    by_cases hi : j = i
    · subst hi; exact ⟨s, ej, fun _ => m⟩
    · rw [List.getElem?_set_ne hi] at h; exact ⟨t, h, id⟩
  refine ⟨fun b u h => ?_, by rw [List.length_set]; exact S.len, fun i t ov h1 h2 => ?_, fun i i' t t' a h1 h2 m1 m2 h3 h4 => ?_, fun b u h w => ?_, S.frz, S.sub0⟩
  · rw [upd_ne (fun e => by subst e; rw [fp.1] at h; cases h)]
    exact S.sub _ _ h
  · by_cases hij : j = i
    · subst hij
      rw [List.getElem?_set_self hj] at h1
      cases h1
      rw [eσ] at h2
      cases h2
      cases s with
      | un => cases m
      | val d => cases m
      | own d' => exact ⟨p, rfl, fp.1, fp.2, q⟩
      | io d' =>
        obtain ⟨q1, _, q3, _⟩ := S.sl j _ _ ej eσ
        have q1 := V.ref.inj (Option.some.inj q1)
        exact ⟨by rw [← q1], by rw [← q1]; exact fp.1, q3, by rw [← q1]; exact q⟩
    · rw [List.getElem?_set_ne hij] at h1
      have old := S.sl i t ov h1 h2
      have ne : ∀ b, t.mine = true → ov = some (.ref b) → b ≠ p := fun b mt eo eb => hij (S.dis j i s t p ej h1 m mt eσ (by rw [h2, eo, eb]))
      cases t with
      | un => trivial
      | val d => exact old
      | own d => obtain ⟨b, q1, q2, q3, q4⟩ := old; exact ⟨b, q1, q2, q3, q4.mono (.refl _) (upd_ne (ne b rfl q1))⟩
      | io d => obtain ⟨q1, q2, q3, q4⟩ := old; exact ⟨q1, q2, q3, q4.mono (.refl _) (upd_ne (ne _ rfl q1))⟩
  · obtain ⟨t1, k1, k2⟩ := not i t h1
    obtain ⟨t2, k3, k4⟩ := not i' t' h2
    exact S.dis i i' t1 t2 a k1 k3 (k2 m1) (k4 m2) h3 h4
  · rw [upd_ne (fun e => by
      subst e
      rcases fp.2 with k | k
      · rw [h] at k; cases k
      · exact w k)]
    exact S.frame b u h w
/-- a slot that holds a list of one's own -/
theorem Sim.ownL (S : Sim K n F Γ σ H) {j : Nat} {v : V} {ds : List D} (h : Fx.mineG Γ (.sl j) = some (.lst ds)) (r : σ[j]? = some (some v)) : ∃ s p xs, Γ[j]? = some s ∧ s.mine = true ∧ v = .ref p ∧ σ[j]? = some (some (.ref p)) ∧ H p = some (.lst xs) ∧ RpL K F xs ds := by
  obtain ⟨j', s, p, e1, e2, e3, e4, e5, e6, e7, _⟩ := Sim.mineG (a := .sl j) S r h
  cases e1
  obtain ⟨xs, h1, h2⟩ := e7
  exact ⟨s, p, xs, e2, e3, e4, e5, h1, h2⟩
end
/-- slot j gets a new tree -/
def putG (Γ : Gm) (j : Nat) (d : D) : Gm := match Γ[j]? with
  | some s => Γ.set j (setS s d)
  | none => Γ
theorem putG_some {Γ : Gm} {j : Nat} {d : D} {s : Sl} (h : Γ[j]? = some s) : putG Γ j d = Γ.set j (setS s d) := by unfold putG; rw [h]

/-- a method that changes a list: from the items and the arguments the items behind it and what it hands back -/
abbrev Mu := List D → List D → Option (List D × D)
def rMut (K : PySem.W.Frag) (g : Mu) : V → List V → Hp → VK → Prop := fun x vs H Q => ∃ F p xs ds as zs z, x = .ref p ∧ H p = some (.lst xs) ∧ RpL K F xs ds ∧ RpL K F vs as ∧ g ds as = some (zs, z) ∧ ∀ v ws, RpL K F ws zs → Rp K F v z → Q v (upd H p (.lst ws))
def isL (o : Option D) : Bool := match o with
  | some (.lst _) => true
  | _ => false
def mMut (j : Nat) (g : Mu) (mr : M (List Ar)) : M Ar := fun Γ => if isL (mineG Γ (.sl j)) then (mr Γ).bind fun as Γ1 => match fzL Γ1 as with
  | some (es, Γ2) => match mineG Γ2 (.sl j) with
    | some (.lst ds) => match g ds es with
      | some (zs, z) => .ok (.v z) (putG Γ2 j (.lst zs))
      | none => .no
    | _ => .no
  | none => .no else .no
/-- x[i] = e, x a list -/
def mPutL (j : Nat) (mi me : M Ar) : Ms := fun Γ => (me Γ).then fun a Γ1 => if isL (mineG Γ1 (.sl j)) then (mi Γ1).then fun i Γ2 => match fzA Γ2 a with
  | some (d, Γ3) => match atG Γ3 i with
    | some (.int k) => match mineG Γ3 (.sl j) with
      | some (.lst ds) => match ixN ds.length k with
        | some t => .nx (putG Γ3 j (.lst (ds.set t d)))
        | none => .no
      | _ => .no
    | _ => .no
  | none => .no else .no
theorem isL_some {o : Option D} (h : isL o = true) : ∃ ds, o = some (.lst ds) := by
  cases o with
  | none => cases h
  | some d => cases d <;> first | exact ⟨_, rfl⟩ | cases h
theorem Sim.heldL {K : PySem.W.Frag} {n : Ent} {F H : Hp} {Γ : Gm} {σ : L2.St} (S : Sim K n F Γ σ H) {j : Nat} (h : isL (Fx.mineG Γ (.sl j)) = true) : ∃ v, σ[j]? = some (some v) := by
  obtain ⟨ds, e⟩ := isL_some h
  have q : (match Γ[j]? with | some (.own d) => some d | some (.io d) => some d | _ => none) = some (D.lst ds) := e
  split at q
  · rename_i d ed
    obtain ⟨ov, k1, p, k2, _⟩ := S.slot_at ed
    exact ⟨_, by rw [k1, k2]⟩
  · rename_i d ed
    obtain ⟨ov, k1, k2, _⟩ := S.slot_at ed
    exact ⟨_, by rw [k1, k2]⟩
  · cases q
section
variable {X : Cx} {W : WX} {pos : Pos} {e b : Expr} {me mi : M Ar} {es : List Expr} {mr : M (List Ar)} {K : PySem.W.Frag}
theorem im_mut {j : Nat} {g : Mu} : ∀ σ H Q, tM K W (mMut j g mr) σ H Q → tBM K "list" (rMut K g) (tVar j) (tAs K W mr) σ H Q := fun σ H Q ⟨n, F, Γ, S, h⟩ => by
  unfold mMut at h
  cases e0 : mineG Γ (.sl j) with
  | none => rw [e0] at h; exact h.elim
  | some d0 =>
    cases d0 with
    | lst ds0 =>
      rw [e0] at h
      have h : Post K W n F σ (fun F _ _ => RelA K σ F) Q ((mr Γ).bind fun as Γ1 => match fzL Γ1 as with
        | some (es, Γ2) => match mineG Γ2 (.sl j) with
          | some (.lst ds) => match g ds es with
            | some (zs, z) => .ok (.v z) (putG Γ2 j (.lst zs))
            | none => .no
          | _ => .no
        | none => .no) := h
      have : ∃ s, Γ[j]? = some s ∧ ∃ v, σ[j]? = some (some v) := by
        have q : (match Γ[j]? with | some (.own d) => some d | some (.io d) => some d | _ => none) = some (D.lst ds0) := e0
        split at q
        · rename_i d ed
          obtain ⟨ov, k1, p, k2, _⟩ := S.slot_at ed
          exact ⟨_, ed, _, by rw [k1, k2]⟩
        · rename_i d ed
          obtain ⟨ov, k1, k2, _⟩ := S.slot_at ed
          exact ⟨_, ed, _, by rw [k1, k2]⟩
        · cases q
      obtain ⟨s0, _, v, hv⟩ := this
      obtain ⟨s, p, xs, k1, k2, rfl, k4, k5, k6⟩ := S.ownL e0 hv
      refine ⟨_, hv, .inl ⟨rfl, xs, SqL.of k5⟩, go S (h.seq fun as Γ1 vs F1 H1 _ s1 S1 r1 h1 => ?_)⟩
      cases ef : fzL Γ1 as with
      | none => rw [ef] at h1; exact h1.elim
      | some q =>
        obtain ⟨es, Γ2⟩ := q
        simp only [ef] at h1
        obtain ⟨F2, s2, S2, r2⟩ := Sim.frzs S1 r1 ef
        cases em : mineG Γ2 (.sl j) with
        | none => rw [em] at h1; exact h1.elim
        | some d =>
          cases d with
          | lst ds =>
            simp only [em] at h1
            cases eg : g ds es with
            | none => rw [eg] at h1; exact h1.elim
            | some zz =>
              obtain ⟨zs, z⟩ := zz
              simp only [eg] at h1
              obtain ⟨s', p', xs', m1, m2, m3, m4, m5, m6⟩ := S2.ownL em hv
              cases m3
              refine ⟨F2, p, xs', ds, es, zs, z, rfl, m5, m6, r2, eg, fun v ws rw' rv => ?_⟩
              rw [putG_some m1] at h1
              exact h1.ok s2 (S2.upd m1 m2 m4 ⟨ws, upd_same, rw'⟩) rv
          | _ => rw [em] at h1; exact h1.elim
    | _ => rw [e0] at h; exact h.elim
theorem fx_mut {j : Nat} {x name : Str} {xp apos cpos : Pos} {g : Mu} {id : String} (slot : Slot "list" name id) (hty : typeOf (.builtin id) = pure (.type "method_descriptor")) (hm : MtR X id (rMut X.K g)) (ha : PA X (e :: es) (tAs X.K W mr))
    (hN : X.N[j]? = some x := by rfl) (hv : Vis X.env.scope x := by first | exact Or.inl rfl | exact Or.inr (Or.inl rfl) | exact Or.inr (Or.inr rfl)) (hd : (x == ("__debug__" : Str)) = false := by decide) (hcd : (x == ("__classdict__" : Str)) = false := by decide)
    (hbase : attributeBase (.Name x xp) name X.env (eval (.Name x xp) X.env) = eval (.Name x xp) X.env := by rfl)
    (hfew : ((backTo cpos (starEach (e :: es) X.env)).all (fun x => !x.1) && (backToKw cpos (keywordEach [] X.env)).all (fun x => x.1.isSome) && decide ((e :: es).length + ([] : List Keyword).length + (if ([] : List Keyword).isEmpty then 0 else 1) < 30)) = true := by rfl)
    (hline : (apos.endLine == cpos.line) = true := by rfl) (hs : starEach (e :: es) X.env = (false, eval e X.env) :: starEach es X.env := by rfl) (hplain : (backTo cpos (starEach es X.env)).any (·.1) = false := by rfl) :
    PE X (.Call (.Attribute (.Name x xp) name apos) (e :: es) [] cpos) (tM X.K W (mMut j g mr)) :=
  pe_imp (pe_bm PySem.F.plainAttrs_list slot hty hm (pe_var hN hv hd hcd) ha hbase hfew hline hs hplain) im_mut
def gApp : Mu := fun ds es => match es with
  | [d] => if ds.length < sizeLine then some (ds ++ [d], .non) else none
  | _ => none
theorem mt_appF : MtR X "list.append" (rMut X.K gApp) := by
  intro pins s σ H x xs v us Q I rx rs hh
  obtain ⟨F, p, ys, ds, as, zs, z, rfl, hp, r1, r2, hg, q⟩ := hh
  unfold gApp at hg
  split at hg
  · split at hg
    · cases hg
      cases r2 with
      | cons a b =>
        cases b
        exact mt_append pins s σ H _ _ v us Q I rx rs ⟨p, ys, _, rfl, rfl, hp, by rw [r1.length]; assumption, q _ _ (r1.append (.cons a .nil)) .non⟩
    · cases hg
  · cases hg
/-- x[i] = e -/
theorem fs_putL {j : Nat} {x : Str} {xp pos' : Pos} (he : PE X e (tM X.K W me)) (hi : PE X b (tM X.K W mi)) (hN : X.N[j]? = some x := by rfl) (hv : Vis X.env.scope x := by first | exact Or.inl rfl | exact Or.inr (Or.inl rfl) | exact Or.inr (Or.inr rfl)) (hd : (x == ("__debug__" : Str)) = false := by decide)
    (hcd : (x == ("__classdict__" : Str)) = false := by decide)
    (ha : ∀ v, assign (.Subscript (.Name x xp) b pos') X.env v = (do
      let ov ← holding [v] (eval (.Name x xp) X.env)
      let iv ← holding [v, ov] (eval b X.env)
      standAt pos'
      holding [v, ov, iv] (setItem ov iv v)
      release [v, ov, iv] []) := by intro _; rfl)
    (hs : swapsWithSole [.Subscript (.Name x xp) b pos'] e pos.line X.env = pure false := by rfl) (hw : swappedStores [.Subscript (.Name x xp) b pos'] e X.env = pure none := by rfl)
    (h1 : (assignEach [.Subscript (.Name x xp) b pos'] X.env).map (·.2) = [assign (.Subscript (.Name x xp) b pos') X.env] := by rfl) : PS X (.Assign [.Subscript (.Name x xp) b pos'] e pos) (tS X.K W (mPutL j mi me)) :=
  ps_imp (ps_asg he (pg_sub (pe_var hN hv hd hcd) hi set_list ha) hs hw h1) fun E σ H ⟨n, F, Γ, S, h⟩ => go S (PostS.seq h fun a Γ1 y F1 H1 s1 S1 r1 h1 => by
    split at h1
    · rename_i hl
      obtain ⟨v, hv⟩ := S1.heldL hl
      refine ⟨v, hv, go S1 (PostS.seq h1 fun i Γ2 iv F2 H2 s2 S2 r2 h2 => ?_)⟩
      cases ef : fzA Γ2 a with
      | none => rw [ef] at h2; exact h2.elim
      | some q =>
        obtain ⟨d, Γ3⟩ := q
        simp only [ef] at h2
        obtain ⟨F3, s3, S3, r3⟩ := S2.frz1 (r1.mono s2) ef
        cases ei : atG Γ3 i with
        | none => rw [ei] at h2; exact h2.elim
        | some di =>
          cases di with
          | int k =>
            simp only [ei] at h2
            cases em : mineG Γ3 (.sl j) with
            | none => rw [em] at h2; exact h2.elim
            | some dm =>
              cases dm with
              | lst ds =>
                simp only [em] at h2
                cases ek : ixN ds.length k with
                | none => rw [ek] at h2; exact h2.elim
                | some t =>
                  simp only [ek] at h2
                  obtain ⟨s', p, xs, m1, m2, m3, m4, m5, m6⟩ := S3.ownL em hv
                  cases (S3.rq (r2.mono s3) ei).int
                  refine ⟨p, xs, k, t, m3, rfl, m5, by rw [m6.length]; exact ek, ?_⟩
                  rw [putG_some m1] at h2
                  exact PostS.nx h2 s3 (S3.upd m1 m2 m4 ⟨_, upd_same, m6.set r3 t⟩)
              | _ => rw [em] at h2; exact h2.elim
          | _ => rw [ei] at h2; exact h2.elim
    · exact h1.elim)
end
end Fx

/-! Fx: list comprehensions. -/
namespace Fx
open PySem PySem.Spec PyProof.Rows L2

def unG (Γ : Gm) : List Nat → Gm
  | [] => Γ
  | v :: vs => (unG Γ vs).set v .un
def backG (Γ1 Γ2 : Gm) : List Nat → Gm
  | [] => Γ2
  | v :: vs => match Γ1[v]? with
    | some s => (backG Γ1 Γ2 vs).set v s
    | none => backG Γ1 Γ2 vs
def freeG (Γ : Gm) (vs : List Nat) : Bool := vs.all fun v => match Γ[v]? with
  | some s => !s.mine
  | none => true
section
variable {K : PySem.W.Frag} {n : Ent} {F F' H H' : Hp} {Γ Γ' : Gm} {σ σ' : L2.St}
theorem unG_len (Γ : Gm) : ∀ vs, (unG Γ vs).length = Γ.length
  | [] => rfl
  | v :: vs => by unfold unG; rw [List.length_set, unG_len Γ vs]
theorem unG_get {i : Nat} : ∀ {vs : List Nat} {s : Sl}, (unG Γ vs)[i]? = some s → s ≠ .un → Γ[i]? = some s ∧ i ∉ vs
  | [], s, h, _ => ⟨h, by simp⟩
  | v :: vs, s, h, ne => by
    unfold unG at h
    by_cases hv : v = i
    · subst hv
      have l := (List.getElem?_eq_some_iff.mp h).1
      rw [List.length_set] at l
      rw [List.getElem?_set_self l] at h
      cases h
      exact (ne rfl).elim
    · rw [List.getElem?_set_ne hv] at h
      obtain ⟨h1, h2⟩ := unG_get h ne
      exact ⟨h1, by simp only [List.mem_cons, not_or]; exact ⟨fun e => hv e.symm, h2⟩⟩
theorem mine_un {s : Sl} (m : s.mine = true) : s ≠ .un := fun e => by subst e; cases m
/-- slots forgotten -/
theorem Sim.wipe (S : Sim K n F Γ σ H) (vs : List Nat) : Sim K n F (unG Γ vs) (L2.wipe σ vs) H := by
  refine ⟨S.sub, by rw [unG_len, wipe_length, S.len], fun i s ov h1 h2 => ?_, fun i j s t a h1 h2 m1 m2 h3 h4 => ?_, S.frame, S.frz, S.sub0⟩
  · by_cases hs : s = .un
    · subst hs; trivial
    · obtain ⟨k1, k2⟩ := unG_get h1 hs
      rw [wipe_out k2] at h2
      exact S.sl i s ov k1 h2
  · obtain ⟨k1, k2⟩ := unG_get h1 (mine_un m1)
    obtain ⟨k3, k4⟩ := unG_get h2 (mine_un m2)
    exact S.dis i j s t a k1 k3 m1 m2 (wipe_some h3).1 (wipe_some h4).1
theorem wipe_in {i : Nat} {vs : List Nat} (hi : i ∈ vs) (σ : L2.St) : (L2.wipe σ vs)[i]? = if i < σ.length then some none else none := by
  induction vs with
  | nil => cases hi
  | cons v vs ih =>
    unfold L2.wipe
    by_cases hv : v = i
    · subst hv
      split
      · rename_i hl; rw [List.getElem?_set_self (by rw [wipe_length]; exact hl)]
      · rename_i hl; rw [List.getElem?_eq_none (by rw [List.length_set, wipe_length]; omega)]
    · rw [List.getElem?_set_ne hv]
      exact ih ((List.mem_cons.mp hi).resolve_left fun e => hv e.symm)
theorem wipe_wipe (σ : L2.St) (vs : List Nat) : L2.wipe (L2.wipe σ vs) vs = L2.wipe σ vs := by
  apply List.ext_getElem?
  intro i
  by_cases hi : i ∈ vs
  · rw [wipe_in hi, wipe_in hi, wipe_length]
  · rw [wipe_out hi]
theorem agr_wipe {ts : List Nat} : ∀ {vs : List Nat}, Agr ts σ σ' → (∀ i ∈ ts, i ∈ vs) → L2.wipe σ' vs = L2.wipe σ vs := fun {vs} a h => by
  apply List.ext_getElem?
  intro i
  by_cases hi : i ∈ vs
  · rw [wipe_in hi, wipe_in hi, a.1]
  · rw [wipe_out hi, wipe_out hi]
    exact a.2 i fun e => hi (h i e)
theorem backG_len (Γ1 Γ2 : Gm) : ∀ vs, (backG Γ1 Γ2 vs).length = Γ2.length
  | [] => rfl
  | v :: vs => by
    unfold backG
    split
    · rw [List.length_set, backG_len Γ1 Γ2 vs]
    · exact backG_len Γ1 Γ2 vs
theorem backG_get {Γ1 Γ2 : Gm} (hl : Γ1.length = Γ2.length) {i : Nat} : ∀ {vs : List Nat} {s : Sl}, (backG Γ1 Γ2 vs)[i]? = some s → (i ∈ vs ∧ Γ1[i]? = some s) ∨ (i ∉ vs ∧ Γ2[i]? = some s)
  | [], s, h => .inr ⟨by simp, h⟩
  | v :: vs, s, h => by
    unfold backG at h
    by_cases hv : v = i
    · subst hv
      split at h
      · rename_i s' e
        have l := (List.getElem?_eq_some_iff.mp h).1
        rw [List.length_set] at l
        rw [List.getElem?_set_self l] at h
        cases h
        exact .inl ⟨by simp, e⟩
      · rename_i e
        have l := (List.getElem?_eq_some_iff.mp h).1
        rw [backG_len, ← hl] at l
        rw [List.getElem?_eq_getElem l] at e
        cases e
    · have h' : (backG Γ1 Γ2 vs)[i]? = some s := by
        split at h
        · rwa [List.getElem?_set_ne hv] at h
        · exact h
      rcases backG_get hl h' with ⟨a, b⟩ | ⟨a, b⟩
      · exact .inl ⟨List.mem_cons_of_mem _ a, b⟩
      · exact .inr ⟨by simp only [List.mem_cons, not_or]; exact ⟨fun e => hv e.symm, a⟩, b⟩
theorem free_not {Γ : Gm} {vs : List Nat} (h : freeG Γ vs = true) {i : Nat} {s : Sl} (hi : i ∈ vs) (e : Γ[i]? = some s) : s.mine = false := by
  have := List.all_eq_true.mp h i hi
  rw [e] at this
  simpa using this
/-- the slots as they were ahead of the block -/
theorem Sim.back {Γ1 Γ2 : Gm} {F1 F2 H1 H2 : Hp} {vs : List Nat} (S1 : Sim K n F1 Γ1 σ H1) (S2 : Sim K n F2 Γ2 (L2.wipe σ vs) H2) (ss : Same F1 F2) (hf : freeG Γ1 vs = true) : Sim K n F2 (backG Γ1 Γ2 vs) σ H2 := by
  have hl : Γ1.length = Γ2.length := by rw [S1.len, S2.len, wipe_length]
  refine ⟨S2.sub, by rw [backG_len, ← hl, S1.len], fun i s ov h1 h2 => ?_, fun i j s t a h1 h2 m1 m2 h3 h4 => ?_, S2.frame, S2.frz, S2.sub0⟩
  · rcases backG_get hl h1 with ⟨a, b⟩ | ⟨a, b⟩
    · have m := free_not hf a b
      have old := S1.sl i s ov b h2
      cases s with
      | un => trivial
      | val d => obtain ⟨v, q1, q2⟩ := old; exact ⟨v, q1, q2.mono ss⟩
      | own d => cases m
      | io d => cases m
    · exact S2.sl i s ov b (by rw [wipe_out a]; exact h2)
  · rcases backG_get hl h1 with ⟨a1, b1⟩ | ⟨a1, b1⟩
    · rw [free_not hf a1 b1] at m1; cases m1
    · rcases backG_get hl h2 with ⟨a2, b2⟩ | ⟨a2, b2⟩
      · rw [free_not hf a2 b2] at m2; cases m2
      · exact S2.dis i j s t a b1 b2 m1 m2 (by rw [wipe_out a1]; exact h3) (by rw [wipe_out a2]; exact h4)
/-- an entry from here on: all that is tracked now stands, but what the slots own -/
def reE (n : Ent) (F H : Hp) (Γ : Gm) (σ : L2.St) : Ent := ⟨H, F, fun b => ∃ (j : Nat) (s : Sl), Γ[j]? = some s ∧ s.mine = true ∧ σ[j]? = some (some (V.ref b)), n.ad⟩
theorem Sim.re (S : Sim K n F Γ σ H) : Sim K (reE n F H Γ σ) F Γ σ H := by
  refine ⟨S.sub, S.len, fun i s ov h1 h2 => ?_, S.dis, fun b o h _ => h, fun b o h => .inl ⟨o, h⟩, .refl _⟩
  have old := S.sl i s ov h1 h2
  cases s with
  | un => trivial
  | val d => exact old
  | own d => obtain ⟨a, q1, q2, q3, q4⟩ := old; exact ⟨a, q1, q2, .inr ⟨i, _, h1, rfl, by rw [h2, q1]⟩, q4⟩
  | io d => obtain ⟨q1, q2, q3, q4⟩ := old; exact ⟨q1, q2, .inr ⟨i, _, h1, rfl, by rw [h2, q1]; rfl⟩, q4⟩
theorem Sim.reW (S : Sim K n F Γ σ H) {b : Addr} (h : (reE n F H Γ σ).W b) : n.H0 b = none ∨ n.W b := by
  obtain ⟨j, s, h1, h2, h3⟩ := h
  have old := S.sl j s _ h1 h3
  cases s with
  | un => cases h2
  | val d => cases h2
  | own d => obtain ⟨a, q1, _, q3, _⟩ := old; cases q1; exact q3
  | io d => obtain ⟨q1, _, q3, _⟩ := old; cases q1; exact q3
theorem Sim.reN (S : Sim K n F Γ σ H) {b : Addr} (h : H b = none) : n.H0 b = none ∨ n.W b := by
  by_cases hw : n.W b
  · exact .inr hw
  · left
    cases z : n.H0 b with
    | none => rfl
    | some u => rw [S.frame b u z hw] at h; cases h
/-- .. and back -/
theorem Sim.unre {F' H' : Hp} {Γ' : Gm} {σ' : L2.St} (S : Sim K n F Γ σ H) (S' : Sim K (reE n F H Γ σ) F' Γ' σ' H') : Sim K n F' Γ' σ' H' := by
  have tr : ∀ b, (H b = none ∨ (reE n F H Γ σ).W b) → n.H0 b = none ∨ n.W b := fun b h => h.elim S.reN S.reW
  refine ⟨S'.sub, S'.len, fun i s ov h1 h2 => ?_, S'.dis, fun b o h w => ?_, fun b o h => ?_, S.sub0.trans S'.sub0⟩
  · have old := S'.sl i s ov h1 h2
    cases s with
    | un => trivial
    | val d => exact old
    | own d => obtain ⟨a, q1, q2, q3, q4⟩ := old; exact ⟨a, q1, q2, tr a q3, q4⟩
    | io d => obtain ⟨q1, q2, q3, q4⟩ := old; exact ⟨q1, q2, tr _ q3, q4⟩
  · refine S'.frame b o (S.frame b o h w) fun hw => ?_
    rcases S.reW hw with q | q
    · rw [h] at q; cases q
    · exact w q
  · rcases S'.frz b o h with ⟨u, q⟩ | q | q
    · exact S.frz b u q
    · exact .inr (S.reN q)
    · exact .inr (S.reW q)
/-- an object that is neither held nor stays changes -/
theorem Sim.free (S : Sim K n F Γ σ H) {p : Addr} {o : HO} (hF : F p = none) (hp : n.H0 p = none ∨ n.W p) (ap : ∀ (j : Nat) (s : Sl), Γ[j]? = some s → s.mine = true → σ[j]? ≠ some (some (V.ref p))) : Sim K n F Γ σ (L2.upd H p o) := by
  refine ⟨fun b u h => ?_, S.len, fun i s ov h1 h2 => ?_, S.dis, fun b u h w => ?_, S.frz, S.sub0⟩
  · rw [upd_ne (fun e => by subst e; rw [hF] at h; cases h)]
    exact S.sub _ _ h
  · have old := S.sl i s ov h1 h2
    cases s with
    | un => trivial
    | val d => exact old
    | own d => obtain ⟨b, q1, q2, q3, q4⟩ := old; exact ⟨b, q1, q2, q3, q4.mono (.refl _) (upd_ne fun e => ap i _ h1 rfl (by rw [h2, q1, e]))⟩
    | io d => obtain ⟨q1, q2, q3, q4⟩ := old; exact ⟨q1, q2, q3, q4.mono (.refl _) (upd_ne fun e => ap i _ h1 rfl (by rw [h2, q1, e]))⟩
  · rw [upd_ne (fun e => by
      subst e
      rcases hp with k | k
      · rw [h] at k; cases k
      · exact w k)]
    exact S.frame b u h w
end

def loopC (g : Mg) (q : M Bool) (me : M Ar) (vs : List Nat) : List D → List D → Gm → R (List D)
  | [], acc => fun Γ => .ok acc Γ
  | d :: ds, acc => fun Γ => match g d Γ with
    | none => .no
    | some Γ1 => match q Γ1 with
      | .ok true Γ2 => match me Γ2 with
        | .ok a Γ3 => match fzA Γ3 a with
          | some (e, Γ4) => if acc.length < sizeLine then loopC g q me vs ds (acc ++ [e]) (unG Γ4 vs) else .no
          | none => .no
        | _ => .no
      | .ok false Γ2 => loopC g q me vs ds acc (unG Γ2 vs)
      | _ => .no
def mYes : M Bool := fun Γ => .ok true Γ
def mLc (vs : List Nat) (mi : M (List D)) (g : Mg) (q : M Bool) (me : M Ar) : M Rv := fun Γ => (mi Γ).bind fun ds Γ1 => if freeG Γ1 vs then match loopC g q me vs ds [] (unG Γ1 vs) with
  | .ok acc Γ2 => .ok (.nw (.lst acc)) (backG Γ1 Γ2 vs)
  | _ => .no else .no
/-- no exception leaves -/
abbrev W0 : WX := fun _ _ _ _ => False
theorem pts_imp {X : Cx} {e : List Expr} {t t' : TT} (h : PTs X e t) (i : ∀ σ H Q, t' σ H Q → t σ H Q) : PTs X e t' := ⟨fun pins s σ H Q I q => h.run pins s σ H Q I (i _ _ _ q)⟩
theorem fts_nil {X : Cx} {W : WX} : PTs X [] (tQ X.K W mYes) := pts_imp pts_nil fun σ H Q ⟨n, F, Γ, S, h⟩ => h.ok (.refl _) S rfl
theorem fts_one {X : Cx} {W : WX} {c : Expr} {q : M Bool} (h : PT X c (tQ X.K W q)) : PTs X [c] (tQ X.K W q) := pts_one h
theorem im_lc {K : PySem.W.Frag} {W : WX} {vs ts : List Nat} {mi : M (List D)} {g : Mg} {q : M Bool} {me : M Ar} (hts : ∀ i ∈ ts, i ∈ vs) : ∀ σ H Q, tN K W (mLc vs mi g q me) σ H Q → tLc (tI K W mi) (tG K ts g) (tQ K W0 q) (tM K W0 me) vs σ H Q := fun σ H Q ⟨n, F, Γ, S, h⟩ => go S (h.seq fun ds Γ1 J F1 H1 _ s1 S1 w1 h1 => by
  split at h1
  · rename_i hfree
    intro D hD
    cases el : loopC g q me vs ds [] (unG Γ1 vs) with
    | no => rw [el] at h1; exact h1.elim
    | ex x Γ' => rw [el] at h1; exact h1.elim
    | ok racc Γe =>
      simp only [el] at h1
      have hF1 : F1 D = none := same_none S1.sub hD
      -- the new list as it grows
      refine ⟨fun i m Hc => ∃ F' Γ' acc xs, Same F1 F' ∧ Sim K n F' Γ' (L2.wipe σ vs) Hc ∧ Hc D = some (.lst xs) ∧ RpL K F' xs acc ∧ F' D = none ∧ (∀ (j : Nat) (s : Sl), Γ'[j]? = some s → s.mine = true → (L2.wipe σ vs)[j]? ≠ some (some (V.ref D))) ∧ loopC g q me vs (ds.drop i) acc Γ' = .ok racc Γe ∧ i + m = ds.length, ?_, ?_⟩
      · refine ⟨ds.length, F1, unG Γ1 vs, [], [], .refl _, (S1.wipe vs).beside hD, upd_same, .nil, hF1, fun j s hj m e => ?_, el, by omega⟩
        obtain ⟨k1, k2⟩ := unG_get hj (mine_un m)
        have old := S1.sl j s _ k1 (wipe_some e).1
        cases s with
        | un => cases m
        | val d => cases m
        | own d => obtain ⟨a, q1, _, _, q4⟩ := old; cases q1; obtain ⟨u, hu⟩ := q4.there; rw [hD] at hu; cases hu
        | io d => obtain ⟨q1, _, _, q4⟩ := old; have q1 := V.ref.inj (Option.some.inj q1); obtain ⟨u, hu⟩ := q4.there; rw [← q1, hD] at hu; cases hu
      · intro i m Hc ⟨F', Γ', acc, xs, sF, S', hDc, rx, hFD, apD, hl, hm⟩
        obtain ⟨w2, w3⟩ := w1 i F' Hc sF S'.sub
        by_cases hi : i < ds.length
        · obtain ⟨g1, g2⟩ := w2 ds[i] (List.getElem?_eq_getElem hi)
          refine .inr ⟨g1, _, fun H2 hN => ⟨m - 1, by omega, hN⟩, fun x H2 y => ?_⟩
          obtain ⟨F2, gr, rp⟩ := g2 x H2 y
          have S2 := S'.grow gr
          have D2 : H2 D = some (.lst xs) := gr.hp _ _ hDc
          have FD2 : F2 D = none := by
            cases z : F2 D with
            | none => rfl
            | some o =>
              rcases gr.new D o z with ⟨u, k⟩ | k
              · rw [hFD] at k; cases k
              · rw [hDc] at k; cases k
          rw [List.drop_eq_getElem_cons hi] at hl
          unfold loopC at hl
          cases eg : g ds[i] Γ' with
          | none => rw [eg] at hl; cases hl
          | some Γ2 =>
            simp only [eg] at hl
            -- from here on the new list must stand
            have S2r := S2.re
            have notW : ¬ (reE n F2 H2 Γ' (L2.wipe σ vs)).W D := fun ⟨j, s, k1, k2, k3⟩ => apD j s k1 k2 k3
            refine ⟨_, F2, Γ', _, Γ2, S2r, rp, eg, fun σ2 ag S3 => ⟨?_, ?_⟩⟩
            · exact (agr_wipe ag hts).trans (wipe_wipe σ vs)
            · have wp : L2.wipe σ2 vs = L2.wipe σ vs := (agr_wipe ag hts).trans (wipe_wipe σ vs)
              have stand : ∀ {F4 : Hp} {Γ4 : Gm} {H4 : Hp}, Sim K (reE n F2 H2 Γ' (L2.wipe σ vs)) F4 Γ4 σ2 H4 → H4 D = some (.lst xs) ∧ F4 D = none ∧ (∀ (j : Nat) (s : Sl), (unG Γ4 vs)[j]? = some s → s.mine = true → (L2.wipe σ vs)[j]? ≠ some (some (V.ref D))) := fun {F4 Γ4 H4} S4 => by
                refine ⟨S4.frame D _ D2 notW, ?_, fun j s hj mm e => ?_⟩
                · cases z : F4 D with
                  | none => rfl
                  | some o =>
                    rcases S4.frz D o z with ⟨u, k⟩ | k | k
                    · have k : F2 D = some u := k; rw [FD2] at k; cases k
                    · have k : H2 D = none := k; rw [D2] at k; cases k
                    · exact (notW k).elim
                · obtain ⟨k1, k2⟩ := unG_get hj (mine_un mm)
                  have e2 : σ2[j]? = some (some (V.ref D)) := by rw [← wp] at e; exact (wipe_some e).1
                  have old := S4.sl j s _ k1 e2
                  have no : ¬ ((reE n F2 H2 Γ' (L2.wipe σ vs)).H0 D = none ∨ (reE n F2 H2 Γ' (L2.wipe σ vs)).W D) := fun h => by
                    rcases h with h | h
                    · have h : H2 D = none := h; rw [D2] at h; cases h
                    · exact notW h
                  cases s with
                  | un => cases mm
                  | val d => cases mm
                  | own d => obtain ⟨a, q1, _, q3, _⟩ := old; cases q1; exact no q3
                  | io d =>
                    obtain ⟨q1, _, q3, _⟩ := old
                    have q1 := V.ref.inj (Option.some.inj q1)
                    rw [← q1] at q3
                    exact no q3
              have fin : ∀ {F4 : Hp} {Γ4 : Gm} {H4 : Hp}, Sim K (reE n F2 H2 Γ' (L2.wipe σ vs)) F4 Γ4 σ2 H4 → Sim K n F4 (unG Γ4 vs) (L2.wipe σ vs) H4 := fun {F4 Γ4 H4} S4 => by
                have := (S2.unre S4).wipe vs
                rwa [wp] at this
              refine go S3 ?_
              cases eq : q Γ2 with
              | no => rw [eq] at hl; cases hl
              | ex x Γ3 => rw [eq] at hl; cases hl
              | ok c Γ3 =>
                simp only [eq] at hl
                intro b F4 H4 s4 S4 hb
                subst hb
                cases b with
                | false =>
                  refine iteF ?_
                  simp only at hl
                  obtain ⟨t1, t2, t3⟩ := stand S4
                  exact ⟨F4, _, acc, xs, sF.trans (gr.fz.trans s4), fin S4, t1, rx.mono (gr.fz.trans s4), t2, t3, hl, by omega⟩
                | true =>
                  refine iteT (go S4 ?_)
                  simp only at hl
                  cases em : me Γ3 with
                  | no => rw [em] at hl; cases hl
                  | ex x Γ4 => rw [em] at hl; cases hl
                  | ok a Γ4 =>
                    simp only [em] at hl
                    intro yv F5 H5 s5 S5 ry
                    cases ef : fzA Γ4 a with
                    | none => rw [ef] at hl; cases hl
                    | some p =>
                      obtain ⟨e, Γ5⟩ := p
                      simp only [ef] at hl
                      split at hl
                      · rename_i hz
                        obtain ⟨F6, s6, S6, r6⟩ := S5.frz1 ry ef
                        obtain ⟨t1, t2, t3⟩ := stand S6
                        have lx := rx.length
                        refine ⟨xs, t1, by rw [lx]; exact hz, F6, unG Γ5 vs, acc ++ [e], xs ++ [yv], sF.trans (gr.fz.trans (s4.trans (s5.trans s6))), ?_, upd_same, (rx.mono (gr.fz.trans (s4.trans (s5.trans s6)))).append (.cons r6 .nil), t2, t3, hl, by omega⟩
                        exact (fin S6).free t2 (S1.reN hD) t3
                      · cases hl
        · left
          refine ⟨w3 (by omega), ?_⟩
          rw [List.drop_eq_nil_of_le (by omega)] at hl
          unfold loopC at hl
          cases hl
          refine h1.ok sF (S1.back S' sF hfree) ⟨D, rfl, hFD, S1.reN hD, ⟨xs, hDc, rx⟩, fun j s hj mm e => ?_⟩
          have hlen : Γ1.length = Γe.length := by rw [S1.len, S'.len, wipe_length]
          rcases backG_get hlen hj with ⟨a, b⟩ | ⟨a, b⟩
          · rw [free_not hfree a b] at mm; cases mm
          · exact apD j s b mm (by rw [wipe_out a]; exact e)
  · exact h1.elim)
section
variable {X : Cx} {W : WX} {elt tg iter : Expr} {ifs : List Expr} {scope : Scope} {own : List (Str × Nat)} {pos spos py : Pos} {ts : List Nat} {mi : M (List D)} {g : Mg} {q : M Bool} {me : M Ar} {i : Nat} {y : Str}
theorem fn_lc (hc : X.calm = true) (hN : X.N.Nodup) (hi : PI X tg iter (tI X.K W mi)) (ok : BlkOk X.N X.env.scope scope own)
    (hg : ∀ (s : Shared) (H : Hp) (C : Addr) (cl : List (Str × Addr)) (fp : List Addr), PG (X.blk s H scope (compEnvC scope cl C X.env) fp) tg (tG X.K ts g))
    (ht : ∀ (s : Shared) (H : Hp) (C : Addr) (cl : List (Str × Addr)) (fp : List Addr), PTs (X.blk s H scope (compEnvC scope cl C X.env) fp) ifs (tQ X.K W0 q))
    (he : ∀ (s : Shared) (H : Hp) (C : Addr) (cl : List (Str × Addr)) (fp : List Addr), PE (X.blk s H scope (compEnvC scope cl C X.env) fp) elt (tM X.K W0 me))
    (hts : ∀ i ∈ ts, i ∈ own.map (·.2)) (hs : ∀ x, foldedSetIterable iter X.env x = pure x := by intro _; rfl) :
    PE X (.ListComp elt [⟨tg, iter, ifs, 0⟩] scope pos) (tN X.K W (mLc (own.map (·.2)) mi g q me)) := pe_imp (pe_lc hc hN hi ok hg ht he hs) (im_lc hts)
/-- the name holds the list that came -/
theorem im_setM {K : PySem.W.Frag} {m : M Rv} : ∀ D σ H, tS K W (mSet i m) D σ H → tAsg (tN K W m) (gName i) D σ H := fun E σ H ⟨n, F, Γ, S, h⟩ => ⟨n, F, Γ, S, PostS.seq (REL := RvOk K n σ) h fun r Γ1 x F1 H1 s1 S1 r1 h1 => by
  split at h1
  · exact h1.elim
  · exact PostS.nx h1 (.refl _) (S1.store r1)⟩
theorem fs_setLc (hc : X.calm = true) (hN : X.N.Nodup) (hy : X.N[i]? = some y) (hyl : X.env.scope.names.lookup y = some .local) (hk : X.env.scope.kind = .function) (hl : (py.line == pos.line) = true) (hna : (scope.names.any fun (n, k) => n == y && (k == .local || k == .cell)) = false)
    (hi : PI X tg iter (tI X.K W mi)) (ok : BlkOk X.N X.env.scope scope own)
    (hg : ∀ (s : Shared) (H : Hp) (C : Addr) (cl : List (Str × Addr)) (fp : List Addr), PG (X.blk s H scope (compEnvC scope cl C X.env) fp) tg (tG X.K ts g))
    (ht : ∀ (s : Shared) (H : Hp) (C : Addr) (cl : List (Str × Addr)) (fp : List Addr), PTs (X.blk s H scope (compEnvC scope cl C X.env) fp) ifs (tQ X.K W0 q))
    (he : ∀ (s : Shared) (H : Hp) (C : Addr) (cl : List (Str × Addr)) (fp : List Addr), PE (X.blk s H scope (compEnvC scope cl C X.env) fp) elt (tM X.K W0 me))
    (hts : ∀ i ∈ ts, i ∈ own.map (·.2)) (hs : ∀ x, foldedSetIterable iter X.env x = pure x := by intro _; rfl) :
    PS X (.Assign [.Name y py] (.ListComp elt [⟨tg, iter, ifs, 0⟩] scope pos) spos) (tS X.K W (mSet i (mLc (own.map (·.2)) mi g q me))) :=
  ps_imp (ps_setLc hc hN hy hyl (sw_true hk hyl hl hna) hi ok hg ht he hs) fun E σ H h => im_lc hts σ H _ (im_setM E σ H h)
end
end Fx

/-! Fx: the end: a law's promise at the heap behind the top. -/
namespace Fx
open PySem PySem.Spec PyProof.Rows L2

theorem takes0 {X : Cx} : Takes X W0 := fun u s' ⟨_, _, _, _, _, _, _, _, _, _, _, _, _, _, _, _, w⟩ => w.elim
def argL (ns : List Int) : List D := [.lst (ns.map .int)]
theorem rp_ints {K : PySem.W.Frag} {H : Hp} : ∀ ns : List Int, RpL K H (ns.map V.int) (ns.map D.int)
  | [] => .nil
  | n :: ns => .cons (.int n) (rp_ints ns)
/-- the promise of a law at its script -/
theorem spF_law {K : PySem.W.Frag} {mf : List D → FR} {H : Hp} {a : Addr} {ns : List Int} (hS : SqL K H a (ns.map V.int)) (h : mf (argL ns) = .ok (.v (.bl true)) .non) : spF K 1 none mf [.ref a] H (fun v _ => v = .bl true) fun _ _ _ => False := by
  refine ⟨⟨H, H, fun _ => False, fun _ => 0⟩, H, argL ns, ⟨.refl _, rfl, fun i s ov h1 h2 => ?_, fun i j s t a h1 _ m1 _ _ _ => ?_, fun b o h _ => h, fun b o h => .inl ⟨o, h⟩, .refl _⟩, rfl, rfl, rfl, rfl, fun b w => w.elim, ?_⟩
  · rcases parG_get h1 with ⟨e, _, _⟩ | ⟨_, d, hd, rfl⟩
    · cases e
    · cases i with
      | zero =>
        cases hd
        cases h2
        exact ⟨_, rfl, .lst hS (rp_ints ns)⟩
      | succ i => simp [argL] at hd
  · rcases parG_get h1 with ⟨e, _, _⟩ | ⟨_, d, hd, rfl⟩
    · cases e
    · cases m1
  · rw [h]
    intro v F' H' _ _ r
    cases r
    rfl
/-- the script's list, tracked or the module's own -/
theorem enterG {P : Program} {w : World} {K : PySem.W.Frag} {mg mb : Str → Option Value} {k : Nat} {fa a : Addr} {fd : FuncData} {x : Str} {mf : List D → FR} {s₁ : Shared} {vs : List Value} {ns : List Int}
    (KX : K.In s₁.heap) (hmain : s₁.heap.Ns mainGlobals mg) (hblt : s₁.heap.Ns builtinsNs mb) (hboot : ∀ x : Str, x ≠ "__name__" → mb x = bootBuiltins x) (hlim : s₁.heap.NoLimit) (hgen : s₁.gens = #[])
    (ha : s₁.heap.get? a = some { cls := .type "list", data := .seq vs.toArray }) (hi : IntsAre vs ns) (hl : ns.length ≤ sizeLine) (hr : Room k callerA)
    (Fn : ∀ base : Heap, K.In base → base.Ns mainGlobals mg → FnG P w K mg base k fa fd [x] (spF K 1 none mf)) (hbind : ∀ (s : Shared) (u : Value), BindsTo s fd ⟨[u], []⟩ [(x, u)])
    (h : mf (argL ns) = .ok (.v (.bl true)) .non) :
    codeAny (model P w) callerA (.call (.ref fa) ⟨[.ref a], []⟩) (fun r s' => r = .ok (.ret (.bool true)) ∧ OldK s₁.heap s'.heap ∧ s'.os = s₁.os ∧ AllBare s'.gens) s₁ := by
  have words : Vals (ns.map V.int) vs := L2.vals_ints hi
  have many : vs.length = ns.length := hi.length
  let o₁ : Obj := { cls := .type "list", data := .seq vs.toArray }
  -- what is tracked: the script, unless it is the module's own
  let T : Hp := fun b => if b = a ∧ K.lookup a = none then some (.frz o₁ (.lst (ns.map V.int))) else none
  have tAt : ∀ b u, T b = some u → b = a ∧ K.lookup a = none ∧ u = .frz o₁ (.lst (ns.map V.int)) := fun b u e => by
    by_cases c : b = a ∧ K.lookup a = none
    · have e : some (HO.frz o₁ (.lst (ns.map V.int))) = some u := (if_pos c).symm.trans e
      cases e
      exact ⟨c.1, c.2, rfl⟩
    · have e : (none : Option HO) = some u := (if_neg c).symm.trans e
      cases e
  have seq : SqL K T a (ns.map V.int) := by
    cases c : K.lookup a with
    | some o =>
      have e := KX a o c
      rw [ha] at e
      cases e
      exact .inr ⟨_, vs.toArray, _, c, rfl, rfl, rfl, by rw [List.size_toArray, many]; exact hl, by simpa using words⟩
    | none => exact .inl (.inr ⟨o₁, if_pos ⟨rfl, c⟩⟩)
  have tok : HOk P w T s₁.heap := fun b u e => by
    obtain ⟨rfl, _, rfl⟩ := tAt b u e
    exact ⟨ha, by rw [List.length_map]; exact hl, vs, _, words, ha⟩
  have out : ∀ {b : Addr} {o : Obj}, s₁.heap.get? b = some o → T b = none → (hidT s₁.heap T).get? b = some o := fun e n => hidT_get e n
  have notA : ∀ {b : Addr} {o : Obj} {es : Array DictEntry} {ep : Nat}, s₁.heap.get? b = some o → o.data = .dict es ep → T b = none := fun {b o es ep} e d => by
    cases q : T b with
    | none => rfl
    | some u =>
      obtain ⟨rfl, _, _⟩ := tAt b u q
      rw [ha] at e
      cases e
      cases d
  have nsOf : ∀ {b : Addr} {m : Str → Option Value}, s₁.heap.Ns b m → (hidT s₁.heap T).Ns b m := fun ⟨o, es, ep, e, d, r⟩ => ⟨o, es, ep, out e (notA e d), d, r⟩
  have KT : K.In (hidT s₁.heap T) := fun b o e => out (KX b o e) (by
    cases q : T b with
    | none => rfl
    | some u =>
      obtain ⟨rfl, n, _⟩ := tAt b u q
      rw [n] at e
      cases e)
  have md : Mod K mg (hidT s₁.heap T) := ⟨KT, nsOf hmain, ⟨mb, nsOf hblt, hboot⟩, let ⟨mc, l1, l2⟩ := hlim; ⟨mc, nsOf l1, l2⟩⟩
  have start : Env0 P w K mg (hidT s₁.heap T) callerA [] s₁ T := ⟨rfl, md, fun b o e => of_hidT e, Nat.le_of_eq (hidT_size _ _), trivial, fun b hb => absurd (show b ∈ ([] : List Addr) from hb) (by simp), tok, .of_eq hgen⟩
  refine codeAny_mono ((Fn _ KT (nsOf hmain)).run callerA [] s₁ T ⟨[.ref a], []⟩ [.ref a] [.ref a] _ _ hr rfl start (hbind s₁ (.ref a)) (.cons rfl .nil) (spF_law seq h)) fun r s' q => ?_
  match r, q with
  | .error e, q =>
    obtain ⟨_, _, _, _, _, _, _, _, _, _, _, _, z⟩ := q
    exact z.elim
  | .ok .next, q => exact False.elim q
  | .ok .brk, q => exact False.elim q
  | .ok .cont, q => exact False.elim q
  | .ok (.ret u), q =>
    obtain ⟨v, T', os, bare, un, tok', ru, qv⟩ := q
    have qv : v = .bl true := qv
    subst qv
    obtain rfl : u = Value.bool true := ru
    refine ⟨rfl, OldK.of_keep fun b o e => ?_, os, bare⟩
    cases z : T b with
    | none => exact un.keep b o e z (by intro y; exact absurd (show b ∈ ([] : List Addr) from y) (by simp)) (by simp)
    | some u =>
      obtain ⟨_, _, rfl⟩ := tAt b u z
      have z2 := un.frzs b _ _ z
      obtain ⟨e1, _⟩ := tok b _ z
      obtain ⟨e2, _⟩ := tok' b _ z2
      rw [e] at e1
      cases e1
      exact e2
/-- the goal that the row's head leaves, from the mirror's answer at every script -/
theorem walkG {l : PySem.W.OpenLaw} {n k : Nat} {q : Program} {loose : List Str} {XP : (Str → Option Value) → Heap → Prop} {YP : World → Heap → Prop} {d : DefRec} {K : Params → PySem.W.Frag} {mf : List D → FR} {x : Str}
    (hn : l.most = some n) (hn2 : n ≤ sizeLine) (hdf : d.params.defaults = []) (hr : Room k callerA) (hY : ∀ (w : World) (h : Heap), YP w h → (K w.params).In h)
    (Fn : ∀ (w : World) (mg : Str → Option Value) (fa : Addr) (h : Heap), (K w.params).In h → h.Ns mainGlobals mg → mg d.name = some (.ref fa) →
      ∃ fd : FuncData, (∀ (s : Shared) (u : Value), BindsTo s fd ⟨[u], []⟩ [(x, u)]) ∧ ∀ base : Heap, (K w.params).In base → base.Ns mainGlobals mg → FnG l.prog w (K w.params) mg base k fa fd [x] (spF (K w.params) 1 none mf))
    (h : ∀ ns : List Int, ns.length ≤ n → (∀ z ∈ ns, Builtin.Int.intBits z ≤ 1048576) → mf (argL ns) = .ok (.v (.bl true)) .non) :
    PySem.W.WalkO q loose XP YP l.row.toRowW d [] (fun f vs => PySem.call f vs) := by
  refine Att.attach_callB hn hdf fun w s₀ s₁ mg mb fa o pm cd doc a vs ns G Y ho hd hcd hmg hobj hints hlen hbits hg => ?_
  have KX := hY w _ Y
  obtain ⟨fd, hb, hF⟩ := Fn w mg fa _ KX G.T.g hmg
  exact enterG KX G.T.g G.T.b G.T.builtins G.T.nolimit hg hobj hints (Nat.le_trans hlen hn2) hr hF hb (h ns hlen hbits)
end Fx

/-! Fx: what the built-in names stand for. -/
namespace Fx
open PySem PySem.Spec PyProof.Rows L2
theorem bb_len : bootBuiltins "len" = some (.builtin "len") := by decide +kernel
theorem bb_isinstance : bootBuiltins "isinstance" = some (.builtin "isinstance") := by decide +kernel
theorem bb_all : bootBuiltins "all" = some (.builtin "all") := by decide +kernel
theorem bb_any : bootBuiltins "any" = some (.builtin "any") := by decide +kernel
theorem bb_sum : bootBuiltins "sum" = some (.builtin "sum") := by decide +kernel
theorem bb_max : bootBuiltins "max" = some (.builtin "max") := by decide +kernel
theorem bb_min : bootBuiltins "min" = some (.builtin "min") := by decide +kernel
theorem bb_abs : bootBuiltins "abs" = some (.builtin "abs") := by decide +kernel
theorem bb_int : bootBuiltins "int" = some (.type "int") := by decide +kernel
theorem bb_str : bootBuiltins "str" = some (.type "str") := by decide +kernel
theorem bb_repr : bootBuiltins "repr" = some (.builtin "repr") := by decide +kernel
theorem bb_sorted : bootBuiltins "sorted" = some (.builtin "sorted") := by decide +kernel
theorem bb_list : bootBuiltins "list" = some (.type "list") := by decide +kernel
theorem bb_dict : bootBuiltins "dict" = some (.type "dict") := by decide +kernel
theorem bb_tuple : bootBuiltins "tuple" = some (.type "tuple") := by decide +kernel
theorem bb_set : bootBuiltins "set" = some (.type "set") := by decide +kernel
theorem bb_bool : bootBuiltins "bool" = some (.type "bool") := by decide +kernel
theorem bb_range : bootBuiltins "range" = some (.type "range") := by decide +kernel
theorem bb_zip : bootBuiltins "zip" = some (.type "zip") := by decide +kernel
theorem bb_enumerate : bootBuiltins "enumerate" = some (.type "enumerate") := by decide +kernel
end Fx

/-! Fx: walks over what is a list, a tuple or a text; dict displays. -/
namespace Fx
open PySem PySem.Spec PyProof.Rows L2
theorem hu64_of {A : Around} {k : Nat} (hr : Room k A) : A.units + 64 < cLine := by have := hr.un; omega
theorem hu65_of {A : Around} {k : Nat} (hr : Room k A) : A.units + 65 < cLine := by have := hr.un; omega
/-- the items of a list or tuple that stays, the signs of a text -/
def mIt (m : M Ar) : M (List D) := fun Γ => (m Γ).bind fun a Γ1 => match fzA Γ1 a with
  | some (.lst ds, Γ2) => .ok ds Γ2
  | some (.tup ds, Γ2) => .ok ds Γ2
  | some (.str x, Γ2) => .ok (chrs x) Γ2
  | _ => .no
theorem pi_or {X : Cx} {tg e : Expr} {t t' : TI} (h : PI X tg e t) (h' : PI X tg e t') : PI X tg e (fun σ H R => t σ H R ∨ t' σ H R) := ⟨fun pins s σ H R I q => q.elim (h.run pins s σ H R I) (h'.run pins s σ H R I)⟩
theorem fi_any {X : Cx} {W : WX} {tg e : Expr} {ma : M Ar} (h : PE X e (tM X.K W ma)) : PI X tg e (tI X.K W (mIt ma)) := pi_imp (pi_or (fi_list h) (pi_or (fi_tup h) (fi_str h))) fun σ H R ⟨n, F, Γ, S, q⟩ => by
  unfold mIt at q
  cases e : ma Γ with
  | no => rw [e] at q; exact q.elim
  | ex x Γ1 =>
    refine .inl ⟨n, F, Γ, S, ?_⟩
    unfold mItL
    rw [e] at q ⊢
    exact q
  | ok a Γ1 =>
    rw [e] at q
    have q : Post X.K W n F σ (fun F _ _ J ds => Walk X.K J F ds) R (match fzA Γ1 a with
      | some (.lst ds, Γ2) => .ok ds Γ2
      | some (.tup ds, Γ2) => .ok ds Γ2
      | some (.str x, Γ2) => .ok (chrs x) Γ2
      | _ => .no) := q
    split at q
    · rename_i ds Γ2 ef
      refine .inl ⟨n, F, Γ, S, ?_⟩
      unfold mItL
      rw [e]
      show Post _ _ _ _ _ _ _ (match fzA Γ1 a with | some (.lst ds, Γ2) => Fx.R.ok ds Γ2 | _ => .no)
      rw [ef]
      exact q
    · rename_i ds Γ2 ef
      refine .inr (.inl ⟨n, F, Γ, S, ?_⟩)
      unfold mItT
      rw [e]
      show Post _ _ _ _ _ _ _ (match fzA Γ1 a with | some (.tup ds, Γ2) => Fx.R.ok ds Γ2 | _ => .no)
      rw [ef]
      exact q
    · rename_i x Γ2 ef
      refine .inr (.inr ⟨n, F, Γ, S, ?_⟩)
      unfold mItS
      rw [e]
      show Post _ _ _ _ _ _ _ (match fzA Γ1 a with | some (.str x, Γ2) => Fx.R.ok (chrs x) Γ2 | _ => .no)
      rw [ef]
      exact q
    · exact q.elim

/-! ### what stands beside -/
def ApartG (Γ : Gm) (σ : L2.St) (p : Addr) : Prop := ∀ (j : Nat) (s : Sl), Γ[j]? = some s → s.mine = true → σ[j]? ≠ some (some (V.ref p))
section
variable {K : PySem.W.Frag} {n : Ent} {F F' H H' : Hp} {Γ Γ' : Gm} {σ σ' : L2.St}
/-- an object that no slot holds and that does not stay is as it was behind a run told by its own entry -/
theorem Sim.stand {p : Addr} {o : HO} (hp : H p = some o) (fp : F p = none) (ap : ApartG Γ σ p) (S' : Sim K (reE n F H Γ σ) F' Γ' σ' H') : H' p = some o ∧ F' p = none ∧ ApartG Γ' σ' p := by
  have notW : ¬ (reE n F H Γ σ).W p := fun ⟨j, s, k1, k2, k3⟩ => ap j s k1 k2 k3
  have held : ¬ ((reE n F H Γ σ).H0 p = none ∨ (reE n F H Γ σ).W p) := fun h => by
    rcases h with h | h
    · have h : H p = none := h
      rw [hp] at h; cases h
    · exact notW h
  refine ⟨S'.frame p _ hp notW, ?_, fun j s h1 m h2 => ?_⟩
  · cases z : F' p with
    | none => rfl
    | some u =>
      rcases S'.frz p u z with ⟨u', k⟩ | k | k
      · have k : F p = some u' := k
        rw [fp] at k; cases k
      · exact (held (.inl k)).elim
      · exact (held (.inr k)).elim
  · have old := S'.sl j s _ h1 h2
    cases s with
    | un => cases m
    | val d => cases m
    | own d => obtain ⟨a, q1, _, q3, _⟩ := old; cases q1; exact held q3
    | io d =>
      obtain ⟨q1, _, q3, _⟩ := old
      have q1 := V.ref.inj (Option.some.inj q1)
      rw [← q1] at q3
      exact held q3
theorem Sim.apart (S : Sim K n F Γ σ H) {p : Addr} (h : H p = none) : ApartG Γ σ p := fun j s hj m e => by
  have old := S.sl j s _ hj e
  cases s with
  | un => cases m
  | val d => cases m
  | own d => obtain ⟨a, q1, _, _, q4⟩ := old; cases q1; obtain ⟨u, hu⟩ := q4.there; rw [h] at hu; cases hu
  | io d => obtain ⟨q1, _, _, q4⟩ := old; have q1 := V.ref.inj (Option.some.inj q1); obtain ⟨u, hu⟩ := q4.there; rw [← q1, h] at hu; cases hu
end

/-! ### dicts as lists of pairs -/
def keyD : D → Option Key
  | .int i => some (.inl i)
  | .str x => some (.inr x)
  | _ => none
def isK (k : Key) (d : D) : Bool := decide (keyD d = some k)
def putD (es : List (D × D)) (k : Key) (d : D) : List (D × D) := if es.any (fun e => isK k e.1) then es.map (fun e => if isK k e.1 then (e.1, d) else e) else es ++ [(kD k, d)]
theorem keyD_kD (k : Key) : keyD (kD k) = some k := by cases k <;> rfl
theorem isK_kD (k j : Key) : isK k (kD j) = decide (j = k) := by
  unfold isK
  rw [keyD_kD]
  simp
theorem isK_eq {k : Key} {d : D} (h : isK k d = true) : d = kD k := by
  have h := of_decide_eq_true h
  unfold keyD at h
  split at h
  · cases h; rfl
  · cases h; rfl
  · cases h
section
variable {K : PySem.W.Frag} {F : Hp}
theorem RpK.any {k : Key} : ∀ {kvs : List (Key × V)} {es : List (D × D)}, RpK K F kvs es → (es.any fun e => isK k e.1) = kvs.any fun kv => decide (kv.1 = k)
  | _, _, .nil => rfl
  | _, _, .cons (k := j) r t => by
    rw [List.any_cons, List.any_cons, RpK.any t]
    show (isK k (kD j) || _) = _
    rw [isK_kD]
theorem RpK.mapset {k : Key} {v : V} {d : D} (q : Rp K F v d) : ∀ {kvs : List (Key × V)} {es : List (D × D)}, RpK K F kvs es → RpK K F (kvs.map fun kv => if kv.1 = k then (kv.1, v) else kv) (es.map fun e => if isK k e.1 then (e.1, d) else e)
  | _, _, .nil => .nil
  | _, _, .cons (k := j) (v := v') (d := d') r t => by
    rw [List.map_cons, List.map_cons]
    show RpK K F ((if j = k then (j, v) else (j, v')) :: _) ((if isK k (kD j) = true then (kD j, d) else (kD j, d')) :: _)
    rw [isK_kD]
    by_cases h : j = k
    · rw [if_pos h, if_pos (decide_eq_true h)]
      exact .cons q (RpK.mapset q t)
    · rw [if_neg h, if_neg (by simpa using h)]
      exact .cons r (RpK.mapset q t)
theorem RpK.append : ∀ {a b : List (Key × V)} {es fs : List (D × D)}, RpK K F a es → RpK K F b fs → RpK K F (a ++ b) (es ++ fs)
  | _, _, _, _, .nil, s => s
  | _, _, _, _, .cons r t, s => .cons r (RpK.append t s)
theorem RpK.put {k : Key} {v : V} {d : D} {kvs : List (Key × V)} {es : List (D × D)} (t : RpK K F kvs es) (q : Rp K F v d) : RpK K F (putK kvs k v) (putD es k d) := by
  unfold putK putD
  rw [t.any]
  split
  · exact RpK.mapset q t
  · exact RpK.append t (.cons q .nil)
theorem RpK.length : ∀ {kvs : List (Key × V)} {es : List (D × D)}, RpK K F kvs es → kvs.length = es.length
  | _, _, .nil => rfl
  | _, _, .cons _ t => by simp [RpK.length t]
end

/-! ### {k: v, ..} -/
abbrev MP := M Ar × M Ar
inductive RelPs (K : PySem.W.Frag) (σ : L2.St) (F : Hp) : List (V × V) → List (Ar × Ar) → Prop
  | nil : RelPs K σ F [] []
  | cons {v u : V} {a b : Ar} {r : List (V × V)} {t : List (Ar × Ar)} : RelA K σ F v a → RelA K σ F u b → RelPs K σ F r t → RelPs K σ F ((v, u) :: r) ((a, b) :: t)
def mPairs : List MP → M (List (Ar × Ar))
  | [] => fun Γ => .ok [] Γ
  | (mk, mv) :: r => fun Γ => (mk Γ).bind fun a Γ1 => (mv Γ1).bind fun b Γ2 => (mPairs r Γ2).bind fun t Γ3 => .ok ((a, b) :: t) Γ3
def keyA : Ar → Option Key
  | .v d => keyD d
  | .sl _ => none
/-- keys, trees that stay -/
def fzP (Γ : Gm) : List (Ar × Ar) → Option (List (Key × D) × Gm)
  | [] => some ([], Γ)
  | (a, b) :: r => (keyA a).bind fun k => (fzA Γ b).bind fun p => (fzP p.2 r).map fun q => ((k, p.1) :: q.1, q.2)
def mergeD (es : List (D × D)) (more : List (Key × D)) : List (D × D) := more.foldl (fun acc kv => putD acc kv.1 kv.2) es
def mDisp (ps : List MP) : M Rv := fun Γ => (mPairs ps Γ).bind fun as Γ1 => match fzP Γ1 as with
  | some (kds, Γ2) => .ok (.nw (.dic (mergeD [] kds))) Γ2
  | none => .no
inductive FPs (X : Cx) (W : WX) (pos : Pos) : List (Option Expr) → List Expr → List MP → Prop
  | nil : FPs X W pos [] [] []
  | cons {k v : Expr} {ks : List (Option Expr)} {vs : List Expr} {mk mv : M Ar} {r : List MP} : PE X k (tM X.K W mk) → PE X v (tM X.K W mv) → FPs X W pos ks vs r → FPs X W pos (some k :: ks) (v :: vs) ((mk, mv) :: r)
section
variable {X : Cx} {W : WX} {pos : Pos} {K : PySem.W.Frag} {n : Ent} {F H : Hp} {Γ : Gm} {σ : L2.St}
theorem fps_pps {keys : List (Option Expr)} {vs : List Expr} {ms : List MP} (h : FPs X W pos keys vs ms) : PPs X pos keys vs (ms.map fun m => (tM X.K W m.1, tM X.K W m.2)) ∧ keys.all (·.isSome) = true ∧ keys.length = vs.length ∧ keys.length = ms.length := by
  induction h with
  | nil => exact ⟨pps_nil, rfl, rfl, rfl⟩
  | cons hk hv _ ih => exact ⟨pps_cons hk hv ih.1, by simpa using ih.2.1, by simpa using ih.2.2.1, by simpa using ih.2.2.2⟩
theorem tpairs_of {Q : List (V × V) → Hp → Prop} : ∀ (ms : List MP) {F H : Hp} {Γ : Gm} {Q : List (V × V) → Hp → Prop}, Sim K n F Γ σ H → Post K W n F σ (fun F _ _ => RelPs K σ F) Q (mPairs ms Γ) → tPairs (ms.map fun m => (tM K W m.1, tM K W m.2)) σ H Q
  | [], F, H, Γ, Q, S, h => h.ok (.refl _) S .nil
  | (mk, mv) :: r, F, H, Γ, Q, S, h => by
    unfold mPairs at h
    exact go S (h.seq fun a Γ1 x F1 H1 _ s1 S1 r1 h1 => go S1 (h1.seq fun b Γ2 y F2 H2 _ s2 S2 r2 h2 => tpairs_of (Q := Q) r S2 (h2.seq fun t Γ3 z F3 H3 _ s3 S3 r3 h3 => h3.ok (.refl _) S3 (.cons ((r1.mono s2).mono s3) (r2.mono s3) r3))))
theorem keyA_ok {v : V} {a : Ar} {k : Key} (r : RelA K σ F v a) (h : keyA a = some k) : v = kV k := by
  cases a with
  | sl j => cases h
  | v d =>
    have r : Rp K F v d := r
    have h : keyD d = some k := h
    unfold keyD at h
    split at h
    · cases h; cases r; rfl
    · cases h; cases r; rfl
    · cases h
theorem RelPs.mono {F' : Hp} (e : Same F F') : ∀ {r : List (V × V)} {t : List (Ar × Ar)}, RelPs K σ F r t → RelPs K σ F' r t
  | _, _, .nil => .nil
  | _, _, .cons a b c => .cons (a.mono e) (b.mono e) (RelPs.mono e c)
theorem RelPs.length : ∀ {r : List (V × V)} {t : List (Ar × Ar)}, RelPs K σ F r t → r.length = t.length
  | _, _, .nil => rfl
  | _, _, .cons _ _ c => by rw [List.length_cons, List.length_cons, RelPs.length c]
inductive RpKs (K : PySem.W.Frag) (F : Hp) : List (Key × V) → List (Key × D) → Prop
  | nil : RpKs K F [] []
  | cons {k : Key} {v : V} {d : D} {r : List (Key × V)} {t : List (Key × D)} : Rp K F v d → RpKs K F r t → RpKs K F ((k, v) :: r) ((k, d) :: t)
theorem fzP_ok : ∀ {r : List (V × V)} {as : List (Ar × Ar)} {F : Hp} {Γ Γ' : Gm} {kds : List (Key × D)}, Sim K n F Γ σ H → RelPs K σ F r as → fzP Γ as = some (kds, Γ') → ∃ F' kvs, Same F F' ∧ Sim K n F' Γ' σ H ∧ r = kvs.map (fun kv => (kV kv.1, kv.2)) ∧ RpKs K F' kvs kds ∧ kvs.length = r.length
  | _, _, F, _, _, _, S, .nil, h => by cases h; exact ⟨F, [], .refl _, S, rfl, .nil, rfl⟩
  | _, _, F, Γ, Γ', kds, S, .cons (a := a) (b := b) r1 r2 t, h => by
    unfold fzP at h
    cases e : keyA a with
    | none => rw [e] at h; cases h
    | some k =>
      rw [e] at h
      cases e1 : fzA Γ b with
      | none => rw [e1] at h; cases h
      | some p =>
        obtain ⟨d, Γ1⟩ := p
        rw [e1] at h
        simp only [Option.bind_some] at h
        cases e2 : fzP Γ1 _ with
        | none => rw [e2] at h; cases h
        | some q =>
          rw [e2] at h
          cases h
          obtain ⟨F1, s1, S1, q1⟩ := S.frz1 r2 e1
          obtain ⟨F2, kvs, s2, S2, q2, q3, q4⟩ := fzP_ok S1 (t.mono s1) e2
          exact ⟨F2, (k, _) :: kvs, s1.trans s2, S2, by rw [List.map_cons, ← q2, keyA_ok r1 e], .cons (q1.mono s2) q3, by simp [q4]⟩
theorem merge_ok : ∀ {kvs : List (Key × V)} {kds : List (Key × D)} {a : List (Key × V)} {es : List (D × D)}, RpKs K F kvs kds → RpK K F a es → RpK K F (mergeK a kvs) (mergeD es kds)
  | _, _, _, _, .nil, h => h
  | _, _, _, _, .cons (k := k) r t, h => by
    have q := merge_ok t (h.put (k := k) r)
    exact q
theorem fn_disp {keys : List (Option Expr)} {vs : List Expr} {ms : List MP} (h : FPs X W pos keys vs ms) (h0 : keys ≠ [] := by exact List.cons_ne_nil _ _) (h15 : keys.length ≤ 15 := by decide) : PE X (.Dict keys vs pos) (tN X.K W (mDisp ms)) := by
  obtain ⟨a1, a2, a3, a4⟩ := fps_pps h
  refine pe_imp (pe_disp a1 a2 a3 h0 h15) fun σ H Q ⟨n, F, Γ, S, h⟩ p hp => ?_
  have S0 := S.beside (o := .dK []) hp
  have hF : F p = none := same_none S.sub hp
  have ap : ApartG Γ σ p := S.apart hp
  have go2 : Post X.K W (reE n F (upd H p (.dK [])) Γ σ) F σ (fun F _ _ => RelPs X.K σ F) (fun ps H2 => H2 p = some (.dK []) ∧ ∃ kvs : List (Key × V), ps = kvs.map (fun kv => (kV kv.1, kv.2)) ∧ kvs.length ≤ 15 ∧ Q (.ref p) (upd H2 p (.dK (mergeK [] kvs)))) (mPairs ms Γ) := by
    unfold mDisp at h
    have leng : ∀ (ms : List MP) (Γ Γ' : Gm) (as : List (Ar × Ar)), mPairs ms Γ = .ok as Γ' → as.length = ms.length := fun ms => by
      induction ms with
      | nil => intro Γ Γ' as e; cases e; rfl
      | cons m r ih =>
        obtain ⟨mk, mv⟩ := m
        intro Γ Γ' as e
        unfold mPairs at e
        cases e1 : mk Γ with
        | ok a Γ1 =>
          rw [e1] at e
          simp only [R.bind] at e
          cases e2 : mv Γ1 with
          | ok b Γ2 =>
            rw [e2] at e
            simp only at e
            cases e3 : mPairs r Γ2 with
            | ok t Γ3 => rw [e3] at e; cases e; simp [ih _ _ _ e3]
            | ex x Γ3 => rw [e3] at e; cases e
            | no => rw [e3] at e; cases e
          | ex x Γ2 => rw [e2] at e; cases e
          | no => rw [e2] at e; cases e
        | ex x Γ1 => rw [e1] at e; cases e
        | no => rw [e1] at e; cases e
    cases em : mPairs ms Γ with
    | no => rw [em] at h; exact h.elim
    | ex x Γ1 =>
      rw [em] at h
      exact fun cls dO F' H' s S' xx => h cls dO F' H' s (S0.unre S') xx
    | ok as Γ1 =>
      rw [em] at h
      have h : Post X.K W n F σ (RvOk X.K n σ) Q (match fzP Γ1 as with
        | some (kds, Γ2) => .ok (.nw (.dic (mergeD [] kds))) Γ2
        | none => .no) := h
      intro ps F2 H2 s2 S2 r2
      cases ef : fzP Γ1 as with
      | none => rw [ef] at h; exact h.elim
      | some z =>
        obtain ⟨kds, Γ2⟩ := z
        rw [ef] at h
        obtain ⟨F3, kvs, s3, S3, q1, q2, q3⟩ := fzP_ok S2 r2 ef
        obtain ⟨t1, t2, t3⟩ := Sim.stand upd_same hF ap S3
        have lps : ps.length = as.length := r2.length
        refine ⟨t1, kvs, q1, by rw [q3, lps, leng ms _ _ _ em, ← a4]; exact h15, ?_⟩
        have S4 := S0.unre S3
        refine h.ok (s2.trans s3) (S4.free t2 (S.reN hp) t3) ⟨p, rfl, t2, S.reN hp, .inl ⟨_, upd_same, merge_ok q2 .nil⟩, t3⟩
  exact tpairs_of (Q := Q |> fun _ _ _ => True) ms S0.re go2
end
end Fx

/-! Fx: how mirrors are run by simp. -/
namespace Fx
open PySem PySem.Spec PyProof.Rows L2
section
variable {α β : Type} {Γ Γ1 : Gm} {x : Xn} {d e : D} {j k i : Nat}
@[simp] theorem bind_ok {a : α} {f : α → Gm → R β} : (R.ok a Γ).bind f = f a Γ := rfl
@[simp] theorem bind_ex {f : α → Gm → R β} : (R.ex x Γ).bind f = R.ex x Γ := rfl
@[simp] theorem bind_no {f : α → Gm → R β} : (R.no).bind f = R.no := rfl
@[simp] theorem then_ok {a : α} {f : α → Gm → Rs} : (R.ok a Γ).then f = f a Γ := rfl
@[simp] theorem then_ex {f : α → Gm → Rs} : (R.ex x Γ).then f = Rs.ex x Γ := rfl
@[simp] theorem sbind_nx {f : Ms} : (Rs.nx Γ).bind f = f Γ := rfl
@[simp] theorem sbind_rt {r : Rv} {f : Ms} : (Rs.rt r Γ).bind f = .rt r Γ := rfl
@[simp] theorem sbind_bk {f : Ms} : (Rs.bk Γ).bind f = .bk Γ := rfl
@[simp] theorem sbind_ct {f : Ms} : (Rs.ct Γ).bind f = .ct Γ := rfl
@[simp] theorem sbind_ex {f : Ms} : (Rs.ex x Γ).bind f = .ex x Γ := rfl
@[simp] theorem opt_some {a : α} : R.opt Γ (some a) = .ok a Γ := rfl
@[simp] theorem atG_v : atG Γ (.v d) = some d := rfl
@[simp] theorem atG_sl : atG Γ (.sl j) = (Γ[j]?).bind Sl.tree := rfl
@[simp] theorem tree_val : (Sl.val d).tree = some d := rfl
@[simp] theorem tree_own : (Sl.own d).tree = some d := rfl
@[simp] theorem tree_io : (Sl.io d).tree = some d := rfl
@[simp] theorem atL_nil : atL Γ [] = some [] := rfl
@[simp] theorem atL_cons {a : Ar} {as : List Ar} : atL Γ (a :: as) = (atG Γ a).bind fun d => (atL Γ as).map (d :: ·) := rfl
def fzO (Γ : Gm) (j : Nat) : Option Sl → Option (D × Gm)
  | some (.val d) => some (d, Γ)
  | some (.own d) => some (d, Γ.set j (.val d))
  | _ => none
@[simp] theorem fzO_val : fzO Γ j (some (.val d)) = some (d, Γ) := rfl
@[simp] theorem fzO_own : fzO Γ j (some (.own d)) = some (d, Γ.set j (.val d)) := rfl
@[simp] theorem fzA_v : fzA Γ (.v d) = some (d, Γ) := rfl
@[simp] theorem fzA_sl : fzA Γ (.sl j) = fzO Γ j Γ[j]? := by
  show fzS Γ j = _
  unfold fzS fzO
  rfl
@[simp] theorem fzL_nil : fzL Γ [] = some ([], Γ) := rfl
@[simp] theorem fzL_cons {a : Ar} {as : List Ar} : fzL Γ (a :: as) = (fzA Γ a).bind fun p => (fzL p.2 as).map fun q => (p.1 :: q.1, q.2) := rfl
def vO (j : Nat) (Γ : Gm) : Option Sl → R Ar
  | some (.val d) => .ok (.v d) Γ
  | some (.own _) => .ok (.sl j) Γ
  | some (.io _) => .ok (.sl j) Γ
  | _ => .no
@[simp] theorem vO_val : vO j Γ (some (.val d)) = .ok (.v d) Γ := rfl
@[simp] theorem vO_own : vO j Γ (some (.own d)) = .ok (.sl j) Γ := rfl
@[simp] theorem vO_io : vO j Γ (some (.io d)) = .ok (.sl j) Γ := rfl
@[simp] theorem mV_ : mV j Γ = vO j Γ Γ[j]? := rfl
@[simp] theorem mC_ : mC d Γ = .ok (.v d) Γ := rfl
@[simp] theorem mOp2_ {f : D → D → Option D} {ma mb : M Ar} : mOp2 f ma mb Γ = (ma Γ).bind fun a Γ1 => (mb Γ1).bind fun b Γ2 => R.opt Γ2 ((atG Γ2 a).bind fun d => (atG Γ2 b).bind fun e => (f d e).map .v) := rfl
@[simp] theorem mOp1_ {f : D → Option D} {ma : M Ar} : mOp1 f ma Γ = (ma Γ).bind fun a Γ1 => R.opt Γ1 ((atG Γ1 a).bind fun d => (f d).map .v) := rfl
@[simp] theorem mCmp_ {f : D → D → Option Bool} {ma mb : M Ar} : mCmp f ma mb Γ = (ma Γ).bind fun a Γ1 => (mb Γ1).bind fun b Γ2 => R.opt Γ2 ((atG Γ2 a).bind fun d => (atG Γ2 b).bind fun e => f d e) := rfl
@[simp] theorem mB_ {m : M Bool} : mB m Γ = (m Γ).bind fun b Γ1 => .ok (.v (.bl b)) Γ1 := rfl
def tstO (Γ : Gm) : Option D → R Bool
  | some (.bl b) => .ok b Γ
  | _ => .no
@[simp] theorem tstO_bl {b : Bool} : tstO Γ (some (.bl b)) = .ok b Γ := rfl
@[simp] theorem mTst_ {m : M Ar} : mTst m Γ = (m Γ).bind fun a Γ1 => tstO Γ1 (atG Γ1 a) := rfl
@[simp] theorem mAnd_ {ma mb : M Bool} : mAnd ma mb Γ = (ma Γ).bind fun a Γ1 => if a then mb Γ1 else .ok false Γ1 := rfl
@[simp] theorem mOr_ {ma mb : M Bool} : mOr ma mb Γ = (ma Γ).bind fun a Γ1 => if a then .ok true Γ1 else mb Γ1 := rfl
@[simp] theorem mNot_ {ma : M Bool} : mNot ma Γ = (ma Γ).bind fun a Γ1 => .ok (!a) Γ1 := rfl
@[simp] theorem mIf_ {mt : M Bool} {ma mb : M α} : mIf mt ma mb Γ = (mt Γ).bind fun a Γ1 => if a then ma Γ1 else mb Γ1 := rfl
@[simp] theorem mChain_ {f g : D → D → Option Bool} {ma mb mc : M Ar} : mChain f g ma mb mc Γ = (ma Γ).bind fun a Γ1 => (mb Γ1).bind fun b Γ2 => (R.opt Γ2 ((atG Γ2 a).bind fun d => (atG Γ2 b).bind fun e => f d e)).bind fun k Γ3 =>
  if k then (mc Γ3).bind fun c Γ4 => R.opt Γ4 ((atG Γ4 b).bind fun d => (atG Γ4 c).bind fun e => g d e) else .ok false Γ3 := rfl
@[simp] theorem mAndV_ {ma mb : M Ar} : mAndV ma mb Γ = (mTst ma Γ).bind fun c Γ1 => if c then mb Γ1 else .ok (.v (.bl false)) Γ1 := rfl
@[simp] theorem mOrV_ {ma mb : M Ar} : mOrV ma mb Γ = (mTst ma Γ).bind fun c Γ1 => if c then .ok (.v (.bl true)) Γ1 else mb Γ1 := rfl
@[simp] theorem mNotV_ {ma : M Ar} : mNotV ma Γ = mB (mNot (mTst ma)) Γ := rfl
@[simp] theorem mNil_ : mNil Γ = .ok [] Γ := rfl
@[simp] theorem mCons_ {ma : M Ar} {mr : M (List Ar)} : mCons ma mr Γ = (ma Γ).bind fun a Γ1 => (mr Γ1).bind fun r Γ2 => .ok (a :: r) Γ2 := rfl
@[simp] theorem mBlt_ {g : List D → Option D} {mr : M (List Ar)} : mBlt g mr Γ = (mr Γ).bind fun as Γ1 => R.opt Γ1 ((atL Γ1 as).bind fun ds => (g ds).map .v) := rfl
def tupO : Option (List D × Gm) → R Ar
  | some (ds, Γ2) => if ds.length ≤ sizeLine then .ok (.v (.tup ds)) Γ2 else .no
  | none => .no
def lstO : Option (List D × Gm) → R Rv
  | some (ds, Γ2) => if ds.length ≤ sizeLine then .ok (.nw (.lst ds)) Γ2 else .no
  | none => .no
@[simp] theorem tupO_ {ds : List D} : tupO (some (ds, Γ)) = if ds.length ≤ sizeLine then .ok (.v (.tup ds)) Γ else .no := rfl
@[simp] theorem lstO_ {ds : List D} : lstO (some (ds, Γ)) = if ds.length ≤ sizeLine then .ok (.nw (.lst ds)) Γ else .no := rfl
@[simp] theorem mTup_ {mr : M (List Ar)} : mTup mr Γ = (mr Γ).bind fun as Γ1 => tupO (fzL Γ1 as) := rfl
@[simp] theorem mLst_ {mr : M (List Ar)} : mLst mr Γ = (mr Γ).bind fun as Γ1 => lstO (fzL Γ1 as) := rfl
def rvD : Rv → D
  | .v d => d
  | .nw d => d
@[simp] theorem rvD_v : rvD (.v d) = d := rfl
@[simp] theorem rvD_nw : rvD (.nw d) = d := rfl
@[simp] theorem mFz_ {m : M Rv} : mFz m Γ = (m Γ).bind fun r Γ1 => .ok (.v (rvD r)) Γ1 := by
  unfold mFz
  cases m Γ with
  | ok r Γ1 => cases r <;> rfl
  | ex x Γ1 => rfl
  | no => rfl
def rvO : Option (D × Gm) → R Rv
  | some (d, Γ2) => .ok (.v d) Γ2
  | none => .no
@[simp] theorem rvO_ : rvO (some (d, Γ)) = .ok (.v d) Γ := rfl
@[simp] theorem mRv_ {m : M Ar} : mRv m Γ = (m Γ).bind fun a Γ1 => rvO (fzA Γ1 a) := rfl
def mvO (Γ : Gm) (j : Nat) : Option Sl → R Rv
  | some (.own d) => .ok (.nw d) (Γ.set j .un)
  | some (.val d) => .ok (.v d) Γ
  | _ => .no
@[simp] theorem mvO_own : mvO Γ j (some (.own d)) = .ok (.nw d) (Γ.set j .un) := rfl
@[simp] theorem mvO_val : mvO Γ j (some (.val d)) = .ok (.v d) Γ := rfl
def mvA (Γ : Gm) : Ar → R Rv
  | .v d => .ok (.v d) Γ
  | .sl j => mvO Γ j Γ[j]?
@[simp] theorem mvA_v : mvA Γ (.v d) = .ok (.v d) Γ := rfl
@[simp] theorem mvA_sl : mvA Γ (.sl j) = mvO Γ j Γ[j]? := rfl
@[simp] theorem mMv_ {m : M Ar} : mMv m Γ = (m Γ).bind fun a Γ1 => mvA Γ1 a := by
  unfold mMv
  congr 1
@[simp] theorem mO0_ : mO0 Γ = .ok none Γ := rfl
def intO (Γ : Gm) : Option D → R (Option Int)
  | some (.int i) => .ok (some i) Γ
  | _ => .no
@[simp] theorem intO_ {i : Int} : intO Γ (some (.int i)) = .ok (some i) Γ := rfl
@[simp] theorem mO1_ {m : M Ar} : mO1 m Γ = (m Γ).bind fun a Γ1 => intO Γ1 (atG Γ1 a) := rfl
@[simp] theorem mSl_ {ma : M Ar} {ml mh : mO} : mSl ma ml mh Γ = (ma Γ).bind fun a Γ1 => (ml Γ1).bind fun lo Γ2 => (mh Γ2).bind fun hi Γ3 => R.opt Γ3 ((atG Γ3 a).bind fun d => (cutD d lo hi).map .v) := rfl
@[simp] theorem mSq_ {a b : Ms} : mSq a b Γ = (a Γ).bind b := rfl
@[simp] theorem mNx_ : mNx Γ = .nx Γ := rfl
@[simp] theorem mPass_ : mPass Γ = .nx Γ := rfl
@[simp] theorem mBk_ : mBk Γ = .bk Γ := rfl
@[simp] theorem mCt_ : mCt Γ = .ct Γ := rfl
@[simp] theorem mIfS_ {q : M Bool} {a b : Ms} : mIfS q a b Γ = (q Γ).then fun c Γ1 => if c then a Γ1 else b Γ1 := rfl
@[simp] theorem mRet_ {m : M Rv} : mRet m Γ = (m Γ).then fun r Γ1 => .rt r Γ1 := rfl
@[simp] theorem mRetN_ : mRetN Γ = .rt (.v .non) Γ := rfl
@[simp] theorem mDrop_ {m : M Ar} : mDrop m Γ = (m Γ).then fun _ Γ1 => .nx Γ1 := rfl
def ioB : Option Sl → Bool
  | some (.io _) => true
  | _ => false
@[simp] theorem ioB_io : ioB (some (.io d)) = true := rfl
@[simp] theorem ioB_val : ioB (some (.val d)) = false := rfl
@[simp] theorem ioB_own : ioB (some (.own d)) = false := rfl
@[simp] theorem ioB_un : ioB (some .un) = false := rfl
@[simp] theorem isIo_ : isIo Γ i = ioB Γ[i]? := rfl
@[simp] theorem sl_v : (Rv.v d).sl = .val d := rfl
@[simp] theorem sl_nw : (Rv.nw d).sl = .own d := rfl
@[simp] theorem mSet_ {m : M Rv} : mSet i m Γ = (m Γ).then fun r Γ1 => if isIo Γ1 i then .no else .nx (Γ1.set i r.sl) := rfl
def nxO : Option Gm → Rs
  | some Γ => .nx Γ
  | none => .no
@[simp] theorem nxO_ : nxO (some Γ) = .nx Γ := rfl
def asgO (g : Mg) : Option (D × Gm) → Rs
  | some (d, Γ2) => nxO (g d Γ2)
  | none => .no
@[simp] theorem asgO_ {g : Mg} : asgO g (some (d, Γ)) = nxO (g d Γ) := rfl
@[simp] theorem mAsg_ {g : Mg} {m : M Ar} : mAsg g m Γ = (m Γ).then fun a Γ1 => asgO g (fzA Γ1 a) := by
  unfold mAsg
  congr 1
@[simp] theorem gN_ : gN i d Γ = if isIo Γ i then none else some (Γ.set i (.val d)) := rfl
@[simp] theorem gN0_ {ds : List D} : gN0 ds Γ = if ds.isEmpty then some Γ else none := rfl
@[simp] theorem gNC_nil {g : Mg} {r : MgL} : gNC g r [] Γ = none := rfl
@[simp] theorem gNC_cons {g : Mg} {r : MgL} {ds : List D} : gNC g r (d :: ds) Γ = (g d Γ).bind fun Γ1 => r ds Γ1 := rfl
@[simp] theorem gT_tup {g : MgL} {ds : List D} : gT k g (.tup ds) Γ = if ds.length = k then g ds Γ else none := rfl
@[simp] theorem gT_lst {g : MgL} {ds : List D} : gT k g (.lst ds) Γ = if ds.length = k then g ds Γ else none := rfl
def itO : Option (D × Gm) → R (List D)
  | some (.lst ds, Γ2) => .ok ds Γ2
  | some (.tup ds, Γ2) => .ok ds Γ2
  | some (.str x, Γ2) => .ok (chrs x) Γ2
  | _ => .no
@[simp] theorem itO_lst {ds : List D} : itO (some (.lst ds, Γ)) = .ok ds Γ := rfl
@[simp] theorem itO_tup {ds : List D} : itO (some (.tup ds, Γ)) = .ok ds Γ := rfl
@[simp] theorem itO_str {x : Str} : itO (some (.str x, Γ)) = .ok (chrs x) Γ := rfl
@[simp] theorem mIt_ {m : M Ar} : mIt m Γ = (m Γ).bind fun a Γ1 => itO (fzA Γ1 a) := rfl
def rg1 (Γ : Gm) : Option (List D) → R (List D)
  | some [.int b] => if small62 b then .ok (rngL 0 b) Γ else .no
  | _ => .no
def rg2 (Γ : Gm) : Option (List D) → R (List D)
  | some [.int a, .int b] => if small62 a && small62 b then .ok (rngL a b) Γ else .no
  | _ => .no
@[simp] theorem rg1_ {b : Int} : rg1 Γ (some [.int b]) = if small62 b then .ok (rngL 0 b) Γ else .no := rfl
@[simp] theorem rg2_ {a b : Int} : rg2 Γ (some [.int a, .int b]) = if small62 a && small62 b then .ok (rngL a b) Γ else .no := rfl
@[simp] theorem mRg1_ {mr : M (List Ar)} : mRg1 mr Γ = (mr Γ).bind fun as Γ1 => rg1 Γ1 (atL Γ1 as) := rfl
@[simp] theorem mRg2_ {mr : M (List Ar)} : mRg2 mr Γ = (mr Γ).bind fun as Γ1 => rg2 Γ1 (atL Γ1 as) := rfl
@[simp] theorem mFor_ {mi : M (List D)} {g : Mg} {b : Ms} : mFor mi g b Γ = (mi Γ).then fun ds Γ1 => loopS b g ds Γ1 := rfl
@[simp] theorem loopS_nil {g : Mg} {b : Ms} : loopS b g [] Γ = .nx Γ := rfl
@[simp] theorem mYes_ : mYes Γ = .ok true Γ := rfl
/-! ### calls -/
@[simp] theorem preA_nil {io : Option Nat} : preA io i [] Γ = some Γ := rfl
@[simp] theorem preA_cons {io : Option Nat} {a : Ar} {as : List Ar} : preA io i (a :: as) Γ = if io = some i then preA io (i + 1) as Γ else (fzA Γ a).bind fun p => preA io (i + 1) as p.2 := rfl
def mineO : Option Sl → Option D
  | some (.own d) => some d
  | some (.io d) => some d
  | _ => none
def valO : Option Sl → Option D
  | some (.val d) => some d
  | _ => none
@[simp] theorem mineO_own : mineO (some (.own d)) = some d := rfl
@[simp] theorem mineO_io : mineO (some (.io d)) = some d := rfl
@[simp] theorem valO_val : valO (some (.val d)) = some d := rfl
@[simp] theorem mineG_sl : mineG Γ (.sl j) = mineO Γ[j]? := rfl
@[simp] theorem valG_v : valG Γ (.v d) = some d := rfl
@[simp] theorem valG_sl : valG Γ (.sl j) = valO Γ[j]? := rfl
@[simp] theorem argD_nil {io : Option Nat} : argD io Γ i [] = some [] := rfl
@[simp] theorem argD_cons {io : Option Nat} {a : Ar} {as : List Ar} : argD io Γ i (a :: as) = (if io = some i then mineG Γ a else valG Γ a).bind fun d => (argD io Γ (i + 1) as).map (d :: ·) := rfl
@[simp] theorem run_ok {io : Option Nat} {as : List Ar} {r : Rv} : FR.run io as Γ (.ok r e) = .ok r (putIo io as e Γ) := rfl
@[simp] theorem run_ex {io : Option Nat} {as : List Ar} : FR.run io as Γ (.ex x e) = .ex x (putIo io as e Γ) := rfl
@[simp] theorem setS_own : setS (.own d) e = .own e := rfl
@[simp] theorem setS_io : setS (.io d) e = .io e := rfl
def putO (j : Nat) (e : D) (Γ : Gm) : Option Sl → Gm
  | some s => Γ.set j (setS s e)
  | none => Γ
@[simp] theorem putO_ {s : Sl} : putO j e Γ (some s) = Γ.set j (setS s e) := rfl
def putA (e : D) (Γ : Gm) : Option Ar → Gm
  | some (.sl j) => putO j e Γ Γ[j]?
  | _ => Γ
@[simp] theorem putA_sl : putA e Γ (some (.sl j)) = putO j e Γ Γ[j]? := rfl
@[simp] theorem putIo_none {as : List Ar} : putIo none as e Γ = Γ := rfl
@[simp] theorem putIo_some {as : List Ar} : putIo (some i) as e Γ = putA e Γ as[i]? := by
  show (match as[i]? with | some (.sl j) => (match Γ[j]? with | some s => Γ.set j (setS s e) | none => Γ) | _ => Γ) = _
  rfl
@[simp] theorem putG_ : putG Γ j d = putO j d Γ Γ[j]? := rfl
def callO (np : Nat) (io : Option Nat) (mf : List D → FR) (as : List Ar) (Γ : Gm) : Option (List D) → R Rv
  | none => .no
  | some ds => if ds.length = np then (mf ds).run io as Γ else .no
@[simp] theorem callO_ {np : Nat} {io : Option Nat} {mf : List D → FR} {as : List Ar} {ds : List D} : callO np io mf as Γ (some ds) = if ds.length = np then (mf ds).run io as Γ else .no := rfl
def callP (np : Nat) (io : Option Nat) (mf : List D → FR) (dv : List D) (as : List Ar) : Option Gm → R Rv
  | none => .no
  | some Γ2 => callO np io mf as Γ2 (argD io Γ2 0 (as ++ dv.map .v))
@[simp] theorem callP_ {np : Nat} {io : Option Nat} {mf : List D → FR} {dv : List D} {as : List Ar} : callP np io mf dv as (some Γ) = callO np io mf as Γ (argD io Γ 0 (as ++ dv.map .v)) := rfl
@[simp] theorem mCall_ {np : Nat} {io : Option Nat} {mf : List D → FR} {dv : List D} {mr : M (List Ar)} : mCall np io mf dv mr Γ = (mr Γ).bind fun as Γ1 => callP np io mf dv as (preA io 0 as Γ1) := by
  unfold mCall
  congr 1
def outO (r : Rv) : Option D → FR
  | some e => .ok r e
  | none => .no
@[simp] theorem outO_ {r : Rv} : outO r (some e) = .ok r e := rfl
def endF (io : Option Nat) : Rs → FR
  | .rt r Γ' => outO r (ioOut io Γ')
  | .nx Γ' => outO (.v .non) (ioOut io Γ')
  | .ex x Γ' => match ioOut io Γ' with
    | some e => .ex x e
    | none => .no
  | _ => .no
@[simp] theorem endF_rt {io : Option Nat} {r : Rv} : endF io (.rt r Γ) = outO r (ioOut io Γ) := rfl
@[simp] theorem endF_nx {io : Option Nat} : endF io (.nx Γ) = outO (.v .non) (ioOut io Γ) := rfl
def ioSl : Option Sl → Option D
  | some (.io d) => some d
  | _ => none
@[simp] theorem ioSl_ : ioSl (some (.io d)) = some d := rfl
@[simp] theorem ioOut_none : ioOut none Γ = some .non := rfl
@[simp] theorem ioOut_some : ioOut (some i) Γ = ioSl Γ[i]? := rfl
theorem bodyF_ {np N : Nat} {io : Option Nat} {body : Ms} {ds : List D} : bodyF np N io body ds = endF io (body (parG io (ioD io ds) ds ++ List.replicate (N - np) .un)) := by
  unfold bodyF endF outO
  cases body (parG io (ioD io ds) ds ++ List.replicate (N - np) .un) with
  | rt r Γ' => simp only <;> cases ioOut io Γ' <;> rfl
  | nx Γ' => simp only <;> cases ioOut io Γ' <;> rfl
  | ex x Γ' => simp only <;> cases ioOut io Γ' <;> rfl
  | _ => rfl
@[simp] theorem parG_none {ds : List D} : parG none e ds = ds.map .val := rfl
@[simp] theorem parG_some {ds : List D} : parG (some i) e ds = (ds.map .val).set i (.io e) := rfl
@[simp] theorem ioD_none {ds : List D} : ioD none ds = .non := rfl
@[simp] theorem ioD_some {ds : List D} : ioD (some i) ds = ds.getD i .non := rfl
/-! ### x[i] = e -/
def putLD (j : Nat) (Γ : Gm) (k : Int) (d : D) : Option D → Rs
  | some (.lst ds) => match ixN ds.length k with
    | some t => .nx (putG Γ j (.lst (ds.set t d)))
    | none => .no
  | _ => .no
def putLI (j : Nat) (Γ : Gm) (d : D) : Option D → Rs
  | some (.int k) => putLD j Γ k d (mineG Γ (.sl j))
  | _ => .no
def putLF (j : Nat) (i : Ar) : Option (D × Gm) → Rs
  | some (d, Γ3) => putLI j Γ3 d (atG Γ3 i)
  | none => .no
theorem putLD_ {k : Int} {ds : List D} {t : Nat} (h : ixN ds.length k = some t) : putLD j Γ k d (some (.lst ds)) = .nx (putG Γ j (.lst (ds.set t d))) := by
  show (match ixN ds.length k with | some t => Rs.nx (putG Γ j (.lst (ds.set t d))) | none => .no) = _
  rw [h]
@[simp] theorem putLI_ {k : Int} : putLI j Γ d (some (.int k)) = putLD j Γ k d (mineG Γ (.sl j)) := rfl
@[simp] theorem putLF_ {i : Ar} : putLF j i (some (d, Γ)) = putLI j Γ d (atG Γ i) := rfl
@[simp] theorem isL_lst {ds : List D} : isL (some (.lst ds)) = true := rfl
@[simp] theorem mPutL_ {mi me : M Ar} : mPutL j mi me Γ = (me Γ).then fun a Γ1 => if isL (mineG Γ1 (.sl j)) then (mi Γ1).then fun i Γ2 => putLF j i (fzA Γ2 a) else .no := by
  unfold mPutL
  congr 1
/-! ### what operators do -/
@[simp] theorem add_int {a b : Int} : addD (.int a) (.int b) = some (.int (a + b)) := rfl
@[simp] theorem sub_int {a b : Int} : subD (.int a) (.int b) = some (.int (a - b)) := rfl
@[simp] theorem gt_int {a b : Int} : gtD (.int a) (.int b) = some (decide (b < a)) := rfl
@[simp] theorem lt_int {a b : Int} : ltD (.int a) (.int b) = some (decide (a < b)) := rfl
@[simp] theorem le_int {a b : Int} : leD (.int a) (.int b) = some (decide (a ≤ b)) := rfl
@[simp] theorem ge_int {a b : Int} : geD (.int a) (.int b) = some (decide (b ≤ a)) := rfl
@[simp] theorem mul_int {a b : Int} : mulD (.int a) (.int b) = if mulIn a b then some (.int (a * b)) else none := rfl
@[simp] theorem div_int {a b : Int} : divD (.int a) (.int b) = if b ≠ 0 ∧ b.natAbs < 1073741824 then some (.int (a.fdiv b)) else none := rfl
@[simp] theorem mod_int {a b : Int} : modD (.int a) (.int b) = if b ≠ 0 then some (.int (a.fmod b)) else none := rfl
@[simp] theorem ix_lst {l : List D} {i : Int} : ixD (.lst l) (.int i) = atI l i := rfl
@[simp] theorem ix_tup {l : List D} {i : Int} : ixD (.tup l) (.int i) = atI l i := rfl
theorem atI_nn {α : Type} {l : List α} (n : Nat) : atI l (n : Int) = l[n]? := by
  by_cases h : n < l.length
  · rw [List.getElem?_eq_getElem h]
    exact atI_nat (List.getElem?_eq_getElem h)
  · rw [List.getElem?_eq_none (by omega)]
    unfold atI ixN
    simp
    omega
@[simp] theorem atI_0 {α : Type} {l : List α} : atI l 0 = l[0]? := atI_nn 0
@[simp] theorem atI_1 {α : Type} {l : List α} : atI l 1 = l[1]? := atI_nn 1
@[simp] theorem atI_2 {α : Type} {l : List α} : atI l 2 = l[2]? := atI_nn 2
@[simp] theorem atI_3 {α : Type} {l : List α} : atI l 3 = l[3]? := atI_nn 3
@[simp] theorem atI_4 {α : Type} {l : List α} : atI l 4 = l[4]? := atI_nn 4
theorem ixN_nn {m : Nat} (n : Nat) : ixN m (n : Int) = if n < m then some n else none := by
  unfold ixN
  rw [if_pos (by omega)]
  by_cases h : n < m
  · rw [if_pos h, if_pos (by omega)]; rfl
  · rw [if_neg h, if_neg (by omega)]
theorem putLD_nn {ds : List D} (n : Nat) : putLD j Γ (n : Int) d (some (.lst ds)) = if n < ds.length then .nx (putG Γ j (.lst (ds.set n d))) else .no := by
  show (match ixN ds.length (n : Int) with | some t => Rs.nx (putG Γ j (.lst (ds.set t d))) | none => .no) = _
  rw [ixN_nn]
  by_cases h : n < ds.length
  · rw [if_pos h, if_pos h]
  · rw [if_neg h, if_neg h]
@[simp] theorem putLD_0 {ds : List D} : putLD j Γ 0 d (some (.lst ds)) = if 0 < ds.length then .nx (putG Γ j (.lst (ds.set 0 d))) else .no := putLD_nn 0
@[simp] theorem putLD_1 {ds : List D} : putLD j Γ 1 d (some (.lst ds)) = if 1 < ds.length then .nx (putG Γ j (.lst (ds.set 1 d))) else .no := putLD_nn 1
@[simp] theorem putLD_2 {ds : List D} : putLD j Γ 2 d (some (.lst ds)) = if 2 < ds.length then .nx (putG Γ j (.lst (ds.set 2 d))) else .no := putLD_nn 2
@[simp] theorem putLD_3 {ds : List D} : putLD j Γ 3 d (some (.lst ds)) = if 3 < ds.length then .nx (putG Γ j (.lst (ds.set 3 d))) else .no := putLD_nn 3
@[simp] theorem putLD_4 {ds : List D} : putLD j Γ 4 d (some (.lst ds)) = if 4 < ds.length then .nx (putG Γ j (.lst (ds.set 4 d))) else .no := putLD_nn 4
@[simp] theorem mulIn_r {a b : Int} (h : -18446744073709551616 < b) (h2 : b < 18446744073709551616) : mulIn a b = true := by unfold mulIn; rw [Bool.or_eq_true]; exact .inr (smallI_iff.mpr ⟨h, h2⟩)
@[simp] theorem mulIn_l {a b : Int} (h : -18446744073709551616 < a) (h2 : a < 18446744073709551616) : mulIn a b = true := by unfold mulIn; rw [Bool.or_eq_true]; exact .inl (smallI_iff.mpr ⟨h, h2⟩)
theorem atI_ {l : List D} {i : Nat} {d : D} (h : l[i]? = some d) : atI l (i : Int) = some d := atI_nat h
end
end Fx

/-! Fx: loops and comprehensions of mirrors; built-in functions by simp. -/
namespace Fx
open PySem PySem.Spec PyProof.Rows L2
theorem loopS_run {g : Mg} {b : Ms} {I : List D → Gm → Prop} (step : ∀ d r Γ, I (d :: r) Γ → ∃ Γ1 Γ2, g d Γ = some Γ1 ∧ (b Γ1 = .nx Γ2 ∨ b Γ1 = .ct Γ2) ∧ I r Γ2) : ∀ {ds : List D} {Γ : Gm}, I ds Γ → ∃ Γ', loopS b g ds Γ = .nx Γ' ∧ I [] Γ'
  | [], Γ, h => ⟨Γ, rfl, h⟩
  | d :: ds, Γ, h => by
    obtain ⟨Γ1, Γ2, h1, h2, h3⟩ := step d ds Γ h
    obtain ⟨Γ', h4, h5⟩ := loopS_run step h3
    refine ⟨Γ', ?_, h5⟩
    unfold loopS
    rw [h1]
    rcases h2 with h2 | h2 <;> simp only [h2] <;> exact h4
/-- a loop that may return: Out tells how it ends early -/
theorem loopS_ret {g : Mg} {b : Ms} {I : List D → Gm → Prop} {Out : Rs → Prop} (step : ∀ d r Γ, I (d :: r) Γ → ∃ Γ1, g d Γ = some Γ1 ∧ ((∃ Γ2, (b Γ1 = .nx Γ2 ∨ b Γ1 = .ct Γ2) ∧ I r Γ2) ∨ (∃ Γ2, b Γ1 = .bk Γ2 ∧ Out (.nx Γ2)) ∨ (∃ v Γ2, b Γ1 = .rt v Γ2 ∧ Out (.rt v Γ2)) ∨ (∃ x Γ2, b Γ1 = .ex x Γ2 ∧ Out (.ex x Γ2))))
    (fin : ∀ Γ, I [] Γ → Out (.nx Γ)) : ∀ {ds : List D} {Γ : Gm}, I ds Γ → Out (loopS b g ds Γ)
  | [], Γ, h => fin Γ h
  | d :: ds, Γ, h => by
    obtain ⟨Γ1, h1, h2⟩ := step d ds Γ h
    unfold loopS
    rw [h1]
    rcases h2 with ⟨Γ2, h2, h3⟩ | ⟨Γ2, h2, h3⟩ | ⟨v, Γ2, h2, h3⟩ | ⟨v, Γ2, h2, h3⟩
    · rcases h2 with h2 | h2 <;> simp only [h2] <;> exact loopS_ret step fin h3
    · simp only [h2]; exact h3
    · simp only [h2]; exact h3
    · simp only [h2]; exact h3
theorem loopW_run {q : M Bool} {b : Ms} {I : Nat → Gm → Prop} {Z : Gm → Prop} (step : ∀ n Γ, I n Γ → (∃ Γ1, q Γ = .ok false Γ1 ∧ Z Γ1) ∨ (∃ Γ1 Γ2 m, q Γ = .ok true Γ1 ∧ (b Γ1 = .nx Γ2 ∨ b Γ1 = .ct Γ2) ∧ m < n ∧ I m Γ2)) : ∀ {k n : Nat} {Γ : Gm}, n < k → I n Γ → ∃ Γ', loopW q b k Γ = .nx Γ' ∧ Z Γ'
  | 0, _, _, hk, _ => absurd hk (by omega)
  | k + 1, n, Γ, hk, h => by
    unfold loopW
    rcases step n Γ h with ⟨Γ1, h1, h2⟩ | ⟨Γ1, Γ2, m, h1, h2, h3, h4⟩
    · exact ⟨Γ1, by rw [h1]; rfl, h2⟩
    · obtain ⟨Γ', h5, h6⟩ := loopW_run (k := k) step (by omega) h4
      refine ⟨Γ', ?_, h6⟩
      rw [h1]
      rcases h2 with h2 | h2 <;> simp only [then_ok, h2, if_true] <;> exact h5
theorem loopC_run {g : Mg} {q : M Bool} {me : M Ar} {vs : List Nat} {I : List D → List D → Gm → Prop}
    (step : ∀ d r acc Γ, I (d :: r) acc Γ → ∃ Γ1, g d Γ = some Γ1 ∧ ((∃ Γ2, q Γ1 = .ok false Γ2 ∧ I r acc (unG Γ2 vs)) ∨ (∃ Γ2 a Γ3 e Γ4, q Γ1 = .ok true Γ2 ∧ me Γ2 = .ok a Γ3 ∧ fzA Γ3 a = some (e, Γ4) ∧ acc.length < sizeLine ∧ I r (acc ++ [e]) (unG Γ4 vs)))) :
    ∀ {ds acc : List D} {Γ : Gm}, I ds acc Γ → ∃ acc' Γ', loopC g q me vs ds acc Γ = .ok acc' Γ' ∧ I [] acc' Γ'
  | [], acc, Γ, h => ⟨acc, Γ, rfl, h⟩
  | d :: ds, acc, Γ, h => by
    obtain ⟨Γ1, h1, h2⟩ := step d ds acc Γ h
    unfold loopC
    rw [h1]
    rcases h2 with ⟨Γ2, h2, h3⟩ | ⟨Γ2, a, Γ3, e, Γ4, h2, h3, h4, h5, h6⟩
    · simp only [h2]; exact loopC_run step h3
    · simp only [h2, h3, h4, if_pos h5]; exact loopC_run step h6
/-- a comprehension that changes nothing -/
theorem loopC_pure {g : Mg} {q : M Bool} {me : M Ar} {vs : List Nat} {Γ : Gm} {p : D → Bool} {f : D → D} : ∀ {ds acc : List D}, (∀ d ∈ ds, ∃ Γ1, g d Γ = some Γ1 ∧ q Γ1 = .ok (p d) Γ1 ∧ (p d = true → me Γ1 = .ok (.v (f d)) Γ1) ∧ unG Γ1 vs = Γ) → acc.length + ds.length ≤ sizeLine →
    loopC g q me vs ds acc Γ = .ok (acc ++ (ds.filter p).map f) Γ
  | [], acc, _, _ => by simp [loopC]
  | d :: ds, acc, h, hl => by
    obtain ⟨Γ1, h1, h2, h3, h4⟩ := h d List.mem_cons_self
    rw [List.length_cons] at hl
    unfold loopC
    rw [h1]
    cases hp : p d with
    | false =>
      rw [hp] at h2
      simp only [h2, h4]
      rw [loopC_pure (fun e he => h e (List.mem_cons_of_mem _ he)) (by omega), List.filter_cons_of_neg (by rw [hp]; simp)]
    | true =>
      rw [hp] at h2
      simp only [h2, h3 hp, fzA_v, h4]
      rw [if_pos (by omega), loopC_pure (fun e he => h e (List.mem_cons_of_mem _ he)) (by rw [List.length_append, List.length_singleton]; omega), List.filter_cons_of_pos hp, List.map_cons, List.append_assoc]
      rfl
section
variable {Γ Γ1 : Gm} {d e : D} {i j : Nat}
def lcO (Γ1 : Gm) (vs : List Nat) : R (List D) → R Rv
  | .ok acc Γ2 => .ok (.nw (.lst acc)) (backG Γ1 Γ2 vs)
  | _ => .no
@[simp] theorem lcO_ok {vs : List Nat} {acc : List D} : lcO Γ1 vs (.ok acc Γ) = .ok (.nw (.lst acc)) (backG Γ1 Γ vs) := rfl
@[simp] theorem mLc_ {vs : List Nat} {mi : M (List D)} {g : Mg} {q : M Bool} {me : M Ar} : mLc vs mi g q me Γ = (mi Γ).bind fun ds Γ1 => if freeG Γ1 vs then lcO Γ1 vs (loopC g q me vs ds [] (unG Γ1 vs)) else .no := rfl
def freeO : Option Sl → Bool
  | some s => !s.mine
  | none => true
@[simp] theorem freeO_ {s : Sl} : freeO (some s) = !s.mine := rfl
@[simp] theorem freeG_nil : freeG Γ [] = true := rfl
@[simp] theorem freeG_cons {v : Nat} {vs : List Nat} : freeG Γ (v :: vs) = (freeO Γ[v]? && freeG Γ vs) := rfl
@[simp] theorem mine_un_ : Sl.mine .un = false := rfl
@[simp] theorem mine_val : Sl.mine (.val d) = false := rfl
@[simp] theorem mine_own : Sl.mine (.own d) = true := rfl
@[simp] theorem mine_io : Sl.mine (.io d) = true := rfl
@[simp] theorem unG_nil : unG Γ [] = Γ := rfl
@[simp] theorem unG_cons {v : Nat} {vs : List Nat} : unG Γ (v :: vs) = (unG Γ vs).set v .un := rfl
def backO (v : Nat) (Γ : Gm) : Option Sl → Gm
  | some s => Γ.set v s
  | none => Γ
@[simp] theorem backO_ {v : Nat} {s : Sl} : backO v Γ (some s) = Γ.set v s := rfl
@[simp] theorem backG_nil : backG Γ1 Γ [] = Γ := rfl
@[simp] theorem backG_cons {v : Nat} {vs : List Nat} : backG Γ1 Γ (v :: vs) = backO v (backG Γ1 Γ vs) Γ1[v]? := rfl
@[simp] theorem mDisp_ {ps : List MP} : mDisp ps Γ = (mPairs ps Γ).bind fun as Γ1 => match fzP Γ1 as with
  | some (kds, Γ2) => .ok (.nw (.dic (mergeD [] kds))) Γ2
  | none => .no := rfl
/-! ### built-in functions -/
@[simp] theorem len_str {x : Str} : lenF [.str x] = if x.length ≤ sizeLine then some (.int x.length) else none := rfl
@[simp] theorem len_lst {l : List D} : lenF [.lst l] = some (.int l.length) := rfl
@[simp] theorem len_tup {l : List D} : lenF [.tup l] = some (.int l.length) := rfl
@[simp] theorem len_dic {l : List (D × D)} : lenF [.dic l] = some (.int l.length) := rfl
@[simp] theorem abs_ {a : Int} : absF [.int a] = some (.int (if a < 0 then -a else a)) := rfl
@[simp] theorem int_int {a : Int} : intF [.int a] = some (.int a) := rfl
@[simp] theorem int_bl {b : Bool} : intF [.bl b] = some (.int (if b then 1 else 0)) := rfl
@[simp] theorem max2_ {a b : Int} : max2F [.int a, .int b] = some (.int (if b > a then b else a)) := rfl
@[simp] theorem min2_ {a b : Int} : min2F [.int a, .int b] = some (.int (if b < a then b else a)) := rfl
@[simp] theorem all_ {l : List D} : allF [.lst l] = (blsD l).map fun bs => .bl (bs.all id) := rfl
@[simp] theorem any_ {l : List D} : anyF [.lst l] = (blsD l).map fun bs => .bl (bs.any id) := rfl
@[simp] theorem sum_ {l : List D} : sumF [.lst l] = (intsD l).map fun bs => .int bs.sum := rfl
@[simp] theorem isi_ {T : String} : isiF [d, .raw (.ty T)] = (isTy d T).map .bl := rfl
@[simp] theorem intsD_map {l : List Int} : intsD (l.map .int) = some l := by
  induction l with
  | nil => rfl
  | cons a l ih => rw [List.map_cons]; unfold intsD; rw [ih]; rfl
@[simp] theorem blsD_map {l : List Bool} : blsD (l.map .bl) = some l := by
  induction l with
  | nil => rfl
  | cons a l ih => rw [List.map_cons]; unfold blsD; rw [ih]; rfl
theorem blsD_mapf {α : Type} {l : List α} {f : α → Bool} : blsD (l.map fun x => D.bl (f x)) = some (l.map f) := by
  rw [← blsD_map, List.map_map]
  rfl
theorem intsD_mapf {α : Type} {l : List α} {f : α → Int} : intsD (l.map fun x => D.int (f x)) = some (l.map f) := by
  rw [← intsD_map, List.map_map]
  rfl
@[simp] theorem cut_lst {l : List D} {lo hi : Option Int} : cutD (.lst l) lo hi = some (.lst (cutL l lo hi)) := rfl
@[simp] theorem cut_str {x : Str} {lo hi : Option Int} : cutD (.str x) lo hi = if x.length ≤ sizeLine then some (.str (cutS x lo hi)) else none := rfl
theorem cutL_to {α : Type} {l : List α} (n : Nat) : cutL l none (some (n : Int)) = l.take n := by
  unfold cutL
  have e : HT.sIx l.length l.length (some (n : Int)) = min n l.length := HT.sIx_nat _ _ _
  have z : HT.sIx l.length 0 none = 0 := rfl
  rw [e, z, List.drop_zero, Nat.sub_zero]
  by_cases h : n ≤ l.length
  · rw [Nat.min_eq_left h]
  · rw [Nat.min_eq_right (by omega), List.take_length, List.take_of_length_le (by omega)]
theorem cutL_from {α : Type} {l : List α} (n : Nat) : cutL l (some (n : Int)) none = l.drop n := by
  unfold cutL
  have e : HT.sIx l.length 0 (some (n : Int)) = min n l.length := HT.sIx_nat _ _ _
  have z : HT.sIx l.length l.length none = l.length := rfl
  rw [e, z]
  by_cases h : n ≤ l.length
  · rw [Nat.min_eq_left h, List.take_of_length_le (by rw [List.length_drop]; omega)]
  · rw [Nat.min_eq_right (by omega), List.drop_length, List.drop_eq_nil_of_le (by omega), List.take_nil]
theorem cutL_all {α : Type} {l : List α} : cutL l none none = l := by
  unfold cutL
  have e : HT.sIx l.length 0 none = 0 := rfl
  have z : HT.sIx l.length l.length none = l.length := rfl
  rw [e, z, List.drop_zero, Nat.sub_zero, List.take_length]
@[simp] theorem pow_int {a b : Int} : powD (.int a) (.int b) = if 0 ≤ b ∧ b ≤ 1000000 ∧ a.natAbs < 2 ^ 64 then some (.int (a ^ b.toNat)) else none := rfl
@[simp] theorem neg_int {a : Int} : negD (.int a) = some (.int (-a)) := rfl
@[simp] theorem add_str {a b : Str} : addD (.str a) (.str b) = if a.length + b.length ≤ sizeLine then some (.str (a ++ b)) else none := rfl
@[simp] theorem add_lst {a b : List D} : addD (.lst a) (.lst b) = if a.length + b.length ≤ sizeLine then some (.lst (a ++ b)) else none := rfl
@[simp] theorem ix_str {x : Str} {i : Int} : ixD (.str x) (.int i) = if x.length ≤ sizeLine then (atI x.cps.toList i).map fun c => .str ⟨#[c]⟩ else none := rfl
theorem rngL_len {a b : Int} : (rngL a b).length = (b - a).toNat := by unfold rngL; simp
theorem mem_rngL {a b : Int} {d : D} (h : d ∈ rngL a b) : ∃ i : Int, d = .int i ∧ a ≤ i ∧ i < b := by
  unfold rngL at h
  obtain ⟨i, hi, rfl⟩ := List.mem_map.mp h
  rw [List.mem_range] at hi
  exact ⟨_, rfl, by omega, by omega⟩
theorem small62_ {a : Int} (h : -4611686018427387904 < a) (h2 : a < 4611686018427387904) : small62 a = true := smallI_iff.mpr ⟨h, h2⟩
theorem cutS_len {z : Str} {lo hi : Option Int} : (cutS z lo hi).length ≤ z.length := by
  unfold cutS
  show (List.toArray _).size ≤ z.cps.size
  rw [List.size_toArray, List.length_take, List.length_drop, Array.length_toList]
  omega
end
end Fx

/-! Fx: == of trees by simp. -/
namespace Fx
open PySem PySem.Spec PyProof.Rows L2
/-- fit to be compared, nested at most n deep -/
def fitD (n : Nat) (d : D) : Bool := flatD d && (toPy d).canLay0 && decide ((toPy d).depth ≤ n)
theorem fitD_mono {m n : Nat} {d : D} (h : fitD m d = true) (hmn : m ≤ n) : fitD n d = true := by
  unfold fitD at h ⊢
  simp only [Bool.and_eq_true, decide_eq_true_eq] at h ⊢
  exact ⟨h.1, by omega⟩
theorem shD_fit {d : D} : shD d = fitD 64 d := by
  unfold shD fitD SeqAt.shaped
  rw [Bool.and_assoc]
@[simp] theorem fit_non {n : Nat} : fitD n .non = true := by simp [fitD, flatD, toPy, PyData.canLay0, PyData.depth]
@[simp] theorem fit_bl {n : Nat} {b : Bool} : fitD n (.bl b) = true := by simp [fitD, flatD, toPy, PyData.canLay0, PyData.depth]
@[simp] theorem fit_int {n : Nat} {b : Int} : fitD n (.int b) = true := by simp [fitD, flatD, toPy, PyData.canLay0, PyData.depth]
@[simp] theorem fit_str {n : Nat} {x : Str} : fitD n (.str x) = PyData.strOk x := by simp [fitD, flatD, toPy, PyData.canLay0, PyData.depth]
theorem fitL {n : Nat} : ∀ {l : List D}, (∀ d ∈ l, fitD n d = true) → flatL l = true ∧ PyData.canLayAll0 (toPyL l) = true ∧ PyData.depthAll (toPyL l) ≤ n
  | [], _ => by simp [flatL, toPyL, PyData.canLayAll0, PyData.depthAll]
  | d :: l, h => by
    obtain ⟨h1, h2, h3⟩ := fitL (l := l) fun e he => h e (List.mem_cons_of_mem _ he)
    have h4 := h d List.mem_cons_self
    unfold fitD at h4
    simp only [Bool.and_eq_true, decide_eq_true_eq] at h4
    refine ⟨by simp [flatL, h4.1.1, h1], by simp [toPyL, PyData.canLayAll0, h4.1.2, h2], ?_⟩
    simp only [toPyL, PyData.depthAll]
    omega
theorem fit_lst {n : Nat} {l : List D} (h : ∀ d ∈ l, fitD n d = true) : fitD (n + 1) (.lst l) = true := by
  obtain ⟨h1, h2, h3⟩ := fitL h
  simp [fitD, flatD, toPy, PyData.canLay0, PyData.depth, h1, h2, h3]
theorem fit_tup {n : Nat} {l : List D} (h : ∀ d ∈ l, fitD n d = true) : fitD (n + 1) (.tup l) = true := by
  obtain ⟨h1, h2, h3⟩ := fitL h
  simp [fitD, flatD, toPy, PyData.canLay0, PyData.depth, h1, h2, h3]
theorem fitL_of {n : Nat} : ∀ {l : List D}, flatL l = true → PyData.canLayAll0 (toPyL l) = true → PyData.depthAll (toPyL l) ≤ n → l.all (fitD n) = true
  | [], _, _, _ => rfl
  | d :: l, h1, h2, h3 => by
    simp only [flatL, toPyL, PyData.canLayAll0, PyData.depthAll, Bool.and_eq_true] at h1 h2 h3
    rw [List.all_cons, fitL_of h1.2 h2.2 (by omega)]
    simp [fitD, h1.1, h2.1, show (toPy d).depth ≤ n by omega]
@[simp] theorem fit_lst_ {n : Nat} {l : List D} : fitD (n + 1) (.lst l) = l.all (fitD n) := by
  rw [Bool.eq_iff_iff]
  constructor
  · intro h
    simp only [fitD, flatD, toPy, PyData.canLay0, PyData.depth, Bool.and_eq_true, decide_eq_true_eq] at h
    exact fitL_of h.1.1 h.1.2 (by omega)
  · intro h
    exact fit_lst fun d hd => List.all_eq_true.mp h d hd
@[simp] theorem fit_tup_ {n : Nat} {l : List D} : fitD (n + 1) (.tup l) = l.all (fitD n) := by
  rw [Bool.eq_iff_iff]
  constructor
  · intro h
    simp only [fitD, flatD, toPy, PyData.canLay0, PyData.depth, Bool.and_eq_true, decide_eq_true_eq] at h
    exact fitL_of h.1.1 h.1.2 (by omega)
  · intro h
    exact fit_tup fun d hd => List.all_eq_true.mp h d hd
/-- are they equal -/
def same (d e : D) : Bool := PyData.eqv (toPy d) (toPy e)
def sameL (d e : List D) : Bool := PyData.eqvAll (toPyL d) (toPyL e)
@[simp] theorem eqD_ {d e : D} : eqD d e = if fitD (63 + 1) d && fitD (63 + 1) e then some (same d e) else none := by
  unfold eqD same
  rw [shD_fit, shD_fit]
@[simp] theorem neD_ {d e : D} : neD d e = if fitD (63 + 1) d && fitD (63 + 1) e then some (!same d e) else none := by
  unfold neD
  rw [eqD_]
  split <;> rfl
@[simp] theorem same_int {a b : Int} : same (.int a) (.int b) = (a == b) := by simp [same, toPy, PyData.eqv]
@[simp] theorem same_str {a b : Str} : same (.str a) (.str b) = (a == b) := by simp [same, toPy, PyData.eqv]
@[simp] theorem same_bl {a b : Bool} : same (.bl a) (.bl b) = (a == b) := by simp [same, toPy, PyData.eqv]
@[simp] theorem same_non : same .non .non = true := by simp [same, toPy, PyData.eqv]
@[simp] theorem same_lst {a b : List D} : same (.lst a) (.lst b) = sameL a b := by simp [same, sameL, toPy, PyData.eqv]
@[simp] theorem same_tup {a b : List D} : same (.tup a) (.tup b) = sameL a b := by simp [same, sameL, toPy, PyData.eqv]
@[simp] theorem sameL_nil : sameL [] [] = true := by simp [sameL, toPyL, PyData.eqvAll]
@[simp] theorem sameL_cons {d e : D} {a b : List D} : sameL (d :: a) (e :: b) = (same d e && sameL a b) := by simp [sameL, same, toPyL, PyData.eqvAll]
@[simp] theorem sameL_nc {e : D} {b : List D} : sameL [] (e :: b) = false := by simp [sameL, toPyL, PyData.eqvAll]
@[simp] theorem sameL_cn {e : D} {b : List D} : sameL (e :: b) [] = false := by simp [sameL, toPyL, PyData.eqvAll]
theorem strOk_append {x y : Str} : PyData.strOk (x ++ y) = (PyData.strOk x && PyData.strOk y) := by
  show (x.cps ++ y.cps).all _ = _
  rw [Array.all_append]
  rfl
theorem strOk_cut {x : Str} {lo hi : Option Int} (h : PyData.strOk x = true) : PyData.strOk (cutS x lo hi) = true := by
  unfold PyData.strOk at h ⊢
  rw [Array.all_eq_true'] at h ⊢
  intro c hc
  unfold cutS at hc
  rw [List.mem_toArray] at hc
  exact h c (by simpa using List.mem_of_mem_drop (List.mem_of_mem_take hc))
theorem strOk_at {x : Str} {k : Nat} {c : Nat} (h : PyData.strOk x = true) (e : x.cps[k]? = some c) : PyData.strOk ⟨#[c]⟩ = true := by
  unfold PyData.strOk at h ⊢
  rw [Array.all_eq_true'] at h ⊢
  intro d hd
  have : d = c := by simpa using hd
  subst this
  exact h d (Array.mem_of_getElem? e)
theorem memD_ {d : D} {l : List D} : memD d l = l.any fun z => same z d := by
  unfold memD same
  induction l with
  | nil => rfl
  | cons a l ih => simp only [toPyL, List.any_cons, ih]
@[simp] theorem in_lst {d : D} {l : List D} : inD d (.lst l) = if fitD (63 + 1) d && fitD (63 + 1) (.lst l) then some (l.any fun z => same z d) else none := by
  rw [← memD_, ← shD_fit, ← shD_fit]
  cases d <;> rfl
@[simp] theorem in_tup {d : D} {l : List D} : inD d (.tup l) = if fitD (63 + 1) d && fitD (63 + 1) (.tup l) then some (l.any fun z => same z d) else none := by
  rw [← memD_, ← shD_fit, ← shD_fit]
  cases d <;> rfl
@[simp] theorem in_str {x y : Str} : inD (.str x) (.str y) = some (inSD x y) := rfl
@[simp] theorem inSD_one {c : Nat} {y : Str} : inSD ⟨#[c]⟩ y = decide (c ∈ y.cps.toList) := rfl
end Fx

/-! Fx: isinstance by simp. -/
namespace Fx
open PySem PySem.Spec PyProof.Rows L2
section
variable {b : Bool} {i : Int} {x : Str} {l : List D} {e : List (D × D)}
@[simp] theorem ty_non_str : isTy .non "str" = some false := by simp [isTy, tyD]
@[simp] theorem ty_non_int : isTy .non "int" = some false := by simp [isTy, tyD]
@[simp] theorem ty_non_bool : isTy .non "bool" = some false := by simp [isTy, tyD]
@[simp] theorem ty_non_list : isTy .non "list" = some false := by simp [isTy, tyD]
@[simp] theorem ty_non_tuple : isTy .non "tuple" = some false := by simp [isTy, tyD]
@[simp] theorem ty_non_dict : isTy .non "dict" = some false := by simp [isTy, tyD]
@[simp] theorem ty_bl_str : isTy (.bl b) "str" = some false := by simp [isTy, tyD]
@[simp] theorem ty_bl_int : isTy (.bl b) "int" = some true := by simp [isTy, tyD]
@[simp] theorem ty_bl_bool : isTy (.bl b) "bool" = some true := by simp [isTy, tyD]
@[simp] theorem ty_bl_list : isTy (.bl b) "list" = some false := by simp [isTy, tyD]
@[simp] theorem ty_bl_tuple : isTy (.bl b) "tuple" = some false := by simp [isTy, tyD]
@[simp] theorem ty_bl_dict : isTy (.bl b) "dict" = some false := by simp [isTy, tyD]
@[simp] theorem ty_int_str : isTy (.int i) "str" = some false := by simp [isTy, tyD]
@[simp] theorem ty_int_int : isTy (.int i) "int" = some true := by simp [isTy, tyD]
@[simp] theorem ty_int_bool : isTy (.int i) "bool" = some false := by simp [isTy, tyD]
@[simp] theorem ty_int_list : isTy (.int i) "list" = some false := by simp [isTy, tyD]
@[simp] theorem ty_int_tuple : isTy (.int i) "tuple" = some false := by simp [isTy, tyD]
@[simp] theorem ty_int_dict : isTy (.int i) "dict" = some false := by simp [isTy, tyD]
@[simp] theorem ty_str_str : isTy (.str x) "str" = some true := by simp [isTy, tyD]
@[simp] theorem ty_str_int : isTy (.str x) "int" = some false := by simp [isTy, tyD]
@[simp] theorem ty_str_bool : isTy (.str x) "bool" = some false := by simp [isTy, tyD]
@[simp] theorem ty_str_list : isTy (.str x) "list" = some false := by simp [isTy, tyD]
@[simp] theorem ty_str_tuple : isTy (.str x) "tuple" = some false := by simp [isTy, tyD]
@[simp] theorem ty_str_dict : isTy (.str x) "dict" = some false := by simp [isTy, tyD]
@[simp] theorem ty_lst_str : isTy (.lst l) "str" = some false := by simp [isTy, tyD]
@[simp] theorem ty_lst_int : isTy (.lst l) "int" = some false := by simp [isTy, tyD]
@[simp] theorem ty_lst_bool : isTy (.lst l) "bool" = some false := by simp [isTy, tyD]
@[simp] theorem ty_lst_list : isTy (.lst l) "list" = some true := by simp [isTy, tyD]
@[simp] theorem ty_lst_tuple : isTy (.lst l) "tuple" = some false := by simp [isTy, tyD]
@[simp] theorem ty_lst_dict : isTy (.lst l) "dict" = some false := by simp [isTy, tyD]
@[simp] theorem ty_tup_str : isTy (.tup l) "str" = some false := by simp [isTy, tyD]
@[simp] theorem ty_tup_int : isTy (.tup l) "int" = some false := by simp [isTy, tyD]
@[simp] theorem ty_tup_bool : isTy (.tup l) "bool" = some false := by simp [isTy, tyD]
@[simp] theorem ty_tup_list : isTy (.tup l) "list" = some false := by simp [isTy, tyD]
@[simp] theorem ty_tup_tuple : isTy (.tup l) "tuple" = some true := by simp [isTy, tyD]
@[simp] theorem ty_tup_dict : isTy (.tup l) "dict" = some false := by simp [isTy, tyD]
@[simp] theorem ty_dic_str : isTy (.dic e) "str" = some false := by simp [isTy, tyD]
@[simp] theorem ty_dic_int : isTy (.dic e) "int" = some false := by simp [isTy, tyD]
@[simp] theorem ty_dic_bool : isTy (.dic e) "bool" = some false := by simp [isTy, tyD]
@[simp] theorem ty_dic_list : isTy (.dic e) "list" = some false := by simp [isTy, tyD]
@[simp] theorem ty_dic_tuple : isTy (.dic e) "tuple" = some false := by simp [isTy, tyD]
@[simp] theorem ty_dic_dict : isTy (.dic e) "dict" = some true := by simp [isTy, tyD]
end
/-! ### a statement that goes on -/
def Nx (m : Ms) (Γ : Gm) (P : Gm → Prop) : Prop := ∃ Γ', m Γ = .nx Γ' ∧ P Γ'
theorem nx_sq {a b : Ms} {Γ : Gm} {P : Gm → Prop} (h : Nx a Γ fun Γ1 => Nx b Γ1 P) : Nx (mSq a b) Γ P := by
  obtain ⟨Γ1, h1, Γ2, h2, h3⟩ := h
  exact ⟨Γ2, by rw [mSq_, h1, sbind_nx, h2], h3⟩
theorem nx_for {mi : M (List D)} {g : Mg} {b : Ms} {Γ Γ1 : Gm} {ds : List D} {P : Gm → Prop} (I : List D → Gm → Prop) (h : mi Γ = .ok ds Γ1) (h0 : I ds Γ1) (step : ∀ d r Γ, I (d :: r) Γ → ∃ Γ1, g d Γ = some Γ1 ∧ Nx b Γ1 (I r)) (fin : ∀ Γ', I [] Γ' → P Γ') : Nx (mFor mi g b) Γ P := by
  obtain ⟨Γ', h1, h2⟩ := loopS_run (g := g) (b := b) (I := I) (fun d r Γ hi => by
    obtain ⟨Γ1, k1, Γ2, k2, k3⟩ := step d r Γ hi
    exact ⟨Γ1, Γ2, k1, .inl k2, k3⟩) h0
  exact ⟨Γ', by rw [mFor_, h, then_ok, h1], fin Γ' h2⟩
theorem nx_eq {m : Ms} {Γ Γ1 : Gm} {P : Gm → Prop} (h : m Γ = .nx Γ1) (p : P Γ1) : Nx m Γ P := ⟨Γ1, h, p⟩
theorem nx_end {a b : Ms} {Γ : Gm} {P : Gm → Prop} {io : Option Nat} {r : FR} (h : Nx a Γ P) (k : ∀ Γ1, P Γ1 → endF io (b Γ1) = r) : endF io (mSq a b Γ) = r := by
  obtain ⟨Γ1, h1, h2⟩ := h
  rw [mSq_, h1, sbind_nx, k Γ1 h2]
end Fx

namespace K01
open PySem PySem.Spec PyProof.Rows L2 Fx
abbrev topS (i : Nat) : Stmt := PySem.Challenge.pw_handonwall_k01_names_and_darts.main.body.getD i (.Pass ⟨0, 0, 0, 0⟩)
/-! ### is_name -/
abbrev s_is_name : Stmt := topS 3
abbrev N_is_name : List Str := ["value", "sign"]
theorem sc_is_name : FnScope N_is_name ["value"] (defScope s_is_name) := ⟨by rfl, by rfl, by rfl, by decide +kernel, by rfl, by decide +kernel, by decide +kernel⟩
def b_is_name : Ms := mRet (mRv (mAndV (mBlt isiF (mCons (mV 0) (mCons (mC (.raw (.ty "str"))) mNil))) (mAndV (mB (mChain leD leD (mC (.int 1)) (mBlt lenF (mCons (mV 0)
    mNil)) (mC (.int 8)))) (mBlt allF (mCons (mFz (mLc ([1]) (mIt (mV 0)) (gN 1) mYes (mB (mCmp inD (mV 1) (mC (.str "abcdefghijklmnopqrstuvwxyz"))))))
    mNil)))))
def m_is_name : List D → FR := bodyF 1 2 none b_is_name
theorem G_is_name {P : Program} {w : World} {K : PySem.W.Frag} {mg : Str → Option Value} {base : Heap} {f : Addr} {fd : FuncData} (F : Fun K "is_name" "is_name" s_is_name f fd)
    (b_all : mg "all" = none)
    (b_len : mg "len" = none)
    (b_isinstance : mg "isinstance" = none)
    (b_str : mg "str" = none)
    {t_LETTERS : _} (g_LETTERS : mg "LETTERS" = some (.str "abcdefghijklmnopqrstuvwxyz" t_LETTERS))
    {t_MAX_LENGTH : _} (g_MAX_LENGTH : mg "MAX_LENGTH" = some (.int 8 t_MAX_LENGTH)) : FnG P w K mg base 1 f fd ["value"] (spF K 1 none m_is_name) :=
  fng_mirror (N := N_is_name) (body := b_is_name) F sc_is_name rfl fun cd A outer s H E hr hg tk hp => by
  have nd := sc_is_name.nd
  have hu64 := hu64_of hr
  have hu65 := hu65_of hr
  exact fss_one (fs_ret (fn_ex (fx_and (fx_blt call_isiF (by rfl) b_isinstance bb_isinstance (fa_cons (fx_v 0) (fa_cons (fx_ty (by rfl) b_str bb_str)
    fa_nil))) (fx_and (fx_chain op_leF op_leF fx_int (fx_blt call_lenF (by rfl) b_len bb_len (fa_cons (fx_v 0) fa_nil)) (fx_glob (v := .int 8) (by rfl)
    g_MAX_LENGTH ⟨_, rfl⟩ (fun _ => .int _))) (fx_one (fx_blt (call_allF rfl) (by rfl) b_all bb_all (fa_cons (fx_fz (fn_lc (own := [("sign", 1)]) rfl nd
    (fi_any (fx_v 0)) (blkOk_by (N := N_is_name) (sc := defScope s_is_name) (by decide +kernel)) (fun _ _ _ _ _ => fg_name (i := 1) nd rfl (.inl rfl)
    (.inr rfl)) (fun _ _ _ _ _ => fts_nil) (fun _ _ _ _ _ => fx_cmp (op_inF hu65) (fx_v 1) (fx_glob (v := .str "abcdefghijklmnopqrstuvwxyz") (by rfl)
    g_LETTERS ⟨_, rfl⟩ (fun _ => .str _)) (by rfl)) (by decide))) fa_nil)))))))
/-! ### is_integer -/
abbrev s_is_integer : Stmt := topS 4
abbrev N_is_integer : List Str := ["value", "low", "high"]
theorem sc_is_integer : FnScope N_is_integer ["value", "low", "high"] (defScope s_is_integer) := ⟨by rfl, by rfl, by rfl, by decide +kernel, by rfl, by decide +kernel, by decide +kernel⟩
def b_is_integer : Ms := mRet (mRv (mAndV (mBlt isiF (mCons (mV 0) (mCons (mC (.raw (.ty "int"))) mNil))) (mAndV (mNotV (mBlt isiF (mCons (mV 0) (mCons (mC (.raw (.ty
    "bool"))) mNil)))) (mB (mChain leD leD (mV 1) (mV 0) (mV 2))))))
def m_is_integer : List D → FR := bodyF 3 3 none b_is_integer
theorem G_is_integer {P : Program} {w : World} {K : PySem.W.Frag} {mg : Str → Option Value} {base : Heap} {f : Addr} {fd : FuncData} (F : Fun K "is_integer" "is_integer" s_is_integer f fd)
    (b_isinstance : mg "isinstance" = none)
    (b_bool : mg "bool" = none)
    (b_int : mg "int" = none) : FnG P w K mg base 1 f fd ["value", "low", "high"] (spF K 3 none m_is_integer) :=
  fng_mirror (N := N_is_integer) (body := b_is_integer) F sc_is_integer rfl fun cd A outer s H E hr hg tk hp => by
  have nd := sc_is_integer.nd
  have hu64 := hu64_of hr
  have hu65 := hu65_of hr
  exact fss_one (fs_ret (fn_ex (fx_and (fx_blt call_isiF (by rfl) b_isinstance bb_isinstance (fa_cons (fx_v 0) (fa_cons (fx_ty (by rfl) b_int bb_int)
    fa_nil))) (fx_and (fx_not (fx_blt call_isiF (by rfl) b_isinstance bb_isinstance (fa_cons (fx_v 0) (fa_cons (fx_ty (by rfl) b_bool bb_bool)
    fa_nil)))) (fx_one (fx_chain op_leF op_leF (fx_v 1) (fx_v 0) (fx_v 2)))))))
/-! ### is_dart -/
abbrev s_is_dart : Stmt := topS 5
abbrev N_is_dart : List Str := ["value"]
theorem sc_is_dart : FnScope N_is_dart ["value"] (defScope s_is_dart) := ⟨by rfl, by rfl, by rfl, by decide +kernel, by rfl, by decide +kernel, by decide +kernel⟩
def b_is_dart : Ms := mRet (mRv (mAndV (mBlt isiF (mCons (mV 0) (mCons (mC (.raw (.ty "tuple"))) mNil))) (mAndV (mB (mCmp eqD (mBlt lenF (mCons (mV 0) mNil)) (mC (.int
    2)))) (mAndV (mFz (mCall 1 none m_is_name [] (mCons (mOp2 ixD (mV 0) (mC (.int 0))) mNil))) (mFz (mCall 3 none m_is_integer [] (mCons (mOp2 ixD (mV
    0) (mC (.int 1))) (mCons (mC (.int 0)) (mCons (mC (.int 1)) mNil)))))))))
def m_is_dart : List D → FR := bodyF 1 1 none b_is_dart
theorem G_is_dart {P : Program} {w : World} {K : PySem.W.Frag} {mg : Str → Option Value} {base : Heap} {f : Addr} {fd : FuncData} (F : Fun K "is_dart" "is_dart" s_is_dart f fd)
    {f_is_integer : Addr} {fd_is_integer : FuncData} (G_is_integer : FnG P w K mg base 1 f_is_integer fd_is_integer ["value", "low", "high"] (spF K 3 none m_is_integer)) (g_is_integer : mg "is_integer" = some (.ref f_is_integer)) (k_is_integer : PySem.W.keepIn K (.ref f_is_integer) = true) (B_is_integer : Binds K fd_is_integer ["value", "low", "high"] [])
    {f_is_name : Addr} {fd_is_name : FuncData} (G_is_name : FnG P w K mg base 1 f_is_name fd_is_name ["value"] (spF K 1 none m_is_name)) (g_is_name : mg "is_name" = some (.ref f_is_name)) (k_is_name : PySem.W.keepIn K (.ref f_is_name) = true) (B_is_name : Binds K fd_is_name ["value"] [])
    (b_len : mg "len" = none)
    (b_isinstance : mg "isinstance" = none)
    (b_tuple : mg "tuple" = none) : FnG P w K mg base 2 f fd ["value"] (spF K 1 none m_is_dart) :=
  fng_mirror (N := N_is_dart) (body := b_is_dart) F sc_is_dart rfl fun cd A outer s H E hr hg tk hp => by
  have nd := sc_is_dart.nd
  have hu64 := hu64_of hr
  have hu65 := hu65_of hr
  exact fss_one (fs_ret (fn_ex (fx_and (fx_blt call_isiF (by rfl) b_isinstance bb_isinstance (fa_cons (fx_v 0) (fa_cons (fx_ty (by rfl) b_tuple bb_tuple)
    fa_nil))) (fx_and (fx_cmp (op_eqF hu64) (fx_blt call_lenF (by rfl) b_len bb_len (fa_cons (fx_v 0) fa_nil)) fx_int (nomark _)) (fx_and (fx_fz
    (fn_call (G_is_name.mono (by decide)) hr hg (by rfl) g_is_name k_is_name B_is_name .nil (fun _ => .nil) tk (fa_cons (fx_ix (fx_v 0) fx_int (fun _ _
    => rfl)) fa_nil))) (fx_one (fx_fz (fn_call (G_is_integer.mono (by decide)) hr hg (by rfl) g_is_integer k_is_integer B_is_integer .nil (fun _ =>
    .nil) tk (fa_cons (fx_ix (fx_v 0) fx_int (fun _ _ => rfl)) (fa_cons fx_int (fa_cons fx_int fa_nil)))))))))))
/-! ### opposite -/
abbrev s_opposite : Stmt := topS 6
abbrev N_opposite : List Str := ["dart", "edge", "side"]
theorem sc_opposite : FnScope N_opposite ["dart"] (defScope s_opposite) := ⟨by rfl, by rfl, by rfl, by decide +kernel, by rfl, by decide +kernel, by decide +kernel⟩
def b_opposite : Ms := mSq (mAsg (gT 2 (gNC (gN 1) (gNC (gN 2) gN0))) (mV 0)) (mRet (mRv (mTup (mCons (mV 1) (mCons (mOp2 subD (mC (.int 1)) (mV 2)) mNil)))))
def m_opposite : List D → FR := bodyF 1 3 none b_opposite
theorem G_opposite {P : Program} {w : World} {K : PySem.W.Frag} {mg : Str → Option Value} {base : Heap} {f : Addr} {fd : FuncData} (F : Fun K "opposite" "opposite" s_opposite f fd)
     : FnG P w K mg base 1 f fd ["dart"] (spF K 1 none m_opposite) :=
  fng_mirror (N := N_opposite) (body := b_opposite) F sc_opposite rfl fun cd A outer s H E hr hg tk hp => by
  have nd := sc_opposite.nd
  have hu64 := hu64_of hr
  have hu65 := hu65_of hr
  exact fss_cons (fs_asg (fx_v 0) (fg_tup (n := 2) rfl (fgs_cons (fg_name (i := 1) nd rfl (.inl rfl)) (fgs_cons (fg_name (i := 2) nd rfl (.inl rfl))
    fgs_nil)))) (fss_one (fs_ret (fn_ex (fx_tup (fa_cons (fx_v 1) (fa_cons (fx_sub fx_int (fx_v 2)) fa_nil))))))
/-! ### _law_source -/
abbrev s__law_source : Stmt := topS 8
abbrev N__law_source : List Str := ["_law_script", "_law_k", "_law_cell", "_law_size", "_law_mixed"]
theorem sc__law_source : FnScope N__law_source ["_law_script", "_law_k"] (defScope s__law_source) := ⟨by rfl, by rfl, by rfl, by decide +kernel, by rfl, by decide +kernel, by decide +kernel⟩
def b__law_source : Ms := mSq (mSet 2 (mRv (mOp2 addD (mOp2 mulD (mC (.int 7)) (mBlt sumF (mCons (mSl (mV 0) mO0 (mO1 (mC (.int 63)))) mNil))) (mV 1)))) (mSq (mIfS (mCmp ltD
    (mV 1) (mBlt lenF (mCons (mV 0) mNil))) (mSet 2 (mRv (mOp2 ixD (mV 0) (mV 1)))) mNx) (mSq (mSet 3 (mRv (mBlt absF (mCons (mV 2) mNil)))) (mSq (mSet
    4 (mRv (mOp2 modD (mOp2 mulD (mOp2 addD (mOp2 addD (mOp2 addD (mOp2 modD (mV 3) (mC (.int 2147483629))) (mOp2 mulD (mOp2 mulD (mC (.int 7919)) (mV
    1)) (mV 1))) (mOp2 mulD (mC (.int 31)) (mV 1))) (mC (.int 17))) (mC (.int 48271))) (mC (.int 2147483647))))) (mRet (mLst (mCons (mOp2 mulD (mV 3)
    (mBlt intF (mCons (mB (mCmp geD (mV 3) (mOp2 powD (mC (.int 10)) (mC (.int 18))))) mNil))) (mCons (mOp2 modD (mOp2 mulD (mV 4) (mV 4)) (mC (.int
    2147483629))) mNil)))))))
def m__law_source : List D → FR := bodyF 2 5 none b__law_source
theorem G__law_source {P : Program} {w : World} {K : PySem.W.Frag} {mg : Str → Option Value} {base : Heap} {f : Addr} {fd : FuncData} (F : Fun K "_law_source" "_law_source" s__law_source f fd)
    (b_sum : mg "sum" = none)
    (b_len : mg "len" = none)
    (b_abs : mg "abs" = none)
    (b_int : mg "int" = none) : FnG P w K mg base 1 f fd ["_law_script", "_law_k"] (spF K 2 none m__law_source) :=
  fng_mirror (N := N__law_source) (body := b__law_source) F sc__law_source rfl fun cd A outer s H E hr hg tk hp => by
  have nd := sc__law_source.nd
  have hu64 := hu64_of hr
  have hu65 := hu65_of hr
  exact fss_cons (fs_set (i := 2) nd rfl (.inl rfl) (fn_ex (fx_add (fx_mul fx_int (fx_blt (call_sumF rfl) (by rfl) b_sum bb_sum (fa_cons (fx_sl (fx_v 0)
    fo_none (fo_some fx_int)) fa_nil))) (fx_v 1)))) (fss_cons (fs_if (fq_cmp op_ltF (fx_v 1) (fx_blt call_lenF (by rfl) b_len bb_len (fa_cons (fx_v 0)
    fa_nil)) (nomark _)) (fss_one (fs_set (i := 2) nd rfl (.inl rfl) (fn_ex (fx_ix (fx_v 0) (fx_v 1) (fun _ _ => rfl))))) fss_nil) (fss_cons (fs_set (i
    := 3) nd rfl (.inl rfl) (fn_ex (fx_blt call_absF (by rfl) b_abs bb_abs (fa_cons (fx_v 2) fa_nil)))) (fss_cons (fs_set (i := 4) nd rfl (.inl rfl)
    (fn_ex (fx_mod (fx_mul (fx_add (fx_add (fx_add (fx_mod (fx_v 3) fx_int) (fx_mul (fx_mul fx_int (fx_v 1)) (fx_v 1))) (fx_mul fx_int (fx_v 1)))
    fx_int) fx_int) fx_int))) (fss_one (fs_ret (fn_lst (fa_cons (fx_mul (fx_v 3) (fx_bty call_intF (by rfl) b_int bb_int (fa_cons (fx_cmp op_geF (fx_v
    3) (fx_pow fx_int fx_int) (nomark _)) fa_nil))) (fa_cons (fx_mod (fx_mul (fx_v 4) (fx_v 4)) fx_int) fa_nil))))))))
/-! ### _law_draw -/
abbrev s__law_draw : Stmt := topS 9
abbrev N__law_draw : List Str := ["_law_source_here", "_law_many", "_law_result"]
theorem sc__law_draw : FnScope N__law_draw ["_law_source_here", "_law_many"] (defScope s__law_draw) := ⟨by rfl, by rfl, by rfl, by decide +kernel, by rfl, by decide +kernel, by decide +kernel⟩
def b__law_draw : Ms := mSq (mIfS (mCmp gtD (mOp2 ixD (mV 0) (mC (.int 0))) (mC (.int 0))) (mSq (mSet 2 (mRv (mOp2 modD (mOp2 ixD (mV 0) (mC (.int 0))) (mV 1)))) (mSq (mPutL
    0 (mC (.int 0)) (mOp2 divD (mOp2 ixD (mV 0) (mC (.int 0))) (mV 1))) (mRet (mMv (mV 2))))) mNx) (mSq (mPutL 0 (mC (.int 1)) (mOp2 modD (mOp2 addD
    (mOp2 mulD (mOp2 ixD (mV 0) (mC (.int 1))) (mC (.int 48271))) (mC (.int 11))) (mC (.int 2147483647)))) (mRet (mRv (mOp2 modD (mOp2 divD (mOp2 modD
    (mOp2 mulD (mOp2 ixD (mV 0) (mC (.int 1))) (mOp2 ixD (mV 0) (mC (.int 1)))) (mC (.int 2147483629))) (mC (.int 16))) (mV 1)))))
def m__law_draw : List D → FR := bodyF 2 3 (some 0) b__law_draw
theorem G__law_draw {P : Program} {w : World} {K : PySem.W.Frag} {mg : Str → Option Value} {base : Heap} {f : Addr} {fd : FuncData} (F : Fun K "_law_draw" "_law_draw" s__law_draw f fd)
     : FnG P w K mg base 1 f fd ["_law_source_here", "_law_many"] (spF K 2 (some 0) m__law_draw) :=
  fng_mirror (N := N__law_draw) (body := b__law_draw) F sc__law_draw rfl fun cd A outer s H E hr hg tk hp => by
  have nd := sc__law_draw.nd
  have hu64 := hu64_of hr
  have hu65 := hu65_of hr
  exact fss_cons (fs_if (fq_cmp op_gtF (fx_ix (fx_v 0) fx_int (fun _ _ => rfl)) fx_int (nomark _)) (fss_cons (fs_set (i := 2) nd rfl (.inl rfl) (fn_ex (fx_mod
    (fx_ix (fx_v 0) fx_int (fun _ _ => rfl)) (fx_v 1)))) (fss_cons (fs_putL (j := 0) (fx_div (fx_ix (fx_v 0) fx_int (fun _ _ => rfl)) (fx_v 1)) fx_int)
    (fss_one (fs_ret (fn_mv (fx_v 2)))))) fss_nil) (fss_cons (fs_putL (j := 0) (fx_mod (fx_add (fx_mul (fx_ix (fx_v 0) fx_int (fun _ _ => rfl)) fx_int)
    fx_int) fx_int) fx_int) (fss_one (fs_ret (fn_ex (fx_mod (fx_div (fx_mod (fx_mul (fx_ix (fx_v 0) fx_int (fun _ _ => rfl)) (fx_ix (fx_v 0) fx_int (fun
    _ _ => rfl))) fx_int) fx_int) (fx_v 1))))))
/-! ### _law_text -/
abbrev s__law_text : Stmt := topS 10
abbrev N__law_text : List Str := ["_law_source_here", "_law_signs", "_law_result", "_law_turn", "_law_at"]
theorem sc__law_text : FnScope N__law_text ["_law_source_here"] (defScope s__law_text) := ⟨by rfl, by rfl, by rfl, by decide +kernel, by rfl, by decide +kernel, by decide +kernel⟩
def b__law_text : Ms := mSq (mSet 1 (mRv (mC (.str "abcdefghijklmnopqrstuvwxyz")))) (mSq (mSet 2 (mRv (mC (.str "")))) (mSq (mFor (mRg1 (mCons (mFz (mCall 2 (some 0)
    m__law_draw [] (mCons (mV 0) (mCons (mC (.int 11)) mNil)))) mNil)) (gN 3) (mSet 2 (mRv (mOp2 addD (mV 2) (mOp2 ixD (mV 1) (mFz (mCall 2 (some 0)
    m__law_draw [] (mCons (mV 0) (mCons (mC (.int 26)) mNil))))))))) (mSq (mIfS (mCmp eqD (mFz (mCall 2 (some 0) m__law_draw [] (mCons (mV 0) (mCons (mC
    (.int 4)) mNil)))) (mC (.int 0))) (mSq (mSet 4 (mCall 2 (some 0) m__law_draw [] (mCons (mV 0) (mCons (mOp2 addD (mBlt lenF (mCons (mV 2) mNil)) (mC
    (.int 1))) mNil)))) (mSet 2 (mRv (mOp2 addD (mOp2 addD (mSl (mV 2) mO0 (mO1 (mV 4))) (mOp2 ixD (mC (.str "AZ09 _.-\n{")) (mFz (mCall 2 (some 0)
    m__law_draw [] (mCons (mV 0) (mCons (mC (.int 10)) mNil)))))) (mSl (mV 2) (mO1 (mV 4)) mO0))))) mNx) (mRet (mMv (mV 2))))))
def m__law_text : List D → FR := bodyF 1 5 (some 0) b__law_text
theorem G__law_text {P : Program} {w : World} {K : PySem.W.Frag} {mg : Str → Option Value} {base : Heap} {f : Addr} {fd : FuncData} (F : Fun K "_law_text" "_law_text" s__law_text f fd)
    {f__law_draw : Addr} {fd__law_draw : FuncData} (G__law_draw : FnG P w K mg base 1 f__law_draw fd__law_draw ["_law_source_here", "_law_many"] (spF K 2 (some 0) m__law_draw)) (g__law_draw : mg "_law_draw" = some (.ref f__law_draw)) (k__law_draw : PySem.W.keepIn K (.ref f__law_draw) = true) (B__law_draw : Binds K fd__law_draw ["_law_source_here", "_law_many"] [])
    (b_range : mg "range" = none)
    (b_len : mg "len" = none) : FnG P w K mg base 2 f fd ["_law_source_here"] (spF K 1 (some 0) m__law_text) :=
  fng_mirror (N := N__law_text) (body := b__law_text) F sc__law_text rfl fun cd A outer s H E hr hg tk hp => by
  have nd := sc__law_text.nd
  have hu64 := hu64_of hr
  have hu65 := hu65_of hr
  exact fss_cons (fs_set (i := 1) nd rfl (.inl rfl) (fn_ex fx_str)) (fss_cons (fs_set (i := 2) nd rfl (.inl rfl) (fn_ex fx_str)) (fss_cons (fs_for hp rfl
    (fi_range1 (by rfl) b_range (fa_cons (fx_fz (fn_call (G__law_draw.mono (by decide)) hr hg (by rfl) g__law_draw k__law_draw B__law_draw .nil (fun _
    => .nil) tk (fa_cons (fx_v 0) (fa_cons fx_int fa_nil)))) fa_nil)) (fg_name (i := 3) nd rfl (.inl rfl)) (fss_one (fs_set (i := 2) nd rfl (.inl rfl)
    (fn_ex (fx_add (fx_v 2) (fx_ix (fx_v 1) (fx_fz (fn_call (G__law_draw.mono (by decide)) hr hg (by rfl) g__law_draw k__law_draw B__law_draw .nil (fun
    _ => .nil) tk (fa_cons (fx_v 0) (fa_cons fx_int fa_nil)))) (fun _ _ => rfl))))))) (fss_cons (fs_if (fq_cmp (op_eqF hu64) (fx_fz (fn_call
    (G__law_draw.mono (by decide)) hr hg (by rfl) g__law_draw k__law_draw B__law_draw .nil (fun _ => .nil) tk (fa_cons (fx_v 0) (fa_cons fx_int
    fa_nil)))) fx_int (nomark _)) (fss_cons (fs_set (i := 4) nd rfl (.inl rfl) (fn_call (G__law_draw.mono (by decide)) hr hg (by rfl) g__law_draw
    k__law_draw B__law_draw .nil (fun _ => .nil) tk (fa_cons (fx_v 0) (fa_cons (fx_add (fx_blt call_lenF (by rfl) b_len bb_len (fa_cons (fx_v 2)
    fa_nil)) fx_int) fa_nil)))) (fss_one (fs_set (i := 2) nd rfl (.inl rfl) (fn_ex (fx_add (fx_add (fx_sl (fx_v 2) fo_none (fo_some (fx_v 4))) (fx_ix
    fx_str (fx_fz (fn_call (G__law_draw.mono (by decide)) hr hg (by rfl) g__law_draw k__law_draw B__law_draw .nil (fun _ => .nil) tk (fa_cons (fx_v 0)
    (fa_cons fx_int fa_nil)))) (fun _ _ => rfl))) (fx_sl (fx_v 2) (fo_some (fx_v 4)) fo_none)))))) fss_nil) (fss_one (fs_ret (fn_mv (fx_v 2)))))))
/-! ### _law_is_name -/
abbrev s__law_is_name : Stmt := topS 11
abbrev N__law_is_name : List Str := ["_law_value", "_law_sign"]
theorem sc__law_is_name : FnScope N__law_is_name ["_law_value"] (defScope s__law_is_name) := ⟨by rfl, by rfl, by rfl, by decide +kernel, by rfl, by decide +kernel, by decide +kernel⟩
def b__law_is_name : Ms := mSq (mIfS (mOr (mNot (mTst (mBlt isiF (mCons (mV 0) (mCons (mC (.raw (.ty "str"))) mNil))))) (mNot (mChain leD leD (mC (.int 1)) (mBlt lenF (mCons (mV
    0) mNil)) (mC (.int 8))))) (mRet (mRv (mC (.bl false)))) mNx) (mRet (mRv (mB (mCmp eqD (mFz (mLc ([1]) (mIt (mV 0)) (gN 1) (mNot (mChain leD leD (mC
    (.str "a")) (mV 1) (mC (.str "z")))) (mV 1))) (mFz (mLst mNil))))))
def m__law_is_name : List D → FR := bodyF 1 2 none b__law_is_name
theorem G__law_is_name {P : Program} {w : World} {K : PySem.W.Frag} {mg : Str → Option Value} {base : Heap} {f : Addr} {fd : FuncData} (F : Fun K "_law_is_name" "_law_is_name" s__law_is_name f fd)
    (b_len : mg "len" = none)
    (b_isinstance : mg "isinstance" = none)
    (b_str : mg "str" = none) : FnG P w K mg base 1 f fd ["_law_value"] (spF K 1 none m__law_is_name) :=
  fng_mirror (N := N__law_is_name) (body := b__law_is_name) F sc__law_is_name rfl fun cd A outer s H E hr hg tk hp => by
  have nd := sc__law_is_name.nd
  have hu64 := hu64_of hr
  have hu65 := hu65_of hr
  exact fss_cons (fs_if (fq_w (fw_or (fq_not (fq_val (fx_blt call_isiF (by rfl) b_isinstance bb_isinstance (fa_cons (fx_v 0) (fa_cons (fx_ty (by rfl) b_str
    bb_str) fa_nil))))) (fw_or1 (fq_not (fq_chain op_leF op_leF fx_int (fx_blt call_lenF (by rfl) b_len bb_len (fa_cons (fx_v 0) fa_nil)) fx_int)))))
    (fss_one (fs_ret (fn_ex fx_bl))) fss_nil) (fss_one (fs_ret (fn_ex (fx_cmp (op_eqF hu64) (fx_fz (fn_lc (own := [("_law_sign", 1)]) rfl nd (fi_any
    (fx_v 0)) (blkOk_by (N := N__law_is_name) (sc := defScope s__law_is_name) (by decide +kernel)) (fun _ _ _ _ _ => fg_name (i := 1) nd rfl (.inl rfl)
    (.inr rfl)) (fun _ _ _ _ _ => fts_one (fq_not (fq_chain op_leF op_leF fx_str (fx_v 1) fx_str))) (fun _ _ _ _ _ => fx_v 1) (by decide))) (fx_fz
    (fn_lst fa_nil)) (nomark _)))))
/-! ### _law_is_dart -/
abbrev s__law_is_dart : Stmt := topS 12
abbrev N__law_is_dart : List Str := ["_law_value"]
theorem sc__law_is_dart : FnScope N__law_is_dart ["_law_value"] (defScope s__law_is_dart) := ⟨by rfl, by rfl, by rfl, by decide +kernel, by rfl, by decide +kernel, by decide +kernel⟩
def b__law_is_dart : Ms := mSq (mIfS (mOr (mNot (mTst (mBlt isiF (mCons (mV 0) (mCons (mC (.raw (.ty "tuple"))) mNil))))) (mOr (mCmp neD (mBlt lenF (mCons (mV 0) mNil)) (mC
    (.int 2))) (mNot (mTst (mFz (mCall 1 none m__law_is_name [] (mCons (mOp2 ixD (mV 0) (mC (.int 0))) mNil))))))) (mRet (mRv (mC (.bl false)))) mNx)
    (mRet (mRv (mAndV (mBlt isiF (mCons (mOp2 ixD (mV 0) (mC (.int 1))) (mCons (mC (.raw (.ty "int"))) mNil))) (mAndV (mNotV (mBlt isiF (mCons (mOp2 ixD
    (mV 0) (mC (.int 1))) (mCons (mC (.raw (.ty "bool"))) mNil)))) (mB (mCmp inD (mOp2 ixD (mV 0) (mC (.int 1))) (mTup (mCons (mC (.int 0)) (mCons (mC
    (.int 1)) mNil)))))))))
def m__law_is_dart : List D → FR := bodyF 1 1 none b__law_is_dart
theorem G__law_is_dart {P : Program} {w : World} {K : PySem.W.Frag} {mg : Str → Option Value} {base : Heap} {f : Addr} {fd : FuncData} (F : Fun K "_law_is_dart" "_law_is_dart" s__law_is_dart f fd)
    {f__law_is_name : Addr} {fd__law_is_name : FuncData} (G__law_is_name : FnG P w K mg base 1 f__law_is_name fd__law_is_name ["_law_value"] (spF K 1 none m__law_is_name)) (g__law_is_name : mg "_law_is_name" = some (.ref f__law_is_name)) (k__law_is_name : PySem.W.keepIn K (.ref f__law_is_name) = true) (B__law_is_name : Binds K fd__law_is_name ["_law_value"] [])
    (b_len : mg "len" = none)
    (b_isinstance : mg "isinstance" = none)
    (b_tuple : mg "tuple" = none)
    (b_bool : mg "bool" = none)
    (b_int : mg "int" = none) : FnG P w K mg base 2 f fd ["_law_value"] (spF K 1 none m__law_is_dart) :=
  fng_mirror (N := N__law_is_dart) (body := b__law_is_dart) F sc__law_is_dart rfl fun cd A outer s H E hr hg tk hp => by
  have nd := sc__law_is_dart.nd
  have hu64 := hu64_of hr
  have hu65 := hu65_of hr
  exact fss_cons (fs_if (fq_w (fw_or (fq_not (fq_val (fx_blt call_isiF (by rfl) b_isinstance bb_isinstance (fa_cons (fx_v 0) (fa_cons (fx_ty (by rfl) b_tuple
    bb_tuple) fa_nil))))) (fw_or (fq_cmp (op_neF hu64) (fx_blt call_lenF (by rfl) b_len bb_len (fa_cons (fx_v 0) fa_nil)) fx_int (nomark _)) (fw_or1
    (fq_not (fq_val (fx_fz (fn_call (G__law_is_name.mono (by decide)) hr hg (by rfl) g__law_is_name k__law_is_name B__law_is_name .nil (fun _ => .nil)
    tk (fa_cons (fx_ix (fx_v 0) fx_int (fun _ _ => rfl)) fa_nil))))))))) (fss_one (fs_ret (fn_ex fx_bl))) fss_nil) (fss_one (fs_ret (fn_ex (fx_and
    (fx_blt call_isiF (by rfl) b_isinstance bb_isinstance (fa_cons (fx_ix (fx_v 0) fx_int (fun _ _ => rfl)) (fa_cons (fx_ty (by rfl) b_int bb_int)
    fa_nil))) (fx_and (fx_not (fx_blt call_isiF (by rfl) b_isinstance bb_isinstance (fa_cons (fx_ix (fx_v 0) fx_int (fun _ _ => rfl)) (fa_cons (fx_ty
    (by rfl) b_bool bb_bool) fa_nil)))) (fx_one (fx_cmp (op_inF hu65) (fx_ix (fx_v 0) fx_int (fun _ _ => rfl)) (fx_tup (fa_cons fx_int (fa_cons fx_int
    fa_nil))) (by rfl))))))))
/-! ### _law_things -/
abbrev s__law_things : Stmt := topS 13
abbrev N__law_things : List Str := ["_law_source_here", "_law_text_here", "_law_side", "_law_some"]
theorem sc__law_things : FnScope N__law_things ["_law_source_here", "_law_text_here"] (defScope s__law_things) := ⟨by rfl, by rfl, by rfl, by decide +kernel, by rfl, by decide +kernel, by decide +kernel⟩
def b__law_things : Ms := mSq (mSet 2 (mCall 2 (some 0) m__law_draw [] (mCons (mV 0) (mCons (mC (.int 2)) mNil)))) (mSq (mSet 3 (mLst (mCons (mV 1) (mCons (mTup (mCons (mV 1)
    (mCons (mV 2) mNil))) (mCons (mTup (mCons (mV 1) (mCons (mV 2) (mCons (mC (.int 0)) mNil)))) (mCons (mTup (mCons (mV 1) mNil)) (mCons (mFz (mLst
    (mCons (mV 1) (mCons (mV 2) mNil)))) (mCons (mTup (mCons (mV 1) (mCons (mC (.int 2)) mNil))) (mCons (mTup (mCons (mV 1) (mCons (mOp1 negD (mC (.int
    1))) mNil))) (mCons (mTup (mCons (mV 1) (mCons (mC (.bl true)) mNil))) mNil)))))))))) (mSq (mSet 3 (mRv (mOp2 addD (mV 3) (mFz (mLst (mCons (mTup
    (mCons (mV 1) (mCons (mC (.bl false)) mNil))) (mCons (mTup (mCons (mV 1) (mCons (mC .non) mNil))) (mCons (mTup (mCons (mV 1) (mCons (mBlt strF
    (mCons (mV 2) mNil)) mNil))) (mCons (mTup (mCons (mTup (mCons (mV 1) (mCons (mV 2) mNil))) (mCons (mC (.int 0)) mNil))) (mCons (mTup (mCons (mV 2)
    (mCons (mV 1) mNil))) (mCons (mFz (mDisp ((mV 1, mV 2) :: []))) mNil))))))))))) (mRet (mRv (mOp2 addD (mV 3) (mFz (mLst (mCons (mC .non) (mCons (mC
    (.int 5)) (mCons (mC (.bl true)) (mCons (mC (.str "")) (mCons (mTup mNil) (mCons (mFz (mLst mNil)) (mCons (mTup (mCons (mC (.int 5)) (mCons (mC
    (.int 0)) mNil))) (mCons (mTup (mCons (mFz (mLst (mCons (mV 1) mNil))) (mCons (mC (.int 0)) mNil))) (mCons (mOp2 powD (mC (.int 10)) (mC (.int 20)))
    mNil))))))))))))))))
def m__law_things : List D → FR := bodyF 2 4 (some 0) b__law_things
theorem G__law_things {P : Program} {w : World} {K : PySem.W.Frag} {mg : Str → Option Value} {base : Heap} {f : Addr} {fd : FuncData} (F : Fun K "_law_things" "_law_things" s__law_things f fd)
    {f__law_draw : Addr} {fd__law_draw : FuncData} (G__law_draw : FnG P w K mg base 1 f__law_draw fd__law_draw ["_law_source_here", "_law_many"] (spF K 2 (some 0) m__law_draw)) (g__law_draw : mg "_law_draw" = some (.ref f__law_draw)) (k__law_draw : PySem.W.keepIn K (.ref f__law_draw) = true) (B__law_draw : Binds K fd__law_draw ["_law_source_here", "_law_many"] [])
    (b_str : mg "str" = none) : FnG P w K mg base 2 f fd ["_law_source_here", "_law_text_here"] (spF K 2 (some 0) m__law_things) :=
  fng_mirror (N := N__law_things) (body := b__law_things) F sc__law_things rfl fun cd A outer s H E hr hg tk hp => by
  have nd := sc__law_things.nd
  have hu64 := hu64_of hr
  have hu65 := hu65_of hr
  exact fss_cons (fs_set (i := 2) nd rfl (.inl rfl) (fn_call (G__law_draw.mono (by decide)) hr hg (by rfl) g__law_draw k__law_draw B__law_draw .nil (fun _ =>
    .nil) tk (fa_cons (fx_v 0) (fa_cons fx_int fa_nil)))) (fss_cons (fs_set (i := 3) nd rfl (.inl rfl) (fn_lst (fa_cons (fx_v 1) (fa_cons (fx_tup
    (fa_cons (fx_v 1) (fa_cons (fx_v 2) fa_nil))) (fa_cons (fx_tup (fa_cons (fx_v 1) (fa_cons (fx_v 2) (fa_cons fx_int fa_nil)))) (fa_cons (fx_tup
    (fa_cons (fx_v 1) fa_nil)) (fa_cons (fx_fz (fn_lst (fa_cons (fx_v 1) (fa_cons (fx_v 2) fa_nil)))) (fa_cons (fx_tup (fa_cons (fx_v 1) (fa_cons fx_int
    fa_nil))) (fa_cons (fx_tup (fa_cons (fx_v 1) (fa_cons (fx_neg fx_int) fa_nil))) (fa_cons (fx_tup (fa_cons (fx_v 1) (fa_cons fx_bl fa_nil)))
    fa_nil)))))))))) (fss_cons (fs_set (i := 3) nd rfl (.inl rfl) (fn_ex (fx_add (fx_v 3) (fx_fz (fn_lst (fa_cons (fx_tup (fa_cons (fx_v 1) (fa_cons
    fx_bl fa_nil))) (fa_cons (fx_tup (fa_cons (fx_v 1) (fa_cons fx_non fa_nil))) (fa_cons (fx_tup (fa_cons (fx_v 1) (fa_cons (fx_bty call_strF (by rfl)
    b_str bb_str (fa_cons (fx_v 2) fa_nil)) fa_nil))) (fa_cons (fx_tup (fa_cons (fx_tup (fa_cons (fx_v 1) (fa_cons (fx_v 2) fa_nil))) (fa_cons fx_int
    fa_nil))) (fa_cons (fx_tup (fa_cons (fx_v 2) (fa_cons (fx_v 1) fa_nil))) (fa_cons (fx_fz (fn_disp (.cons (fx_v 1) (fx_v 2) (.nil))))
    fa_nil))))))))))) (fss_one (fs_ret (fn_ex (fx_add (fx_v 3) (fx_fz (fn_lst (fa_cons fx_non (fa_cons fx_int (fa_cons fx_bl (fa_cons fx_str (fa_cons
    (fx_tup fa_nil) (fa_cons (fx_fz (fn_lst fa_nil)) (fa_cons (fx_tup (fa_cons fx_int (fa_cons fx_int fa_nil))) (fa_cons (fx_tup (fa_cons (fx_fz (fn_lst
    (fa_cons (fx_v 1) fa_nil))) (fa_cons fx_int fa_nil))) (fa_cons (fx_pow fx_int fx_int) fa_nil)))))))))))))))))
/-! ### law -/
abbrev s_law : Stmt := topS 14
abbrev N_law : List Str := ["_law_script", "_law_k", "_law_source_here", "_law_value", "_law_name", "_law_side", "_law_turn"]
theorem sc_law : FnScope N_law ["_law_script"] (defScope s_law) := ⟨by rfl, by rfl, by rfl, by decide +kernel, by rfl, by decide +kernel, by decide +kernel⟩
def b_law : Ms := mSq (mFor (mRg1 (mCons (mBlt max2F (mCons (mC (.int 1)) (mCons (mBlt min2F (mCons (mBlt lenF (mCons (mV 0) mNil)) (mCons (mC (.int 8)) mNil))) mNil)))
    mNil)) (gN 1) (mSq (mSet 2 (mCall 2 none m__law_source [] (mCons (mV 0) (mCons (mV 1) mNil)))) (mSq (mFor (mIt (mOp2 addD (mFz (mCall 2 (some 0)
    m__law_things [] (mCons (mV 2) (mCons (mFz (mCall 1 (some 0) m__law_text [] (mCons (mV 2) mNil))) mNil)))) (mFz (mLc ([6]) (mRg1 (mCons (mC (.int
    6)) mNil)) (gN 6) mYes (mFz (mCall 1 (some 0) m__law_text [] (mCons (mV 2) mNil))))))) (gN 3) (mIfS (mCmp neD (mBlt rprF (mCons (mFz (mLst (mCons
    (mFz (mCall 1 none m_is_name [] (mCons (mV 3) mNil))) (mCons (mFz (mCall 1 none m_is_dart [] (mCons (mV 3) mNil))) mNil)))) mNil)) (mBlt rprF (mCons
    (mFz (mLst (mCons (mFz (mCall 1 none m__law_is_name [] (mCons (mV 3) mNil))) (mCons (mFz (mCall 1 none m__law_is_dart [] (mCons (mV 3) mNil)))
    mNil)))) mNil))) (mRet (mRv (mC (.bl false)))) mNx)) (mFor (mIt (mFz (mLst (mCons (mC (.str "a")) (mCons (mC (.str "z")) (mCons (mC (.str
    "abcdefgh")) (mCons (mC (.str "vertex")) mNil))))))) (gN 4) (mFor (mIt (mFz (mLst (mCons (mC (.int 0)) (mCons (mC (.int 1)) mNil))))) (gN 5) (mIfS
    (mOr (mCmp neD (mFz (mCall 1 none m_opposite [] (mCons (mTup (mCons (mV 4) (mCons (mV 5) mNil))) mNil))) (mTup (mCons (mV 4) (mCons (mOp2 subD (mC
    (.int 1)) (mV 5)) mNil)))) (mCmp neD (mFz (mCall 1 none m_opposite [] (mCons (mFz (mCall 1 none m_opposite [] (mCons (mTup (mCons (mV 4) (mCons (mV
    5) mNil))) mNil))) mNil))) (mTup (mCons (mV 4) (mCons (mV 5) mNil))))) (mRet (mRv (mC (.bl false)))) mNx)))))) (mRet (mRv (mC (.bl true))))
def m_law : List D → FR := bodyF 1 7 none b_law
theorem G_law {P : Program} {w : World} {K : PySem.W.Frag} {mg : Str → Option Value} {base : Heap} {f : Addr} {fd : FuncData} (F : Fun K "law" "law" s_law f fd)
    {f__law_source : Addr} {fd__law_source : FuncData} (G__law_source : FnG P w K mg base 1 f__law_source fd__law_source ["_law_script", "_law_k"] (spF K 2 none m__law_source)) (g__law_source : mg "_law_source" = some (.ref f__law_source)) (k__law_source : PySem.W.keepIn K (.ref f__law_source) = true) (B__law_source : Binds K fd__law_source ["_law_script", "_law_k"] [])
    {f__law_things : Addr} {fd__law_things : FuncData} (G__law_things : FnG P w K mg base 2 f__law_things fd__law_things ["_law_source_here", "_law_text_here"] (spF K 2 (some 0) m__law_things)) (g__law_things : mg "_law_things" = some (.ref f__law_things)) (k__law_things : PySem.W.keepIn K (.ref f__law_things) = true) (B__law_things : Binds K fd__law_things ["_law_source_here", "_law_text_here"] [])
    {f__law_text : Addr} {fd__law_text : FuncData} (G__law_text : FnG P w K mg base 2 f__law_text fd__law_text ["_law_source_here"] (spF K 1 (some 0) m__law_text)) (g__law_text : mg "_law_text" = some (.ref f__law_text)) (k__law_text : PySem.W.keepIn K (.ref f__law_text) = true) (B__law_text : Binds K fd__law_text ["_law_source_here"] [])
    {f_is_dart : Addr} {fd_is_dart : FuncData} (G_is_dart : FnG P w K mg base 2 f_is_dart fd_is_dart ["value"] (spF K 1 none m_is_dart)) (g_is_dart : mg "is_dart" = some (.ref f_is_dart)) (k_is_dart : PySem.W.keepIn K (.ref f_is_dart) = true) (B_is_dart : Binds K fd_is_dart ["value"] [])
    {f_is_name : Addr} {fd_is_name : FuncData} (G_is_name : FnG P w K mg base 1 f_is_name fd_is_name ["value"] (spF K 1 none m_is_name)) (g_is_name : mg "is_name" = some (.ref f_is_name)) (k_is_name : PySem.W.keepIn K (.ref f_is_name) = true) (B_is_name : Binds K fd_is_name ["value"] [])
    {f__law_is_dart : Addr} {fd__law_is_dart : FuncData} (G__law_is_dart : FnG P w K mg base 2 f__law_is_dart fd__law_is_dart ["_law_value"] (spF K 1 none m__law_is_dart)) (g__law_is_dart : mg "_law_is_dart" = some (.ref f__law_is_dart)) (k__law_is_dart : PySem.W.keepIn K (.ref f__law_is_dart) = true) (B__law_is_dart : Binds K fd__law_is_dart ["_law_value"] [])
    {f__law_is_name : Addr} {fd__law_is_name : FuncData} (G__law_is_name : FnG P w K mg base 1 f__law_is_name fd__law_is_name ["_law_value"] (spF K 1 none m__law_is_name)) (g__law_is_name : mg "_law_is_name" = some (.ref f__law_is_name)) (k__law_is_name : PySem.W.keepIn K (.ref f__law_is_name) = true) (B__law_is_name : Binds K fd__law_is_name ["_law_value"] [])
    {f_opposite : Addr} {fd_opposite : FuncData} (G_opposite : FnG P w K mg base 1 f_opposite fd_opposite ["dart"] (spF K 1 none m_opposite)) (g_opposite : mg "opposite" = some (.ref f_opposite)) (k_opposite : PySem.W.keepIn K (.ref f_opposite) = true) (B_opposite : Binds K fd_opposite ["dart"] [])
    (b_range : mg "range" = none)
    (b_max : mg "max" = none)
    (b_min : mg "min" = none)
    (b_len : mg "len" = none)
    (b_repr : mg "repr" = none) : FnG P w K mg base 3 f fd ["_law_script"] (spF K 1 none m_law) :=
  fng_mirror (N := N_law) (body := b_law) F sc_law rfl fun cd A outer s H E hr hg tk hp => by
  have nd := sc_law.nd
  have hu64 := hu64_of hr
  have hu65 := hu65_of hr
  exact fss_cons (fs_for hp rfl (fi_range1 (by rfl) b_range (fa_cons (fx_blt (call_max2F rfl) (by rfl) b_max bb_max (fa_cons fx_int (fa_cons (fx_blt
    (call_min2F rfl) (by rfl) b_min bb_min (fa_cons (fx_blt call_lenF (by rfl) b_len bb_len (fa_cons (fx_v 0) fa_nil)) (fa_cons fx_int fa_nil)))
    fa_nil))) fa_nil)) (fg_name (i := 1) nd rfl (.inl rfl)) (fss_cons (fs_set (i := 2) nd rfl (.inr rfl) (fn_call (G__law_source.mono (by decide)) hr hg
    (by rfl) g__law_source k__law_source B__law_source .nil (fun _ => .nil) tk (fa_cons (fx_v 0) (fa_cons (fx_v 1) fa_nil)))) (fss_cons (fs_for hp rfl
    (fi_any (fx_add (fx_fz (fn_call (G__law_things.mono (by decide)) hr hg (by rfl) g__law_things k__law_things B__law_things .nil (fun _ => .nil) tk
    (fa_cons (fx_v 2) (fa_cons (fx_fz (fn_call (G__law_text.mono (by decide)) hr hg (by rfl) g__law_text k__law_text B__law_text .nil (fun _ => .nil) tk
    (fa_cons (fx_v 2) fa_nil))) fa_nil)))) (fx_fz (fn_lc (own := [("_law_turn", 6)]) rfl nd (fi_range1 (by rfl) b_range (fa_cons fx_int fa_nil))
    (blkOk_by (N := N_law) (sc := defScope s_law) (by decide +kernel)) (fun _ _ _ _ _ => fg_name (i := 6) nd rfl (.inl rfl) (.inr rfl)) (fun _ _ _ _ _
    => fts_nil) (fun _ _ _ _ _ => fx_fz (fn_call (G__law_text.mono (by decide)) hr hg (by rfl) g__law_text k__law_text B__law_text .nil (fun _ => .nil)
    Fx.takes0 (fa_cons (fx_v 2) fa_nil))) (by decide))))) (fg_name (i := 3) nd rfl (.inl rfl)) (fss_one (fs_if (fq_cmp (op_neF hu64) (fx_blt (call_reprF
    hg hu64) (by rfl) b_repr bb_repr (fa_cons (fx_fz (fn_lst (fa_cons (fx_fz (fn_call (G_is_name.mono (by decide)) hr hg (by rfl) g_is_name k_is_name
    B_is_name .nil (fun _ => .nil) tk (fa_cons (fx_v 3) fa_nil))) (fa_cons (fx_fz (fn_call (G_is_dart.mono (by decide)) hr hg (by rfl) g_is_dart
    k_is_dart B_is_dart .nil (fun _ => .nil) tk (fa_cons (fx_v 3) fa_nil))) fa_nil)))) fa_nil)) (fx_blt (call_reprF hg hu64) (by rfl) b_repr bb_repr
    (fa_cons (fx_fz (fn_lst (fa_cons (fx_fz (fn_call (G__law_is_name.mono (by decide)) hr hg (by rfl) g__law_is_name k__law_is_name B__law_is_name .nil
    (fun _ => .nil) tk (fa_cons (fx_v 3) fa_nil))) (fa_cons (fx_fz (fn_call (G__law_is_dart.mono (by decide)) hr hg (by rfl) g__law_is_dart
    k__law_is_dart B__law_is_dart .nil (fun _ => .nil) tk (fa_cons (fx_v 3) fa_nil))) fa_nil)))) fa_nil)) (nomark _)) (fss_one (fs_ret (fn_ex fx_bl)))
    fss_nil))) (fss_one (fs_for hp rfl (fi_any (fx_fz (fn_lst (fa_cons fx_str (fa_cons fx_str (fa_cons fx_str (fa_cons fx_str fa_nil))))))) (fg_name (i
    := 4) nd rfl (.inl rfl)) (fss_one (fs_for hp rfl (fi_any (fx_fz (fn_lst (fa_cons fx_int (fa_cons fx_int fa_nil))))) (fg_name (i := 5) nd rfl (.inl
    rfl)) (fss_one (fs_if (fq_w (fw_or (fq_cmp (op_neF hu64) (fx_fz (fn_call (G_opposite.mono (by decide)) hr hg (by rfl) g_opposite k_opposite
    B_opposite .nil (fun _ => .nil) tk (fa_cons (fx_tup (fa_cons (fx_v 4) (fa_cons (fx_v 5) fa_nil))) fa_nil))) (fx_tup (fa_cons (fx_v 4) (fa_cons
    (fx_sub fx_int (fx_v 5)) fa_nil))) (nomark _)) (fw_or1 (fq_cmp (op_neF hu64) (fx_fz (fn_call (G_opposite.mono (by decide)) hr hg (by rfl) g_opposite
    k_opposite B_opposite .nil (fun _ => .nil) tk (fa_cons (fx_fz (fn_call (G_opposite.mono (by decide)) hr hg (by rfl) g_opposite k_opposite B_opposite
    .nil (fun _ => .nil) tk (fa_cons (fx_tup (fa_cons (fx_v 4) (fa_cons (fx_v 5) fa_nil))) fa_nil))) fa_nil))) (fx_tup (fa_cons (fx_v 4) (fa_cons (fx_v
    5) fa_nil))) (nomark _))))) (fss_one (fs_ret (fn_ex fx_bl))) fss_nil))))))))) (fss_one (fs_ret (fn_ex fx_bl)))
end K01

namespace K01
open PySem PySem.Spec PyProof.Rows L2 Fx
/-- the numbers that are drawn -/
def drn (b : Int) : Int := (b * 48271 + 11).fmod 2147483647
theorem drn_lo (b : Int) : 0 ≤ drn b := Int.fmod_nonneg_of_pos _ (by decide)
theorem drn_hi (b : Int) : drn b < 2147483647 := Int.fmod_lt_of_pos _ (by decide)
def dr (a b m : Int) : Int × Int × Int := if 0 < a then (a.fmod m, a.fdiv m, b) else ((((drn b * drn b).fmod 2147483629).fdiv 16).fmod m, a, drn b)
theorem dr_in (a b m : Int) (h : 0 < m) : 0 ≤ (dr a b m).1 ∧ (dr a b m).1 < m := by
  unfold dr
  split
  · exact ⟨Int.fmod_nonneg_of_pos _ h, Int.fmod_lt_of_pos _ h⟩
  · exact ⟨Int.fmod_nonneg_of_pos _ h, Int.fmod_lt_of_pos _ h⟩
theorem draw_is (a b m : Int) (h0 : 0 < m) (h1 : m < 1000000) : m__law_draw [.lst [.int a, .int b], .int m] = .ok (.v (.int (dr a b m).1)) (.lst [.int (dr a b m).2.1, .int (dr a b m).2.2]) := by
  unfold m__law_draw b__law_draw dr
  rw [bodyF_]
  have hm : m ≠ 0 := by omega
  have hn : m.natAbs < 1073741824 := by omega
  by_cases h : 0 < a
  · simp [h, hm, hn]
  · have e : drn b = (b * 48271 + 11).fmod 2147483647 := rfl
    have l1 := drn_lo b
    have l2 := drn_hi b
    have l3 : -18446744073709551616 < drn b := by omega
    have l4 : drn b < 18446744073709551616 := by omega
    simp [h, hm, hn, ← e, l3, l4]
/-- a source: two whole numbers -/
def src (a b : Int) : D := .lst [.int a, .int b]
theorem draw_ok (a b m : Int) (h0 : 0 < m) (h1 : m < 1000000) : ∃ r a' b', m__law_draw [src a b, .int m] = .ok (.v (.int r)) (src a' b') ∧ 0 ≤ r ∧ r < m :=
  ⟨_, _, _, draw_is a b m h0 h1, dr_in a b m h0⟩
def b_src2 : Ms := mSq (mSet 3 (mRv (mBlt absF (mCons (mV 2) mNil)))) (mSq (mSet
    4 (mRv (mOp2 modD (mOp2 mulD (mOp2 addD (mOp2 addD (mOp2 addD (mOp2 modD (mV 3) (mC (.int 2147483629))) (mOp2 mulD (mOp2 mulD (mC (.int 7919)) (mV
    1)) (mV 1))) (mOp2 mulD (mC (.int 31)) (mV 1))) (mC (.int 17))) (mC (.int 48271))) (mC (.int 2147483647))))) (mRet (mLst (mCons (mOp2 mulD (mV 3)
    (mBlt intF (mCons (mB (mCmp geD (mV 3) (mOp2 powD (mC (.int 10)) (mC (.int 18))))) mNil))) (mCons (mOp2 modD (mOp2 mulD (mV 4) (mV 4)) (mC (.int
    2147483629))) mNil)))))
theorem src2_ok (z k : Int) (l : D) (p1 : -18446744073709551616 < k) (p2 : k < 18446744073709551616) : ∃ a b, endF none (b_src2 [.val l, .val (.int k), .val (.int z), .un, .un]) = .ok (.nw (src a b)) .non := by
  unfold b_src2
  generalize hx : (if z < 0 then -z else z) = x
  generalize hm : ((x.fmod 2147483629 + 7919 * k * k + 31 * k + 17) * 48271).fmod 2147483647 = m
  have m1 : 0 ≤ m := hm ▸ Int.fmod_nonneg_of_pos _ (by decide)
  have m2 : m < 2147483647 := hm ▸ Int.fmod_lt_of_pos _ (by decide)
  have m3 : -18446744073709551616 < m := by omega
  have m4 : m < 18446744073709551616 := by omega
  have sz : 2 ≤ sizeLine := by rw [sizeLine_eq]; omega
  by_cases hb : 1000000000000000000 ≤ x
  · simp [hx, p1, p2, hm, m3, m4, hb, sz, src]
  · simp [hx, p1, p2, hm, m3, m4, hb, sz, src]
theorem source_ok (ns : List Int) (k : Int) (h0 : 0 ≤ k) (h1 : k < 100) : ∃ a b, m__law_source [.lst (ns.map .int), .int k] = .ok (.nw (src a b)) .non := by
  unfold m__law_source
  rw [bodyF_]
  have p1 : -18446744073709551616 < k := by omega
  have p2 : k < 18446744073709551616 := by omega
  have c : cutL (ns.map D.int) none (some 63) = (ns.take 63).map .int := by rw [List.map_take]; exact cutL_to 63
  have e1 : ∀ Γ : Gm, Γ = [.val (.lst (ns.map .int)), .val (.int k), .un, .un, .un] → mSet 2 (mRv (mOp2 addD (mOp2 mulD (mC (.int 7)) (mBlt sumF (mCons (mSl (mV 0) mO0 (mO1 (mC (.int 63)))) mNil))) (mV 1))) Γ = .nx [.val (.lst (ns.map .int)), .val (.int k), .val (.int (7 * (ns.take 63).sum + k)), .un, .un] := fun Γ h => by
    subst h
    simp [c, p1, p2, -List.map_take]
  have e2 : ∀ z : Int, ∃ z', mIfS (mCmp ltD (mV 1) (mBlt lenF (mCons (mV 0) mNil))) (mSet 2 (mRv (mOp2 ixD (mV 0) (mV 1)))) mNx [.val (.lst (ns.map .int)), .val (.int k), .val (.int z), .un, .un] = .nx [.val (.lst (ns.map .int)), .val (.int k), .val (.int z'), .un, .un] := fun z => by
    by_cases hk : k < (ns.length : Int)
    · obtain ⟨i, rfl⟩ := Int.eq_ofNat_of_zero_le h0
      have hi : i < ns.length := by omega
      exact ⟨ns[i], by simp [hk, hi, atI_nn]⟩
    · exact ⟨z, by simp [hk]⟩
  obtain ⟨z, e2⟩ := e2 (7 * (ns.take 63).sum + k)
  obtain ⟨a, b, e3⟩ := src2_ok z k (.lst (ns.map .int)) p1 p2
  refine ⟨a, b, ?_⟩
  show endF none (b__law_source [.val (.lst (ns.map .int)), .val (.int k), .un, .un, .un]) = _
  unfold b__law_source
  rw [← e3, mSq_, e1 _ rfl, sbind_nx, mSq_, e2, sbind_nx]
  rfl
theorem drawE {Γ : Gm} {j : Nat} {a b m : Int} {s : Sl} (h0 : 0 < m) (h1 : m < 1000000) (h : Γ[j]? = some s) (hs : s = .io (src a b) ∨ s = .own (src a b)) :
    ∃ r a' b', 0 ≤ r ∧ r < m ∧ mCall 2 (some 0) m__law_draw [] (mCons (mV j) (mCons (mC (.int m)) mNil)) Γ = .ok (.v (.int r)) (Γ.set j (setS s (src a' b'))) := by
  obtain ⟨r, a', b', e, l1, l2⟩ := draw_ok a b m h0 h1
  refine ⟨r, a', b', l1, l2, ?_⟩
  rcases hs with rfl | rfl
  · simp [h, e]
  · simp [h, e]
theorem text_loop (a b : Int) (n : Nat) (hn : n < 11) : ∃ a' b' x t, loopS (mSet 2 (mRv (mOp2 addD (mV 2) (mOp2 ixD (mV 1) (mFz (mCall 2 (some 0)
    m__law_draw [] (mCons (mV 0) (mCons (mC (.int 26)) mNil)))))))) (gN 3) (rngL 0 n) [.io (src a b), .val (.str "abcdefghijklmnopqrstuvwxyz"), .val (.str ""), .un, .un] = .nx [.io (src a' b'), .val (.str "abcdefghijklmnopqrstuvwxyz"), .val (.str x), t, .un] ∧ ioB (some t) = false ∧ x.length ≤ 10 ∧ PyData.strOk x = true := by
  obtain ⟨Γ', h1, a', b', x, t, rfl, h2, h3, h4⟩ := loopS_run (g := gN 3) (b := mSet 2 (mRv (mOp2 addD (mV 2) (mOp2 ixD (mV 1) (mFz (mCall 2 (some 0)
    m__law_draw [] (mCons (mV 0) (mCons (mC (.int 26)) mNil))))))))
    (I := fun r Γ => ∃ a b x t, Γ = [.io (src a b), .val (.str "abcdefghijklmnopqrstuvwxyz"), .val (.str x), t, .un] ∧ ioB (some t) = false ∧ x.length + r.length ≤ 10 ∧ PyData.strOk x = true) (fun d r Γ h => by
      obtain ⟨a, b, x, t, rfl, ht, hx, hk⟩ := h
      refine ⟨[.io (src a b), .val (.str "abcdefghijklmnopqrstuvwxyz"), .val (.str x), .val d, .un], ?_⟩
      obtain ⟨i, a', b', l1, l2, e⟩ := drawE (Γ := [.io (src a b), .val (.str "abcdefghijklmnopqrstuvwxyz"), .val (.str x), .val d, .un]) (j := 0) (m := 26) (by omega) (by omega) rfl (.inl rfl)
      obtain ⟨k, rfl⟩ := Int.eq_ofNat_of_zero_le l1
      have la : ("abcdefghijklmnopqrstuvwxyz" : Str).cps.size = 26 := by decide +kernel
      obtain ⟨c, hc⟩ : ∃ c, ("abcdefghijklmnopqrstuvwxyz" : Str).cps[k]? = some c := ⟨_, Array.getElem?_eq_getElem (by omega)⟩
      rw [List.length_cons] at hx
      have sz : ("abcdefghijklmnopqrstuvwxyz" : Str).length ≤ sizeLine := by rw [sizeLine_eq]; decide +kernel
      have lx : x.length + 1 ≤ sizeLine := by rw [sizeLine_eq]; omega
      refine ⟨[.io (src a' b'), .val (.str "abcdefghijklmnopqrstuvwxyz"), .val (.str (x ++ ⟨#[c]⟩)), .val d, .un], by simp [ht], .inl ?_, a', b', _, _, rfl, rfl, ?_, ?_⟩
      · have l1 : Str.length ⟨#[c]⟩ = 1 := rfl
        simp [e, -mCall_, atI_nn, hc, sz, l1, lx]
      · rw [Str.length_append]
        show x.length + 1 + _ ≤ 10
        omega
      · rw [strOk_append, hk, strOk_at (by decide +kernel) hc]
        rfl) (ds := rngL 0 n) (Γ := [.io (src a b), .val (.str "abcdefghijklmnopqrstuvwxyz"), .val (.str ""), .un, .un]) ⟨a, b, "", .un, rfl, rfl, by
          rw [rngL_len]
          have : Str.length "" = 0 := rfl
          omega, by decide +kernel⟩
  exact ⟨a', b', x, t, h1, h2, by simpa using h3, h4⟩
def tx (x : Str) : Prop := x.length ≤ 11 ∧ PyData.strOk x = true
theorem text_tail (a b : Int) (x : Str) (t : Sl) (hx : x.length ≤ 10) (hk : PyData.strOk x = true) (ht : ioB (some t) = false) : ∃ y a' b', endF (some 0) ((mSq (mIfS (mCmp eqD (mFz (mCall 2 (some 0) m__law_draw [] (mCons (mV 0) (mCons (mC
    (.int 4)) mNil)))) (mC (.int 0))) (mSq (mSet 4 (mCall 2 (some 0) m__law_draw [] (mCons (mV 0) (mCons (mOp2 addD (mBlt lenF (mCons (mV 2) mNil)) (mC
    (.int 1))) mNil)))) (mSet 2 (mRv (mOp2 addD (mOp2 addD (mSl (mV 2) mO0 (mO1 (mV 4))) (mOp2 ixD (mC (.str "AZ09 _.-\n{")) (mFz (mCall 2 (some 0)
    m__law_draw [] (mCons (mV 0) (mCons (mC (.int 10)) mNil)))))) (mSl (mV 2) (mO1 (mV 4)) mO0))))) mNx) (mRet (mMv (mV 2)))) [.io (src a b), .val (.str "abcdefghijklmnopqrstuvwxyz"), .val (.str x), t, .un]) = .ok (.v (.str y)) (src a' b') ∧ tx y := by
  obtain ⟨r3, a3, b3, l3, l4, e3⟩ := drawE (Γ := [.io (src a b), .val (.str "abcdefghijklmnopqrstuvwxyz"), .val (.str x), t, .un]) (j := 0) (m := 4) (by omega) (by omega) rfl (.inl rfl)
  by_cases h : r3 = 0
  · subst h
    obtain ⟨r4, a4, b4, e4, l5, l6⟩ := draw_ok a3 b3 (x.length + 1) (by omega) (by omega)
    obtain ⟨r5, a5, b5, e5, l7, l8⟩ := draw_ok a4 b4 10 (by omega) (by omega)
    obtain ⟨k, rfl⟩ := Int.eq_ofNat_of_zero_le l7
    have la : ("AZ09 _.-\n{" : Str).cps.size = 10 := by decide +kernel
    obtain ⟨c, hc⟩ : ∃ c, ("AZ09 _.-\n{" : Str).cps[k]? = some c := ⟨_, Array.getElem?_eq_getElem (by omega)⟩
    have sz : ("AZ09 _.-\n{" : Str).length ≤ sizeLine := by rw [sizeLine_eq]; decide +kernel
    have lx : x.length ≤ sizeLine := by rw [sizeLine_eq]; omega
    obtain ⟨j, rfl⟩ := Int.eq_ofNat_of_zero_le l5
    have lc : Str.length ⟨#[c]⟩ = 1 := rfl
    have c1 : (cutS x none (some (j : Int))).length ≤ 10 := Nat.le_trans cutS_len hx
    have c2 : (cutS x none (some (j : Int))).length + 1 ≤ sizeLine := by rw [sizeLine_eq]; omega
    have cc : (cutS x none (some (j : Int))).length + (cutS x (some (j : Int)) none).length = x.length := by
      show (List.toArray _).size + (List.toArray _).size = x.cps.size
      rw [List.size_toArray, List.size_toArray]
      have s1 : HT.sIx x.length 0 none = 0 := rfl
      have s2 : HT.sIx x.length x.length none = x.length := rfl
      rw [HT.sIx_nat, HT.sIx_nat, s1, s2, List.length_take, List.length_drop, List.length_take, List.length_drop, Array.length_toList]
      have s3 : x.cps.size = x.length := rfl
      omega
    have c3 : (cutS x none (some (j : Int))).length + 1 + (cutS x (some (j : Int)) none).length ≤ sizeLine := by rw [sizeLine_eq]; omega
    refine ⟨(cutS x none (some (j : Int)) ++ ⟨#[c]⟩) ++ cutS x (some (j : Int)) none, a5, b5, ?_, ?_, ?_⟩
    · have la2 : Str.length (cutS x none (some (j : Int)) ++ ⟨#[c]⟩) = (cutS x none (some (j : Int))).length + 1 := Str.length_append _ _
      have e3' := e3
      simp at e3'
      simp [-mCall_, e3]
      simp [e4, e5, lx, atI_nn, hc, sz, lc, c2, la2, c3, ht]
    · rw [Str.length_append, Str.length_append, lc]
      omega
    · rw [strOk_append, strOk_append, strOk_cut hk, strOk_cut hk, strOk_at (by decide +kernel) hc]
      rfl
  · refine ⟨x, a3, b3, ?_, by omega, hk⟩
    simp [-mCall_, e3, h]
theorem text_ok (a b : Int) : ∃ x a' b', m__law_text [src a b] = .ok (.v (.str x)) (src a' b') ∧ tx x := by
  obtain ⟨r, a1, b1, l1, l2, e1⟩ := drawE (Γ := [.io (src a b), .val (.str "abcdefghijklmnopqrstuvwxyz"), .val (.str ""), .un, .un]) (j := 0) (m := 11) (by omega) (by omega) rfl (.inl rfl)
  obtain ⟨n, rfl⟩ := Int.eq_ofNat_of_zero_le l1
  obtain ⟨a2, b2, x, t, e2, ht, hx, hk⟩ := text_loop a1 b1 n (by omega)
  obtain ⟨y, a3, b3, e3, hy⟩ := text_tail a2 b2 x t hx hk ht
  refine ⟨y, a3, b3, ?_, hy⟩
  unfold m__law_text
  rw [bodyF_]
  show endF (some 0) (b__law_text [.io (src a b), .un, .un, .un, .un]) = _
  have sm : small62 (n : Int) = true := small62_ (by omega) (by omega)
  rw [← e3]
  unfold b__law_text
  have s1 : mSet 1 (mRv (mC (.str "abcdefghijklmnopqrstuvwxyz"))) [.io (src a b), .un, .un, .un, .un] = .nx [.io (src a b), .val (.str "abcdefghijklmnopqrstuvwxyz"), .un, .un, .un] := by simp
  have s2 : mSet 2 (mRv (mC (.str ""))) [.io (src a b), .val (.str "abcdefghijklmnopqrstuvwxyz"), .un, .un, .un] = .nx [.io (src a b), .val (.str "abcdefghijklmnopqrstuvwxyz"), .val (.str ""), .un, .un] := by simp
  rw [mSq_, s1, sbind_nx, mSq_, s2, sbind_nx, mSq_]
  have s3 : mRg1 (mCons (mFz (mCall 2 (some 0) m__law_draw [] (mCons (mV 0) (mCons (mC (.int 11)) mNil)))) mNil) [.io (src a b), .val (.str "abcdefghijklmnopqrstuvwxyz"), .val (.str ""), .un, .un] = .ok (rngL 0 n) [.io (src a1 b1), .val (.str "abcdefghijklmnopqrstuvwxyz"), .val (.str ""), .un, .un] := by
    simp [-mCall_, e1, sm]
  rw [mFor_, s3, then_ok, e2, sbind_nx]
end K01

namespace K01
open PySem PySem.Spec PyProof.Rows L2 Fx
/-! ### names and darts -/
def lowB (c : Nat) : Bool := decide (97 ≤ c) && decide (c ≤ 122)
def nameB : D → Bool
  | .str x => decide (1 ≤ x.length) && decide (x.length ≤ 8) && x.cps.toList.all lowB
  | _ => false
def intB : D → Bool
  | .int i => decide (0 ≤ i) && decide (i ≤ 1)
  | _ => false
def dartB : D → Bool
  | .tup [a, b] => nameB a && intB b
  | _ => false
theorem letters : ("abcdefghijklmnopqrstuvwxyz" : Str).cps.toList = [97, 98, 99, 100, 101, 102, 103, 104, 105, 106, 107, 108, 109, 110, 111, 112, 113, 114, 115, 116, 117, 118, 119, 120, 121, 122] := by decide +kernel
theorem low_in (c : Nat) : decide (c ∈ ("abcdefghijklmnopqrstuvwxyz" : Str).cps.toList) = lowB c := by
  rw [letters]
  unfold lowB
  rw [Bool.eq_iff_iff]
  simp only [List.mem_cons, List.not_mem_nil, or_false, decide_eq_true_eq, Bool.and_eq_true]
  omega
def good1 (v : D) : Prop := (∃ t, tyD v = some t) ∧ ∀ x, v = .str x → tx x
theorem len_in {x : Str} (h : tx x) : x.length ≤ sizeLine := by
  have := h.1
  rw [sizeLine_eq]; omega
theorem name_str (x : Str) (h : tx x) : m_is_name [.str x] = .ok (.v (.bl (nameB (.str x)))) .non := by
  unfold m_is_name
  rw [bodyF_]
  show endF none (b_is_name [.val (.str x), .un]) = _
  unfold b_is_name
  have hl := len_in h
  by_cases h1 : 1 ≤ x.length
  · by_cases h2 : x.length ≤ 8
    · have lc : loopC (gN 1) mYes (mB (mCmp inD (mV 1) (mC (.str "abcdefghijklmnopqrstuvwxyz")))) [1] (chrs x) [] [.val (.str x), .un] = .ok (x.cps.toList.map fun c => D.bl (lowB c)) [.val (.str x), .un] := by
        rw [loopC_pure (p := fun _ => true) (f := fun d => match d with | .str s => .bl (inSD s "abcdefghijklmnopqrstuvwxyz") | _ => .non) (fun d hd => ?_) ?_]
        · congr 1
          unfold chrs
          rw [List.filter_eq_self.mpr (fun _ _ => rfl), List.map_map, List.nil_append]
          apply List.map_congr_left
          intro c _
          show D.bl (inSD ⟨#[c]⟩ _) = _
          rw [inSD_one, low_in]
        · unfold chrs
          have z : x.cps.toList.length = x.length := Array.length_toList
          rw [List.length_map, z, sizeLine_eq]
          show 0 + x.length ≤ _
          omega
        · obtain ⟨c, _, rfl⟩ := List.mem_map.mp hd
          refine ⟨[.val (.str x), .val (.str ⟨#[c]⟩)], by simp, by simp, fun _ => by simp, by simp⟩
      have e1 : (1 : Int) ≤ x.length := by omega
      have e2 : (x.length : Int) ≤ 8 := by omega
      simp [hl, e1, e2, lc, blsD_mapf, nameB, h1, h2]
    · have e1 : (1 : Int) ≤ x.length := by omega
      have e2 : ¬ (x.length : Int) ≤ 8 := by omega
      simp [hl, e1, e2, nameB, h1, h2]
  · have e1 : ¬ (1 : Int) ≤ x.length := by omega
    simp [hl, e1, nameB, h1]
theorem name_ok (v : D) (h : good1 v) : m_is_name [v] = .ok (.v (.bl (nameB v))) .non := by
  cases v with
  | str x => exact name_str x (h.2 x rfl)
  | raw u => obtain ⟨⟨t, ht⟩, _⟩ := h; cases ht
  | ins C f => obtain ⟨⟨t, ht⟩, _⟩ := h; cases ht
  | _ => unfold m_is_name b_is_name; rw [bodyF_]; simp [nameB]
theorem one_lt (a c : Nat) : decide ((⟨#[a]⟩ : Str).cps.toList < (⟨#[c]⟩ : Str).cps.toList) = decide (a < c) := by
  show decide ([a] < [c]) = _
  rw [Bool.eq_iff_iff, decide_eq_true_eq, decide_eq_true_eq, List.cons_lt_cons_iff]
  simp
theorem lname_str (x : Str) (h : tx x) : m__law_is_name [.str x] = .ok (.v (.bl (nameB (.str x)))) .non := by
  unfold m__law_is_name
  rw [bodyF_]
  show endF none (b__law_is_name [.val (.str x), .un]) = _
  unfold b__law_is_name
  have hl := len_in h
  by_cases h1 : 1 ≤ x.length
  · by_cases h2 : x.length ≤ 8
    · have lc : loopC (gN 1) (mNot (mChain leD leD (mC (.str "a")) (mV 1) (mC (.str "z")))) (mV 1) [1] (chrs x) [] [.val (.str x), .un] = .ok ((x.cps.toList.filter fun c => !lowB c).map fun c => D.str ⟨#[c]⟩) [.val (.str x), .un] := by
        rw [loopC_pure (p := fun d => match d with | .str s => !(lowB (s.cps.getD 0 0)) | _ => false) (f := id) (fun d hd => ?_) ?_]
        · congr 1
          unfold chrs
          rw [List.filter_map, List.map_id, List.nil_append]
          rfl
        · unfold chrs
          have z : x.cps.toList.length = x.length := Array.length_toList
          rw [List.length_map, z, sizeLine_eq]
          show 0 + x.length ≤ _
          omega
        · obtain ⟨c, _, rfl⟩ := List.mem_map.mp hd
          refine ⟨[.val (.str x), .val (.str ⟨#[c]⟩)], by simp, ?_, fun _ => by simp, by simp⟩
          have a1 : leD (.str "a") (.str ⟨#[c]⟩) = some (decide (97 ≤ c)) := by
            show some (!decide ((⟨#[c]⟩ : Str).cps.toList < (⟨#[97]⟩ : Str).cps.toList)) = _
            rw [one_lt, Option.some.injEq, Bool.eq_iff_iff]
            simp
            try omega
          have a2 : leD (.str ⟨#[c]⟩) (.str "z") = some (decide (c ≤ 122)) := by
            show some (!decide ((⟨#[122]⟩ : Str).cps.toList < (⟨#[c]⟩ : Str).cps.toList)) = _
            rw [one_lt, Option.some.injEq, Bool.eq_iff_iff]
            simp
            try omega
          show _ = R.ok (!lowB c) _
          unfold lowB
          by_cases c1 : 97 ≤ c
          · simp [a1, a2, c1]
          · simp [a1, c1]
      have e1 : (1 : Int) ≤ x.length := by omega
      have e2 : (x.length : Int) ≤ 8 := by omega
      have ft : fitD (63 + 1) (.lst ((x.cps.toList.filter fun c => !lowB c).map fun c => D.str ⟨#[c]⟩)) = true := by
        rw [fit_lst_, List.all_eq_true]
        intro d hd
        obtain ⟨c, hc, rfl⟩ := List.mem_map.mp hd
        rw [fit_str]
        have hs := h.2
        unfold PyData.strOk at hs ⊢
        rw [Array.all_eq_true'] at hs ⊢
        intro y hy
        have : y = c := by simpa using hy
        subst this
        exact hs y (by simpa using (List.mem_filter.mp hc).1)
      have sm : sameL ((x.cps.toList.filter fun c => !lowB c).map fun c => D.str ⟨#[c]⟩) [] = x.cps.toList.all lowB := by
        induction x.cps.toList with
        | nil => rfl
        | cons c r ih =>
          cases hc : lowB c with
          | true => rw [List.filter_cons_of_neg (by simp [hc]), ih, List.all_cons, hc]; rfl
          | false => rw [List.filter_cons_of_pos (by simp [hc]), List.map_cons, sameL_cn, List.all_cons, hc]; rfl
      have fn : fitD 64 (.lst []) = true := fit_lst fun _ h => nomatch h
      simp [hl, e1, e2, lc, nameB, h1, h2, ft, fn, sm, -fit_lst_, -List.all_map]
    · have e1 : (1 : Int) ≤ x.length := by omega
      have e2 : ¬ (x.length : Int) ≤ 8 := by omega
      simp [hl, e1, e2, nameB, h1, h2]
  · have e1 : ¬ (1 : Int) ≤ x.length := by omega
    simp [hl, e1, nameB, h1]
theorem lname_ok (v : D) (h : good1 v) : m__law_is_name [v] = .ok (.v (.bl (nameB v))) .non := by
  cases v with
  | str x => exact lname_str x (h.2 x rfl)
  | raw u => obtain ⟨⟨t, ht⟩, _⟩ := h; cases ht
  | ins C f => obtain ⟨⟨t, ht⟩, _⟩ := h; cases ht
  | _ => unfold m__law_is_name b__law_is_name; rw [bodyF_]; simp [nameB]
end K01

namespace K01
open PySem PySem.Spec PyProof.Rows L2 Fx
def good (v : D) : Prop := good1 v ∧ ∀ l, v = .tup l → ∀ d ∈ l, good1 d
theorem integer_ok (v : D) (h : good1 v) : m_is_integer [v, .int 0, .int 1] = .ok (.v (.bl (intB v))) .non := by
  unfold m_is_integer
  rw [bodyF_]
  cases v with
  | raw u => obtain ⟨⟨t, ht⟩, _⟩ := h; cases ht
  | ins C f => obtain ⟨⟨t, ht⟩, _⟩ := h; cases ht
  | int i =>
    unfold b_is_integer
    by_cases h1 : 0 ≤ i
    · simp [intB, h1]
    · simp [intB, h1]
  | _ => unfold b_is_integer; simp [intB]
theorem dart_tup (l : List D) (h : ∀ d ∈ l, good1 d) : m_is_dart [.tup l] = .ok (.v (.bl (dartB (.tup l)))) .non := by
  unfold m_is_dart
  rw [bodyF_]
  show endF none (b_is_dart [.val (.tup l)]) = _
  unfold b_is_dart
  match l, h with
  | [a, b], h =>
    have ha := name_ok a (h a (by simp))
    have hb := integer_ok b (h b (by simp))
    cases hn : nameB a <;> simp [dartB, ha, hb, hn]
  | [], h => simp [dartB]
  | [a], h => simp [dartB]
  | a :: b :: c :: r, h =>
    have e : ¬ ((r.length : Int) + 1 + 1 + 1 = 2) := by omega
    simp [dartB, e]
theorem dart_ok (v : D) (h : good v) : m_is_dart [v] = .ok (.v (.bl (dartB v))) .non := by
  cases v with
  | tup l => exact dart_tup l (h.2 l rfl)
  | raw u => obtain ⟨⟨⟨t, ht⟩, _⟩, _⟩ := h; cases ht
  | ins C f => obtain ⟨⟨⟨t, ht⟩, _⟩, _⟩ := h; cases ht
  | _ => unfold m_is_dart b_is_dart; rw [bodyF_]; simp [dartB]
theorem ldart_tup (l : List D) (h : ∀ d ∈ l, good1 d) : m__law_is_dart [.tup l] = .ok (.v (.bl (dartB (.tup l)))) .non := by
  unfold m__law_is_dart
  rw [bodyF_]
  show endF none (b__law_is_dart [.val (.tup l)]) = _
  unfold b__law_is_dart
  have sz : 2 ≤ sizeLine := by rw [sizeLine_eq]; omega
  match l, h with
  | [a, b], h =>
    have ha := lname_ok a (h a (by simp))
    have hb := h b (by simp)
    cases hn : nameB a with
    | false => simp [dartB, ha, hn]
    | true =>
      cases b with
      | raw u => obtain ⟨⟨t, ht⟩, _⟩ := hb; cases ht
      | ins C f => obtain ⟨⟨t, ht⟩, _⟩ := hb; cases ht
      | int i =>
        have f2 : fitD 64 (.tup [.int 0, .int 1]) = true := fit_tup fun d hd => by
          rcases List.mem_cons.mp hd with rfl | hd
          · exact fit_int
          · rw [List.mem_singleton] at hd
            subst hd
            exact fit_int
        have e : ((0 == i) || (1 == i)) = (decide (0 ≤ i) && decide (i ≤ 1)) := by
          rw [Bool.eq_iff_iff]
          simp only [Bool.or_eq_true, beq_iff_eq, Bool.and_eq_true, decide_eq_true_eq]
          omega
        simp [dartB, ha, hn, intB, sz, f2, e, -fit_tup_]
      | _ => simp [dartB, ha, hn, intB]
  | [], h => simp [dartB]
  | [a], h => simp [dartB]
  | a :: b :: c :: r, h =>
    have e : ¬ ((r.length : Int) + 1 + 1 + 1 = 2) := by omega
    simp [dartB, e]
theorem ldart_ok (v : D) (h : good v) : m__law_is_dart [v] = .ok (.v (.bl (dartB v))) .non := by
  cases v with
  | tup l => exact ldart_tup l (h.2 l rfl)
  | raw u => obtain ⟨⟨⟨t, ht⟩, _⟩, _⟩ := h; cases ht
  | ins C f => obtain ⟨⟨⟨t, ht⟩, _⟩, _⟩ := h; cases ht
  | _ => unfold m__law_is_dart b__law_is_dart; rw [bodyF_]; simp [dartB]
theorem opp_ok (x : Str) (i : Int) : m_opposite [.tup [.str x, .int i]] = .ok (.v (.tup [.str x, .int (1 - i)])) .non := by
  unfold m_opposite b_opposite
  rw [bodyF_]
  have sz : 2 ≤ sizeLine := by rw [sizeLine_eq]; omega
  simp [sz]
def gB1 : D → Bool
  | .str x => decide (x.length ≤ 11) && PyData.strOk x
  | .raw _ => false
  | .ins _ _ => false
  | _ => true
def gB : D → Bool
  | .tup l => l.all gB1
  | d => gB1 d
theorem gB1_good {d : D} (h : gB1 d = true) : good1 d := by
  cases d with
  | str x =>
    simp only [gB1, Bool.and_eq_true, decide_eq_true_eq] at h
    exact ⟨⟨_, rfl⟩, fun y e => by cases e; exact h⟩
  | raw u => cases h
  | ins C f => cases h
  | _ => exact ⟨⟨_, rfl⟩, fun y e => by cases e⟩
theorem gB_good {d : D} (h : gB d = true) : good d := by
  cases d with
  | tup l => exact ⟨⟨⟨_, rfl⟩, fun y e => by cases e⟩, fun l' e d hd => by cases e; exact gB1_good (List.all_eq_true.mp h d hd)⟩
  | _ => exact ⟨gB1_good h, fun l e => by cases e⟩
theorem things_ok (a b : Int) (x : Str) (hx : tx x) : ∃ l a' b', m__law_things [src a b, .str x] = .ok (.v (.lst l)) (src a' b') ∧ (∀ d ∈ l, good d) ∧ l.length ≤ 100 := by
  obtain ⟨r, a1, b1, l1, l2, e1⟩ := drawE (Γ := [.io (src a b), .val (.str x), .un, .un]) (j := 0) (m := 2) (by omega) (by omega) rfl (.inl rfl)
  unfold m__law_things
  rw [bodyF_]
  show ∃ l a' b', endF (some 0) (b__law_things [.io (src a b), .val (.str x), .un, .un]) = _ ∧ _
  unfold b__law_things
  have s1 : 1 ≤ sizeLine := by rw [sizeLine_eq]; omega
  have s2 : 2 ≤ sizeLine := by rw [sizeLine_eq]; omega
  have s3 : 3 ≤ sizeLine := by rw [sizeLine_eq]; omega
  have s6 : 6 ≤ sizeLine := by rw [sizeLine_eq]; omega
  have s8 : 8 ≤ sizeLine := by rw [sizeLine_eq]; omega
  have s9 : 9 ≤ sizeLine := by rw [sizeLine_eq]; omega
  have s14 : 14 ≤ sizeLine := by rw [sizeLine_eq]; omega
  have s23 : 23 ≤ sizeLine := by rw [sizeLine_eq]; omega
  have hr : strF [.int r] = some (.str (toString r)) := by
    have : r = 0 ∨ r = 1 := by omega
    rcases this with rfl | rfl
    · rfl
    · rfl
  simp [-mCall_, e1, s1, s2, s3, s6, s8, s9, s14, s23, hr, mPairs, fzP, keyA, keyD]
  refine ⟨_, ⟨rfl, a1, b1, rfl⟩, fun d hd => gB_good ?_, by simp⟩
  have hx1 := hx.1
  have hx2 := hx.2
  have hrr : PyData.strOk (Str.ofString r.repr) = true ∧ (Str.ofString r.repr).length ≤ 11 := by
    have : r = 0 ∨ r = 1 := by omega
    rcases this with rfl | rfl
    · decide +kernel
    · decide +kernel
  have he : PyData.strOk (Str.ofString "") = true ∧ (Str.ofString "").length ≤ 11 := by decide +kernel
  revert d
  rw [← List.all_eq_true]
  simp [gB, gB1, hx1, hx2, hrr, he]
end K01

namespace K01
open PySem PySem.Spec PyProof.Rows L2 Fx
/-- no caller's list -/
def NI (s : Sl) : Prop := ioB (some s) = false
def Sh (ns : List Int) (Γ : Gm) : Prop := ∃ s1 s2 s3 s4 s5 s6, Γ = [.val (.lst (ns.map .int)), s1, s2, s3, s4, s5, s6] ∧ NI s1 ∧ NI s2 ∧ NI s3 ∧ NI s4 ∧ NI s5 ∧ NI s6 ∧ s6.mine = false
theorem rpr_ok (p q : Bool) : ∃ s, rprF [.lst [.bl p, .bl q]] = some (.str s) ∧ PyData.strOk s = true := by
  refine ⟨(toPy (.lst [.bl p, .bl q])).shown, ?_, ?_⟩
  · exact if_pos (by cases p <;> cases q <;> decide +kernel)
  · cases p <;> cases q <;> decide +kernel
theorem textE {Γ : Gm} {a b : Int} {s : Sl} (j : Nat) (h : Γ[j]? = some s) (hs : s = .own (src a b)) :
    ∃ x a' b', tx x ∧ mCall 1 (some 0) m__law_text [] (mCons (mV j) mNil) Γ = .ok (.v (.str x)) (Γ.set j (.own (src a' b'))) := by
  obtain ⟨x, a', b', e, hx⟩ := text_ok a b
  subst hs
  exact ⟨x, a', b', hx, by simp [h, e]⟩
theorem vals_ok (ns : List Int) (k a b : Int) (s3 s4 s5 s6 : Sl) (h6 : s6.mine = false) : ∃ l a' b', mIt (mOp2 addD (mFz (mCall 2 (some 0)
    m__law_things [] (mCons (mV 2) (mCons (mFz (mCall 1 (some 0) m__law_text [] (mCons (mV 2) mNil))) mNil)))) (mFz (mLc ([6]) (mRg1 (mCons (mC (.int
    6)) mNil)) (gN 6) mYes (mFz (mCall 1 (some 0) m__law_text [] (mCons (mV 2) mNil)))))) [.val (.lst (ns.map .int)), .val (.int k), .own (src a b), s3, s4, s5, s6] = .ok l [.val (.lst (ns.map .int)), .val (.int k), .own (src a' b'), s3, s4, s5, s6] ∧ ∀ d ∈ l, good d := by
  obtain ⟨x, a1, b1, hx, e1⟩ := textE (Γ := [.val (.lst (ns.map .int)), .val (.int k), .own (src a b), s3, s4, s5, s6]) 2 rfl rfl
  obtain ⟨l, a2, b2, e2, hl, hn⟩ := things_ok a1 b1 x hx
  obtain ⟨acc, Γ', e3, a3, b3, rfl, h1, h2⟩ := loopC_run (g := gN 6) (q := mYes) (me := mFz (mCall 1 (some 0) m__law_text [] (mCons (mV 2) mNil))) (vs := [6])
    (I := fun r acc Γ => ∃ a b, Γ = [.val (.lst (ns.map .int)), .val (.int k), .own (src a b), s3, s4, s5, .un] ∧ (∀ d ∈ acc, good d) ∧ acc.length + r.length ≤ 6) (fun d r acc Γ h => by
      obtain ⟨a, b, rfl, h1, h2⟩ := h
      obtain ⟨y, a', b', hy, e⟩ := textE (Γ := [.val (.lst (ns.map .int)), .val (.int k), .own (src a b), s3, s4, s5, .val d]) 2 rfl rfl
      rw [List.length_cons] at h2
      refine ⟨[.val (.lst (ns.map .int)), .val (.int k), .own (src a b), s3, s4, s5, .val d], by simp, .inr ⟨_, .v (.str y), [.val (.lst (ns.map .int)), .val (.int k), .own (src a' b'), s3, s4, s5, .val d], .str y, _, rfl, ?_, rfl, by rw [sizeLine_eq]; omega, a', b', by simp, ?_, ?_⟩⟩
      · rw [mFz_, e]; simp
      · intro e he
        rcases List.mem_append.mp he with he | he
        · exact h1 e he
        · rw [List.mem_singleton] at he
          subst he
          exact ⟨⟨⟨_, rfl⟩, fun z ez => by cases ez; exact hy⟩, fun l ez => by cases ez⟩
      · rw [List.length_append, List.length_singleton]; omega) (ds := rngL 0 6) (acc := []) (Γ := [.val (.lst (ns.map .int)), .val (.int k), .own (src a2 b2), s3, s4, s5, .un]) ⟨a2, b2, rfl, (fun _ h => nomatch h), (by decide)⟩
  refine ⟨l ++ acc, a3, b3, ?_, fun d hd => (List.mem_append.mp hd).elim (hl d) (h1 d)⟩
  have e1' := e1
  have sz : l.length + acc.length ≤ sizeLine := by
    rw [List.length_nil] at h2
    rw [sizeLine_eq]; omega
  have sm : small62 6 = true := small62_ (by decide) (by decide)
  have c1 : mCall 2 (some 0) m__law_things [] (mCons (mV 2) (mCons (mFz (mCall 1 (some 0) m__law_text [] (mCons (mV 2) mNil))) mNil)) [.val (.lst (ns.map .int)), .val (.int k), .own (src a b), s3, s4, s5, s6] = .ok (.v (.lst l)) [.val (.lst (ns.map .int)), .val (.int k), .own (src a2 b2), s3, s4, s5, s6] := by
    rw [mCall_]
    simp [-mCall_, e1, e2]
  rw [mIt_, mOp2_, mFz_, c1]
  simp [-mCall_, h6, sm, e3, sz]
theorem val_step (ns : List Int) (s1 s2 s4 s5 s6 : Sl) (v : D) (hv : good v) : mIfS (mCmp neD (mBlt rprF (mCons (mFz (mLst (mCons
    (mFz (mCall 1 none m_is_name [] (mCons (mV 3) mNil))) (mCons (mFz (mCall 1 none m_is_dart [] (mCons (mV 3) mNil))) mNil)))) mNil)) (mBlt rprF (mCons
    (mFz (mLst (mCons (mFz (mCall 1 none m__law_is_name [] (mCons (mV 3) mNil))) (mCons (mFz (mCall 1 none m__law_is_dart [] (mCons (mV 3) mNil)))
    mNil)))) mNil))) (mRet (mRv (mC (.bl false)))) mNx [.val (.lst (ns.map .int)), s1, s2, .val v, s4, s5, s6] = .nx [.val (.lst (ns.map .int)), s1, s2, .val v, s4, s5, s6] := by
  obtain ⟨s, hs, hk⟩ := rpr_ok (nameB v) (dartB v)
  have sz : 2 ≤ sizeLine := by rw [sizeLine_eq]; omega
  simp [name_ok v hv.1, dart_ok v hv, lname_ok v hv.1, ldart_ok v hv, sz, hs, hk]
theorem side_step (ns : List Int) (s1 s2 s3 s6 : Sl) (x : Str) (i : Int) (hx : PyData.strOk x = true) : mIfS
    (mOr (mCmp neD (mFz (mCall 1 none m_opposite [] (mCons (mTup (mCons (mV 4) (mCons (mV 5) mNil))) mNil))) (mTup (mCons (mV 4) (mCons (mOp2 subD (mC
    (.int 1)) (mV 5)) mNil)))) (mCmp neD (mFz (mCall 1 none m_opposite [] (mCons (mFz (mCall 1 none m_opposite [] (mCons (mTup (mCons (mV 4) (mCons (mV
    5) mNil))) mNil))) mNil))) (mTup (mCons (mV 4) (mCons (mV 5) mNil))))) (mRet (mRv (mC (.bl false)))) mNx [.val (.lst (ns.map .int)), s1, s2, s3, .val (.str x), .val (.int i), s6] = .nx [.val (.lst (ns.map .int)), s1, s2, s3, .val (.str x), .val (.int i), s6] := by
  have sz : 2 ≤ sizeLine := by rw [sizeLine_eq]; omega
  have e : (1 - (1 - i)) = i := by omega
  have ft : ∀ j : Int, fitD 64 (.tup [.str x, .int j]) = true := fun j => by
    rw [fit_tup_ (n := 63)]
    simp [hx]
  simp [opp_ok, sz, e, ft, -fit_tup_]
theorem main_law (ns : List Int) (h : ns.length ≤ 63) (hb : ∀ z ∈ ns, Builtin.Int.intBits z ≤ 1048576) : m_law (argL ns) = .ok (.v (.bl true)) .non := by
  unfold m_law
  rw [bodyF_]
  show endF none (b_law [.val (.lst (ns.map .int)), .un, .un, .un, .un, .un, .un]) = _
  unfold b_law
  refine nx_end (P := fun _ => True) (nx_for (fun r Γ => Sh ns Γ ∧ ∀ d ∈ r, ∃ i : Int, d = .int i ∧ 0 ≤ i ∧ i < 100) (ds := rngL 0 (if (if (8 : Int) < ns.length then 8 else (ns.length : Int)) > 1 then (if (8 : Int) < ns.length then 8 else (ns.length : Int)) else 1)) (Γ1 := [.val (.lst (ns.map .int)), .un, .un, .un, .un, .un, .un]) ?_ ?_ ?_ ?_) ?_
  · have e : mCons (mBlt max2F (mCons (mC (.int 1)) (mCons (mBlt min2F (mCons (mBlt lenF (mCons (mV 0) mNil)) (mCons (mC (.int 8)) mNil))) mNil))) mNil [.val (.lst (ns.map .int)), .un, .un, .un, .un, .un, .un] = .ok [.v (.int (if (if (8 : Int) < ns.length then 8 else (ns.length : Int)) > 1 then (if (8 : Int) < ns.length then 8 else (ns.length : Int)) else 1))] [.val (.lst (ns.map .int)), .un, .un, .un, .un, .un, .un] := by
      simp
    rw [mRg1_, e, bind_ok]
    show rg1 _ (some [.int _]) = _
    rw [rg1_, if_pos (small62_ (by split <;> split <;> omega) (by split <;> split <;> omega))]
  · refine ⟨⟨_, _, _, _, _, _, rfl, rfl, rfl, rfl, rfl, rfl, rfl, rfl⟩, fun d hd => ?_⟩
    obtain ⟨i, rfl, h1, h2⟩ := mem_rngL hd
    refine ⟨i, rfl, h1, ?_⟩
    split at h2 <;> split at h2 <;> omega
  · intro d r Γ ⟨⟨s1, s2, s3, s4, s5, s6, hΓ, n1, n2, n3, n4, n5, n6, h6⟩, hr⟩
    subst hΓ
    obtain ⟨k, rfl, k0, k1⟩ := hr d (by simp)
    have hr := fun d hd => hr d (List.mem_cons_of_mem _ hd)
    obtain ⟨a, b, e⟩ := source_ok ns k k0 k1
    refine ⟨[.val (.lst (ns.map .int)), .val (.int k), s2, s3, s4, s5, s6], by simp [show ioB (some s1) = false from n1], ?_⟩
    refine nx_sq (nx_eq (Γ1 := [.val (.lst (ns.map .int)), .val (.int k), .own (src a b), s3, s4, s5, s6]) (by simp [e, show ioB (some s2) = false from n2]) ?_)
    obtain ⟨l, a2, b2, e2, hl⟩ := vals_ok ns k a b s3 s4 s5 s6 h6
    refine nx_sq (nx_for (fun r Γ => (∃ s3, Γ = [.val (.lst (ns.map .int)), .val (.int k), .own (src a2 b2), s3, s4, s5, s6] ∧ NI s3) ∧ ∀ d ∈ r, good d) e2 ⟨⟨s3, rfl, n3⟩, hl⟩ (fun d r Γ ⟨⟨s3, hΓ, n3⟩, hr⟩ => ?_) fun Γ ⟨⟨s3, hΓ, n3⟩, _⟩ => ?_)
    · subst hΓ
      refine ⟨[.val (.lst (ns.map .int)), .val (.int k), .own (src a2 b2), .val d, s4, s5, s6], by simp [show ioB (some s3) = false from n3], nx_eq (val_step ns _ _ _ _ _ d (hr d (by simp))) ⟨⟨.val d, rfl, rfl⟩, fun e he => hr e (List.mem_cons_of_mem _ he)⟩⟩
    · subst hΓ
      refine nx_for (fun r Γ => (∃ s4 s5, Γ = [.val (.lst (ns.map .int)), .val (.int k), .own (src a2 b2), s3, s4, s5, s6] ∧ NI s4 ∧ NI s5) ∧ ∀ d ∈ r, ∃ x, d = .str x ∧ PyData.strOk x = true) (ds := [.str "a", .str "z", .str "abcdefgh", .str "vertex"]) (Γ1 := [.val (.lst (ns.map .int)), .val (.int k), .own (src a2 b2), s3, s4, s5, s6]) ?_ ⟨⟨s4, s5, rfl, n4, n5⟩, ?_⟩ (fun d r Γ ⟨⟨s4, s5, hΓ, n4, n5⟩, hd⟩ => ?_) fun Γ ⟨⟨s4, s5, hΓ, n4, n5⟩, _⟩ => ?_
      · have sz : 4 ≤ sizeLine := by rw [sizeLine_eq]; omega
        simp [sz]
      · intro d hd
        simp only [List.mem_cons, List.not_mem_nil, or_false] at hd
        rcases hd with rfl | rfl | rfl | rfl
        · exact ⟨_, rfl, by decide +kernel⟩
        · exact ⟨_, rfl, by decide +kernel⟩
        · exact ⟨_, rfl, by decide +kernel⟩
        · exact ⟨_, rfl, by decide +kernel⟩
      · subst hΓ
        obtain ⟨x, rfl, hx⟩ := hd d (by simp)
        refine ⟨[.val (.lst (ns.map .int)), .val (.int k), .own (src a2 b2), s3, .val (.str x), s5, s6], by simp [show ioB (some s4) = false from n4], ?_⟩
        refine nx_for (fun r Γ => (∃ s5, Γ = [.val (.lst (ns.map .int)), .val (.int k), .own (src a2 b2), s3, .val (.str x), s5, s6] ∧ NI s5) ∧ ∀ d ∈ r, ∃ i, d = .int i) (ds := [.int 0, .int 1]) (Γ1 := [.val (.lst (ns.map .int)), .val (.int k), .own (src a2 b2), s3, .val (.str x), s5, s6]) ?_ ⟨⟨s5, rfl, n5⟩, ?_⟩ (fun d r Γ ⟨⟨s5, hΓ, n5⟩, hd⟩ => ?_) fun Γ ⟨⟨s5, hΓ, n5⟩, _⟩ => ?_
        · have sz : 2 ≤ sizeLine := by rw [sizeLine_eq]; omega
          simp [sz]
        · intro d hd
          simp only [List.mem_cons, List.not_mem_nil, or_false] at hd
          rcases hd with rfl | rfl <;> exact ⟨_, rfl⟩
        · subst hΓ
          obtain ⟨i, rfl⟩ := hd d (by simp)
          refine ⟨[.val (.lst (ns.map .int)), .val (.int k), .own (src a2 b2), s3, .val (.str x), .val (.int i), s6], by simp [show ioB (some s5) = false from n5], nx_eq (side_step ns _ _ _ _ x i hx) ⟨⟨.val (.int i), rfl, rfl⟩, fun e he => hd e (List.mem_cons_of_mem _ he)⟩⟩
        · subst hΓ
          exact ⟨⟨_, _, rfl, rfl, n5⟩, fun e he => hd e (List.mem_cons_of_mem _ he)⟩
      · subst hΓ
        exact ⟨⟨_, _, _, _, _, _, rfl, rfl, rfl, n3, n4, n5, n6, h6⟩, hr⟩
  · exact fun _ _ => trivial
  · intro Γ _
    simp
end K01

namespace K01
open PySem PySem.Spec PyProof.Rows L2 Fx
/-! ### what the top has written; the head -/
theorem top_mk {P : Program} {w : World} {K : PySem.W.Frag} {h : Heap} {mg : Str → Option Value} {fa : Addr} (X : K.In h) (G : h.Ns mainGlobals mg) (hfa : mg "law" = some (.ref fa))
    {f0 : Addr} {od0 an0 : Option Addr} {sl0 : Array (Option Value)} {oc0 kV0 dc0 pm0 cd0 ct0 : Value}
    (a0 : PySem.W.nsIn K mainGlobals "is_name" = some (some (.ref f0))) (l0 : K.lookup f0 = some ⟨oc0, od0, .func (PySem.W.fnOf "is_name" "is_name" (defArgs s_is_name) (defBody s_is_name) (defScope s_is_name) .none kV0 dc0 pm0 an0 cd0 ct0), sl0⟩)
    (c0 : PySem.W.codeIn K cd0 "is_name" = true) (k0 : PySem.W.keepIn K (.ref f0) = true)
    {f1 : Addr} {od1 an1 : Option Addr} {sl1 : Array (Option Value)} {oc1 kV1 dc1 pm1 cd1 ct1 : Value}
    (a1 : PySem.W.nsIn K mainGlobals "is_integer" = some (some (.ref f1))) (l1 : K.lookup f1 = some ⟨oc1, od1, .func (PySem.W.fnOf "is_integer" "is_integer" (defArgs s_is_integer) (defBody s_is_integer) (defScope s_is_integer) .none kV1 dc1 pm1 an1 cd1 ct1), sl1⟩)
    (c1 : PySem.W.codeIn K cd1 "is_integer" = true) (k1 : PySem.W.keepIn K (.ref f1) = true)
    {f2 : Addr} {od2 an2 : Option Addr} {sl2 : Array (Option Value)} {oc2 kV2 dc2 pm2 cd2 ct2 : Value}
    (a2 : PySem.W.nsIn K mainGlobals "is_dart" = some (some (.ref f2))) (l2 : K.lookup f2 = some ⟨oc2, od2, .func (PySem.W.fnOf "is_dart" "is_dart" (defArgs s_is_dart) (defBody s_is_dart) (defScope s_is_dart) .none kV2 dc2 pm2 an2 cd2 ct2), sl2⟩)
    (c2 : PySem.W.codeIn K cd2 "is_dart" = true) (k2 : PySem.W.keepIn K (.ref f2) = true)
    {f3 : Addr} {od3 an3 : Option Addr} {sl3 : Array (Option Value)} {oc3 kV3 dc3 pm3 cd3 ct3 : Value}
    (a3 : PySem.W.nsIn K mainGlobals "opposite" = some (some (.ref f3))) (l3 : K.lookup f3 = some ⟨oc3, od3, .func (PySem.W.fnOf "opposite" "opposite" (defArgs s_opposite) (defBody s_opposite) (defScope s_opposite) .none kV3 dc3 pm3 an3 cd3 ct3), sl3⟩)
    (c3 : PySem.W.codeIn K cd3 "opposite" = true) (k3 : PySem.W.keepIn K (.ref f3) = true)
    {f4 : Addr} {od4 an4 : Option Addr} {sl4 : Array (Option Value)} {oc4 kV4 dc4 pm4 cd4 ct4 : Value}
    (a4 : PySem.W.nsIn K mainGlobals "_law_source" = some (some (.ref f4))) (l4 : K.lookup f4 = some ⟨oc4, od4, .func (PySem.W.fnOf "_law_source" "_law_source" (defArgs s__law_source) (defBody s__law_source) (defScope s__law_source) .none kV4 dc4 pm4 an4 cd4 ct4), sl4⟩)
    (c4 : PySem.W.codeIn K cd4 "_law_source" = true) (k4 : PySem.W.keepIn K (.ref f4) = true)
    {f5 : Addr} {od5 an5 : Option Addr} {sl5 : Array (Option Value)} {oc5 kV5 dc5 pm5 cd5 ct5 : Value}
    (a5 : PySem.W.nsIn K mainGlobals "_law_draw" = some (some (.ref f5))) (l5 : K.lookup f5 = some ⟨oc5, od5, .func (PySem.W.fnOf "_law_draw" "_law_draw" (defArgs s__law_draw) (defBody s__law_draw) (defScope s__law_draw) .none kV5 dc5 pm5 an5 cd5 ct5), sl5⟩)
    (c5 : PySem.W.codeIn K cd5 "_law_draw" = true) (k5 : PySem.W.keepIn K (.ref f5) = true)
    {f6 : Addr} {od6 an6 : Option Addr} {sl6 : Array (Option Value)} {oc6 kV6 dc6 pm6 cd6 ct6 : Value}
    (a6 : PySem.W.nsIn K mainGlobals "_law_text" = some (some (.ref f6))) (l6 : K.lookup f6 = some ⟨oc6, od6, .func (PySem.W.fnOf "_law_text" "_law_text" (defArgs s__law_text) (defBody s__law_text) (defScope s__law_text) .none kV6 dc6 pm6 an6 cd6 ct6), sl6⟩)
    (c6 : PySem.W.codeIn K cd6 "_law_text" = true) (k6 : PySem.W.keepIn K (.ref f6) = true)
    {f7 : Addr} {od7 an7 : Option Addr} {sl7 : Array (Option Value)} {oc7 kV7 dc7 pm7 cd7 ct7 : Value}
    (a7 : PySem.W.nsIn K mainGlobals "_law_is_name" = some (some (.ref f7))) (l7 : K.lookup f7 = some ⟨oc7, od7, .func (PySem.W.fnOf "_law_is_name" "_law_is_name" (defArgs s__law_is_name) (defBody s__law_is_name) (defScope s__law_is_name) .none kV7 dc7 pm7 an7 cd7 ct7), sl7⟩)
    (c7 : PySem.W.codeIn K cd7 "_law_is_name" = true) (k7 : PySem.W.keepIn K (.ref f7) = true)
    {f8 : Addr} {od8 an8 : Option Addr} {sl8 : Array (Option Value)} {oc8 kV8 dc8 pm8 cd8 ct8 : Value}
    (a8 : PySem.W.nsIn K mainGlobals "_law_is_dart" = some (some (.ref f8))) (l8 : K.lookup f8 = some ⟨oc8, od8, .func (PySem.W.fnOf "_law_is_dart" "_law_is_dart" (defArgs s__law_is_dart) (defBody s__law_is_dart) (defScope s__law_is_dart) .none kV8 dc8 pm8 an8 cd8 ct8), sl8⟩)
    (c8 : PySem.W.codeIn K cd8 "_law_is_dart" = true) (k8 : PySem.W.keepIn K (.ref f8) = true)
    {f9 : Addr} {od9 an9 : Option Addr} {sl9 : Array (Option Value)} {oc9 kV9 dc9 pm9 cd9 ct9 : Value}
    (a9 : PySem.W.nsIn K mainGlobals "_law_things" = some (some (.ref f9))) (l9 : K.lookup f9 = some ⟨oc9, od9, .func (PySem.W.fnOf "_law_things" "_law_things" (defArgs s__law_things) (defBody s__law_things) (defScope s__law_things) .none kV9 dc9 pm9 an9 cd9 ct9), sl9⟩)
    (c9 : PySem.W.codeIn K cd9 "_law_things" = true) (k9 : PySem.W.keepIn K (.ref f9) = true)
    {f10 : Addr} {od10 an10 : Option Addr} {sl10 : Array (Option Value)} {oc10 kV10 dc10 pm10 cd10 ct10 : Value}
    (a10 : PySem.W.nsIn K mainGlobals "law" = some (some (.ref f10))) (l10 : K.lookup f10 = some ⟨oc10, od10, .func (PySem.W.fnOf "law" "law" (defArgs s_law) (defBody s_law) (defScope s_law) .none kV10 dc10 pm10 an10 cd10 ct10), sl10⟩)
    (c10 : PySem.W.codeIn K cd10 "law" = true) (k10 : PySem.W.keepIn K (.ref f10) = true)
    (z_all : PySem.W.nsIn K mainGlobals "all" = some none)
    (z_len : PySem.W.nsIn K mainGlobals "len" = some none)
    (z_isinstance : PySem.W.nsIn K mainGlobals "isinstance" = some none)
    (z_str : PySem.W.nsIn K mainGlobals "str" = some none)
    (z_bool : PySem.W.nsIn K mainGlobals "bool" = some none)
    (z_int : PySem.W.nsIn K mainGlobals "int" = some none)
    (z_tuple : PySem.W.nsIn K mainGlobals "tuple" = some none)
    (z_sum : PySem.W.nsIn K mainGlobals "sum" = some none)
    (z_abs : PySem.W.nsIn K mainGlobals "abs" = some none)
    (z_range : PySem.W.nsIn K mainGlobals "range" = some none)
    (z_max : PySem.W.nsIn K mainGlobals "max" = some none)
    (z_min : PySem.W.nsIn K mainGlobals "min" = some none)
    (z_repr : PySem.W.nsIn K mainGlobals "repr" = some none)
    {t_LETTERS : _} (y_LETTERS : PySem.W.nsIn K mainGlobals "LETTERS" = some (some (.str "abcdefghijklmnopqrstuvwxyz" t_LETTERS)))
    {t_MAX_LENGTH : _} (y_MAX_LENGTH : PySem.W.nsIn K mainGlobals "MAX_LENGTH" = some (some (.int 8 t_MAX_LENGTH)))
    : ∃ fd : FuncData, (∀ (s : Shared) (u : Value), BindsTo s fd ⟨[u], []⟩ [("_law_script", u)]) ∧ ∀ base : Heap, K.In base → base.Ns mainGlobals mg → FnG P w K mg base 3 fa fd ["_law_script"] (spF K 1 none m_law) := by
  have e := hfa.symm.trans (PySem.W.mg_of X G a10)
  cases e
  have F_is_name := fun_mk (st := s_is_name) l0 c0 k0
  have g_is_name := PySem.W.mg_of X G a0
  have B_is_name : Binds K _ ["value"] [] := F_is_name.binds (ps := ["value"]) fun _ _ _ _ _ _ us hl => match us, hl with | [_], _ => rfl
  have F_is_integer := fun_mk (st := s_is_integer) l1 c1 k1
  have g_is_integer := PySem.W.mg_of X G a1
  have B_is_integer : Binds K _ ["value", "low", "high"] [] := F_is_integer.binds (ps := ["value", "low", "high"]) fun _ _ _ _ _ _ us hl => match us, hl with | [_, _, _], _ => rfl
  have F_is_dart := fun_mk (st := s_is_dart) l2 c2 k2
  have g_is_dart := PySem.W.mg_of X G a2
  have B_is_dart : Binds K _ ["value"] [] := F_is_dart.binds (ps := ["value"]) fun _ _ _ _ _ _ us hl => match us, hl with | [_], _ => rfl
  have F_opposite := fun_mk (st := s_opposite) l3 c3 k3
  have g_opposite := PySem.W.mg_of X G a3
  have B_opposite : Binds K _ ["dart"] [] := F_opposite.binds (ps := ["dart"]) fun _ _ _ _ _ _ us hl => match us, hl with | [_], _ => rfl
  have F__law_source := fun_mk (st := s__law_source) l4 c4 k4
  have g__law_source := PySem.W.mg_of X G a4
  have B__law_source : Binds K _ ["_law_script", "_law_k"] [] := F__law_source.binds (ps := ["_law_script", "_law_k"]) fun _ _ _ _ _ _ us hl => match us, hl with | [_, _], _ => rfl
  have F__law_draw := fun_mk (st := s__law_draw) l5 c5 k5
  have g__law_draw := PySem.W.mg_of X G a5
  have B__law_draw : Binds K _ ["_law_source_here", "_law_many"] [] := F__law_draw.binds (ps := ["_law_source_here", "_law_many"]) fun _ _ _ _ _ _ us hl => match us, hl with | [_, _], _ => rfl
  have F__law_text := fun_mk (st := s__law_text) l6 c6 k6
  have g__law_text := PySem.W.mg_of X G a6
  have B__law_text : Binds K _ ["_law_source_here"] [] := F__law_text.binds (ps := ["_law_source_here"]) fun _ _ _ _ _ _ us hl => match us, hl with | [_], _ => rfl
  have F__law_is_name := fun_mk (st := s__law_is_name) l7 c7 k7
  have g__law_is_name := PySem.W.mg_of X G a7
  have B__law_is_name : Binds K _ ["_law_value"] [] := F__law_is_name.binds (ps := ["_law_value"]) fun _ _ _ _ _ _ us hl => match us, hl with | [_], _ => rfl
  have F__law_is_dart := fun_mk (st := s__law_is_dart) l8 c8 k8
  have g__law_is_dart := PySem.W.mg_of X G a8
  have B__law_is_dart : Binds K _ ["_law_value"] [] := F__law_is_dart.binds (ps := ["_law_value"]) fun _ _ _ _ _ _ us hl => match us, hl with | [_], _ => rfl
  have F__law_things := fun_mk (st := s__law_things) l9 c9 k9
  have g__law_things := PySem.W.mg_of X G a9
  have B__law_things : Binds K _ ["_law_source_here", "_law_text_here"] [] := F__law_things.binds (ps := ["_law_source_here", "_law_text_here"]) fun _ _ _ _ _ _ us hl => match us, hl with | [_, _], _ => rfl
  have F_law := fun_mk (st := s_law) l10 c10 k10
  have g_law := PySem.W.mg_of X G a10
  have b_all := PySem.W.mg_none_of X G z_all
  have b_len := PySem.W.mg_none_of X G z_len
  have b_isinstance := PySem.W.mg_none_of X G z_isinstance
  have b_str := PySem.W.mg_none_of X G z_str
  have b_bool := PySem.W.mg_none_of X G z_bool
  have b_int := PySem.W.mg_none_of X G z_int
  have b_tuple := PySem.W.mg_none_of X G z_tuple
  have b_sum := PySem.W.mg_none_of X G z_sum
  have b_abs := PySem.W.mg_none_of X G z_abs
  have b_range := PySem.W.mg_none_of X G z_range
  have b_max := PySem.W.mg_none_of X G z_max
  have b_min := PySem.W.mg_none_of X G z_min
  have b_repr := PySem.W.mg_none_of X G z_repr
  have g_LETTERS := PySem.W.mg_of X G y_LETTERS
  have g_MAX_LENGTH := PySem.W.mg_of X G y_MAX_LENGTH
  refine ⟨PySem.W.fnOf "law" "law" (defArgs s_law) (defBody s_law) (defScope s_law) .none kV10 dc10 pm10 an10 cd10 ct10, fun s u => .of_eq rfl, fun base _ _ => ?_⟩
  have G_is_nameh := G_is_name (P := P) (w := w) (K := K) (mg := mg) (base := base) F_is_name b_all b_len b_isinstance b_str g_LETTERS g_MAX_LENGTH
  have G_is_integerh := G_is_integer (P := P) (w := w) (K := K) (mg := mg) (base := base) F_is_integer b_isinstance b_bool b_int
  have G_is_darth := G_is_dart (P := P) (w := w) (K := K) (mg := mg) (base := base) F_is_dart G_is_integerh g_is_integer k1 B_is_integer G_is_nameh g_is_name k0 B_is_name b_len b_isinstance b_tuple
  have G_oppositeh := G_opposite (P := P) (w := w) (K := K) (mg := mg) (base := base) F_opposite
  have G__law_sourceh := G__law_source (P := P) (w := w) (K := K) (mg := mg) (base := base) F__law_source b_sum b_len b_abs b_int
  have G__law_drawh := G__law_draw (P := P) (w := w) (K := K) (mg := mg) (base := base) F__law_draw
  have G__law_texth := G__law_text (P := P) (w := w) (K := K) (mg := mg) (base := base) F__law_text G__law_drawh g__law_draw k5 B__law_draw b_range b_len
  have G__law_is_nameh := G__law_is_name (P := P) (w := w) (K := K) (mg := mg) (base := base) F__law_is_name b_len b_isinstance b_str
  have G__law_is_darth := G__law_is_dart (P := P) (w := w) (K := K) (mg := mg) (base := base) F__law_is_dart G__law_is_nameh g__law_is_name k7 B__law_is_name b_len b_isinstance b_tuple b_bool b_int
  have G__law_thingsh := G__law_things (P := P) (w := w) (K := K) (mg := mg) (base := base) F__law_things G__law_drawh g__law_draw k5 B__law_draw b_str
  exact G_law (P := P) (w := w) (K := K) (mg := mg) (base := base) F_law G__law_sourceh g__law_source k4 B__law_source G__law_thingsh g__law_things k9 B__law_things G__law_texth g__law_text k6 B__law_text G_is_darth g_is_dart k2 B_is_dart G_is_nameh g_is_name k0 B_is_name G__law_is_darth g__law_is_dart k8 B__law_is_dart G__law_is_nameh g__law_is_name k7 B__law_is_name G_oppositeh g_opposite k3 B_opposite b_range b_max b_min b_len b_repr
end K01
open PySem PySem.W PyProof.Rows
set_option maxHeartbeats 0 in
theorem PySem.Challenge.cw_handonwall_k01_names_and_darts_holds : PySem.Challenge.rw_handonwall_k01_names_and_darts.Holds := by
  w_on; o_law; k_head; (case hw => w_witness2)
  k_fill
  refine Fx.walkG (l := PySem.Challenge.rw_handonwall_k01_names_and_darts) (n := 63) (k := 3) (x := "_law_script") (mf := K01.m_law) rfl (by decide) rfl ⟨rfl, by decide, by decide⟩ (fun w h Y => PySem.W.kIn_of Y) ?F K01.main_law
  case F =>
    intro w mg fa h KX G hmg
    refine' K01.top_mk KX G hmg ?a0 ?l0 ?c0 ?k0 ?a1 ?l1 ?c1 ?k1 ?a2 ?l2 ?c2 ?k2 ?a3 ?l3 ?c3 ?k3 ?a4 ?l4 ?c4 ?k4 ?a5 ?l5 ?c5 ?k5 ?a6 ?l6 ?c6 ?k6 ?a7 ?l7 ?c7 ?k7 ?a8 ?l8 ?c8 ?k8 ?a9 ?l9 ?c9 ?k9 ?a10 ?l10 ?c10 ?k10 ?z_all ?z_len ?z_isinstance ?z_str ?z_bool ?z_int ?z_tuple ?z_sum ?z_abs ?z_range ?z_max ?z_min ?z_repr ?y_LETTERS ?y_MAX_LENGTH
    (case a0 => k_is); (case l0 => k_is); (case c0 => k_is); (case k0 => k_is); (case a1 => k_is); (case l1 => k_is); (case c1 => k_is); (case k1 => k_is)
    (case a2 => k_is); (case l2 => k_is); (case c2 => k_is); (case k2 => k_is); (case a3 => k_is); (case l3 => k_is); (case c3 => k_is); (case k3 => k_is)
    (case a4 => k_is); (case l4 => k_is); (case c4 => k_is); (case k4 => k_is); (case a5 => k_is); (case l5 => k_is); (case c5 => k_is); (case k5 => k_is)
    (case a6 => k_is); (case l6 => k_is); (case c6 => k_is); (case k6 => k_is); (case a7 => k_is); (case l7 => k_is); (case c7 => k_is); (case k7 => k_is)
    (case a8 => k_is); (case l8 => k_is); (case c8 => k_is); (case k8 => k_is); (case a9 => k_is); (case l9 => k_is); (case c9 => k_is); (case k9 => k_is)
    (case a10 => k_is); (case l10 => k_is); (case c10 => k_is); (case k10 => k_is); (case z_all => k_is); (case z_len => k_is); (case z_isinstance => k_is); (case z_str => k_is)
    (case z_bool => k_is); (case z_int => k_is); (case z_tuple => k_is); (case z_sum => k_is); (case z_abs => k_is); (case z_range => k_is); (case z_max => k_is); (case z_min => k_is)
    (case z_repr => k_is); (case y_LETTERS => k_is); (case y_MAX_LENGTH => k_is)
