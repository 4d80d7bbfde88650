import PyProof.Rows.All
import Wide.All
import OpenK.AllK
import Wide.FinOn
import HandS.ForMost
import HandS.ForExc
import HandS.CallSlots
import HandS.IsInst
import HandS.Exc
import HandS.ExcInit
import HandS.Wide
import HandS.Style
import HandS.Deep
import HandS.Text
import PyProof.StrOps2
import PyProof.Rows.InDataRows
import PyProof.ReprRoads
import HandS.TupLen
import KE.SortData
import HandS.More
import HandS.Dict
import HandS.Iter
import HandS.Small
import HandS.Comp
import HandS.TryOnly
import KE.KExcIs
import HandS.ExcField
import HandS.EndBits
import HandS.Words
import HandS.Defaults
import HandS.ExcIs
import HandS.DictComp
import HandS.Conv
import PyProof.ReprLen
import PyProof.Ascii
import KE.SortLaws
import PySem.Challenge.RW_handonwall_k07_corners
set_option Elab.async false
set_option linter.all false
set_option maxRecDepth 100000
set_option maxHeartbeats 4000000

/-! G: readings of Python code as functions on plain data trees. -/
namespace Fx
open PySem PySem.Spec PyProof.Rows L2

/-- data as a tree -/
inductive D where
  | non | bl (b : Bool) | int (i : Int) | str (x : Str)
  | lst (l : List D) | tup (l : List D) | dic (l : List (Key × D)) | dit (l : List (List Key × D)) | raw (v : V) | ins (c : Str) (fs : List (Str × D)) | exn (c : Str) (fs : List (Str × D))
instance : Inhabited D := ⟨.non⟩

def kD : Key → D
  | .inl i => .int i
  | .inr x => .str x
def ktD (k : List Key) : D := .tup (k.map kD)

/-- what the module's name c stands for, as the written part says -/
def clsV (K : PySem.W.Frag) (c : Str) : Value := match PySem.W.nsIn K mainGlobals c with
  | some (some v) => v
  | _ => .none
/-- at a: an exception of the class cls, with its own dict at d -/
def exh (a : Addr) (cls : Value) (d : Option Addr) : HO := .ext fun h => ∃ oe vs, h.get? a = some oe ∧ Zc cls d oe ∧ oe.data = .fields vs
mutual
/-- v stands for the tree in H -/
inductive Rp (K : PySem.W.Frag) (H : Hp) : V → D → Prop
  | non : Rp K H .non .non
  | bl (b : Bool) : Rp K H (.bl b) (.bl b)
  | int (i : Int) : Rp K H (.int i) (.int i)
  | str (x : Str) : Rp K H (.str x) (.str x)
  | lst {a : Addr} {xs : List V} {ds : List D} : SqL K H a xs → RpL K H xs ds → Rp K H (.ref a) (.lst ds)
  | tup {a : Addr} {xs : List V} {ds : List D} : H a = some (.tup xs) → RpL K H xs ds → Rp K H (.ref a) (.tup ds)
  | dicK {a : Addr} {kvs : List (Key × V)} {es : List (Key × D)} : Rd H a (.dK kvs) → RpK K H kvs es → Rp K H (.ref a) (.dic es)
  | dicT {a : Addr} {kvs : List (List Key × V)} {es : List (List Key × D)} : Rd H a (.dT kvs) → RpK K H kvs es → Rp K H (.ref a) (.dit es)
  | raw (v : V) : Rp K H v (.raw v)
  | ins {a C dx : Addr} {c : Str} {fs : List (Str × V)} {gs : List (Str × D)} : clsV K c = .ref C → H a = some (.ins C dx fs) → RpF K H fs gs → Rp K H (.ref a) (.ins c gs)
  | exn {a : Addr} {c : Str} {gs : List (Str × D)} : H a = some (exh a (clsV K c) none) → gs = [] → Rp K H (.ref a) (.exn c gs)
  | exd {a d : Addr} {c : Str} {fs : List (Str × V)} {gs : List (Str × D)} : H a = some (exh a (clsV K c) (some d)) → H d = some (.xd fs) → RpF K H fs gs → Rp K H (.ref a) (.exn c gs)
inductive RpL (K : PySem.W.Frag) (H : Hp) : List V → List D → Prop
  | nil : RpL K H [] []
  | cons {v : V} {vs : List V} {d : D} {ds : List D} : Rp K H v d → RpL K H vs ds → RpL K H (v :: vs) (d :: ds)
inductive RpK (K : PySem.W.Frag) (H : Hp) : {κ : Type} → List (κ × V) → List (κ × D) → Prop
  | nil {κ : Type} : RpK K H (κ := κ) [] []
  | cons {κ : Type} {k : κ} {v : V} {d : D} {r : List (κ × V)} {es : List (κ × D)} : Rp K H v d → RpK K H r es → RpK K H ((k, v) :: r) ((k, d) :: es)
inductive RpF (K : PySem.W.Frag) (H : Hp) : List (Str × V) → List (Str × D) → Prop
  | nil : RpF K H [] []
  | cons {k : Str} {v : V} {d : D} {r : List (Str × V)} {gs : List (Str × D)} : Rp K H v d → RpF K H r gs → RpF K H ((k, v) :: r) ((k, d) :: gs)
end

theorem same_rd {H H' : Hp} {a : Addr} {u : HO} (e : Same H H') (h : Rd H a u) : Rd H' a u := by
  rcases h with h | ⟨o, h⟩
  · exact .inl (e _ _ h)
  · exact .inr ⟨o, e _ _ h⟩
theorem same_t {K : PySem.W.Frag} {H H' : Hp} {a : Addr} {xs : List V} (e : Same H H') (h : SqT K H a xs) : SqT K H' a xs := by
  rcases h with h | h
  · exact .inl (same_rd e h)
  · exact .inr h

section
variable {K : PySem.W.Frag} {H H' : Hp}
mutual
theorem Rp.mono (e : Same H H') : ∀ {v : V} {d : D}, Rp K H v d → Rp K H' v d
  | _, _, .non => .non
  | _, _, .bl b => .bl b
  | _, _, .int i => .int i
  | _, _, .str x => .str x
  | _, _, .lst h t => .lst (e.seq h) (RpL.mono e t)
  | _, _, .tup h t => .tup (e _ _ h) (RpL.mono e t)
  | _, _, .dicK h t => .dicK (same_rd e h) (RpK.mono e t)
  | _, _, .dicT h t => .dicT (same_rd e h) (RpK.mono e t)
  | _, _, .raw v => .raw v
  | _, _, .ins z h t => .ins z (e _ _ h) (RpF.mono e t)
  | _, _, .exn h t => .exn (e _ _ h) t
  | _, _, .exd h g t => .exd (e _ _ h) (e _ _ g) (RpF.mono e t)
theorem RpL.mono (e : Same H H') : ∀ {v : List V} {d : List D}, RpL K H v d → RpL K H' v d
  | _, _, .nil => .nil
  | _, _, .cons h t => .cons (Rp.mono e h) (RpL.mono e t)
theorem RpK.mono (e : Same H H') : ∀ {κ : Type} {v : List (κ × V)} {d : List (κ × D)}, RpK K H v d → RpK K H' v d
  | _, _, _, .nil => .nil
  | _, _, _, .cons h t => .cons (Rp.mono e h) (RpK.mono e t)
theorem RpF.mono (e : Same H H') : ∀ {v : List (Str × V)} {d : List (Str × D)}, RpF K H v d → RpF K H' v d
  | _, _, .nil => .nil
  | _, _, .cons h t => .cons (Rp.mono e h) (RpF.mono e t)
end
/-- what is in F is in H; a dict may be locked there -/
def isDk : HO → Bool
  | .dK _ => true
  | .dT _ => true
  | _ => false
def Lk (F H : Hp) : Prop := ∀ b o, F b = some o → H b = some o ∨ (isDk o = true ∧ ∃ ob, H b = some (.frz ob o))
theorem Lk.of {F H : Hp} (s : Same F H) : Lk F H := fun b o e => .inl (s b o e)
theorem Lk.refl (H : Hp) : Lk H H := .of (.refl _)
theorem Lk.at {F H : Hp} (s : Lk F H) {b : Addr} {o : HO} (e : F b = some o) (h : isDk o = false) : H b = some o := by
  rcases s b o e with z | ⟨z, _⟩
  · exact z
  · rw [h] at z; cases z
theorem Lk.free {F H : Hp} (s : Lk F H) {p : Addr} (h : H p = none) : F p = none := by
  cases e : F p with
  | none => rfl
  | some o =>
    rcases s p o e with z | ⟨_, ob, z⟩
    · rw [h] at z; cases z
    · rw [h] at z; cases z
theorem Lk.grow {F H H2 : Hp} (s : Lk F H) (g : Same H H2) : Lk F H2 := fun b o e => by
  rcases s b o e with z | ⟨z, ob, q⟩
  · exact .inl (g _ _ z)
  · exact .inr ⟨z, ob, g _ _ q⟩
theorem Lk.rd {F H : Hp} (s : Lk F H) {a : Addr} {u : HO} (h : Rd F a u) : Rd H a u := by
  rcases h with h | ⟨o, h⟩
  · rcases s a u h with z | ⟨_, ob, z⟩
    · exact .inl z
    · exact .inr ⟨ob, z⟩
  · exact .inr ⟨o, s.at h rfl⟩
theorem Lk.seq {K : PySem.W.Frag} {F H : Hp} (s : Lk F H) {a : Addr} {xs : List V} (h : SqL K F a xs) : SqL K H a xs := by
  rcases h with h | h
  · exact .inl (s.rd h)
  · exact .inr h
mutual
theorem Rp.lk (e : Lk H H') : ∀ {v : V} {d : D}, Rp K H v d → Rp K H' v d
  | _, _, .non => .non
  | _, _, .bl b => .bl b
  | _, _, .int i => .int i
  | _, _, .str x => .str x
  | _, _, .lst h t => .lst (e.seq h) (RpL.lk e t)
  | _, _, .tup h t => .tup (e.at h rfl) (RpL.lk e t)
  | _, _, .dicK h t => .dicK (e.rd h) (RpK.lk e t)
  | _, _, .dicT h t => .dicT (e.rd h) (RpK.lk e t)
  | _, _, .raw v => .raw v
  | _, _, .ins z h t => .ins z (e.at h rfl) (RpF.lk e t)
  | _, _, .exn h t => .exn (e.at h rfl) t
  | _, _, .exd h g t => .exd (e.at h rfl) (e.at g rfl) (RpF.lk e t)
theorem RpL.lk (e : Lk H H') : ∀ {v : List V} {d : List D}, RpL K H v d → RpL K H' v d
  | _, _, .nil => .nil
  | _, _, .cons h t => .cons (Rp.lk e h) (RpL.lk e t)
theorem RpK.lk (e : Lk H H') : ∀ {κ : Type} {v : List (κ × V)} {d : List (κ × D)}, RpK K H v d → RpK K H' v d
  | _, _, _, .nil => .nil
  | _, _, _, .cons h t => .cons (Rp.lk e h) (RpK.lk e t)
theorem RpF.lk (e : Lk H H') : ∀ {v : List (Str × V)} {d : List (Str × D)}, RpF K H v d → RpF K H' v d
  | _, _, .nil => .nil
  | _, _, .cons h t => .cons (Rp.lk e h) (RpF.lk e t)
end
theorem RpL.length : ∀ {v : List V} {d : List D}, RpL K H v d → v.length = d.length
  | _, _, .nil => rfl
  | _, _, .cons _ t => by simp [RpL.length t]
theorem RpL.get : ∀ {vs : List V} {ds : List D} {i : Nat} {d : D}, RpL K H vs ds → ds[i]? = some d → ∃ v, vs[i]? = some v ∧ Rp K H v d
  | _, _, _, _, .nil, e => by simp at e
  | _, _, 0, _, .cons r _, e => by simp at e; subst e; exact ⟨_, rfl, r⟩
  | _, _, i + 1, d, .cons _ t, e => by
    obtain ⟨v, h1, h2⟩ := RpL.get (i := i) (d := d) t (by simpa using e)
    exact ⟨v, by simpa using h1, h2⟩
theorem RpL.append : ∀ {xs ys : List V} {ds es : List D}, RpL K H xs ds → RpL K H ys es → RpL K H (xs ++ ys) (ds ++ es)
  | _, _, _, _, .nil, s => s
  | _, _, _, _, .cons r t, s => .cons r (RpL.append t s)
theorem RpL.take : ∀ {xs : List V} {ds : List D} (n : Nat), RpL K H xs ds → RpL K H (xs.take n) (ds.take n)
  | _, _, 0, _ => .nil
  | _, _, _ + 1, .nil => .nil
  | _, _, n + 1, .cons r t => .cons r (RpL.take n t)
theorem RpL.drop : ∀ {xs : List V} {ds : List D} (n : Nat), RpL K H xs ds → RpL K H (xs.drop n) (ds.drop n)
  | _, _, 0, r => r
  | _, _, _ + 1, .nil => .nil
  | _, _, n + 1, .cons _ t => RpL.drop n t
theorem RpL.set {x : V} {d : D} (r : Rp K H x d) : ∀ {xs : List V} {ds : List D} (i : Nat), RpL K H xs ds → RpL K H (xs.set i x) (ds.set i d)
  | _, _, _, .nil => .nil
  | _, _, 0, .cons _ t => .cons r t
  | _, _, i + 1, .cons q t => .cons q (RpL.set r i t)
end

/-- a list or dict at a that may be written: its items stay -/
def OwnAt (K : PySem.W.Frag) (Hf H : Hp) (a : Addr) : D → Prop
  | .lst ds => ∃ xs, H a = some (.lst xs) ∧ RpL K Hf xs ds
  | .dic es => ∃ kvs, H a = some (.dK kvs) ∧ RpK K Hf kvs es
  | .dit es => ∃ kvs, H a = some (.dT kvs) ∧ RpK K Hf kvs es
  | _ => False
theorem OwnAt.mono {K : PySem.W.Frag} {Hf Hf' H H' : Hp} {a : Addr} {d : D} (e : Same Hf Hf') (h : H' a = H a) (o : OwnAt K Hf H a d) : OwnAt K Hf' H' a d := by
  cases d with
  | lst ds => obtain ⟨xs, h1, h2⟩ := o; exact ⟨xs, h.trans h1, h2.mono e⟩
  | dic es => obtain ⟨kvs, h1, h2⟩ := o; exact ⟨kvs, h.trans h1, h2.mono e⟩
  | dit es => obtain ⟨kvs, h1, h2⟩ := o; exact ⟨kvs, h.trans h1, h2.mono e⟩
  | _ => exact o.elim
theorem OwnAt.there {K : PySem.W.Frag} {Hf H : Hp} {a : Addr} {d : D} (o : OwnAt K Hf H a d) : ∃ u, H a = some u := by
  cases d with
  | lst ds => obtain ⟨xs, h1, h2⟩ := o; exact ⟨_, h1⟩
  | dic es => obtain ⟨kvs, h1, h2⟩ := o; exact ⟨_, h1⟩
  | dit es => obtain ⟨kvs, h1, h2⟩ := o; exact ⟨_, h1⟩
  | _ => exact o.elim
/-- .. as a tree that stays -/
theorem OwnAt.rp {K : PySem.W.Frag} {Hf H : Hp} {a : Addr} {d : D} (e : Lk Hf H) (o : OwnAt K Hf H a d) : Rp K H (.ref a) d := by
  cases d with
  | lst ds => obtain ⟨xs, h1, h2⟩ := o; exact .lst (SqL.of h1) (h2.lk e)
  | dic es => obtain ⟨kvs, h1, h2⟩ := o; exact .dicK (.inl h1) (h2.lk e)
  | dit es => obtain ⟨kvs, h1, h2⟩ := o; exact .dicT (.inl h1) (h2.lk e)
  | _ => exact o.elim

/-- it stayed before, or it is a tuple (which never changes) -/
def Old (F : Hp) (b : Addr) (o : HO) : Prop := (∃ u, F b = some u) ∨ ∃ xs, o = .tup xs
theorem OwnAt.notup {K : PySem.W.Frag} {Hf H : Hp} {a : Addr} {d : D} {xs : List V} (o : OwnAt K Hf H a d) (h : H a = some (.tup xs)) : False := by
  cases d with
  | lst ds => obtain ⟨ys, h1, _⟩ := o; rw [h] at h1; cases h1
  | dic es => obtain ⟨ys, h1, _⟩ := o; rw [h] at h1; cases h1
  | dit es => obtain ⟨ys, h1, _⟩ := o; rw [h] at h1; cases h1
  | _ => exact o.elim
/-- what is at b in H is at b in F, a dict is locked there -/
def LkAt (F H : Hp) (b : Addr) : Prop := ∀ u, H b = some u → (isDk u = false → F b = some u) ∧ (isDk u = true → ∃ ob, F b = some (.frz ob u))
/-- the dicts of A are locked -/
structure Lkd (A : List Addr) (H H2 : Hp) : Prop where
  off : ∀ b, b ∉ A → H2 b = H b
  on : ∀ b, b ∈ A → LkAt H2 H b
  nn : ∀ b, b ∈ A → H b = none → H2 b = none
/-- no dict that stays may be written: it is locked -/
def NoDk (F : Hp) : Prop := ∀ b u, F b = some u → isDk u = false
theorem NoDk.put {F : Hp} (h : NoDk F) {p : Addr} {o : HO} (ho : isDk o = false) : NoDk (upd F p o) := fun b u e => by
  by_cases hb : b = p
  · subst hb; rw [upd_same] at e; cases e; exact ho
  · rw [upd_ne hb] at e; exact h b u e
/-- the heap grows, what stays grows with it -/
structure Grow (F H F' H' : Hp) : Prop where
  fz : Same F F'
  hp : Same H H'
  sub : Lk F' H'
  new : ∀ b o, F' b = some o → Old F b o ∨ H b = none
  nd : NoDk F → NoDk F'
theorem Grow.refl {F H : Hp} (s : Lk F H) : Grow F H F H := ⟨.refl _, .refl _, s, fun b o h => .inl (.inl ⟨o, h⟩), id⟩
theorem Grow.trans {F H F1 H1 F2 H2 : Hp} (a : Grow F H F1 H1) (b : Grow F1 H1 F2 H2) : Grow F H F2 H2 :=
  ⟨a.fz.trans b.fz, a.hp.trans b.hp, b.sub, fun x o h => by
    rcases b.new x o h with (⟨u, q⟩ | q) | q
    · have e : u = o := Option.some.inj ((b.fz x u q).symm.trans h)
      subst e
      exact a.new x u q
    · exact .inl (.inr q)
    · exact .inr (a.hp.free q), fun h => b.nd (a.nd h)⟩
theorem same_new {H : Hp} {p : Addr} {o : HO} (h : H p = none) : Same H (upd H p o) := fun b x e => by
  rw [upd_ne (ne_of_none e h)]
  exact e
theorem same_none {F H : Hp} (s : Lk F H) {p : Addr} (h : H p = none) : F p = none := s.free h
theorem same_upd2 {F H : Hp} {p : Addr} {o : HO} (s : Lk F H) : Lk (upd F p o) (upd H p o) := fun b x e => by
  by_cases hb : b = p
  · subst hb; rw [upd_same] at e ⊢; exact .inl e
  · rw [upd_ne hb] at e ⊢; exact s _ _ e
/-- a new object that stays -/
theorem Grow.one {F H : Hp} (s : Lk F H) {p : Addr} {o : HO} (h : H p = none) (ho : isDk o = false := by rfl) : Grow F H (upd F p o) (upd H p o) :=
  ⟨same_new (same_none s h), same_new h, same_upd2 s, fun b x e => by
    by_cases hb : b = p
    · subst hb; exact .inr h
    · rw [upd_ne hb] at e; exact .inl (.inl ⟨x, e⟩), fun h => h.put ho⟩
/-- a new object beside what stays -/
theorem Grow.beside {F H : Hp} (s : Lk F H) {p : Addr} {o : HO} (h : H p = none) : Grow F H F (upd H p o) :=
  ⟨.refl _, same_new h, s.grow (same_new h), fun b x e => .inl (.inl ⟨x, e⟩), id⟩


end Fx

/-! Fx: operators, comparisons and built-in calls as functions on trees. -/
namespace Fx
open PySem PySem.Spec PyProof.Rows L2

/-- v reads as the tree now: it stays, or it is a list or dict of one's own -/
inductive Rq (K : PySem.W.Frag) (F H : Hp) : V → D → Prop
  | rp {v : V} {d : D} : Rp K F v d → Rq K F H v d
  | own {a : Addr} {d : D} : OwnAt K F H a d → Rq K F H (.ref a) d
inductive RqL (K : PySem.W.Frag) (F H : Hp) : List V → List D → Prop
  | nil : RqL K F H [] []
  | cons {v : V} {vs : List V} {d : D} {ds : List D} : Rq K F H v d → RqL K F H vs ds → RqL K F H (v :: vs) (d :: ds)

section
variable {K : PySem.W.Frag} {F H : Hp} {v : V}
theorem Rq.to (s : Lk F H) {d : D} : Rq K F H v d → Rp K H v d
  | .rp r => r.lk s
  | .own o => o.rp s
theorem Rq.int {i : Int} : Rq K F H v (.int i) → v = .int i
  | .rp r => by cases r; rfl
  | .own o => o.elim
theorem Rq.bl {i : Bool} : Rq K F H v (.bl i) → v = .bl i
  | .rp r => by cases r; rfl
  | .own o => o.elim
theorem Rq.str {i : Str} : Rq K F H v (.str i) → v = .str i
  | .rp r => by cases r; rfl
  | .own o => o.elim
theorem Rq.non : Rq K F H v .non → v = .non
  | .rp r => by cases r; rfl
  | .own o => o.elim
theorem Rq.raw {x : V} : Rq K F H v (.raw x) → v = x
  | .rp r => by cases r; rfl
  | .own o => o.elim
theorem Rq.lst (s : Lk F H) {ds : List D} : Rq K F H v (.lst ds) → ∃ a xs, v = .ref a ∧ SqL K H a xs ∧ RpL K F xs ds
  | .rp r => by
    cases r with
    | lst h t => exact ⟨_, _, rfl, s.seq h, t⟩
  | .own o => by
    obtain ⟨xs, h, t⟩ := o
    exact ⟨_, xs, rfl, SqL.of h, t⟩
theorem Rq.tup (s : Lk F H) {ds : List D} : Rq K F H v (.tup ds) → ∃ a xs, v = .ref a ∧ SqT K H a xs ∧ RpL K F xs ds
  | .rp r => by
    cases r with
    | tup h t => exact ⟨_, _, rfl, SqT.of (s.at h rfl), t⟩
  | .own o => o.elim
theorem Rq.dic (s : Lk F H) {es : List (Key × D)} : Rq K F H v (.dic es) → ∃ a kvs, v = .ref a ∧ Rd H a (.dK kvs) ∧ RpK K F kvs es
  | .rp r => by
    cases r with
    | dicK h t => exact ⟨_, _, rfl, s.rd h, t⟩
  | .own o => by
    obtain ⟨kvs, h, t⟩ := o
    exact ⟨_, _, rfl, .inl h, t⟩
theorem Rq.dit (s : Lk F H) {es : List (List Key × D)} : Rq K F H v (.dit es) → ∃ a kvs, v = .ref a ∧ Rd H a (.dT kvs) ∧ RpK K F kvs es
  | .rp r => by
    cases r with
    | dicT h t => exact ⟨_, _, rfl, s.rd h, t⟩
  | .own o => by
    obtain ⟨kvs, h, t⟩ := o
    exact ⟨_, _, rfl, .inl h, t⟩
theorem Rq.tupH (s : Lk F H) {ds : List D} : Rq K F H v (.tup ds) → ∃ a xs, v = .ref a ∧ H a = some (.tup xs) ∧ RpL K F xs ds
  | .rp r => by
    cases r with
    | tup h t => exact ⟨_, _, rfl, s.at h rfl, t⟩
  | .own o => o.elim
theorem Rq.ins (s : Lk F H) {c : Str} {gs : List (Str × D)} : Rq K F H v (.ins c gs) → ∃ a C dx fs, v = .ref a ∧ clsV K c = .ref C ∧ H a = some (.ins C dx fs) ∧ RpF K F fs gs
  | .rp r => by
    cases r with
    | ins z h t => exact ⟨_, _, _, _, rfl, z, s.at h rfl, t⟩
  | .own o => o.elim
theorem Rq.exn {c : Str} {gs : List (Str × D)} : Rq K F H v (.exn c gs) → ∃ a, v = .ref a
  | .rp r => by
    cases r with
    | exn h t => exact ⟨_, rfl⟩
    | exd h g t => exact ⟨_, rfl⟩
  | .own o => o.elim
theorem RqL.one {xs : List V} {d : D} (h : RqL K F H xs [d]) : ∃ v, xs = [v] ∧ Rq K F H v d := by
  cases h with
  | cons a b => cases b; exact ⟨_, rfl, a⟩
theorem RqL.two {xs : List V} {d e : D} (h : RqL K F H xs [d, e]) : ∃ v u, xs = [v, u] ∧ Rq K F H v d ∧ Rq K F H u e := by
  cases h with
  | cons a b => obtain ⟨u, rfl, q⟩ := b.one; exact ⟨_, _, rfl, a, q⟩
theorem RqL.zero {xs : List V} (h : RqL K F H xs []) : xs = [] := by cases h; rfl
end

/-! ### by values -/
/-- what stands behind: a value for the tree z, the heap grown -/
def Out (K : PySem.W.Frag) (F H : Hp) (z : D) (Q : VK) : Prop := ∀ v F' H', Grow F H F' H' → Rp K F' v z → Q v H'
theorem Out.same {K : PySem.W.Frag} {F H : Hp} {z : D} {Q : VK} (o : Out K F H z Q) (s : Lk F H) {v : V} (r : Rp K F v z) : Q v H := o v F H (.refl s) r
def rF2 (K : PySem.W.Frag) (f : D → D → Option D) : R2 := fun x y H Q => ∃ F d e z, Lk F H ∧ Rq K F H x d ∧ Rq K F H y e ∧ f d e = some z ∧ Out K F H z Q
def rF1 (K : PySem.W.Frag) (f : D → Option D) : V → Hp → VK → Prop := fun x H Q => ∃ F d z, Lk F H ∧ Rq K F H x d ∧ f d = some z ∧ Out K F H z Q
def rFn (K : PySem.W.Frag) (g : List D → Option D) : List V → Hp → VK → Prop := fun xs H Q => ∃ F ds z, Lk F H ∧ RqL K F H xs ds ∧ g ds = some z ∧ Out K F H z Q
def rFm (K : PySem.W.Frag) (g : D → List D → Option D) : V → List V → Hp → VK → Prop := fun x xs H Q => ∃ F d ds z, Lk F H ∧ Rq K F H x d ∧ RqL K F H xs ds ∧ g d ds = some z ∧ Out K F H z Q
/-- a new list, a new tuple of what stays -/
theorem Out.lnew {K : PySem.W.Frag} {F H : Hp} {ds : List D} {Q : VK} (o : Out K F H (.lst ds) Q) (s : Lk F H) {p : Addr} {xs : List V} (h : H p = none) (r : RpL K F xs ds) : Q (.ref p) (upd H p (.lst xs)) :=
  o _ _ _ (Grow.one s h) (.lst (SqL.of upd_same) (r.mono (same_new (same_none s h))))
theorem Out.tnew {K : PySem.W.Frag} {F H : Hp} {ds : List D} {Q : VK} (o : Out K F H (.tup ds) Q) (s : Lk F H) {p : Addr} {xs : List V} (h : H p = none) (r : RpL K F xs ds) : Q (.ref p) (upd H p (.tup xs)) :=
  o _ _ _ (Grow.one s h) (.tup upd_same (r.mono (same_new (same_none s h))))

/-- a list or a dict comes: it is new -/
def isNw : D → Bool
  | .lst _ => true
  | .dic _ => true
  | .dit _ => true
  | _ => false
structure OutN (K : PySem.W.Frag) (F H : Hp) (z : D) (Q : VK) : Prop where
  sm : isNw z = false → ∀ v, Rp K F v z → Q v H
  ln : ∀ F2 ds p xs, z = .lst ds → H p = none → Grow F H F2 H → RpL K F2 xs ds → Q (.ref p) (upd H p (.lst xs))
theorem OutN.same {K : PySem.W.Frag} {F H : Hp} {z : D} {Q : VK} (o : OutN K F H z Q) (s : Lk F H) {v : V} (r : Rp K F v z) (h : isNw z = false := by rfl) : Q v H := o.sm h v r
theorem OutN.lnew {K : PySem.W.Frag} {F H : Hp} {ds : List D} {Q : VK} (o : OutN K F H (.lst ds) Q) (s : Lk F H) {p : Addr} {xs : List V} (h : H p = none) (r : RpL K F xs ds) : Q (.ref p) (upd H p (.lst xs)) := o.ln _ _ _ _ rfl h (.refl s) r
theorem Out.nw {K : PySem.W.Frag} {F H : Hp} {z : D} {Q : VK} (s : Lk F H) (o : Out K F H z Q) : OutN K F H z Q :=
  ⟨fun _ v r => o.same s r, fun F2 ds p xs e h g r => by subst e; exact Out.lnew (fun v F' H' g' r' => o v F' H' (g.trans g') r') g.sub h r⟩
def rF2N (K : PySem.W.Frag) (f : D → D → Option D) : R2 := fun x y H Q => ∃ F d e z, Lk F H ∧ Rq K F H x d ∧ Rq K F H y e ∧ f d e = some z ∧ OutN K F H z Q
def rFnN (K : PySem.W.Frag) (g : List D → Option D) : List V → Hp → VK → Prop := fun xs H Q => ∃ F ds z, Lk F H ∧ RqL K F H xs ds ∧ g ds = some z ∧ OutN K F H z Q

/-- a new dict of one's own -/
def rFnD (K : PySem.W.Frag) (g : List D → Option D) : List V → Hp → VK → Prop := fun xs H Q => ∃ F ds es, Lk F H ∧ RqL K F H xs ds ∧ g ds = some (.dic es) ∧ ∀ p kvs, H p = none → RpK K F kvs es → Q (.ref p) (upd H p (.dK kvs))

/-! ### data of the library -/
mutual
def toPy : D → PyData
  | .non => .none
  | .bl b => .bool b
  | .int i => .int i
  | .str x => .str x
  | .lst l => .list (toPyL l)
  | .tup l => .tuple (toPyL l)
  | .dic l => .dict (toPyK l)
  | .dit l => .dict (toPyT l)
  | .raw _ => .none
  | .ins _ _ => .none
  | .exn _ _ => .none
def toPyL : List D → List PyData
  | [] => []
  | d :: r => toPy d :: toPyL r
def toPyK : List (Key × D) → List (PyData × PyData)
  | [] => []
  | (.inl i, d) :: r => (.int i, toPy d) :: toPyK r
  | (.inr x, d) :: r => (.str x, toPy d) :: toPyK r
def toPyT : List (List Key × D) → List (PyData × PyData)
  | [] => []
  | (k, d) :: r => (.tuple (k.map fun c => match c with | .inl i => .int i | .inr x => .str x), toPy d) :: toPyT r
end
mutual
/-- none, bools, ints, texts, lists, tuples -/
def flatD : D → Bool
  | .lst l => flatL l
  | .tup l => flatL l
  | .dic _ => false
  | .dit _ => false
  | .raw _ => false
  | .ins _ _ => false
  | .exn _ _ => false
  | _ => true
def flatL : List D → Bool
  | [] => true
  | d :: r => flatD d && flatL r
end
section
variable {K : PySem.W.Frag} {H : Hp}
mutual
theorem Rp.dp : ∀ {d : D} {v : V}, Rp K H v d → flatD d = true → Dp K H v (toPy d)
  | .non, _, r, _ => by cases r; simp only [toPy]; exact .non
  | .bl b, _, r, _ => by cases r; simp only [toPy]; exact .bl b
  | .int i, _, r, _ => by cases r; simp only [toPy]; exact .int i
  | .str x, _, r, _ => by cases r; simp only [toPy]; exact .str x
  | .lst l, _, r, h => by
    cases r with
    | lst a b => simp only [toPy]; exact .lst a (RpL.dp b (by simpa [flatD] using h))
  | .tup l, _, r, h => by
    cases r with
    | tup a b => simp only [toPy]; exact .tup (SqT.of a) (RpL.dp b (by simpa [flatD] using h))
  | .dic l, _, _, h => by simp [flatD] at h
  | .dit l, _, _, h => by simp [flatD] at h
  | .raw _, _, _, h => by simp [flatD] at h
  | .ins _ _, _, _, h => by simp [flatD] at h
theorem RpL.dp : ∀ {ds : List D} {vs : List V}, RpL K H vs ds → flatL ds = true → DpAll K H vs (toPyL ds)
  | [], _, r, _ => by cases r; simp only [toPyL]; exact .nil
  | d :: ds, _, r, h => by
    cases r with
    | cons a b =>
      simp only [flatL, Bool.and_eq_true] at h
      simp only [toPyL]
      exact .cons (Rp.dp a h.1) (RpL.dp b h.2)
end
end

/-! ### operators -/
def okSize (n : Nat) : Bool := decide (n ≤ sizeLine)
def addD : D → D → Option D
  | .int a, .int b => some (.int (a + b))
  | .str a, .str b => if a.length + b.length ≤ sizeLine then some (.str (a ++ b)) else none
  | .lst a, .lst b => if a.length + b.length ≤ sizeLine then some (.lst (a ++ b)) else none
  | _, _ => none
def subD : D → D → Option D
  | .int a, .int b => some (.int (a - b))
  | _, _ => none
/-- one factor below 2 ^ 64 -/
def smallI (m : Nat) : Int → Bool
  | .ofNat n => Nat.blt n m
  | .negSucc n => Nat.blt (n + 1) m
theorem smallI_iff {m : Nat} {a : Int} : smallI m a = true ↔ -(m : Int) < a ∧ a < m := by
  cases a with
  | ofNat n =>
    show Nat.blt n m = true ↔ _
    rw [Nat.blt_eq, Int.ofNat_eq_natCast]
    omega
  | negSucc n =>
    show Nat.blt (n + 1) m = true ↔ _
    rw [Nat.blt_eq, Int.negSucc_eq]
    omega
def bigN : Nat := 2 ^ 4000
def mulIn (a b : Int) : Bool := smallI 18446744073709551616 a || smallI 18446744073709551616 b || (smallI bigN a && smallI bigN b)
theorem big_abs {a : Int} (h : smallI bigN a = true) : a.natAbs < 2 ^ 4000 := by
  rw [smallI_iff] at h
  obtain ⟨h1, h2⟩ := h
  show a.natAbs < bigN
  generalize bigN = n at *
  omega
theorem mulIn_in {a b : Int} (h : mulIn a b = true) : ((-(2 ^ 64) < a ∧ a < 2 ^ 64) ∨ (-(2 ^ 64) < b ∧ b < 2 ^ 64)) ∨ CMulW a b := by
  unfold mulIn at h
  rw [Bool.or_eq_true, Bool.or_eq_true, smallI_iff, smallI_iff, Bool.and_eq_true] at h
  rcases h with h | ⟨h1, h2⟩
  · exact .inl h
  · exact .inr (wide_mul (big_abs h1) (big_abs h2) (by decide) (by decide) (by decide))
/-- what a floor division asks of its divisor -/
def divIn (b : Int) : Bool := (smallI 1073741824 b && decide (b ≠ 0)) || (decide (0 < b) && smallI bigN b)
theorem divIn_in {b : Int} (h : divIn b = true) : (b ≠ 0 ∧ b.natAbs < 1073741824) ∨ (0 < b ∧ b.natAbs < 2 ^ 4000) := by
  unfold divIn at h
  rw [Bool.or_eq_true, Bool.and_eq_true, Bool.and_eq_true, decide_eq_true_eq, decide_eq_true_eq] at h
  rcases h with ⟨h1, h2⟩ | ⟨h1, h2⟩
  · rw [smallI_iff] at h1
    exact .inl ⟨h2, by omega⟩
  · exact .inr ⟨h1, big_abs h2⟩
def repS (x : Str) (n : Nat) : Str := ⟨(List.replicate n x.cps).foldl (· ++ ·) #[]⟩
theorem repS_one (x : Str) : repS x 1 = x := by
  cases x
  simp [repS]
theorem repS_nil {x : Str} (h : x.length = 0) : ∀ n : Nat, repS x n = x := by
  have e : x.cps = #[] := by
    have h' : x.cps.size = 0 := h
    exact Array.eq_empty_of_size_eq_zero h'
  have f : ∀ n : Nat, (List.replicate n (#[] : Array Nat)).foldl (· ++ ·) #[] = #[] := fun n => by
    induction n with
    | zero => rfl
    | succ k ih => rw [List.replicate_succ, List.foldl_cons]; exact ih
  intro n
  cases x with
  | mk c =>
    have e' : c = #[] := e
    subst e'
    unfold repS
    exact congrArg Str.mk (f n)
def mulD : D → D → Option D
  | .int a, .int b => if mulIn a b then some (.int (a * b)) else none
  | .str x, .int n => if 0 < n ∧ n < 1000 ∧ x.length * n.toNat ≤ sizeLine then some (.str (repS x n.toNat)) else none
  | .lst x, .int n => if 0 ≤ n ∧ n < 2 ^ 63 ∧ x.length * n.toNat ≤ sizeLine then some (.lst (List.replicate n.toNat x).flatten) else none
  | _, _ => none
def divD : D → D → Option D
  | .int a, .int b => if divIn b then some (.int (a.fdiv b)) else none
  | _, _ => none
def modD : D → D → Option D
  | .int a, .int b => if b ≠ 0 then some (.int (a.fmod b)) else none
  | _, _ => none
def powD : D → D → Option D
  | .int a, .int b => if 0 ≤ b ∧ b ≤ 1000000 ∧ a.natAbs < 2 ^ 64 then some (.int (a ^ b.toNat)) else none
  | _, _ => none
def negD : D → Option D
  | .int a => some (.int (-a))
  | _ => none

section
variable {X : Cx}
theorem list_cat {pins : List (Addr × Obj)} {σ : L2.St} {H : Hp} {s : Shared} {l b : Addr} {xs zs : List V} {Q : VK} (I : Inv X pins σ H s) (hl : SqL X.K H l xs) (hb : SqL X.K H b zs) (hz : xs.length + zs.length ≤ sizeLine)
    (q : ∀ p, H p = none → Q (.ref p) (upd H p (.lst (xs ++ zs)))) : wpAny (model X.prog X.w) X.A (binaryOp .Add (.ref l) (.ref b)) (EP X pins σ Q) X.xe s := by
  obtain ⟨i1, r1, ⟨⟨cl1, dc1, dt1, sl1⟩, n1, e1, c1, k1, d1⟩, _⟩ := I.list hl
  obtain ⟨i2, r2, ⟨⟨cl2, dc2, dt2, sl2⟩, n2, e2, c2, k2, d2⟩, _⟩ := I.list hb
  have z1 := r1.length
  have z2 := r2.length
  simp only at c1 k1 d1 c2 k2 d2
  subst c1 k1 d1 c2 k2 d2
  have hsz : i1.toArray.size + i2.toArray.size ≤ sizeLine := by rw [List.size_toArray, List.size_toArray]; omega
  refine PySem.concat_meets ⟨_, e1, rfl⟩ ⟨_, e2, rfl⟩ noFill_list_add seq_list_add PySem.F.slot_list_add PySem.F.entry_list_add (PySem.F.args_list_add_2 _ _) (list_addW l b i1.toArray i2.toArray n1 n2 none none sl1 sl2 hsz) ⟨e1, e2, ?_⟩
  have ea : i1.toArray ++ i2.toArray = (i1 ++ i2).toArray := by simp
  rw [ea]
  exact ⟨.ref _, _, I.lnew (t' := s.toks) (r1.append r2) (by rw [List.length_append]; omega), rfl, q _ I.fresh⟩
theorem op_addF : OpR X (binaryOp .Add) (rF2N X.K addD) := by
  intro pins s σ H x y v u Q I rx ry ⟨F, d, e, z, sF, qd, qe, hz, o⟩
  unfold addD at hz
  split at hz
  · cases hz
    exact op_add pins s σ H x y v u Q I rx ry ⟨_, _, qd.int, qe.int, o.same sF (.int _)⟩
  · split at hz
    · cases hz
      exact op_add_str pins s σ H x y v u Q I rx ry ⟨_, _, qd.str, qe.str, by assumption, o.same sF (.str _)⟩
    · cases hz
  · split at hz
    · rename_i hl
      cases hz
      obtain ⟨l, xs, rfl, h1, t1⟩ := qd.lst sF
      obtain ⟨b, ys, rfl, h2, t2⟩ := qe.lst sF
      cases rx
      cases ry
      exact list_cat I h1 h2 (by rw [t1.length, t2.length]; exact hl) fun p hp => o.lnew sF hp (t1.append t2)
    · cases hz
  · cases hz
theorem op_subF : OpR X (binaryOp .Sub) (rF2 X.K subD) := by
  intro pins s σ H x y v u Q I rx ry ⟨F, d, e, z, sF, qd, qe, hz, o⟩
  unfold subD at hz
  split at hz
  · cases hz
    exact op_sub pins s σ H x y v u Q I rx ry ⟨_, _, qd.int, qe.int, o.same sF (.int _)⟩
  · cases hz
theorem op_divF : OpR X (binaryOp .FloorDiv) (rF2 X.K divD) := by
  intro pins s σ H x y v u Q I rx ry ⟨F, d, e, z, sF, qd, qe, hz, o⟩
  unfold divD at hz
  split at hz
  · split at hz
    · rename_i hd
      cases hz
      rcases divIn_in hd with hd | ⟨h1, h2⟩
      · exact op_fdivN pins s σ H x y v u Q I rx ry ⟨_, _, qd.int, qe.int, hd, o.same sF (.int _)⟩
      · exact op_fdivW pins s σ H x y v u Q I rx ry ⟨_, _, qd.int, qe.int, wide_div h1 h2 (by decide) (by decide), by simp only []; rw [← Int.fdiv_eq_ediv_of_nonneg _ (by omega)]; exact o.same sF (.int _)⟩
    · cases hz
  · cases hz
theorem op_modF : OpR X (binaryOp .Mod) (rF2 X.K modD) := by
  intro pins s σ H x y v u Q I rx ry ⟨F, d, e, z, sF, qd, qe, hz, o⟩
  unfold modD at hz
  split at hz
  · split at hz
    · cases hz
      exact op_modN pins s σ H x y v u Q I rx ry ⟨_, _, qd.int, qe.int, by assumption, o.same sF (.int _)⟩
    · cases hz
  · cases hz
theorem op_powF : OpR X (binaryOp .Pow) (rF2 X.K powD) := by
  intro pins s σ H x y v u Q I rx ry ⟨F, d, e, z, sF, qd, qe, hz, o⟩
  unfold powD at hz
  split at hz
  · split at hz
    · cases hz
      exact op_pow pins s σ H x y v u Q I rx ry ⟨_, _, qd.int, qe.int, by assumption, o.same sF (.int _)⟩
    · cases hz
  · cases hz
theorem un_negF : UnR X (unaryOp .USub) (rF1 X.K negD) := by
  intro pins s σ H x v Q I rx ⟨F, d, z, sF, qd, hz, o⟩
  unfold negD at hz
  split at hz
  · cases hz
    exact un_neg pins s σ H x v Q I rx ⟨_, qd.int, o.same sF (.int _)⟩
  · cases hz
theorem op_mulF : OpR X (binaryOp .Mult) (rF2N X.K mulD) := by
  intro pins s σ H x y v u Q I rx ry ⟨F, d, e, z, sF, qd, qe, hz, o⟩
  unfold mulD at hz
  split at hz
  · split at hz
    · rename_i hm
      cases hz
      rcases mulIn_in hm with hm | hm
      · exact op_mul pins s σ H x y v u Q I rx ry ⟨_, _, qd.int, qe.int, hm, o.same sF (.int _)⟩
      · exact op_mulW pins s σ H x y v u Q I rx ry ⟨_, _, qd.int, qe.int, hm, o.same sF (.int _)⟩
    · cases hz
  · rename_i x' n
    split at hz
    · rename_i hn
      cases hz
      cases qd.str
      cases qe.int
      obtain ⟨t, rfl⟩ := rx
      obtain ⟨t', rfl⟩ := ry
      have h1 : (decide (n < -(2 ^ 63 : Int)) || decide (n ≥ 2 ^ 63)) = false := by
        rw [Bool.or_eq_false_iff]
        exact ⟨decide_eq_false (by omega), decide_eq_false (by omega)⟩
      have hsz : sizeLine = 16777216 := sizeLine_eq
      have hle : x'.length ≤ x'.length * n.toNat := Nat.le_mul_of_pos_right _ (by omega)
      refine PySem.P.mul_str h1 (fun _ _ => ?_) (fun _ _ => ?_) ?_
      · have : (16777216 : Int) ≤ (2 ^ 63 - 1) / n := by
          refine Int.le_ediv_of_mul_le (by omega) ?_
          have : (16777216 : Int) * n ≤ 16777216 * 1000 := by omega
          omega
        omega
      · show decide (x'.length * n.toNat > sizeLine) = false
        exact decide_eq_false (by omega)
      · rw [if_neg (by omega)]
        have fin : ∀ (y : Str) (tk : Tok) (s' : Shared), y = repS x' n.toNat → L2.Inv X pins σ H s' → EP X pins σ Q (.str y tk) s' := fun y tk s' e J => ⟨.str y, H, J, ⟨tk, rfl⟩, by rw [e]; exact o.same sF (.str _)⟩
        split
        · rename_i hc
          refine fin x' t s ?_ I
          rw [Bool.or_eq_true] at hc
          rcases hc with hc | hc
          · have : n = 1 := by simpa using hc
            subst this
            exact (repS_one x').symm
          · exact (repS_nil (by simpa using hc) _).symm
        · refine ⟨?_, fin _ _ _ rfl (I.tok _)⟩
          have e : ∀ k : Nat, ((List.replicate k x'.cps).foldl (· ++ ·) (#[] : Array Nat)).size = x'.cps.size * k := by
            have g : ∀ (k : Nat) (acc : Array Nat), ((List.replicate k x'.cps).foldl (· ++ ·) acc).size = acc.size + x'.cps.size * k := fun k => by
              induction k with
              | zero => intro acc; simp
              | succ k ih =>
                intro acc
                rw [List.replicate_succ, List.foldl_cons, ih, Array.size_append, Nat.mul_succ]
                omega
            intro k
            rw [g]
            simp
          show ((List.replicate n.toNat x'.cps).foldl (· ++ ·) (#[] : Array Nat)).size ≤ sizeLine
          rw [e]
          exact hn.2.2
    · cases hz
  · rename_i x' n
    split at hz
    · rename_i hn
      cases hz
      obtain ⟨l, xs, rfl, h1, t1⟩ := qd.lst sF
      cases qe.int
      cases rx
      obtain ⟨t', rfl⟩ := ry
      obtain ⟨i1, r1, ⟨⟨cl1, dc1, dt1, sl1⟩, n1, e1, c1, k1, d1⟩, _⟩ := I.list h1
      have z1 := r1.length
      have z2 := t1.length
      simp only at c1 k1 d1
      subst c1 k1 d1
      have hsz : i1.toArray.size * n.toNat ≤ 2 ^ 24 := by
        rw [List.size_toArray, ← z1, z2]
        exact hn.2.2
      refine PySem.wpAny_binaryOp_repeat_ref (T := "list") (U := "int") (by decide) ⟨_, e1, rfl⟩ (fun s' => typeIs_int s' n t') PySem.noFill_list_mul PySem.F.fills_int_mul PySem.F.slot_int_rmul PySem.repeat_list PySem.F.slot_int_index.lookup
        (call_meets PySem.F.slot_int_rmul (typeIs_int s n t') PySem.F.entry_int_rmul (PySem.F.args_int_rmul_2 _ _) (PySem.lm_int_rmul_list_any n t' l i1.toArray n1 none sl1)
          ⟨e1, rfl, ⟨_, e1, rfl⟩, call_meets PySem.F.slot_list_mul ⟨_, e1, rfl⟩ PySem.F.entry_list_mul (PySem.F.args_list_mul_2 _ _)
            (PySem.lm_list_mul_any l i1.toArray n1 none sl1 n t' (by simp [Builtin.List.listFitsIndex]; omega) (by omega) (by simp [Builtin.List.listTooLong, sizeLine]; omega)) ⟨e1, ?_⟩⟩)
      rw [listMul_foldl_if]
      have rr : ∀ k : Nat, Vals (List.replicate k xs).flatten (List.replicate k i1).flatten := fun k => by
        induction k with
        | zero => exact .nil
        | succ k ih => rw [List.replicate_succ, List.replicate_succ, List.flatten_cons, List.flatten_cons]; exact r1.append ih
      have rd : ∀ k : Nat, RpL X.K F (List.replicate k xs).flatten (List.replicate k _).flatten := fun k => by
        induction k with
        | zero => exact .nil
        | succ k ih => rw [List.replicate_succ, List.replicate_succ, List.flatten_cons, List.flatten_cons]; exact t1.append ih
      have hl : (List.replicate n.toNat xs).flatten.length ≤ sizeLine := by
        rw [(rr n.toNat).length]
        have : (List.replicate n.toNat i1).flatten.length = i1.length * n.toNat := by simp [Nat.mul_comm]
        rw [this]
        rw [List.size_toArray] at hsz
        exact hsz
      exact ⟨.ref _, _, I.lnew (t' := s.toks) (rr n.toNat) hl, rfl, o.lnew sF I.fresh (rd n.toNat)⟩
    · cases hz
  · cases hz
end
/-! ### comparisons -/
def bD (o : Option Bool) : Option D := o.map .bl
def rC2 (K : PySem.W.Frag) (f : D → D → Option Bool) : R2 := fun x y H Q => ∃ F d e b, Lk F H ∧ Rq K F H x d ∧ Rq K F H y e ∧ f d e = some b ∧ Q (.bl b) H
def shD (d : D) : Bool := flatD d && SeqAt.shaped (toPy d)
/-- == of data without dicts -/
def eqD (d e : D) : Option Bool := if shD d && shD e then some (PyData.eqv (toPy d) (toPy e)) else none
def neD (d e : D) : Option Bool := (eqD d e).map (!·)
def ltD : D → D → Option Bool
  | .int a, .int b => some (decide (a < b))
  | .str a, .str b => some (decide (a.cps.toList < b.cps.toList))
  | _, _ => none
def gtD : D → D → Option Bool
  | .int a, .int b => some (decide (b < a))
  | .str a, .str b => some (decide (b.cps.toList < a.cps.toList))
  | _, _ => none
def leD : D → D → Option Bool
  | .int a, .int b => some (decide (a ≤ b))
  | .str a, .str b => some (!decide (b.cps.toList < a.cps.toList))
  | _, _ => none
def geD : D → D → Option Bool
  | .int a, .int b => some (decide (b ≤ a))
  | .str a, .str b => some (!decide (a.cps.toList < b.cps.toList))
  | _, _ => none
section
variable {X : Cx} {K : PySem.W.Frag} {F H : Hp}
theorem shD_dp (s : Lk F H) {v : V} {d : D} (q : Rq K F H v d) (h : shD d = true) : Dp K H v (toPy d) ∧ SeqAt.shaped (toPy d) = true := by
  unfold shD at h
  rw [Bool.and_eq_true] at h
  exact ⟨(q.to s).dp h.1, h.2⟩
theorem op_eqF (hu : X.A.units + 64 < cLine) : OpR X (compareOp .Eq) (rC2 X.K eqD) := by
  intro pins s σ H x y v u Q I rx ry ⟨F, d, e, b, sF, qd, qe, hz, o⟩
  unfold eqD at hz
  split at hz
  · rename_i h
    cases hz
    rw [Bool.and_eq_true] at h
    obtain ⟨h1, h2⟩ := shD_dp sF qd h.1
    obtain ⟨h3, h4⟩ := shD_dp sF qe h.2
    exact op_eqD hu pins s σ H x y v u Q I rx ry ⟨_, _, h1, h3, h2, h4, o⟩
  · cases hz
theorem op_neF (hu : X.A.units + 64 < cLine) : OpR X (compareOp .NotEq) (rC2 X.K neD) := by
  intro pins s σ H x y v u Q I rx ry ⟨F, d, e, b, sF, qd, qe, hz, o⟩
  unfold neD eqD at hz
  split at hz
  · rename_i h
    cases hz
    rw [Bool.and_eq_true] at h
    obtain ⟨h1, h2⟩ := shD_dp sF qd h.1
    obtain ⟨h3, h4⟩ := shD_dp sF qe h.2
    exact op_neD hu pins s σ H x y v u Q I rx ry ⟨_, _, h1, h3, h2, h4, o⟩
  · cases hz
theorem op_ltF : OpR X (compareOp .Lt) (rC2 X.K ltD) := by
  intro pins s σ H x y v u Q I rx ry ⟨F, d, e, b, sF, qd, qe, hz, o⟩
  unfold ltD at hz
  split at hz
  · cases hz
    exact op_lt pins s σ H x y v u Q I rx ry ⟨_, _, qd.int, qe.int, o⟩
  · cases hz
    exact op_lt_str pins s σ H x y v u Q I rx ry ⟨_, _, qd.str, qe.str, o⟩
  · cases hz
theorem op_gtF : OpR X (compareOp .Gt) (rC2 X.K gtD) := by
  intro pins s σ H x y v u Q I rx ry ⟨F, d, e, b, sF, qd, qe, hz, o⟩
  unfold gtD at hz
  split at hz
  · cases hz
    exact op_gt pins s σ H x y v u Q I rx ry ⟨_, _, qd.int, qe.int, o⟩
  · cases hz
    exact op_gt_str pins s σ H x y v u Q I rx ry ⟨_, _, qd.str, qe.str, o⟩
  · cases hz
theorem op_leF : OpR X (compareOp .LtE) (rC2 X.K leD) := by
  intro pins s σ H x y v u Q I rx ry ⟨F, d, e, b, sF, qd, qe, hz, o⟩
  unfold leD at hz
  split at hz
  · cases hz
    exact op_le pins s σ H x y v u Q I rx ry ⟨_, _, qd.int, qe.int, o⟩
  · cases hz
    exact op_le_str pins s σ H x y v u Q I rx ry ⟨_, _, qd.str, qe.str, o⟩
  · cases hz
theorem op_geF : OpR X (compareOp .GtE) (rC2 X.K geD) := by
  intro pins s σ H x y v u Q I rx ry ⟨F, d, e, b, sF, qd, qe, hz, o⟩
  unfold geD at hz
  split at hz
  · cases hz
    exact op_ge pins s σ H x y v u Q I rx ry ⟨_, _, qd.int, qe.int, o⟩
  · cases hz
    exact op_ge_str pins s σ H x y v u Q I rx ry ⟨_, _, qd.str, qe.str, o⟩
  · cases hz
/-- is None, is of bools -/
def isND : D → D → Option Bool
  | .raw _, .non => none
  | d, .non => some (match d with | .non => true | _ => false)
  | _, _ => none
def notND (d e : D) : Option Bool := (isND d e).map (!·)
theorem Rq.isnon (s : Lk F H) {v : V} {d e : D} {b : Bool} (q : Rq K F H v d) (h : isND d e = some b) : e = .non ∧ b = decide (v = .non) := by
  cases e with
  | non =>
    refine ⟨rfl, ?_⟩
    cases d with
    | raw x => cases h
    | non => cases h; rw [q.non]; rfl
    | bl x => cases h; rw [q.bl]; rfl
    | int x => cases h; rw [q.int]; rfl
    | str x => cases h; rw [q.str]; rfl
    | lst x => cases h; obtain ⟨a, xs, rfl, _⟩ := q.lst s; rfl
    | tup x => cases h; obtain ⟨a, xs, rfl, _⟩ := q.tup s; rfl
    | dic x => cases h; obtain ⟨a, kvs, rfl, _⟩ := q.dic s; rfl
    | dit x => cases h; obtain ⟨a, kvs, rfl, _⟩ := q.dit s; rfl
    | ins x y => cases h; obtain ⟨a, C, dx, fs, rfl, _⟩ := q.ins s; rfl
    | exn x y => cases h; obtain ⟨a, rfl⟩ := q.exn; rfl
  | _ => cases d <;> cases h
def isD : D → D → Option Bool
  | .bl a, .bl b => some (decide (a = b))
  | d, e => isND d e
def isnD (d e : D) : Option Bool := (isD d e).map (!·)
theorem op_isF0 : OpR X (compareOp .Is) (rC2 X.K isND) := by
  intro pins s σ H x y v u Q I rx ry ⟨F, d, e, b, sF, qd, qe, hz, o⟩
  obtain ⟨rfl, rfl⟩ := qd.isnon sF hz
  exact op_isN pins s σ H x y v u Q I rx ry ⟨qe.non, o⟩
theorem op_notF0 : OpR X (compareOp .IsNot) (rC2 X.K notND) := by
  intro pins s σ H x y v u Q I rx ry ⟨F, d, e, b, sF, qd, qe, hz, o⟩
  unfold notND at hz
  cases h : isND d e with
  | none => rw [h] at hz; cases hz
  | some c =>
    rw [h] at hz
    cases hz
    obtain ⟨rfl, rfl⟩ := qd.isnon sF h
    exact op_notN pins s σ H x y v u Q I rx ry ⟨qe.non, o⟩
theorem op_isF : OpR X (compareOp .Is) (rC2 X.K isD) := by
  intro pins s σ H x y v u Q I rx ry ⟨F, d, e, b, sF, qd, qe, hz, o⟩
  unfold isD at hz
  split at hz
  · cases hz
    exact op_isBl pins s σ H x y v u Q I rx ry ⟨_, _, qd.bl, qe.bl, o⟩
  · exact op_isF0 pins s σ H x y v u Q I rx ry ⟨F, d, e, b, sF, qd, qe, hz, o⟩
theorem op_notF : OpR X (compareOp .IsNot) (rC2 X.K isnD) := by
  intro pins s σ H x y v u Q I rx ry ⟨F, d, e, b, sF, qd, qe, hz, o⟩
  unfold isnD isD at hz
  split at hz
  · cases hz
    exact op_notBl pins s σ H x y v u Q I rx ry ⟨_, _, qd.bl, qe.bl, o⟩
  · exact op_notF0 pins s σ H x y v u Q I rx ry ⟨F, d, e, b, sF, qd, qe, hz, o⟩
/-- in a text, a list, a tuple (of data without dicts) -/
def inSD (a b : Str) : Bool := match a.cps.toList with
  | [c] => decide (c ∈ b.cps.toList)
  | _ => !(Builtin.Str.occurrences b a 0 b.length 1).isEmpty
def memD (d : D) (l : List D) : Bool := (toPyL l).any fun z => PyData.eqv z (toPy d)
def inD : D → D → Option Bool
  | .str a, .str b => some (inSD a b)
  | d, .lst l => if shD d && shD (.lst l) then some (memD d l) else none
  | d, .tup l => if shD d && shD (.tup l) then some (memD d l) else none
  | _, _ => none
def notInD (d e : D) : Option Bool := (inD d e).map (!·)
theorem str_one {a : Str} {c : Nat} (h : a.cps.toList = [c]) : a = ⟨#[c]⟩ := by
  cases a with
  | mk cps =>
    have : cps = #[c] := by
      apply Array.ext'
      exact h
    rw [this]
theorem op_inF (hu : X.A.units + 65 < cLine) : OpR X (compareOp .In) (rC2 X.K inD) := by
  intro pins s σ H x y v u Q I rx ry ⟨F, d, e, b, sF, qd, qe, hz, o⟩
  unfold inD at hz
  split at hz
  · rename_i a b'
    cases hz
    unfold inSD at o
    split at o
    · rename_i c hc
      rw [str_one hc] at qd
      exact op_in_sign pins s σ H x y v u Q I rx ry ⟨c, _, qd.str, qe.str, o⟩
    · exact op_in_str pins s σ H x y v u Q I rx ry ⟨_, _, qd.str, qe.str, o⟩
  · split at hz
    · rename_i h
      cases hz
      rw [Bool.and_eq_true] at h
      obtain ⟨h1, h2⟩ := shD_dp sF qd h.1
      obtain ⟨h3, h4⟩ := shD_dp sF qe h.2
      obtain ⟨as, r1⟩ := Dp.reads I _ x v h1 rx
      obtain ⟨bs, r2⟩ := Dp.reads I _ y u h3 ry
      simp only [toPy] at r2 h4
      exact SeqAt.in_list_reads r2 r1 (SeqAt.canLay_of_shaped h4) (SeqAt.canLay_of_shaped h2) (room_in_shaped h2 hu) ⟨.bl _, H, I, rfl, o⟩
    · cases hz
  · split at hz
    · rename_i h
      cases hz
      rw [Bool.and_eq_true] at h
      obtain ⟨h1, h2⟩ := shD_dp sF qd h.1
      obtain ⟨h3, h4⟩ := shD_dp sF qe h.2
      obtain ⟨as, r1⟩ := Dp.reads I _ x v h1 rx
      obtain ⟨bs, r2⟩ := Dp.reads I _ y u h3 ry
      simp only [toPy] at r2 h4
      exact SeqAt.in_tuple_reads r2 r1 (SeqAt.canLay_of_shaped h4) (SeqAt.canLay_of_shaped h2) (room_in_shaped h2 hu) ⟨.bl _, H, I, rfl, o⟩
    · cases hz
  · cases hz
end
end Fx

/-! Fx: built-in functions as functions on trees. -/
namespace Fx
open PySem PySem.Spec PyProof.Rows L2

section
variable {X : Cx}
/-! ### len -/
def lenF : List D → Option D
  | [.str x] => if x.length ≤ sizeLine then some (.int x.length) else none
  | [.lst l] => some (.int l.length)
  | [.tup l] => some (.int l.length)
  | [.dic l] => some (.int l.length)
  | [.dit l] => some (.int l.length)
  | _ => none
theorem RpK.len {K : PySem.W.Frag} {H : Hp} : ∀ {κ : Type} {kvs : List (κ × V)} {es : List (κ × D)}, RpK K H kvs es → kvs.length = es.length
  | _, _, _, .nil => rfl
  | _, _, _, .cons _ t => by simp [RpK.len t]
theorem RpF.len {K : PySem.W.Frag} {H : Hp} : ∀ {kvs : List (Str × V)} {es : List (Str × D)}, RpF K H kvs es → kvs.length = es.length
  | _, _, .nil => rfl
  | _, _, .cons _ t => by simp [RpF.len t]
theorem call_lenF : CallR X (.builtin "len") (rFn X.K lenF) := by
  intro pins s σ H xs us Q I r ⟨F, ds, z, sF, q, hz, o⟩
  unfold lenF at hz
  split at hz
  · split at hz
    · cases hz
      obtain ⟨v, rfl, q1⟩ := q.one
      cases q1.str
      exact call_len pins s σ H _ us Q I r ⟨_, _, rfl, ⟨by assumption, rfl⟩, o.same sF (.int _)⟩
    · cases hz
  · cases hz
    obtain ⟨v, rfl, q1⟩ := q.one
    obtain ⟨a, ys, rfl, h1, t1⟩ := q1.lst sF
    exact call_len pins s σ H _ us Q I r ⟨_, _, rfl, .inl ⟨ys, h1, rfl⟩, o.same sF (by rw [t1.length]; exact .int _)⟩
  · cases hz
    obtain ⟨v, rfl, q1⟩ := q.one
    obtain ⟨a, ys, rfl, h1, t1⟩ := q1.tup sF
    exact call_len pins s σ H _ us Q I r ⟨_, _, rfl, .inr ⟨ys, h1, rfl⟩, o.same sF (by rw [t1.length]; exact .int _)⟩
  · cases hz
    obtain ⟨v, rfl, q1⟩ := q.one
    obtain ⟨u, rfl, ru⟩ := vals1 r
    obtain ⟨a, kvs, rfl, h, t⟩ := q1.dic sF
    cases (show u = Value.ref a from ru)
    exact d_len I h fun tk s' I' => ⟨.int kvs.length, H, I', ⟨tk, rfl⟩, o.same sF (by rw [t.len]; exact .int _)⟩
  · cases hz
    obtain ⟨v, rfl, q1⟩ := q.one
    obtain ⟨u, rfl, ru⟩ := vals1 r
    obtain ⟨a, kvs, rfl, h, t⟩ := q1.dit sF
    cases (show u = Value.ref a from ru)
    obtain ⟨zz, hd, ys, rel, dd⟩ := dt_rd I.hok h
    have hl : kvs.length = ys.length := Paired.length rel
    refine PySem.call_len_dictH hd dd (by rw [← hl]; rw [sizeLine_eq] at zz; omega) ?_
    rw [← hl]
    exact ⟨.int (kvs.length : Nat), H, I.tok _, ⟨_, rfl⟩, o.same sF (by rw [t.len]; exact .int _)⟩
  · cases hz

/-! ### isinstance(x, T) of built-in types -/
def tyD : D → Option String
  | .non => some "NoneType"
  | .bl _ => some "bool"
  | .int _ => some "int"
  | .str _ => some "str"
  | .lst _ => some "list"
  | .tup _ => some "tuple"
  | .dic _ => some "dict"
  | .dit _ => some "dict"
  | _ => none
def isTy (d : D) (T : String) : Option Bool := match tyD d with
  | none => none
  | some t =>
    if T = "str" then some (t == "str") else if T = "int" then some (t == "int" || t == "bool") else if T = "bool" then some (t == "bool")
    else if T = "list" then some (t == "list") else if T = "tuple" then some (t == "tuple") else if T = "dict" then some (t == "dict") else none
theorem isTy_kit {d : D} {T t : String} {b : Bool} (ht : tyD d = some t) (h : isTy d T = some b) : kitB t T = some b := by
  unfold isTy at h
  rw [ht] at h
  simp only at h
  have all : t = "NoneType" ∨ t = "bool" ∨ t = "int" ∨ t = "str" ∨ t = "list" ∨ t = "tuple" ∨ t = "dict" := by
    cases d <;> simp [tyD] at ht <;> subst ht <;> simp
  have fin : ∀ t' T' : String, ∀ b' : Bool, kitB t' T' = some b' → t = t' → T = T' → b = b' → kitB t T = some b := fun t' T' b' e1 e2 e3 e4 => by rw [e2, e3, e4]; exact e1
  split at h
  · rename_i e
    subst e
    cases h
    rcases all with e | e | e | e | e | e | e <;> subst e <;> decide +kernel
  · split at h
    · rename_i e
      subst e
      cases h
      rcases all with e | e | e | e | e | e | e <;> subst e <;> decide +kernel
    · split at h
      · rename_i e
        subst e
        cases h
        rcases all with e | e | e | e | e | e | e <;> subst e <;> decide +kernel
      · split at h
        · rename_i e
          subst e
          cases h
          rcases all with e | e | e | e | e | e | e <;> subst e <;> decide +kernel
        · split at h
          · rename_i e
            subst e
            cases h
            rcases all with e | e | e | e | e | e | e <;> subst e <;> decide +kernel
          · split at h
            · rename_i e
              subst e
              cases h
              rcases all with e | e | e | e | e | e | e <;> subst e <;> decide +kernel
            · cases h
/-- what isinstance asks of a value whose tree has a built-in type -/
theorem kit_tree {pins : List (Addr × Obj)} {σ : L2.St} {F H : Hp} {s : Shared} {x : V} {u : Value} {d : D} {t : String} (I : Inv X pins σ H s) (rx : RelV x u) (sF : Lk F H) (q : Rq X.K F H x d) (ht : tyD d = some t) :
    ∃ P : Heap → Prop, PySem.W.KitX X.K u (.type t) P ∧ P s.heap ∧ u ≠ .builtin "__main__.__loader__#opaque" := by
  have base : ∀ {x : V}, RelV x u → TyX X.K H x (.type t) → ∃ P : Heap → Prop, PySem.W.KitX X.K u (.type t) P ∧ P s.heap ∧ u ≠ .builtin "__main__.__loader__#opaque" := fun rx ty => kit_of I rx ty
  cases d with
  | non => cases q.non; cases ht; exact base rx (.base .non)
  | bl b => cases q.bl; cases ht; exact base rx (.base (.bl b))
  | int b => cases q.int; cases ht; exact base rx (.base (.int b))
  | str b => cases q.str; cases ht; exact base rx (.base (.str b))
  | lst l =>
    obtain ⟨a, ys, rfl, h1, t1⟩ := q.lst sF
    cases ht
    rcases h1 with (h | ⟨o, h⟩) | ⟨o, its, n, h, c, _⟩
    · exact base rx (.base (.lst h))
    · exact base rx (.base (.frz h))
    · exact base rx (.kList h c)
  | tup l =>
    obtain ⟨a, ys, rfl, h1, t1⟩ := q.tup sF
    cases ht
    rcases h1 with (h | ⟨o, h⟩) | ⟨o, its, n, h, c, _⟩
    · exact base rx (.base (.tup h))
    · exact base rx (.fTuple h)
    · exact base rx (.kTuple h c)
  | dic l =>
    obtain ⟨a, kvs, rfl, h, _⟩ := q.dic sF
    cases ht
    rcases h with h | ⟨o, h⟩
    · exact base rx (.base (.dK h))
    · exact base rx (.fDict h)
  | dit l =>
    obtain ⟨a, kvs, rfl, h, _⟩ := q.dit sF
    · cases ht
      cases (show u = Value.ref a from rx)
      obtain ⟨_, _, xs, _, o, es, ep, h1, h2, _⟩ := (show ObjOk X.prog X.w H s.heap a (.dT kvs) from h.ok I.hok)
      exact ⟨_, PySem.W.kitx_dict, ⟨o, h1, h2.1⟩, fun z => nomatch z⟩
  | raw v => cases ht
  | ins C fs => cases ht
  | exn C fs => cases ht
def isiF : List D → Option D
  | [d, .raw (.ty T)] => (isTy d T).map .bl
  | _ => none
theorem call_isiF : CallR X (.builtin "isinstance") (rFn X.K isiF) := by
  intro pins s σ H xs us Q I r ⟨F, ds, z, sF, q, hz, o⟩
  unfold isiF at hz
  split at hz
  · rename_i d T
    obtain ⟨v, c, rfl, q1, q2⟩ := q.two
    cases q2.raw
    obtain ⟨u1, u2, rfl, r1, r2⟩ := vals2 r
    cases (show u2 = Value.type T from r2)
    cases hb : isTy d T with
    | none => rw [hb] at hz; cases hz
    | some b =>
      rw [hb] at hz
      cases hz
      cases ht : tyD d with
      | none => unfold isTy at hb; rw [ht] at hb; cases hb
      | some t =>
        obtain ⟨P, Z, p, hx⟩ := kit_tree I r1 sF q1 ht
        exact PySem.W.kia_one Z I.kIn p (kit_ty (isTy_kit ht hb)) hx fun tk => ⟨.bl b, H, I.tok tk, rfl, o.same sF (.bl b)⟩
  · cases hz

/-! ### all, any, sum, max, min, abs, int, str of ints -/
def blsD : List D → Option (List Bool)
  | [] => some []
  | .bl b :: r => (blsD r).map (b :: ·)
  | _ :: _ => none
def intsD : List D → Option (List Int)
  | [] => some []
  | .int b :: r => (intsD r).map (b :: ·)
  | _ :: _ => none
theorem bls_rp {K : PySem.W.Frag} {F : Hp} : ∀ {vs : List V} {ds : List D} {bs : List Bool}, RpL K F vs ds → blsD ds = some bs → vs = bs.map V.bl
  | _, _, _, .nil, h => by cases h; rfl
  | _, _, bs, .cons (d := d) a t, h => by
    cases d <;> simp only [blsD] at h <;> try (cases h; done)
    rename_i b
    cases e : blsD _ with
    | none => rw [e] at h; cases h
    | some r =>
      rw [e] at h
      cases h
      cases a
      rw [bls_rp t e]
      rfl
theorem ints_rp {K : PySem.W.Frag} {F : Hp} : ∀ {vs : List V} {ds : List D} {bs : List Int}, RpL K F vs ds → intsD ds = some bs → vs = bs.map V.int
  | _, _, _, .nil, h => by cases h; rfl
  | _, _, bs, .cons (d := d) a t, h => by
    cases d <;> simp only [intsD] at h <;> try (cases h; done)
    rename_i b
    cases e : intsD _ with
    | none => rw [e] at h; cases h
    | some r =>
      rw [e] at h
      cases h
      cases a
      rw [ints_rp t e]
      rfl
def allF : List D → Option D
  | [.lst l] => (blsD l).map fun bs => .bl (bs.all id)
  | _ => none
def anyF : List D → Option D
  | [.lst l] => (blsD l).map fun bs => .bl (bs.any id)
  | _ => none
def sumF : List D → Option D
  | [.lst l] => (intsD l).map fun bs => .int bs.sum
  | _ => none
theorem one_lst {K : PySem.W.Frag} {F H : Hp} {xs : List V} {l : List D} (s : Lk F H) (q : RqL K F H xs [.lst l]) : ∃ a ys, xs = [.ref a] ∧ SqL K H a ys ∧ RpL K F ys l := by
  obtain ⟨v, rfl, q1⟩ := q.one
  obtain ⟨a, ys, rfl, h, t⟩ := q1.lst s
  exact ⟨a, ys, rfl, h, t⟩
theorem call_allF (hc : X.calm = true) : CallR X (.builtin "all") (rFn X.K allF) := by
  intro pins s σ H xs us Q I r ⟨F, ds, z, sF, q, hz, o⟩
  unfold allF at hz
  split at hz
  · obtain ⟨a, ys, rfl, h, t⟩ := one_lst sF q
    cases e : blsD _ with
    | none => rw [e] at hz; cases hz
    | some bs =>
      rw [e] at hz
      cases hz
      exact cr_all hc pins s σ H _ us Q I r ⟨a, bs, rfl, by rw [← bls_rp t e]; exact h, o.same sF (.bl _)⟩
  · cases hz
theorem call_anyF (hc : X.calm = true) : CallR X (.builtin "any") (rFn X.K anyF) := by
  intro pins s σ H xs us Q I r ⟨F, ds, z, sF, q, hz, o⟩
  unfold anyF at hz
  split at hz
  · obtain ⟨a, ys, rfl, h, t⟩ := one_lst sF q
    cases e : blsD _ with
    | none => rw [e] at hz; cases hz
    | some bs =>
      rw [e] at hz
      cases hz
      exact cr_any hc pins s σ H _ us Q I r ⟨a, bs, rfl, by rw [← bls_rp t e]; exact h, o.same sF (.bl _)⟩
  · cases hz
theorem call_sumF (hc : X.calm = true) : CallR X (.builtin "sum") (rFn X.K sumF) := by
  intro pins s σ H xs us Q I r ⟨F, ds, z, sF, q, hz, o⟩
  unfold sumF at hz
  split at hz
  · obtain ⟨a, ys, rfl, h, t⟩ := one_lst sF q
    cases e : intsD _ with
    | none => rw [e] at hz; cases hz
    | some bs =>
      rw [e] at hz
      cases hz
      exact cr_sum hc pins s σ H _ us Q I r ⟨a, bs, rfl, by rw [← ints_rp t e]; exact h, o.same sF (.int _)⟩
  · cases hz
def max2F : List D → Option D
  | [.int a, .int b] => some (.int (if b > a then b else a))
  | _ => none
def min2F : List D → Option D
  | [.int a, .int b] => some (.int (if b < a then b else a))
  | _ => none
theorem call_max2F (hc : X.calm = true) : CallR X (.builtin "max") (rFn X.K max2F) := by
  intro pins s σ H xs us Q I r ⟨F, ds, z, sF, q, hz, o⟩
  unfold max2F at hz
  split at hz
  · cases hz
    obtain ⟨v, c, rfl, q1, q2⟩ := q.two
    cases q1.int
    cases q2.int
    exact call_max2 hc pins s σ H _ us Q I r ⟨_, _, rfl, o.same sF (.int _)⟩
  · cases hz
theorem call_min2F (hc : X.calm = true) : CallR X (.builtin "min") (rFn X.K min2F) := by
  intro pins s σ H xs us Q I r ⟨F, ds, z, sF, q, hz, o⟩
  unfold min2F at hz
  split at hz
  · cases hz
    obtain ⟨v, c, rfl, q1, q2⟩ := q.two
    cases q1.int
    cases q2.int
    exact call_min2 hc pins s σ H _ us Q I r ⟨_, _, rfl, o.same sF (.int _)⟩
  · cases hz
def absF : List D → Option D
  | [.int a] => some (.int (if a < 0 then -a else a))
  | _ => none
theorem call_absF : CallR X (.builtin "abs") (rFn X.K absF) := by
  intro pins s σ H xs us Q I r ⟨F, ds, z, sF, q, hz, o⟩
  unfold absF at hz
  split at hz
  · cases hz
    obtain ⟨v, rfl, q1⟩ := q.one
    cases q1.int
    exact call_abs pins s σ H _ us Q I r ⟨_, rfl, o.same sF (.int _)⟩
  · cases hz
def intF : List D → Option D
  | [.int a] => some (.int a)
  | [.bl b] => some (.int (if b then 1 else 0))
  | _ => none
theorem call_intF : CallR X (.type "int") (rFn X.K intF) := by
  intro pins s σ H xs us Q I r ⟨F, ds, z, sF, q, hz, o⟩
  unfold intF at hz
  split at hz
  · cases hz
    obtain ⟨v, rfl, q1⟩ := q.one
    cases q1.int
    exact call_int1 pins s σ H _ us Q I r (.inl ⟨_, rfl, o.same sF (.int _)⟩)
  · cases hz
    obtain ⟨v, rfl, q1⟩ := q.one
    cases q1.bl
    exact call_int1 pins s σ H _ us Q I r (.inr ⟨_, rfl, o.same sF (.int _)⟩)
  · cases hz
def strF : List D → Option D
  | [.int a] => if a.natAbs.log2 < 1920 then some (.str (toString a)) else none
  | _ => none
theorem call_strF : CallR X (.type "str") (rFn X.K strF) := by
  intro pins s σ H xs us Q I r ⟨F, ds, z, sF, q, hz, o⟩
  unfold strF at hz
  split at hz
  · split at hz
    · cases hz
      obtain ⟨v, rfl, q1⟩ := q.one
      cases q1.int
      exact call_str_int pins s σ H _ us Q I r ⟨_, rfl, by assumption, o.same sF (.str _)⟩
    · cases hz
  · cases hz

/-! ### repr, of data without dicts, or of tuples and empty dicts -/
mutual
def flatE : D → Bool
  | .tup l => flatEL l
  | .dic [] => true
  | .dic (_ :: _) => false
  | .lst _ => false
  | .dit _ => false
  | .raw _ => false
  | .ins _ _ => false
  | .exn _ _ => false
  | _ => true
def flatEL : List D → Bool
  | [] => true
  | d :: r => flatE d && flatEL r
end
def rprF : List D → Option D
  | [d] => if (flatD d || flatE d) && (toPy d).showable && decide ((toPy d).depth ≤ 60) && decide ((toPy d).shown.length ≤ sizeLine) then some (.str (toPy d).shown) else none
  | _ => none
mutual
theorem readsE {pins : List (Addr × Obj)} {σ : L2.St} {H : Hp} {s : Shared} (I : Inv X pins σ H s) : ∀ (d : D) (v : V) (u : Value), Rp X.K H v d → flatE d = true → RelV v u → ∃ as, Reads s.heap u (toPy d) as ∧ sysModules ∉ as
  | .non, _, _, r, _, rv => by cases r; cases rv; simp only [toPy]; exact ⟨_, Reads.none, by simp⟩
  | .bl b, _, _, r, _, rv => by cases r; cases rv; simp only [toPy]; exact ⟨_, Reads.bool b, by simp⟩
  | .int i, _, _, r, _, rv => by cases r; obtain ⟨t, rfl⟩ := rv; simp only [toPy]; exact ⟨_, Reads.int i t, by simp⟩
  | .str x, _, _, r, _, rv => by cases r; obtain ⟨t, rfl⟩ := rv; simp only [toPy]; exact ⟨_, Reads.str x t, by simp⟩
  | .tup l, _, _, r, h, rv => by
    cases r with
    | tup h1 h2 =>
      cases rv
      obtain ⟨its, rv, ⟨o, ho, hc, n, hd⟩, _⟩ := I.tuple (SqT.of h1)
      obtain ⟨as, q1, q2⟩ := readsEL I l _ its h2 (by simpa [flatE] using h) rv
      simp only [toPy]
      exact ⟨as, Reads.tuple ho hc hd q1, q2⟩
  | .dic [], _, _, r, h, rv => by
    cases r with
    | @dicK a kvs _ h1 h2 =>
      cases rv
      cases h2
      obtain ⟨z, lo, vs, rk, o, es, ep, ho, hx, hd, _, hp, _⟩ := (show ObjOk X.prog X.w H s.heap _ (.dK []) from h1.ok I.hok)
      cases rk
      have e : es.toList = [] := by cases hp' : es.toList with
        | nil => rfl
        | cons x y => rw [hp'] at hp; cases hp
      simp only [toPy, toPyK]
      refine ⟨_, Reads.dict (as := []) (bs := []) ho hx.1 hd (by rw [e]; exact .nil) (by rw [e]; exact .nil), ?_⟩
      intro hm
      simp at hm
      rw [hm] at lo
      simp at lo
  | .dic (_ :: _), _, _, _, h, _ => by simp [flatE] at h
  | .lst _, _, _, _, h, _ => by simp [flatE] at h
  | .dit _, _, _, _, h, _ => by simp [flatE] at h
  | .raw _, _, _, _, h, _ => by simp [flatE] at h
  | .ins _ _, _, _, _, h, _ => by simp [flatE] at h
  | .exn _ _, _, _, _, h, _ => by simp [flatE] at h
theorem readsEL {pins : List (Addr × Obj)} {σ : L2.St} {H : Hp} {s : Shared} (I : Inv X pins σ H s) : ∀ (ds : List D) (vs : List V) (us : List Value), RpL X.K H vs ds → flatEL ds = true → Vals vs us → ∃ as, ReadsAll s.heap us (toPyL ds) as ∧ sysModules ∉ as
  | [], _, _, r, _, rv => by cases r; cases rv; simp only [toPyL]; exact ⟨_, ReadsAll.nil, by simp⟩
  | d :: ds, _, _, r, h, rv => by
    cases r with
    | cons r1 r2 =>
      cases rv with
      | cons v1 v2 =>
        simp only [flatEL, Bool.and_eq_true] at h
        obtain ⟨as, q1, q2⟩ := readsE I d _ _ r1 h.1 v1
        obtain ⟨bs, q3, q4⟩ := readsEL I ds _ _ r2 h.2 v2
        simp only [toPyL]
        exact ⟨_, ReadsAll.cons q1 q3, by simp [q2, q4]⟩
end
mutual
theorem flat_nodict : ∀ {d : D}, flatD d = true → (toPy d).hasDict = false
  | .non, _ => by simp only [toPy, PyData.hasDict]
  | .bl _, _ => by simp only [toPy, PyData.hasDict]
  | .int _, _ => by simp only [toPy, PyData.hasDict]
  | .str _, _ => by simp only [toPy, PyData.hasDict]
  | .lst l, h => by simp only [toPy, PyData.hasDict]; exact flatL_nodict (by simpa [flatD] using h)
  | .tup l, h => by simp only [toPy, PyData.hasDict]; exact flatL_nodict (by simpa [flatD] using h)
  | .dic _, h => by simp [flatD] at h
  | .dit _, h => by simp [flatD] at h
  | .raw _, h => by simp [flatD] at h
  | .ins _ _, h => by simp [flatD] at h
theorem flatL_nodict : ∀ {l : List D}, flatL l = true → PyData.hasDictAll (toPyL l) = false
  | [], _ => by simp only [toPyL, PyData.hasDictAll]
  | d :: r, h => by
    simp only [flatL, Bool.and_eq_true] at h
    simp only [toPyL, PyData.hasDictAll, flat_nodict h.1, flatL_nodict h.2, Bool.or_self]
end
theorem call_reprF (hg : X.A.guards = some []) (hu : X.A.units + 64 < cLine) : CallR X (.builtin "repr") (rFn X.K rprF) := by
  intro pins s σ H xs us Q I r ⟨F, ds, z, sF, q, hz, o⟩
  unfold rprF at hz
  split at hz
  · rename_i d
    split at hz
    · rename_i hc
      cases hz
      simp only [Bool.and_eq_true, decide_eq_true_eq] at hc
      obtain ⟨⟨⟨c0, c2⟩, c3⟩, c4⟩ := hc
      obtain ⟨v, rfl, q1⟩ := q.one
      obtain ⟨u, rfl, rv⟩ := vals1 r
      have out : ∀ (h' : Heap) (t : Tok) (tk : Nat), (∀ b ob, s.heap.get? b = some ob → h'.get? b = some ob) → EP X pins σ Q (.str (toPy d).shown t) { s with heap := h', toks := tk } :=
        fun h' t tk k => ⟨.str _, H, I.kept k, ⟨t, rfl⟩, o.same sF (.str _)⟩
      have byRef : ∀ a, v = .ref a → wpAny (model X.prog X.w) X.A (call (.builtin "repr") [u]) (EP X pins σ Q) X.xe s := fun a e => by
        subst e
        by_cases c1 : flatD d = true
        · have dp := (q1.to sF).dp c1
          obtain ⟨as, rd⟩ := Dp.reads I _ _ u dp rv
          cases (show u = Value.ref a from rv)
          exact repr_of_reads' rd c2 (fun e => by rw [flat_nodict c1] at e; cases e) hg (by omega) (fun _ _ e => e) (fun h' t tk k => out h' t tk k) c4
        · rw [Bool.or_eq_true] at c0
          obtain ⟨as, rd, hs⟩ := readsE I d _ u (q1.to sF) (c0.resolve_left c1) rv
          cases (show u = Value.ref a from rv)
          exact repr_of_reads' rd c2 (fun _ => hs) hg (by omega) (fun _ _ e => e) (fun h' t tk k => out h' t tk k) c4
      cases d with
      | non =>
        cases q1.non
        cases rv
        exact PySem.P.repr_of_none (out s.heap _ _ fun _ _ e => e)
      | bl b =>
        cases q1.bl
        cases rv
        refine PySem.P.repr_of_bool ?_
        have e : (toPy (.bl b)).shown = (if b then "True" else "False" : Str) := by cases b <;> simp only [toPy, PyData.shown] <;> rfl
        have := out s.heap s.toks (s.toks + 1) fun _ _ e => e
        rw [e] at this
        cases b <;> exact this
      | int i =>
        cases q1.int
        obtain ⟨t, rfl⟩ := rv
        simp only [toPy, PyData.showable, decide_eq_true_eq] at c2
        refine PySem.P.repr_of_int c2 ?_
        have e : (toPy (.int i)).shown = (toString i : Str) := by simp only [toPy, PyData.shown]
        have := out s.heap s.toks (s.toks + 1) fun _ _ e => e
        rw [e] at this
        exact this
      | str x =>
        cases q1.str
        obtain ⟨t, rfl⟩ := rv
        have e : (toPy (.str x)).shown = reprText x := by simp only [toPy, PyData.shown]
        rw [e] at c4
        have := out s.heap s.toks (s.toks + 1) fun _ _ e => e
        rw [e] at this
        exact PySem.P.repr_of_str this c4
      | lst l =>
        obtain ⟨a, ys, rfl, _⟩ := q1.lst sF
        exact byRef a rfl
      | tup l =>
        obtain ⟨a, ys, rfl, _⟩ := q1.tup sF
        exact byRef a rfl
      | dic l =>
        obtain ⟨a, ys, rfl, _⟩ := q1.dic sF
        exact byRef a rfl
      | dit l => simp [flatD, flatE] at c0
      | raw l => simp [flatD, flatE] at c0
      | ins l => simp [flatD, flatE] at c0
      | exn l => simp [flatD, flatE] at c0
    · cases hz
  · cases hz
end
end Fx

/-! G: lists, dicts, sorting by values. -/
namespace Fx
open PySem PySem.Spec PyProof.Rows L2

def ixD : D → D → Option D
  | .lst l, .int i => atI l i
  | .tup l, .int i => atI l i
  | .str x, .int i => if x.length ≤ sizeLine then (atI x.cps.toList i).map fun c => .str ⟨#[c]⟩ else none
  | _, _ => none
theorem atI_rp {K : PySem.W.Frag} {F : Hp} {xs : List V} {ds : List D} {i : Int} {z : D} (t : RpL K F xs ds) (h : atI ds i = some z) : ∃ v, atI xs i = some v ∧ Rp K F v z := by
  unfold atI at h ⊢
  rw [t.length]
  cases e : ixN ds.length i with
  | none => rw [e] at h; cases h
  | some j =>
    rw [e] at h
    obtain ⟨v, h1, h2⟩ := t.get (show ds[j]? = some z from h)
    exact ⟨v, h1, h2⟩
theorem ix_F {X : Cx} : IxR X (rF2 X.K ixD) := by
  intro value slice pins s σ H x y v u Q I rx ry ⟨F, d, e, z, sF, qd, qe, hz, o⟩ hs
  unfold ixD at hz
  split at hz
  · obtain ⟨a, xs, rfl, h, t⟩ := qd.lst sF
    obtain ⟨w, h1, r⟩ := atI_rp t hz
    exact ix_list value slice pins s σ H _ y v u Q I rx ry ⟨a, xs, _, w, rfl, qe.int, h, h1, o.same sF r⟩ hs
  · obtain ⟨a, xs, rfl, h, t⟩ := qd.tup sF
    obtain ⟨w, h1, r⟩ := atI_rp t hz
    exact ix_tup value slice pins s σ H _ y v u Q I rx ry ⟨a, xs, _, w, rfl, qe.int, h, h1, o.same sF r⟩ hs
  · split at hz
    · rename_i i hl
      cases e : atI _ i with
      | none => rw [e] at hz; cases hz
      | some c => rw [e] at hz; cases hz; exact ix_str value slice pins s σ H x y v u Q I rx ry ⟨_, _, c, qd.str, qe.int, hl, e, o.same sF (.str _)⟩ hs
    · cases hz
  · cases hz

def cutL {α : Type} (xs : List α) (lo hi : Option Int) : List α := (xs.drop (HT.sIx xs.length 0 lo)).take (HT.sIx xs.length xs.length hi - HT.sIx xs.length 0 lo)
def cutD : D → Option Int → Option Int → Option D
  | .lst l, lo, hi => some (.lst (cutL l lo hi))
  | .str x, lo, hi => if x.length ≤ sizeLine then some (.str (cutS x lo hi)) else none
  | _, _, _ => none
def rSlF (K : PySem.W.Frag) : V → Option Int → Option Int → Hp → VK → Prop := fun x lo hi H Q => ∃ F d z, Lk F H ∧ Rq K F H x d ∧ cutD d lo hi = some z ∧ OutN K F H z Q
theorem cut_rp {K : PySem.W.Frag} {F : Hp} {xs : List V} {ds : List D} {lo hi : Option Int} (t : RpL K F xs ds) : RpL K F (cutV xs lo hi) (cutL ds lo hi) := by
  unfold cutV cutL
  rw [t.length]
  exact (t.drop _).take _
theorem sl_F {X : Cx} : SlR X (rSlF X.K) := by
  intro pins s σ H x v vl vu lo hi sl Q I rx hs pl pu ⟨F, d, z, sF, qd, hz, o⟩
  unfold cutD at hz
  split at hz
  · cases hz
    obtain ⟨a, xs, rfl, h, t⟩ := qd.lst sF
    exact sl_list pins s σ H _ v vl vu _ _ sl Q I rx hs pl pu ⟨a, xs, rfl, h, fun p hp => o.lnew sF hp (cut_rp t)⟩
  · split at hz
    · cases hz
      exact sl_str pins s σ H x v vl vu _ _ sl Q I rx hs pl pu ⟨_, qd.str, by assumption, o.same sF (.str _)⟩
    · cases hz
  · cases hz

/-- range(n), range(a, b) -/
def rngL (lo hi : Int) : List D := (List.range (hi - lo).toNat).map fun (i : Nat) => D.int (lo + (i : Int))
def small62 (a : Int) : Bool := smallI 4611686018427387904 a
theorem small62_in {a : Int} (h : small62 a = true) : -(2 ^ 62) ≤ a ∧ a < 2 ^ 62 := by
  have h := smallI_iff.mp h
  omega

def chrs (x : Str) : List D := x.cps.toList.map fun c => .str ⟨#[c]⟩

def pairD (a b : D) : D := .tup [a, b]

/-! ### dicts as lists of pairs -/
def keyD : D → Option Key
  | .int i => some (.inl i)
  | .str x => some (.inr x)
  | _ => none
def putD {κ : Type} [DecidableEq κ] (es : List (κ × D)) (k : κ) (d : D) : List (κ × D) := if (es.any fun e => decide (e.1 = k)) = true then es.map (fun e => if e.1 = k then (e.1, d) else e) else es ++ [(k, d)]
section
variable {K : PySem.W.Frag} {F : Hp} {κ : Type} [DecidableEq κ]
theorem RpK.any {k : κ} : ∀ {kvs : List (κ × V)} {es : List (κ × D)}, RpK K F kvs es → (es.any fun e => decide (e.1 = k)) = kvs.any fun kv => decide (kv.1 = k)
  | _, _, .nil => rfl
  | _, _, .cons r t => by rw [List.any_cons, List.any_cons, RpK.any t]
theorem RpK.mapset {k : κ} {v : V} {d : D} (q : Rp K F v d) : ∀ {kvs : List (κ × V)} {es : List (κ × D)}, RpK K F kvs es → RpK K F (kvs.map fun kv => if kv.1 = k then (kv.1, v) else kv) (es.map fun e => if e.1 = k then (e.1, d) else e)
  | _, _, .nil => .nil
  | _, _, .cons (k := j) (v := v') (d := d') r t => by
    rw [List.map_cons, List.map_cons]
    show RpK K F ((if j = k then (j, v) else (j, v')) :: _) ((if j = k then (j, d) else (j, d')) :: _)
    by_cases h : j = k
    · rw [if_pos h, if_pos h]
      exact .cons q (RpK.mapset q t)
    · rw [if_neg h, if_neg h]
      exact .cons r (RpK.mapset q t)
theorem RpK.append : ∀ {a b : List (κ × V)} {es fs : List (κ × D)}, RpK K F a es → RpK K F b fs → RpK K F (a ++ b) (es ++ fs)
  | _, _, _, _, .nil, s => s
  | _, _, _, _, .cons r t, s => .cons r (RpK.append t s)
theorem RpK.put {k : κ} {v : V} {d : D} {kvs : List (κ × V)} {es : List (κ × D)} (t : RpK K F kvs es) (q : Rp K F v d) : RpK K F (putK kvs k v) (putD es k d) := by
  unfold putK putD
  rw [t.any]
  split
  · exact RpK.mapset q t
  · exact RpK.append t (.cons q .nil)
end


def mergeD (es : List (Key × D)) (more : List (Key × D)) : List (Key × D) := more.foldl (fun acc kv => putD acc kv.1 kv.2) es

def keysD : List D → Option (List Key)
  | [] => some []
  | d :: r => (keyD d).bind fun k => (keysD r).map (k :: ·)
def keyT : D → Option (List Key)
  | .tup l => keysD l
  | _ => none
def getK {κ : Type} [DecidableEq κ] (es : List (κ × D)) (k : κ) : Option D := (es.find? fun e => decide (e.1 = k)).map (·.2)
section
variable {K : PySem.W.Frag} {F H : Hp}
theorem keyD_v {v : V} {d : D} {k : Key} (r : Rq K F H v d) (h : keyD d = some k) : v = kV k := by
  unfold keyD at h
  split at h
  · cases h; exact r.int
  · cases h; exact r.str
  · cases h
theorem keysD_v : ∀ {l : List D} {k : List Key} {xs : List V}, RpL K F xs l → keysD l = some k → xs = k.map kV
  | [], _, _, r, h => by cases h; cases r; rfl
  | d :: l, k, _, r, h => by
    cases r with
    | cons a t =>
      unfold keysD at h
      cases e : keyD d with
      | none => rw [e] at h; cases h
      | some k0 =>
        rw [e] at h
        cases e2 : keysD l with
        | none => rw [e2] at h; cases h
        | some ks =>
          rw [e2] at h
          cases h
          rw [List.map_cons, ← keysD_v t e2, keyD_v (Rq.rp (H := F) a) e]
theorem keyT_v {v : V} {d : D} {k : List Key} (s : Lk F H) (r : Rq K F H v d) (h : keyT d = some k) : ∃ b, v = .ref b ∧ H b = some (.tup (k.map kV)) := by
  unfold keyT at h
  split at h
  · obtain ⟨b, xs, rfl, hb, t⟩ := r.tupH s
    rw [keysD_v t h] at hb
    exact ⟨b, rfl, hb⟩
  · cases h
theorem RpK.get {κ : Type} [DecidableEq κ] {k : κ} : ∀ {kvs : List (κ × V)} {es : List (κ × D)}, RpK K F kvs es → (∀ d, getK es k = some d → ∃ v, valV kvs k = some v ∧ Rp K F v d) ∧ (valV kvs k).isSome = (getK es k).isSome
  | _, _, .nil => ⟨(fun d h => by cases h), rfl⟩
  | _, _, .cons (k := j) (v := v) (d := d) (r := r) (es := es) a t => by
    obtain ⟨h1, h2⟩ := RpK.get (k := k) t
    by_cases e : j = k
    · have e1 : valV ((j, v) :: r) k = some v := by unfold valV; rw [List.find?_cons_of_pos (by simpa using e)]; rfl
      have e2 : getK ((j, d) :: es) k = some d := by unfold getK; rw [List.find?_cons_of_pos (by simpa using e)]; rfl
      rw [e1, e2]
      exact ⟨fun d' h => by cases h; exact ⟨v, rfl, a⟩, rfl⟩
    · have e1 : valV ((j, v) :: r) k = valV r k := by unfold valV; rw [List.find?_cons_of_neg (by simpa using e)]
      have e2 : getK ((j, d) :: es) k = getK es k := by unfold getK; rw [List.find?_cons_of_neg (by simpa using e)]
      rw [e1, e2]
      exact ⟨h1, h2⟩
end

/-- d[k] of a dict -/
def ixDic : D → D → Option D
  | .dic es, e => (keyD e).bind fun k => getK es k
  | .dit es, e => (keyT e).bind fun k => getK es k
  | _, _ => none
def inDic : D → D → Option Bool
  | e, .dic es => (keyD e).map fun k => (getK es k).isSome
  | e, .dit es => (keyT e).map fun k => (getK es k).isSome
  | _, _ => none
def isDic : D → Bool
  | .dic _ => true
  | .dit _ => true
  | _ => false
def ixD2 (d e : D) : Option D := if isDic d then ixDic d e else ixD d e
def inD2 (e d : D) : Option Bool := if isDic d then inDic e d else inD e d
def notInD2 (e d : D) : Option Bool := if isDic d then (inDic e d).map (!·) else notInD e d

section
variable {X : Cx} {K : PySem.W.Frag}
theorem dget_of {F H : Hp} {x y : V} {d e : D} (s : Lk F H) (rx : Rq K F H x d) (ry : Rq K F H y e) : (∀ z, ixDic d e = some z → ∃ p v, x = .ref p ∧ DGet H p y (some v) ∧ Rp K F v z) ∧ ∀ k, inDic e d = some k → ∃ p o, x = .ref p ∧ DGet H p y o ∧ o.isSome = k := by
  cases d with
  | dic es =>
    obtain ⟨p, kvs, rfl, h, t⟩ := rx.dic s
    refine ⟨fun z hz => ?_, fun k hk => ?_⟩
    · have hz : ((keyD e).bind fun k => getK es k) = some z := hz
      cases ek : keyD e with
      | none => rw [ek] at hz; cases hz
      | some k =>
        rw [ek] at hz
        obtain ⟨v, h1, h2⟩ := (RpK.get t).1 z hz
        exact ⟨p, v, rfl, .inl ⟨kvs, k, h, keyD_v ry ek, h1.symm⟩, h2⟩
    · have hk : ((keyD e).map fun k => (getK es k).isSome) = some k := hk
      cases ek : keyD e with
      | none => rw [ek] at hk; cases hk
      | some k' =>
        rw [ek] at hk
        cases hk
        exact ⟨p, valV kvs k', rfl, .inl ⟨kvs, k', h, keyD_v ry ek, rfl⟩, (RpK.get t).2⟩
  | dit es =>
    obtain ⟨p, kvs, rfl, h, t⟩ := rx.dit s
    refine ⟨fun z hz => ?_, fun k hk => ?_⟩
    · have hz : ((keyT e).bind fun k => getK es k) = some z := hz
      cases ek : keyT e with
      | none => rw [ek] at hz; cases hz
      | some k =>
        rw [ek] at hz
        obtain ⟨v, h1, h2⟩ := (RpK.get t).1 z hz
        obtain ⟨b, rfl, hb⟩ := keyT_v s ry ek
        exact ⟨p, v, rfl, .inr ⟨kvs, k, b, h, rfl, hb, h1.symm⟩, h2⟩
    · have hk : ((keyT e).map fun k => (getK es k).isSome) = some k := hk
      cases ek : keyT e with
      | none => rw [ek] at hk; cases hk
      | some k' =>
        rw [ek] at hk
        cases hk
        obtain ⟨b, rfl, hb⟩ := keyT_v s ry ek
        exact ⟨p, valV kvs k', rfl, .inr ⟨kvs, k', b, h, rfl, hb, rfl⟩, (RpK.get t).2⟩
  | _ => exact ⟨(fun z hz => by cases hz), (fun k hk => by cases hk)⟩

end

/-- fit to be compared, nested at most n deep -/
def fitD (n : Nat) (d : D) : Bool := flatD d && (toPy d).canLay0 && decide ((toPy d).depth ≤ n)
theorem fitD_mono {m n : Nat} {d : D} (h : fitD m d = true) (hmn : m ≤ n) : fitD n d = true := by
  unfold fitD at h ⊢
  simp only [Bool.and_eq_true, decide_eq_true_eq] at h ⊢
  exact ⟨h.1, by omega⟩
theorem shD_fit {d : D} : shD d = fitD 64 d := by
  unfold shD fitD SeqAt.shaped
  rw [Bool.and_assoc]

/-- are they equal -/
def same (d e : D) : Bool := PyData.eqv (toPy d) (toPy e)
def sameL (d e : List D) : Bool := PyData.eqvAll (toPyL d) (toPyL e)

/-! ### sorted -/
def leT (d e : D) : Bool := PySem.W.dataLe false toPy d e
def alikeL (l : List D) : Bool := l.all fun d => l.all fun e => PySem.W.alike (toPy d) (toPy e)
def tup1 : D → Bool
  | .tup (_ :: _) => true
  | _ => false
def notNT : D → Bool
  | .non => false
  | .tup _ => false
  | .raw _ => false
  | .ins _ _ => false
  | .exn _ _ => false
  | _ => true
theorem notNT_py {d : D} (h : notNT d = true) : toPy d ≠ .none ∧ ∀ xs, toPy d ≠ .tuple xs := by
  cases d with
  | non => cases h
  | tup l => cases h
  | raw v => cases h
  | ins C f => cases h
  | exn C f => cases h
  | bl b => simp only [toPy]; exact ⟨(fun e => by cases e), (fun _ e => by cases e)⟩
  | int b => simp only [toPy]; exact ⟨(fun e => by cases e), (fun _ e => by cases e)⟩
  | str b => simp only [toPy]; exact ⟨(fun e => by cases e), (fun _ e => by cases e)⟩
  | lst b => simp only [toPy]; exact ⟨(fun e => by cases e), (fun _ e => by cases e)⟩
  | dic b => simp only [toPy]; exact ⟨(fun e => by cases e), (fun _ e => by cases e)⟩
  | dit b => simp only [toPy]; exact ⟨(fun e => by cases e), (fun _ e => by cases e)⟩
def sortF : List D → Option D
  | [.lst l] => if flatL l && alikeL l && (l.all tup1 || l.all notNT) && l.all (fun d => decide ((toPy d).depth ≤ 60)) && decide (l.length ≤ sizeLine) then some (.lst (l.mergeSort leT)) else none
  | _ => none
section
variable {X : Cx} {K : PySem.W.Frag} {F H : Hp}
theorem each_zip {h : Heap} : ∀ {xs : List V} {us : List Value} {ds : List D}, Vals xs us → xs.length = ds.length → PySem.W.EachIs (fun (v : Value) (b : V × D) => RelV b.1 v) us (xs.zip ds)
  | _, _, [], .nil, _ => .nil
  | _, _, _ :: _, .nil, e => by cases e
  | _, _, [], .cons _ _, e => by cases e
  | _, _, d :: ds, .cons r t, e => .cons r (each_zip (h := h) t (by simpa using e))
theorem each_reads {h : Heap} : ∀ {xs : List V} {us : List Value} {ds : List D}, Vals xs us → RpL K H xs ds → (∀ v d u, Rp K H v d → d ∈ ds → RelV v u → ∃ as, Reads h u (toPy d) as) → PySem.W.EachIs (fun (v : Value) (b : V × D) => ∃ as, Reads h v (toPy b.2) as) us (xs.zip ds)
  | _, _, _, .nil, .nil, _ => .nil
  | _, _, _, .cons r t, .cons a b, q => .cons (q _ _ _ a List.mem_cons_self r) (each_reads t b fun v d u h1 h2 h3 => q v d u h1 (List.mem_cons_of_mem _ h2) h3)
theorem flatL_mem : ∀ {l : List D}, flatL l = true → ∀ d ∈ l, flatD d = true
  | [], _, _, h => nomatch h
  | e :: l, h, d, hd => by
    simp only [flatL, Bool.and_eq_true] at h
    rcases List.mem_cons.mp hd with rfl | hd
    · exact h.1
    · exact flatL_mem h.2 d hd
theorem zip_rpL : ∀ {bs : List (V × D)}, (∀ b ∈ bs, Rp K H b.1 b.2) → RpL K H (bs.map (·.1)) (bs.map (·.2))
  | [], _ => .nil
  | b :: bs, h => .cons (h b List.mem_cons_self) (zip_rpL fun c hc => h c (List.mem_cons_of_mem _ hc))
theorem rpL_zip : ∀ {xs : List V} {ds : List D}, RpL K H xs ds → ∀ b ∈ xs.zip ds, Rp K H b.1 b.2
  | _, _, .nil, b, h => nomatch h
  | _, _, .cons a t, b, h => by
    rcases List.mem_cons.mp h with rfl | h
    · exact a
    · exact rpL_zip t b h
theorem each_vals : ∀ {us : List Value} {bs : List (V × D)}, PySem.W.EachIs (fun (v : Value) (b : V × D) => RelV b.1 v) us bs → Vals (bs.map (·.1)) us
  | _, _, .nil => .nil
  | _, _, .cons r t => .cons r (each_vals t)
theorem zip_snd : ∀ {xs : List V} {ds : List D}, xs.length = ds.length → (xs.zip ds).map (·.2) = ds
  | [], [], _ => rfl
  | [], _ :: _, e => by cases e
  | _ :: _, [], e => by cases e
  | x :: xs, d :: ds, e => by
    rw [List.zip_cons_cons, List.map_cons, zip_snd (by simpa using e)]
theorem call_sortF (hu : X.A.units + 64 < cLine) : CallR X (.builtin "sorted") (rFnN X.K sortF) := by
  intro pins s σ H xs us Q I r ⟨F, ds, z, sF, q, hz, o⟩
  unfold sortF at hz
  split at hz
  · rename_i l
    split at hz
    · rename_i hc
      cases hz
      simp only [Bool.and_eq_true, decide_eq_true_eq] at hc
      obtain ⟨⟨⟨⟨c1, c2⟩, c3⟩, c4⟩, c5⟩ := hc
      obtain ⟨v, rfl, q1⟩ := q.one
      obtain ⟨a, ys, rfl, h, t⟩ := q1.lst sF
      obtain ⟨u, rfl, ru⟩ := vals1 r
      obtain rfl : u = Value.ref a := ru
      obtain ⟨its, rv, hl, hsz⟩ := I.list h
      have ln := t.length
      have lz : (ys.zip l).length = l.length := by rw [List.length_zip, ln, Nat.min_self]
      have tH : RpL X.K H ys l := t.lk sF
      have e1 := each_zip (h := s.heap) rv ln
      have e2 : PySem.W.EachIs (fun (v : Value) (b : V × D) => ∃ as, Reads s.heap v (toPy b.2) as) its (ys.zip l) := each_reads rv tH fun v d u h1 h2 h3 => Dp.reads I _ v u (Rp.dp h1 (flatL_mem c1 d h2)) h3
      have al : PySem.W.AllAlike ((ys.zip l).map fun b => toPy b.2) := by
        intro d hd d' hd'
        obtain ⟨b, hb, rfl⟩ := List.mem_map.mp hd
        obtain ⟨b', hb', rfl⟩ := List.mem_map.mp hd'
        exact List.all_eq_true.mp (List.all_eq_true.mp c2 b.2 (List.of_mem_zip hb).2) b'.2 (List.of_mem_zip hb').2
      have so : PySem.W.Sortable ((ys.zip l).map fun b => toPy b.2) := by
        rw [Bool.or_eq_true] at c3
        rcases c3 with c3 | c3
        · refine .inl fun d hd => ?_
          obtain ⟨b, hb, rfl⟩ := List.mem_map.mp hd
          have := List.all_eq_true.mp c3 b.2 (List.of_mem_zip hb).2
          unfold tup1 at this
          split at this
          · rename_i x r e
            rw [e]
            exact ⟨toPy x, toPyL r, by simp only [toPy, toPyL]⟩
          · cases this
        · refine .inr fun d hd => ?_
          obtain ⟨b, hb, rfl⟩ := List.mem_map.mp hd
          have := List.all_eq_true.mp c3 b.2 (List.of_mem_zip hb).2
          exact notNT_py this
      refine PySem.W.sorted_data (enc := fun (b : V × D) => toPy b.2) hl.isList e1 e2 al so (by rw [lz]; exact c5) (fun b hb => ?_) fun out hlen ho => ?_
      · have := List.all_eq_true.mp c4 b.2 (List.of_mem_zip hb).2
        have := of_decide_eq_true this
        omega
      · obtain ⟨n, hn⟩ := sortedAll_at s.heap its out.toArray
        have vs := each_vals ho
        have zz : ((ys.zip l).mergeSort (PySem.W.dataLe false fun b => toPy b.2)).map (·.2) = l.mergeSort leT := by
          have q := List.map_mergeSort (f := fun (x : V × D) => x.2) (r := PySem.W.dataLe false fun (b : V × D) => toPy b.2) (s := leT) (l := ys.zip l) (fun a _ b _ => rfl)
          rw [q, zip_snd ln]
        have rp : RpL X.K F (((ys.zip l).mergeSort (PySem.W.dataLe false fun b => toPy b.2)).map (·.1)) (l.mergeSort leT) := by
          rw [← zz]
          exact zip_rpL fun b hb => rpL_zip t b ((List.mergeSort_perm _ _).mem_iff.mp hb)
        have hp : H (s.heap.objs.size + 1) = none := I.hok.fresh (Nat.le_succ _)
        refine ⟨.ref _, _, I.laid (t' := s.toks) (fun _ _ => sortedAll_old) (Nat.le_succ _) (o := .lst _) ⟨?_, out, n, vs, hn⟩, rfl, o.lnew sF hp rp⟩
        rw [List.length_map, List.length_mergeSort, lz]
        exact c5
    · cases hz
  · cases hz
end
/-! ### list(x), not in, x[::-1] -/
def listF : List D → Option D
  | [.lst l] => some (.lst l)
  | [.tup l] => some (.lst l)
  | _ => none
section
variable {X : Cx}
theorem call_listF : CallR X (.type "list") (rFnN X.K listF) := by
  intro pins s σ H xs us Q I r ⟨F, ds, z, sF, q, hz, o⟩
  unfold listF at hz
  split at hz
  · cases hz
    obtain ⟨v, rfl, q1⟩ := q.one
    obtain ⟨a, ys, rfl, h, t⟩ := q1.lst sF
    exact call_list_of pins s σ H _ us Q I r ⟨a, ys, rfl, .inl h, fun p hp => o.lnew sF hp t⟩
  · cases hz
    obtain ⟨v, rfl, q1⟩ := q.one
    obtain ⟨a, ys, rfl, h, t⟩ := q1.tup sF
    exact call_list_of pins s σ H _ us Q I r ⟨a, ys, rfl, .inr h, fun p hp => o.lnew sF hp t⟩
  · cases hz
theorem op_notInF (hu : X.A.units + 65 < cLine) : OpR X (compareOp .NotIn) (rC2 X.K notInD) := by
  intro pins s σ H x y v u Q I rx ry ⟨F, d, e, b, sF, qd, qe, hz, o⟩
  unfold notInD at hz
  cases hi : inD d e with
  | none => rw [hi] at hz; cases hz
  | some c =>
    rw [hi] at hz
    cases hz
    unfold inD at hi
    split at hi
    · rename_i a b'
      cases hi
      unfold inSD at o
      split at o
      · rename_i c hc
        rw [str_one hc] at qd
        exact op_notIn_sign pins s σ H x y v u Q I rx ry ⟨c, _, qd.str, qe.str, o⟩
      · exact op_notin_str pins s σ H x y v u Q I rx ry ⟨_, _, qd.str, qe.str, o⟩
    · split at hi
      · rename_i h
        cases hi
        rw [Bool.and_eq_true] at h
        obtain ⟨h1, h2⟩ := shD_dp sF qd h.1
        obtain ⟨h3, h4⟩ := shD_dp sF qe h.2
        obtain ⟨as, r1⟩ := Dp.reads I _ x v h1 rx
        obtain ⟨bs, r2⟩ := Dp.reads I _ y u h3 ry
        simp only [toPy] at r2 h4
        exact SeqAt.notIn_list_reads r2 r1 (SeqAt.canLay_of_shaped h4) (SeqAt.canLay_of_shaped h2) (room_in_shaped h2 hu) ⟨.bl _, H, I, rfl, o⟩
      · cases hi
    · split at hi
      · rename_i h
        cases hi
        rw [Bool.and_eq_true] at h
        obtain ⟨h1, h2⟩ := shD_dp sF qd h.1
        obtain ⟨h3, h4⟩ := shD_dp sF qe h.2
        obtain ⟨as, r1⟩ := Dp.reads I _ x v h1 rx
        obtain ⟨bs, r2⟩ := Dp.reads I _ y u h3 ry
        simp only [toPy] at r2 h4
        exact SeqAt.notIn_tuple_reads r2 r1 (SeqAt.canLay_of_shaped h4) (SeqAt.canLay_of_shaped h2) (room_in_shaped h2 hu) ⟨.bl _, H, I, rfl, o⟩
      · cases hi
    · cases hi

theorem rpL_reverse {K : PySem.W.Frag} {F : Hp} : ∀ {xs : List V} {ds : List D}, RpL K F xs ds → RpL K F xs.reverse ds.reverse
  | _, _, .nil => .nil
  | _, _, .cons a t => by
    rw [List.reverse_cons, List.reverse_cons]
    exact (rpL_reverse t).append (.cons a .nil)

theorem op_inF2 (hu : X.A.units + 65 < cLine) : OpR X (compareOp .In) (rC2 X.K inD2) := by
  intro pins s σ H x y v u Q I rx ry ⟨F, d, e, c, sF, qd, qe, hz, o⟩
  unfold inD2 at hz
  split at hz
  · obtain ⟨p, r, rfl, g, rfl⟩ := (dget_of sF qe qd).2 c hz
    obtain rfl : u = Value.ref p := ry
    exact d_in (by omega) I g rx fun s3 I3 => ⟨.bl r.isSome, H, I3, rfl, o⟩
  · exact op_inF hu pins s σ H x y v u Q I rx ry ⟨F, d, e, c, sF, qd, qe, hz, o⟩
theorem op_notInF2 (hu : X.A.units + 65 < cLine) : OpR X (compareOp .NotIn) (rC2 X.K notInD2) := by
  intro pins s σ H x y v u Q I rx ry ⟨F, d, e, c, sF, qd, qe, hz, o⟩
  unfold notInD2 at hz
  split at hz
  · cases hi : inDic d e with
    | none => rw [hi] at hz; cases hz
    | some c' =>
      rw [hi] at hz
      cases hz
      obtain ⟨p, r, rfl, g, rfl⟩ := (dget_of sF qe qd).2 c' hi
      obtain rfl : u = Value.ref p := ry
      exact d_notIn (by omega) I g rx fun s3 I3 => ⟨.bl (!r.isSome), H, I3, rfl, o⟩
  · exact op_notInF hu pins s σ H x y v u Q I rx ry ⟨F, d, e, c, sF, qd, qe, hz, o⟩

/-- the tree behind x[i] = v -/
def putX : D → D → D → Option D
  | .lst ds, .int k, d => (ixN ds.length k).map fun t => .lst (ds.set t d)
  | .dic es, e, d => if es.length < sizeLine then (keyD e).map fun k => .dic (putD es k d) else none
  | .dit es, e, d => if es.length < sizeLine then (keyT e).map fun k => .dit (putD es k d) else none
  | _, _, _ => none

abbrev Mu := List D → List D → Option (List D × D)
def rMut (K : PySem.W.Frag) (g : Mu) : V → List V → Hp → VK → Prop := fun x vs H Q => ∃ F p xs ds as zs z, x = .ref p ∧ H p = some (.lst xs) ∧ RpL K F xs ds ∧ RpL K F vs as ∧ g ds as = some (zs, z) ∧ ∀ v ws, RpL K F ws zs → Rp K F v z → Q v (upd H p (.lst ws))

def gApp : Mu := fun ds es => match es with
  | [d] => if ds.length < sizeLine then some (ds ++ [d], .non) else none
  | _ => none
theorem mt_appF : MtR X "list.append" (rMut X.K gApp) := by
  intro pins s σ H x xs v us Q I rx rs hh
  obtain ⟨F, p, ys, ds, as, zs, z, rfl, hp, r1, r2, hg, q⟩ := hh
  unfold gApp at hg
  split at hg
  · split at hg
    · cases hg
      cases r2 with
      | cons a b =>
        cases b
        exact mt_append pins s σ H _ _ v us Q I rx rs ⟨p, ys, _, rfl, rfl, hp, by rw [r1.length]; assumption, q _ _ (r1.append (.cons a .nil)) .non⟩
    · cases hg
  · cases hg
def gIns : Mu := fun ds es => match es with
  | [.int i, d] => if ds.length < sizeLine ∧ 0 ≤ i ∧ i < 2 ^ 63 then some (ds.take i.toNat ++ [d] ++ ds.drop i.toNat, .non) else none
  | _ => none
theorem mt_insF : MtR X "list.insert" (rMut X.K gIns) := by
  intro pins s σ H x xs v us Q I rx rs hh
  obtain ⟨F, p, ys, ds, as, zs, z, rfl, hp, r1, r2, hg, q⟩ := hh
  unfold gIns at hg
  split at hg
  · split at hg
    · rename_i hc
      cases hg
      cases r2 with
      | cons a b =>
        cases b with
        | cons b c =>
          cases c
          cases a
          exact mt_insert pins s σ H _ _ v us Q I rx rs ⟨p, ys, _, _, rfl, rfl, hp, by rw [r1.length]; exact hc.1, hc.2.1, hc.2.2, q _ _ (((r1.take _).append (.cons b .nil)).append (r1.drop _)) .non⟩
    · cases hg
  · cases hg
def gPopAt : Mu := fun ds es => match es with
  | [.int i] => if -(2 ^ 63) ≤ i ∧ i < 2 ^ 63 then (match seqIndex? i ds.length with
    | some k => (ds[k]?).map fun d => (ds.eraseIdx k, d)
    | none => none) else none
  | _ => none
theorem rpL_erase {K : PySem.W.Frag} {F : Hp} : ∀ {xs : List V} {ds : List D} (k : Nat), RpL K F xs ds → RpL K F (xs.eraseIdx k) (ds.eraseIdx k)
  | _, _, _, .nil => .nil
  | _, _, 0, .cons _ t => t
  | _, _, k + 1, .cons a t => .cons a (rpL_erase k t)
theorem mt_popAtF : MtR X "list.pop" (rMut X.K gPopAt) := by
  intro pins s σ H x xs v us Q I rx rs hh
  obtain ⟨F, p, ys, ds, as, zs, z, rfl, hp, r1, r2, hg, q⟩ := hh
  unfold gPopAt at hg
  split at hg
  · split at hg
    · rename_i hc
      split at hg
      · rename_i k hk
        cases ed : ds[k]? with
        | none => rw [ed] at hg; cases hg
        | some d =>
          rw [ed] at hg
          cases hg
          cases r2 with
          | cons a b =>
            cases b
            cases a
            obtain ⟨y, h1, h2⟩ := r1.get ed
            exact mt_popAt pins s σ H _ _ v us Q I rx rs ⟨p, ys, _, k, y, rfl, rfl, hp, hc.1, hc.2, by rw [r1.length]; exact hk, h1, q _ _ (rpL_erase k r1) h2⟩
      · cases hg
    · cases hg
  · cases hg
end
section
variable {K : PySem.W.Frag} {F : Hp}
inductive RpKs (K : PySem.W.Frag) (F : Hp) : List (Key × V) → List (Key × D) → Prop
  | nil : RpKs K F [] []
  | cons {k : Key} {v : V} {d : D} {r : List (Key × V)} {t : List (Key × D)} : Rp K F v d → RpKs K F r t → RpKs K F ((k, v) :: r) ((k, d) :: t)
theorem merge_ok : ∀ {kvs : List (Key × V)} {kds : List (Key × D)} {a : List (Key × V)} {es : List (Key × D)}, RpKs K F kvs kds → RpK K F a es → RpK K F (mergeK a kvs) (mergeD es kds)
  | _, _, _, _, .nil, h => h
  | _, _, _, _, .cons (k := k) r t, h => by
    have q := merge_ok t (h.put (k := k) r)
    exact q
end
/-- pairs whose first is an int or a text -/
def pairsD : List D → Option (List (Key × D))
  | [] => some []
  | .tup [k, d] :: r => (keyD k).bind fun k => (pairsD r).map ((k, d) :: ·)
  | _ :: _ => none
def dictF : List D → Option D
  | [.lst l] => (pairsD l).map fun ps => .dic (mergeD [] ps)
  | [.dic es] => some (.dic es)
  | _ => none
section
variable {K : PySem.W.Frag} {F H : Hp}
theorem pairs_of (s : Lk F H) : ∀ {l : List D} {ps : List (Key × D)} {xs : List V}, RpL K F xs l → pairsD l = some ps → ∃ (as : List Addr) (kvs : List (Key × V)), xs = as.map V.ref ∧ Paired (fun p (kv : Key × V) => SqT K H p [kV kv.1, kv.2]) as kvs ∧ RpKs K F kvs ps
  | [], ps, _, r, h => by cases h; cases r; exact ⟨[], [], rfl, .nil, .nil⟩
  | d :: l, ps, _, r, h => by
    cases r with
    | cons a t =>
      unfold pairsD at h
      split at h
      · rename_i e1; cases e1
      · rename_i k d' r' e1
        cases e1
        cases ek : keyD k with
        | none => rw [ek] at h; cases h
        | some k0 =>
          rw [ek] at h
          simp only [Option.bind_some] at h
          cases ep : pairsD l with
          | none => rw [ep] at h; cases h
          | some ps' =>
            rw [ep] at h
            cases h
            obtain ⟨as, kvs, h1, h2, h3⟩ := pairs_of s t ep
            cases a with
            | tup hh tt =>
              cases tt with
              | cons ra rb =>
                cases rb with
                | cons rb rc =>
                  cases rc
                  have ek' := keyD_v (Rq.rp (H := F) ra) ek
                  subst ek'
                  exact ⟨_ :: as, (k0, _) :: kvs, by rw [h1]; rfl, .cons (SqT.of (s.at hh rfl)) h2, .cons rb h3⟩
      · cases h
end
section
variable {X : Cx}
theorem call_dictF (hc : X.calm = true) : CallR X (.type "dict") (rFnD X.K dictF) := by
  intro pins s σ H xs us Q I r ⟨F, ds, es, sF, q, hz, o⟩
  unfold dictF at hz
  split at hz
  · rename_i l
    cases ep : pairsD l with
    | none => rw [ep] at hz; cases hz
    | some ps =>
      rw [ep] at hz
      cases hz
      obtain ⟨v, rfl, q1⟩ := q.one
      obtain ⟨a, ys, rfl, h, t⟩ := q1.lst sF
      obtain ⟨as, kvs, rfl, h2, h3⟩ := pairs_of sF t ep
      refine call_dictP hc pins s σ H _ us Q I r ⟨a, as, kvs, rfl, h, h2, fun p hp => ?_⟩
      exact o _ _ hp (merge_ok h3 .nil)
  · cases hz
    obtain ⟨v, rfl, q1⟩ := q.one
    obtain ⟨a, kvs, rfl, h, t⟩ := q1.dic sF
    refine call_dictD pins s σ H _ us Q I r ⟨a, kvs, rfl, h, fun p hp => ?_⟩
    exact o _ _ hp t
  · cases hz
def indexD (l : List D) (d : D) : Option D := if fitD (63 + 1) (.lst l) && fitD (63 + 1) d then (l.findIdx? fun z => same z d).map fun j => .int (j : Nat) else none
def gIdx : D → List D → Option D
  | .lst l, [d] => indexD l d
  | _, _ => none
theorem toPyL_get : ∀ {l : List D} {j : Nat} {d : D}, l[j]? = some d → (toPyL l)[j]? = some (toPy d)
  | [], _, _, h => by cases h
  | a :: l, 0, d, h => by cases h; rfl
  | a :: l, j + 1, d, h => by
    have h : l[j]? = some d := h
    show (toPyL l)[j]? = _
    exact toPyL_get (l := l) (j := j) h
theorem toPyL_get' : ∀ {l : List D} {j : Nat} {z : PyData}, (toPyL l)[j]? = some z → ∃ d, l[j]? = some d ∧ z = toPy d
  | [], _, _, h => by cases h
  | a :: l, 0, d, h => by cases h; exact ⟨a, rfl, rfl⟩
  | a :: l, j + 1, d, h => by
    have h : (toPyL l)[j]? = some d := h
    exact toPyL_get' (l := l) (j := j) h
theorem mt_idxF (hu : X.A.units + 65 < cLine) : MtR X "list.index" (rFm X.K gIdx) := by
  intro pins s σ H x xs v us Q I rx rs ⟨F, d, ds, z, sF, qd, qs, hz, o⟩
  unfold gIdx at hz
  split at hz
  · rename_i l e
    obtain ⟨y, rfl, qe⟩ := qs.one
    unfold indexD at hz
    split at hz
    · rename_i hf
      rw [Bool.and_eq_true, ← shD_fit, ← shD_fit] at hf
      cases ej : l.findIdx? fun z => same z e with
      | none => rw [ej] at hz; cases hz
      | some j =>
        rw [ej] at hz
        cases hz
        obtain ⟨h1, h2⟩ := shD_dp sF qd hf.1
        obtain ⟨h3, h4⟩ := shD_dp sF qe hf.2
        obtain ⟨a, ys, rfl, _, _⟩ := qd.lst sF
        simp only [toPy] at h1 h2
        rw [List.findIdx?_eq_some_iff_getElem] at ej
        obtain ⟨hj, e1, e2⟩ := ej
        refine mt_indexD hu pins s σ H _ _ v us Q I rx rs ⟨a, y, toPy e, toPyL l, j, toPy l[j], rfl, rfl, h1, h3, h2, h4, toPyL_get (List.getElem?_eq_getElem hj), e1, fun m z' hm hz' => ?_, o.same sF (.int _)⟩
        obtain ⟨d', h5, rfl⟩ := toPyL_get' hz'
        obtain ⟨hml, h6⟩ := List.getElem?_eq_some_iff.mp h5
        have := e2 m hm
        rw [h6] at this
        simpa [same] using this
    · cases hz
  · cases hz
end
end Fx

/-! G: what is owned, by kind; entries; the relation between entries and the heap. -/
namespace Fx
open PySem PySem.Spec PyProof.Rows L2

/-! ### kinds of ownership -/
/-- v: it stays; l, d: a list, a dict of one's own; dl: a dict of one's own that is locked; t: a tuple with parts of one's own; i: an instance of one's own -/
inductive Kd where
  | v | l (k : Kd) | d (k : Kd) | dl (k : Kd) | t (ks : List Kd) | i (ks : List (Str × Kd))
/-- the kind of the n-th part -/
def Kd.ch : Kd → Nat → Kd
  | .v, _ => .v
  | .l k, _ => k
  | .d k, _ => k
  | .dl k, _ => k
  | .t ks, n => ks.getD n .v
  | .i ks, n => (ks.map (·.2)).getD n .v
def Kd.free : Kd → Bool
  | .v => true
  | .l k => k.free
  | .d k => k.free
  | .dl _ => false
  | .t ks => go ks
  | .i ks => goI ks
where
  go : List Kd → Bool
    | [] => true
    | k :: ks => k.free && go ks
  goI : List (Str × Kd) → Bool
    | [] => true
    | (_, k) :: ks => k.free && goI ks

mutual
/-- v stands for d; the addresses of A are one's own -/
inductive Ow (K : PySem.W.Frag) (F H : Hp) : Kd → V → D → List Addr → Prop
  | v {v : V} {d : D} : Rp K F v d → Ow K F H .v v d []
  | lst {k : Kd} {a : Addr} {xs : List V} {ds : List D} {A : List Addr} : H a = some (.lst xs) → OwC K F H (Kd.ch (.l k)) xs ds A → a ∉ A → Ow K F H (.l k) (.ref a) (.lst ds) (a :: A)
  | dic {k : Kd} {a : Addr} {kvs : List (Key × V)} {es : List (Key × D)} {A : List Addr} : H a = some (.dK kvs) → kvs.map (·.1) = es.map (·.1) → OwC K F H (Kd.ch (.d k)) (kvs.map (·.2)) (es.map (·.2)) A → a ∉ A → Ow K F H (.d k) (.ref a) (.dic es) (a :: A)
  | dit {k : Kd} {a : Addr} {kvs : List (List Key × V)} {es : List (List Key × D)} {A : List Addr} : H a = some (.dT kvs) → kvs.map (·.1) = es.map (·.1) → OwC K F H (Kd.ch (.d k)) (kvs.map (·.2)) (es.map (·.2)) A → a ∉ A → Ow K F H (.d k) (.ref a) (.dit es) (a :: A)
  | dicl {k : Kd} {a : Addr} {o : Obj} {kvs : List (Key × V)} {es : List (Key × D)} {A : List Addr} : H a = some (.frz o (.dK kvs)) → kvs.map (·.1) = es.map (·.1) → OwC K F H (Kd.ch (.dl k)) (kvs.map (·.2)) (es.map (·.2)) A → a ∉ A → Ow K F H (.dl k) (.ref a) (.dic es) (a :: A)
  | ditl {k : Kd} {a : Addr} {o : Obj} {kvs : List (List Key × V)} {es : List (List Key × D)} {A : List Addr} : H a = some (.frz o (.dT kvs)) → kvs.map (·.1) = es.map (·.1) → OwC K F H (Kd.ch (.dl k)) (kvs.map (·.2)) (es.map (·.2)) A → a ∉ A → Ow K F H (.dl k) (.ref a) (.dit es) (a :: A)
  | tup {ks : List Kd} {a : Addr} {xs : List V} {ds : List D} {A : List Addr} : F a = some (.tup xs) → OwC K F H (Kd.ch (.t ks)) xs ds A → Ow K F H (.t ks) (.ref a) (.tup ds) A
  | ins {ks : List (Str × Kd)} {a C dx : Addr} {c : Str} {fs : List (Str × V)} {gs : List (Str × D)} {A : List Addr} : clsV K c = .ref C → H a = some (.ins C dx fs) → H dx = some (.own a) → fs.map (·.1) = gs.map (·.1) → gs.map (·.1) = ks.map (·.1) → OwC K F H (Kd.ch (.i ks)) (fs.map (·.2)) (gs.map (·.2)) A → a ∉ A → dx ∉ A → Ow K F H (.i ks) (.ref a) (.ins c gs) (a :: dx :: A)
inductive OwC (K : PySem.W.Frag) (F H : Hp) : (Nat → Kd) → List V → List D → List Addr → Prop
  | nil {f : Nat → Kd} : OwC K F H f [] [] []
  | cons {f : Nat → Kd} {v : V} {vs : List V} {d : D} {ds : List D} {A B : List Addr} : Ow K F H (f 0) v d A → OwC K F H (fun n => f (n + 1)) vs ds B → (∀ x, x ∈ A → x ∉ B) → OwC K F H f (v :: vs) (d :: ds) (A ++ B)
end

section
variable {K : PySem.W.Frag} {F H F' H' : Hp}
mutual
theorem Ow.mono (e : Same F F') : ∀ {k : Kd} {v : V} {d : D} {A : List Addr}, Ow K F H k v d A → (∀ x, x ∈ A → H' x = H x) → Ow K F' H' k v d A
  | _, _, _, _, .v r, _ => .v (r.mono e)
  | _, _, _, _, .lst h t n, g => .lst ((g _ List.mem_cons_self).trans h) (OwC.mono e t fun x hx => g x (List.mem_cons_of_mem _ hx)) n
  | _, _, _, _, .dic h q t n, g => .dic ((g _ List.mem_cons_self).trans h) q (OwC.mono e t fun x hx => g x (List.mem_cons_of_mem _ hx)) n
  | _, _, _, _, .dit h q t n, g => .dit ((g _ List.mem_cons_self).trans h) q (OwC.mono e t fun x hx => g x (List.mem_cons_of_mem _ hx)) n
  | _, _, _, _, .dicl h q t n, g => .dicl ((g _ List.mem_cons_self).trans h) q (OwC.mono e t fun x hx => g x (List.mem_cons_of_mem _ hx)) n
  | _, _, _, _, .ditl h q t n, g => .ditl ((g _ List.mem_cons_self).trans h) q (OwC.mono e t fun x hx => g x (List.mem_cons_of_mem _ hx)) n
  | _, _, _, _, .tup h t, g => .tup (e _ _ h) (OwC.mono e t g)
  | _, _, _, _, .ins z h h2 q1 q2 t n n2, g => .ins z ((g _ List.mem_cons_self).trans h) ((g _ (List.mem_cons_of_mem _ List.mem_cons_self)).trans h2) q1 q2 (OwC.mono e t fun x hx => g x (List.mem_cons_of_mem _ (List.mem_cons_of_mem _ hx))) n n2
theorem OwC.mono (e : Same F F') : ∀ {f : Nat → Kd} {v : List V} {d : List D} {A : List Addr}, OwC K F H f v d A → (∀ x, x ∈ A → H' x = H x) → OwC K F' H' f v d A
  | _, _, _, _, .nil, _ => .nil
  | _, _, _, _, .cons a t n, g => .cons (Ow.mono e a fun x hx => g x (List.mem_append_left _ hx)) (OwC.mono e t fun x hx => g x (List.mem_append_right _ hx)) n
end
theorem rpK_of {κ : Type} : ∀ {kvs : List (κ × V)} {es : List (κ × D)}, kvs.map (·.1) = es.map (·.1) → RpL K H (kvs.map (·.2)) (es.map (·.2)) → RpK K H kvs es
  | [], [], _, _ => .nil
  | (k, v) :: r, (k', d) :: es, q, t => by
    simp only [List.map_cons, List.cons.injEq] at q
    obtain ⟨rfl, q⟩ := q
    cases t with
    | cons a b => exact .cons a (rpK_of q b)
  | [], _ :: _, q, _ => by cases q
  | _ :: _, [], q, _ => by cases q
theorem rpF_of : ∀ {kvs : List (Str × V)} {es : List (Str × D)}, kvs.map (·.1) = es.map (·.1) → RpL K H (kvs.map (·.2)) (es.map (·.2)) → RpF K H kvs es
  | [], [], _, _ => .nil
  | (k, v) :: r, (k', d) :: es, q, t => by
    simp only [List.map_cons, List.cons.injEq] at q
    obtain ⟨rfl, q⟩ := q
    cases t with
    | cons a b => exact .cons a (rpF_of q b)
  | [], _ :: _, q, _ => by cases q
  | _ :: _, [], q, _ => by cases q
mutual
/-- .. as a tree now -/
theorem Ow.rp (e : Lk F H) : ∀ {k : Kd} {v : V} {d : D} {A : List Addr}, Ow K F H k v d A → Rp K H v d
  | _, _, _, _, .v r => r.lk e
  | _, _, _, _, .lst h t n => .lst (SqL.of h) (OwC.rp e t)
  | _, _, _, _, .dic h q t n => .dicK (.inl h) (rpK_of q (OwC.rp e t))
  | _, _, _, _, .dit h q t n => .dicT (.inl h) (rpK_of q (OwC.rp e t))
  | _, _, _, _, .dicl h q t n => .dicK (.inr ⟨_, h⟩) (rpK_of q (OwC.rp e t))
  | _, _, _, _, .ditl h q t n => .dicT (.inr ⟨_, h⟩) (rpK_of q (OwC.rp e t))
  | _, _, _, _, .tup h t => .tup (e.at h rfl) (OwC.rp e t)
  | _, _, _, _, .ins z h h2 q1 q2 t n n2 => .ins z h (rpF_of q1 (OwC.rp e t))
theorem OwC.rp (e : Lk F H) : ∀ {f : Nat → Kd} {v : List V} {d : List D} {A : List Addr}, OwC K F H f v d A → RpL K H v d
  | _, _, _, _, .nil => .nil
  | _, _, _, _, .cons a t n => .cons (Ow.rp e a) (OwC.rp e t)
end
mutual
/-- what is one's own comes to stay -/
theorem Ow.frz (e : Same F F') : ∀ {k : Kd} {v : V} {d : D} {A : List Addr}, Ow K F H k v d A → k.free = true → (∀ x, x ∈ A → LkAt F' H x) → Rp K F' v d
  | _, _, _, _, .v r, _, _ => r.mono e
  | _, _, _, _, .lst (k := k) h t n, f, g => .lst (SqL.of (((g _ List.mem_cons_self) _ h).1 rfl)) (OwC.frz e t (fun _ => f) fun x hx => g x (List.mem_cons_of_mem _ hx))
  | _, _, _, _, .dic h q t n, f, g => .dicK (.inr (((g _ List.mem_cons_self) _ h).2 rfl)) (rpK_of q (OwC.frz e t (fun _ => f) fun x hx => g x (List.mem_cons_of_mem _ hx)))
  | _, _, _, _, .dit h q t n, f, g => .dicT (.inr (((g _ List.mem_cons_self) _ h).2 rfl)) (rpK_of q (OwC.frz e t (fun _ => f) fun x hx => g x (List.mem_cons_of_mem _ hx)))
  | _, _, _, _, .dicl h q t n, f, g => by cases f
  | _, _, _, _, .ditl h q t n, f, g => by cases f
  | _, _, _, _, .tup (ks := ks) h t, f, g => .tup (e _ _ h) (OwC.frz e t (fun n => by
      have key : ∀ (ks : List Kd) n, Kd.free.go ks = true → (ks.getD n .v).free = true := fun ks => by
        induction ks with
        | nil => intro n _; simp [Kd.free]
        | cons k ks ih =>
          intro n h
          unfold Kd.free.go at h
          rw [Bool.and_eq_true] at h
          cases n with
          | zero => simpa using h.1
          | succ n => simpa using ih n h.2
      unfold Kd.free at f
      exact key ks n f) g)
  | _, _, _, _, .ins (ks := ks) z h h2 q1 q2 t n n2, f, g => .ins z (((g _ List.mem_cons_self) _ h).1 rfl) (rpF_of q1 (OwC.frz e t (fun n => by
      have key : ∀ (ks : List (Str × Kd)) (n : Nat), Kd.free.goI ks = true → ((ks.map (fun (p : Str × Kd) => p.2)).getD n Kd.v).free = true := fun ks => by
        induction ks with
        | nil => intro n _; simp [Kd.free]
        | cons k ks ih =>
          obtain ⟨nm, k⟩ := k
          intro n h
          unfold Kd.free.goI at h
          rw [Bool.and_eq_true] at h
          cases n with
          | zero => simpa using h.1
          | succ n => simpa using ih n h.2
      unfold Kd.free at f
      exact key ks n f) fun x hx => g x (List.mem_cons_of_mem _ (List.mem_cons_of_mem _ hx))))
theorem OwC.frz (e : Same F F') : ∀ {f : Nat → Kd} {v : List V} {d : List D} {A : List Addr}, OwC K F H f v d A → (∀ n, (f n).free = true) → (∀ x, x ∈ A → LkAt F' H x) → RpL K F' v d
  | _, _, _, _, .nil, _, _ => .nil
  | _, _, _, _, .cons a t n, f, g => .cons (Ow.frz e a (f 0) fun x hx => g x (List.mem_append_left _ hx)) (OwC.frz e t (fun n => f (n + 1)) fun x hx => g x (List.mem_append_right _ hx))
end
mutual
/-- it is there, and no tuple -/
theorem Ow.there : ∀ {k : Kd} {v : V} {d : D} {A : List Addr}, Ow K F H k v d A → ∀ x, x ∈ A → ∃ o, H x = some o ∧ ∀ xs, o ≠ .tup xs
  | _, _, _, _, .v r, x, hx => by cases hx
  | _, _, _, _, .lst h t n, x, hx => by
    rcases List.mem_cons.mp hx with rfl | hx
    · exact ⟨_, h, fun _ e => by cases e⟩
    · exact OwC.there t x hx
  | _, _, _, _, .dic h q t n, x, hx => by
    rcases List.mem_cons.mp hx with rfl | hx
    · exact ⟨_, h, fun _ e => by cases e⟩
    · exact OwC.there t x hx
  | _, _, _, _, .dit h q t n, x, hx => by
    rcases List.mem_cons.mp hx with rfl | hx
    · exact ⟨_, h, fun _ e => by cases e⟩
    · exact OwC.there t x hx
  | _, _, _, _, .dicl h q t n, x, hx => by
    rcases List.mem_cons.mp hx with rfl | hx
    · exact ⟨_, h, fun _ e => by cases e⟩
    · exact OwC.there t x hx
  | _, _, _, _, .ditl h q t n, x, hx => by
    rcases List.mem_cons.mp hx with rfl | hx
    · exact ⟨_, h, fun _ e => by cases e⟩
    · exact OwC.there t x hx
  | _, _, _, _, .tup h t, x, hx => OwC.there t x hx
  | _, _, _, _, .ins z h h2 q1 q2 t n n2, x, hx => by
    rcases List.mem_cons.mp hx with rfl | hx
    · exact ⟨_, h, fun _ e => by cases e⟩
    · rcases List.mem_cons.mp hx with rfl | hx
      · exact ⟨_, h2, fun _ e => by cases e⟩
      · exact OwC.there t x hx
theorem OwC.there : ∀ {f : Nat → Kd} {v : List V} {d : List D} {A : List Addr}, OwC K F H f v d A → ∀ x, x ∈ A → ∃ o, H x = some o ∧ ∀ xs, o ≠ .tup xs
  | _, _, _, _, .nil, x, hx => by cases hx
  | _, _, _, _, .cons a t n, x, hx => by
    rcases List.mem_append.mp hx with hx | hx
    · exact Ow.there a x hx
    · exact OwC.there t x hx
end
/-- items that stay -/
theorem owc_v {f : Nat → Kd} : ∀ {xs : List V} {ds : List D}, (∀ n, f n = .v) → RpL K F xs ds → OwC K F H f xs ds []
  | _, _, _, .nil => .nil
  | _, _, e, .cons a t => by
    have q := OwC.cons (f := f) (A := []) (B := []) (by rw [e 0]; exact Ow.v a) (owc_v (fun n => e (n + 1)) t) (fun x h => by cases h)
    exact q
theorem owc_v' {f : Nat → Kd} : ∀ {xs : List V} {ds : List D} {A : List Addr}, (∀ n, f n = .v) → OwC K F H f xs ds A → A = [] ∧ RpL K F xs ds
  | _, _, _, _, .nil => ⟨rfl, .nil⟩
  | _, _, _, e, .cons a t n => by
    obtain ⟨rfl, h⟩ := owc_v' (fun n => e (n + 1)) t
    rw [e 0] at a
    cases a with
    | v r => exact ⟨rfl, .cons r h⟩
theorem OwC.length : ∀ {f : Nat → Kd} {xs : List V} {ds : List D} {A : List Addr}, OwC K F H f xs ds A → xs.length = ds.length
  | _, _, _, _, .nil => rfl
  | _, _, _, _, .cons a t n => by simp [OwC.length t]
end
end Fx

/-! G: a part of what is one's own: paths. -/
namespace Fx
open PySem PySem.Spec PyProof.Rows L2
/-- a step to a part: by place, by a dict's key, by a field's name -/
inductive Stp where
  | ix (n : Nat) | ky (k : D) | fd (f : Str)
/-- the kind of the part -/
def Kd.st : Kd → Stp → Kd
  | .l k, .ix _ => k
  | .d k, .ix _ => k
  | .d k, .ky _ => k
  | .dl k, .ix _ => k
  | .dl k, .ky _ => k
  | .t ks, .ix n => ks.getD n .v
  | .i ks, .fd f => (ks.lookup f).getD .v
  | _, _ => .v
def Kd.at : Kd → List Stp → Kd
  | k, [] => k
  | k, s :: p => (k.st s).at p
def keyIx {κ : Type} [DecidableEq κ] (es : List (κ × D)) (k : κ) : Option Nat := es.findIdx? fun e => decide (e.1 = k)
/-- the place of the part -/
def resv : D → Stp → Option Nat
  | .lst _, .ix n => some n
  | .tup _, .ix n => some n
  | .dic _, .ix n => some n
  | .dit _, .ix n => some n
  | .dic es, .ky e => (keyD e).bind fun k => keyIx es k
  | .dit es, .ky e => (keyT e).bind fun k => keyIx es k
  | .ins _ fs, .fd f => keyIx fs f
  | _, _ => none
/-- the parts, in order -/
def kids : D → List D
  | .lst l => l
  | .tup l => l
  | .dic l => l.map (·.2)
  | .dit l => l.map (·.2)
  | .ins _ l => l.map (·.2)
  | _ => []
def setV {κ : Type} : List (κ × D) → Nat → D → List (κ × D)
  | [], _, _ => []
  | (k, _) :: r, 0, d => (k, d) :: r
  | p :: r, n + 1, d => p :: setV r n d
def setKid : D → Nat → D → D
  | .lst l, n, d => .lst (l.set n d)
  | .tup l, n, d => .tup (l.set n d)
  | .dic l, n, d => .dic (setV l n d)
  | .dit l, n, d => .dit (setV l n d)
  | .ins c l, n, d => .ins c (setV l n d)
  | d, _, _ => d
def getP : D → List Stp → Option D
  | d, [] => some d
  | d, s :: p => (resv d s).bind fun n => ((kids d)[n]?).bind fun c => getP c p
def setP : D → List Stp → D → Option D
  | _, [], x => some x
  | d, s :: p, x => (resv d s).bind fun n => ((kids d)[n]?).bind fun c => (setP c p x).map fun c' => setKid d n c'
theorem setV_fst {κ : Type} : ∀ (l : List (κ × D)) (n : Nat) (d : D), (setV l n d).map (·.1) = l.map (·.1)
  | [], _, _ => rfl
  | (k, _) :: r, 0, d => rfl
  | p :: r, n + 1, d => by simp only [setV, List.map_cons, setV_fst r n d]
theorem setV_snd {κ : Type} : ∀ (l : List (κ × D)) (n : Nat) (d : D), (setV l n d).map (·.2) = (l.map (·.2)).set n d
  | [], _, _ => by simp [setV]
  | (k, _) :: r, 0, d => rfl
  | p :: r, n + 1, d => by simp only [setV, List.map_cons, List.set_cons_succ, setV_snd r n d]
theorem keyIx_setV {κ : Type} [DecidableEq κ] (k : κ) : ∀ (l : List (κ × D)) (n : Nat) (d : D), keyIx (setV l n d) k = keyIx l k
  | [], _, _ => rfl
  | (k', _) :: r, 0, d => by simp [keyIx, setV, List.findIdx?_cons]
  | p :: r, n + 1, d => by
    have ih := keyIx_setV k r n d
    unfold keyIx at ih ⊢
    simp only [setV, List.findIdx?_cons, ih]
theorem resv_set {d c : D} {n : Nat} (s : Stp) : resv (setKid d n c) s = resv d s := by
  cases d <;> cases s <;> simp [setKid, resv, keyIx_setV]
theorem kids_set {d c : D} {n : Nat} : kids (setKid d n c) = (kids d).set n c := by
  cases d <;> simp [setKid, kids, setV_snd]

/-- the parts' values at a -/
def Kids (F H : Hp) (k : Kd) (a : Addr) (d : D) (xs : List V) : Prop := match k, d with
  | .l _, .lst _ => H a = some (.lst xs)
  | .t _, .tup _ => F a = some (.tup xs)
  | .d _, .dic _ => ∃ kvs : List (Key × V), H a = some (.dK kvs) ∧ xs = kvs.map (·.2)
  | .d _, .dit _ => ∃ kvs : List (List Key × V), H a = some (.dT kvs) ∧ xs = kvs.map (·.2)
  | .dl _, .dic _ => ∃ (o : Obj) (kvs : List (Key × V)), H a = some (.frz o (.dK kvs)) ∧ xs = kvs.map (·.2)
  | .dl _, .dit _ => ∃ (o : Obj) (kvs : List (List Key × V)), H a = some (.frz o (.dT kvs)) ∧ xs = kvs.map (·.2)
  | .i _, .ins _ _ => ∃ C dx fs, H a = some (.ins C dx fs) ∧ xs = fs.map (·.2)
  | _, _ => False
/-- w is the value at the end of the path -/
def VP (F H : Hp) : Kd → V → D → List Stp → V → Prop
  | _, v, _, [], w => w = v
  | k, v, d, s :: p, w => ∃ n c a xs u, resv d s = some n ∧ (kids d)[n]? = some c ∧ v = .ref a ∧ Kids F H k a d xs ∧ xs[n]? = some u ∧ VP F H (k.st s) u c p w
section
variable {K : PySem.W.Frag} {F H F' H' : Hp}
/-- one part among the parts -/
theorem OwC.focus : ∀ {f : Nat → Kd} {vs : List V} {ds : List D} {A : List Addr} {n : Nat} {c : D}, OwC K F H f vs ds A → ds[n]? = some c → ∃ v Ac, vs[n]? = some v ∧ Ow K F H (f n) v c Ac ∧ (∀ x, x ∈ Ac → x ∈ A) ∧
    (∀ m u cm, m ≠ n → vs[m]? = some u → ds[m]? = some cm → ∃ B, Ow K F H (f m) u cm B ∧ ∀ x, x ∈ B → x ∈ A ∧ x ∉ Ac) ∧
    ∀ (F1 H1 : Hp) (c' : D) (Ac' : List Addr), Same F F1 → (∀ x, x ∈ A → x ∉ Ac → H1 x = H x) → Ow K F1 H1 (f n) v c' Ac' → (∀ x, x ∈ Ac' → x ∈ Ac ∨ x ∉ A) →
      ∃ A', OwC K F1 H1 f vs (ds.set n c') A' ∧ (∀ x, x ∈ A' → (x ∈ A ∧ x ∉ Ac) ∨ x ∈ Ac')
  | _, _, _, _, _, _, .nil, h => by cases h
  | f, _, _, _, 0, c, .cons (v := v) (vs := vs) (ds := ds) (A := A) (B := B) a t nn, h => by
    cases h
    have nB : ∀ x, x ∈ B → x ∉ A := fun x hb ha => nn x ha hb
    refine ⟨v, A, rfl, a, fun x hx => List.mem_append_left _ hx, fun m u cm hm hu hc => ?_, fun F1 H1 c' Ac' e g o' fr => ?_⟩
    · cases m with
      | zero => exact (hm rfl).elim
      | succ m =>
        have hc : ds[m]? = some cm := hc
        have hu : vs[m]? = some u := hu
        have key : ∀ {f : Nat → Kd} {vs : List V} {ds : List D} {B : List Addr}, OwC K F H f vs ds B → ∀ m u cm, vs[m]? = some u → ds[m]? = some cm → ∃ C, Ow K F H (f m) u cm C ∧ ∀ x, x ∈ C → x ∈ B := by
          intro f vs ds B q
          induction ds generalizing f vs B with
          | nil => intro m u cm _ h; cases h
          | cons d ds ih =>
            cases q with
            | cons a t n =>
              intro m u cm h1 h2
              cases m with
              | zero => cases h1; cases h2; exact ⟨_, a, fun x hx => List.mem_append_left _ hx⟩
              | succ m =>
                obtain ⟨C, k1, k2⟩ := ih t m u cm h1 h2
                exact ⟨C, k1, fun x hx => List.mem_append_right _ (k2 x hx)⟩
        obtain ⟨C, k1, k2⟩ := key t m u cm hu hc
        exact ⟨C, k1, fun x hx => ⟨List.mem_append_right _ (k2 x hx), nB x (k2 x hx)⟩⟩
    · refine ⟨Ac' ++ B, .cons o' (t.mono e fun x hx => g x (List.mem_append_right _ hx) (nB x hx)) fun x hx hb => ?_, fun x hx => ?_⟩
      · rcases fr x hx with z | z
        · exact nB x hb z
        · exact z (List.mem_append_right _ hb)
      · rcases List.mem_append.mp hx with z | z
        · exact .inr z
        · exact .inl ⟨List.mem_append_right _ z, nB x z⟩
  | f, _, _, _, n + 1, c, .cons (v := v) (d := d) (vs := vs) (ds := ds) (A := A) (B := B) a t nn, h => by
    have h : ds[n]? = some c := h
    obtain ⟨w, Ac, h1, h2, h3, h5, h4⟩ := OwC.focus t h
    have nA : ∀ x, x ∈ A → x ∉ Ac := fun x ha hc => nn x ha (h3 x hc)
    refine ⟨w, Ac, h1, h2, fun x hx => List.mem_append_right _ (h3 x hx), fun m u cm hm hu hc => ?_, fun F1 H1 c' Ac' e g o' fr => ?_⟩
    · cases m with
      | zero => cases hu; cases hc; exact ⟨A, a, fun x hx => ⟨List.mem_append_left _ hx, nA x hx⟩⟩
      | succ m =>
        obtain ⟨C, k1, k2⟩ := h5 m u cm (fun e => hm (by rw [e])) hu hc
        exact ⟨C, k1, fun x hx => ⟨List.mem_append_right _ (k2 x hx).1, (k2 x hx).2⟩⟩
    · obtain ⟨B', k1, k2⟩ := h4 F1 H1 c' Ac' e (fun x hx hn => g x (List.mem_append_right _ hx) hn) o' fun x hx => by
        rcases fr x hx with z | z
        · exact .inl z
        · exact .inr fun hb => z (List.mem_append_right _ hb)
      refine ⟨A ++ B', .cons (a.mono e fun x hx => g x (List.mem_append_left _ hx) (nA x hx)) k1 fun x hx hb => ?_, fun x hx => ?_⟩
      · rcases k2 x hb with ⟨z, _⟩ | z
        · exact nn x hx z
        · rcases fr x z with y | y
          · exact nA x hx y
          · exact y (List.mem_append_left _ hx)
      · rcases List.mem_append.mp hx with z | z
        · exact .inl ⟨List.mem_append_left _ z, nA x z⟩
        · rcases k2 x z with ⟨y1, y2⟩ | y
          · exact .inl ⟨List.mem_append_right _ y1, y2⟩
          · exact .inr y
/-- two parts have nothing in common -/
theorem OwC.apart : ∀ {f : Nat → Kd} {vs : List V} {ds : List D} {A : List Addr}, OwC K F H f vs ds A → ∃ g : Nat → List Addr, (∀ n v c, vs[n]? = some v → ds[n]? = some c → Ow K F H (f n) v c (g n)) ∧ (∀ n x, x ∈ g n → x ∈ A) ∧ ∀ m n, m ≠ n → ∀ x, x ∈ g m → x ∉ g n
  | _, _, _, _, .nil => ⟨fun _ => [], (fun n v c h => by cases h), (fun n x h => by cases h), (fun m n _ x h => by cases h)⟩
  | f, _, _, _, .cons (A := A) (B := B) a t nn => by
    obtain ⟨g, h1, h2, h3⟩ := OwC.apart t
    refine ⟨fun n => match n with | 0 => A | n + 1 => g n, fun n v c hv hc => ?_, fun n x hx => ?_, fun m n hmn x hm hn => ?_⟩
    · cases n with
      | zero => cases hv; cases hc; exact a
      | succ n => exact h1 n v c hv hc
    · cases n with
      | zero => exact List.mem_append_left _ hx
      | succ n => exact List.mem_append_right _ (h2 n x hx)
    · cases m with
      | zero =>
        cases n with
        | zero => exact hmn rfl
        | succ n => exact nn x hm (h2 n x hn)
      | succ m =>
        cases n with
        | zero => exact nn x hn (h2 m x hm)
        | succ n => exact h3 m n (fun e => hmn (by rw [e])) x hm hn
theorem lookup_ix : ∀ {ks : List (Str × Kd)} {gs : List (Str × D)} {f : Str} {n : Nat}, gs.map (·.1) = ks.map (·.1) → keyIx gs f = some n → (ks.lookup f).getD .v = (ks.map (fun (p : Str × Kd) => p.2)).getD n .v
  | [], [], _, _, _, h => by cases h
  | (k, x) :: ks, (g, y) :: gs, f, n, e, h => by
    simp only [List.map_cons, List.cons.injEq] at e
    obtain ⟨rfl, e⟩ := e
    unfold keyIx at h
    rw [List.findIdx?_cons] at h
    by_cases q : g = f
    · subst q
      simp at h
      subst h
      simp [List.lookup]
    · have q' : (f == g) = false := by simpa using fun z : f = g => q z.symm
      simp only [q, decide_false, Bool.false_eq_true, if_false] at h
      cases hi : gs.findIdx? (fun e => decide (e.1 = f)) with
      | none => rw [hi] at h; cases h
      | some m =>
        rw [hi] at h
        cases h
        have ih := lookup_ix (f := f) (n := m) e hi
        simp only [List.lookup, q']
        rw [ih]
        simp
  | [], _ :: _, _, _, e, _ => by cases e
  | _ :: _, [], _, _, e, _ => by cases e
/-- a node that is one's own and its parts -/
theorem Ow.node {k : Kd} {v : V} {d : D} {A : List Addr} {s : Stp} {n : Nat} (o : Ow K F H k v d A) (hk : k ≠ .v) (h : resv d s = some n) : ∃ (a : Addr) (xs : List V) (R B : List Addr), v = .ref a ∧ Kids F H k a d xs ∧ k.st s = k.ch n ∧ OwC K F H k.ch xs (kids d) B ∧ (∀ x, x ∈ A ↔ x ∈ R ∨ x ∈ B) ∧ (∀ x, x ∈ R → x ∉ B) ∧
    ∀ (F1 H1 : Hp) (c' : D) (B' : List Addr), Same F F1 → (∀ x, x ∈ R → H1 x = H x) → OwC K F1 H1 k.ch xs ((kids d).set n c') B' → (∀ x, x ∈ R → x ∉ B') → (∃ A', Ow K F1 H1 k v (setKid d n c') A' ∧ ∀ x, x ∈ A' ↔ x ∈ R ∨ x ∈ B') ∧ Kids F1 H1 k a (setKid d n c') xs := by
  cases o with
  | v r => exact (hk rfl).elim
  | @lst k a xs ds A hh t nn =>
    refine ⟨a, xs, [a], A, rfl, hh, (by cases s <;> first | rfl | cases h), t, (fun x => by simp), (fun x hx => by simp at hx; subst hx; exact nn), fun F1 H1 c' B' e g t' nn' => ?_⟩
    have g1 := (g a (by simp)).trans hh
    exact ⟨⟨_, .lst g1 t' (nn' a (by simp)), (fun x => by simp)⟩, g1⟩
  | @dic k a kvs es A hh q t nn =>
    refine ⟨a, _, [a], A, rfl, ⟨kvs, hh, rfl⟩, (by cases s <;> first | rfl | cases h), t, (fun x => by simp), (fun x hx => by simp at hx; subst hx; exact nn), fun F1 H1 c' B' e g t' nn' => ?_⟩
    have g1 := (g a (by simp)).trans hh
    exact ⟨⟨_, .dic g1 (by rw [setV_fst]; exact q) (by rw [setV_snd]; exact t') (nn' a (by simp)), (fun x => by simp)⟩, _, g1, rfl⟩
  | @dit k a kvs es A hh q t nn =>
    refine ⟨a, _, [a], A, rfl, ⟨kvs, hh, rfl⟩, (by cases s <;> first | rfl | cases h), t, (fun x => by simp), (fun x hx => by simp at hx; subst hx; exact nn), fun F1 H1 c' B' e g t' nn' => ?_⟩
    have g1 := (g a (by simp)).trans hh
    exact ⟨⟨_, .dit g1 (by rw [setV_fst]; exact q) (by rw [setV_snd]; exact t') (nn' a (by simp)), (fun x => by simp)⟩, _, g1, rfl⟩
  | @dicl k a ob kvs es A hh q t nn =>
    refine ⟨a, _, [a], A, rfl, ⟨ob, kvs, hh, rfl⟩, (by cases s <;> first | rfl | cases h), t, (fun x => by simp), (fun x hx => by simp at hx; subst hx; exact nn), fun F1 H1 c' B' e g t' nn' => ?_⟩
    have g1 := (g a (by simp)).trans hh
    exact ⟨⟨_, .dicl g1 (by rw [setV_fst]; exact q) (by rw [setV_snd]; exact t') (nn' a (by simp)), (fun x => by simp)⟩, _, _, g1, rfl⟩
  | @ditl k a ob kvs es A hh q t nn =>
    refine ⟨a, _, [a], A, rfl, ⟨ob, kvs, hh, rfl⟩, (by cases s <;> first | rfl | cases h), t, (fun x => by simp), (fun x hx => by simp at hx; subst hx; exact nn), fun F1 H1 c' B' e g t' nn' => ?_⟩
    have g1 := (g a (by simp)).trans hh
    exact ⟨⟨_, .ditl g1 (by rw [setV_fst]; exact q) (by rw [setV_snd]; exact t') (nn' a (by simp)), (fun x => by simp)⟩, _, _, g1, rfl⟩
  | @tup ks a xs ds A hh t =>
    refine ⟨a, xs, [], A, rfl, hh, (by cases s <;> first | (cases h; rfl) | cases h), t, (fun x => by simp), (fun x hx => by cases hx), fun F1 H1 c' B' e g t' nn' => ?_⟩
    exact ⟨⟨_, .tup (e _ _ hh) t', fun x => by simp⟩, e _ _ hh⟩
  | @ins ks a C dx c fs gs A z hh h2 q1 q2 t nn n2 =>
    refine ⟨a, _, [a, dx], A, rfl, ⟨C, dx, fs, hh, rfl⟩, ?_, t, (fun x => by simp [or_assoc]), (fun x hx => ?_), fun F1 H1 c' B' e g t' nn' => ?_⟩
    · cases s with
      | fd f => exact lookup_ix q2 h
      | ix n => cases h
      | ky e => cases h
    · simp at hx
      rcases hx with rfl | rfl
      · exact nn
      · exact n2
    · have g1 := (g a (by simp)).trans hh
      have g2 := (g dx (by simp)).trans h2
      exact ⟨⟨_, .ins z g1 g2 (by rw [setV_fst]; exact q1) (by rw [setV_fst]; exact q2) (by rw [setV_snd]; exact t') (nn' a (by simp)) (nn' dx (by simp)), fun x => by simp [or_assoc]⟩, _, _, _, g1, rfl⟩
theorem kids_inj {k : Kd} {a : Addr} {d : D} {xs ys : List V} (h : Kids F H k a d xs) (h' : Kids F H k a d ys) : xs = ys := by
  unfold Kids at h h'
  split at h
  · rw [h] at h'; cases h'; rfl
  · rw [h] at h'; cases h'; rfl
  · obtain ⟨_, h, rfl⟩ := h; obtain ⟨_, h', rfl⟩ := h'; rw [h] at h'; cases h'; rfl
  · obtain ⟨_, h, rfl⟩ := h; obtain ⟨_, h', rfl⟩ := h'; rw [h] at h'; cases h'; rfl
  · obtain ⟨_, _, h, rfl⟩ := h; obtain ⟨_, _, h', rfl⟩ := h'; rw [h] at h'; cases h'; rfl
  · obtain ⟨_, _, h, rfl⟩ := h; obtain ⟨_, _, h', rfl⟩ := h'; rw [h] at h'; cases h'; rfl
  · obtain ⟨_, _, _, h, rfl⟩ := h; obtain ⟨_, _, _, h', rfl⟩ := h'; rw [h] at h'; cases h'; rfl
  · exact h.elim
theorem kids_nv {a : Addr} {d : D} {xs : List V} {k : Kd} (h : Kids F H k a d xs) : k ≠ .v := fun e => by
  subst e
  cases d <;> exact h
theorem VP.mono (e : Same F F') : ∀ {p : List Stp} {k : Kd} {v w : V} {d : D} {A : List Addr}, Ow K F H k v d A → (∀ x, x ∈ A → H' x = H x) → VP F H k v d p w → VP F' H' k v d p w
  | [], _, _, _, _, _, _, _, h => h
  | s :: p, k, v, w, d, A, o, g, h => by
    obtain ⟨n, c, a, xs, u, h1, h2, rfl, h3, h4, h5⟩ := h
    obtain ⟨a', xs', R, B, e1, e2, e3, e4, e5, e6, e7⟩ := o.node (kids_nv h3) h1
    cases e1
    cases kids_inj h3 e2
    have keep := e7 F' H' c B e (fun x hx => g x ((e5 x).mpr (.inl hx))) (by
      rw [show (kids d).set n c = kids d from by rw [List.getElem?_eq_some_iff] at h2; obtain ⟨h2a, h2b⟩ := h2; rw [← h2b]; simp]
      exact e4.mono e fun x hx => g x ((e5 x).mpr (.inr hx))) e6
    obtain ⟨gg, k1, k2, k3⟩ := e4.apart
    have oc := k1 n u c h4 h2
    rw [← e3] at oc
    have kd := keep.2
    refine ⟨n, c, _, xs, u, h1, h2, rfl, ?_, h4, VP.mono e oc (fun x hx => g x ((e5 x).mpr (.inr (k2 n x hx)))) h5⟩
    have same : setKid d n c = d ∨ True := .inr trivial
    clear same
    cases k <;> cases d <;> exact kd
end
end Fx

/-! G: entries (names and temporaries) and the heap. -/
namespace Fx
open PySem PySem.Spec PyProof.Rows L2
section
variable {K : PySem.W.Frag} {F H F' H' : Hp}
theorem Kd.at_v : ∀ p : List Stp, Kd.at .v p = .v
  | [] => rfl
  | s :: p => by cases s <;> exact Kd.at_v p
/-- a part at the end of a path; it may be changed -/
theorem Ow.focus : ∀ {p : List Stp} {k : Kd} {v : V} {d c : D} {A : List Addr}, Ow K F H k v d A → k.at p ≠ .v → getP d p = some c → ∃ w Ac, VP F H k v d p w ∧ Ow K F H (k.at p) w c Ac ∧ (∀ x, x ∈ Ac → x ∈ A) ∧
    ∀ (F1 H1 : Hp) (c' : D) (Ac' : List Addr), Same F F1 → (∀ x, x ∈ A → x ∉ Ac → H1 x = H x) → Ow K F1 H1 (k.at p) w c' Ac' → (∀ x, x ∈ Ac' → x ∈ Ac ∨ x ∉ A) →
      ∃ d' A', setP d p c' = some d' ∧ Ow K F1 H1 k v d' A' ∧ (∀ x, x ∈ A' → (x ∈ A ∧ x ∉ Ac) ∨ x ∈ Ac') ∧ ∀ p' w', p'.length ≤ p.length → VP F H k v d p' w' → VP F1 H1 k v d' p' w'
  | [], k, vv, d, c, A, o, hk, h => by
    cases h
    refine ⟨vv, A, rfl, o, fun x h => h, fun F1 H1 c' Ac' e g o' fr => ⟨c', Ac', rfl, o', fun x hx => .inr hx, fun p' w' hl hv => ?_⟩⟩
    cases p' with
    | nil => exact hv
    | cons s r => simp at hl
  | s :: p, k, vv, d, c, A, o, hk, h => by
    have hk0 : k ≠ .v := fun e => by subst e; exact hk (Kd.at_v _)
    unfold getP at h
    cases er : resv d s with
    | none => rw [er] at h; cases h
    | some n =>
      rw [er] at h
      simp only [Option.bind_some] at h
      cases ec : (kids d)[n]? with
      | none => rw [ec] at h; cases h
      | some b =>
        rw [ec] at h
        have h : getP b p = some c := h
        obtain ⟨a, xs, R, B, rfl, e2, e3, e4, e5, e6, e7⟩ := o.node hk0 er
        obtain ⟨u, Ab, k1, k2, k3, k5, k4⟩ := e4.focus ec
        have hk' : (k.st s).at p ≠ .v := hk
        rw [← e3] at k2 k4
        obtain ⟨w, Ac, l1, l2, l3, l4⟩ := k2.focus hk' h
        have AcB : ∀ x, x ∈ Ac → x ∈ B := fun x hx => k3 x (l3 x hx)
        have RAc : ∀ x, x ∈ R → x ∉ Ac := fun x hr hc => e6 x hr (AcB x hc)
        refine ⟨w, Ac, ⟨n, b, a, xs, u, er, ec, rfl, e2, k1, l1⟩, l2, fun x hx => (e5 x).mpr (.inr (AcB x hx)), fun F1 H1 c' Ac' e g o' fr => ?_⟩
        have gA : ∀ x, x ∈ Ab → x ∈ A := fun x hx => (e5 x).mpr (.inr (k3 x hx))
        obtain ⟨b', Ab', m1, m2, m3, m4⟩ := l4 F1 H1 c' Ac' e (fun x hx hn => g x (gA x hx) hn) o' fun x hx => by
          rcases fr x hx with z | z
          · exact .inl z
          · exact .inr fun q => z (gA x q)
        have frB : ∀ x, x ∈ Ab' → x ∈ Ab ∨ x ∉ B := fun x hx => by
          rcases m3 x hx with ⟨z, _⟩ | z
          · exact .inl z
          · rcases fr x z with y | y
            · exact .inl (l3 x y)
            · exact .inr fun q => y ((e5 x).mpr (.inr q))
        obtain ⟨B', n1, n2⟩ := k4 F1 H1 b' Ab' e (fun x hx hn => g x ((e5 x).mpr (.inr hx)) fun q => hn (l3 x q)) m2 frB
        have RB' : ∀ x, x ∈ R → x ∉ B' := fun x hr hb => by
          rcases n2 x hb with ⟨z, _⟩ | z
          · exact e6 x hr z
          · rcases m3 x z with ⟨y, _⟩ | y
            · exact e6 x hr (k3 x y)
            · rcases fr x y with q | q
              · exact RAc x hr q
              · exact q ((e5 x).mpr (.inl hr))
        obtain ⟨⟨A', q1, q2⟩, q3⟩ := e7 F1 H1 b' B' e (fun x hx => g x ((e5 x).mpr (.inl hx)) (RAc x hx)) n1 RB'
        refine ⟨setKid d n b', A', by simp only [setP, er, ec, m1, Option.bind_some, Option.map_some], q1, fun x hx => ?_, fun p' w' hl hv => ?_⟩
        · rcases (q2 x).mp hx with z | z
          · exact .inl ⟨(e5 x).mpr (.inl z), RAc x z⟩
          · rcases n2 x z with ⟨y1, y2⟩ | y
            · exact .inl ⟨(e5 x).mpr (.inr y1), fun q => y2 (l3 x q)⟩
            · rcases m3 x y with ⟨q1', q2'⟩ | q
              · exact .inl ⟨gA x q1', q2'⟩
              · exact .inr q
        · cases p' with
          | nil => exact hv
          | cons s' r =>
            obtain ⟨n', c1, a', xs', u', v1, v2, v3, v4, v5, v6⟩ := hv
            cases v3
            cases kids_inj v4 e2
            have hr : r.length ≤ p.length := by simpa using hl
            have len : n' < (kids d).length := (List.getElem?_eq_some_iff.mp v2).1
            have lenn : n < (kids d).length := (List.getElem?_eq_some_iff.mp ec).1
            obtain ⟨_, _, _, _, w1, w2, w3, w4, w5, w6, w7⟩ := o.node hk0 v1
            by_cases hn : n' = n
            · subst hn
              rw [v2] at ec
              cases ec
              rw [v5] at k1
              cases k1
              refine ⟨n', b', a, xs, _, by rw [resv_set]; exact v1, by rw [kids_set]; exact List.getElem?_set_self len, rfl, q3, v5, ?_⟩
              rw [w3]
              rw [w3] at v6
              rw [e3] at m4
              exact m4 r w' hr v6
            · obtain ⟨gg, ow, y2⟩ := k5 n' u' c1 hn v5 v2
              have stay : ∀ x, x ∈ gg → H1 x = H x := fun x hx => g x ((e5 x).mpr (.inr (y2 x hx).1)) fun q => (y2 x hx).2 (l3 x q)
              refine ⟨n', c1, a, xs, u', by rw [resv_set]; exact v1, by rw [kids_set, List.getElem?_set_ne (Ne.symm hn)]; exact v2, rfl, q3, v5, ?_⟩
              rw [w3] at v6 ⊢
              exact VP.mono e ow stay v6
end
end Fx

/-! G: entries (names and temporaries) and the heap: the relation and what may be done to it. -/
namespace Fx
open PySem PySem.Spec PyProof.Rows L2
/-- the entry of a body: the heap, what stays, what may be written, the callers' objects by slot -/
structure Ent where
  H0 : Hp
  F0 : Hp
  W : Addr → Prop
  ad : Nat → Addr
/-- a name's slot; a temporary, from the bottom -/
inductive Ix where
  | s (i : Nat) | t (i : Nat)
  deriving DecidableEq
/-- what is known: nothing; as the surroundings have it; a value of a kind; a caller's; a part of the j-th, and what it is -/
inductive Sl where
  | un | ro | kd (k : Kd) (d : D) | io (k : Kd) (d : D) | al (j : Nat) (p : List Stp) (o : Option D)
def Sl.own : Sl → Option (Kd × D)
  | .kd k d => some (k, d)
  | .io k d => some (k, d)
  | _ => none
/-- it is a part of slot x -/
def Sl.of : Sl → Ix → Prop
  | .al j _ _, x => x = .s j
  | _, _ => False
abbrev Es := Ix → Sl
abbrev Vs := Ix → Option V
def EnOk (K : PySem.W.Frag) (n : Ent) (F H : Hp) (ent : Es) (val : Vs) (x : Ix) (A : List Addr) : Sl → Prop
  | .un => True
  | .ro => True
  | .kd k d => ∃ v, val x = some v ∧ Ow K F H k v d A
  | .io k d => (∃ i, x = .s i ∧ val x = some (.ref (n.ad i))) ∧ ∃ v, val x = some v ∧ Ow K F H k v d A
  | .al j p o => ∃ k d v w, (ent (.s j)).own = some (k, d) ∧ val (.s j) = some v ∧ val x = some w ∧ VP F H k v d p w ∧ k.at p ≠ .v ∧ ∀ c, o = some c → getP d p = some c
structure SimF (K : PySem.W.Frag) (n : Ent) (F : Hp) (ent : Es) (val : Vs) (ft : Ix → List Addr) (H : Hp) : Prop where
  sub : Lk F H
  en : ∀ x, EnOk K n F H ent val x (ft x) (ent x)
  dj : ∀ x y, x ≠ y → ∀ a, a ∈ ft x → a ∉ ft y
  fn : ∀ x a, a ∈ ft x → F a = none ∧ (n.H0 a = none ∨ n.W a)
  th : ∀ x a, a ∈ ft x → ∃ o, H a = some o ∧ ∀ xs, o ≠ .tup xs
  frame : ∀ (b : Addr) (o : HO), n.H0 b = some o → ¬ n.W b → H b = some o
  frz : ∀ (b : Addr) (o : HO), F b = some o → Old n.F0 b o ∨ n.H0 b = none ∨ n.W b
  sub0 : Same n.F0 F
  nd : NoDk F
def Sim (K : PySem.W.Frag) (n : Ent) (F : Hp) (ent : Es) (val : Vs) (H : Hp) : Prop := ∃ ft, SimF K n F ent val ft H
section
variable {K : PySem.W.Frag} {n : Ent} {F F' H H' F1 H1 : Hp} {ent ent' : Es} {val val' : Vs} {ft ft' : Ix → List Addr}
theorem Sim.sub (S : Sim K n F ent val H) : Lk F H := S.elim fun _ S => S.sub
theorem SimF.own_of (S : SimF K n F ent val ft H) {x : Ix} {k : Kd} {d : D} (h : (ent x).own = some (k, d)) : ∃ v, val x = some v ∧ Ow K F H k v d (ft x) := by
  have q := S.en x
  cases e : ent x with
  | kd k' d' => rw [e] at h q; cases h; exact q
  | io k' d' => rw [e] at h q; cases h; exact q.2
  | un => rw [e] at h; cases h
  | ro => rw [e] at h; cases h
  | al j p o => rw [e] at h; cases h
/-- from one state to the next -/
theorem SimF.step (S : SimF K n F ent val ft H) (T : Addr → Prop) (fz : Same F F1) (sub : Lk F1 H1) (nd : NoDk F1) (hp : ∀ b o, H b = some o → ¬ T b → H1 b = some o) (hT : ∀ b, T b → ∃ x, b ∈ ft x)
    (new : ∀ b o, F1 b = some o → Old F b o ∨ H b = none ∨ ∃ x, b ∈ ft x) (src : ∀ x a, a ∈ ft' x → (∃ y, a ∈ ft y) ∨ H a = none) (fn : ∀ x a, a ∈ ft' x → F1 a = none) (th : ∀ x a, a ∈ ft' x → ∃ o, H1 a = some o ∧ ∀ xs, o ≠ .tup xs)
    (dj : ∀ x y, x ≠ y → ∀ a, a ∈ ft' x → a ∉ ft' y) (en : ∀ x, EnOk K n F1 H1 ent' val' x (ft' x) (ent' x)) : SimF K n F1 ent' val' ft' H1 where
  sub := sub
  en := en
  dj := dj
  fn := fun x a h => ⟨fn x a h, by
    rcases src x a h with ⟨y, q⟩ | q
    · exact (S.fn y a q).2
    · by_cases hw : n.W a
      · exact .inr hw
      · cases e : n.H0 a with
        | none => exact .inl rfl
        | some o => rw [S.frame a o e hw] at q; cases q⟩
  th := th
  frame := fun b o h1 h2 => hp b o (S.frame b o h1 h2) fun t => by
    obtain ⟨x, hx⟩ := hT b t
    rcases (S.fn x b hx).2 with q | q
    · rw [h1] at q; cases q
    · exact h2 q
  frz := fun b o h => by
    rcases new b o h with (⟨u, q⟩ | q) | q | ⟨x, q⟩
    · have e : u = o := Option.some.inj ((fz b u q).symm.trans h)
      subst e
      exact S.frz b u q
    · exact .inl (.inr q)
    · by_cases hw : n.W b
      · exact .inr (.inr hw)
      · cases e : n.H0 b with
        | none => exact .inr (.inl rfl)
        | some u => rw [S.frame b u e hw] at q; cases q
    · exact .inr (S.fn x b q).2
  sub0 := S.sub0.trans fz
  nd := nd
/-- an entry that is not touched -/
theorem SimF.keepE (S : SimF K n F ent val ft H) (fz : Same F F1) {x : Ix} (hx : ∀ a, a ∈ ft x → H1 a = H a) (e1 : val' x = val x) (e2 : ∀ j p o, ent x = .al j p o → ent' (.s j) = ent (.s j) ∧ val' (.s j) = val (.s j) ∧ ∀ a, a ∈ ft (.s j) → H1 a = H a) : EnOk K n F1 H1 ent' val' x (ft x) (ent x) := by
  have q := S.en x
  cases e : ent x with
  | un => trivial
  | ro => trivial
  | kd k d =>
    rw [e] at q
    obtain ⟨v, h1, h2⟩ := q
    exact ⟨v, e1.trans h1, h2.mono fz hx⟩
  | io k d =>
    rw [e] at q
    obtain ⟨⟨i, h0, h1⟩, v, h2, h3⟩ := q
    exact ⟨⟨i, h0, e1.trans h1⟩, v, e1.trans h2, h3.mono fz hx⟩
  | al j p o =>
    rw [e] at q
    obtain ⟨k, d, v, w, h1, h2, h3, h4, h5, h6⟩ := q
    obtain ⟨k1, k2, k3⟩ := e2 j p o e
    obtain ⟨v', g1, g2⟩ := S.own_of h1
    rw [h2] at g1
    cases g1
    exact ⟨k, d, v, w, by rw [k1]; exact h1, by rw [k2]; exact h2, e1.trans h3, VP.mono fz g2 k3 h4, h5, h6⟩
theorem SimF.growA (S : SimF K n F ent val ft H) (g : Grow F H F1 H1) {x : Ix} {a : Addr} (h : a ∈ ft x) : H1 a = H a ∧ F1 a = none := by
  obtain ⟨o, ho, nt⟩ := S.th x a h
  refine ⟨(g.hp a o ho).trans ho.symm, ?_⟩
  cases q : F1 a with
  | none => rfl
  | some u =>
    rcases g.new a u q with (⟨z, e⟩ | ⟨xs, rfl⟩) | e
    · rw [(S.fn x a h).1] at e; cases e
    · have z := g.sub.at q rfl
      rw [g.hp a o ho] at z
      cases z
      exact (nt xs rfl).elim
    · rw [ho] at e; cases e
theorem Sim.grow (S : Sim K n F ent val H) (g : Grow F H F1 H1) : Sim K n F1 ent val H1 := by
  obtain ⟨ft, S⟩ := S
  refine ⟨ft, S.step (fun _ => False) g.fz g.sub (g.nd S.nd) (fun b o h _ => g.hp b o h) (fun b h => h.elim) (fun b o h => (g.new b o h).elim .inl fun q => .inr (.inl q)) (fun x a h => .inl ⟨x, h⟩) (fun x a h => (S.growA g h).2) (fun x a h => ?_) S.dj fun x => ?_⟩
  · obtain ⟨o, ho, nt⟩ := S.th x a h
    exact ⟨o, g.hp a o ho, nt⟩
  · exact S.keepE g.fz (fun a h => (S.growA g h).1) rfl fun j p o e => ⟨rfl, rfl, fun a h => (S.growA g h).1⟩
/-- less is told -/
theorem Sim.wk (S : Sim K n F ent val H) (h : ∀ x, (ent' x = ent x ∧ val' x = val x) ∨ ent' x = .un ∨ ∃ j p o, ent x = .al j p o ∧ ent' x = .al j p none ∧ val' x = val x) (hr : ∀ x j p o, ent' x = .al j p o → ent' (.s j) = ent (.s j) ∧ val' (.s j) = val (.s j)) : Sim K n F ent' val' H := by
  obtain ⟨ft, S⟩ := S
  refine ⟨ft, S.step (fun _ => False) (.refl _) S.sub S.nd (fun b o h _ => h) (fun b h => h.elim) (fun b o h => .inl (.inl ⟨o, h⟩)) (fun x a h => .inl ⟨x, h⟩) (fun x a h => (S.fn x a h).1) S.th S.dj fun x => ?_⟩
  rcases h x with ⟨e, ev⟩ | e | ⟨j, p, o, e0, e, ev⟩
  · rw [e]
    exact S.keepE (.refl _) (fun a h => rfl) ev fun j p o e' => by
      obtain ⟨q1, q2⟩ := hr x j p o (e.trans e')
      exact ⟨q1, q2, fun a h => rfl⟩
  · rw [e]; trivial
  · rw [e]
    have q := S.en x
    rw [e0] at q
    obtain ⟨k, d, v, w, h1, h2, h3, h4, h5, h6⟩ := q
    obtain ⟨q1, q2⟩ := hr x j p none e
    exact ⟨k, d, v, w, by rw [q1]; exact h1, by rw [q2]; exact h2, ev.trans h3, h4, h5, fun c hc => by cases hc⟩
/-- y gets a value whose own objects come from the entries of X, or are new; X is used up -/
theorem SimF.setA (S : SimF K n F ent val ft H) {y : Ix} {X : Ix → Prop} [DecidablePred X] (g : Grow F H F1 H1) {k : Kd} {v : V} {d : D} {A : List Addr} (o : Ow K F1 H1 k v d A) (hA : ∀ a, a ∈ A → (∃ x, X x ∧ a ∈ ft x) ∨ H a = none) (fA : ∀ a, a ∈ A → F1 a = none)
    (na : ∀ x, x ≠ y → ¬ X x → ¬ (ent x).of y ∧ ∀ z, X z → ¬ (ent x).of z) :
    Sim K n F1 (fun z => if z = y then .kd k d else if X z then .un else ent z) (fun z => if z = y then some v else val z) H1 := by
  refine ⟨fun z => if z = y then A else if X z then [] else ft z, S.step (fun _ => False) g.fz g.sub (g.nd S.nd) (fun b o h _ => g.hp b o h) (fun b h => h.elim) (fun b o h => (g.new b o h).elim .inl fun q => .inr (.inl q)) (fun x a h => ?_) (fun x a h => ?_) (fun x a h => ?_) (fun x z hxz a hx hz => ?_) fun x => ?_⟩
  · by_cases hx : x = y
    · rw [if_pos hx] at h
      rcases hA a h with ⟨z, _, q⟩ | q
      · exact .inl ⟨z, q⟩
      · exact .inr q
    · rw [if_neg hx] at h
      by_cases hX : X x
      · rw [if_pos hX] at h; cases h
      · rw [if_neg hX] at h; exact .inl ⟨x, h⟩
  · by_cases hx : x = y
    · rw [if_pos hx] at h; exact fA a h
    · rw [if_neg hx] at h
      by_cases hX : X x
      · rw [if_pos hX] at h; cases h
      · rw [if_neg hX] at h; exact (S.growA g h).2
  · by_cases hx : x = y
    · rw [if_pos hx] at h; exact o.there a h
    · rw [if_neg hx] at h
      by_cases hX : X x
      · rw [if_pos hX] at h; cases h
      · rw [if_neg hX] at h
        obtain ⟨u, hu, nt⟩ := S.th x a h
        exact ⟨u, g.hp a u hu, nt⟩
  · have key : ∀ z, z ≠ y → ∀ a, a ∈ A → a ∈ (if X z then [] else ft z) → False := fun z hz a ha h => by
      by_cases hX : X z
      · rw [if_pos hX] at h; cases h
      · rw [if_neg hX] at h
        rcases hA a ha with ⟨w, q1, q2⟩ | q
        · exact S.dj w z (fun e => hX (e ▸ q1)) a q2 h
        · obtain ⟨u, hu, _⟩ := S.th z a h
          rw [hu] at q; cases q
    by_cases h1 : x = y
    · have h2 : z ≠ y := fun e => hxz (h1.trans e.symm)
      rw [if_pos h1] at hx
      rw [if_neg h2] at hz
      exact key z h2 a hx hz
    · rw [if_neg h1] at hx
      by_cases h2 : z = y
      · rw [if_pos h2] at hz
        exact key x h1 a hz hx
      · rw [if_neg h2] at hz
        by_cases hX : X x
        · rw [if_pos hX] at hx; cases hx
        · rw [if_neg hX] at hx
          by_cases hZ : X z
          · rw [if_pos hZ] at hz; cases hz
          · rw [if_neg hZ] at hz
            exact S.dj x z hxz a hx hz
  · by_cases hx : x = y
    · subst hx
      simp only [if_pos rfl]
      exact ⟨v, if_pos rfl, o⟩
    · simp only [if_neg hx]
      by_cases hX : X x
      · simp only [if_pos hX]; trivial
      · simp only [if_neg hX]
        refine S.keepE g.fz (fun a h => (S.growA g h).1) (if_neg hx) fun j p o e => ?_
        obtain ⟨n1, n2⟩ := na x hx hX
        rw [e] at n1 n2
        have ny : (Ix.s j) ≠ y := fun q => n1 q.symm
        have nX : ¬ X (Ix.s j) := fun q => n2 _ q rfl
        exact ⟨by rw [if_neg ny, if_neg nX], if_neg ny, fun a h => (S.growA g h).1⟩
/-- y gets what stays -/
theorem Sim.put (S : Sim K n F ent val H) {y : Ix} {v : V} {d : D} (r : Rp K F v d) (na : ∀ x, x ≠ y → ¬ (ent x).of y) : Sim K n F (fun z => if z = y then .kd .v d else ent z) (fun z => if z = y then some v else val z) H := by
  obtain ⟨ft, S⟩ := S
  have q := S.setA (y := y) (X := fun _ => False) (.refl S.sub) (.v r) (fun a h => by cases h) (fun a h => by cases h) fun x hx _ => ⟨na x hx, fun z h => h.elim⟩
  simpa using q
/-- y gets something new of one's own -/
theorem Sim.new (S : Sim K n F ent val H) {y : Ix} {k : Kd} {v : V} {d : D} {A : List Addr} (g : Grow F H F1 H1) (o : Ow K F1 H1 k v d A) (hA : ∀ a, a ∈ A → H a = none) (fA : ∀ a, a ∈ A → F1 a = none) (na : ∀ x, x ≠ y → ¬ (ent x).of y) :
    Sim K n F1 (fun z => if z = y then .kd k d else ent z) (fun z => if z = y then some v else val z) H1 := by
  obtain ⟨ft, S⟩ := S
  have q := S.setA (y := y) (X := fun _ => False) g o (fun a h => .inr (hA a h)) fA fun x hx _ => ⟨na x hx, fun z h => h.elim⟩
  simpa using q
/-- what x holds goes to y -/
theorem Sim.mv (S : Sim K n F ent val H) {x y : Ix} {k : Kd} {d : D} (e : ent x = .kd k d) (hxy : x ≠ y) (na : ∀ z, z ≠ y → z ≠ x → ¬ (ent z).of y ∧ ¬ (ent z).of x) :
    Sim K n F (fun z => if z = y then .kd k d else if z = x then .un else ent z) (fun z => if z = y then val x else val z) H := by
  obtain ⟨ft, S⟩ := S
  have q := S.en x
  rw [e] at q
  obtain ⟨v, h1, h2⟩ := q
  have q := S.setA (y := y) (X := fun z => z = x) (.refl S.sub) h2 (fun a h => .inl ⟨x, rfl, h⟩) (fun a h => (S.fn x a h).1) fun z hz hX => ⟨(na z hz hX).1, fun w hw => hw ▸ (na z hz hX).2⟩
  rw [h1]
  exact q
/-- y becomes a part of slot j -/
theorem Sim.seta (S : Sim K n F ent val H) {y : Ix} {j : Nat} {k : Kd} {d : D} {v w : V} {p : List Stp} {o : Option D} (ho : (ent (.s j)).own = some (k, d)) (hv : val (.s j) = some v) (hp : VP F H k v d p w) (hk : k.at p ≠ .v) (hc : ∀ c, o = some c → getP d p = some c) (hy : y ≠ .s j)
    (na : ∀ x, x ≠ y → ¬ (ent x).of y) : Sim K n F (fun z => if z = y then .al j p o else ent z) (fun z => if z = y then some w else val z) H := by
  obtain ⟨ft, S⟩ := S
  refine ⟨fun z => if z = y then [] else ft z, S.step (fun _ => False) (.refl _) S.sub S.nd (fun b o h _ => h) (fun b h => h.elim) (fun b o h => .inl (.inl ⟨o, h⟩)) (fun x a h => ?_) (fun x a h => ?_) (fun x a h => ?_) (fun x z hxz a hx hz => ?_) fun x => ?_⟩
  · by_cases hx : x = y
    · rw [if_pos hx] at h; cases h
    · rw [if_neg hx] at h; exact .inl ⟨x, h⟩
  · by_cases hx : x = y
    · rw [if_pos hx] at h; cases h
    · rw [if_neg hx] at h; exact (S.fn x a h).1
  · by_cases hx : x = y
    · rw [if_pos hx] at h; cases h
    · rw [if_neg hx] at h; exact S.th x a h
  · by_cases h1 : x = y
    · rw [if_pos h1] at hx; cases hx
    · by_cases h2 : z = y
      · rw [if_pos h2] at hz; cases hz
      · rw [if_neg h1] at hx
        rw [if_neg h2] at hz
        exact S.dj x z hxz a hx hz
  · by_cases hx : x = y
    · subst hx
      simp only [if_pos rfl]
      exact ⟨k, d, v, w, by simp only [if_neg (Ne.symm hy)]; exact ho, by simp only [if_neg (Ne.symm hy)]; exact hv, if_pos rfl, hp, hk, hc⟩
    · simp only [if_neg hx]
      refine S.keepE (.refl _) (fun a h => rfl) (if_neg hx) fun i p o e => ?_
      have ny : (Ix.s i) ≠ y := fun q => by
        have := na x hx
        rw [e] at this
        exact this q.symm
      exact ⟨by rw [if_neg ny], if_neg ny, fun a h => rfl⟩
/-- what entry x holds comes to stay; its dicts are locked -/
theorem Sim.frzX (S : Sim K n F ent val H) {x : Ix} {k : Kd} {d : D} (e : ent x = .kd k d) (hf : k.free = true) (na : ∀ z, z ≠ x → ¬ (ent z).of x) : ∃ A : List Addr, ∀ H2, Lkd A H H2 → ∃ F1 v, Same F F1 ∧ val x = some v ∧ Rp K F1 v d ∧ Sim K n F1 (fun z => if z = x then .kd .v d else ent z) val H2 := by
  obtain ⟨ft, S⟩ := S
  have q := S.en x
  rw [e] at q
  obtain ⟨v, h1, h2⟩ := q
  refine ⟨ft x, fun H2 lk => ?_⟩
  let G : Hp := fun b => if b ∈ ft x then H2 b else F b
  have fz : Same F G := fun b o h => by
    have : b ∉ ft x := fun m => by rw [(S.fn x b m).1] at h; cases h
    exact (if_neg this).trans h
  have on : ∀ a, a ∈ ft x → G a = H2 a := fun a h => if_pos h
  have nd : NoDk G := fun b u h => by
    by_cases m : b ∈ ft x
    · have h := (on b m).symm.trans h
      cases hb : H b with
      | none => rw [lk.nn b m hb] at h; cases h
      | some w =>
        cases hd : isDk w with
        | false =>
          rw [(lk.on b m w hb).1 hd] at h
          cases h
          exact hd
        | true =>
          obtain ⟨ob, q⟩ := (lk.on b m w hb).2 hd
          rw [q] at h
          cases h
          rfl
    · exact S.nd b u ((if_neg m).symm.trans h)
  have sub : Lk G H2 := fun b o h => by
    by_cases m : b ∈ ft x
    · exact .inl ((on b m).symm.trans h)
    · have hF := (if_neg m).symm.trans h
      rcases S.sub b o hF with q | ⟨q, _⟩
      · exact .inl ((lk.off b m).trans q)
      · rw [S.nd b o hF] at q; cases q
  have r := h2.frz fz hf fun a ha u hu => by rw [on a ha]; exact lk.on a ha u hu
  have off : ∀ z, z ≠ x → ∀ a, a ∈ ft z → G a = none ∧ H2 a = H a := fun z hz a h => by
    have : a ∉ ft x := S.dj z x hz a h
    exact ⟨(if_neg this).trans (S.fn z a h).1, lk.off a this⟩
  refine ⟨G, v, fz, h1, r, fun z => if z = x then [] else ft z, S.step (fun b => b ∈ ft x) fz sub nd (fun b o h m => (lk.off b m).trans h) (fun b h => ⟨x, h⟩) (fun b o h => ?_) (fun z a h => ?_) (fun z a h => ?_) (fun z a h => ?_) (fun z z' hzz a hz hz' => ?_) fun z => ?_⟩
  · by_cases m : b ∈ ft x
    · exact .inr (.inr ⟨x, m⟩)
    · exact .inl (.inl ⟨o, (if_neg m).symm.trans h⟩)
  · by_cases hz : z = x
    · rw [if_pos hz] at h; cases h
    · rw [if_neg hz] at h; exact .inl ⟨z, h⟩
  · by_cases hz : z = x
    · rw [if_pos hz] at h; cases h
    · rw [if_neg hz] at h; exact (off z hz a h).1
  · by_cases hz : z = x
    · rw [if_pos hz] at h; cases h
    · rw [if_neg hz] at h
      obtain ⟨u, hu, nt⟩ := S.th z a h
      exact ⟨u, (off z hz a h).2.trans hu, nt⟩
  · by_cases g1 : z = x
    · rw [if_pos g1] at hz; cases hz
    · by_cases g2 : z' = x
      · rw [if_pos g2] at hz'; cases hz'
      · rw [if_neg g1] at hz
        rw [if_neg g2] at hz'
        exact S.dj z z' hzz a hz hz'
  · by_cases hz : z = x
    · subst hz
      simp only [if_pos rfl]
      exact ⟨v, h1, .v r⟩
    · simp only [if_neg hz]
      refine S.keepE fz (fun a h => (off z hz a h).2) rfl fun i p o e' => ?_
      have ny : (Ix.s i) ≠ x := fun q => by
        have := na z hz
        rw [e'] at this
        exact this q.symm
      exact ⟨by rw [if_neg ny], rfl, fun a h => (off _ ny a h).2⟩
theorem Sim.nd (S : Sim K n F ent val H) : NoDk F := S.elim fun _ S => S.nd
def Sl.setD : Sl → D → Sl
  | .kd k _, d => .kd k d
  | .io k _, d => .io k d
  | s, _ => s
theorem getP_setP : ∀ {p : List Stp} {d c c' d' : D}, getP d p = some c → setP d p c' = some d' → getP d' p = some c'
  | [], d, c, c', d', _, h => by cases h; rfl
  | s :: p, d, c, c', d', g, h => by
    unfold getP at g
    unfold setP at h
    cases er : resv d s with
    | none => rw [er] at g; cases g
    | some m =>
      rw [er] at g h
      simp only [Option.bind_some] at g h
      cases ec : (kids d)[m]? with
      | none => rw [ec] at g; cases g
      | some b =>
        rw [ec] at g h
        simp only [Option.bind_some] at g h
        cases es : setP b p c' with
        | none => rw [es] at h; cases h
        | some b' =>
          rw [es] at h
          cases h
          unfold getP
          rw [resv_set, er]
          simp only [Option.bind_some]
          rw [kids_set, List.getElem?_set_self (List.getElem?_eq_some_iff.mp ec).1]
          exact getP_setP g es
/-- the part at p of slot j is changed; y gets what comes -/
theorem SimF.mut (S : SimF K n F ent val ft H) {j : Nat} {k : Kd} {d c : D} {v : V} {p : List Stp} (ho : (ent (.s j)).own = some (k, d)) (hv : val (.s j) = some v) (hk : k.at p ≠ .v) (hc : getP d p = some c) :
    ∃ w Ac, VP F H k v d p w ∧ Ow K F H (k.at p) w c Ac ∧ (∀ a, a ∈ Ac → a ∈ ft (.s j)) ∧ ∀ (X : Ix → Prop) [DecidablePred X], ¬ X (.s j) → ∀ (F1 H1 : Hp) (c' : D) (Ac' : List Addr), Same F F1 → Lk F1 H1 → NoDk F1 → (∀ b o, H b = some o → b ∉ Ac → H1 b = some o) →
      (∀ b o, F1 b = some o → Old F b o ∨ H b = none ∨ b ∈ Ac) → Ow K F1 H1 (k.at p) w c' Ac' → (∀ a, a ∈ Ac' → F1 a = none) → (∀ a, a ∈ Ac' → a ∈ Ac ∨ (∃ x, X x ∧ a ∈ ft x) ∨ H a = none) →
      ∀ (y : Ix), y ≠ .s j → ∀ (κy : Kd) (dy : D) (vy : V) (Ay : List Addr), Ow K F1 H1 κy vy dy Ay → (∀ a, a ∈ Ay → F1 a = none) → (∀ a, a ∈ Ay → a ∈ Ac ∨ (∃ x, X x ∧ a ∈ ft x) ∨ H a = none) → (∀ a, a ∈ Ay → a ∉ Ac') →
      ∃ d', setP d p c' = some d' ∧ ∀ (ent' : Es) (val' : Vs), ent' (.s j) = (ent (.s j)).setD d' → ent' y = .kd κy dy → val' y = some vy → (∀ z, z ≠ y → val' z = val z) → (∀ z, X z → z ≠ y → ent' z = .un) →
        (∀ z, z ≠ .s j → z ≠ y → ¬ X z → ent' z = .un ∨ (ent' z = ent z ∧ ¬ (ent z).of (.s j) ∧ ¬ (ent z).of y ∧ ∀ x, X x → ¬ (ent z).of x) ∨ ∃ q o, ent z = .al j q o ∧ q.length ≤ p.length ∧ (ent' z = .al j q none ∨ (q = p ∧ ent' z = .al j p (some c')))) →
        (∀ z i q o, z ≠ y → ent' z = .al i q o → i ≠ j → ent' (.s i) = ent (.s i)) → Sim K n F1 ent' val' H1 := by
  obtain ⟨v', g1, g2⟩ := S.own_of ho
  rw [hv] at g1
  cases g1
  obtain ⟨w, Ac, f1, f2, f3, f4⟩ := g2.focus hk hc
  refine ⟨w, Ac, f1, f2, f3, fun X dX hXj F1 H1 c' Ac' fz sub nd hp new o' fA hA y hy κy dy vy Ay oy fAy hAy djy => ?_⟩
  have un : ∀ z a, a ∈ ft z → a ∉ Ac → H1 a = H a := fun z a h hn => by
    obtain ⟨u, hu, _⟩ := S.th z a h
    exact (hp a u hu hn).trans hu.symm
  obtain ⟨d', A', h1, h2, h3, h4⟩ := f4 F1 H1 c' Ac' fz (fun x hx hn => un _ x hx hn) o' fun x hx => by
    rcases hA x hx with q | ⟨y, q1, q2⟩ | q
    · exact .inl q
    · exact .inr (S.dj y (.s j) (fun e => hXj (e ▸ q1)) x q2)
    · exact .inr fun m => by obtain ⟨u, hu, _⟩ := S.th _ x m; rw [hu] at q; cases q
  refine ⟨d', h1, fun ent' val' e1 ey vy1 ev e2 e3 e4 => ?_⟩
  have fn1 : ∀ z a, a ∈ ft z → a ∉ Ac → F1 a = none := fun z a h m => by
    cases q : F1 a with
    | none => rfl
    | some u =>
      obtain ⟨ob, hob, nt⟩ := S.th z a h
      rcases new a u q with (⟨y, e⟩ | ⟨xs, rfl⟩) | e | e
      · rw [(S.fn z a h).1] at e; cases e
      · have y := sub.at q rfl
        rw [hp a ob hob m] at y
        cases y
        exact (nt xs rfl).elim
      · rw [hob] at e; cases e
      · exact (m e).elim
  have offA : ∀ z, z ≠ .s j → ∀ a, a ∈ ft z → a ∉ Ac := fun z hz a h m => S.dj z (.s j) hz a h (f3 a m)
  have inA' : ∀ a, a ∈ A' → (a ∈ ft (.s j) ∧ a ∉ Ac) ∨ a ∈ Ac' := h3
  have clash : ∀ (B : List Addr), (∀ a, a ∈ B → a ∈ Ac ∨ (∃ x, X x ∧ a ∈ ft x) ∨ H a = none) → ∀ z, z ≠ .s j → ¬ X z → ∀ a, a ∈ B → a ∈ ft z → False := fun B hB z hz hX a ha h => by
    rcases hB a ha with q | ⟨x, q1, q2⟩ | q
    · exact offA z hz a h q
    · exact S.dj x z (fun e => hX (e ▸ q1)) a q2 h
    · obtain ⟨u, hu, _⟩ := S.th z a h
      rw [hu] at q; cases q
  have A'y : ∀ a, a ∈ A' → a ∉ Ay := fun a ha h => by
    rcases inA' a ha with ⟨q1, q2⟩ | q
    · rcases hAy a h with r | ⟨x, r1, r2⟩ | r
      · exact q2 r
      · exact S.dj x (.s j) (fun e => hXj (e ▸ r1)) a r2 q1
      · obtain ⟨u, hu, _⟩ := S.th _ a q1
        rw [hu] at r; cases r
    · exact djy a h q
  let ft' : Ix → List Addr := fun z => if z = .s j then A' else if z = y then Ay else if X z then [] else ft z
  have c1 : ft' (.s j) = A' := if_pos rfl
  have c2 : ft' y = Ay := by show (if y = .s j then _ else _) = _; rw [if_neg hy, if_pos rfl]
  have c3 : ∀ z, z ≠ .s j → z ≠ y → X z → ft' z = [] := fun z h1 h2 h3 => by show (if z = .s j then _ else _) = _; rw [if_neg h1, if_neg h2, if_pos h3]
  have c4 : ∀ z, z ≠ .s j → z ≠ y → ¬ X z → ft' z = ft z := fun z h1 h2 h3 => by show (if z = .s j then _ else _) = _; rw [if_neg h1, if_neg h2, if_neg h3]
  have cases4 : ∀ z, z = .s j ∨ z = y ∨ (z ≠ .s j ∧ z ≠ y ∧ X z) ∨ (z ≠ .s j ∧ z ≠ y ∧ ¬ X z) := fun z => by
    by_cases h1 : z = .s j
    · exact .inl h1
    · by_cases h2 : z = y
      · exact .inr (.inl h2)
      · by_cases h3 : X z
        · exact .inr (.inr (.inl ⟨h1, h2, h3⟩))
        · exact .inr (.inr (.inr ⟨h1, h2, h3⟩))
  refine ⟨ft', S.step (fun b => b ∈ Ac) fz sub nd (fun b o h m => hp b o h m) (fun b h => ⟨.s j, f3 b h⟩) (fun b o h => ?_) (fun x a h => ?_) (fun x a h => ?_) (fun x a h => ?_) (fun x z hxz a hx hz => ?_) fun x => ?_⟩
  · rcases new b o h with q | q | q
    · exact .inl q
    · exact .inr (.inl q)
    · exact .inr (.inr ⟨_, f3 b q⟩)
  · have src : ∀ B : List Addr, (∀ a, a ∈ B → a ∈ Ac ∨ (∃ x, X x ∧ a ∈ ft x) ∨ H a = none) → a ∈ B → (∃ y, a ∈ ft y) ∨ H a = none := fun B hB h => by
      rcases hB a h with q | ⟨x, _, q⟩ | q
      · exact .inl ⟨_, f3 a q⟩
      · exact .inl ⟨_, q⟩
      · exact .inr q
    rcases cases4 x with e | e | ⟨g1, g2, g3⟩ | ⟨g1, g2, g3⟩
    · rw [e, c1] at h
      rcases inA' a h with ⟨q, _⟩ | q
      · exact .inl ⟨_, q⟩
      · exact src Ac' hA q
    · rw [e, c2] at h; exact src Ay hAy h
    · rw [c3 x g1 g2 g3] at h; cases h
    · rw [c4 x g1 g2 g3] at h; exact .inl ⟨x, h⟩
  · rcases cases4 x with e | e | ⟨g1, g2, g3⟩ | ⟨g1, g2, g3⟩
    · rw [e, c1] at h
      rcases inA' a h with ⟨q1, q2⟩ | q
      · exact fn1 _ a q1 q2
      · exact fA a q
    · rw [e, c2] at h; exact fAy a h
    · rw [c3 x g1 g2 g3] at h; cases h
    · rw [c4 x g1 g2 g3] at h; exact fn1 x a h (offA x g1 a h)
  · rcases cases4 x with e | e | ⟨g1, g2, g3⟩ | ⟨g1, g2, g3⟩
    · rw [e, c1] at h; exact h2.there a h
    · rw [e, c2] at h; exact oy.there a h
    · rw [c3 x g1 g2 g3] at h; cases h
    · rw [c4 x g1 g2 g3] at h
      obtain ⟨u, hu, nt⟩ := S.th x a h
      exact ⟨u, hp a u hu (offA x g1 a h), nt⟩
  · have key : ∀ z, z ≠ .s j → z ≠ y → ∀ a, a ∈ ft' z → a ∈ A' ∨ a ∈ Ay → False := fun z g1 g2 a h hB => by
      by_cases g3 : X z
      · rw [c3 z g1 g2 g3] at h; cases h
      · rw [c4 z g1 g2 g3] at h
        rcases hB with hB | hB
        · rcases inA' a hB with ⟨q1, _⟩ | q
          · exact S.dj z (.s j) g1 a h q1
          · exact clash Ac' hA z g1 g3 a q h
        · exact clash Ay hAy z g1 g3 a hB h
    rcases cases4 x with e | e | ⟨g1, g2, g3⟩ | ⟨g1, g2, g3⟩
    · rw [e, c1] at hx
      rcases cases4 z with e' | e' | ⟨l1, l2, l3⟩ | ⟨l1, l2, l3⟩
      · exact hxz (e.trans e'.symm)
      · rw [e', c2] at hz; exact A'y a hx hz
      · exact key z l1 l2 a hz (.inl hx)
      · exact key z l1 l2 a hz (.inl hx)
    · rw [e, c2] at hx
      rcases cases4 z with e' | e' | ⟨l1, l2, l3⟩ | ⟨l1, l2, l3⟩
      · rw [e', c1] at hz; exact A'y a hz hx
      · exact hxz (e.trans e'.symm)
      · exact key z l1 l2 a hz (.inr hx)
      · exact key z l1 l2 a hz (.inr hx)
    · rw [c3 x g1 g2 g3] at hx; cases hx
    · rcases cases4 z with e' | e' | ⟨l1, l2, l3⟩ | ⟨l1, l2, l3⟩
      · rw [e', c1] at hz; exact key x g1 g2 a hx (.inl hz)
      · rw [e', c2] at hz; exact key x g1 g2 a hx (.inr hz)
      · rw [c3 z l1 l2 l3] at hz; cases hz
      · rw [c4 x g1 g2 g3] at hx
        rw [c4 z l1 l2 l3] at hz
        exact S.dj x z hxz a hx hz
  · have hvj : val' (.s j) = some v := (ev _ (Ne.symm hy)).trans hv
    have ow : (ent' (.s j)).own = some (k, d') := by
      rw [e1]
      cases e : ent (.s j) with
      | kd k0 d0 => rw [e] at ho; cases ho; rfl
      | io k0 d0 => rw [e] at ho; cases ho; rfl
      | un => rw [e] at ho; cases ho
      | ro => rw [e] at ho; cases ho
      | al i q o => rw [e] at ho; cases ho
    rcases cases4 x with e | e | ⟨g1, g2, g3⟩ | ⟨g1, g2, g3⟩
    · rw [e, c1, e1]
      have q := S.en (.s j)
      cases e : ent (.s j) with
      | kd k0 d0 =>
        rw [e] at ho; cases ho
        exact ⟨v, hvj, h2⟩
      | io k0 d0 =>
        rw [e] at ho q; cases ho
        obtain ⟨⟨i, z1, z2⟩, _⟩ := q
        exact ⟨⟨i, z1, (ev _ (Ne.symm hy)).trans z2⟩, v, hvj, h2⟩
      | un => rw [e] at ho; cases ho
      | ro => rw [e] at ho; cases ho
      | al i q o => rw [e] at ho; cases ho
    · rw [e, c2, ey]
      exact ⟨vy, vy1, oy⟩
    · rw [e2 x g3 g2]; trivial
    · rw [c4 x g1 g2 g3]
      rcases e3 x g1 g2 g3 with e | ⟨e, na, ny, nx⟩ | ⟨q, o, e0, hl, e⟩
      · rw [e]; trivial
      · rw [e]
        refine S.keepE fz (fun a h => un x a h (offA x g1 a h)) (ev x g2) fun i p o e' => ?_
        have ni : i ≠ j := fun z => na (by rw [e', z]; rfl)
        have nij : (Ix.s i) ≠ .s j := fun z => ni (Ix.s.inj z)
        have niy : (Ix.s i) ≠ y := fun z => ny (by rw [e', ← z]; rfl)
        exact ⟨e4 x i p o g2 (e.trans e') ni, ev _ niy, fun a h => un _ a h (offA _ nij a h)⟩
      · have y' := S.en x
        rw [e0] at y'
        obtain ⟨k1, d1, v1, w1, y1, y2, y3, y4, y5, y6⟩ := y'
        rw [ho] at y1
        cases y1
        rw [hv] at y2
        cases y2
        have vp := h4 q w1 hl y4
        have y3 := (ev x g2).trans y3
        rcases e with e | ⟨rfl, e⟩
        · rw [e]
          exact ⟨k, d', v, w1, ow, hvj, y3, vp, y5, fun c hc => by cases hc⟩
        · rw [e]
          exact ⟨k, d', v, w1, ow, hvj, y3, vp, y5, fun c2 hc2 => by cases hc2; exact getP_setP hc h1⟩
end
end Fx

/-! G: what code does, as a function of what is known; outcomes. -/
namespace Fx
open PySem PySem.Spec PyProof.Rows L2
/-- an exception: its class, its fields -/
structure Xn where
  cls : Str
  fs : List (Str × D)
def XOk (K : PySem.W.Frag) (F : Hp) (x : Xn) (cls : Value) (dO : Option Addr) : Prop :=
  cls = clsV K x.cls ∧ ((dO = none ∧ x.fs = []) ∨ ∃ d fs, dO = some d ∧ F d = some (.xd fs) ∧ RpF K F fs x.fs)
/-- how a block ends; s: what its names hold then -/
inductive O (σ : Type) where
  | nx (s : σ) | bk (s : σ) | ct (s : σ) | rt (r : D) (s : σ) | ex (x : Xn) (s : σ) | no
def bindO {τ : Type} (o : Option D) (k : D → O τ) : O τ := match o with
  | some d => k d
  | none => .no
def bindB {τ : Type} (o : Option Bool) (k : Bool → O τ) : O τ := match o with
  | some d => k d
  | none => .no
def bindN {τ : Type} (o : Option Nat) (k : Nat → O τ) : O τ := match o with
  | some d => k d
  | none => .no
def bindL {τ : Type} (o : Option (List D)) (k : List D → O τ) : O τ := match o with
  | some d => k d
  | none => .no
def bindI {τ : Type} (o : Option (Option Int)) (k : Option Int → O τ) : O τ := match o with
  | some d => k d
  | none => .no

/-! ### lists of entries -/
abbrev Gm := List Sl
def gg : Gm → Nat → Sl
  | [], _ => .un
  | s :: _, 0 => s
  | _ :: r, i + 1 => gg r i
def gs : Gm → Nat → Sl → Gm
  | [], _, _ => []
  | _ :: r, 0, s => s :: r
  | x :: r, i + 1, s => x :: gs r i s
/-- what the surroundings have: names, temporaries -/
structure Ro where
  s : Gm
  t : Gm
def tb (T : Gm) (i : Nat) : Sl := if i < T.length then gg T (T.length - 1 - i) else .un
def res (ro : Ro) (i : Nat) : Sl → Sl
  | .ro => gg ro.s i
  | s => s
def rest' (ro : Ro) (i : Nat) : Sl → Sl
  | .ro => tb ro.t i
  | s => s
def gr (ro : Ro) (Γ : Gm) (i : Nat) : Sl := res ro i (gg Γ i)
def tr (ro : Ro) (T : Gm) (i : Nat) : Sl := rest' ro i (tb T i)
def entOf (ro : Ro) (Γ T : Gm) : Es
  | .s i => gr ro Γ i
  | .t i => tr ro T i
def vg : List V → Nat → Option V
  | [], _ => none
  | v :: _, 0 => some v
  | _ :: r, i + 1 => vg r i
def valOf (σ : L2.St) (ts : List V) : Vs
  | .s i => (σ[i]?).join
  | .t i => if i < ts.length then vg ts (ts.length - 1 - i) else none
theorem gg_set : ∀ (Γ : Gm) (i j : Nat) (s : Sl), gg (gs Γ i s) j = if j = i ∧ i < Γ.length then s else gg Γ j
  | [], i, j, s => by simp [gs, gg]
  | x :: r, 0, j, s => by cases j <;> simp [gs, gg]
  | x :: r, i + 1, 0, s => by simp [gs, gg]
  | x :: r, i + 1, j + 1, s => by simp [gs, gg, gg_set r i j s]
theorem gs_len : ∀ (Γ : Gm) (i : Nat) (s : Sl), (gs Γ i s).length = Γ.length
  | [], _, _ => rfl
  | _ :: _, 0, _ => rfl
  | _ :: r, i + 1, s => by simp [gs, gs_len r i s]
theorem gg_out : ∀ {Γ : Gm} {i : Nat}, Γ.length ≤ i → gg Γ i = .un
  | [], _, _ => rfl
  | _ :: _, 0, h => by simp at h
  | _ :: r, i + 1, h => gg_out (Γ := r) (by simpa using h)
/-- top of the stack -/
theorem tb_cons (s : Sl) (T : Gm) (i : Nat) : tb (s :: T) i = if i = T.length then s else tb T i := by
  unfold tb
  rw [List.length_cons]
  by_cases h : i = T.length
  · subst h
    simp [gg]
  · rw [if_neg h]
    by_cases h1 : i < T.length
    · rw [if_pos (by omega), if_pos h1, show T.length + 1 - 1 - i = (T.length - 1 - i) + 1 by omega]
      rfl
    · rw [if_neg (by omega), if_neg h1]
theorem ent_push (ro : Ro) (Γ T : Gm) (s : Sl) : entOf ro Γ (s :: T) = fun z => if z = .t T.length then rest' ro T.length s else entOf ro Γ T z := by
  funext z
  cases z with
  | s i => rfl
  | t i =>
    show rest' ro i (tb (s :: T) i) = _
    rw [tb_cons]
    by_cases h : i = T.length
    · subst h
      rw [if_pos rfl]
      simp
    · have h' : ¬ (Ix.t i = Ix.t T.length) := fun e => h (Ix.t.inj e)
      rw [if_neg h]
      simp only [if_neg h']
      rfl
theorem vg_cons (v : V) (ts : List V) (i : Nat) : (if i < (v :: ts).length then vg (v :: ts) ((v :: ts).length - 1 - i) else none) = if i = ts.length then some v else (if i < ts.length then vg ts (ts.length - 1 - i) else none) := by
  rw [List.length_cons]
  by_cases h : i = ts.length
  · subst h
    simp [vg]
  · rw [if_neg h]
    by_cases h1 : i < ts.length
    · rw [if_pos (by omega), if_pos h1, show ts.length + 1 - 1 - i = (ts.length - 1 - i) + 1 by omega]
      rfl
    · rw [if_neg (by omega), if_neg h1]
theorem val_push (σ : L2.St) (v : V) (ts : List V) : valOf σ (v :: ts) = fun z => if z = .t ts.length then some v else valOf σ ts z := by
  funext z
  cases z with
  | s i => rfl
  | t i =>
    show (if i < (v :: ts).length then vg (v :: ts) ((v :: ts).length - 1 - i) else none) = _
    rw [vg_cons]
    by_cases h : i = ts.length
    · rw [if_pos h, if_pos (by rw [h])]
    · have h' : ¬ (Ix.t i = Ix.t ts.length) := fun e => h (Ix.t.inj e)
      rw [if_neg h]
      simp only [if_neg h']
      rfl
/-- the relation -/
structure Rl (K : PySem.W.Frag) (n : Ent) (F : Hp) (ro : Ro) (Γ T : Gm) (σ : L2.St) (ts : List V) (H : Hp) : Prop where
  ls : Γ.length = σ.length
  lt : T.length = ts.length
  S : Sim K n F (entOf ro Γ T) (valOf σ ts) H
section
variable {K : PySem.W.Frag} {n : Ent} {F F1 H H1 : Hp} {ro : Ro} {Γ T : Gm} {σ : L2.St} {ts : List V} {s : Sl} {v : V}
theorem Rl.sub (R : Rl K n F ro Γ T σ ts H) : Lk F H := R.S.sub
theorem Rl.nd (R : Rl K n F ro Γ T σ ts H) : NoDk F := R.S.nd
theorem Rl.grow (R : Rl K n F ro Γ T σ ts H) (g : Grow F H F1 H1) : Rl K n F1 ro Γ T σ ts H1 := ⟨R.ls, R.lt, R.S.grow g⟩
theorem Sl.not_of_t {s : Sl} {i : Nat} : ¬ s.of (.t i) := by
  cases s <;> intro h
  all_goals first | exact h | cases h
theorem Rl.push (R : Rl K n F ro Γ T σ ts H) {d : D} (r : Rp K F v d) : Rl K n F ro Γ (.kd .v d :: T) σ (v :: ts) H := by
  refine ⟨R.ls, by simp [R.lt], ?_⟩
  rw [ent_push, val_push, ← R.lt]
  exact R.S.put r fun x _ => Sl.not_of_t
theorem Rl.pushN (R : Rl K n F ro Γ T σ ts H) {k : Kd} {d : D} {A : List Addr} (g : Grow F H F1 H1) (o : Ow K F1 H1 k v d A) (hA : ∀ a, a ∈ A → H a = none) (fA : ∀ a, a ∈ A → F1 a = none) : Rl K n F1 ro Γ (.kd k d :: T) σ (v :: ts) H1 := by
  refine ⟨R.ls, by simp [R.lt], ?_⟩
  rw [ent_push, val_push, ← R.lt]
  exact R.S.new g o hA fA fun x _ => Sl.not_of_t
theorem Rl.pop (R : Rl K n F ro Γ (s :: T) σ (v :: ts) H) : Rl K n F ro Γ T σ ts H := by
  refine ⟨R.ls, by simpa using R.lt, ?_⟩
  have S := R.S
  have lt : T.length = ts.length := by simpa using R.lt
  rw [ent_push, val_push, ← lt] at S
  refine S.wk (fun x => ?_) fun x j p o e => ?_
  · by_cases h : x = .t T.length
    · subst h
      refine .inr (.inl ?_)
      show rest' ro T.length (tb T T.length) = .un
      unfold tb
      rw [if_neg (by omega)]
      rfl
    · exact .inl ⟨by simp only [if_neg h], by simp only [if_neg h]⟩
  · exact ⟨by simp, by simp⟩
/-- less is told of the names -/
theorem Rl.wkS {Γ' : Gm} (R : Rl K n F ro Γ T σ ts H) (hl : Γ'.length = Γ.length) (h : ∀ i, gr ro Γ' i = gr ro Γ i ∨ gr ro Γ' i = .un ∨ ∃ j p o, gr ro Γ i = .al j p o ∧ gr ro Γ' i = .al j p none) {T' : Gm} (hlT : T'.length = T.length) (hT : ∀ i, tr ro T' i = tr ro T i ∨ tr ro T' i = .un ∨ ∃ j p o, tr ro T i = .al j p o ∧ tr ro T' i = .al j p none)
    (hr : ∀ j p o, ((∃ i, gr ro Γ' i = .al j p o) ∨ ∃ i, tr ro T' i = .al j p o) → gr ro Γ' j = gr ro Γ j) : Rl K n F ro Γ' T' σ ts H := by
  refine ⟨hl.trans R.ls, hlT.trans R.lt, R.S.wk (fun x => ?_) fun x j p o e => ⟨?_, rfl⟩⟩
  · cases x with
    | s i =>
      rcases h i with e | e | ⟨j, p, o, e1, e2⟩
      · exact .inl ⟨e, rfl⟩
      · exact .inr (.inl e)
      · exact .inr (.inr ⟨j, p, o, e1, e2, rfl⟩)
    | t i =>
      rcases hT i with e | e | ⟨j, p, o, e1, e2⟩
      · exact .inl ⟨e, rfl⟩
      · exact .inr (.inl e)
      · exact .inr (.inr ⟨j, p, o, e1, e2, rfl⟩)
  · cases x with
    | s i => exact hr j p o (.inl ⟨i, e⟩)
    | t i => exact hr j p o (.inr ⟨i, e⟩)
theorem Rl.top (R : Rl K n F ro Γ (s :: T) σ (v :: ts) H) : ∃ ft, SimF K n F (entOf ro Γ (s :: T)) (valOf σ (v :: ts)) ft H ∧ EnOk K n F H (entOf ro Γ (s :: T)) (valOf σ (v :: ts)) (.t T.length) (ft (.t T.length)) (rest' ro T.length s) ∧ valOf σ (v :: ts) (.t T.length) = some v := by
  obtain ⟨ft, S⟩ := R.S
  have lt : T.length = ts.length := by simpa using R.lt
  refine ⟨ft, S, ?_, ?_⟩
  · have q := S.en (.t T.length)
    have e : entOf ro Γ (s :: T) (.t T.length) = rest' ro T.length s := by rw [ent_push]; simp
    rw [e] at q
    exact q
  · rw [val_push, lt]; simp
end

/-! ### readings -/
abbrev Me := ∀ (τ : Type), Ro → Gm → Gm → (Xn → Gm → O τ) → (Gm → Gm → O τ) → O τ
abbrev Mq := ∀ (τ : Type), Ro → Gm → Gm → (Xn → Gm → O τ) → (Bool → Gm → Gm → O τ) → O τ
/-- what is wished behind: G of the outcome; exceptions are wished for, too -/
structure Wi (K : PySem.W.Frag) (W : WX) {τ : Type} (G : O τ → Prop) (n : Ent) (F : Hp) (ro : Ro) (σ : L2.St) (ex : Xn → Gm → O τ) : Prop where
  no : ¬ G .no
  xc : ∀ x Γ' cls dO F' H', Same F F' → Rl K n F' ro Γ' [] σ [] H' → XOk K F' x cls dO → G (ex x Γ') → W cls dO σ H'
theorem Wi.mono {K : PySem.W.Frag} {W : WX} {τ : Type} {G : O τ → Prop} {n : Ent} {F F1 : Hp} {ro : Ro} {σ : L2.St} {ex : Xn → Gm → O τ} (w : Wi K W G n F ro σ ex) (e : Same F F1) : Wi K W G n F1 ro σ ex :=
  ⟨w.no, fun x Γ' cls dO F' H' s R xo g => w.xc x Γ' cls dO F' H' (e.trans s) R xo g⟩
def tM (K : PySem.W.Frag) (W : WX) (m : Me) : TE := fun σ H Q => ∃ (τ : Type) (G : O τ → Prop) (n : Ent) (F : Hp) (ro : Ro) (Γ T : Gm) (ts : List V) (ex : Xn → Gm → O τ) (k : Gm → Gm → O τ),
  Wi K W G n F ro σ ex ∧ Rl K n F ro Γ T σ ts H ∧ G (m τ ro Γ T ex k) ∧ ∀ Γ' s T' v F' H', Same F F' → Rl K n F' ro Γ' (s :: T') σ (v :: ts) H' → G (k Γ' (s :: T')) → Q v H'
def tQ (K : PySem.W.Frag) (W : WX) (m : Mq) : TT := fun σ H Q => ∃ (τ : Type) (G : O τ → Prop) (n : Ent) (F : Hp) (ro : Ro) (Γ T : Gm) (ts : List V) (ex : Xn → Gm → O τ) (k : Bool → Gm → Gm → O τ),
  Wi K W G n F ro σ ex ∧ Rl K n F ro Γ T σ ts H ∧ G (m τ ro Γ T ex k) ∧ ∀ b Γ' T' F' H', Same F F' → Rl K n F' ro Γ' T' σ ts H' → G (k b Γ' T') → Q b H'
def tAs (K : PySem.W.Frag) (W : WX) (m : Me) : TA := fun σ H Q => ∃ (τ : Type) (G : O τ → Prop) (n : Ent) (F : Hp) (ro : Ro) (Γ T : Gm) (ts : List V) (ex : Xn → Gm → O τ) (k : Gm → Gm → O τ),
  Wi K W G n F ro σ ex ∧ Rl K n F ro Γ T σ ts H ∧ G (m τ ro Γ T ex k) ∧ ∀ Γ' T' vs F' H', Same F F' → Rl K n F' ro Γ' T' σ (vs.reverse ++ ts) H' → G (k Γ' T') → Q vs H'
theorem pe_imp {X : Cx} {e : Expr} {t t' : TE} (h : PE X e t) (i : ∀ σ H Q, t' σ H Q → t σ H Q) : PE X e t' := ⟨fun pins s σ H Q I q => h.run pins s σ H Q I (i _ _ _ q)⟩
theorem pt_imp {X : Cx} {e : Expr} {t t' : TT} (h : PT X e t) (i : ∀ σ H Q, t' σ H Q → t σ H Q) : PT X e t' := ⟨fun pins s σ H Q I q => h.run pins s σ H Q I (i _ _ _ q)⟩
theorem pw_imp {X : Cx} {e : Expr} {t t' : TT} (h : PW X e t) (i : ∀ σ H Q, t' σ H Q → t σ H Q) : PW X e t' := ⟨fun wh pins s σ H Q I q => h.run wh pins s σ H Q I (i _ _ _ q)⟩
theorem pa_imp {X : Cx} {es : List Expr} {t t' : TA} (h : PA X es t) (i : ∀ σ H Q, t' σ H Q → t σ H Q) : PA X es t' := ⟨fun pos pins s σ H Q I q => h.run pos pins s σ H Q I (i _ _ _ q)⟩
theorem ps_imp {X : Cx} {st : Stmt} {t t' : TS} (h : PS X st t) (i : ∀ D σ H, t' D σ H → t D σ H) : PS X st t' := ⟨fun pins s σ H D I q => h.run pins s σ H D I (i _ _ _ q)⟩
theorem pss_imp {X : Cx} {st : List Stmt} {t t' : TS} (h : PSs X st t) (i : ∀ D σ H, t' D σ H → t D σ H) : PSs X st t' := ⟨fun pins s σ H D I q => h.run pins s σ H D I (i _ _ _ q)⟩
theorem pe_alt {X : Cx} {e : Expr} {t t' : TE} (h : PE X e t) (h' : PE X e t') : PE X e (fun σ H Q => t σ H Q ∨ t' σ H Q) := ⟨fun pins s σ H Q I q => q.elim (h.run pins s σ H Q I) (h'.run pins s σ H Q I)⟩
section
variable {K : PySem.W.Frag} {W : WX} {n : Ent} {F F1 H : Hp} {ro : Ro} {Γ T : Gm} {σ : L2.St} {ts : List V} {τ : Type} {G : O τ → Prop}
theorem bindO_some (no : ¬ G .no) {o : Option D} {k : D → O τ} (h : G (bindO o k)) : ∃ d, o = some d ∧ G (k d) := by
  cases o with
  | none => exact (no h).elim
  | some d => exact ⟨d, rfl, h⟩
theorem bindB_some (no : ¬ G .no) {o : Option Bool} {k : Bool → O τ} (h : G (bindB o k)) : ∃ d, o = some d ∧ G (k d) := by
  cases o with
  | none => exact (no h).elim
  | some d => exact ⟨d, rfl, h⟩
theorem bindN_some (no : ¬ G .no) {o : Option Nat} {k : Nat → O τ} (h : G (bindN o k)) : ∃ d, o = some d ∧ G (k d) := by
  cases o with
  | none => exact (no h).elim
  | some d => exact ⟨d, rfl, h⟩
theorem bindL_some (no : ¬ G .no) {o : Option (List D)} {k : List D → O τ} (h : G (bindL o k)) : ∃ d, o = some d ∧ G (k d) := by
  cases o with
  | none => exact (no h).elim
  | some d => exact ⟨d, rfl, h⟩
theorem bindI_some (no : ¬ G .no) {o : Option (Option Int)} {k : Option Int → O τ} (h : G (bindI o k)) : ∃ d, o = some d ∧ G (k d) := by
  cases o with
  | none => exact (no h).elim
  | some d => exact ⟨d, rfl, h⟩
/-- flat: its items stay -/
def Kd.flat : Kd → Bool
  | .v => true
  | .l .v => true
  | .d .v => true
  | _ => false
/-- what a temporary is now -/
def rd (ro : Ro) (Γ : Gm) (s : Sl) (k : D → O τ) : O τ := match s with
  | .kd _ d => k d
  | .al j p (some c) => k c
  | .al j p none => match (gr ro Γ j).own with
    | some (_, d) => (match p with
      | [] => k d
      | s :: r => bindO (getP d (s :: r)) k)
    | none => .no
  | _ => .no
/-- .. whose items stay -/
def rq (ro : Ro) (Γ : Gm) (s : Sl) (k : D → O τ) : O τ := match s with
  | .kd κ d => if κ.flat then k d else .no
  | .al j p (some c) => (match (gr ro Γ j).own with
    | some (κ, _) => if (κ.at p).flat then k c else .no
    | none => .no)
  | .al j p none => match (gr ro Γ j).own with
    | some (κ, d) => if (κ.at p).flat then (match p with
      | [] => k d
      | s :: r => bindO (getP d (s :: r)) k) else .no
    | none => .no
  | _ => .no
theorem ow_rq {k : Kd} {v : V} {d : D} {A : List Addr} (o : Ow K F H k v d A) (h : k.flat = true) : Rq K F H v d := by
  cases o with
  | v r => exact .rp r
  | @lst k a xs ds A hh t nn => cases k <;> first | exact .own ⟨xs, hh, (owc_v' (fun _ => rfl) t).2⟩ | cases h
  | @dic k a kvs es A hh q t nn => cases k <;> first | exact .own ⟨kvs, hh, rpK_of q (owc_v' (fun _ => rfl) t).2⟩ | cases h
  | @dit k a kvs es A hh q t nn => cases k <;> first | exact .own ⟨kvs, hh, rpK_of q (owc_v' (fun _ => rfl) t).2⟩ | cases h
  | dicl => cases h
  | ditl => cases h
  | tup => cases h
  | ins => cases h
theorem vp_det {k : Kd} : ∀ {p : List Stp} {k : Kd} {v w u : V} {d : D}, VP F H k v d p w → VP F H k v d p u → w = u
  | [], _, _, _, _, _, h, h' => h.trans h'.symm
  | s :: p, _, _, _, _, _, h, h' => by
    obtain ⟨n, c, a, xs, u, h1, h2, rfl, h3, h4, h5⟩ := h
    obtain ⟨n', c', a', xs', u', k1, k2, e, k3, k4, k5⟩ := h'
    cases e
    rw [h1] at k1; cases k1
    rw [h2] at k2; cases k2
    cases kids_inj h3 k3
    rw [h4] at k4; cases k4
    exact vp_det (k := .v) h5 k5
theorem EnOk.alOw {val : Vs} {ent : Es} {ft : Ix → List Addr} {x : Ix} {A : List Addr} {j : Nat} {p : List Stp} {o : Option D} (S : SimF K n F ent val ft H) (h : EnOk K n F H ent val x A (.al j p o)) :
    ∃ k d v w, (ent (.s j)).own = some (k, d) ∧ val (.s j) = some v ∧ val x = some w ∧ VP F H k v d p w ∧ (∀ c, o = some c → getP d p = some c) ∧ k.at p ≠ .v ∧ ∀ c, getP d p = some c → ∃ B, Ow K F H (k.at p) w c B := by
  obtain ⟨k, d, v, w, h1, h2, h3, h4, h5, h6⟩ := h
  obtain ⟨v', g1, g2⟩ := S.own_of h1
  rw [h2] at g1
  cases g1
  refine ⟨k, d, v, w, h1, h2, h3, h4, h6, h5, fun c hc => ?_⟩
  obtain ⟨w', B, f1, f2, _⟩ := g2.focus h5 hc
  rw [vp_det (k := .v) f1 h4] at f2
  exact ⟨B, f2⟩
theorem rd_ok {v : V} {s : Sl} {k : D → O τ} {ent : Es} {val : Vs} {ft : Ix → List Addr} {x : Ix} {A : List Addr} (no : ¬ G .no) (S : SimF K n F ent val ft H) (he : ∀ i, ent (.s i) = gr ro Γ i) (q : EnOk K n F H ent val x A s) (hv : val x = some v) (h : G (rd ro Γ s k)) : ∃ d, Rp K H v d ∧ G (k d) := by
  cases s with
  | un => exact (no h).elim
  | ro => exact (no h).elim
  | io κ d => exact (no h).elim
  | kd κ d =>
    obtain ⟨v', h1, h2⟩ := q
    rw [hv] at h1
    cases h1
    exact ⟨d, h2.rp S.sub, h⟩
  | al j p o =>
    obtain ⟨κ, d, v1, w, h1, h2, h3, h4, h5, h6, h7⟩ := EnOk.alOw S q
    rw [hv] at h3
    cases h3
    rw [he] at h1
    cases o with
    | some c =>
      obtain ⟨B, o⟩ := h7 c (h5 c rfl)
      exact ⟨c, o.rp S.sub, h⟩
    | none =>
      simp only [rd, h1] at h
      cases p with
      | nil =>
        obtain ⟨B, o⟩ := h7 d rfl
        exact ⟨d, o.rp S.sub, h⟩
      | cons s r =>
        obtain ⟨c, hc, h⟩ := bindO_some no h
        obtain ⟨B, o⟩ := h7 c hc
        exact ⟨c, o.rp S.sub, h⟩
theorem rq_ok {v : V} {s : Sl} {k : D → O τ} {ent : Es} {val : Vs} {ft : Ix → List Addr} {x : Ix} {A : List Addr} (no : ¬ G .no) (S : SimF K n F ent val ft H) (he : ∀ i, ent (.s i) = gr ro Γ i) (q : EnOk K n F H ent val x A s) (hv : val x = some v) (h : G (rq ro Γ s k)) : ∃ d, Rq K F H v d ∧ G (k d) := by
  cases s with
  | un => exact (no h).elim
  | ro => exact (no h).elim
  | io κ d => exact (no h).elim
  | kd κ d =>
    obtain ⟨v', h1, h2⟩ := q
    rw [hv] at h1
    cases h1
    simp only [rq] at h
    split at h
    · rename_i hf
      exact ⟨d, ow_rq h2 hf, h⟩
    · exact (no h).elim
  | al j p o =>
    obtain ⟨κ, d, v1, w, h1, h2, h3, h4, h5, h6, h7⟩ := EnOk.alOw S q
    rw [hv] at h3
    cases h3
    rw [he] at h1
    cases o with
    | some c =>
      simp only [rq, h1] at h
      split at h
      · rename_i hf
        obtain ⟨B, o⟩ := h7 c (h5 c rfl)
        exact ⟨c, ow_rq o hf, h⟩
      · exact (no h).elim
    | none =>
      simp only [rq, h1] at h
      split at h
      · rename_i hf
        cases p with
        | nil =>
          obtain ⟨B, o⟩ := h7 d rfl
          exact ⟨d, ow_rq o hf, h⟩
        | cons s r =>
          obtain ⟨c, hc, h⟩ := bindO_some no h
          obtain ⟨B, o⟩ := h7 c hc
          exact ⟨c, ow_rq o hf, h⟩
      · exact (no h).elim
theorem rd_nro {s : Sl} {k : D → O τ} {m : Nat} (no : ¬ G .no) (h : G (rd ro Γ s k)) : rest' ro m s = s := by
  cases s with
  | ro => exact (no h).elim
  | _ => rfl
theorem rq_nro {s : Sl} {k : D → O τ} {m : Nat} (no : ¬ G .no) (h : G (rq ro Γ s k)) : rest' ro m s = s := by
  cases s with
  | ro => exact (no h).elim
  | _ => rfl
/-- the temporary at the top -/
theorem Rl.rd {v : V} {s : Sl} {k : D → O τ} (no : ¬ G .no) (R : Rl K n F ro Γ (s :: T) σ (v :: ts) H) (h : G (Fx.rd ro Γ s k)) : ∃ d, Rp K H v d ∧ G (k d) := by
  obtain ⟨ft, S, q, hv⟩ := R.top
  rw [rd_nro no h] at q
  exact rd_ok no S (fun _ => rfl) q hv h
theorem Rl.rq {v : V} {s : Sl} {k : D → O τ} (no : ¬ G .no) (R : Rl K n F ro Γ (s :: T) σ (v :: ts) H) (h : G (Fx.rq ro Γ s k)) : ∃ d, Rq K F H v d ∧ G (k d) := by
  obtain ⟨ft, S, q, hv⟩ := R.top
  rw [rq_nro no h] at q
  exact rq_ok no S (fun _ => rfl) q hv h
end
end Fx

/-! G: expressions. -/
namespace Fx
open PySem PySem.Spec PyProof.Rows L2

/-! ### by values, where only what is now counts -/
def scal : D → Bool
  | .non => true
  | .bl _ => true
  | .int _ => true
  | .str _ => true
  | _ => false
theorem Rp.scal {K : PySem.W.Frag} {F F' : Hp} {v : V} {z : D} (h : scal z = true) (r : Rp K F v z) : Rp K F' v z := by
  cases r <;> first | exact .non | exact .bl _ | exact .int _ | exact .str _ | cases h
theorem Grow.of {F H H' : Hp} (s : Lk F H) (h : Same H H') : Grow F H F H' := ⟨.refl _, h, s.grow h, fun b o e => .inl (.inl ⟨o, e⟩), id⟩
inductive RpLs (K : PySem.W.Frag) (H : Hp) : List V → List D → Prop
  | nil : RpLs K H [] []
  | cons {v : V} {vs : List V} {d : D} {ds : List D} : Rp K H v d → RpLs K H vs ds → RpLs K H (v :: vs) (d :: ds)
theorem rqL_of {K : PySem.W.Frag} {H : Hp} : ∀ {vs : List V} {ds : List D}, RpL K H vs ds → RqL K H H vs ds
  | _, _, .nil => .nil
  | _, _, .cons a t => .cons (.rp a) (rqL_of t)
def mC (d : D) : Me := fun _ _ Γ T _ k => k Γ (.kd .v d :: T)
def mV (i : Nat) : Me := fun _ ro Γ T _ k => match gr ro Γ i with
  | .kd .v d => k Γ (.kd .v d :: T)
  | .kd _ _ => k Γ (.al i [] none :: T)
  | .io .v _ => .no
  | .io _ _ => k Γ (.al i [] none :: T)
  | .al j p o => k Γ (.al j p o :: T)
  | _ => .no
/-- a list must come, and it is one's own -/
def asL (b : Bool) (o : Option D) : Option D := if b then (match o with | some (.lst l) => some (.lst l) | _ => none) else o
def kdL (b : Bool) : Kd := if b then .l .v else .v
def mOp2 (f : D → D → Option D) (ma mb : Me) : Me := fun τ ro Γ T ex k => ma τ ro Γ T ex fun Γ1 T1 => mb τ ro Γ1 T1 ex fun Γ2 T2 => match T2 with
  | b :: a :: T3 => rq ro Γ2 a fun d => rq ro Γ2 b fun e => bindO (f d e) fun z => k Γ2 (.kd .v z :: T3)
  | _ => .no
def mOp2N (own : Bool) (f : D → D → Option D) (ma mb : Me) : Me := fun τ ro Γ T ex k => ma τ ro Γ T ex fun Γ1 T1 => mb τ ro Γ1 T1 ex fun Γ2 T2 => match T2 with
  | b :: a :: T3 => rq ro Γ2 a fun d => rq ro Γ2 b fun e => bindO (asL own (f d e)) fun z => k Γ2 (.kd (kdL own) z :: T3)
  | _ => .no
def mOp1 (f : D → Option D) (ma : Me) : Me := fun τ ro Γ T ex k => ma τ ro Γ T ex fun Γ1 T1 => match T1 with
  | a :: T3 => rq ro Γ1 a fun d => bindO (f d) fun z => k Γ1 (.kd .v z :: T3)
  | _ => .no
def mCmp (f : D → D → Option Bool) (ma mb : Me) : Mq := fun τ ro Γ T ex k => ma τ ro Γ T ex fun Γ1 T1 => mb τ ro Γ1 T1 ex fun Γ2 T2 => match T2 with
  | b :: a :: T3 => rd ro Γ2 a fun d => rd ro Γ2 b fun e => bindB (f d e) fun z => k z Γ2 T3
  | _ => .no
def mB (q : Mq) : Me := fun τ ro Γ T ex k => q τ ro Γ T ex fun b Γ1 T1 => k Γ1 (.kd .v (.bl b) :: T1)
def asB : D → Option Bool
  | .bl b => some b
  | _ => none
def mTst (m : Me) : Mq := fun τ ro Γ T ex k => m τ ro Γ T ex fun Γ1 T1 => match T1 with
  | a :: T3 => rd ro Γ1 a fun d => bindB (asB d) fun b => k b Γ1 T3
  | _ => .no
def mNot (q : Mq) : Mq := fun τ ro Γ T ex k => q τ ro Γ T ex fun b Γ1 T1 => k (!b) Γ1 T1
def mNil : Me := fun _ _ Γ T _ k => k Γ T
def mCons (ma mr : Me) : Me := fun τ ro Γ T ex k => ma τ ro Γ T ex fun Γ1 T1 => mr τ ro Γ1 T1 ex k
/-- n temporaries as they are now -/
def rdN {τ : Type} (ro : Ro) (Γ : Gm) : Nat → Gm → (List D → Gm → O τ) → O τ
  | 0, T, k => k [] T
  | n + 1, s :: T, k => rdN ro Γ n T fun ds T0 => rd ro Γ s fun d => k (ds ++ [d]) T0
  | _ + 1, [], _ => .no
def rqN {τ : Type} (ro : Ro) (Γ : Gm) : Nat → Gm → (List D → Gm → O τ) → O τ
  | 0, T, k => k [] T
  | n + 1, s :: T, k => rqN ro Γ n T fun ds T0 => rq ro Γ s fun d => k (ds ++ [d]) T0
  | _ + 1, [], _ => .no
/-- a built-in function whose answer is a number, a truth value, a text -/
def mBlt (n : Nat) (g : List D → Option D) (mr : Me) : Me := fun τ ro Γ T ex k => mr τ ro Γ T ex fun Γ1 T1 => rdN ro Γ1 n T1 fun ds T0 => bindO (g ds) fun z => k Γ1 (.kd .v z :: T0)
/-- .. whose answer is a new list or dict, or what stays -/
def mBltN (own : Bool) (n : Nat) (g : List D → Option D) (mr : Me) : Me := fun τ ro Γ T ex k => mr τ ro Γ T ex fun Γ1 T1 => rqN ro Γ1 n T1 fun ds T0 => bindO (asL own (g ds)) fun z => k Γ1 (.kd (kdL own) z :: T0)
def tA (K : PySem.W.Frag) (W : WX) (N : Nat) (m : Me) : TA := fun σ H Q => ∃ (τ : Type) (G : O τ → Prop) (n : Ent) (F : Hp) (ro : Ro) (Γ T : Gm) (ts : List V) (ex : Xn → Gm → O τ) (k : Gm → Gm → O τ),
  Wi K W G n F ro σ ex ∧ Rl K n F ro Γ T σ ts H ∧ G (m τ ro Γ T ex k) ∧ ∀ Γ' T' vs F' H', Same F F' → vs.length = N → Rl K n F' ro Γ' T' σ (vs.reverse ++ ts) H' → G (k Γ' T') → Q vs H'

section
variable {K : PySem.W.Frag} {W : WX} {n : Ent} {F F1 H : Hp} {ro : Ro} {Γ T : Gm} {σ : L2.St} {ts : List V} {τ : Type} {G : O τ → Prop} {X : Cx} {pos : Pos}
theorem im_c {v : V} {d : D} (r : ∀ F, Rp K F v d) : ∀ σ H Q, tM K W (mC d) σ H Q → tC v σ H Q := fun σ H Q ⟨τ, G, n, F, ro, Γ, T, ts, ex, k, w, R, g, c⟩ => c Γ _ T v F H (.refl _) (R.push (r F)) g
theorem gx_int {i j pos} : PE X (.Constant (.int i) j pos) (tM X.K W (mC (.int i))) := pe_imp pe_int (im_c fun _ => .int _)
theorem gx_bl {b j pos} : PE X (.Constant (.bool b) j pos) (tM X.K W (mC (.bl b))) := pe_imp pe_bl (im_c fun _ => .bl _)
theorem gx_non {j pos} : PE X (.Constant .none j pos) (tM X.K W (mC .non)) := pe_imp pe_non (im_c fun _ => .non)
theorem gx_str {x j pos} : PE X (.Constant (.str x) j pos) (tM X.K W (mC (.str x))) := pe_imp pe_str (im_c fun _ => .str _)
theorem gx_glob {x : Str} {v : V} {u : Value} {d : D} (hg : Gl X x) (hm : X.mg x = some u) (r : RelV v u) (q : ∀ F, Rp X.K F v d) (hd : (x == ("__debug__" : Str)) = false := by decide) : PE X (.Name x pos) (tM X.K W (mC d)) := pe_imp (pe_glob hg hm r hd) (im_c q)
theorem gx_ty {x : Str} {T : String} (hg : Gl X x) (hm : X.mg x = none) (hv : bootBuiltins x = some (.type T)) (hn : x ≠ "__name__" := by decide) (hd : (x == ("__debug__" : Str)) = false := by decide) : PE X (.Name x pos) (tM X.K W (mC (.raw (.ty T)))) :=
  pe_imp (pe_bltn (v := .ty T) hg hm hv rfl hn hd) (im_c fun _ => .raw _)
theorem Rl.at (R : Rl K n F ro Γ T σ ts H) (i : Nat) : ∃ ft, SimF K n F (entOf ro Γ T) (valOf σ ts) ft H ∧ EnOk K n F H (entOf ro Γ T) (valOf σ ts) (.s i) (ft (.s i)) (gr ro Γ i) := by
  obtain ⟨ft, S⟩ := R.S
  exact ⟨ft, S, S.en (.s i)⟩
theorem val_slot {i : Nat} {v : V} (h : valOf σ ts (.s i) = some v) : σ[i]? = some (some v) := by
  have h : (σ[i]?).join = some v := h
  cases e : σ[i]? with
  | none => rw [e] at h; cases h
  | some o => rw [e] at h; cases o <;> first | cases h; rfl | cases h
/-- push a part of slot j -/
theorem Rl.pushA (R : Rl K n F ro Γ T σ ts H) {j : Nat} {k : Kd} {d : D} {v w : V} {p : List Stp} {o : Option D} (ho : (gr ro Γ j).own = some (k, d)) (hv : valOf σ ts (.s j) = some v) (hp : VP F H k v d p w) (hk : k.at p ≠ .v) (hc : ∀ c, o = some c → getP d p = some c) : Rl K n F ro Γ (.al j p o :: T) σ (w :: ts) H := by
  refine ⟨R.ls, by simp [R.lt], ?_⟩
  rw [ent_push, val_push, ← R.lt]
  exact R.S.seta ho hv hp hk hc (by intro e; cases e) fun x _ => Sl.not_of_t
theorem im_v {i : Nat} : ∀ σ H Q, tM K W (mV i) σ H Q → tVar i σ H Q := fun σ H Q ⟨τ, G, n, F, ro, Γ, T, ts, ex, k, w, R, g, c⟩ => by
  obtain ⟨ft, S, q⟩ := R.at i
  unfold mV at g
  have own : ∀ κ d, κ ≠ .v → gr ro Γ i = .kd κ d ∨ gr ro Γ i = .io κ d → G (k Γ (.al i [] none :: T)) → tVar i σ H Q := fun κ d hk e g => by
    have ho : (gr ro Γ i).own = some (κ, d) := by rcases e with e | e <;> rw [e] <;> rfl
    obtain ⟨v, h1, h2⟩ := S.own_of (x := .s i) ho
    exact ⟨v, val_slot h1, c Γ _ T v F H (.refl _) (R.pushA (p := []) ho h1 rfl hk fun c h => by cases h) g⟩
  cases e : gr ro Γ i with
  | un => rw [e] at g; exact (w.no g).elim
  | ro => rw [e] at g; exact (w.no g).elim
  | kd κ d =>
    rw [e] at g
    cases κ with
    | v =>
      rw [e] at q
      obtain ⟨v, h1, h2⟩ := q
      generalize ft (.s i) = A at h2
      cases h2 with
      | v r => exact ⟨v, val_slot h1, c Γ _ T v F H (.refl _) (R.push r) g⟩
    | _ => exact own _ _ (by intro z; cases z) (.inl e) g
  | io κ d =>
    rw [e] at g
    cases κ with
    | v => exact (w.no g).elim
    | _ => exact own _ _ (by intro z; cases z) (.inr e) g
  | al j p o =>
    rw [e] at g q
    obtain ⟨κ, d, v, u, h1, h2, h3, h4, h5, h6⟩ := q
    exact ⟨u, val_slot h3, c Γ _ T u F H (.refl _) (R.pushA h1 h2 h4 h5 h6) g⟩
theorem gx_v (i : Nat) {x : Str} {pos : Pos} (hN : X.N[i]? = some x := by rfl) (hv : Vis X.env.scope x := by first | exact Or.inl rfl | exact Or.inr (Or.inl rfl) | exact Or.inr (Or.inr rfl)) (hd : (x == ("__debug__" : Str)) = false := by decide)
    (hcd : (x == ("__classdict__" : Str)) = false := by decide) : PE X (.Name x pos) (tM X.K W (mV i)) := pe_imp (pe_var hN hv hd hcd) im_v

/-! ### operators -/
variable {a b c : Expr} {ma mb mc : Me}
theorem Rl.outV (R : Rl K n F ro Γ T σ ts H) {z : D} {Q : VK} (h : ∀ v F' H', Same F F' → Rl K n F' ro Γ (.kd .v z :: T) σ (v :: ts) H' → Q v H') : Out K F H z Q := fun v F' H' g r => h v F' H' g.fz ((R.grow g).push r)
theorem own_fresh {p : Addr} (R : Rl K n F ro Γ T σ ts H) (hp : H p = none) : F p = none := R.sub.free hp
theorem Rl.outN (R : Rl K n F ro Γ T σ ts H) {own : Bool} {o : Option D} {z : D} {Q : VK} (hz : asL own o = some z) (h : ∀ v F' H', Same F F' → Rl K n F' ro Γ (.kd (kdL own) z :: T) σ (v :: ts) H' → Q v H') : ∃ z', o = some z' ∧ OutN K F H z' Q := by
  cases own with
  | false =>
    refine ⟨z, hz, Out.nw R.sub (R.outV h)⟩
  | true =>
    unfold asL at hz
    rw [if_pos rfl] at hz
    split at hz
    · rename_i l
      cases hz
      refine ⟨_, rfl, (fun e => by cases e), fun F2 ds p xs e hp g0 r => ?_⟩
      cases e
      have R := R.grow g0
      have g : Grow F2 H F2 (upd H p (.lst xs)) := Grow.beside R.sub hp
      refine h _ F2 _ g0.fz (R.pushN (k := .l .v) (A := [p]) g (.lst upd_same (owc_v (fun _ => rfl) r) (by simp)) (fun a ha => ?_) fun a ha => ?_)
      · simp at ha; subst ha; exact hp
      · simp at ha; subst ha; exact own_fresh R hp
    · cases hz
theorem im_op2 {f : D → D → Option D} : ∀ σ H Q, tM K W (mOp2 f ma mb) σ H Q → tOp (rF2 K f) (tM K W ma) (tM K W mb) σ H Q := fun σ H Q ⟨τ, G, n, F, ro, Γ, T, ts, ex, k, w, R, g, c⟩ =>
  ⟨τ, G, n, F, ro, Γ, T, ts, ex, _, w, R, g, fun Γ1 s1 T1 x F1 H1 e1 R1 g1 => ⟨τ, G, n, F1, ro, Γ1, s1 :: T1, x :: ts, ex, _, w.mono e1, R1, g1, fun Γ2 s2 T2 y F2 H2 e2 R2 g2 => by
    cases T2 with
    | nil => exact (w.no g2).elim
    | cons s1' T3 =>
      obtain ⟨d, q1, g3⟩ := (R2.pop).rq w.no g2
      obtain ⟨e, q2, g4⟩ := R2.rq w.no g3
      obtain ⟨z, hz, g5⟩ := bindO_some w.no g4
      exact ⟨F2, d, e, z, R2.sub, q1, q2, hz, R2.pop.pop.outV fun v F' H' e' R' => c Γ2 _ T3 v F' H' (e1.trans (e2.trans e')) R' g5⟩⟩⟩
theorem im_op2N {own : Bool} {f : D → D → Option D} : ∀ σ H Q, tM K W (mOp2N own f ma mb) σ H Q → tOp (rF2N K f) (tM K W ma) (tM K W mb) σ H Q := fun σ H Q ⟨τ, G, n, F, ro, Γ, T, ts, ex, k, w, R, g, c⟩ =>
  ⟨τ, G, n, F, ro, Γ, T, ts, ex, _, w, R, g, fun Γ1 s1 T1 x F1 H1 e1 R1 g1 => ⟨τ, G, n, F1, ro, Γ1, s1 :: T1, x :: ts, ex, _, w.mono e1, R1, g1, fun Γ2 s2 T2 y F2 H2 e2 R2 g2 => by
    cases T2 with
    | nil => exact (w.no g2).elim
    | cons s1' T3 =>
      obtain ⟨d, q1, g3⟩ := (R2.pop).rq w.no g2
      obtain ⟨e, q2, g4⟩ := R2.rq w.no g3
      obtain ⟨z, hz, g5⟩ := bindO_some w.no g4
      obtain ⟨z', hz', o⟩ := R2.pop.pop.outN hz fun v F' H' e' R' => c Γ2 _ T3 v F' H' (e1.trans (e2.trans e')) R' g5
      exact ⟨F2, d, e, z', R2.sub, q1, q2, hz', o⟩⟩⟩
theorem gx_op2N (own : Bool) {op : Operator} {f : D → D → Option D} (ho : OpR X (binaryOp op) (rF2N X.K f)) (ha : PE X a (tM X.K W ma)) (hb : PE X b (tM X.K W mb)) : PE X (.BinOp a op b pos) (tM X.K W (mOp2N own f ma mb)) := pe_imp (pe_op ho ha hb) im_op2N
theorem gx_op2 {op : Operator} {f : D → D → Option D} (ho : OpR X (binaryOp op) (rF2 X.K f)) (ha : PE X a (tM X.K W ma)) (hb : PE X b (tM X.K W mb)) : PE X (.BinOp a op b pos) (tM X.K W (mOp2 f ma mb)) := pe_imp (pe_op ho ha hb) im_op2
theorem im_op1 {f : D → Option D} : ∀ σ H Q, tM K W (mOp1 f ma) σ H Q → tUn (rF1 K f) (tM K W ma) σ H Q := fun σ H Q ⟨τ, G, n, F, ro, Γ, T, ts, ex, k, w, R, g, c⟩ =>
  ⟨τ, G, n, F, ro, Γ, T, ts, ex, _, w, R, g, fun Γ1 s1 T1 x F1 H1 e1 R1 g1 => by
    obtain ⟨d, q1, g3⟩ := R1.rq w.no g1
    obtain ⟨z, hz, g5⟩ := bindO_some w.no g3
    exact ⟨F1, d, z, R1.sub, q1, hz, R1.pop.outV fun v F' H' e' R' => c Γ1 _ T1 v F' H' (e1.trans e') R' g5⟩⟩
theorem gx_neg (ha : PE X a (tM X.K W ma)) : PE X (.UnaryOp .USub a pos) (tM X.K W (mOp1 negD ma)) := pe_imp (pe_un un_negF ha) im_op1

/-! ### comparisons, tests -/
theorem im_cmp0 {f : D → D → Option Bool} {Q : VK} : ∀ σ H, (∃ (τ : Type) (G : O τ → Prop) (n : Ent) (F : Hp) (ro : Ro) (Γ T : Gm) (ts : List V) (ex : Xn → Gm → O τ) (k : Bool → Gm → Gm → O τ),
    Wi K W G n F ro σ ex ∧ Rl K n F ro Γ T σ ts H ∧ G (mCmp f ma mb τ ro Γ T ex k) ∧ ∀ b Γ' T' F' H', Same F F' → Rl K n F' ro Γ' T' σ ts H' → G (k b Γ' T') → Q (.bl b) H') → tOp (rC2 K f) (tM K W ma) (tM K W mb) σ H Q := fun σ H ⟨τ, G, n, F, ro, Γ, T, ts, ex, k, w, R, g, c⟩ =>
  ⟨τ, G, n, F, ro, Γ, T, ts, ex, _, w, R, g, fun Γ1 s1 T1 x F1 H1 e1 R1 g1 => ⟨τ, G, n, F1, ro, Γ1, s1 :: T1, x :: ts, ex, _, w.mono e1, R1, g1, fun Γ2 s2 T2 y F2 H2 e2 R2 g2 => by
    cases T2 with
    | nil => exact (w.no g2).elim
    | cons s1' T3 =>
      obtain ⟨d, q1, g3⟩ := (R2.pop).rd w.no g2
      obtain ⟨e, q2, g4⟩ := R2.rd w.no g3
      obtain ⟨z, hz, g5⟩ := bindB_some w.no g4
      exact ⟨H2, d, e, z, .refl _, .rp q1, .rp q2, hz, c z Γ2 T3 F2 H2 (e1.trans e2) R2.pop.pop g5⟩⟩⟩
theorem gq_cmp {op : CmpOp} {f : D → D → Option Bool} (ho : OpR X (compareOp op) (rC2 X.K f)) (ha : PE X a (tM X.K W ma)) (hb : PE X b (tM X.K W mb)) (hm : behindInMarks op b = false) : PT X (.Compare a [op] [b] pos) (tQ X.K W (mCmp f ma mb)) :=
  pt_imp (pt_cmpR ho ha hb hm) fun σ H Q ⟨τ, G, n, F, ro, Γ, T, ts, ex, k, w, R, g, c⟩ => im_cmp0 (Q := fun v H' => ∃ k, v = .bl k ∧ Q k H') σ H ⟨τ, G, n, F, ro, Γ, T, ts, ex, k, w, R, g, fun b Γ' T' F' H' e R' g' => ⟨b, rfl, c b Γ' T' F' H' e R' g'⟩⟩
theorem gx_cmp {op : CmpOp} {f : D → D → Option Bool} (ho : OpR X (compareOp op) (rC2 X.K f)) (ha : PE X a (tM X.K W ma)) (hb : PE X b (tM X.K W mb)) (hm : behindInMarks op b = false) : PE X (.Compare a [op] [b] pos) (tM X.K W (mB (mCmp f ma mb))) :=
  pe_imp (pe_cmpR ho ha hb hm) fun σ H Q ⟨τ, G, n, F, ro, Γ, T, ts, ex, k, w, R, g, c⟩ => im_cmp0 (Q := Q) σ H ⟨τ, G, n, F, ro, Γ, T, ts, ex, _, w, R, g, fun b Γ' T' F' H' e R' g' => c Γ' _ T' (.bl b) F' H' e (R'.push (.bl b)) g'⟩
theorem im_tst : ∀ σ H (Q : Bool → Hp → Prop), tQ K W (mTst ma) σ H Q → tB (tM K W ma) σ H Q := fun σ H Q ⟨τ, G, n, F, ro, Γ, T, ts, ex, k, w, R, g, c⟩ =>
  ⟨τ, G, n, F, ro, Γ, T, ts, ex, _, w, R, g, fun Γ1 s1 T1 x F1 H1 e1 R1 g1 => by
    obtain ⟨d, q1, g3⟩ := R1.rd w.no g1
    obtain ⟨b, hb, g4⟩ := bindB_some w.no g3
    unfold asB at hb
    split at hb
    · cases hb
      cases q1
      exact ⟨_, rfl, c _ Γ1 T1 F1 H1 e1 R1.pop g4⟩
    · cases hb⟩
theorem gq_val (ha : PE X a (tM X.K W ma)) (he : ∀ whole, isTrue a X.env whole = (do let v ← whole; standAt a.pos; holding [v] (truthy v)) := by intro _; rfl) : PT X a (tQ X.K W (mTst ma)) := pt_imp (pt_val ha he) im_tst
variable {qa qb : Mq}
theorem gq_not (ha : PT X a (tQ X.K W qa)) : PT X (.UnaryOp .Not a pos) (tQ X.K W (mNot qa)) := pt_imp (pt_not ha) fun σ H Q ⟨τ, G, n, F, ro, Γ, T, ts, ex, k, w, R, g, c⟩ => ⟨τ, G, n, F, ro, Γ, T, ts, ex, _, w, R, g, fun b Γ' T' F' H' e R' g' => c (!b) Γ' T' F' H' e R' g'⟩
theorem gx_not (ha : PE X a (tM X.K W ma)) : PE X (.UnaryOp .Not a pos) (tM X.K W (mB (mNot (mTst ma)))) := pe_imp (pe_not ha) fun σ H Q ⟨τ, G, n, F, ro, Γ, T, ts, ex, k, w, R, g, c⟩ =>
  ⟨τ, G, n, F, ro, Γ, T, ts, ex, _, w, R, g, fun Γ1 s1 T1 x F1 H1 e1 R1 g1 => by
    obtain ⟨d, q1, g3⟩ := R1.rd w.no g1
    obtain ⟨b, hb, g4⟩ := bindB_some w.no g3
    unfold asB at hb
    split at hb
    · cases hb
      cases q1
      exact ⟨_, rfl, c Γ1 _ T1 _ F1 H1 e1 (R1.pop.push (.bl _)) g4⟩
    · cases hb⟩

/-! ### arguments, built-in calls -/
variable {es : List Expr} {mr : Me} {N : Nat}
theorem ga_nil : PA X [] (tA X.K W 0 mNil) := pa_imp pa_nil fun σ H Q ⟨τ, G, n, F, ro, Γ, T, ts, ex, k, w, R, g, c⟩ => c Γ T [] F H (.refl _) rfl R g
theorem ga_cons (ha : PE X a (tM X.K W ma)) (hr : PA X es (tA X.K W N mr)) (hs : starEach (a :: es) X.env = (false, eval a X.env) :: starEach es X.env := by rfl) : PA X (a :: es) (tA X.K W (N + 1) (mCons ma mr)) :=
  pa_imp (pa_cons ha hr hs) fun σ H Q ⟨τ, G, n, F, ro, Γ, T, ts, ex, k, w, R, g, c⟩ => ⟨τ, G, n, F, ro, Γ, T, ts, ex, _, w, R, g, fun Γ1 s1 T1 x F1 H1 e1 R1 g1 => ⟨τ, G, n, F1, ro, Γ1, s1 :: T1, x :: ts, ex, k, w.mono e1, R1, g1, fun Γ2 T2 vs F2 H2 e2 hl R2 g2 => c Γ2 T2 (x :: vs) F2 H2 (e1.trans e2) (by simp [hl]) (by simpa using R2) g2⟩⟩
theorem rev_ind {N : Nat} {vs : List V} (h : vs.length = N + 1) : ∃ us v, vs = us ++ [v] ∧ us.length = N := by
  refine ⟨vs.dropLast, vs.getLast (by intro e; subst e; cases h), (List.dropLast_concat_getLast _).symm, by rw [List.length_dropLast, h]; rfl⟩
theorem rdN_ok (no : ¬ G .no) : ∀ {N : Nat} {T : Gm} {vs : List V} {k : List D → Gm → O τ}, vs.length = N → Rl K n F ro Γ T σ (vs.reverse ++ ts) H → G (rdN ro Γ N T k) → ∃ ds T0, RpL K H vs ds ∧ Rl K n F ro Γ T0 σ ts H ∧ G (k ds T0)
  | 0, T, vs, k, hl, R, g => by
    obtain rfl : vs = [] := List.length_eq_zero_iff.mp hl
    exact ⟨[], T, .nil, R, g⟩
  | N + 1, [], vs, k, hl, R, g => (no g).elim
  | N + 1, s :: T, vs, k, hl, R, g => by
    obtain ⟨us, v, rfl, hl2⟩ := rev_ind hl
    rw [List.reverse_append] at R
    have R : Rl K n F ro Γ (s :: T) σ (v :: (us.reverse ++ ts)) H := R
    have g : G (rdN ro Γ N T fun ds T0 => rd ro Γ s fun d => k (ds ++ [d]) T0) := g
    obtain ⟨ds, T0, h1, h2, g1⟩ := rdN_ok no hl2 R.pop g
    obtain ⟨d, q, g2⟩ := R.rd no g1
    exact ⟨ds ++ [d], T0, h1.append (.cons q .nil), h2, g2⟩
theorem rqN_ok (no : ¬ G .no) : ∀ {N : Nat} {T : Gm} {vs : List V} {k : List D → Gm → O τ}, vs.length = N → Rl K n F ro Γ T σ (vs.reverse ++ ts) H → G (rqN ro Γ N T k) → ∃ ds T0, RqL K F H vs ds ∧ Rl K n F ro Γ T0 σ ts H ∧ G (k ds T0)
  | 0, T, vs, k, hl, R, g => by
    obtain rfl : vs = [] := List.length_eq_zero_iff.mp hl
    exact ⟨[], T, .nil, R, g⟩
  | N + 1, [], vs, k, hl, R, g => (no g).elim
  | N + 1, s :: T, vs, k, hl, R, g => by
    obtain ⟨us, v, rfl, hl2⟩ := rev_ind hl
    rw [List.reverse_append] at R
    have R : Rl K n F ro Γ (s :: T) σ (v :: (us.reverse ++ ts)) H := R
    have g : G (rqN ro Γ N T fun ds T0 => rq ro Γ s fun d => k (ds ++ [d]) T0) := g
    obtain ⟨ds, T0, h1, h2, g1⟩ := rqN_ok no hl2 R.pop g
    obtain ⟨d, q, g2⟩ := R.rq no g1
    have app : ∀ {us : List V} {ds : List D}, RqL K F H us ds → RqL K F H (us ++ [v]) (ds ++ [d]) := fun {us ds} h => by
      induction h with
      | nil => exact .cons q .nil
      | cons a _ ih => exact .cons a ih
    exact ⟨ds ++ [d], T0, app h1, h2, g2⟩
theorem Rl.outS (R : Rl K n F ro Γ T σ ts H) {z : D} {Q : VK} (hs : Fx.scal z = true) (h : ∀ v F' H', Same F F' → Rl K n F' ro Γ (.kd .v z :: T) σ (v :: ts) H' → Q v H') : Out K H H z Q := fun v F' H' g r =>
  h v F H' (.refl _) ((R.grow (Grow.of R.sub g.hp)).push (Rp.scal hs r))
theorem im_blt {g' : List D → Option D} (hs : ∀ ds z, g' ds = some z → scal z = true) : ∀ σ H Q, tM K W (mBlt N g' mr) σ H Q → tCB (rFn K g') (tA K W N mr) σ H Q := fun σ H Q ⟨τ, G, n, F, ro, Γ, T, ts, ex, k, w, R, g, c⟩ =>
  ⟨τ, G, n, F, ro, Γ, T, ts, ex, _, w, R, g, fun Γ1 T1 vs F1 H1 e1 hl R1 g1 => by
    obtain ⟨ds, T0, h1, h2, g2⟩ := rdN_ok w.no hl R1 g1
    obtain ⟨z, hz, g3⟩ := bindO_some w.no g2
    exact ⟨H1, ds, z, .refl _, rqL_of h1, hz, h2.outS (hs _ _ hz) fun v F' H' e' R' => c Γ1 _ T0 v F' H' (e1.trans e') R' g3⟩⟩
theorem im_bltN {own : Bool} {g' : List D → Option D} : ∀ σ H Q, tM K W (mBltN own N g' mr) σ H Q → tCB (rFnN K g') (tA K W N mr) σ H Q := fun σ H Q ⟨τ, G, n, F, ro, Γ, T, ts, ex, k, w, R, g, c⟩ =>
  ⟨τ, G, n, F, ro, Γ, T, ts, ex, _, w, R, g, fun Γ1 T1 vs F1 H1 e1 hl R1 g1 => by
    obtain ⟨ds, T0, h1, h2, g2⟩ := rqN_ok w.no hl R1 g1
    obtain ⟨z, hz, g3⟩ := bindO_some w.no g2
    obtain ⟨z', hz', o⟩ := h2.outN hz fun v F' H' e' R' => c Γ1 _ T0 v F' H' (e1.trans e') R' g3
    exact ⟨F1, ds, z', R1.sub, h1, hz', o⟩⟩
variable {x : Str} {p : Pos} {e : Expr}
theorem gx_blt {id : String} {g : List D → Option D} (hc : CallR X (.builtin id) (rFn X.K g)) (hs : ∀ ds z, g ds = some z → scal z = true) (hg : Gl X x) (hm : X.mg x = none) (hv : bootBuiltins x = some (.builtin id)) (ha : PA X (e :: es) (tA X.K W N mr)) (hn : x ≠ "__name__" := by decide) (hdb : (x == ("__debug__" : Str)) = false := by decide)
    (he : starEach (e :: es) X.env = (false, eval e X.env) :: starEach es X.env := by rfl) (hpl : (backTo pos (starEach es X.env)).any (·.1) = false := by rfl) : PE X (.Call (.Name x p) (e :: es) [] pos) (tM X.K W (mBlt N g mr)) := pe_imp (pe_callB hc hg hm hv ha hn hdb he hpl) (im_blt hs)
theorem gx_bty {T : String} {g : List D → Option D} (hc : CallR X (.type T) (rFn X.K g)) (hs : ∀ ds z, g ds = some z → scal z = true) (hg : Gl X x) (hm : X.mg x = none) (hv : bootBuiltins x = some (.type T)) (ha : PA X (e :: es) (tA X.K W N mr)) (hn : x ≠ "__name__" := by decide) (hdb : (x == ("__debug__" : Str)) = false := by decide)
    (he : starEach (e :: es) X.env = (false, eval e X.env) :: starEach es X.env := by rfl) (hpl : (backTo pos (starEach es X.env)).any (·.1) = false := by rfl) : PE X (.Call (.Name x p) (e :: es) [] pos) (tM X.K W (mBlt N g mr)) := pe_imp (pe_callTy hc hg hm hv ha hn hdb he hpl) (im_blt hs)
theorem gx_bltN (own : Bool) {id : String} {g : List D → Option D} (hc : CallR X (.builtin id) (rFnN X.K g)) (hg : Gl X x) (hm : X.mg x = none) (hv : bootBuiltins x = some (.builtin id)) (ha : PA X (e :: es) (tA X.K W N mr)) (hn : x ≠ "__name__" := by decide) (hdb : (x == ("__debug__" : Str)) = false := by decide)
    (he : starEach (e :: es) X.env = (false, eval e X.env) :: starEach es X.env := by rfl) (hpl : (backTo pos (starEach es X.env)).any (·.1) = false := by rfl) : PE X (.Call (.Name x p) (e :: es) [] pos) (tM X.K W (mBltN own N g mr)) := pe_imp (pe_callB hc hg hm hv ha hn hdb he hpl) im_bltN
theorem gx_btyN (own : Bool) {T : String} {g : List D → Option D} (hc : CallR X (.type T) (rFnN X.K g)) (hg : Gl X x) (hm : X.mg x = none) (hv : bootBuiltins x = some (.type T)) (ha : PA X (e :: es) (tA X.K W N mr)) (hn : x ≠ "__name__" := by decide) (hdb : (x == ("__debug__" : Str)) = false := by decide)
    (he : starEach (e :: es) X.env = (false, eval e X.env) :: starEach es X.env := by rfl) (hpl : (backTo pos (starEach es X.env)).any (·.1) = false := by rfl) : PE X (.Call (.Name x p) (e :: es) [] pos) (tM X.K W (mBltN own N g mr)) := pe_imp (pe_callTy hc hg hm hv ha hn hdb he hpl) im_bltN
end
end Fx

/-! G: blocks: what a part of the code may change, the rest being as the surroundings have it. -/
namespace Fx
open PySem PySem.Spec PyProof.Rows L2
/-- n trees -/
def St : Nat → Type
  | 0 => Unit
  | 1 => D
  | n + 2 => D × St (n + 1)
def toSt : (n : Nat) → List D → St n
  | 0, _ => ()
  | 1, l => l.headD .non
  | n + 2, l => (l.headD .non, toSt (n + 1) l.tail)
def ofSt : (n : Nat) → St n → List D
  | 0, _ => []
  | 1, d => [d]
  | n + 2, s => s.1 :: ofSt (n + 1) s.2
theorem ofSt_toSt : ∀ (n : Nat) (l : List D), l.length = n → ofSt n (toSt n l) = l
  | 0, l, h => (List.length_eq_zero_iff.mp h).symm
  | 1, [d], _ => rfl
  | n + 2, d :: l, h => by
    show d :: ofSt (n + 1) (toSt (n + 1) l) = d :: l
    rw [ofSt_toSt (n + 1) l (by simpa using h)]
mutual
def Kd.eqb : Kd → Kd → Bool
  | .v, .v => true
  | .l a, .l b => a.eqb b
  | .d a, .d b => a.eqb b
  | .dl a, .dl b => a.eqb b
  | .t a, .t b => eqbL a b
  | .i a, .i b => eqbI a b
  | _, _ => false
def eqbL : List Kd → List Kd → Bool
  | [], [] => true
  | a :: r, b :: s => a.eqb b && eqbL r s
  | _, _ => false
def eqbI : List (Str × Kd) → List (Str × Kd) → Bool
  | [], [] => true
  | (x, a) :: r, (y, b) :: s => decide (x = y) && (a.eqb b && eqbI r s)
  | _, _ => false
end
mutual
theorem Kd.eqb_eq : ∀ {a b : Kd}, a.eqb b = true → a = b
  | .v, .v, _ => rfl
  | .l a, .l b, h => by rw [Kd.eqb_eq (a := a) (b := b) h]
  | .d a, .d b, h => by rw [Kd.eqb_eq (a := a) (b := b) h]
  | .dl a, .dl b, h => by rw [Kd.eqb_eq (a := a) (b := b) h]
  | .t a, .t b, h => by rw [eqbL_eq (a := a) (b := b) h]
  | .i a, .i b, h => by rw [eqbI_eq (a := a) (b := b) h]
  | .v, .l _, h => by cases h
  | .v, .d _, h => by cases h
  | .v, .dl _, h => by cases h
  | .v, .t _, h => by cases h
  | .v, .i _, h => by cases h
  | .l _, .v, h => by cases h
  | .l _, .d _, h => by cases h
  | .l _, .dl _, h => by cases h
  | .l _, .t _, h => by cases h
  | .l _, .i _, h => by cases h
  | .d _, .v, h => by cases h
  | .d _, .l _, h => by cases h
  | .d _, .dl _, h => by cases h
  | .d _, .t _, h => by cases h
  | .d _, .i _, h => by cases h
  | .dl _, .v, h => by cases h
  | .dl _, .l _, h => by cases h
  | .dl _, .d _, h => by cases h
  | .dl _, .t _, h => by cases h
  | .dl _, .i _, h => by cases h
  | .t _, .v, h => by cases h
  | .t _, .l _, h => by cases h
  | .t _, .d _, h => by cases h
  | .t _, .dl _, h => by cases h
  | .t _, .i _, h => by cases h
  | .i _, .v, h => by cases h
  | .i _, .l _, h => by cases h
  | .i _, .d _, h => by cases h
  | .i _, .dl _, h => by cases h
  | .i _, .t _, h => by cases h
theorem eqbL_eq : ∀ {a b : List Kd}, eqbL a b = true → a = b
  | [], [], _ => rfl
  | a :: r, b :: s, h => by
    unfold eqbL at h
    rw [Bool.and_eq_true] at h
    rw [Kd.eqb_eq h.1, eqbL_eq h.2]
  | [], _ :: _, h => by cases h
  | _ :: _, [], h => by cases h
theorem eqbI_eq : ∀ {a b : List (Str × Kd)}, eqbI a b = true → a = b
  | [], [], _ => rfl
  | (x, a) :: r, (y, b) :: s, h => by
    unfold eqbI at h
    rw [Bool.and_eq_true, Bool.and_eq_true] at h
    rw [of_decide_eq_true h.1, Kd.eqb_eq h.2.1, eqbI_eq h.2.2]
  | [], _ :: _, h => by cases h
  | _ :: _, [], h => by cases h
end
/-- a name in a block: it is changed and known behind; it is as the surroundings have it; it is not known behind -/
inductive Bm where
  | st (k : Kd) | ro | dd
def Bm.isDd : Bm → Bool
  | .dd => true
  | _ => false
def Bm.isSt : Bm → Bool
  | .st _ => true
  | _ => false
def mkB : List Bm → Nat → Bm
  | [], _ => .ro
  | b :: _, 0 => b
  | _ :: r, i + 1 => mkB r i
def cnt : List Bm → Nat
  | [] => 0
  | .st _ :: m => cnt m + 1
  | _ :: m => cnt m
def resG (ro : Ro) : Nat → Gm → Gm
  | _, [] => []
  | i, s :: Γ => res ro i s :: resG ro (i + 1) Γ
def resT (ro : Ro) : Gm → Gm
  | [] => []
  | s :: T => rest' ro T.length s :: resT ro T
def isRo : Sl → Bool
  | .ro => true
  | _ => false
def entG : List Bm → Gm → Gm
  | _, [] => []
  | [], _ :: r => .ro :: entG [] r
  | .st _ :: m, s :: r => s :: entG m r
  | .ro :: m, _ :: r => .ro :: entG m r
  | .dd :: m, _ :: r => .un :: entG m r
def hidT : Gm → Gm
  | [] => []
  | _ :: T => .ro :: hidT T
def stK (k : Kd) : Sl → Sl → Option D
  | .io _ _, .io k' d => if k.eqb k' then some d else none
  | .io _ _, _ => none
  | _, .kd k' d => if k.eqb k' then some d else none
  | _, _ => none
def isZ : Nat → Option (List D)
  | 0 => some []
  | _ + 1 => none
/-- the mask, the names at the entry (resolved), the names now -/
def extG : List Bm → Gm → Gm → Option (List D)
  | [], _ :: e, s :: r => if isRo s then extG [] e r else none
  | .st k :: m, e :: es, s :: r => (stK k e s).bind fun d => (extG m es r).map (d :: ·)
  | .ro :: m, _ :: es, s :: r => if isRo s then extG m es r else none
  | .dd :: m, _ :: es, _ :: r => extG m es r
  | m, [], [] => isZ (cnt m)
  | _, _, _ => none
def bkS (k : Kd) (d : D) : Sl → Sl
  | .io _ _ => .io k d
  | _ => .kd k d
/-- the mask, the names of the surroundings, these resolved, what came -/
def back : List Bm → Gm → Gm → List D → Gm
  | .st k :: m, _ :: r, e :: es, d :: ds => bkS k d e :: back m r es ds
  | .ro :: m, s :: r, _ :: es, ds => s :: back m r es ds
  | .dd :: m, _ :: r, _ :: es, ds => .un :: back m r es ds
  | [], r, _, _ => r
  | _, r, _, _ => r.map fun _ => .un
/-- no part of what is given up -/
def okS (m : List Bm) : Sl → Bool
  | .al j _ _ => !(mkB m j).isDd
  | _ => true
def okD (m : List Bm) (ro : Ro) (Γ T : Gm) : Bool := (resG ro 0 Γ).all (okS m) && (resT ro T).all (okS m)
def roB (ro : Ro) (Γ T : Gm) : Ro := ⟨resG ro 0 Γ, resT ro T⟩
section
variable {K : PySem.W.Frag} {n : Ent} {F F1 H H1 : Hp} {ro : Ro} {Γ T Γ' : Gm} {σ σ' : L2.St} {ts : List V} {m : List Bm}
theorem gg_resG : ∀ (Γ : Gm) (o i : Nat), gg (resG ro o Γ) i = res ro (o + i) (gg Γ i)
  | [], _, _ => rfl
  | s :: Γ, o, 0 => rfl
  | s :: Γ, o, i + 1 => by
    show gg (resG ro (o + 1) Γ) i = _
    rw [gg_resG Γ (o + 1) i, show o + 1 + i = o + (i + 1) by omega]
    rfl
theorem resG_len : ∀ (Γ : Gm) (o : Nat), (resG ro o Γ).length = Γ.length
  | [], _ => rfl
  | _ :: Γ, o => by simp [resG, resG_len Γ (o + 1)]
theorem resT_len : ∀ (T : Gm), (resT ro T).length = T.length
  | [] => rfl
  | _ :: T => by simp [resT, resT_len T]
theorem hidT_len : ∀ (T : Gm), (hidT T).length = T.length
  | [] => rfl
  | _ :: T => by simp [hidT, hidT_len T]
theorem entG_len : ∀ (m : List Bm) (R : Gm), (entG m R).length = R.length
  | m, [] => by cases m <;> rfl
  | [], _ :: r => by simp [entG, entG_len [] r]
  | .st _ :: m, _ :: r => by simp [entG, entG_len m r]
  | .ro :: m, _ :: r => by simp [entG, entG_len m r]
  | .dd :: m, _ :: r => by simp [entG, entG_len m r]
theorem tb_resT (i : Nat) : tb (resT ro T) i = tr ro T i := by
  induction T with
  | nil => rfl
  | cons s T ih =>
    unfold tr
    rw [resT, tb_cons, tb_cons, resT_len]
    by_cases h : i = T.length
    · subst h; simp
    · rw [if_neg h, if_neg h, ih]; rfl
theorem tb_hidT (i : Nat) : tb (hidT T) i = if i < T.length then .ro else .un := by
  induction T with
  | nil => rfl
  | cons s T ih =>
    rw [hidT, tb_cons, hidT_len, List.length_cons]
    by_cases h : i = T.length
    · subst h; simp
    · rw [if_neg h, ih]
      by_cases h1 : i < T.length
      · rw [if_pos h1, if_pos (by omega)]
      · rw [if_neg h1, if_neg (by omega)]
theorem tr_hid (i : Nat) : tr (roB ro Γ T) (hidT T) i = tr ro T i := by
  unfold tr
  rw [tb_hidT]
  by_cases h : i < T.length
  · rw [if_pos h]
    exact tb_resT i
  · rw [if_neg h]
    unfold tb
    rw [if_neg h]
    rfl
theorem hid_of : ∀ {T T' : Gm}, T'.all isRo = true → T'.length = T.length → T' = hidT T
  | [], [], _, _ => rfl
  | s :: T, s' :: T', h, hl => by
    rw [List.all_cons, Bool.and_eq_true] at h
    rw [hidT, hid_of h.2 (by simpa using hl)]
    cases s' <;> first | rfl | cases h.1
theorem gg_entG : ∀ (m : List Bm) (R : Gm) (i : Nat), gg (entG m R) i = if i < R.length then (match mkB m i with | .st _ => gg R i | .ro => .ro | .dd => .un) else .un
  | m, [], i => by cases m <;> simp [entG, gg]
  | [], _ :: r, 0 => by simp [entG, gg, mkB]
  | [], _ :: r, i + 1 => by
    have q := gg_entG [] r i
    simp only [entG, gg, mkB, List.length_cons, Nat.add_lt_add_iff_right] at q ⊢
    exact q
  | .st _ :: m, s :: r, 0 => by simp [entG, gg, mkB]
  | .ro :: m, s :: r, 0 => by simp [entG, gg, mkB]
  | .dd :: m, s :: r, 0 => by simp [entG, gg, mkB]
  | .st _ :: m, s :: r, i + 1 => by
    have q := gg_entG m r i
    simp only [entG, gg, mkB, List.length_cons, Nat.add_lt_add_iff_right]
    exact q
  | .ro :: m, s :: r, i + 1 => by
    have q := gg_entG m r i
    simp only [entG, gg, mkB, List.length_cons, Nat.add_lt_add_iff_right]
    exact q
  | .dd :: m, s :: r, i + 1 => by
    have q := gg_entG m r i
    simp only [entG, gg, mkB, List.length_cons, Nat.add_lt_add_iff_right]
    exact q
theorem gr_out {i : Nat} (h : Γ.length ≤ i) : gr ro Γ i = .un := by
  unfold gr
  rw [gg_out h]
  rfl
/-- the names at the entry of a block -/
theorem gr_ent (i : Nat) : gr (roB ro Γ T) (entG m (resG ro 0 Γ)) i = if (mkB m i).isDd then .un else gr ro Γ i := by
  by_cases h : i < Γ.length
  · unfold gr
    rw [gg_entG, resG_len, if_pos h]
    cases e : mkB m i with
    | st k =>
      have q := gg_resG (ro := ro) Γ 0 i
      rw [Nat.zero_add] at q
      simp only [Bm.isDd, Bool.false_eq_true, if_false]
      rw [q]
      cases e2 : gg Γ i with
      | ro =>
        -- what the surroundings have is never hidden again
        show res (roB ro Γ T) i (gg ro.s i) = gg ro.s i
        cases e3 : gg ro.s i with
        | ro =>
          show gg (resG ro 0 Γ) i = .ro
          rw [q, e2]
          exact e3
        | _ => rfl
      | _ => rfl
    | ro =>
      have q := gg_resG (ro := ro) Γ 0 i
      rw [Nat.zero_add] at q
      simp only [Bm.isDd, Bool.false_eq_true, if_false]
      exact q
    | dd => rfl
  · rw [gr_out (by rw [entG_len, resG_len]; omega), gr_out (by omega)]
    split <;> rfl
theorem okD_s (h : okD m ro Γ T = true) {i j : Nat} {p : List Stp} {o : Option D} (e : gr ro Γ i = .al j p o) : (mkB m j).isDd = false := by
  unfold okD at h
  rw [Bool.and_eq_true] at h
  have hi : i < Γ.length := by
    by_cases q : i < Γ.length
    · exact q
    · rw [gr_out (by omega)] at e; cases e
  have q := gg_resG (ro := ro) Γ 0 i
  rw [Nat.zero_add] at q
  have mem : ∀ (L : Gm) (i : Nat), i < L.length → gg L i ∈ L := fun L => by
    induction L with
    | nil => intro i h; simp at h
    | cons x r ih =>
      intro i h
      cases i with
      | zero => exact List.mem_cons_self
      | succ i => exact List.mem_cons_of_mem _ (ih i (by simpa using h))
  have z := List.all_eq_true.mp h.1 _ (mem (resG ro 0 Γ) i (by rw [resG_len]; exact hi))
  rw [q, show res ro i (gg Γ i) = .al j p o from e] at z
  simpa [okS] using z
theorem okD_t (h : okD m ro Γ T = true) {i j : Nat} {p : List Stp} {o : Option D} (e : tr ro T i = .al j p o) : (mkB m j).isDd = false := by
  unfold okD at h
  rw [Bool.and_eq_true] at h
  have h2 := h.2
  clear h
  induction T with
  | nil => cases e
  | cons s T ih =>
    rw [resT, List.all_cons, Bool.and_eq_true] at h2
    unfold tr at e
    rw [tb_cons] at e
    by_cases hi : i = T.length
    · subst hi
      rw [if_pos rfl] at e
      have z := h2.1
      rw [e] at z
      simpa [okS] using z
    · rw [if_neg hi] at e
      exact ih e h2.2
/-- into a block -/
theorem Rl.enter (R : Rl K n F ro Γ T σ ts H) (h : okD m ro Γ T = true) : Rl K n F (roB ro Γ T) (entG m (resG ro 0 Γ)) (hidT T) σ ts H := by
  refine ⟨by rw [entG_len, resG_len]; exact R.ls, by rw [hidT_len]; exact R.lt, R.S.wk (fun x => ?_) fun x j p o e => ⟨?_, rfl⟩⟩
  · cases x with
    | s i =>
      show (gr _ _ i = gr ro Γ i ∧ _) ∨ gr _ _ i = .un ∨ _
      rw [gr_ent]
      cases (mkB m i).isDd with
      | true => exact .inr (.inl rfl)
      | false => exact .inl ⟨rfl, rfl⟩
    | t i => exact .inl ⟨tr_hid i, rfl⟩
  · show gr _ _ j = gr ro Γ j
    rw [gr_ent]
    have nd : (mkB m j).isDd = false := by
      cases x with
      | s i =>
        have e : gr (roB ro Γ T) (entG m (resG ro 0 Γ)) i = .al j p o := e
        rw [gr_ent] at e
        split at e
        · cases e
        · exact okD_s h e
      | t i =>
        have e : tr (roB ro Γ T) (hidT T) i = .al j p o := e
        rw [tr_hid] at e
        exact okD_t h e
    rw [nd]; rfl
theorem stK_some {k : Kd} {e s : Sl} {d : D} (h : stK k e s = some d) : s = bkS k d e := by
  unfold stK at h
  split at h
  · split at h
    · rename_i q
      cases h
      rw [Kd.eqb_eq q]
      rfl
    · cases h
  · cases h
  · split at h
    · rename_i e' k' d' ne q
      cases h
      rw [Kd.eqb_eq q]
      cases e <;> first | rfl | exact (ne _ _ rfl).elim
    · cases h
  · cases h
theorem extG_bk : ∀ {m : List Bm} {Γ R Γ' : Gm} {ds : List D}, Γ.length = R.length → extG m R Γ' = some ds → (back m Γ R ds).length = Γ.length ∧ Γ'.length = Γ.length ∧ ds.length = cnt m ∧
    ∀ i, i < Γ.length → match mkB m i with
      | .st k => ∃ d, gg Γ' i = bkS k d (gg R i) ∧ gg (back m Γ R ds) i = bkS k d (gg R i)
      | .ro => gg Γ' i = .ro ∧ gg (back m Γ R ds) i = gg Γ i
      | .dd => gg (back m Γ R ds) i = .un
  | [], [], [], [], ds, e, h => by
    have h : isZ 0 = some ds := h
    cases h
    exact ⟨rfl, rfl, rfl, fun i hi => by simp at hi⟩
  | [], [], [], _ :: _, ds, e, h => by cases h
  | [], g :: Γ, x :: R, [], ds, e, h => by cases h
  | [], g :: Γ, x :: R, s :: Γ', ds, e, h => by
    simp only [extG] at h
    split at h
    · rename_i q
      obtain ⟨h1, h2, h3, h4⟩ := extG_bk (m := []) (Γ := Γ) (R := R) (by simpa using e) h
      refine ⟨rfl, by simp [h2], h3, fun i hi => ?_⟩
      cases i with
      | zero => exact ⟨(by cases s <;> first | rfl | cases q), rfl⟩
      | succ i =>
        have z := h4 i (by simpa using hi)
        exact ⟨z.1, rfl⟩
    · cases h
  | .st k :: m, [], [], [], ds, e, h => by
    have h : isZ (cnt m + 1) = some ds := h
    cases h
  | .st k :: m, [], [], _ :: _, ds, e, h => by cases h
  | .st k :: m, g :: Γ, x :: R, [], ds, e, h => by cases h
  | .st k :: m, g :: Γ, x :: R, s :: Γ', ds, e, h => by
    simp only [extG] at h
    cases e1 : stK k x s with
    | none => rw [e1] at h; cases h
    | some d =>
      rw [e1] at h
      cases e2 : extG m R Γ' with
      | none => rw [e2] at h; cases h
      | some ds' =>
        rw [e2] at h
        cases h
        obtain ⟨h1, h2, h3, h4⟩ := extG_bk (m := m) (Γ := Γ) (R := R) (by simpa using e) e2
        refine ⟨by simp [back, h1], by simp [h2], by simp [cnt, h3], fun i hi => ?_⟩
        cases i with
        | zero => exact ⟨d, stK_some e1, rfl⟩
        | succ i => exact h4 i (by simpa using hi)
  | .ro :: m, [], [], [], ds, e, h => by
    have h : isZ (cnt m) = some ds := h
    cases q : cnt m with
    | zero => rw [q] at h; cases h; exact ⟨rfl, rfl, by simp [cnt, q], fun i hi => by simp at hi⟩
    | succ z => rw [q] at h; cases h
  | .ro :: m, [], [], _ :: _, ds, e, h => by cases h
  | .ro :: m, g :: Γ, x :: R, [], ds, e, h => by cases h
  | .ro :: m, g :: Γ, x :: R, s :: Γ', ds, e, h => by
    simp only [extG] at h
    split at h
    · rename_i q
      obtain ⟨h1, h2, h3, h4⟩ := extG_bk (m := m) (Γ := Γ) (R := R) (by simpa using e) h
      refine ⟨by simp [back, h1], by simp [h2], by simp [cnt, h3], fun i hi => ?_⟩
      cases i with
      | zero => exact ⟨(by cases s <;> first | rfl | cases q), rfl⟩
      | succ i => exact h4 i (by simpa using hi)
    · cases h
  | .dd :: m, [], [], [], ds, e, h => by
    have h : isZ (cnt m) = some ds := h
    cases q : cnt m with
    | zero => rw [q] at h; cases h; exact ⟨rfl, rfl, by simp [cnt, q], fun i hi => by simp at hi⟩
    | succ z => rw [q] at h; cases h
  | .dd :: m, [], [], _ :: _, ds, e, h => by cases h
  | .dd :: m, g :: Γ, x :: R, [], ds, e, h => by cases h
  | .dd :: m, g :: Γ, x :: R, s :: Γ', ds, e, h => by
    simp only [extG] at h
    obtain ⟨h1, h2, h3, h4⟩ := extG_bk (m := m) (Γ := Γ) (R := R) (by simpa using e) h
    refine ⟨by simp [back, h1], by simp [h2], by simp [cnt, h3], fun i hi => ?_⟩
    cases i with
    | zero => rfl
    | succ i => exact h4 i (by simpa using hi)
  | m, [], _ :: _, _, _, e, _ => by cases e
  | m, _ :: _, [], _, _, e, _ => by cases e
theorem extG_back {m : List Bm} {Γ Γ' : Gm} {ds : List D} {o : Nat} (h : extG m (resG ro o Γ) Γ' = some ds) : (back m Γ (resG ro o Γ) ds).length = Γ.length ∧ Γ'.length = Γ.length ∧ ds.length = cnt m ∧
    ∀ i, i < Γ.length → match mkB m i with
      | .st k => ∃ d, gg Γ' i = bkS k d (gg (resG ro o Γ) i) ∧ gg (back m Γ (resG ro o Γ) ds) i = bkS k d (gg (resG ro o Γ) i)
      | .ro => gg Γ' i = .ro ∧ gg (back m Γ (resG ro o Γ) ds) i = gg Γ i
      | .dd => gg (back m Γ (resG ro o Γ) ds) i = .un := extG_bk (resG_len Γ o).symm h
/-- out of a block -/
theorem Rl.leave (lt : T.length = ts.length) (h : okD m ro Γ T = true) {ds : List D} (hd : extG m (resG ro 0 Γ) Γ' = some ds) (R : Rl K n F (roB ro Γ T) Γ' (hidT T) σ ts H) : Rl K n F ro (back m Γ (resG ro 0 Γ) ds) T σ ts H := by
  obtain ⟨h1, h2, h3, h4⟩ := extG_back hd
  have key : ∀ i, (mkB m i).isDd = false → gr ro (back m Γ (resG ro 0 Γ) ds) i = gr (roB ro Γ T) Γ' i := fun i nd => by
    by_cases hi : i < Γ.length
    · have q := h4 i hi
      have qr := gg_resG (ro := ro) Γ 0 i
      rw [Nat.zero_add] at qr
      cases e : mkB m i with
      | st k =>
        rw [e] at q
        obtain ⟨d, q1, q2⟩ := q
        unfold gr
        rw [q1, q2]
        cases gg (resG ro 0 Γ) i <;> rfl
      | ro =>
        rw [e] at q
        obtain ⟨q1, q2⟩ := q
        unfold gr
        rw [q1, q2]
        exact qr.symm
      | dd => rw [e] at nd; cases nd
    · rw [gr_out (by rw [h1]; omega), gr_out (by rw [h2]; omega)]
  have dead : ∀ i, (mkB m i).isDd = true → gr ro (back m Γ (resG ro 0 Γ) ds) i = .un := fun i nd => by
    by_cases hi : i < Γ.length
    · have q := h4 i hi
      cases e : mkB m i with
      | dd => rw [e] at q; unfold gr; rw [q]; rfl
      | st k => rw [e] at nd; cases nd
      | ro => rw [e] at nd; cases nd
    · exact gr_out (by rw [h1]; omega)
  refine ⟨by rw [h1, ← h2]; exact R.ls, lt, R.S.wk (fun x => ?_) fun x j p o e => ⟨?_, rfl⟩⟩
  · cases x with
    | s i =>
      cases e : (mkB m i).isDd with
      | true => exact .inr (.inl (dead i e))
      | false => exact .inl ⟨key i e, rfl⟩
    | t i => exact .inl ⟨(tr_hid i).symm, rfl⟩
  · have nd : (mkB m j).isDd = false := by
      cases x with
      | s i =>
        have e : gr ro (back m Γ (resG ro 0 Γ) ds) i = .al j p o := e
        by_cases hi : i < Γ.length
        · have q := h4 i hi
          unfold gr at e
          cases em : mkB m i with
          | st k =>
            rw [em] at q
            obtain ⟨d, q1, q2⟩ := q
            rw [q2] at e
            cases eg : gg (resG ro 0 Γ) i <;> rw [eg] at e <;> cases e
          | ro =>
            rw [em] at q
            rw [q.2] at e
            exact okD_s h (i := i) e
          | dd => rw [em] at q; rw [q] at e; cases e
        · rw [gr_out (by rw [h1]; omega)] at e; cases e
      | t i =>
        have e : tr ro T i = .al j p o := e
        exact okD_t h e
    exact key j nd
/-- once more into the block -/
theorem Rl.again (h : okD m ro Γ [] = true) {ds : List D} (hd : extG m (resG ro 0 Γ) Γ' = some ds) (R : Rl K n F (roB ro Γ []) Γ' [] σ [] H) : Rl K n F (roB ro Γ []) (entG m (back m (resG ro 0 Γ) (resG ro 0 Γ) ds)) [] σ [] H := by
  obtain ⟨h1, h2, h3, h4⟩ := extG_bk (Γ := resG ro 0 Γ) rfl hd
  have lg : (entG m (back m (resG ro 0 Γ) (resG ro 0 Γ) ds)).length = Γ'.length := by rw [entG_len, h1, h2]
  have key : ∀ i, gr (roB ro Γ []) (entG m (back m (resG ro 0 Γ) (resG ro 0 Γ) ds)) i = if (mkB m i).isDd then .un else gr (roB ro Γ []) Γ' i := fun i => by
    by_cases hi : i < (resG ro 0 Γ).length
    · have q := h4 i hi
      unfold gr
      rw [gg_entG, h1, if_pos hi]
      cases e : mkB m i with
      | st k =>
        rw [e] at q
        obtain ⟨d, q1, q2⟩ := q
        simp only [Bm.isDd, Bool.false_eq_true, if_false]
        rw [q1, q2]
      | ro =>
        rw [e] at q
        simp only [Bm.isDd, Bool.false_eq_true, if_false]
        rw [q.1]
      | dd => rfl
    · rw [gr_out (by rw [lg, h2]; omega), gr_out (by rw [h2]; omega)]
      split <;> rfl
  refine ⟨by rw [lg]; exact R.ls, rfl, R.S.wk (fun x => ?_) fun x j p o e => ⟨?_, rfl⟩⟩
  · cases x with
    | s i =>
      show (gr _ _ i = gr _ Γ' i ∧ _) ∨ gr _ _ i = .un ∨ _
      rw [key]
      cases (mkB m i).isDd with
      | true => exact .inr (.inl rfl)
      | false => exact .inl ⟨rfl, rfl⟩
    | t i => exact .inl ⟨rfl, rfl⟩
  · show gr _ _ j = gr _ Γ' j
    rw [key]
    have nd : (mkB m j).isDd = false := by
      cases x with
      | s i =>
        have e : gr (roB ro Γ []) (entG m (back m (resG ro 0 Γ) (resG ro 0 Γ) ds)) i = .al j p o := e
        rw [key] at e
        split at e
        · cases e
        · by_cases hi : i < (resG ro 0 Γ).length
          · have q := h4 i hi
            unfold gr at e
            cases em : mkB m i with
            | st k =>
              rw [em] at q
              obtain ⟨d, q1, q2⟩ := q
              rw [q1] at e
              cases eg : gg (resG ro 0 Γ) i <;> rw [eg] at e <;> cases e
            | ro =>
              rw [em] at q
              rw [q.1] at e
              have e : gg (resG ro 0 Γ) i = .al j p o := e
              have qr := gg_resG (ro := ro) Γ 0 i
              rw [Nat.zero_add, e] at qr
              exact okD_s h (i := i) qr.symm
            | dd =>
              rename_i hd' 
              exact absurd (by rw [em]; rfl) hd'
          · rw [gr_out (by rw [h2]; omega)] at e; cases e
      | t i =>
        have e : tr (roB ro Γ []) [] i = .al j p o := e
        cases e
    rw [nd]; rfl
end
end Fx

/-! G: and, or, if .. else, a < b < c in expressions. -/
namespace Fx
open PySem PySem.Spec PyProof.Rows L2
/-- an outcome that is a value (or an exception), then the rest -/
def O.val {σ τ : Type} (o : O σ) (k : D → σ → O τ) (e : Xn → σ → O τ) : O τ := match o with
  | .rt r s => k r s
  | .ex x s => e x s
  | _ => .no
section
variable (m : List Bm) (ro : Ro) (Γ T : Gm)
/-- the state at a block's end -/
def endB {τ : Type} (Γ' : Gm) (k : St (cnt m) → O τ) : O τ := match extG m (resG ro 0 Γ) Γ' with
  | some l => k (toSt (cnt m) l)
  | none => .no
def exB (x : Xn) (Γ' : Gm) : O (St (cnt m)) := endB m ro Γ Γ' fun s => .ex x s
def blkE (e : Me) : O (St (cnt m)) := if okD m ro Γ T then e (St (cnt m)) (roB ro Γ T) (entG m (resG ro 0 Γ)) (hidT T) (exB m ro Γ) fun Γ' T' => match T' with
  | .kd .v d :: T0 => if T0.all isRo then endB m ro Γ Γ' fun s => .rt d s else .no
  | _ => .no else .no
def blkQ (q : Mq) : O (St (cnt m)) := if okD m ro Γ T then q (St (cnt m)) (roB ro Γ T) (entG m (resG ro 0 Γ)) (hidT T) (exB m ro Γ) fun b Γ' T' => if T'.all isRo then endB m ro Γ Γ' fun s => .rt (.bl b) s else .no else .no
def curB (d : D) : O (St (cnt m)) := if okD m ro Γ T then endB m ro Γ (entG m (resG ro 0 Γ)) fun s => .rt d s else .no
/-- the names behind a block -/
def outB (s : St (cnt m)) : Gm := back m Γ (resG ro 0 Γ) (ofSt (cnt m) s)
end
def mIfE (m : List Bm) (q : Mq) (a b : Me) : Me := fun τ ro Γ T ex k => q τ ro Γ T ex fun c Γ1 T1 => (if c then blkE m ro Γ1 T1 a else blkE m ro Γ1 T1 b).val (fun d s => k (outB m ro Γ1 s) (.kd .v d :: T1)) fun x s => ex x (outB m ro Γ1 s)
def mAnd (m : List Bm) (a b : Mq) : Mq := fun τ ro Γ T ex k => a τ ro Γ T ex fun c Γ1 T1 => (if c then blkQ m ro Γ1 T1 b else curB m ro Γ1 T1 (.bl false)).val (fun d s => bindB (asB d) fun z => k z (outB m ro Γ1 s) T1) fun x s => ex x (outB m ro Γ1 s)
def mOr (m : List Bm) (a b : Mq) : Mq := fun τ ro Γ T ex k => a τ ro Γ T ex fun c Γ1 T1 => (if c then curB m ro Γ1 T1 (.bl true) else blkQ m ro Γ1 T1 b).val (fun d s => bindB (asB d) fun z => k z (outB m ro Γ1 s) T1) fun x s => ex x (outB m ro Γ1 s)
section
variable {K : PySem.W.Frag} {W : WX} {n : Ent} {F F1 H : Hp} {ro : Ro} {Γ T : Gm} {σ : L2.St} {ts : List V} {τ : Type} {G : O τ → Prop} {X : Cx} {pos : Pos} {m : List Bm}
theorem Rl.roT {t t' : Gm} {s : Gm} (R : Rl K n F ⟨s, t⟩ Γ [] σ [] H) : Rl K n F ⟨s, t'⟩ Γ [] σ [] H := by
  refine ⟨R.ls, R.lt, ?_⟩
  have e : entOf ⟨s, t'⟩ Γ [] = entOf ⟨s, t⟩ Γ [] := by
    funext x
    cases x with
    | s i => rfl
    | t i => rfl
  rw [e]
  exact R.S
theorem okD_nil (h : okD m ro Γ T = true) : okD m ro Γ [] = true := by
  unfold okD at h ⊢
  rw [Bool.and_eq_true] at h
  rw [h.1]; rfl
theorem endB_some {k : St (cnt m) → O τ} {Γ' : Gm} (no : ¬ G .no) (h : G (endB m ro Γ Γ' k)) : ∃ l, extG m (resG ro 0 Γ) Γ' = some l ∧ ofSt (cnt m) (toSt (cnt m) l) = l ∧ G (k (toSt (cnt m) l)) := by
  unfold endB at h
  split at h
  · rename_i l e
    exact ⟨l, e, ofSt_toSt _ _ (extG_back e).2.2.1, h⟩
  · exact (no h).elim
/-- an exception out of a block -/
theorem Wi.blk {ex : Xn → Gm → O τ} {K1 : D → St (cnt m) → O τ} (w : Wi K W G n F ro σ ex) (ok : okD m ro Γ T = true) : Wi K W (fun o : O (St (cnt m)) => G (o.val K1 fun x s => ex x (outB m ro Γ s))) n F (roB ro Γ T) σ (exB m ro Γ) :=
  ⟨w.no, fun x Γ' cls dO F' H' s R xo g => by
    obtain ⟨l, e1, e2, g⟩ := endB_some (G := fun o => G (o.val K1 fun x s => ex x (outB m ro Γ s))) w.no g
    have R2 := Rl.leave (T := []) rfl (okD_nil ok) e1 (Rl.roT (t := (roB ro Γ T).t) (t' := (roB ro Γ []).t) R)
    have g : G (ex x (outB m ro Γ (toSt (cnt m) l))) := g
    unfold outB at g
    rw [e2] at g
    exact w.xc x _ cls dO F' H' s R2 xo g⟩
theorem blkE_run {e : Me} {ex : Xn → Gm → O τ} {K1 : D → Gm → O τ} {Q : VK} (w : Wi K W G n F ro σ ex) (R : Rl K n F ro Γ T σ ts H) (g : G ((blkE m ro Γ T e).val (fun d s => K1 d (outB m ro Γ s)) fun x s => ex x (outB m ro Γ s)))
    (c : ∀ d Γ' v F' H', Same F F' → Rl K n F' ro Γ' (.kd .v d :: T) σ (v :: ts) H' → G (K1 d Γ') → Q v H') : tM K W e σ H Q := by
  unfold blkE at g
  split at g
  · rename_i ok
    refine ⟨St (cnt m), fun o => G (o.val (fun d s => K1 d (outB m ro Γ s)) fun x s => ex x (outB m ro Γ s)), n, F, roB ro Γ T, _, _, ts, _, _, w.blk ok, R.enter ok, g, fun Γ' s T' v F' H' e1 R1 g1 => ?_⟩
    simp only at g1
    split at g1
    · rename_i d T0 heq
      cases heq
      split at g1
      · rename_i hr
        obtain ⟨l, q1, q2, g2⟩ := endB_some (G := fun o => G (o.val (fun d s => K1 d (outB m ro Γ s)) fun x s => ex x (outB m ro Γ s))) w.no g1
        have g2 : G (K1 d (outB m ro Γ (toSt (cnt m) l))) := g2
        unfold outB at g2
        rw [q2] at g2
        have ht : T' = hidT T := hid_of hr (by have := R1.lt; have := R.lt; simp at *; omega)
        subst ht
        -- the value comes out with the block
        have R2 := Rl.leave R.lt ok q1 R1.pop
        obtain ⟨ft, S, q, hv⟩ := R1.top
        have q : EnOk K n F' H' _ _ _ _ (.kd .v d) := q
        obtain ⟨v', h1, h2⟩ := q
        rw [hv] at h1
        cases h1
        generalize ft _ = A at h2
        cases h2 with
        | v r => exact c d _ v F' H' e1 (R2.push r) g2
      · exact (w.no g1).elim
    · exact (w.no g1).elim
  · exact (w.no g).elim
theorem blkQ_run {q : Mq} {ex : Xn → Gm → O τ} {K1 : Bool → Gm → O τ} {Q : Bool → Hp → Prop} (w : Wi K W G n F ro σ ex) (R : Rl K n F ro Γ T σ ts H) (g : G ((blkQ m ro Γ T q).val (fun d s => bindB (asB d) fun z => K1 z (outB m ro Γ s)) fun x s => ex x (outB m ro Γ s)))
    (c : ∀ b Γ' F' H', Same F F' → Rl K n F' ro Γ' T σ ts H' → G (K1 b Γ') → Q b H') : tQ K W q σ H Q := by
  unfold blkQ at g
  split at g
  · rename_i ok
    refine ⟨St (cnt m), fun o => G (o.val (fun d s => bindB (asB d) fun z => K1 z (outB m ro Γ s)) fun x s => ex x (outB m ro Γ s)), n, F, roB ro Γ T, _, _, ts, _, _, w.blk ok, R.enter ok, g, fun b Γ' T' F' H' e1 R1 g1 => ?_⟩
    simp only at g1
    split at g1
    · rename_i hr
      obtain ⟨l, q1, q2, g2⟩ := endB_some (G := fun o => G (o.val (fun d s => bindB (asB d) fun z => K1 z (outB m ro Γ s)) fun x s => ex x (outB m ro Γ s))) w.no g1
      have g2 : G (K1 b (outB m ro Γ (toSt (cnt m) l))) := g2
      unfold outB at g2
      rw [q2] at g2
      have ht : T' = hidT T := hid_of hr (by have := R1.lt; have := R.lt; omega)
      subst ht
      exact c b _ F' H' e1 (Rl.leave R.lt ok q1 R1) g2
    · exact (w.no g1).elim
  · exact (w.no g).elim
theorem curB_run {d : D} {ex : Xn → Gm → O τ} {K1 : D → Gm → O τ} (no : ¬ G .no) (R : Rl K n F ro Γ T σ ts H) (g : G ((curB m ro Γ T d).val (fun d s => K1 d (outB m ro Γ s)) fun x s => ex x (outB m ro Γ s))) : ∃ Γ', Rl K n F ro Γ' T σ ts H ∧ G (K1 d Γ') := by
  unfold curB at g
  split at g
  · rename_i ok
    obtain ⟨l, q1, q2, g2⟩ := endB_some (G := fun o => G (o.val (fun d s => K1 d (outB m ro Γ s)) fun x s => ex x (outB m ro Γ s))) no g
    have g2 : G (K1 d (outB m ro Γ (toSt (cnt m) l))) := g2
    unfold outB at g2
    rw [q2] at g2
    exact ⟨_, Rl.leave R.lt ok q1 (R.enter ok), g2⟩
  · exact (no g).elim
variable {a b c t : Expr} {ma mb mc : Me} {qa qb : Mq} {rest : List Expr}
theorem gx_if (m : List Bm) (ht : PT X t (tQ X.K W qa)) (ha : PE X a (tM X.K W ma)) (hb : PE X b (tM X.K W mb)) : PE X (.IfExp t a b pos) (tM X.K W (mIfE m qa ma mb)) := pe_imp (pe_ifExp ht ha hb) fun σ H Q ⟨τ, G, n, F, ro, Γ, T, ts, ex, k, w, R, g, c⟩ =>
  ⟨τ, G, n, F, ro, Γ, T, ts, ex, _, w, R, g, fun x Γ1 T1 F1 H1 e1 R1 g1 => by
    cases x with
    | true => exact iteT (blkE_run (m := m) (K1 := fun d Γ' => k Γ' (.kd .v d :: T1)) (w.mono e1) R1 g1 fun d Γ' v F' H' e' R' g' => c Γ' _ T1 v F' H' (e1.trans e') R' g')
    | false => exact iteF (blkE_run (m := m) (K1 := fun d Γ' => k Γ' (.kd .v d :: T1)) (w.mono e1) R1 g1 fun d Γ' v F' H' e' R' g' => c Γ' _ T1 v F' H' (e1.trans e') R' g')⟩
theorem gw_and1 (ha : PT X a (tQ X.K W qa)) : PW X (.BoolOp .And [a] pos) (tQ X.K W qa) := pw_and1 ha
theorem gw_or1 (ha : PT X a (tQ X.K W qa)) : PW X (.BoolOp .Or [a] pos) (tQ X.K W qa) := pw_or1 ha
theorem gw_and (m : List Bm) (ha : PT X a (tQ X.K W qa)) (hb : PW X (.BoolOp .And (b :: rest) pos) (tQ X.K W qb)) : PW X (.BoolOp .And (a :: b :: rest) pos) (tQ X.K W (mAnd m qa qb)) := pw_imp (pw_and ha hb) fun σ H Q ⟨τ, G, n, F, ro, Γ, T, ts, ex, k, w, R, g, c⟩ =>
  ⟨τ, G, n, F, ro, Γ, T, ts, ex, _, w, R, g, fun x Γ1 T1 F1 H1 e1 R1 g1 => by
    cases x with
    | true => exact iteT (blkQ_run (m := m) (K1 := fun z Γ' => k z Γ' T1) (w.mono e1) R1 g1 fun d Γ' F' H' e' R' g' => c d Γ' T1 F' H' (e1.trans e') R' g')
    | false =>
      obtain ⟨Γ', R', g'⟩ := curB_run (K1 := fun d Γ' => bindB (asB d) fun z => k z Γ' T1) w.no R1 g1
      exact iteF (c false Γ' T1 F1 H1 e1 R' g')⟩
theorem gw_or (m : List Bm) (ha : PT X a (tQ X.K W qa)) (hb : PW X (.BoolOp .Or (b :: rest) pos) (tQ X.K W qb)) : PW X (.BoolOp .Or (a :: b :: rest) pos) (tQ X.K W (mOr m qa qb)) := pw_imp (pw_or ha hb) fun σ H Q ⟨τ, G, n, F, ro, Γ, T, ts, ex, k, w, R, g, c⟩ =>
  ⟨τ, G, n, F, ro, Γ, T, ts, ex, _, w, R, g, fun x Γ1 T1 F1 H1 e1 R1 g1 => by
    cases x with
    | false => exact iteF (blkQ_run (m := m) (K1 := fun z Γ' => k z Γ' T1) (w.mono e1) R1 g1 fun d Γ' F' H' e' R' g' => c d Γ' T1 F' H' (e1.trans e') R' g')
    | true =>
      obtain ⟨Γ', R', g'⟩ := curB_run (K1 := fun d Γ' => bindB (asB d) fun z => k z Γ' T1) w.no R1 g1
      exact iteT (c true Γ' T1 F1 H1 e1 R' g')⟩
theorem gq_w {e : Expr} (h : PW X e (tQ X.K W qa)) : PT X e (tQ X.K W qa) := h.pt
theorem asB_some {d : D} {b : Bool} (h : asB d = some b) : d = .bl b := by
  unfold asB at h
  split at h
  · cases h; rfl
  · cases h
theorem gx_one {op : BoolOp} (ha : PE X a (tM X.K W ma)) : PE X (.BoolOp op [a] pos) (tM X.K W (mB (mTst ma))) := pe_imp (pe_one ha) fun σ H Q ⟨τ, G, n, F, ro, Γ, T, ts, ex, k, w, R, g, c⟩ =>
  ⟨τ, G, n, F, ro, Γ, T, ts, ex, _, w, R, g, fun Γ1 s1 T1 x F1 H1 e1 R1 g1 => by
    obtain ⟨d, q1, g3⟩ := R1.rd w.no g1
    obtain ⟨b, hb, g4⟩ := bindB_some w.no g3
    cases asB_some hb
    cases q1
    exact c Γ1 _ T1 _ F1 H1 e1 (R1.pop.push (.bl _)) g4⟩
/-- a test's block, where the test is read as a value -/
theorem blkV_run {q : Mq} {ex : Xn → Gm → O τ} {K1 : Bool → Gm → O τ} {Q : VK} (w : Wi K W G n F ro σ ex) (R : Rl K n F ro Γ T σ ts H) (g : G ((blkQ m ro Γ T q).val (fun d s => bindB (asB d) fun z => K1 z (outB m ro Γ s)) fun x s => ex x (outB m ro Γ s)))
    (c : ∀ b Γ' F' H', Same F F' → Rl K n F' ro Γ' T σ ts H' → G (K1 b Γ') → Q (.bl b) H') : tM K W (mB q) σ H Q := by
  unfold blkQ at g
  split at g
  · rename_i ok
    refine ⟨St (cnt m), fun o => G (o.val (fun d s => bindB (asB d) fun z => K1 z (outB m ro Γ s)) fun x s => ex x (outB m ro Γ s)), n, F, roB ro Γ T, _, _, ts, _, (fun Γ' T' => match T' with
      | .kd _ d :: T0 => bindB (asB d) fun b => if T0.all isRo then endB m ro Γ Γ' fun s => .rt (.bl b) s else .no
      | _ => .no), w.blk ok, R.enter ok, g, fun Γ' s T' v F' H' e2 R2 g5 => ?_⟩
    simp only at g5
    split at g5
    · rename_i κ d T0 heq
      cases heq
      obtain ⟨bb, hbb, g6⟩ := bindB_some (G := fun o => G (o.val (fun d s => bindB (asB d) fun z => K1 z (outB m ro Γ s)) fun x s => ex x (outB m ro Γ s))) w.no g5
      split at g6
      · rename_i hr
        obtain ⟨l, r1, r2, g7⟩ := endB_some (G := fun o => G (o.val (fun d s => bindB (asB d) fun z => K1 z (outB m ro Γ s)) fun x s => ex x (outB m ro Γ s))) w.no g6
        have g7 : G (K1 bb (outB m ro Γ (toSt (cnt m) l))) := g7
        unfold outB at g7
        rw [r2] at g7
        have ht : T' = hidT T := hid_of hr (by have := R2.lt; have := R.lt; simp at *; omega)
        subst ht
        have R3 := Rl.leave R.lt ok r1 R2.pop
        obtain ⟨ft, S, q, hv⟩ := R2.top
        obtain ⟨v', h1, h2⟩ := q
        rw [hv] at h1
        cases h1
        cases asB_some hbb
        have rp := h2.rp S.sub
        cases rp
        exact c _ _ F' H' e2 R3 g7
      · exact (w.no g6).elim
    · exact (w.no g5).elim
  · exact (w.no g).elim
/-- and, or of truth values as values -/
theorem gx_and (m : List Bm) {qb : Mq} (ha : PE X a (tM X.K W ma)) (hb : PE X (.BoolOp .And (b :: rest) pos) (tM X.K W (mB qb))) : PE X (.BoolOp .And (a :: b :: rest) pos) (tM X.K W (mB (mAnd m (mTst ma) qb))) := pe_imp (pe_and ha hb) fun σ H Q ⟨τ, G, n, F, ro, Γ, T, ts, ex, k, w, R, g, c⟩ =>
  ⟨τ, G, n, F, ro, Γ, T, ts, ex, _, w, R, g, fun Γ1 s1 T1 x F1 H1 e1 R1 g1 => by
    obtain ⟨d, q1, g3⟩ := R1.rd w.no g1
    obtain ⟨x, hb, g4⟩ := bindB_some w.no g3
    cases asB_some hb
    cases q1
    refine ⟨_, rfl, ?_⟩
    cases x with
    | true => exact iteT (blkV_run (m := m) (K1 := fun z Γ' => k Γ' (.kd .v (.bl z) :: T1)) (w.mono e1) R1.pop g4 fun b Γ' F' H' e' R' g' => c Γ' _ T1 _ F' H' (e1.trans e') (R'.push (.bl _)) g')
    | false =>
      obtain ⟨Γ', R', g'⟩ := curB_run (K1 := fun d Γ' => bindB (asB d) fun z => k Γ' (.kd .v (.bl z) :: T1)) w.no R1.pop g4
      exact iteF (c Γ' _ T1 _ F1 H1 e1 (R'.push (.bl _)) g')⟩
theorem gx_or (m : List Bm) {qb : Mq} (ha : PE X a (tM X.K W ma)) (hb : PE X (.BoolOp .Or (b :: rest) pos) (tM X.K W (mB qb))) : PE X (.BoolOp .Or (a :: b :: rest) pos) (tM X.K W (mB (mOr m (mTst ma) qb))) := pe_imp (pe_or ha hb) fun σ H Q ⟨τ, G, n, F, ro, Γ, T, ts, ex, k, w, R, g, c⟩ =>
  ⟨τ, G, n, F, ro, Γ, T, ts, ex, _, w, R, g, fun Γ1 s1 T1 x F1 H1 e1 R1 g1 => by
    obtain ⟨d, q1, g3⟩ := R1.rd w.no g1
    obtain ⟨x, hb, g4⟩ := bindB_some w.no g3
    cases asB_some hb
    cases q1
    refine ⟨_, rfl, ?_⟩
    cases x with
    | false => exact iteF (blkV_run (m := m) (K1 := fun z Γ' => k Γ' (.kd .v (.bl z) :: T1)) (w.mono e1) R1.pop g4 fun b Γ' F' H' e' R' g' => c Γ' _ T1 _ F' H' (e1.trans e') (R'.push (.bl _)) g')
    | true =>
      obtain ⟨Γ', R', g'⟩ := curB_run (K1 := fun d Γ' => bindB (asB d) fun z => k Γ' (.kd .v (.bl z) :: T1)) w.no R1.pop g4
      exact iteT (c Γ' _ T1 _ F1 H1 e1 (R'.push (.bl _)) g')⟩
/-! ### a < b < c -/
def mChain (m : List Bm) (f g : D → D → Option Bool) (ma mb mc : Me) : Mq := fun τ ro Γ T ex k => ma τ ro Γ T ex fun Γ1 T1 => mb τ ro Γ1 T1 ex fun Γ2 T2 => match T2 with
  | b :: a :: T3 => rd ro Γ2 a fun d => rd ro Γ2 b fun e => bindB (f d e) fun c => (if c then blkE m ro Γ2 T2 mc else curB m ro Γ2 T2 .non).val (fun h s => rd ro (outB m ro Γ2 s) b fun e' => bindB (if c then g e' h else some false) fun y => k y (outB m ro Γ2 s) T3) fun x s => ex x (outB m ro Γ2 s)
  | _ => .no
theorem im_chain {f g'' : D → D → Option Bool} {QQ : VK} : ∀ σ H, (∃ (τ : Type) (G : O τ → Prop) (n : Ent) (F : Hp) (ro : Ro) (Γ T : Gm) (ts : List V) (ex : Xn → Gm → O τ) (k : Bool → Gm → Gm → O τ),
    Wi K W G n F ro σ ex ∧ Rl K n F ro Γ T σ ts H ∧ G (mChain m f g'' ma mb mc τ ro Γ T ex k) ∧ ∀ b Γ' T' F' H', Same F F' → Rl K n F' ro Γ' T' σ ts H' → G (k b Γ' T') → QQ (.bl b) H') → tChain (rC2 K f) (rC2 K g'') (tM K W ma) (tM K W mb) (tM K W mc) σ H QQ := fun σ H ⟨τ, G, n, F, ro, Γ, T, ts, ex, k, w, R, g, c⟩ =>
  ⟨τ, G, n, F, ro, Γ, T, ts, ex, _, w, R, g, fun Γ1 s1 T1 x F1 H1 e1 R1 g1 => ⟨τ, G, n, F1, ro, Γ1, s1 :: T1, x :: ts, ex, _, w.mono e1, R1, g1, fun Γ2 s2 T2 y F2 H2 e2 R2 g2 => by
    cases T2 with
    | nil => exact (w.no g2).elim
    | cons s1' T3 =>
      obtain ⟨d, q1, g3⟩ := (R2.pop).rd w.no g2
      obtain ⟨e, q2, g4⟩ := R2.rd w.no g3
      obtain ⟨b, hz, g5⟩ := bindB_some w.no g4
      refine ⟨H2, d, e, b, .refl _, .rp q1, .rp q2, hz, b, rfl, ?_⟩
      cases b with
      | false =>
        refine iteF ?_
        obtain ⟨Γ', R', g'⟩ := curB_run (K1 := fun h Γ' => rd ro Γ' s2 fun e' => bindB (if false then g'' e' h else some false) fun y => k y Γ' T3) w.no R2 g5
        obtain ⟨e2', q3, g6⟩ := R'.rd w.no g'
        exact c false Γ' T3 F2 H2 (e1.trans e2) R'.pop.pop g6
      | true =>
        refine iteT ?_
        refine blkE_run (m := m) (K1 := fun h Γ' => rd ro Γ' s2 fun e' => bindB (if true then g'' e' h else some false) fun y => k y Γ' T3) ((w.mono e1).mono e2) R2 g5 fun h Γ' v F' H' e' R' g' => ?_
        obtain ⟨e2', q3, g6⟩ := R'.pop.rd w.no g'
        obtain ⟨y', hy, g7⟩ := bindB_some w.no g6
        have q4 : Rp K H' v h := by
          obtain ⟨ft, S, q, hv⟩ := R'.top
          obtain ⟨v', h1, h2⟩ := q
          rw [hv] at h1
          cases h1
          exact h2.rp S.sub
        exact ⟨H', e2', h, y', .refl _, .rp q3, .rp q4, hy, c y' Γ' T3 F' H' (e1.trans (e2.trans e')) R'.pop.pop.pop g7⟩⟩⟩
theorem gx_chain (m : List Bm) {op op' : CmpOp} {f g : D → D → Option Bool} (ho : OpR X (compareOp op) (rC2 X.K f)) (ho' : OpR X (compareOp op') (rC2 X.K g)) (ha : PE X a (tM X.K W ma)) (hb : PE X b (tM X.K W mb)) (hc : PE X c (tM X.K W mc))
    (hm : lastMarks [op, op'] [b, c] = false := by with_unfolding_all rfl) : PE X (.Compare a [op, op'] [b, c] pos) (tM X.K W (mB (mChain m f g ma mb mc))) :=
  pe_imp (pe_chain ho ho' ha hb hc hm) fun σ H Q ⟨τ, G, n, F, ro, Γ, T, ts, ex, k, w, R, g, c⟩ => im_chain (m := m) σ H ⟨τ, G, n, F, ro, Γ, T, ts, ex, _, w, R, g, fun b Γ' T' F' H' e R' g' => c Γ' _ T' (.bl b) F' H' e (R'.push (.bl b)) g'⟩
theorem gq_chain (m : List Bm) {op op' : CmpOp} {f g : D → D → Option Bool} (ho : OpR X (compareOp op) (rC2 X.K f)) (ho' : OpR X (compareOp op') (rC2 X.K g)) (ha : PE X a (tM X.K W ma)) (hb : PE X b (tM X.K W mb)) (hc : PE X c (tM X.K W mc))
    (hm : lastMarks [op, op'] [b, c] = false := by with_unfolding_all rfl) : PT X (.Compare a [op, op'] [b, c] pos) (tQ X.K W (mChain m f g ma mb mc)) :=
  pt_imp (pt_chain ho ho' ha hb hc hm) fun σ H Q ⟨τ, G, n, F, ro, Γ, T, ts, ex, k, w, R, g, c⟩ => im_chain (m := m) (QQ := fun v H' => ∃ k, v = .bl k ∧ Q k H') σ H ⟨τ, G, n, F, ro, Γ, T, ts, ex, _, w, R, g, fun b Γ' T' F' H' e R' g' => ⟨b, rfl, c b Γ' T' F' H' e R' g'⟩⟩
end
end Fx

/-! G: statements. -/
namespace Fx
open PySem PySem.Spec PyProof.Rows L2
structure Ks (τ : Type) where
  nx : Gm → O τ
  bk : Gm → O τ
  ct : Gm → O τ
  rt : Gm → Sl → O τ
  ex : Xn → Gm → O τ
abbrev Ms := ∀ (τ : Type), Ro → Gm → Ks τ → O τ
structure Wk (K : PySem.W.Frag) (W : WX) {τ : Type} (G : O τ → Prop) (n : Ent) (F : Hp) (ro : Ro) (ks : Ks τ) (E : Ends) : Prop where
  no : ¬ G .no
  nx : ∀ Γ' σ' F' H', Same F F' → Rl K n F' ro Γ' [] σ' [] H' → G (ks.nx Γ') → E.nx σ' H'
  bk : ∀ Γ' σ' F' H', Same F F' → Rl K n F' ro Γ' [] σ' [] H' → G (ks.bk Γ') → E.bk σ' H'
  ct : ∀ Γ' σ' F' H', Same F F' → Rl K n F' ro Γ' [] σ' [] H' → G (ks.ct Γ') → E.ct σ' H'
  rt : ∀ Γ' s v σ' F' H', Same F F' → Rl K n F' ro Γ' [s] σ' [v] H' → G (ks.rt Γ' s) → E.rt v H'
  xc : ∀ x Γ' cls dO σ' F' H', Same F F' → Rl K n F' ro Γ' [] σ' [] H' → XOk K F' x cls dO → G (ks.ex x Γ') → W cls dO σ' H'
def tS (K : PySem.W.Frag) (W : WX) (m : Ms) : TS := fun E σ H => ∃ (τ : Type) (G : O τ → Prop) (n : Ent) (F : Hp) (ro : Ro) (Γ : Gm) (ks : Ks τ), Wk K W G n F ro ks E ∧ Rl K n F ro Γ [] σ [] H ∧ G (m τ ro Γ ks)
section
variable {K : PySem.W.Frag} {W : WX} {n : Ent} {F F1 H : Hp} {ro : Ro} {Γ T : Gm} {σ : L2.St} {ts : List V} {τ : Type} {G : O τ → Prop} {ks : Ks τ} {E : Ends}
theorem Wk.mono (w : Wk K W G n F ro ks E) (e : Same F F1) : Wk K W G n F1 ro ks E :=
  ⟨w.no, fun Γ' σ' F' H' s => w.nx Γ' σ' F' H' (e.trans s), fun Γ' σ' F' H' s => w.bk Γ' σ' F' H' (e.trans s), fun Γ' σ' F' H' s => w.ct Γ' σ' F' H' (e.trans s), fun Γ' s v σ' F' H' q => w.rt Γ' s v σ' F' H' (e.trans q), fun x Γ' cls dO σ' F' H' s => w.xc x Γ' cls dO σ' F' H' (e.trans s)⟩
theorem Wk.wi (w : Wk K W G n F ro ks E) : Wi K W G n F ro σ ks.ex := ⟨w.no, fun x Γ' cls dO F' H' s R xo g => w.xc x Γ' cls dO σ F' H' s R xo g⟩
theorem Rl.tnil (R : Rl K n F ro Γ T σ [] H) : T = [] := List.length_eq_zero_iff.mp R.lt
end
def mSq (a b : Ms) : Ms := fun τ ro Γ ks => a τ ro Γ { ks with nx := fun Γ1 => b τ ro Γ1 ks }
def mPass : Ms := fun _ _ Γ ks => ks.nx Γ
def mBk : Ms := fun _ _ Γ ks => ks.bk Γ
def mCt : Ms := fun _ _ Γ ks => ks.ct Γ
/-- at most one of both goes on -/
def mIfR (q : Mq) (a b : Ms) : Ms := fun τ ro Γ ks => q τ ro Γ [] ks.ex fun c Γ1 _ => if c then a τ ro Γ1 ks else b τ ro Γ1 ks
def mRet (e : Me) : Ms := fun τ ro Γ ks => e τ ro Γ [] ks.ex fun Γ1 T1 => match T1 with
  | s :: _ => ks.rt Γ1 s
  | _ => .no
def mRetN : Ms := fun _ _ Γ ks => ks.rt Γ (.kd .v .non)
def mDrop (e : Me) : Ms := fun τ ro Γ ks => e τ ro Γ [] ks.ex fun Γ1 _ => ks.nx Γ1
/-- every part of slot i is forgotten -/
def kS (i : Nat) (r s : Sl) : Sl := match r with
  | .al j _ _ => if j == i then .un else s
  | _ => s
def kG (i : Nat) (ro : Ro) : Nat → Gm → Gm
  | _, [] => []
  | o, s :: Γ => kS i (res ro o s) s :: kG i ro (o + 1) Γ
def isIo : Sl → Bool
  | .io _ _ => true
  | _ => false
def ofB (i : Nat) : Sl → Bool
  | .al j _ _ => j == i
  | _ => false
/-- slot i gets s -/
def setE {τ : Type} (ro : Ro) (i : Nat) (s : Sl) (Γ : Gm) (k : Gm → O τ) : O τ := if isRo (gg Γ i) || isIo (gg Γ i) || ofB i s then .no else match s with
  | .kd _ _ => k (gs (kG i ro 0 Γ) i s)
  | .al _ _ _ => k (gs (kG i ro 0 Γ) i s)
  | _ => .no
def mSet (i : Nat) (e : Me) : Ms := fun τ ro Γ ks => e τ ro Γ [] ks.ex fun Γ1 T1 => match T1 with
  | s :: _ => setE ro i s Γ1 ks.nx
  | _ => .no
section
variable {K : PySem.W.Frag} {W : WX} {n : Ent} {F F1 H : Hp} {ro : Ro} {Γ T : Gm} {σ : L2.St} {ts : List V} {τ : Type} {G : O τ → Prop} {ks : Ks τ} {E : Ends}
theorem kG_len {i : Nat} : ∀ (Γ : Gm) (o : Nat), (kG i ro o Γ).length = Γ.length
  | [], _ => rfl
  | _ :: Γ, o => by simp [kG, kG_len Γ (o + 1)]
theorem gg_kG {i : Nat} : ∀ (Γ : Gm) (o j : Nat), res ro (o + j) (gg (kG i ro o Γ) j) = (if ofB i (res ro (o + j) (gg Γ j)) then .un else res ro (o + j) (gg Γ j))
  | [], _, _ => by simp [kG, gg, res, ofB]
  | s :: Γ, o, 0 => by
    show res ro o (kS i (res ro o s) s) = if ofB i (res ro o s) then .un else res ro o s
    unfold kS
    cases e : res ro o s with
    | al j p q =>
      cases h : (j == i) with
      | true => simp [ofB, h, res]
      | false => simp [ofB, h, e]
    | _ => simp [ofB, e]
  | s :: Γ, o, j + 1 => by
    have q := gg_kG (i := i) Γ (o + 1) j
    rw [show o + 1 + j = o + (j + 1) by omega] at q
    exact q
theorem gr_kG (i j : Nat) : gr ro (kG i ro 0 Γ) j = if ofB i (gr ro Γ j) then .un else gr ro Γ j := by
  have q := gg_kG (ro := ro) (i := i) Γ 0 j
  rw [Nat.zero_add] at q
  exact q
theorem ofB_of {i : Nat} {s : Sl} : ofB i s = true ↔ s.of (.s i) := by
  cases s with
  | al j p o =>
    simp only [ofB, Sl.of, beq_iff_eq]
    exact ⟨fun h => by rw [h], fun h => (Ix.s.inj h).symm⟩
  | _ => exact ⟨(fun h => by cases h), fun h => h.elim⟩
/-- the parts of slot i are forgotten -/
theorem Rl.kill (R : Rl K n F ro Γ T σ ts H) (i : Nat) (hT : ∀ j, ¬ (tr ro T j).of (.s i)) : Rl K n F ro (kG i ro 0 Γ) T σ ts H := by
  refine ⟨by rw [kG_len]; exact R.ls, R.lt, R.S.wk (fun x => ?_) fun x j p o e => ⟨?_, rfl⟩⟩
  · cases x with
    | s j =>
      show (gr ro (kG i ro 0 Γ) j = _ ∧ _) ∨ gr ro (kG i ro 0 Γ) j = _ ∨ _
      rw [gr_kG]
      by_cases h : ofB i (gr ro Γ j) = true
      · rw [if_pos h]; exact .inr (.inl rfl)
      · rw [if_neg h]; exact .inl ⟨rfl, rfl⟩
    | t j => exact .inl ⟨rfl, rfl⟩
  · show gr ro (kG i ro 0 Γ) j = gr ro Γ j
    rw [gr_kG]
    by_cases h : ofB i (gr ro Γ j) = true
    · -- a part of a part is no name's
      obtain ⟨ft, S⟩ := R.S
      have e' : ∃ p o, entOf ro Γ T x = .al j p o := by
        cases x with
        | s z =>
          have e : gr ro (kG i ro 0 Γ) z = .al j p o := e
          rw [gr_kG] at e
          split at e
          · cases e
          · exact ⟨p, o, e⟩
        | t z => exact ⟨p, o, e⟩
      obtain ⟨p', o', e'⟩ := e'
      have q := S.en x
      rw [e'] at q
      obtain ⟨k, d, v, w, h1, _⟩ := q
      have h1 : (gr ro Γ j).own = some (k, d) := h1
      cases eg : gr ro Γ j <;> rw [eg] at h1 h <;> first | cases h1; done | cases h
    · rw [if_neg h]
/-- slot i gets what the one temporary holds -/
theorem Rl.assign {i : Nat} {s : Sl} {v : V} (R : Rl K n F ro Γ [s] σ [v] H) (hs : ofB i s = false) (hi : isRo (gg Γ i) = false) (hk : (∃ k d, s = .kd k d) ∨ ∃ j p o, s = .al j p o) : Rl K n F ro (gs (kG i ro 0 Γ) i s) [] (σ.set i (some v)) [] H := by
  have R1 := R.kill i fun j => by
    unfold tr
    rw [tb_cons]
    by_cases h : j = ([] : Gm).length
    · rw [if_pos h]
      rcases hk with ⟨k, d, rfl⟩ | ⟨j', p, o, rfl⟩
      · exact fun z => z
      · intro z
        have := ofB_of.mpr z
        rw [show rest' ro j (.al j' p o) = .al j' p o from rfl] at this
        rw [hs] at this; cases this
    · rw [if_neg h]
      exact fun z => z
  refine ⟨by rw [gs_len, List.length_set]; exact R1.ls, rfl, ?_⟩
  by_cases hl : i < Γ.length
  · have hl' : i < (kG i ro 0 Γ).length := by rw [kG_len]; exact hl
    have hσ : i < σ.length := by rw [← R.ls]; exact hl
    have noal : ∀ x, ¬ (entOf ro (kG i ro 0 Γ) [s] x).of (.s i) := fun x => by
      cases x with
      | s j =>
        show ¬ (gr ro (kG i ro 0 Γ) j).of (.s i)
        rw [gr_kG]
        by_cases h : ofB i (gr ro Γ j) = true
        · rw [if_pos h]; exact fun z => z
        · rw [if_neg h]; exact fun z => h (ofB_of.mpr z)
      | t j =>
        show ¬ (tr ro [s] j).of (.s i)
        unfold tr
        rw [tb_cons]
        by_cases h : j = ([] : Gm).length
        · rw [if_pos h]
          rcases hk with ⟨k, d, rfl⟩ | ⟨j', p, o, rfl⟩
          · exact fun z => z
          · intro z
            have := ofB_of.mpr z
            rw [show rest' ro j (.al j' p o) = .al j' p o from rfl] at this
            rw [hs] at this; cases this
        · rw [if_neg h]
          exact fun z => z
    have e0 : entOf ro (kG i ro 0 Γ) [s] (.t 0) = s := by
      show tr ro [s] 0 = s
      rcases hk with ⟨k, d, rfl⟩ | ⟨j', p, o, rfl⟩ <;> rfl
    have v0 : valOf σ [v] (.t 0) = some v := rfl
    have tgt : entOf ro (gs (kG i ro 0 Γ) i s) [] = fun z => if z = .s i then s else if z = .t 0 then .un else entOf ro (kG i ro 0 Γ) [s] z := by
      funext z
      cases z with
      | s j =>
        show gr ro (gs (kG i ro 0 Γ) i s) j = _
        by_cases h : j = i
        · subst h
          rw [if_pos rfl]
          unfold gr
          rw [gg_set, if_pos ⟨rfl, hl'⟩]
          rcases hk with ⟨k, d, rfl⟩ | ⟨j', p, o, rfl⟩ <;> rfl
        · have h' : ¬ (Ix.s j = Ix.s i) := fun e => h (Ix.s.inj e)
          rw [if_neg h', if_neg (by intro e; cases e)]
          unfold gr
          rw [gg_set, if_neg (fun q => h q.1)]
          rfl
      | t j =>
        have h' : ¬ (Ix.t j = Ix.s i) := fun e => by cases e
        rw [if_neg h']
        by_cases h : j = 0
        · subst h
          rw [if_pos rfl]; rfl
        · rw [if_neg (fun e => h (Ix.t.inj e))]
          show tr ro [] j = tr ro [s] j
          unfold tr
          rw [tb_cons, if_neg (by simpa using h)]
    have vgt : valOf (σ.set i (some v)) [] = fun z => if z = .s i then some v else if z = .t 0 then none else valOf σ [v] z := by
      funext z
      cases z with
      | s j =>
        show ((σ.set i (some v))[j]?).join = _
        by_cases h : j = i
        · subst h
          rw [if_pos rfl, List.getElem?_set_self hσ]; rfl
        · have h' : ¬ (Ix.s j = Ix.s i) := fun e => h (Ix.s.inj e)
          rw [if_neg h', if_neg (by intro e; cases e), List.getElem?_set_ne (Ne.symm h)]
          rfl
      | t j =>
        have h' : ¬ (Ix.t j = Ix.s i) := fun e => by cases e
        rw [if_neg h']
        by_cases h : j = 0
        · subst h
          rw [if_pos rfl]; rfl
        · rw [if_neg (fun e => h (Ix.t.inj e))]
          show none = (if j < 1 then _ else none)
          rw [if_neg (by omega)]
    rw [tgt, vgt]
    rcases hk with ⟨k, d, rfl⟩ | ⟨j', p, o, rfl⟩
    · have S := R1.S.mv (x := .t 0) (y := .s i) e0 (by intro e; cases e) fun z h1 h2 => ⟨noal z, Sl.not_of_t⟩
      refine S.wk (fun x => ?_) fun x j p o e => ?_
      · by_cases h1 : x = .s i
        · subst h1; exact .inl ⟨by simp, by simp [v0]⟩
        · by_cases h2 : x = .t 0
          · subst h2; exact .inr (.inl (by simp))
          · exact .inl ⟨by simp only [if_neg h1, if_neg h2], by simp only [if_neg h1, if_neg h2]⟩
      · by_cases h1 : (Ix.s j) = .s i
        · rw [h1]
          exact ⟨by simp, by simp [v0]⟩
        · exact ⟨by first | (simp only [if_neg h1]; done) | (simp only [if_neg h1]; simp), by first | (simp only [if_neg h1]; done) | (simp only [if_neg h1]; simp)⟩
    · obtain ⟨ft, S⟩ := R1.S
      have q := S.en (.t 0)
      rw [e0] at q
      obtain ⟨k, d, v1, w, h1, h2, h3, h4, h5, h6⟩ := q
      rw [v0] at h3
      cases h3
      have S := Sim.seta (y := .s i) ⟨ft, S⟩ h1 h2 h4 h5 h6 (by intro e; have := Ix.s.inj e; simp [ofB] at hs; exact hs this.symm) fun x _ => noal x
      refine S.wk (fun x => ?_) fun x j p o e => ?_
      · by_cases h1 : x = .s i
        · subst h1; exact .inl ⟨by simp, by simp⟩
        · by_cases h2 : x = .t 0
          · subst h2; exact .inr (.inl (by simp))
          · exact .inl ⟨by simp only [if_neg h1, if_neg h2], by simp only [if_neg h1, if_neg h2]⟩
      · by_cases h1 : (Ix.s j) = .s i
        · rw [h1]
          exact ⟨by simp, by simp⟩
        · exact ⟨by first | (simp only [if_neg h1]; done) | (simp only [if_neg h1]; simp), by first | (simp only [if_neg h1]; done) | (simp only [if_neg h1]; simp)⟩
  · have hl' : ¬ i < (kG i ro 0 Γ).length := by rw [kG_len]; exact hl
    have R2 := R1.pop
    have e1 : gs (kG i ro 0 Γ) i s = kG i ro 0 Γ := by
      have key : ∀ (L : Gm) (i : Nat), ¬ i < L.length → gs L i s = L := fun L => by
        induction L with
        | nil => intro i _; rfl
        | cons x r ih =>
          intro i h
          cases i with
          | zero => simp at h
          | succ i => simp only [gs, ih i (by simpa using h)]
      exact key _ _ hl'
    have e2 : σ.set i (some v) = σ := by
      rw [List.set_eq_of_length_le]
      rw [← R.ls]; omega
    rw [e1, e2]
    exact R2.S
theorem setE_ok {i : Nat} {s : Sl} {v : V} {k : Gm → O τ} (no : ¬ G .no) (R : Rl K n F ro Γ [s] σ [v] H) (g : G (setE ro i s Γ k)) : Rl K n F ro (gs (kG i ro 0 Γ) i s) [] (σ.set i (some v)) [] H ∧ G (k (gs (kG i ro 0 Γ) i s)) := by
  unfold setE at g
  split at g
  · exact (no g).elim
  · rename_i h
    simp only [Bool.or_eq_true, not_or, Bool.not_eq_true] at h
    split at g
    · exact ⟨R.assign h.2 h.1.1 (.inl ⟨_, _, rfl⟩), g⟩
    · exact ⟨R.assign h.2 h.1.1 (.inr ⟨_, _, _, rfl⟩), g⟩
    · exact (no g).elim
end
section
variable {X : Cx} {W : WX} {pos : Pos} {st : Stmt} {rest : List Stmt} {a b : Ms} {e : Expr} {me : Me} {q : Mq}
theorem ss_nil : PSs X [] (tS X.K W mPass) := pss_imp pss_nil fun E σ H ⟨τ, G, n, F, ro, Γ, ks, w, R, g⟩ => w.nx Γ σ F H (.refl _) R g
theorem ss_one (h : PS X st (tS X.K W a)) : PSs X [st] (tS X.K W a) := pss_one h
theorem ss_cons (h : PS X st (tS X.K W a)) (h2 : PSs X rest (tS X.K W b)) : PSs X (st :: rest) (tS X.K W (mSq a b)) := pss_imp (pss_cons h h2) fun E σ H ⟨τ, G, n, F, ro, Γ, ks, w, R, g⟩ =>
  ⟨τ, G, n, F, ro, Γ, { ks with nx := fun Γ1 => b τ ro Γ1 ks }, ⟨w.no, fun Γ' σ' F' H' s R' g' => ⟨τ, G, n, F', ro, Γ', ks, w.mono s, R', g'⟩, w.bk, w.ct, w.rt, w.xc⟩, R, g⟩
theorem sx_pass : PS X (.Pass pos) (tS X.K W mPass) := ps_imp ps_pass fun E σ H ⟨τ, G, n, F, ro, Γ, ks, w, R, g⟩ => w.nx Γ σ F H (.refl _) R g
theorem sx_bk : PS X (.Break pos) (tS X.K W mBk) := ps_imp ps_break fun E σ H ⟨τ, G, n, F, ro, Γ, ks, w, R, g⟩ => w.bk Γ σ F H (.refl _) R g
theorem sx_ct : PS X (.Continue pos) (tS X.K W mCt) := ps_imp ps_continue fun E σ H ⟨τ, G, n, F, ro, Γ, ks, w, R, g⟩ => w.ct Γ σ F H (.refl _) R g
theorem sx_ifR {c : Expr} {p r : List Stmt} (hc : PT X c (tQ X.K W q)) (ha : PSs X p (tS X.K W a)) (hb : PSs X r (tS X.K W b)) : PS X (.If c p r pos) (tS X.K W (mIfR q a b)) := ps_imp (ps_if hc ha hb) fun E σ H ⟨τ, G, n, F, ro, Γ, ks, w, R, g⟩ =>
  ⟨τ, G, n, F, ro, Γ, [], [], _, _, w.wi, R, g, fun x Γ1 T1 F1 H1 e1 R1 g1 => by
    cases R1.tnil
    cases x with
    | true => exact iteT ⟨τ, G, n, F1, ro, Γ1, ks, w.mono e1, R1, g1⟩
    | false => exact iteF ⟨τ, G, n, F1, ro, Γ1, ks, w.mono e1, R1, g1⟩⟩
theorem sx_ret (he : PE X e (tM X.K W me)) : PS X (.Return (some e) pos) (tS X.K W (mRet me)) := ps_imp (ps_ret he) fun E σ H ⟨τ, G, n, F, ro, Γ, ks, w, R, g⟩ =>
  ⟨τ, G, n, F, ro, Γ, [], [], _, _, w.wi, R, g, fun Γ1 s T1 v F1 H1 e1 R1 g1 => by
    cases R1.pop.tnil
    exact w.rt Γ1 s v σ F1 H1 e1 R1 g1⟩
theorem sx_retN : PS X (.Return none pos) (tS X.K W mRetN) := ps_imp ps_retN fun E σ H ⟨τ, G, n, F, ro, Γ, ks, w, R, g⟩ => w.rt Γ _ _ σ F H (.refl _) (R.push .non) g
theorem sx_expr (he : PE X e (tM X.K W me)) (hs : swapsWith e none pos.line X.env = pure false := by rfl) : PS X (.Expr e pos) (tS X.K W (mDrop me)) := ps_imp (ps_expr he hs) fun E σ H ⟨τ, G, n, F, ro, Γ, ks, w, R, g⟩ =>
  ⟨τ, G, n, F, ro, Γ, [], [], _, _, w.wi, R, g, fun Γ1 s T1 v F1 H1 e1 R1 g1 => by
    cases R1.pop.tnil
    exact w.nx Γ1 σ F1 H1 e1 R1.pop g1⟩
theorem sx_doc {x j pos pos'} : PS X (.Expr (.Constant (.str x) j pos) pos') (tS X.K W mPass) := ps_imp ps_doc fun E σ H ⟨τ, G, n, F, ro, Γ, ks, w, R, g⟩ => w.nx Γ σ F H (.refl _) R g
theorem sx_set {i : Nat} {x : Str} {pos' : Pos} (hN : X.N.Nodup) (hi : X.N[i]? = some x) (hx : Loc X.env.scope x) (he : PE X e (tM X.K W me)) (hs : swapsWith e (some (.Name x pos')) pos.line X.env = pure false := by rfl) (hf : X.fn x = true ∨ X.env.scope.names.lookup x = some .local := by first | exact .inl rfl | exact .inr rfl | assumption) :
    PS X (.Assign [.Name x pos'] e pos) (tS X.K W (mSet i me)) := ps_imp (ps_set hN hi hx he hs hf) fun E σ H ⟨τ, G, n, F, ro, Γ, ks, w, R, g⟩ =>
  ⟨τ, G, n, F, ro, Γ, [], [], _, _, w.wi, R, g, fun Γ1 s T1 v F1 H1 e1 R1 g1 => by
    cases R1.pop.tnil
    obtain ⟨R2, g2⟩ := setE_ok w.no R1 g1
    exact w.nx _ _ F1 H1 e1 R2 g2⟩
end
end Fx

/-! G: if with a common rest, targets, what is walked, loops. -/
namespace Fx
open PySem PySem.Spec PyProof.Rows L2
/-- an outcome, then the rest -/
def O.all {σ τ : Type} (o : O σ) (nx bk ct : σ → O τ) (rt : D → σ → O τ) (ex : Xn → σ → O τ) : O τ := match o with
  | .nx s => nx s
  | .bk s => bk s
  | .ct s => ct s
  | .rt r s => rt r s
  | .ex x s => ex x s
  | .no => .no
/-- .. of a loop, which is neither broken off nor goes on behind -/
def O.fin {σ τ : Type} (o : O σ) (nx : σ → O τ) (rt : D → σ → O τ) (ex : Xn → σ → O τ) : O τ := match o with
  | .nx s => nx s
  | .rt r s => rt r s
  | .ex x s => ex x s
  | _ => .no
/-- a turn's outcome, then the next turn -/
def O.lp {σ : Type} (o : O σ) (k : σ → O σ) : O σ := match o with
  | .nx s => k s
  | .ct s => k s
  | .bk s => .nx s
  | .rt r s => .rt r s
  | .ex x s => .ex x s
  | .no => .no
def loopF {σ : Type} (f : Nat → D → σ → O σ) : Nat → List D → σ → O σ
  | _, [], s => .nx s
  | i, d :: ds, s => (f i d s).lp fun s' => loopF f (i + 1) ds s'
def loopW {σ : Type} (f : σ → O σ) : Nat → σ → O σ
  | 0, _ => .no
  | n + 1, s => (f s).lp fun s' => loopW f n s'
section
variable (m : List Bm) (ro : Ro) (Γ : Gm)
def rtB (Γ' : Gm) (s : Sl) : O (St (cnt m)) := match s with
  | .kd .v d => endB m ro Γ Γ' fun s => .rt d s
  | _ => .no
def ksB : Ks (St (cnt m)) := ⟨fun Γ' => endB m ro Γ Γ' fun s => .nx s, fun Γ' => endB m ro Γ Γ' fun s => .bk s, fun Γ' => endB m ro Γ Γ' fun s => .ct s, rtB m ro Γ, exB m ro Γ⟩
def blkS (a : Ms) : O (St (cnt m)) := if okD m ro Γ [] then a (St (cnt m)) (roB ro Γ []) (entG m (resG ro 0 Γ)) (ksB m ro Γ) else .no
/-- the names at a turn's start -/
def inB (s : St (cnt m)) : Gm := entG m (back m (resG ro 0 Γ) (resG ro 0 Γ) (ofSt (cnt m) s))
end
def O.to {τ : Type} (m : List Bm) (ro : Ro) (Γ : Gm) (ks : Ks τ) (o : O (St (cnt m))) : O τ := o.all (fun s => ks.nx (outB m ro Γ s)) (fun s => ks.bk (outB m ro Γ s)) (fun s => ks.ct (outB m ro Γ s)) (fun r s => ks.rt (outB m ro Γ s) (.kd .v r)) fun x s => ks.ex x (outB m ro Γ s)
def O.tof {τ : Type} (m : List Bm) (ro : Ro) (Γ : Gm) (ks : Ks τ) (o : O (St (cnt m))) : O τ := o.fin (fun s => ks.nx (outB m ro Γ s)) (fun r s => ks.rt (outB m ro Γ s) (.kd .v r)) fun x s => ks.ex x (outB m ro Γ s)
def mIfJ (m : List Bm) (q : Mq) (a b : Ms) : Ms := fun τ ro Γ ks => q τ ro Γ [] ks.ex fun c Γ1 _ => O.to m ro Γ1 ks (if c then blkS m ro Γ1 a else blkS m ro Γ1 b)
/-- .. where no branch leaves a loop -/
def mIfF (m : List Bm) (q : Mq) (a b : Ms) : Ms := fun τ ro Γ ks => q τ ro Γ [] ks.ex fun c Γ1 _ => O.tof m ro Γ1 ks (if c then blkS m ro Γ1 a else blkS m ro Γ1 b)
section
variable {K : PySem.W.Frag} {W : WX} {n : Ent} {F F1 H : Hp} {ro : Ro} {Γ T : Gm} {σ : L2.St} {ts : List V} {τ : Type} {G : O τ → Prop} {ks : Ks τ} {E : Ends} {m : List Bm} {X : Cx} {pos : Pos}
/-- what a block's end is told -/
theorem Wk.blkG {C : O (St (cnt m)) → O τ} (w : Wk K W G n F ro ks E) (ok : okD m ro Γ [] = true) (c0 : C .no = .no) (c1 : ∀ s, G (C (.nx s)) → G (ks.nx (outB m ro Γ s))) (c2 : ∀ s, G (C (.bk s)) → G (ks.bk (outB m ro Γ s))) (c3 : ∀ s, G (C (.ct s)) → G (ks.ct (outB m ro Γ s))) (c4 : ∀ r s, G (C (.rt r s)) → G (ks.rt (outB m ro Γ s) (.kd .v r)))
    (c5 : ∀ x s, G (C (.ex x s)) → G (ks.ex x (outB m ro Γ s))) : Wk K W (fun o => G (C o)) n F (roB ro Γ []) (ksB m ro Γ) E := by
  have no : ¬ G (C .no) := by rw [c0]; exact w.no
  have lv : ∀ {Γ' : Gm} {l : List D} {σ' : L2.St} {F' H' : Hp}, extG m (resG ro 0 Γ) Γ' = some l → ofSt (cnt m) (toSt (cnt m) l) = l → Rl K n F' (roB ro Γ []) Γ' [] σ' [] H' → Rl K n F' ro (outB m ro Γ (toSt (cnt m) l)) [] σ' [] H' := fun e1 e2 R => by
    unfold outB
    rw [e2]
    exact Rl.leave (T := []) rfl ok e1 R
  refine ⟨no, fun Γ' σ' F' H' s R g => ?_, fun Γ' σ' F' H' s R g => ?_, fun Γ' σ' F' H' s R g => ?_, fun Γ' s v σ' F' H' q R g => ?_, fun x Γ' cls dO σ' F' H' s R xo g => ?_⟩
  · obtain ⟨l, e1, e2, g⟩ := endB_some (G := fun o => G (C o)) no g
    exact w.nx _ σ' F' H' s (lv e1 e2 R) (c1 _ g)
  · obtain ⟨l, e1, e2, g⟩ := endB_some (G := fun o => G (C o)) no g
    exact w.bk _ σ' F' H' s (lv e1 e2 R) (c2 _ g)
  · obtain ⟨l, e1, e2, g⟩ := endB_some (G := fun o => G (C o)) no g
    exact w.ct _ σ' F' H' s (lv e1 e2 R) (c3 _ g)
  · have g : G (C (rtB m ro Γ Γ' s)) := g
    cases s with
    | kd κ d =>
      cases κ with
      | v =>
        obtain ⟨l, e1, e2, g⟩ := endB_some (G := fun o => G (C o)) no g
        have R2 := lv e1 e2 R.pop
        obtain ⟨ft, S, q', hv⟩ := R.top
        have q' : EnOk K n F' H' _ _ _ _ (.kd .v d) := q'
        obtain ⟨v', h1, h2⟩ := q'
        rw [hv] at h1
        cases h1
        generalize ft _ = A at h2
        cases h2 with
        | v r => exact w.rt _ _ v σ' F' H' q (R2.push r) (c4 _ _ g)
      | _ => exact (no g).elim
    | _ => exact (no g).elim
  · obtain ⟨l, e1, e2, g⟩ := endB_some (G := fun o => G (C o)) no g
    exact w.xc x _ cls dO σ' F' H' s (lv e1 e2 R) xo (c5 _ _ g)
theorem Wk.blk (w : Wk K W G n F ro ks E) (ok : okD m ro Γ [] = true) : Wk K W (fun o => G (O.to m ro Γ ks o)) n F (roB ro Γ []) (ksB m ro Γ) E := w.blkG ok rfl (fun _ g => g) (fun _ g => g) (fun _ g => g) (fun _ _ g => g) fun _ _ g => g
theorem Wk.blkF (w : Wk K W G n F ro ks E) (ok : okD m ro Γ [] = true) : Wk K W (fun o => G (O.tof m ro Γ ks o)) n F (roB ro Γ []) (ksB m ro Γ) E := w.blkG ok rfl (fun _ g => g) (fun _ g => (w.no g).elim) (fun _ g => (w.no g).elim) (fun _ _ g => g) fun _ _ g => g
variable {q : Mq} {a b : Ms}
theorem sx_ifJ (m : List Bm) {c : Expr} {p r : List Stmt} (hc : PT X c (tQ X.K W q)) (ha : PSs X p (tS X.K W a)) (hb : PSs X r (tS X.K W b)) : PS X (.If c p r pos) (tS X.K W (mIfJ m q a b)) := ps_imp (ps_if hc ha hb) fun E σ H ⟨τ, G, n, F, ro, Γ, ks, w, R, g⟩ =>
  ⟨τ, G, n, F, ro, Γ, [], [], _, _, w.wi, R, g, fun x Γ1 T1 F1 H1 e1 R1 g1 => by
    cases R1.tnil
    have run : ∀ c : Ms, G (O.to m ro Γ1 ks (blkS m ro Γ1 c)) → tS X.K W c E σ H1 := fun c g1 => by
      unfold blkS at g1
      split at g1
      · rename_i ok
        exact ⟨St (cnt m), fun o => G (O.to m ro Γ1 ks o), n, F1, roB ro Γ1 [], _, _, (w.mono e1).blk ok, R1.enter ok, g1⟩
      · exact (w.no g1).elim
    cases x with
    | true => exact iteT (run a g1)
    | false => exact iteF (run b g1)⟩
theorem sx_ifF (m : List Bm) {c : Expr} {p r : List Stmt} (hc : PT X c (tQ X.K W q)) (ha : PSs X p (tS X.K W a)) (hb : PSs X r (tS X.K W b)) : PS X (.If c p r pos) (tS X.K W (mIfF m q a b)) := ps_imp (ps_if hc ha hb) fun E σ H ⟨τ, G, n, F, ro, Γ, ks, w, R, g⟩ =>
  ⟨τ, G, n, F, ro, Γ, [], [], _, _, w.wi, R, g, fun x Γ1 T1 F1 H1 e1 R1 g1 => by
    cases R1.tnil
    have run : ∀ c : Ms, G (O.tof m ro Γ1 ks (blkS m ro Γ1 c)) → tS X.K W c E σ H1 := fun c g1 => by
      unfold blkS at g1
      split at g1
      · rename_i ok
        exact ⟨St (cnt m), fun o => G (O.tof m ro Γ1 ks o), n, F1, roB ro Γ1 [], _, _, (w.mono e1).blkF ok, R1.enter ok, g1⟩
      · exact (w.no g1).elim
    cases x with
    | true => exact iteT (run a g1)
    | false => exact iteF (run b g1)⟩

/-! ### targets -/
abbrev Mg := ∀ (τ : Type), D → Ro → Gm → (Gm → O τ) → O τ
abbrev MgL := ∀ (τ : Type), List D → Ro → Gm → (Gm → O τ) → O τ
def tG (K : PySem.W.Frag) (g : Mg) : TG := fun v σ H Q => ∃ (τ : Type) (G : O τ → Prop) (n : Ent) (F : Hp) (ro : Ro) (Γ : Gm) (d : D) (k : Gm → O τ), ¬ G .no ∧ Rl K n F ro Γ [] σ [] H ∧ Rp K F v d ∧ G (g τ d ro Γ k) ∧ ∀ Γ' σ', Rl K n F ro Γ' [] σ' [] H → G (k Γ') → Q σ' H
def tGL (K : PySem.W.Frag) (g : MgL) : TGs := fun vs σ H Q => ∃ (τ : Type) (G : O τ → Prop) (n : Ent) (F : Hp) (ro : Ro) (Γ : Gm) (ds : List D) (k : Gm → O τ), ¬ G .no ∧ Rl K n F ro Γ [] σ [] H ∧ RpL K F vs ds ∧ G (g τ ds ro Γ k) ∧ ∀ Γ' σ', Rl K n F ro Γ' [] σ' [] H → G (k Γ') → Q σ' H
def gN (i : Nat) : Mg := fun _ d ro Γ k => setE ro i (.kd .v d) Γ k
def gN0 : MgL := fun _ ds _ Γ k => match ds with
  | [] => k Γ
  | _ => .no
def gNC (g : Mg) (r : MgL) : MgL := fun τ ds ro Γ k => match ds with
  | d :: ds => g τ d ro Γ fun Γ1 => r τ ds ro Γ1 k
  | [] => .no
/-- the n parts -/
def unpk (n : Nat) : D → Option (List D)
  | .tup ds => if ds.length = n then some ds else none
  | .lst ds => if ds.length = n then some ds else none
  | _ => none
/-- n parts as n trees -/
def bindU {τ : Type} : (n : Nat) → List D → (List D → O τ) → O τ
  | 0, _, k => k []
  | n + 1, ds, k => bindU n ds.tail fun r => k (ds.headD .non :: r)
def gT (n : Nat) (g : MgL) : Mg := fun τ d ro Γ k => bindL (unpk n d) fun ds => bindU n ds fun es => g τ es ro Γ k
theorem bindU_ok {n : Nat} : ∀ {ds : List D} {k : List D → O τ}, ds.length = n → bindU n ds k = k ds := by
  induction n with
  | zero => intro ds k h; rw [List.length_eq_zero_iff.mp h]; rfl
  | succ n ih =>
    intro ds k h
    cases ds with
    | nil => cases h
    | cons d r =>
      show bindU n r _ = _
      rw [ih (by simpa using h)]
      rfl
theorem pg_imp {X : Cx} {e : Expr} {t t' : TG} (h : PG X e t) (i : ∀ v σ H Q, t' v σ H Q → t v σ H Q) : PG X e t' := ⟨fun pins s σ H v u Q I r q => h.run pins s σ H v u Q I r (i _ _ _ _ q)⟩
theorem pgs_imp {X : Cx} {e : List Expr} {t t' : TGs} (h : PGs X e t) (i : ∀ v σ H Q, t' v σ H Q → t v σ H Q) : PGs X e t' := ⟨fun pins s σ H v u Q I r q => h.run pins s σ H v u Q I r (i _ _ _ _ q)⟩
theorem gg_name {i : Nat} {x : Str} (hN : X.N.Nodup) (hi : X.N[i]? = some x) (hx : Loc X.env.scope x) (hf : X.fn x = true ∨ X.env.scope.names.lookup x = some .local := by first | exact .inl rfl | exact .inr rfl | assumption) : PG X (.Name x pos) (tG X.K (gN i)) :=
  pg_imp (pg_name hN hi hx hf) fun v σ H Q ⟨τ, G, n, F, ro, Γ, d, k, no, R, r, g, c⟩ => by
    obtain ⟨R2, g2⟩ := setE_ok no (R.push r) g
    exact c _ _ R2 g2
theorem ggs_nil : PGs X [] (tGL X.K gN0) := pgs_imp pgs_nil fun v σ H Q ⟨τ, G, n, F, ro, Γ, ds, k, no, R, r, g, c⟩ => by
  cases ds with
  | nil => cases r; exact ⟨rfl, c _ _ R g⟩
  | cons d ds => exact (no g).elim
theorem ggs_cons {e : Expr} {es : List Expr} {g : Mg} {r : MgL} (h1 : PG X e (tG X.K g)) (h2 : PGs X es (tGL X.K r))
    (hs : (assignEach (e :: es) X.env).map (·.2) = assign e X.env :: (assignEach es X.env).map (·.2) := by rfl) : PGs X (e :: es) (tGL X.K (gNC g r)) := pgs_imp (pgs_cons h1 h2 hs) fun v σ H Q ⟨τ, G, n, F, ro, Γ, ds, k, no, R, rr, gg', c⟩ => by
  cases rr with
  | nil => exact (no gg').elim
  | @cons v vs d ds r1 r2 => exact ⟨v, vs, rfl, τ, G, n, F, ro, Γ, d, _, no, R, r1, gg', fun Γ1 σ1 R1 g1 => ⟨τ, G, n, F, ro, Γ1, ds, k, no, R1, r2, g1, c⟩⟩
theorem pg_alt {e : Expr} {t t' : TG} (h : PG X e t) (h' : PG X e t') : PG X e (fun v σ H Q => t v σ H Q ∨ t' v σ H Q) := ⟨fun pins s σ H v u Q I r q => q.elim (h.run pins s σ H v u Q I r) (h'.run pins s σ H v u Q I r)⟩
theorem gg_tup {es : List Expr} {k : Nat} {g : MgL} {n : Nat} (hc : X.calm = true) (h : PGs X es (tGL X.K g))
    (hn : (assignEach es X.env).length = n := by rfl) (hst : (assignEach es X.env).findIdx? (·.1) = none := by rfl) : PG X (.Tuple es k pos) (tG X.K (gT n g)) :=
  pg_imp (pg_alt (pg_tup (n := n) hc h hn hst) (pg_lst (n := n) hc h hn hst)) fun v σ H Q ⟨τ, G, n', F, ro, Γ, d, kk, no, R, r, gg', c⟩ => by
    obtain ⟨ds, hd, g1⟩ := bindL_some no gg'
    unfold unpk at hd
    split at hd
    · split at hd
      · rename_i hl
        cases hd
        rw [bindU_ok hl] at g1
        cases r with
        | tup a t => exact .inl ⟨_, _, rfl, SqT.of (R.sub.at a rfl), by rw [t.length]; exact hl, τ, G, n', F, ro, Γ, _, kk, no, R, t, g1, c⟩
      · cases hd
    · split at hd
      · rename_i hl
        cases hd
        rw [bindU_ok hl] at g1
        cases r with
        | lst a t => exact .inr ⟨_, _, rfl, R.sub.seq a, by rw [t.length]; exact hl, τ, G, n', F, ro, Γ, _, kk, no, R, t, g1, c⟩
      · cases hd
    · cases hd
/-- target = value -/
def mAsg (g : Mg) (e : Me) : Ms := fun τ ro Γ ks => e τ ro Γ [] ks.ex fun Γ1 T1 => match T1 with
  | .kd .v d :: _ => g τ d ro Γ1 ks.nx
  | _ => .no
theorem Rl.topV {v : V} {d : D} (R : Rl K n F ro Γ (.kd .v d :: T) σ (v :: ts) H) : Rp K F v d := by
  obtain ⟨ft, S, q, hv⟩ := R.top
  have q : EnOk K n F H _ _ _ _ (.kd .v d) := q
  obtain ⟨v', h1, h2⟩ := q
  rw [hv] at h1
  cases h1
  generalize ft _ = A at h2
  cases h2 with
  | v r => exact r
theorem sx_asg {tg e : Expr} {g : Mg} {me : Me} (he : PE X e (tM X.K W me)) (hg : PG X tg (tG X.K g)) (hs : swapsWithSole [tg] e pos.line X.env = pure false := by rfl) (hw : swappedStores [tg] e X.env = pure none := by rfl)
    (h1 : (assignEach [tg] X.env).map (·.2) = [assign tg X.env] := by rfl) : PS X (.Assign [tg] e pos) (tS X.K W (mAsg g me)) := ps_imp (ps_asg he hg hs hw h1) fun E σ H ⟨τ, G, n, F, ro, Γ, ks, w, R, gg'⟩ =>
  ⟨τ, G, n, F, ro, Γ, [], [], _, _, w.wi, R, gg', fun Γ1 s T1 v F1 H1 e1 R1 g1 => by
    cases R1.pop.tnil
    cases s with
    | kd κ d =>
      cases κ with
      | v => exact ⟨τ, G, n, F1, ro, Γ1, d, _, w.no, R1.pop, R1.topV, g1, fun Γ' σ' R' g' => w.nx _ _ F1 H1 e1 R' g'⟩
      | _ => exact (w.no g1).elim
    | _ => exact (w.no g1).elim⟩

/-! ### what is walked -/
abbrev Mi := ∀ (τ : Type), Ro → Gm → Gm → (Xn → Gm → O τ) → (List D → Gm → Gm → O τ) → O τ
/-- J yields the trees ds, one a turn; what it makes is new -/
def Walk (K : PySem.W.Frag) (J : It) (F : Hp) (ds : List D) : Prop := ∀ (i : Nat) (F1 H1 : Hp), Same F F1 → Lk F1 H1 →
  (∀ d, ds[i]? = some d → J.go i H1 ∧ ∀ x H2, J.yld i H1 x H2 → ∃ F2, Grow F1 H1 F2 H2 ∧ Rp K F2 x d) ∧ (ds.length ≤ i → J.stop i H1)
def tI (K : PySem.W.Frag) (W : WX) (m : Mi) : TI := fun σ H Q => ∃ (τ : Type) (G : O τ → Prop) (n : Ent) (F : Hp) (ro : Ro) (Γ T : Gm) (ts : List V) (ex : Xn → Gm → O τ) (k : List D → Gm → Gm → O τ),
  Wi K W G n F ro σ ex ∧ Rl K n F ro Γ T σ ts H ∧ G (m τ ro Γ T ex k) ∧ ∀ ds Γ' T' J F' H', Same F F' → Rl K n F' ro Γ' T' σ ts H' → Walk K J F' ds → G (k ds Γ' T') → Q J H'
theorem pi_imp {X : Cx} {tg e : Expr} {t t' : TI} (h : PI X tg e t) (i : ∀ σ H R, t' σ H R → t σ H R) : PI X tg e t' := ⟨fun pins s σ H R I q => h.run pins s σ H R I (i _ _ _ q)⟩
theorem pi_alt {X : Cx} {tg e : Expr} {t t' : TI} (h : PI X tg e t) (h' : PI X tg e t') : PI X tg e (fun σ H R => t σ H R ∨ t' σ H R) := ⟨fun pins s σ H R I q => q.elim (h.run pins s σ H R I) (h'.run pins s σ H R I)⟩
def itL : D → Option (List D)
  | .lst ds => some ds
  | _ => none
def itT : D → Option (List D)
  | .tup ds => some ds
  | _ => none
def itS : D → Option (List D)
  | .str x => some (chrs x)
  | _ => none
def mIt (f : D → Option (List D)) (e : Me) : Mi := fun τ ro Γ T ex k => e τ ro Γ T ex fun Γ1 T1 => match T1 with
  | .kd .v d :: T0 => bindL (f d) fun ds => k ds Γ1 T0
  | _ => .no
section
variable {tg e : Expr} {me mr : Me}
theorem walk_list {F : Hp} {a : Addr} {xs : List V} {ds : List D} (h : SqL K F a xs) (t : RpL K F xs ds) : Walk K (Itl K a) F ds := fun i F1 H1 s1 s2 => by
  have hq := s2.seq (s1.seq h)
  refine ⟨fun d hd => ?_, fun hl => ⟨xs, hq, by rw [t.length]; exact hl⟩⟩
  obtain ⟨v, h1, h2⟩ := t.get hd
  refine ⟨⟨xs, v, hq, h1⟩, fun x H2 y => ?_⟩
  obtain ⟨rfl, y⟩ := y
  have e := (y xs hq).symm.trans h1
  cases e
  exact ⟨F1, Grow.refl s2, h2.mono s1⟩
theorem gi_list (h : PE X e (tM X.K W me)) : PI X tg e (tI X.K W (mIt itL me)) := pi_imp (pi_list h) fun σ H Q ⟨τ, G, n, F, ro, Γ, T, ts, ex, k, w, R, g, c⟩ =>
  ⟨τ, G, n, F, ro, Γ, T, ts, ex, _, w, R, g, fun Γ1 s T1 v F1 H1 e1 R1 g1 => by
    cases s with
    | kd κ d =>
      cases κ with
      | v =>
        obtain ⟨ds, hd, g2⟩ := bindL_some w.no g1
        have r := R1.topV
        unfold itL at hd
        split at hd
        · cases hd
          cases r with
          | lst a t => exact ⟨_, rfl, ⟨_, R1.sub.seq a⟩, c _ _ _ _ F1 H1 e1 R1.pop (walk_list a t) g2⟩
        · cases hd
      | _ => exact (w.no g1).elim
    | _ => exact (w.no g1).elim⟩
theorem gi_tup (h : PE X e (tM X.K W me)) : PI X tg e (tI X.K W (mIt itT me)) := pi_imp (pi_tup h) fun σ H Q ⟨τ, G, n, F, ro, Γ, T, ts, ex, k, w, R, g, c⟩ =>
  ⟨τ, G, n, F, ro, Γ, T, ts, ex, _, w, R, g, fun Γ1 s T1 v F1 H1 e1 R1 g1 => by
    cases s with
    | kd κ d =>
      cases κ with
      | v =>
        obtain ⟨ds, hd, g2⟩ := bindL_some w.no g1
        have r := R1.topV
        unfold itT at hd
        split at hd
        · cases hd
          cases r with
          | tup a t =>
            refine ⟨_, rfl, ⟨_, SqT.of (R1.sub.at a rfl)⟩, c _ _ _ _ F1 H1 e1 R1.pop (fun i F2 H2 s3 s4 => ?_) g2⟩
            have hq := SqT.of (K := X.K) (s4.at (s3 _ _ a) rfl)
            refine ⟨fun d hd => ?_, fun hl => ⟨_, hq, by rw [t.length]; exact hl⟩⟩
            obtain ⟨v, k1, k2⟩ := t.get hd
            refine ⟨⟨_, v, hq, k1⟩, fun x H3 y => ?_⟩
            obtain ⟨rfl, y⟩ := y
            have e := (y _ hq).symm.trans k1
            cases e
            exact ⟨F2, Grow.refl s4, k2.mono s3⟩
        · cases hd
      | _ => exact (w.no g1).elim
    | _ => exact (w.no g1).elim⟩
theorem gi_str (h : PE X e (tM X.K W me)) : PI X tg e (tI X.K W (mIt itS me)) := pi_imp (pi_str h) fun σ H Q ⟨τ, G, n, F, ro, Γ, T, ts, ex, k, w, R, g, c⟩ =>
  ⟨τ, G, n, F, ro, Γ, T, ts, ex, _, w, R, g, fun Γ1 s T1 v F1 H1 e1 R1 g1 => by
    cases s with
    | kd κ d =>
      cases κ with
      | v =>
        obtain ⟨ds, hd, g2⟩ := bindL_some w.no g1
        have r := R1.topV
        unfold itS at hd
        split at hd
        · rename_i z
          cases hd
          cases r with
          | str a =>
            refine ⟨_, rfl, c _ _ _ _ F1 H1 e1 R1.pop (fun i F2 H2 s3 s4 => ⟨fun d hd => ?_, fun hl => ?_⟩) g2⟩
            · unfold chrs at hd
              rw [List.getElem?_map] at hd
              cases ec : z.cps.toList[i]? with
              | none => rw [ec] at hd; cases hd
              | some c =>
                rw [ec] at hd
                cases hd
                have hi : i < z.cps.toList.length := (List.getElem?_eq_some_iff.mp ec).1
                refine ⟨(by show i < z.cps.size; simpa using hi), fun x H3 y => ?_⟩
                obtain ⟨rfl, c', h1, rfl⟩ := y
                have : z.cps.toList[i]? = some c' := by simpa using h1
                rw [ec] at this
                cases this
                exact ⟨F2, Grow.refl s4, .str _⟩
            · unfold chrs at hl
              rw [List.length_map] at hl
              show z.cps.size ≤ i
              simpa using hl
        · cases hd
      | _ => exact (w.no g1).elim
    | _ => exact (w.no g1).elim⟩
def rg1 : List D → Option (List D)
  | [.int b] => if small62 b then some (rngL 0 b) else none
  | _ => none
def rg2 : List D → Option (List D)
  | [.int a, .int b] => if small62 a && small62 b then some (rngL a b) else none
  | _ => none
def mRg (N : Nat) (f : List D → Option (List D)) (mr : Me) : Mi := fun τ ro Γ T ex k => mr τ ro Γ T ex fun Γ1 T1 => rdN ro Γ1 N T1 fun ds T0 => bindL (f ds) fun xs => k xs Γ1 T0
theorem walk_range {F : Hp} {lo : Int} {n : Nat} : Walk K (Itr lo n) F ((List.range n).map fun (i : Nat) => D.int (lo + (i : Int))) := fun i F1 H1 s3 s4 => by
  refine ⟨fun d hd => ?_, fun hl => by rw [List.length_map, List.length_range] at hl; exact hl⟩
  rw [List.getElem?_map] at hd
  by_cases hi : i < n
  · rw [List.getElem?_range hi] at hd
    cases hd
    exact ⟨hi, fun x H2 y => by obtain ⟨rfl, rfl⟩ := y; exact ⟨F1, Grow.refl s4, .int _⟩⟩
  · rw [List.getElem?_eq_none (by rw [List.length_range]; omega)] at hd
    cases hd
theorem gi_range1 {p : Pos} {a : Expr} (hg : Gl X "range") (hm : X.mg "range" = none) (ha : PA X [a] (tA X.K W 1 mr)) (hs : starEach [a] X.env = [(false, eval a X.env)] := by rfl) : PI X tg (.Call (.Name "range" p) [a] [] pos) (tI X.K W (mRg 1 rg1 mr)) :=
  pi_imp (pi_range1 hg hm ha hs) fun σ H Q ⟨τ, G, n, F, ro, Γ, T, ts, ex, k, w, R, g, c⟩ => ⟨τ, G, n, F, ro, Γ, T, ts, ex, _, w, R, g, fun Γ1 T1 vs F1 H1 e1 hl R1 g1 => by
    obtain ⟨ds, T0, h1, h2, g2⟩ := rdN_ok w.no hl R1 g1
    obtain ⟨xs, hx, g3⟩ := bindL_some w.no g2
    unfold rg1 at hx
    split at hx
    · split at hx
      · rename_i b hb
        cases hx
        obtain ⟨v, rfl, q1⟩ := (rqL_of h1).one
        cases q1.int
        have hb := small62_in hb
        refine ⟨b, rfl, hb.1, hb.2, c _ _ _ _ F1 H1 e1 h2 ?_ g3⟩
        have wk := walk_range (K := X.K) (F := F1) (lo := 0) (n := b.toNat)
        unfold rngL
        rw [Int.sub_zero]
        exact wk
      · cases hx
    · cases hx⟩
theorem gi_range2 {p : Pos} {a b : Expr} (hg : Gl X "range") (hm : X.mg "range" = none) (ha : PA X [a, b] (tA X.K W 2 mr)) (hs : starEach [a, b] X.env = [(false, eval a X.env), (false, eval b X.env)] := by rfl) (hs2 : starEach [b] X.env = [(false, eval b X.env)] := by rfl) : PI X tg (.Call (.Name "range" p) [a, b] [] pos) (tI X.K W (mRg 2 rg2 mr)) :=
  pi_imp (pi_range2 hg hm ha hs hs2) fun σ H Q ⟨τ, G, n, F, ro, Γ, T, ts, ex, k, w, R, g, c⟩ => ⟨τ, G, n, F, ro, Γ, T, ts, ex, _, w, R, g, fun Γ1 T1 vs F1 H1 e1 hl R1 g1 => by
    obtain ⟨ds, T0, h1, h2, g2⟩ := rdN_ok w.no hl R1 g1
    obtain ⟨xs, hx, g3⟩ := bindL_some w.no g2
    unfold rg2 at hx
    split at hx
    · split at hx
      · rename_i a b hb
        cases hx
        obtain ⟨v, u, rfl, q1, q2⟩ := (rqL_of h1).two
        cases q1.int
        cases q2.int
        rw [Bool.and_eq_true] at hb
        have ha := small62_in hb.1
        have hb := small62_in hb.2
        exact ⟨a, b, rfl, ⟨ha.1, ha.2, hb.1, hb.2⟩, c _ _ _ _ F1 H1 e1 h2 walk_range g3⟩
      · cases hx
    · cases hx⟩
end
end
end Fx

/-! G: enumerate, zip, for, while. -/
namespace Fx
open PySem PySem.Spec PyProof.Rows L2
/-- n temporaries that stay -/
def fzN {τ : Type} : Nat → Gm → (List D → Gm → O τ) → O τ
  | 0, T, k => k [] T
  | n + 1, .kd .v d :: T, k => fzN n T fun ds T0 => k (ds ++ [d]) T0
  | _ + 1, _, _ => .no
def enumD : List D → Option (List D)
  | [.lst ds] => some (ds.zipIdx.map fun p => pairD (.int p.2) p.1)
  | _ => none
def zipD : List D → Option (List D)
  | [.lst ds, .lst es] => some (List.zipWith pairD ds es)
  | _ => none
def mItN (N : Nat) (f : List D → Option (List D)) (mr : Me) : Mi := fun τ ro Γ T ex k => mr τ ro Γ T ex fun Γ1 T1 => fzN N T1 fun ds T0 => bindL (f ds) fun xs => k xs Γ1 T0
section
variable {K : PySem.W.Frag} {W : WX} {n : Ent} {F F1 H : Hp} {ro : Ro} {Γ T : Gm} {σ : L2.St} {ts : List V} {τ : Type} {G : O τ → Prop} {ks : Ks τ} {E : Ends} {m : List Bm} {X : Cx} {pos : Pos} {mr : Me}
theorem fzN_ok (no : ¬ G .no) : ∀ {N : Nat} {T : Gm} {vs : List V} {k : List D → Gm → O τ}, vs.length = N → Rl K n F ro Γ T σ (vs.reverse ++ ts) H → G (fzN N T k) → ∃ ds T0, RpL K F vs ds ∧ Rl K n F ro Γ T0 σ ts H ∧ G (k ds T0)
  | 0, T, vs, k, hl, R, g => by
    obtain rfl : vs = [] := List.length_eq_zero_iff.mp hl
    exact ⟨[], T, .nil, R, g⟩
  | N + 1, [], vs, k, hl, R, g => (no g).elim
  | N + 1, s :: T, vs, k, hl, R, g => by
    obtain ⟨us, v, rfl, hl2⟩ := rev_ind hl
    rw [List.reverse_append] at R
    have R : Rl K n F ro Γ (s :: T) σ (v :: (us.reverse ++ ts)) H := R
    cases s with
    | kd κ d =>
      cases κ with
      | v =>
        have g : G (fzN N T fun ds T0 => k (ds ++ [d]) T0) := g
        obtain ⟨ds, T0, h1, h2, g1⟩ := fzN_ok no hl2 R.pop g
        exact ⟨ds ++ [d], T0, h1.append (.cons R.topV .nil), h2, g1⟩
      | _ => exact (no g).elim
    | _ => exact (no g).elim
theorem grow_pair {F1 H1 : Hp} {T : Addr} {x y : V} {d e : D} (s : Lk F1 H1) (h : H1 T = none) (r1 : Rp K F1 x d) (r2 : Rp K F1 y e) : ∃ F2, Grow F1 H1 F2 (upd H1 T (.tup [x, y])) ∧ Rp K F2 (.ref T) (pairD d e) :=
  ⟨_, Grow.one s h, .tup upd_same (.cons (r1.mono (same_new (same_none s h))) (.cons (r2.mono (same_new (same_none s h))) .nil))⟩
theorem gi_enum {p tpos : Pos} {elts : List Expr} {kk : Nat} {a : Expr} (hg : Gl X "enumerate") (hm : X.mg "enumerate" = none) (ha : PA X [a] (tA X.K W 1 mr)) (hs : starEach [a] X.env = [(false, eval a X.env)] := by rfl) : PI X (.Tuple elts kk tpos) (.Call (.Name "enumerate" p) [a] [] pos) (tI X.K W (mItN 1 enumD mr)) :=
  pi_imp (pi_enum hg hm ha hs) fun σ H Q ⟨τ, G, n, F, ro, Γ, T, ts, ex, k, w, R, g, c⟩ => ⟨τ, G, n, F, ro, Γ, T, ts, ex, _, w, R, g, fun Γ1 T1 vs F1 H1 e1 hl R1 g1 => by
    obtain ⟨ds, T0, h1, h2, g2⟩ := fzN_ok w.no hl R1 g1
    obtain ⟨xs, hx, g3⟩ := bindL_some w.no g2
    unfold enumD at hx
    split at hx
    · rename_i ds
      cases hx
      cases h1 with
      | cons a b =>
        cases b
        cases a with
        | lst a t =>
          refine ⟨_, _, rfl, h2.sub.seq a, c _ _ _ _ F1 H1 e1 h2 (fun i F3 H3 s3 s4 => ?_) g3⟩
          have hq := s4.seq (s3.seq a)
          refine ⟨fun d hd => ?_, fun hl => ⟨_, hq, by rw [List.length_map, List.length_zipIdx] at hl; rw [t.length]; exact hl⟩⟩
          rw [List.getElem?_map, List.getElem?_zipIdx] at hd
          cases ed : ds[i]? with
          | none => rw [ed] at hd; cases hd
          | some d0 =>
            rw [ed] at hd
            cases hd
            obtain ⟨v, k1, k2⟩ := t.get ed
            refine ⟨⟨_, v, hq, k1⟩, fun x H2 y => ?_⟩
            obtain ⟨T, x', rfl, hT, rfl, y⟩ := y
            have e := (y _ hq).symm.trans k1
            cases e
            have z : (0 : Nat) + i = i := Nat.zero_add i
            exact grow_pair s4 hT (by rw [z]; exact .int _) (k2.mono s3)
    · cases hx⟩
theorem gi_zip {p tpos : Pos} {elts : List Expr} {kk : Nat} {a b : Expr} (hg : Gl X "zip") (hm : X.mg "zip" = none) (ha : PA X [a, b] (tA X.K W 2 mr)) (hs : starEach [a, b] X.env = (false, eval a X.env) :: starEach [b] X.env := by rfl) (hpl : (backTo pos (starEach [b] X.env)).any (·.1) = false := by rfl) : PI X (.Tuple elts kk tpos) (.Call (.Name "zip" p) [a, b] [] pos) (tI X.K W (mItN 2 zipD mr)) :=
  pi_imp (pi_zip hg hm ha hs hpl) fun σ H Q ⟨τ, G, n, F, ro, Γ, T, ts, ex, k, w, R, g, c⟩ => ⟨τ, G, n, F, ro, Γ, T, ts, ex, _, w, R, g, fun Γ1 T1 vs F1 H1 e1 hl R1 g1 => by
    obtain ⟨ds, T0, h1, h2, g2⟩ := fzN_ok w.no hl R1 g1
    obtain ⟨xs, hx, g3⟩ := bindL_some w.no g2
    unfold zipD at hx
    split at hx
    · rename_i ds es
      cases hx
      cases h1 with
      | cons a b =>
        cases b with
        | cons b c' =>
          cases c'
          cases a with
          | lst a t =>
            cases b with
            | lst b u =>
              refine ⟨_, _, _, _, rfl, h2.sub.seq a, h2.sub.seq b, c _ _ _ _ F1 H1 e1 h2 (fun i F3 H3 s3 s4 => ?_) g3⟩
              have hq := s4.seq (s3.seq a)
              have hq2 := s4.seq (s3.seq b)
              refine ⟨fun d hd => ?_, fun hl => ?_⟩
              · rw [List.getElem?_zipWith] at hd
                cases ed : ds[i]? with
                | none => rw [ed] at hd; cases hd
                | some d0 =>
                  cases ee : es[i]? with
                  | none => rw [ed, ee] at hd; cases hd
                  | some e0 =>
                    rw [ed, ee] at hd
                    cases hd
                    obtain ⟨v, k1, k2⟩ := t.get ed
                    obtain ⟨w, k3, k4⟩ := u.get ee
                    refine ⟨⟨_, _, _, _, hq, hq2, k1, k3⟩, fun x H2 y => ?_⟩
                    obtain ⟨T, x1, x2, rfl, hT, rfl, y1, y2⟩ := y
                    have e := (y1 _ hq).symm.trans k1
                    cases e
                    have e := (y2 _ hq2).symm.trans k3
                    cases e
                    exact grow_pair s4 hT (k2.mono s3) (k4.mono s3)
              · rw [List.length_zipWith] at hl
                refine ⟨_, _, hq, hq2, ?_⟩
                rw [t.length, u.length]
                omega
    · cases hx⟩

/-! ### for, while -/
def forB (m : List Bm) (ro : Ro) (Γ : Gm) (g : Mg) (b : Ms) : Nat → D → St (cnt m) → O (St (cnt m)) := fun _ d s => g (St (cnt m)) d (roB ro Γ []) (inB m ro Γ s) fun Γ2 => b (St (cnt m)) (roB ro Γ []) Γ2 (ksB m ro Γ)
def mFor (m : List Bm) (mi : Mi) (g : Mg) (b : Ms) : Ms := fun τ ro Γ ks => mi τ ro Γ [] ks.ex fun ds Γ1 _ => if okD m ro Γ1 [] then O.tof m ro Γ1 ks (endB m ro Γ1 (entG m (resG ro 0 Γ1)) fun s0 => loopF (forB m ro Γ1 g b) 0 ds s0) else .no
def whB (m : List Bm) (ro : Ro) (Γ : Gm) (q : Mq) (b : Ms) : St (cnt m) → O (St (cnt m)) := fun s => q (St (cnt m)) (roB ro Γ []) (inB m ro Γ s) [] (exB m ro Γ) fun c Γ2 _ => if c then b (St (cnt m)) (roB ro Γ []) Γ2 (ksB m ro Γ) else endB m ro Γ Γ2 fun s => .bk s
def mWhile (N : Nat) (m : List Bm) (q : Mq) (b : Ms) : Ms := fun τ ro Γ ks => if okD m ro Γ [] then O.tof m ro Γ ks (endB m ro Γ (entG m (resG ro 0 Γ)) fun s0 => loopW (whB m ro Γ q b) N s0) else .no
variable {g : Mg} {b : Ms} {q : Mq} {mi : Mi}
/-- a turn's wishes: the next turn is C of the state -/
theorem Wk.turn {C : O (St (cnt m)) → O τ} {N : L2.St → Hp → Prop} {D0 : Ends} (ok : okD m ro Γ [] = true) (no : ¬ G .no) (c0 : C .no = .no)
    (hN : ∀ l σ' F' H', Same F F' → Rl K n F' (roB ro Γ []) (inB m ro Γ (toSt (cnt m) l)) [] σ' [] H' → (G (C (.nx (toSt (cnt m) l))) ∨ G (C (.ct (toSt (cnt m) l)))) → N σ' H')
    (w : Wk K W G n F ro ks D0) (cb : ∀ s, G (C (.bk s)) → G (ks.nx (outB m ro Γ s))) (cr : ∀ r s, G (C (.rt r s)) → G (ks.rt (outB m ro Γ s) (.kd .v r))) (ce : ∀ x s, G (C (.ex x s)) → G (ks.ex x (outB m ro Γ s))) :
    Wk K W (fun o => G (C o)) n F (roB ro Γ []) (ksB m ro Γ) { D0 with nx := N, ct := N, bk := D0.nx } := by
  have noC : ¬ G (C .no) := by rw [c0]; exact no
  have lv : ∀ {Γ' : Gm} {l : List D} {σ' : L2.St} {F' H' : Hp}, extG m (resG ro 0 Γ) Γ' = some l → ofSt (cnt m) (toSt (cnt m) l) = l → Rl K n F' (roB ro Γ []) Γ' [] σ' [] H' → Rl K n F' ro (outB m ro Γ (toSt (cnt m) l)) [] σ' [] H' := fun e1 e2 R => by
    unfold outB
    rw [e2]
    exact Rl.leave (T := []) rfl ok e1 R
  have ag : ∀ {Γ' : Gm} {l : List D} {σ' : L2.St} {F' H' : Hp}, extG m (resG ro 0 Γ) Γ' = some l → ofSt (cnt m) (toSt (cnt m) l) = l → Rl K n F' (roB ro Γ []) Γ' [] σ' [] H' → Rl K n F' (roB ro Γ []) (inB m ro Γ (toSt (cnt m) l)) [] σ' [] H' := fun e1 e2 R => by
    unfold inB
    rw [e2]
    exact R.again ok e1
  refine ⟨noC, fun Γ' σ' F' H' s R g => ?_, fun Γ' σ' F' H' s R g => ?_, fun Γ' σ' F' H' s R g => ?_, fun Γ' s v σ' F' H' q R g => ?_, fun x Γ' cls dO σ' F' H' s R xo g => ?_⟩
  · obtain ⟨l, e1, e2, g⟩ := endB_some (G := fun o => G (C o)) noC g
    exact hN l σ' F' H' s (ag e1 e2 R) (.inl g)
  · obtain ⟨l, e1, e2, g⟩ := endB_some (G := fun o => G (C o)) noC g
    exact w.nx _ σ' F' H' s (lv e1 e2 R) (cb _ g)
  · obtain ⟨l, e1, e2, g⟩ := endB_some (G := fun o => G (C o)) noC g
    exact hN l σ' F' H' s (ag e1 e2 R) (.inr g)
  · have g : G (C (rtB m ro Γ Γ' s)) := g
    cases s with
    | kd κ d =>
      cases κ with
      | v =>
        obtain ⟨l, e1, e2, g⟩ := endB_some (G := fun o => G (C o)) noC g
        exact w.rt _ _ v σ' F' H' q ((lv e1 e2 R.pop).push R.topV) (cr _ _ g)
      | _ => exact (noC g).elim
    | _ => exact (noC g).elim
  · obtain ⟨l, e1, e2, g⟩ := endB_some (G := fun o => G (C o)) noC g
    exact w.xc x _ cls dO σ' F' H' s (lv e1 e2 R) xo (ce _ _ g)
/-- the loop's end -/
theorem eqb_refl : ∀ k : Kd, k.eqb k = true := by
  intro k
  suffices h : (∀ k : Kd, k.eqb k = true) ∧ (∀ l : List Kd, eqbL l l = true) ∧ (∀ l : List (Str × Kd), eqbI l l = true) from h.1 k
  have : ∀ N : Nat, (∀ k : Kd, sizeOf k < N → k.eqb k = true) ∧ (∀ l : List Kd, sizeOf l < N → eqbL l l = true) ∧ (∀ l : List (Str × Kd), sizeOf l < N → eqbI l l = true) := by
    intro N
    induction N with
    | zero => exact ⟨fun _ h => by omega, fun _ h => by omega, fun _ h => by omega⟩
    | succ N ih =>
      obtain ⟨i1, i2, i3⟩ := ih
      refine ⟨fun k h => ?_, fun l h => ?_, fun l h => ?_⟩
      · cases k with
        | v => rfl
        | l k => simp at h; exact i1 k (by omega)
        | d k => simp at h; exact i1 k (by omega)
        | dl k => simp at h; exact i1 k (by omega)
        | t ks => simp at h; exact i2 ks (by omega)
        | i ks => simp at h; exact i3 ks (by omega)
      · cases l with
        | nil => rfl
        | cons k r =>
          simp at h
          unfold eqbL
          rw [i1 k (by omega), i2 r (by omega)]; rfl
      · cases l with
        | nil => rfl
        | cons k r =>
          obtain ⟨x, k⟩ := k
          simp at h
          unfold eqbI
          rw [i1 k (by omega), i3 r (by omega)]
          simp
  exact ⟨fun k => (this (sizeOf k + 1)).1 k (by omega), fun l => (this (sizeOf l + 1)).2.1 l (by omega), fun l => (this (sizeOf l + 1)).2.2 l (by omega)⟩
theorem ext_in : ∀ {m : List Bm} {R Γ' : Gm} {l ds : List D}, ds.length = cnt m → extG m R Γ' = some l → extG m R (entG m (back m R R ds)) = some ds
  | [], [], Γ', l, ds, h, _ => by
    rw [show ds = [] from List.length_eq_zero_iff.mp h]; rfl
  | [], e :: R, [], l, ds, h, q => by cases q
  | [], e :: R, s :: Γ', l, ds, h, q => by
    show (if isRo .ro then extG [] R (entG [] R) else none) = _
    simp only [extG] at q
    split at q
    · exact ext_in (m := []) (R := R) (ds := ds) h q
    · cases q
  | b :: m, [], [], l, ds, h, q => by
    have q : isZ (cnt (b :: m)) = some l := by cases b <;> exact q
    have z : cnt (b :: m) = 0 := by
      cases e : cnt (b :: m) with
      | zero => rfl
      | succ z => rw [e] at q; cases q
    have hd : ds = [] := List.length_eq_zero_iff.mp (h.trans z)
    subst hd
    have fin : isZ (cnt (b :: m)) = some [] := by rw [z]; rfl
    cases b <;> exact fin
  | b :: m, [], _ :: _, l, ds, h, q => by cases b <;> cases q
  | .st k :: m, e :: R, [], l, ds, h, q => by cases q
  | .st k :: m, e :: R, s :: Γ', l, [], h, q => by simp [cnt] at h
  | .st k :: m, e :: R, s :: Γ', l, d :: ds, h, q => by
    have q' : ∃ l', extG m R Γ' = some l' := by
      simp only [extG] at q
      cases e1 : stK k e s with
      | none => rw [e1] at q; cases q
      | some d =>
        rw [e1] at q
        cases e2 : extG m R Γ' with
        | none => rw [e2] at q; cases q
        | some l' => exact ⟨l', rfl⟩
    obtain ⟨l', q'⟩ := q'
    have q := ext_in (m := m) (R := R) (ds := ds) (by simpa [cnt] using h) q'
    show (stK k e (bkS k d e)).bind (fun d => (extG m R (entG m (back m R R ds))).map (d :: ·)) = _
    rw [q]
    have : stK k e (bkS k d e) = some d := by
      cases e <;> simp [bkS, stK, eqb_refl]
    rw [this]
    rfl
  | .ro :: m, e :: R, [], l, ds, h, q => by cases q
  | .ro :: m, e :: R, s :: Γ', l, ds, h, q => by
    simp only [extG] at q
    split at q
    · exact ext_in (m := m) (R := R) (ds := ds) h q
    · cases q
  | .dd :: m, e :: R, [], l, ds, h, q => by cases q
  | .dd :: m, e :: R, s :: Γ', l, ds, h, q => ext_in (m := m) (R := R) (ds := ds) h (show extG m R Γ' = some l from q)
theorem toSt_ofSt : ∀ (n : Nat) (s : St n), toSt n (ofSt n s) = s
  | 0, _ => rfl
  | 1, _ => rfl
  | n + 2, s => by
    show (s.1, toSt (n + 1) (ofSt (n + 1) s.2)) = s
    rw [toSt_ofSt (n + 1) s.2]
    rfl
theorem ofSt_len : ∀ (n : Nat) (s : St n), (ofSt n s).length = n
  | 0, _ => rfl
  | 1, _ => rfl
  | n + 2, s => by
    show (ofSt (n + 1) s.2).length + 1 = n + 2
    rw [ofSt_len (n + 1) s.2]
theorem Rl.outOf (ok : okD m ro Γ [] = true) {Γ' : Gm} {l : List D} (hm : extG m (resG ro 0 Γ) Γ' = some l) {s : St (cnt m)} (R : Rl K n F (roB ro Γ []) (inB m ro Γ s) [] σ [] H) : Rl K n F ro (outB m ro Γ s) [] σ [] H :=
  Rl.leave (T := []) rfl ok (ext_in (ofSt_len _ s) hm) R
theorem sx_for (m : List Bm) {tg iter : Expr} {body : List Stmt} (hp : PassesOwn (model X.prog X.w) X.A X.env X.xe) (hc : X.calm = true) (hi : PI X tg iter (tI X.K W mi)) (hg : PG X tg (tG X.K g)) (hb : PSs X body (tS X.K W b))
    (hs : ∀ x, foldedSetIterable iter X.env x = pure x := by intro _; rfl) : PS X (.For tg iter body [] pos) (tS X.K W (mFor m mi g b)) := ps_imp (ps_for hp hc hi hg hb hs) fun E σ H ⟨τ, G, n, F, ro, Γ, ks, w, R, g0⟩ =>
  ⟨τ, G, n, F, ro, Γ, [], [], _, _, w.wi, R, g0, fun ds Γ1 T1 J F1 H1 e1 R1 wk g1 => by
    cases R1.tnil
    have w := w.mono e1
    by_cases ok : okD m ro Γ1 [] = true
    · rw [if_pos ok] at g1
      obtain ⟨l0, q1, q2, g2⟩ := endB_some (G := fun o => G (O.tof m ro Γ1 ks o)) w.no g1
      have R2 : Rl X.K n F1 (roB ro Γ1 []) (inB m ro Γ1 (toSt (cnt m) l0)) [] σ [] H1 := by
        unfold inB
        rw [q2]
        exact (R1.enter ok).again ok q1
      refine ⟨fun i mm σ' H' => ∃ F' s, Same F1 F' ∧ Rl X.K n F' (roB ro Γ1 []) (inB m ro Γ1 s) [] σ' [] H' ∧ G (O.tof m ro Γ1 ks (loopF (forB m ro Γ1 g b) i (ds.drop i) s)) ∧ i + mm = ds.length, ⟨ds.length, F1, _, .refl _, R2, g2, by omega⟩, fun i mm σ' H' ⟨F', s, sF, R', g', hmm⟩ => ?_⟩
      have w' := w.mono sF
      obtain ⟨w2, w3⟩ := wk i F' H' sF R'.sub
      by_cases hi : i < ds.length
      · obtain ⟨t1, t2⟩ := w2 ds[i] (List.getElem?_eq_getElem hi)
        refine .inr ⟨t1, fun σ4 H4 => ∃ F4 s4, Same F1 F4 ∧ Rl X.K n F4 (roB ro Γ1 []) (inB m ro Γ1 s4) [] σ4 [] H4 ∧ G (O.tof m ro Γ1 ks (loopF (forB m ro Γ1 g b) (i + 1) (ds.drop (i + 1)) s4)), fun σ2 H2 ⟨F4, s4, z1, z2, z3⟩ => ⟨mm - 1, by omega, F4, s4, z1, z2, z3, by omega⟩, fun x H2 y => ?_⟩
        obtain ⟨F2, gr, rp⟩ := t2 x H2 y
        rw [List.drop_eq_getElem_cons hi] at g'
        refine ⟨St (cnt m), fun o => G (O.tof m ro Γ1 ks (o.lp fun s' => loopF (forB m ro Γ1 g b) (i + 1) (ds.drop (i + 1)) s')), n, F2, roB ro Γ1 [], inB m ro Γ1 s, ds[i], _, w.no, R'.grow gr, rp, g', fun Γ3 σ3 R3 g3 => ?_⟩
        exact ⟨St (cnt m), _, n, F2, roB ro Γ1 [], Γ3, ksB m ro Γ1, Wk.turn (C := fun o => O.tof m ro Γ1 ks (o.lp fun s' => loopF (forB m ro Γ1 g b) (i + 1) (ds.drop (i + 1)) s')) ok w.no rfl (fun l σ4 F4 H4 s4 R4 g4 => ⟨F4, _, sF.trans (gr.fz.trans s4), R4, g4.elim id id⟩) (w'.mono gr.fz) (fun s g => g) (fun r s g => g) (fun x s g => g), R3, g3⟩
      · refine .inl ⟨w3 (by omega), ?_⟩
        rw [List.drop_eq_nil_of_le (by omega)] at g'
        exact w'.nx _ σ' F' H' (.refl _) (R'.outOf ok q1) g'
    · rw [if_neg ok] at g1; exact (w.no g1).elim⟩
theorem sx_while (N : Nat) (m : List Bm) {c : Expr} {body : List Stmt} (hp : PassesOwn (model X.prog X.w) X.A X.env X.xe) (hc : PT X c (tQ X.K W q)) (hb : PSs X body (tS X.K W b)) : PS X (.While c body [] pos) (tS X.K W (mWhile N m q b)) := ps_imp (ps_while hp hc hb) fun E σ H ⟨τ, G, n, F, ro, Γ, ks, w, R, g1⟩ => by
  unfold mWhile at g1
  split at g1
  · rename_i ok
    obtain ⟨l0, q1, q2, g2⟩ := endB_some (G := fun o => G (O.tof m ro Γ ks o)) w.no g1
    have R2 : Rl X.K n F (roB ro Γ []) (inB m ro Γ (toSt (cnt m) l0)) [] σ [] H := by
      unfold inB
      rw [q2]
      exact (R.enter ok).again ok q1
    refine ⟨fun mm σ' H' => ∃ F' s, Same F F' ∧ Rl X.K n F' (roB ro Γ []) (inB m ro Γ s) [] σ' [] H' ∧ G (O.tof m ro Γ ks (loopW (whB m ro Γ q b) mm s)), ⟨N, F, _, .refl _, R2, g2⟩, fun mm σ' H' ⟨F', s, sF, R', g'⟩ => ?_⟩
    have w' := w.mono sF
    cases mm with
    | zero => exact (w.no g').elim
    | succ mm =>
      let C : O (St (cnt m)) → O τ := fun o => O.tof m ro Γ ks (o.lp fun s' => loopW (whB m ro Γ q b) mm s')
      have g' : G (C (whB m ro Γ q b s)) := g'
      have lv : ∀ {Γ' : Gm} {l : List D} {σ' : L2.St} {F' H' : Hp}, extG m (resG ro 0 Γ) Γ' = some l → ofSt (cnt m) (toSt (cnt m) l) = l → Rl X.K n F' (roB ro Γ []) Γ' [] σ' [] H' → Rl X.K n F' ro (outB m ro Γ (toSt (cnt m) l)) [] σ' [] H' := fun e1 e2 R => by
        unfold outB
        rw [e2]
        exact Rl.leave (T := []) rfl ok e1 R
      have wi : Wi X.K W (fun o => G (C o)) n F' (roB ro Γ []) σ' (exB m ro Γ) := ⟨w.no, fun x Γ' cls dO F2 H2 s2 R2 xo g2 => by
        obtain ⟨l, e1, e2, g3⟩ := endB_some (G := fun o => G (C o)) w.no g2
        exact w'.xc x _ cls dO σ' F2 H2 s2 (lv e1 e2 R2) xo g3⟩
      refine ⟨St (cnt m), fun o => G (C o), n, F', roB ro Γ [], inB m ro Γ s, [], [], _, _, wi, R', g', fun c Γ1 T1 F1 H1 e1 R1 g3 => ?_⟩
      cases R1.tnil
      cases c with
      | true =>
        refine iteT ⟨fun σ4 H4 => ∃ F4 s4, Same F F4 ∧ Rl X.K n F4 (roB ro Γ []) (inB m ro Γ s4) [] σ4 [] H4 ∧ G (O.tof m ro Γ ks (loopW (whB m ro Γ q b) mm s4)), fun σ2 H2 h => ⟨mm, by omega, h⟩, ?_⟩
        exact ⟨St (cnt m), _, n, F1, roB ro Γ [], Γ1, ksB m ro Γ, Wk.turn (C := C) ok w.no rfl (fun l σ4 F4 H4 s4 R4 g4 => ⟨F4, _, sF.trans (e1.trans s4), R4, g4.elim id id⟩) (w'.mono e1) (fun s g => g) (fun r s g => g) (fun x s g => g), R1, g3⟩
      | false =>
        refine iteF ?_
        obtain ⟨l, r1, r2, g4⟩ := endB_some (G := fun o => G (C o)) w.no g3
        exact w'.nx _ σ' F1 H1 e1 (lv r1 r2 R1) g4
  · exact (w.no g1).elim
end
end Fx

/-! G: defs, their promises, calls. -/
namespace Fx
open PySem PySem.Spec PyProof.Rows L2

/-! ### a def's promise, where no repr is on its way (guards) -/
structure FnG (P : Program) (w : World) (K : PySem.W.Frag) (mg : Str → Option Value) (base : Heap) (k : Nat) (f : Addr) (fd : FuncData) (ps : List Str) (sp : Sp) : Prop where
  len : ∀ vs H Q E, sp vs H Q E → vs.length = ps.length
  run : ∀ (A : Around) (outer : List Env) (s : Shared) (H : Hp) (args : Args) (us : List Value) (vs : List V) (Q : VK) (E : XK), Room k A → A.guards = some [] → Env0 P w K mg base A outer s H → BindsTo s fd args (ps.zip us) → Vals vs us → sp vs H Q E →
    codeAny (model P w) A (.call (.ref f) args) (CR (L2.CX P w) outer P w H s Q E) s
theorem FnG.mono {P : Program} {w : World} {K : PySem.W.Frag} {mg : Str → Option Value} {base : Heap} {j k : Nat} {f : Addr} {fd : FuncData} {ps : List Str} {sp : Sp} (F : FnG P w K mg base j f fd ps sp) (h : j ≤ k) : FnG P w K mg base k f fd ps sp :=
  ⟨F.len, fun A outer s H args us vs Q E hr => F.run A outer s H args us vs Q E (hr.mono h)⟩
theorem fng_body {P : Program} {w : World} {K : PySem.W.Frag} {mg : Str → Option Value} {base : Heap} {k : Nat} {f : Addr} {fd : FuncData} {x qual : Str} {st : Stmt} {N ps : List Str} {sp : Sp} (F : Fun K x qual st f fd) (S : FnScope N ps (defScope st))
    (len : ∀ vs H Q E, sp vs H Q E → vs.length = ps.length)
    (hbody : ∀ (cdv : Value) (A : Around) (outer : List Env) (s : Shared) (H : Hp) (vs : List V) (Q : VK) (E : XK), Room k (A.deeper (envOfC qual (defScope st) s.heap.objs.size f cdv)) → A.guards = some [] → sp vs H Q E →
      ∃ t, PSs (cxOf (L2.CX P w) P w K mg base N qual (defScope st) f cdv A outer s H E) (defBody st) t ∧ t { nx := fun _ H' => Q .non H', rt := Q } (start N vs) H) : FnG P w K mg base (k + 1) f fd ps sp := by
  obtain ⟨oc, od, kV, doc, pm, an, cdv, ct, osl, rfl, lk, hcd⟩ := F.ex
  constructor
  · exact len
  intro A outer s H args us vs Q E hr hgd e0 hb r hsp
  have l0 := len _ _ _ _ hsp
  have kin : K.In s.heap := e0.mod.kin.keeps fun b o e => (e0.bs b o e).1
  have nl : s.heap.NoLimit := e0.mod.nolimit.keeps fun b o e => (e0.bs b o e).1
  refine codeAny_call_function hr.depth (kin _ _ lk) rfl S.co S.gen rfl (PySem.W.codeRec_of kin hcd) (hb _ _ _ _ ?_)
  refine wpAny_newFunctionEnv_cells S.kind (fun ⟨nm, v⟩ hy => ?_) fun env he s1 y => ?_
  · rcases S.par nm (List.of_mem_zip hy).1 with q | q
    · exact Or.inl q
    · exact Or.inr ⟨q, PySem.W.cellsFrom_some _ _ _ (Or.inl q)⟩
  subst he
  refine ⟨nl.keeps y.toInCall.keep, codeAny_func ?_⟩
  obtain ⟨t, ht, hq⟩ := hbody cdv A outer s H vs Q E (hr.deeper _) hgd hsp
  have I0 := inv_start (CX := L2.CX P w) (f := f) (cd := cdv) (qual := qual) (outer := outer) (E := E) S hr.hd e0 l0 r y
  refine wpAny_mono (ht.run [] s1 _ H _ I0 hq) (fun fl s' hs => ?_) fun e s' hs => hs
  cases fl with
  | brk => obtain ⟨_, _, _, z⟩ := hs; exact z.elim
  | cont => obtain ⟨_, _, _, z⟩ := hs; exact z.elim
  | next =>
    obtain ⟨σ', H', J, q⟩ := hs
    exact ⟨V.non, H', J.os, J.bare, J.base, J.hok, rfl, q⟩
  | ret u =>
    obtain ⟨v, σ', H', J, rv, q⟩ := hs
    exact ⟨v, H', J.os, J.bare, J.base, J.hok, rv, q⟩

section
variable {X : Cx} {k : Nat} {f : Addr} {fd : FuncData} {ps : List Str} {sp : Sp} {x : Str} {p pos : Pos} {e : Expr} {es : List Expr} {t : TA} {W : WX} {dvs : List V} {ds : List Value}
theorem run_fng {pins : List (Addr × Obj)} {σ : L2.St} {H : Hp} {s : Shared} {Q : VK} {us : List Value} {vs : List V} (Fn : FnG X.prog X.w X.K X.mg X.base k f fd ps sp) (hr : Room k X.A) (hgd : X.A.guards = some []) (hb : Binds X.K fd ps ds) (hd : Vals dvs ds) (tk : Takes X W)
    (I : Inv X pins σ H s) (r : Vals vs us) (h : sp (vs ++ dvs) H Q (WE W σ)) : wpAny (model X.prog X.w) X.A (call (.ref f) us) (EP X pins σ Q) X.xe s := by
  have r2 := r.append hd
  have l0 : (us ++ ds).length = ps.length := by rw [← r2.length]; exact Fn.len _ _ _ _ h
  refine wpAny_call (codeAny_mono (Fn.run X.A X.stack s H ⟨us, []⟩ (us ++ ds) (vs ++ dvs) Q (WE W σ) hr hgd I.env0 (hb s us I.kIn l0) r2 h) fun res s' hq => ?_)
  match res, hq with
  | .error e, hq => exact (passAt tk σ) pins H s e s' I hq
  | .ok (.ret u), hq => exact I.after hq
  | .ok .next, hq => exact False.elim hq
  | .ok .brk, hq => exact False.elim hq
  | .ok .cont, hq => exact False.elim hq
def tCallG (sp : Sp) (dvs : List V) (W : WX) (t : TA) : TE := fun σ H Q => t σ H fun vs H1 => sp (vs ++ dvs) H1 Q (WE W σ)
theorem pe_callG (Fn : FnG X.prog X.w X.K X.mg X.base k f fd ps sp) (hr : Room k X.A) (hgd : X.A.guards = some []) (hg : Gl X x) (hm : X.mg x = some (.ref f)) (hk : PySem.W.keepIn X.K (.ref f) = true) (hb : Binds X.K fd ps ds) (hd : Vals dvs ds) (tk : Takes X W)
    (ha : PA X (e :: es) t) (hdb : (x == ("__debug__" : Str)) = false := by decide) (he : starEach (e :: es) X.env = (false, eval e X.env) :: starEach es X.env := by rfl) (hpl : (backTo pos (starEach es X.env)).any (·.1) = false := by rfl) :
    PE X (.Call (.Name x p) (e :: es) [] pos) (tCallG sp dvs W t) := ⟨fun pins s σ H Q I h =>
  wpAny_Call_Name_kw (ld_glob I hg hm (PySem.W.callWith_K (h₀ := X.base) I.ok.mod.kin hk (thn (ha.run pos pins s σ H _ I h) fun us s1 ⟨vs, H1, I1, r, q⟩ => ⟨I1.kIn, run_fng Fn hr hgd hb hd tk I1 r q⟩) he hpl) hdb)⟩
theorem pe_callG0 (Fn : FnG X.prog X.w X.K X.mg X.base k f fd ps sp) (hr : Room k X.A) (hgd : X.A.guards = some []) (hg : Gl X x) (hm : X.mg x = some (.ref f)) (hk : PySem.W.keepIn X.K (.ref f) = true) (hb : Binds X.K fd ps ds) (hd : Vals dvs ds) (tk : Takes X W)
    (hdb : (x == ("__debug__" : Str)) = false := by decide) : PE X (.Call (.Name x p) [] [] pos) (tCallG sp dvs W tNil) := ⟨fun pins s σ H Q I h =>
  wpAny_Call_Name_kw (ld_glob I hg hm (PySem.W.callWith_K0 I.kIn hk (run_fng (us := []) Fn hr hgd hb hd tk I .nil h)) hdb)⟩
end


/-! ### the promise of a mirror -/
/-- a parameter: it stays; the caller's, of a kind; not looked at -/
inductive Pk where
  | v | io (k : Kd) | x
def parE : Pk → D → Sl
  | .v, d => .kd .v d
  | .io k, d => .io k d
  | .x, _ => .un
def parG : List Pk → List D → Gm
  | p :: pk, d :: ds => parE p d :: parG pk ds
  | _, _ => []
def nio : List Pk → Nat
  | [] => 0
  | .io _ :: pk => nio pk + 1
  | _ :: pk => nio pk
def ioS (k : Kd) : Sl → Option D
  | .io k' d => if k.eqb k' then some d else none
  | _ => none
/-- what the callers' objects are at the end -/
def ioG : List Pk → Gm → Option (List D)
  | [], _ => some []
  | .io k :: pk, s :: Γ => (ioS k s).bind fun d => (ioG pk Γ).map (d :: ·)
  | .v :: pk, _ :: Γ => ioG pk Γ
  | .x :: pk, _ :: Γ => ioG pk Γ
  | _ :: _, [] => none
def putIo : List Pk → List D → List D → List D
  | .io _ :: pk, _ :: ds, e :: es => e :: putIo pk ds es
  | .io _ :: pk, d :: ds, [] => d :: putIo pk ds []
  | .v :: pk, d :: ds, es => d :: putIo pk ds es
  | .x :: pk, d :: ds, es => d :: putIo pk ds es
  | _, _, _ => []
def ro0 : Ro := ⟨[], []⟩
def spF (K : PySem.W.Frag) (pk : List Pk) (ρ : Kd) (mf : List D → O (St (nio pk))) : Sp := fun vs H Q E => ∃ n F ds, vs.length = pk.length ∧ ds.length = pk.length ∧ Rl K n F ro0 (parG pk ds) [] (vs.map some) [] H ∧ n.H0 = H ∧ n.F0 = F ∧
  match mf ds with
  | .rt r s => ∀ v F' H', Same F F' → Rl K n F' ro0 (parG pk (putIo pk ds (ofSt _ s))) [.kd ρ r] (vs.map some) [v] H' → Q v H'
  | .ex x s => ∀ cls dO F' H', Same F F' → Rl K n F' ro0 (parG pk (putIo pk ds (ofSt _ s))) [] (vs.map some) [] H' → XOk K F' x cls dO → E cls dO H'
  | _ => False
def endF {τ : Type} (pk : List Pk) (Γ : Gm) (k : St (nio pk) → O τ) : O τ := match ioG pk Γ with
  | some l => k (toSt (nio pk) l)
  | none => .no
def retF (pk : List Pk) (ρ : Kd) (Γ : Gm) (s : Sl) : O (St (nio pk)) := match s with
  | .kd k d => if ρ.eqb k then endF pk Γ fun s => .rt d s else .no
  | _ => .no
def ksF (pk : List Pk) (ρ : Kd) : Ks (St (nio pk)) := ⟨fun Γ => retF pk ρ Γ (.kd .v .non), fun _ => .no, fun _ => .no, retF pk ρ, fun x Γ => endF pk Γ fun s => .ex x s⟩
/-- a body as a mirror: N names -/
def bodyF (pk : List Pk) (N : Nat) (ρ : Kd) (b : Ms) (ds : List D) : O (St (nio pk)) := b (St (nio pk)) ro0 (parG pk ds ++ List.replicate (N - pk.length) .un) (ksF pk ρ)
section
variable {K : PySem.W.Frag} {n : Ent} {F F' H H' : Hp} {Γ Γ' T : Gm} {σ σ' : L2.St} {pk : List Pk} {ro : Ro}
theorem parG_len : ∀ {pk : List Pk} {ds : List D}, ds.length = pk.length → (parG pk ds).length = pk.length
  | [], [], _ => rfl
  | p :: pk, d :: ds, h => by simp [parG, parG_len (pk := pk) (ds := ds) (by simpa using h)]
  | [], _ :: _, h => by cases h
  | _ :: _, [], h => by cases h
theorem putIo_len : ∀ {pk : List Pk} {ds es : List D}, ds.length = pk.length → (putIo pk ds es).length = pk.length
  | [], [], _, _ => by simp [putIo]
  | .io _ :: pk, d :: ds, e :: es, h => by simp [putIo, putIo_len (pk := pk) (ds := ds) (es := es) (by simpa using h)]
  | .io _ :: pk, d :: ds, [], h => by simp [putIo, putIo_len (pk := pk) (ds := ds) (es := []) (by simpa using h)]
  | .v :: pk, d :: ds, es, h => by simp [putIo, putIo_len (pk := pk) (ds := ds) (es := es) (by simpa using h)]
  | .x :: pk, d :: ds, es, h => by simp [putIo, putIo_len (pk := pk) (ds := ds) (es := es) (by simpa using h)]
  | [], _ :: _, _, h => by cases h
  | _ :: _, [], _, h => by cases h
theorem ioG_len : ∀ {pk : List Pk} {Γ : Gm} {l : List D}, ioG pk Γ = some l → l.length = nio pk
  | [], _, _, h => by cases h; rfl
  | .io k :: pk, [], l, h => by cases h
  | .io k :: pk, s :: Γ, l, h => by
    simp only [ioG] at h
    cases e : ioS k s with
    | none => rw [e] at h; cases h
    | some d =>
      rw [e] at h
      cases e2 : ioG pk Γ with
      | none => rw [e2] at h; cases h
      | some l' => rw [e2] at h; cases h; simp [nio, ioG_len e2]
  | .v :: pk, [], l, h => by cases h
  | .v :: pk, s :: Γ, l, h => ioG_len (pk := pk) (Γ := Γ) h
  | .x :: pk, [], l, h => by cases h
  | .x :: pk, s :: Γ, l, h => ioG_len (pk := pk) (Γ := Γ) h
def pkAt : List Pk → Nat → Pk
  | [], _ => .x
  | p :: _, 0 => p
  | _ :: r, i + 1 => pkAt r i
/-- the parameters at the entry, and at the end -/
theorem parG_at : ∀ {pk : List Pk} {ds : List D}, ds.length = pk.length → ∀ i, i < pk.length → ∃ d, ds[i]? = some d ∧ gg (parG pk ds) i = parE (pkAt pk i) d
  | [], _, _, i, hi => by simp at hi
  | p :: pk, [], h, _, _ => by cases h
  | p :: pk, d :: ds, h, 0, _ => ⟨d, rfl, rfl⟩
  | p :: pk, d :: ds, h, i + 1, hi => parG_at (pk := pk) (ds := ds) (by simpa using h) i (by simpa using hi)
theorem exit_at : ∀ {pk : List Pk} {ds : List D} {Γ : Gm} {l : List D}, ds.length = pk.length → ioG pk Γ = some l → ∀ i, i < pk.length → match pkAt pk i with
    | .io k => ∃ d, gg Γ i = .io k d ∧ gg (parG pk (putIo pk ds l)) i = .io k d
    | .v => gg (parG pk (putIo pk ds l)) i = gg (parG pk ds) i
    | .x => gg (parG pk (putIo pk ds l)) i = .un
  | [], _, _, _, _, _, i, hi => by simp at hi
  | _ :: pk, [], _, _, h, _, _, _ => by cases h
  | .io k :: pk, d :: ds, [], l, h, e, i, hi => by cases e
  | .io k :: pk, d :: ds, s :: Γ, l, h, e, i, hi => by
    simp only [ioG] at e
    cases e1 : ioS k s with
    | none => rw [e1] at e; cases e
    | some d' =>
      rw [e1] at e
      cases e2 : ioG pk Γ with
      | none => rw [e2] at e; cases e
      | some l' =>
        rw [e2] at e
        cases e
        cases i with
        | zero =>
          refine ⟨d', ?_, rfl⟩
          unfold ioS at e1
          split at e1
          · split at e1
            · rename_i q
              cases e1
              rw [Kd.eqb_eq q]; rfl
            · cases e1
          · cases e1
        | succ i => exact exit_at (pk := pk) (ds := ds) (by simpa using h) e2 i (by simpa using hi)
  | .v :: pk, d :: ds, [], l, h, e, i, hi => by cases e
  | .v :: pk, d :: ds, s :: Γ, l, h, e, 0, hi => rfl
  | .v :: pk, d :: ds, s :: Γ, l, h, e, i + 1, hi => exit_at (pk := pk) (ds := ds) (Γ := Γ) (by simpa using h) e i (by simpa using hi)
  | .x :: pk, d :: ds, [], l, h, e, i, hi => by cases e
  | .x :: pk, d :: ds, s :: Γ, l, h, e, 0, hi => rfl
  | .x :: pk, d :: ds, s :: Γ, l, h, e, i + 1, hi => exit_at (pk := pk) (ds := ds) (Γ := Γ) (by simpa using h) e i (by simpa using hi)
/-- out of a def -/
theorem Rl.exit {ds l : List D} {ts : List V} (hT : ∀ i j p o, tr ro0 T i ≠ .al j p o) (hd : ds.length = pk.length) (R0 : Rl K n F ro0 (parG pk ds) [] σ [] H) (ss : Same F F') (ho : ioG pk Γ' = some l) (R : Rl K n F' ro0 Γ' T σ' ts H') : Rl K n F' ro0 (parG pk (putIo pk ds l)) T σ ts H' := by
  obtain ⟨ft0, S0⟩ := R0.S
  obtain ⟨ft, S⟩ := R.S
  have l1 : (parG pk (putIo pk ds l)).length = pk.length := parG_len (putIo_len hd)
  have l0 : (parG pk ds).length = pk.length := parG_len hd
  refine ⟨by rw [l1, ← l0]; exact R0.ls, R.lt, fun z => match z with
    | .s i => (match pkAt pk i with | .io _ => ft (.s i) | _ => [])
    | .t i => ft (.t i), S.step (fun _ => False) (.refl _) S.sub S.nd (fun b o h _ => h) (fun b h => h.elim) (fun b o h => .inl (.inl ⟨o, h⟩)) (fun x a h => ?_) (fun x a h => ?_) (fun x a h => ?_) (fun x z hxz a hx hz => ?_) fun x => ?_⟩
  · cases x with
    | s i =>
      simp only at h
      split at h
      · exact .inl ⟨_, h⟩
      · cases h
    | t i => exact .inl ⟨_, h⟩
  · cases x with
    | s i =>
      simp only at h
      split at h
      · exact (S.fn _ a h).1
      · cases h
    | t i => exact (S.fn _ a h).1
  · cases x with
    | s i =>
      simp only at h
      split at h
      · exact S.th _ a h
      · cases h
    | t i => exact S.th _ a h
  · have low : ∀ x, a ∈ (match x with | .s i => (match pkAt pk i with | .io _ => ft (.s i) | _ => []) | .t i => ft (.t i) : List Addr) → a ∈ ft x := fun x h => by
      cases x with
      | s i =>
        simp only at h
        split at h
        · exact h
        · cases h
      | t i => exact h
    exact S.dj x z hxz a (low x hx) (low z hz)
  · cases x with
    | s i =>
      show EnOk K n F' H' _ _ (.s i) _ (gr ro0 (parG pk (putIo pk ds l)) i)
      by_cases hi : i < pk.length
      · have q := exit_at hd ho i hi
        obtain ⟨d0, k1, k2⟩ := parG_at hd i hi
        have q0 := S0.en (.s i)
        have q0 : EnOk K n F H _ _ (.s i) (ft0 (.s i)) (gr ro0 (parG pk ds) i) := q0
        unfold gr at q0 ⊢
        rw [k2] at q0
        cases ep : pkAt pk i with
        | io k =>
          rw [ep] at q q0
          obtain ⟨d', q1, q2⟩ := q
          rw [q2]
          obtain ⟨⟨i', z1, z2⟩, _⟩ := q0
          cases z1
          have qf := S.en (.s i)
          have qf : EnOk K n F' H' _ _ (.s i) (ft (.s i)) (gr ro0 Γ' i) := qf
          unfold gr at qf
          rw [q1] at qf
          obtain ⟨⟨i2, y1, y2⟩, v2, y3, y4⟩ := qf
          cases y1
          rw [y2] at y3
          cases y3
          exact ⟨⟨i, rfl, z2⟩, _, z2, by simp only [ep]; exact y4⟩
        | v =>
          rw [ep] at q q0
          rw [q, k2, ep]
          obtain ⟨v, z1, z2⟩ := q0
          generalize ft0 (.s i) = A at z2
          cases z2 with
          | v r => exact ⟨v, z1, by simp only [ep]; exact .v (r.mono ss)⟩
        | x => rw [ep] at q; rw [q]; trivial
      · rw [gr_out (by rw [l1]; omega)]; trivial
    | t i =>
      show EnOk K n F' H' _ _ (.t i) (ft (.t i)) (tr ro0 T i)
      have q := S.en (.t i)
      have q : EnOk K n F' H' _ _ (.t i) (ft (.t i)) (tr ro0 T i) := q
      cases e : tr ro0 T i with
      | al j p o => exact (hT i j p o e).elim
      | un => trivial
      | ro => trivial
      | kd k d => rw [e] at q; exact q
      | io k d =>
        rw [e] at q
        obtain ⟨⟨i', z, _⟩, _⟩ := q
        cases z
theorem Rl.ext (R : Rl K n F ro0 Γ [] σ [] H) (k : Nat) : Rl K n F ro0 (Γ ++ List.replicate k .un) [] (σ ++ List.replicate k none) [] H := by
  have ge : ∀ (Γ : Gm) (i : Nat), gg (Γ ++ List.replicate k .un) i = gg Γ i := fun Γ => by
    induction Γ with
    | nil =>
      intro i
      have : ∀ (k i : Nat), gg (List.replicate k .un) i = .un := fun k => by
        induction k with
        | zero => intro i; rfl
        | succ k ih => intro i; cases i <;> first | rfl | exact ih _
      exact this k i
    | cons s Γ ih => intro i; cases i <;> first | rfl | exact ih _
  refine ⟨by simp [R.ls], rfl, ?_⟩
  have e1 : entOf ro0 (Γ ++ List.replicate k .un) [] = entOf ro0 Γ [] := by
    funext z
    cases z with
    | s i => show gr ro0 _ i = gr ro0 Γ i; unfold gr; rw [ge]
    | t i => rfl
  have e2 : valOf (σ ++ List.replicate k none) [] = valOf σ [] := by
    funext z
    cases z with
    | s i =>
      show ((σ ++ List.replicate k none)[i]?).join = (σ[i]?).join
      by_cases h : i < σ.length
      · rw [List.getElem?_append_left h]
      · rw [List.getElem?_append_right (by omega), List.getElem?_eq_none (l := σ) (by omega), List.getElem?_replicate]
        split <;> rfl
    | t i => rfl
  rw [e1, e2]
  exact R.S
end
abbrev CxD (P : Program) (w : World) (K : PySem.W.Frag) (mg : Str → Option Value) (base : Heap) (N : List Str) (qual : Str) (st : Stmt) (f : Addr) (cd : Value) (A : Around) (outer : List Env) (s : Shared) (H : Hp) (E : XK) : Cx := cxOf (L2.CX P w) P w K mg base N qual (defScope st) f cd A outer s H E
abbrev WD (E : XK) : WX := fun cls d _ H => E cls d H
theorem endF_some {τ : Type} {G : O τ → Prop} {pk : List Pk} {Γ : Gm} {k : St (nio pk) → O τ} (no : ¬ G .no) (h : G (endF pk Γ k)) : ∃ l, ioG pk Γ = some l ∧ ofSt (nio pk) (toSt (nio pk) l) = l ∧ G (k (toSt (nio pk) l)) := by
  unfold endF at h
  split at h
  · rename_i l e
    exact ⟨l, e, ofSt_toSt _ _ (ioG_len e), h⟩
  · exact (no h).elim
/-- THE RULE of a def: its body's mirror -/
theorem fng_mirror {P : Program} {w : World} {K : PySem.W.Frag} {mg : Str → Option Value} {base : Heap} {k : Nat} {f : Addr} {fd : FuncData} {x qual : Str} {st : Stmt} {N ps : List Str} {pk : List Pk} {ρ : Kd} {body : Ms} {mf : List D → O (St (nio pk))} (F : Fun K x qual st f fd) (S : FnScope N ps (defScope st)) (hnp : ps.length = pk.length) (hmf : ∀ ds, ds.length = pk.length → mf ds = bodyF pk N.length ρ body ds)
    (hbody : ∀ (cd : Value) (A : Around) (outer : List Env) (s : Shared) (H : Hp) (E : XK), Room k (CxD P w K mg base N qual st f cd A outer s H E).A → (CxD P w K mg base N qual st f cd A outer s H E).A.guards = some [] → Takes (CxD P w K mg base N qual st f cd A outer s H E) (WD E) →
      PassesOwn (model P w) (CxD P w K mg base N qual st f cd A outer s H E).A (CxD P w K mg base N qual st f cd A outer s H E).env (CxD P w K mg base N qual st f cd A outer s H E).xe → PSs (CxD P w K mg base N qual st f cd A outer s H E) (defBody st) (tS K (WD E) body)) : FnG P w K mg base (k + 1) f fd ps (spF K pk ρ mf) := by
  refine fng_body F S (fun vs H Q E h => ?_) fun cdv A outer s H vs Q E hr hg h => ?_
  · obtain ⟨n, F, ds, h1, _⟩ := h
    rw [h1, hnp]
  · obtain ⟨n, F0, ds, h1, h2, R0, hH, hF, h3⟩ := h
    rw [hmf ds h2] at h3
    let G : O (St (nio pk)) → Prop := fun o => match o with
      | .rt r s => ∀ v F' H', Same F0 F' → Rl K n F' ro0 (parG pk (putIo pk ds (ofSt _ s))) [.kd ρ r] (vs.map some) [v] H' → Q v H'
      | .ex x s => ∀ cls dO F' H', Same F0 F' → Rl K n F' ro0 (parG pk (putIo pk ds (ofSt _ s))) [] (vs.map some) [] H' → XOk K F' x cls dO → E cls dO H'
      | _ => False
    have gb : G (bodyF pk N.length ρ body ds) := h3
    have noG : ¬ G .no := fun z => z
    have ret : ∀ Γ' s v σ' F' H', Same F0 F' → Rl K n F' ro0 Γ' [s] σ' [v] H' → G (retF pk ρ Γ' s) → Q v H' := fun Γ' s v σ' F' H' ss R g => by
      cases s with
      | kd κ d =>
        have g : G (if ρ.eqb κ then endF pk Γ' fun s => .rt d s else .no) := g
        split at g
        · rename_i hk
          obtain ⟨l, q1, q2, g⟩ := endF_some noG g
          have g : ∀ v F' H', Same F0 F' → Rl K n F' ro0 (parG pk (putIo pk ds (ofSt _ (toSt (nio pk) l)))) [.kd ρ d] (vs.map some) [v] H' → Q v H' := g
          rw [q2, Kd.eqb_eq hk] at g
          refine g v F' H' ss (Rl.exit (fun i j p o => ?_) h2 R0 ss q1 R)
          unfold tr
          rw [tb_cons]
          split
          · exact fun e => by cases e
          · exact fun e => by cases e
        · exact g.elim
      | _ => exact g.elim
    have len : (parG pk ds).length = pk.length := parG_len h2
    refine ⟨_, hbody cdv A outer s H E hr hg (takes_of rfl rfl rfl rfl) (passes_of rfl), St (nio pk), G, n, F0, ro0, _, ksF pk ρ, ⟨noG, fun Γ' σ' F' H' ss R g => ret Γ' _ .non σ' F' H' ss (R.push .non) g, fun Γ' σ' F' H' ss R g => g.elim, fun Γ' σ' F' H' ss R g => g.elim, ret, fun x Γ' cls dO σ' F' H' ss R xo g => ?_⟩, ?_, gb⟩
    · obtain ⟨l, q1, q2, g⟩ := endF_some noG g
      have g : ∀ cls dO F' H', Same F0 F' → Rl K n F' ro0 (parG pk (putIo pk ds (ofSt _ (toSt (nio pk) l)))) [] (vs.map some) [] H' → XOk K F' x cls dO → E cls dO H' := g
      rw [q2] at g
      exact g cls dO F' H' ss (Rl.exit (fun i j p o => by intro e; cases e) h2 R0 ss q1 R) xo
    · have R1 := R0.ext (N.length - pk.length)
      unfold L2.start
      rw [h1]
      exact R1
end Fx

/-! G: what is one's own is changed: calls, methods of lists, stores. -/
namespace Fx
open PySem PySem.Spec PyProof.Rows L2
/-- a part of slot j behind a change at a path of length l -/
def kMs (j l : Nat) (r s : Sl) : Sl := match r with
  | .al i q _ => if i == j then (if Nat.ble q.length l then .al i q none else .un) else s
  | _ => s
def kM (j l : Nat) (ro : Ro) : Nat → Gm → Gm
  | _, [] => []
  | o, s :: Γ => kMs j l (res ro o s) s :: kM j l ro (o + 1) Γ
def kMT (j l : Nat) (ro : Ro) : Gm → Gm
  | [] => []
  | s :: T => kMs j l (rest' ro T.length s) s :: kMT j l ro T
/-- slot j holds d' -/
def putG (j l : Nat) (d' : D) (ro : Ro) (Γ : Gm) : Gm := gs (kM j l ro 0 Γ) j ((gg Γ j).setD d')
def setK {τ : Type} (d : D) (p : List Stp) (x : D) (k : D → O τ) : O τ := match p with
  | [] => k x
  | s :: r => bindO (setP d (s :: r) x) k
def getK' {τ : Type} (d : D) (p : List Stp) (o : Option D) (k : D → O τ) : O τ := match o with
  | some c => k c
  | none => match p with
    | [] => k d
    | s :: r => bindO (getP d (s :: r)) k
section
variable {K : PySem.W.Frag} {W : WX} {n : Ent} {F F1 H H1 : Hp} {ro : Ro} {Γ T : Gm} {σ : L2.St} {ts : List V} {τ : Type} {G : O τ → Prop}
theorem kM_len {j l : Nat} : ∀ (Γ : Gm) (o : Nat), (kM j l ro o Γ).length = Γ.length
  | [], _ => rfl
  | _ :: Γ, o => by simp [kM, kM_len Γ (o + 1)]
theorem kMT_len {j l : Nat} : ∀ (T : Gm), (kMT j l ro T).length = T.length
  | [] => rfl
  | _ :: T => by simp [kMT, kMT_len T]
theorem res_kMs {j l o : Nat} (s : Sl) : res ro o (kMs j l (res ro o s) s) = kMs j l (res ro o s) (res ro o s) := by
  unfold kMs
  cases e : res ro o s with
  | al i q c =>
    simp only
    cases h : (i == j) with
    | true =>
      simp only [if_true]
      cases Nat.ble q.length l <;> rfl
    | false =>
      simp only [Bool.false_eq_true, if_false]
      exact e
  | _ => exact e
theorem rest_kMs {j l o : Nat} (s : Sl) : rest' ro o (kMs j l (rest' ro o s) s) = kMs j l (rest' ro o s) (rest' ro o s) := by
  unfold kMs
  cases e : rest' ro o s with
  | al i q c =>
    simp only
    cases h : (i == j) with
    | true =>
      simp only [if_true]
      cases Nat.ble q.length l <;> rfl
    | false =>
      simp only [Bool.false_eq_true, if_false]
      exact e
  | _ => exact e
theorem gg_kM {j l : Nat} : ∀ (Γ : Gm) (o i : Nat), res ro (o + i) (gg (kM j l ro o Γ) i) = kMs j l (res ro (o + i) (gg Γ i)) (res ro (o + i) (gg Γ i))
  | [], _, _ => rfl
  | s :: Γ, o, 0 => res_kMs s
  | s :: Γ, o, i + 1 => by
    have q := gg_kM (j := j) (l := l) Γ (o + 1) i
    rw [show o + 1 + i = o + (i + 1) by omega] at q
    exact q
theorem gr_kM {j l : Nat} (i : Nat) : gr ro (kM j l ro 0 Γ) i = kMs j l (gr ro Γ i) (gr ro Γ i) := by
  have q := gg_kM (ro := ro) (j := j) (l := l) Γ 0 i
  rw [Nat.zero_add] at q
  exact q
theorem tr_kMT {j l : Nat} (i : Nat) : tr ro (kMT j l ro T) i = kMs j l (tr ro T i) (tr ro T i) := by
  induction T with
  | nil => rfl
  | cons s T ih =>
    unfold tr
    rw [kMT, tb_cons, tb_cons, kMT_len]
    by_cases h : i = T.length
    · subst h
      rw [if_pos rfl, if_pos rfl]
      exact rest_kMs s
    · rw [if_neg h, if_neg h]
      exact ih
theorem kMs_cases (j l : Nat) (s : Sl) : kMs j l s s = .un ∨ (kMs j l s s = s ∧ ¬ s.of (.s j)) ∨ ∃ q o, s = .al j q o ∧ q.length ≤ l ∧ kMs j l s s = .al j q none := by
  cases s with
  | al i q o =>
    by_cases h : i = j
    · subst h
      unfold kMs
      simp only [beq_self_eq_true, if_true]
      cases e : Nat.ble q.length l with
      | true => exact .inr (.inr ⟨q, o, rfl, Nat.le_of_ble_eq_true e, rfl⟩)
      | false => exact .inl rfl
    · have hb : (i == j) = false := by simpa using h
      refine .inr (.inl ⟨by unfold kMs; simp [hb], fun z => h (Ix.s.inj z).symm⟩)
  | _ => exact .inr (.inl ⟨rfl, fun z => z⟩)
theorem putG_len {j l : Nat} {d : D} : (putG j l d ro Γ).length = Γ.length := by unfold putG; rw [gs_len, kM_len]
theorem gr_putG {j l : Nat} {d : D} (hr : isRo (gg Γ j) = false) {k : Kd} {d0 : D} (ho : (gr ro Γ j).own = some (k, d0)) (i : Nat) : gr ro (putG j l d ro Γ) i = if i = j then (gr ro Γ j).setD d else kMs j l (gr ro Γ i) (gr ro Γ i) := by
  have e : gr ro Γ j = gg Γ j := by
    unfold gr
    cases h : gg Γ j <;> first | rfl | (rw [h] at hr; cases hr)
  have hj : j < Γ.length := by
    by_cases q : j < Γ.length
    · exact q
    · rw [gr_out (by omega)] at ho; cases ho
  by_cases h : i = j
  · subst h
    rw [if_pos rfl]
    unfold putG gr
    rw [gg_set, if_pos ⟨rfl, by rw [kM_len]; exact hj⟩]
    rw [e] at ho
    cases h : gg Γ i <;> rw [h] at ho <;> first | cases ho; done | rfl
  · rw [if_neg h, ← gr_kM]
    unfold putG gr
    rw [gg_set, if_neg (fun z => h z.1)]
/-- temporaries at the top, taken off -/
theorem Rl.drops : ∀ {C : Gm} {cs ts : List V} {T : Gm}, C.length = cs.length → Rl K n F ro Γ (C ++ T) σ (cs ++ ts) H → Rl K n F ro Γ T σ ts H
  | [], [], _, _, _, R => R
  | _ :: C, _ :: cs, _, _, h, R => Rl.drops (C := C) (cs := cs) (by simpa using h) (Rl.pop (by simpa using R))
  | [], _ :: _, _, _, h, _ => by cases h
  | _ :: _, [], _, _, h, _ => by cases h
theorem tr_app : ∀ (C T : Gm) (i : Nat), i < T.length → tr ro (C ++ T) i = tr ro T i
  | [], _, _, _ => rfl
  | s :: C, T, i, hi => by
    have q := tr_app C T i hi
    unfold tr at q ⊢
    rw [List.cons_append, tb_cons, if_neg (by rw [List.length_append]; omega)]
    exact q
theorem val_app : ∀ (cs ts : List V) (i : Nat), i < ts.length → valOf σ (cs ++ ts) (.t i) = valOf σ ts (.t i)
  | [], _, _, _ => rfl
  | u :: cs, ts, i, hi => by
    have e := congrFun (val_push σ u (cs ++ ts)) (.t i)
    rw [List.cons_append, e]
    have h' : ¬ (Ix.t i = Ix.t (cs ++ ts).length) := by intro z; have := Ix.t.inj z; rw [List.length_append] at this; omega
    simp only [if_neg h']
    exact val_app cs ts i hi
/-- a part of slot j is changed, temporaries are used up, something comes -/
theorem Rl.mut {j : Nat} {k : Kd} {d c : D} {v : V} {p : List Stp} {C : Gm} {cs : List V} (hC : C.length = cs.length) (R : Rl K n F ro Γ (C ++ T) σ (cs ++ ts) H) (hr : isRo (gg Γ j) = false) (ho : (gr ro Γ j).own = some (k, d)) (hv : valOf σ [] (.s j) = some v) (hk : k.at p ≠ .v) (hc : getP d p = some c)
    (nC : ∀ i, ¬ (∃ q o, tr ro (C ++ T) i = .al j q o) → True) :
    ∃ ft w Ac, SimF K n F (entOf ro Γ (C ++ T)) (valOf σ (cs ++ ts)) ft H ∧ VP F H k v d p w ∧ Ow K F H (k.at p) w c Ac ∧ (∀ a, a ∈ Ac → a ∈ ft (.s j)) ∧ ∀ (F1 H1 : Hp) (c' : D) (Ac' : List Addr), Same F F1 → Lk F1 H1 → NoDk F1 → (∀ b o, H b = some o → b ∉ Ac → H1 b = some o) →
      (∀ b o, F1 b = some o → Old F b o ∨ H b = none ∨ b ∈ Ac) → Ow K F1 H1 (k.at p) w c' Ac' → (∀ a, a ∈ Ac' → F1 a = none) → (∀ a, a ∈ Ac' → a ∈ Ac ∨ (∃ i, T.length ≤ i ∧ a ∈ ft (.t i)) ∨ H a = none) →
      ∀ (κy : Kd) (dy : D) (vy : V) (Ay : List Addr), Ow K F1 H1 κy vy dy Ay → (∀ a, a ∈ Ay → F1 a = none) → (∀ a, a ∈ Ay → a ∈ Ac ∨ (∃ i, T.length ≤ i ∧ a ∈ ft (.t i)) ∨ H a = none) → (∀ a, a ∈ Ay → a ∉ Ac') →
      ∃ d', setP d p c' = some d' ∧ Rl K n F1 ro (putG j p.length d' ro Γ) (.kd κy dy :: kMT j p.length ro T) σ (vy :: ts) H1 := by
  obtain ⟨ft, S⟩ := R.S
  have lt : T.length = ts.length := by
    have := R.lt
    rw [List.length_append, List.length_append] at this
    omega
  obtain ⟨w, Ac, f1, f2, f3, f4⟩ := S.mut (j := j) ho hv hk hc
  refine ⟨ft, w, Ac, S, f1, f2, f3, fun F1 H1 c' Ac' fz sub nd hp new o' fA hA κy dy vy Ay oy fAy hAy djy => ?_⟩
  let X : Ix → Prop := fun z => match z with
    | .s _ => False
    | .t i => T.length ≤ i
  have dX : DecidablePred X := fun z => match z with
    | .s _ => .isFalse id
    | .t i => inferInstanceAs (Decidable (T.length ≤ i))
  have cv : ∀ {B : List Addr}, (∀ a, a ∈ B → a ∈ Ac ∨ (∃ i, T.length ≤ i ∧ a ∈ ft (.t i)) ∨ H a = none) → ∀ a, a ∈ B → a ∈ Ac ∨ (∃ x, X x ∧ a ∈ ft x) ∨ H a = none := fun h a ha => by
    rcases h a ha with q | ⟨i, q1, q2⟩ | q
    · exact .inl q
    · exact .inr (.inl ⟨.t i, q1, q2⟩)
    · exact .inr (.inr q)
  obtain ⟨d', h1, h2⟩ := f4 X (fun z => z) F1 H1 c' Ac' fz sub nd hp new o' fA (cv hA) (.t T.length) (by intro e; cases e) κy dy vy Ay oy fAy (cv hAy) djy
  refine ⟨d', h1, by rw [putG_len]; exact R.ls, by simp [kMT_len, lt], ?_⟩
  have tlow : ∀ i, i < T.length → tr ro (C ++ T) i = tr ro T i := fun i hi => tr_app C T i hi
  have vlow : ∀ i, i < T.length → valOf σ (cs ++ ts) (.t i) = valOf σ ts (.t i) := fun i hi => val_app cs ts i (by omega)
  let ent' : Es := entOf ro (putG j p.length d' ro Γ) (.kd κy dy :: kMT j p.length ro T)
  let val' : Vs := fun z => if z = .t T.length then some vy else valOf σ (cs ++ ts) z
  have S2 : Sim K n F1 ent' val' H1 := by
    refine h2 ent' val' ?_ ?_ (if_pos rfl) (fun z hz => if_neg hz) (fun z hz hy => ?_) (fun z h1 h2 h3 => ?_) fun z i q o hy e hij => ?_
    · show gr ro (putG j p.length d' ro Γ) j = _
      rw [gr_putG hr ho, if_pos rfl]; rfl
    · show tr ro (.kd κy dy :: kMT j p.length ro T) T.length = _
      unfold tr
      rw [tb_cons, kMT_len, if_pos rfl]; rfl
    · cases z with
      | s i => exact hz.elim
      | t i =>
        have hz : T.length ≤ i := hz
        show tr ro (.kd κy dy :: kMT j p.length ro T) i = .un
        unfold tr
        have hi : i ≠ T.length := fun e => hy (by rw [e])
        rw [tb_cons, kMT_len, if_neg hi]
        unfold tb
        rw [kMT_len, if_neg (by omega)]; rfl
    · cases z with
      | s i =>
        have hij : i ≠ j := fun e => h1 (by rw [e])
        show gr ro (putG j p.length d' ro Γ) i = .un ∨ _
        rw [show ent' (.s i) = gr ro (putG j p.length d' ro Γ) i from rfl, gr_putG hr ho, if_neg hij]
        rcases kMs_cases j p.length (gr ro Γ i) with q | ⟨q1, q2⟩ | ⟨q, o, q1, q2, q3⟩
        · exact .inl q
        · refine .inr (.inl ⟨q1, q2, Sl.not_of_t, fun x hx hz => ?_⟩)
          cases x with
          | s i' => exact hx.elim
          | t i' => exact Sl.not_of_t hz
        · exact .inr (.inr ⟨q, o, q1, q2, .inl q3⟩)
      | t i =>
        have hi : i < T.length := by
          have h3 : ¬ T.length ≤ i := h3
          omega
        show tr ro (.kd κy dy :: kMT j p.length ro T) i = .un ∨ _
        have e1 : tr ro (.kd κy dy :: kMT j p.length ro T) i = kMs j p.length (tr ro T i) (tr ro T i) := by
          rw [← tr_kMT]
          unfold tr
          rw [tb_cons, kMT_len, if_neg (by omega)]
        have e2 : entOf ro Γ (C ++ T) (.t i) = tr ro T i := tlow i hi
        rw [show ent' (.t i) = tr ro (.kd κy dy :: kMT j p.length ro T) i from rfl, e1, e2]
        rcases kMs_cases j p.length (tr ro T i) with q | ⟨q1, q2⟩ | ⟨q, o, q1, q2, q3⟩
        · exact .inl q
        · refine .inr (.inl ⟨q1, q2, Sl.not_of_t, fun x hx hz => ?_⟩)
          cases x with
          | s i' => exact hx.elim
          | t i' => exact Sl.not_of_t hz
        · exact .inr (.inr ⟨q, o, q1, q2, .inl q3⟩)
    · -- the parts of other slots are held by what is not changed
      show gr ro (putG j p.length d' ro Γ) i = gr ro Γ i
      rw [gr_putG hr ho, if_neg hij]
      have eo : ∃ q o, entOf ro Γ (C ++ T) z = .al i q o := by
        cases z with
        | s i' =>
          have e : gr ro (putG j p.length d' ro Γ) i' = .al i q o := e
          rw [gr_putG hr ho] at e
          split at e
          · rename_i h
            subst h
            cases eg : gr ro Γ i' with
            | kd k0 d0 => rw [eg] at e; cases e
            | io k0 d0 => rw [eg] at e; cases e
            | un => rw [eg] at ho; cases ho
            | ro => rw [eg] at ho; cases ho
            | al a b c => rw [eg] at ho; cases ho
          · rcases kMs_cases j p.length (gr ro Γ i') with y | ⟨y1, y2⟩ | ⟨q', o', y1, y2, y3⟩
            · rw [y] at e; cases e
            · rw [y1] at e; exact ⟨q, o, e⟩
            · rw [y3] at e; cases e; exact (hij rfl).elim
        | t i' =>
          have hi' : i' < T.length := by
            by_cases h : i' < T.length
            · exact h
            · have e : tr ro (.kd κy dy :: kMT j p.length ro T) i' = .al i q o := e
              unfold tr at e
              rw [tb_cons, kMT_len] at e
              by_cases h' : i' = T.length
              · exact (hy (by rw [h'])).elim
              · rw [if_neg h'] at e
                unfold tb at e
                rw [kMT_len, if_neg h] at e
                cases e
          have e1 : tr ro (.kd κy dy :: kMT j p.length ro T) i' = kMs j p.length (tr ro T i') (tr ro T i') := by
            rw [← tr_kMT]
            unfold tr
            rw [tb_cons, kMT_len, if_neg (by omega)]
          have e : tr ro (.kd κy dy :: kMT j p.length ro T) i' = .al i q o := e
          rw [e1] at e
          refine ⟨q, o, (tlow i' hi').trans ?_⟩
          rcases kMs_cases j p.length (tr ro T i') with y | ⟨y1, y2⟩ | ⟨q', o', y1, y2, y3⟩
          · rw [y] at e; cases e
          · rw [y1] at e; exact e
          · rw [y3] at e; cases e; exact (hij rfl).elim
      obtain ⟨q', o', eo⟩ := eo
      have y := S.en z
      rw [eo] at y
      obtain ⟨k1, d1, v1, w1, y1, _⟩ := y
      have y1 : (gr ro Γ i).own = some (k1, d1) := y1
      cases eg : gr ro Γ i with
      | al a b c => rw [eg] at y1; cases y1
      | _ => rfl
  refine S2.wk (fun x => ?_) fun x i q o e => ⟨rfl, ?_⟩
  · cases x with
    | s i =>
      refine .inl ⟨rfl, ?_⟩
      show valOf σ (vy :: ts) (.s i) = val' (.s i)
      exact (if_neg (by intro e; cases e)).symm
    | t i =>
      by_cases hi : i < T.length
      · refine .inl ⟨rfl, ?_⟩
        show valOf σ (vy :: ts) (.t i) = val' (.t i)
        have e := congrFun (val_push σ vy ts) (.t i)
        rw [e, if_neg (by intro z; have := Ix.t.inj z; omega)]
        show _ = if (Ix.t i) = .t T.length then _ else _
        rw [if_neg (by intro z; have := Ix.t.inj z; omega)]
        exact (vlow i hi).symm
      · by_cases hi' : i = T.length
        · refine .inl ⟨rfl, ?_⟩
          show valOf σ (vy :: ts) (.t i) = val' (.t i)
          have e := congrFun (val_push σ vy ts) (.t i)
          rw [e, if_pos (by rw [hi', lt])]
          exact (if_pos (by rw [hi'])).symm
        · refine .inr (.inl ?_)
          show tr ro (.kd κy dy :: kMT j p.length ro T) i = .un
          unfold tr
          rw [tb_cons, kMT_len, if_neg hi']
          unfold tb
          rw [kMT_len, if_neg hi]; rfl
  · show valOf σ (vy :: ts) (.s i) = val' (.s i)
    exact (if_neg (by intro e; cases e)).symm
end
end Fx

/-! G: the call of a def by its mirror. -/
namespace Fx
open PySem PySem.Spec PyProof.Rows L2
def pushL : List D → Gm → Gm
  | [], T => T
  | d :: r, T => pushL r (.kd .v d :: T)
/-- the arguments, from the last; the place of the caller's object -/
def argR {τ : Type} (ro : Ro) (Γ : Gm) : List Pk → Gm → List D → Option (Nat × List Stp) → (List D → Option (Nat × List Stp) → Gm → O τ) → O τ
  | [], T, acc, pl, k => k acc pl T
  | .v :: pk, .kd .v d :: T, acc, pl, k => argR ro Γ pk T (d :: acc) pl k
  | .x :: pk, _ :: T, acc, pl, k => argR ro Γ pk T (.non :: acc) pl k
  | .io κ :: pk, .al j p o :: T, acc, none, k => (match (gr ro Γ j).own with
    | some (κj, dj) => if κ.eqb (κj.at p) && !isRo (gg Γ j) then getK' dj p o fun c => argR ro Γ pk T (c :: acc) (some (j, p)) k else .no
    | none => .no)
  | _, _, _, _, _ => .no
/-- the names and temporaries behind a call -/
def aft {τ : Type} (ro : Ro) (pl : Option (Nat × List Stp)) (l : List D) (Γ T : Gm) (k : Gm → Gm → O τ) : O τ := match pl, l with
  | none, _ => k Γ T
  | some (j, p), c :: _ => (match (gr ro Γ j).own with
    | some (_, d) => setK d p c fun z => k (putG j p.length z ro Γ) (kMT j p.length ro T)
    | none => .no)
  | _, _ => .no
def mCall (pk : List Pk) (ρ : Kd) (mf : List D → O (St (nio pk))) (dv : List D) (mr : Me) : Me := fun τ ro Γ T ex k => mr τ ro Γ T ex fun Γ1 T1 => argR ro Γ1 pk.reverse (pushL dv T1) [] none fun ds pl T0 =>
  (mf ds).val (fun r s => aft ro pl (ofSt _ s) Γ1 T0 fun Γ2 T2 => k Γ2 (.kd ρ r :: T2)) fun x s => aft ro pl (ofSt _ s) Γ1 T0 fun Γ2 _ => ex x Γ2
inductive Ag (K : PySem.W.Frag) (F : Hp) : List Pk → List V → List D → List (V × Kd × D) → Prop
  | nil : Ag K F [] [] [] []
  | v {pk : List Pk} {v : V} {vs : List V} {d : D} {ds : List D} {L : List (V × Kd × D)} : Rp K F v d → Ag K F pk vs ds L → Ag K F (.v :: pk) (v :: vs) (d :: ds) L
  | x {pk : List Pk} {v : V} {vs : List V} {d : D} {ds : List D} {L : List (V × Kd × D)} : Ag K F pk vs ds L → Ag K F (.x :: pk) (v :: vs) (d :: ds) L
  | io {pk : List Pk} {κ : Kd} {w : V} {vs : List V} {c : D} {ds : List D} {L : List (V × Kd × D)} : Ag K F pk vs ds L → Ag K F (.io κ :: pk) (w :: vs) (c :: ds) ((w, κ, c) :: L)
section
variable {K : PySem.W.Frag} {W : WX} {n : Ent} {F F1 H H1 : Hp} {ro : Ro} {Γ T : Gm} {σ : L2.St} {ts : List V} {τ : Type} {G : O τ → Prop}
theorem Ag.app {pk pk' : List Pk} {vs vs' : List V} {ds ds' : List D} {L L' : List (V × Kd × D)} (a : Ag K F pk vs ds L) (b : Ag K F pk' vs' ds' L') : Ag K F (pk ++ pk') (vs ++ vs') (ds ++ ds') (L ++ L') := by
  induction a with
  | nil => exact b
  | v r _ ih => exact .v r ih
  | x _ ih => exact .x ih
  | io _ ih => exact .io ih
theorem Ag.len {pk : List Pk} {vs : List V} {ds : List D} {L : List (V × Kd × D)} (a : Ag K F pk vs ds L) : vs.length = pk.length ∧ ds.length = pk.length ∧ L.length = nio pk := by
  induction a with
  | nil => exact ⟨rfl, rfl, rfl⟩
  | v r _ ih => simp [ih, nio]
  | x _ ih => simp [ih, nio]
  | io _ ih => simp [ih, nio]
/-- the parameters by place -/
theorem Ag.at {pk : List Pk} {vs : List V} {ds : List D} {L : List (V × Kd × D)} (a : Ag K F pk vs ds L) : ∀ i d, ds[i]? = some d → ∃ v, vs[i]? = some v ∧ match pkAt pk i with
    | .v => Rp K F v d
    | .io κ => (v, κ, d) ∈ L
    | .x => True := by
  induction a with
  | nil => intro i d h; cases h
  | v r _ ih =>
    intro i d h
    cases i with
    | zero => cases h; exact ⟨_, rfl, r⟩
    | succ i => exact ih i d h
  | x _ ih =>
    intro i d h
    cases i with
    | zero => cases h; exact ⟨_, rfl, trivial⟩
    | succ i => exact ih i d h
  | io _ ih =>
    intro i d h
    cases i with
    | zero => cases h; exact ⟨_, rfl, List.mem_cons_self⟩
    | succ i =>
      obtain ⟨v, h1, h2⟩ := ih i d h
      refine ⟨v, h1, ?_⟩
      show match pkAt _ i with | .v => _ | .io κ => _ | .x => _
      split at h2
      · exact h2
      · exact List.mem_cons_of_mem _ h2
      · trivial
/-- no caller's object: none is there -/
theorem Ag.io0 {pk : List Pk} {vs : List V} {ds : List D} {L : List (V × Kd × D)} (a : Ag K F pk vs ds L) : L = [] → ∀ i κ, pkAt pk i ≠ .io κ := by
  induction a with
  | nil => intro _ i κ e; cases e
  | v r _ ih => intro h i κ e; cases i with | zero => cases e | succ i => exact ih h i κ e
  | x _ ih => intro h i κ e; cases i with | zero => cases e | succ i => exact ih h i κ e
  | io _ ih => intro h; cases h
/-- the one place of a caller's object -/
theorem Ag.one {pk : List Pk} {vs : List V} {ds : List D} {L : List (V × Kd × D)} (a : Ag K F pk vs ds L) : ∀ {w κ c}, L = [(w, κ, c)] → ∃ i, pkAt pk i = .io κ ∧ vs[i]? = some w ∧ ds[i]? = some c ∧ (∀ i' κ', pkAt pk i' = .io κ' → i' = i) ∧ ∀ c', gg (parG pk (putIo pk ds [c'])) i = .io κ c' := by
  induction a with
  | nil => intro w κ c h; cases h
  | v r _ ih =>
    intro w κ c h
    obtain ⟨i, h1, h2, h3, h4, h5⟩ := ih h
    refine ⟨i + 1, h1, h2, h3, fun i' κ' e => ?_, fun c' => h5 c'⟩
    cases i' with
    | zero => cases e
    | succ i' => rw [h4 i' κ' e]
  | x _ ih =>
    intro w κ c h
    obtain ⟨i, h1, h2, h3, h4, h5⟩ := ih h
    refine ⟨i + 1, h1, h2, h3, fun i' κ' e => ?_, fun c' => h5 c'⟩
    cases i' with
    | zero => cases e
    | succ i' => rw [h4 i' κ' e]
  | io a ih =>
    intro w κ c h
    cases h
    refine ⟨0, rfl, rfl, rfl, fun i' κ' e => ?_, fun c' => rfl⟩
    cases i' with
    | zero => rfl
    | succ i' => exact (a.io0 rfl i' κ' e).elim
/-- where the caller's object is -/
def Plc (K : PySem.W.Frag) (F H : Hp) (ro : Ro) (Γ : Gm) (σ : L2.St) (j : Nat) (p : List Stp) (w : V) (κ : Kd) (c : D) : Prop := ∃ κj dj vj, (gr ro Γ j).own = some (κj, dj) ∧ valOf σ [] (.s j) = some vj ∧ VP F H κj vj dj p w ∧ κj.at p = κ ∧ κ ≠ .v ∧ getP dj p = some c ∧ isRo (gg Γ j) = false
theorem getK_ok {d : D} {p : List Stp} {o : Option D} {k : D → O τ} (no : ¬ G .no) (h : ∀ c, o = some c → getP d p = some c) (g : G (getK' d p o k)) : ∃ c, getP d p = some c ∧ G (k c) := by
  cases o with
  | some c => exact ⟨c, h c rfl, g⟩
  | none =>
    cases p with
    | nil => exact ⟨d, rfl, g⟩
    | cons s r =>
      obtain ⟨c, h1, h2⟩ := bindO_some no g
      exact ⟨c, h1, h2⟩
theorem setK_ok {d x : D} {p : List Stp} {k : D → O τ} (no : ¬ G .no) (g : G (setK d p x k)) : ∃ z, setP d p x = some z ∧ G (k z) := by
  cases p with
  | nil => exact ⟨x, rfl, g⟩
  | cons s r =>
    obtain ⟨c, h1, h2⟩ := bindO_some no g
    exact ⟨c, h1, h2⟩
theorem argR_ok (no : ¬ G .no) : ∀ {pkR : List Pk} {T : Gm} {vs : List V} {acc : List D} {pl : Option (Nat × List Stp)} {k : List D → Option (Nat × List Stp) → Gm → O τ}, vs.length = pkR.length → Rl K n F ro Γ T σ (vs.reverse ++ ts) H → G (argR ro Γ pkR T acc pl k) →
    ∃ ds L pl' T0, Ag K F pkR.reverse vs ds L ∧ Rl K n F ro Γ T0 σ ts H ∧ G (k (ds ++ acc) pl' T0) ∧ ((L = [] ∧ pl' = pl) ∨ ∃ j p w κ c, pl = none ∧ L = [(w, κ, c)] ∧ pl' = some (j, p) ∧ Plc K F H ro Γ σ j p w κ c)
  | [], T, vs, acc, pl, k, hl, R, g => by
    obtain rfl : vs = [] := List.length_eq_zero_iff.mp hl
    exact ⟨[], [], pl, T, .nil, R, g, .inl ⟨rfl, rfl⟩⟩
  | P :: pkR, [], vs, acc, pl, k, hl, R, g => by
    cases P <;> exact (no g).elim
  | P :: pkR, s :: T, vs, acc, pl, k, hl, R, g => by
    obtain ⟨us, v, rfl, hl2⟩ := rev_ind (N := pkR.length) hl
    rw [List.reverse_append] at R
    have R : Rl K n F ro Γ (s :: T) σ (v :: (us.reverse ++ ts)) H := R
    rw [List.reverse_cons]
    cases P with
    | v =>
      cases s with
      | kd κ d =>
        cases κ with
        | v =>
          have g : G (argR ro Γ pkR T (d :: acc) pl k) := g
          obtain ⟨ds, L, pl', T0, h1, h2, h3, h4⟩ := argR_ok no hl2 R.pop g
          refine ⟨ds ++ [d], L ++ [], pl', T0, h1.app (.v R.topV .nil), h2, by rw [List.append_assoc]; exact h3, by rw [List.append_nil]; exact h4⟩
        | _ => exact (no g).elim
      | _ => exact (no g).elim
    | x =>
      have g : G (argR ro Γ pkR T (.non :: acc) pl k) := by cases s <;> exact g
      obtain ⟨ds, L, pl', T0, h1, h2, h3, h4⟩ := argR_ok no hl2 R.pop g
      exact ⟨ds ++ [.non], L ++ [], pl', T0, h1.app (.x .nil), h2, by rw [List.append_assoc]; exact h3, by rw [List.append_nil]; exact h4⟩
    | io κ =>
      cases s with
      | al j p o =>
        cases pl with
        | some q => exact (no g).elim
        | none =>
          obtain ⟨ft, S, q, hv⟩ := R.top
          have q : EnOk K n F H _ _ _ _ (.al j p o) := q
          obtain ⟨κj, dj, vj, w, q1, q2, q3, q4, q5, q6⟩ := q
          rw [hv] at q3
          cases q3
          have q1 : (gr ro Γ j).own = some (κj, dj) := q1
          simp only [argR, q1] at g
          split at g
          · rename_i hk
            rw [Bool.and_eq_true] at hk
            have ek := Kd.eqb_eq hk.1
            obtain ⟨c, hc, g⟩ := getK_ok no q6 g
            obtain ⟨ds, L, pl', T0, h1, h2, h3, h4⟩ := argR_ok no hl2 R.pop g
            rcases h4 with ⟨rfl, rfl⟩ | ⟨_, _, _, _, _, z, _⟩
            · refine ⟨ds ++ [c], [] ++ [(v, κ, c)], _, T0, h1.app (.io .nil), h2, by rw [List.append_assoc]; exact h3, .inr ⟨j, p, v, κ, c, rfl, rfl, rfl, κj, dj, vj, q1, q2, q4, ek.symm, by rw [ek]; exact q5, hc, ?_⟩⟩
              have := hk.2
              simpa using this
            · cases z
          · exact (no g).elim
      | _ => cases pl <;> exact (no g).elim
theorem Ow.isRef {k : Kd} {v : V} {d : D} {A : List Addr} (o : Ow K F H k v d A) (h : k ≠ .v) : ∃ a, v = .ref a := by
  cases o with
  | v r => exact (h rfl).elim
  | _ => exact ⟨_, rfl⟩
theorem pushL_ok : ∀ {dv : List D} {dvs ts : List V} {T : Gm}, RpL K F dvs dv → Rl K n F ro Γ T σ ts H → Rl K n F ro Γ (pushL dv T) σ (dvs.reverse ++ ts) H
  | [], _, ts, T, .nil, R => R
  | d :: dv, _, ts, T, .cons (v := v) (vs := vs) a t, R => by
    rw [List.reverse_cons, List.append_assoc]
    show Rl K n F ro Γ (pushL dv (.kd .v d :: T)) σ _ H
    exact pushL_ok t (R.push a)
theorem Rl.popAll : ∀ {T : Gm} {ts : List V}, Rl K n F ro Γ T σ ts H → Rl K n F ro Γ [] σ [] H
  | [], ts, R => by
    obtain rfl : ts = [] := List.length_eq_zero_iff.mp R.lt.symm
    exact R
  | s :: T, [], R => by have := R.lt; simp at this
  | s :: T, v :: ts, R => Rl.popAll R.pop
/-- the callee's entry -/
theorem callee {pk : List Pk} {vs : List V} {ds : List D} {L : List (V × Kd × D)} (a : Ag K F pk vs ds L) (s : Lk F H) (nd : NoDk F) (Ac : List Addr) (ad : Nat → Addr) (h : ∀ w κ c, (w, κ, c) ∈ L → Ow K F H κ w c Ac ∧ ∀ i, vs[i]? = some w → w = .ref (ad i)) (h1 : ∀ i i' κ κ', pkAt pk i = .io κ → pkAt pk i' = .io κ' → i = i')
    (fn : ∀ x, x ∈ Ac → F x = none) (th : ∀ x, x ∈ Ac → ∃ o, H x = some o ∧ ∀ xs, o ≠ .tup xs) : Rl K ⟨H, F, fun b => b ∈ Ac, ad⟩ F ro0 (parG pk ds) [] (vs.map some) [] H := by
  obtain ⟨l1, l2, l3⟩ := a.len
  refine ⟨by rw [parG_len l2, List.length_map, l1], rfl, fun z => match z with | .s i => (match pkAt pk i with | .io _ => Ac | _ => []) | .t _ => [], ⟨s, fun x => ?_, fun x z hxz b hx hz => ?_, fun x b hb => ?_, fun x b hb => ?_, fun b o e _ => e, fun b o e => .inl (.inl ⟨o, e⟩), .refl _, nd⟩⟩
  · cases x with
    | s i =>
      show EnOk K _ F H _ _ (.s i) _ (gr ro0 (parG pk ds) i)
      by_cases hi : i < pk.length
      · obtain ⟨d, k1, k2⟩ := parG_at l2 i hi
        obtain ⟨v, k3, k4⟩ := a.at i d k1
        have hv : valOf (vs.map some) [] (.s i) = some v := by
          show ((vs.map some)[i]?).join = some v
          rw [List.getElem?_map, k3]; rfl
        unfold gr
        rw [k2]
        cases ep : pkAt pk i with
        | v => rw [ep] at k4; exact ⟨v, hv, by simp only [ep]; exact .v k4⟩
        | x => trivial
        | io κ =>
          rw [ep] at k4
          obtain ⟨o, hr⟩ := h _ _ _ k4
          exact ⟨⟨i, rfl, by rw [hv, ← hr i k3]⟩, v, hv, by simp only [ep]; exact o⟩
      · rw [gr_out (by rw [parG_len l2]; omega)]; trivial
    | t i => trivial
  · cases x with
    | s i =>
      cases z with
      | s i' =>
        simp only at hx hz
        split at hx
        · rename_i κ e
          split at hz
          · rename_i κ' e'
            exact hxz (by rw [h1 i i' κ κ' e e'])
          · cases hz
        · cases hx
      | t i' => cases hz
    | t i => cases hx
  · cases x with
    | s i =>
      simp only at hb
      split at hb
      · exact ⟨fn b hb, .inr hb⟩
      · cases hb
    | t i => cases hb
  · cases x with
    | s i =>
      simp only at hb
      split at hb
      · exact th b hb
      · cases hb
    | t i => cases hb
theorem im_call {pk : List Pk} {ρ : Kd} {mf : List D → O (St (nio pk))} {dv : List D} {dvs : List V} {mr : Me} {N : Nat} (hdv : ∀ F : Hp, RpL K F dvs dv) (hN : N + dvs.length = pk.length) : ∀ σ H Q, tM K W (mCall pk ρ mf dv mr) σ H Q → tCallG (spF K pk ρ mf) dvs W (tA K W N mr) σ H Q := fun σ H Q ⟨τ, G, n, F, ro, Γ, T, ts, ex, k, w, R, g, c⟩ =>
  ⟨τ, G, n, F, ro, Γ, T, ts, ex, _, w, R, g, fun Γ1 T1 vs F1 H1 e1 hl R1 g1 => by
    have w := w.mono e1
    have R2 := pushL_ok (hdv F1) R1
    rw [← List.append_assoc, ← List.reverse_append] at R2
    obtain ⟨ds, L, pl, T0, a, R3, g2, h4⟩ := argR_ok w.no (by rw [List.length_append, hl, List.length_reverse]; exact hN) R2 g1
    rw [List.reverse_reverse] at a
    rw [List.append_nil] at g2
    show spF K pk ρ mf (vs ++ dvs) H1 Q (WE W σ)
    generalize hws : vs ++ dvs = ws at *
    obtain ⟨l1, l2, l3⟩ := a.len
    rcases h4 with ⟨rfl, rfl⟩ | ⟨j, p, u, κ, cc, _, rfl, rfl, κj, dj, vj, p1, p2, p3, p4, p5, p6, p7⟩
    · -- nothing of the caller's is changed
      have Rc : Rl K ⟨H1, F1, fun b => b ∈ ([] : List Addr), fun _ => 0⟩ F1 ro0 (parG pk ds) [] (ws.map some) [] H1 := callee a R3.sub R3.nd [] (fun _ => 0) (fun w κ c h => by cases h) (fun i i' κ κ' e => (a.io0 rfl i κ e).elim) (fun x h => by cases h) fun x h => by cases h
      refine ⟨_, F1, ds, l1, l2, Rc, rfl, rfl, ?_⟩
      have grow : ∀ {F' H' : Hp} {Γ' T' : Gm} {σ' : L2.St} {ts' : List V}, Same F1 F' → Rl K ⟨H1, F1, fun b => b ∈ ([] : List Addr), fun _ => 0⟩ F' ro0 Γ' T' σ' ts' H' → Grow F1 H1 F' H' := fun ss R' => by
        obtain ⟨ft, S⟩ := R'.S
        refine ⟨ss, fun b o h => S.frame b o h (by simp), S.sub, fun b o h => ?_, fun _ => S.nd⟩
        rcases S.frz b o h with q | q | q
        · exact .inl q
        · exact .inr q
        · cases q
      cases em : mf ds with
      | rt r s =>
        rw [em] at g2
        intro v F' H' ss R'
        have gr' := grow ss R'
        obtain ⟨ft, S, q, hv⟩ := R'.top
        have q : EnOk K _ F' H' _ _ _ _ (.kd ρ r) := q
        obtain ⟨v', y1, y2⟩ := q
        rw [hv] at y1
        cases y1
        refine c Γ1 _ T0 v F' H' (e1.trans ss) (R3.pushN gr' y2 (fun b hb => ?_) fun b hb => (S.fn _ b hb).1) g2
        rcases (S.fn _ b hb).2 with z | z
        · exact z
        · cases z
      | ex x s =>
        rw [em] at g2
        intro cls dO F' H' ss R' xo
        exact w.xc x Γ1 cls dO F' H' ss (R3.popAll.grow (grow ss R')) xo g2
      | nx s => rw [em] at g2; exact (w.no g2).elim
      | bk s => rw [em] at g2; exact (w.no g2).elim
      | ct s => rw [em] at g2; exact (w.no g2).elim
      | no => rw [em] at g2; exact (w.no g2).elim
    · -- one object of the caller's may change
      obtain ⟨i0, i1, i2, i3, i4, i5⟩ := a.one rfl
      have hk : κj.at p ≠ .v := by rw [p4]; exact p5
      obtain ⟨ft, u', Ac, S, f1, f2, f3, f4⟩ := Rl.mut (C := []) (cs := []) rfl R3 p7 p1 p2 hk p6 (fun _ _ => trivial)
      cases vp_det (k := .v) f1 p3
      rw [p4] at f2 f4
      obtain ⟨a0, ea⟩ := f2.isRef p5
      have Rc : Rl K ⟨H1, F1, fun b => b ∈ Ac, fun i => match ws[i]? with | some (.ref a) => a | _ => 0⟩ F1 ro0 (parG pk ds) [] (ws.map some) [] H1 := by
        refine callee a R3.sub R3.nd Ac _ (fun w κ' c' h => ?_) (fun i i' κ1 κ2 e1 e2 => (i4 i κ1 e1).trans (i4 i' κ2 e2).symm) (fun x h => (S.fn _ x (f3 x h)).1) fun x h => S.th _ x (f3 x h)
        simp only [List.mem_singleton] at h
        cases h
        refine ⟨f2, fun i hi => ?_⟩
        rw [hi, ea]
      refine ⟨_, F1, ds, l1, l2, Rc, rfl, rfl, ?_⟩
      have one : ∀ (l : List D), l.length = 1 → ∃ c', l = [c'] := fun l h => by
        cases l with
        | nil => cases h
        | cons x r => cases r with | nil => exact ⟨x, rfl⟩ | cons _ _ => simp at h
      have hnio : nio pk = 1 := l3.symm
      have back : ∀ {F' H' : Hp} {Γ' T' : Gm} {σ' : L2.St} {ts' : List V} {c' : D} {κy : Kd} {dy : D} {vy : V} {Ay : List Addr}, Same F1 F' → ∀ (ft2 : Ix → List Addr), SimF K ⟨H1, F1, fun b => b ∈ Ac, fun i => match ws[i]? with | some (.ref a) => a | _ => 0⟩ F' (entOf ro0 (parG pk (putIo pk ds [c'])) T') (valOf (ws.map some) ts') ft2 H' →
          Ow K F' H' κy vy dy Ay → (∀ x, x ∈ Ay → F' x = none ∧ (H1 x = none ∨ x ∈ Ac)) → (∀ x, x ∈ Ay → x ∉ ft2 (.s i0)) →
          ∃ d', setP dj p c' = some d' ∧ Rl K n F' ro (putG j p.length d' ro Γ1) (.kd κy dy :: kMT j p.length ro T0) σ (vy :: ts) H' := fun {F' H' Γ' T' σ' ts' c' κy dy vy Ay} ss ft2 S2 oy hy dy' => by
        have q := S2.en (.s i0)
        have q : EnOk K _ F' H' _ _ (.s i0) (ft2 (.s i0)) (gr ro0 (parG pk (putIo pk ds [c'])) i0) := q
        unfold gr at q
        rw [i5 c'] at q
        obtain ⟨_, v2, y1, y2⟩ := q
        have hv : valOf (ws.map some) ts' (.s i0) = some u := by
          show ((ws.map some)[i0]?).join = some u
          rw [List.getElem?_map, i2]; rfl
        rw [hv] at y1
        cases y1
        refine f4 F' H' c' (ft2 (.s i0)) ss S2.sub S2.nd (fun b o h hb => S2.frame b o h hb) (fun b o h => ?_) y2 (fun x hx => (S2.fn _ x hx).1) (fun x hx => ?_) κy dy vy Ay oy (fun x hx => (hy x hx).1) (fun x hx => ?_) dy'
        · exact S2.frz b o h
        · rcases (S2.fn _ x hx).2 with z | z
          · exact .inr (.inr z)
          · exact .inl z
        · rcases (hy x hx).2 with z | z
          · exact .inr (.inr z)
          · exact .inl z
      cases em : mf ds with
      | rt r s =>
        rw [em] at g2
        obtain ⟨c', hc'⟩ := one (ofSt _ s) (by rw [ofSt_len, hnio])
        intro v F' H' ss R'
        have g2 : G (aft ro (some (j, p)) (ofSt _ s) Γ1 T0 fun Γ2 T2 => k Γ2 (.kd ρ r :: T2)) := g2
        rw [hc'] at g2 R'
        simp only [aft, p1] at g2
        obtain ⟨z, hz, g3⟩ := setK_ok w.no g2
        obtain ⟨ft2, S2, q, hv⟩ := R'.top
        have q : EnOk K _ F' H' _ _ _ _ (.kd ρ r) := q
        obtain ⟨v', y1, y2⟩ := q
        rw [hv] at y1
        cases y1
        obtain ⟨d', k1, k2⟩ := back (Γ' := []) (σ' := []) ss ft2 S2 y2 (fun x hx => S2.fn _ x hx) fun x hx => S2.dj _ _ (by intro e; cases e) x hx
        rw [hz] at k1
        cases k1
        exact c _ _ _ v F' H' (e1.trans ss) k2 g3
      | ex x s =>
        rw [em] at g2
        obtain ⟨c', hc'⟩ := one (ofSt _ s) (by rw [ofSt_len, hnio])
        intro cls dO F' H' ss R' xo
        have g2 : G (aft ro (some (j, p)) (ofSt _ s) Γ1 T0 fun Γ2 _ => ex x Γ2) := g2
        rw [hc'] at g2 R'
        simp only [aft, p1] at g2
        obtain ⟨z, hz, g3⟩ := setK_ok w.no g2
        obtain ⟨ft2, S2⟩ := R'.S
        obtain ⟨d', k1, k2⟩ := back (Γ' := []) (σ' := []) (κy := .v) (dy := .non) (vy := .non) ss ft2 S2 (.v .non) (fun x hx => by cases hx) fun x hx => by cases hx
        rw [hz] at k1
        cases k1
        exact w.xc x _ cls dO F' H' ss k2.popAll xo g3
      | nx s => rw [em] at g2; exact (w.no g2).elim
      | bk s => rw [em] at g2; exact (w.no g2).elim
      | ct s => rw [em] at g2; exact (w.no g2).elim
      | no => rw [em] at g2; exact (w.no g2).elim⟩
end
section
variable {X : Cx} {k : Nat} {f : Addr} {fd : FuncData} {ps : List Str} {x : Str} {p pos : Pos} {e : Expr} {es : List Expr} {W : WX} {pk : List Pk} {ρ : Kd} {mf : List D → O (St (nio pk))} {mr : Me} {N : Nat} {dvs : List V} {ds : List Value} {dv : List D}
theorem gx_call (Fn : FnG X.prog X.w X.K X.mg X.base k f fd ps (spF X.K pk ρ mf)) (hr : Room k X.A) (hgd : X.A.guards = some []) (hg : Gl X x) (hm : X.mg x = some (.ref f)) (hk : PySem.W.keepIn X.K (.ref f) = true) (hb : Binds X.K fd ps ds) (hd : Vals dvs ds) (hdv : ∀ F : Hp, RpL X.K F dvs dv) (tk : Takes X W)
    (ha : PA X (e :: es) (tA X.K W N mr)) (hN : N + dvs.length = pk.length := by rfl) (hdb : (x == ("__debug__" : Str)) = false := by decide) (he : starEach (e :: es) X.env = (false, eval e X.env) :: starEach es X.env := by rfl) (hpl : (backTo pos (starEach es X.env)).any (·.1) = false := by rfl) :
    PE X (.Call (.Name x p) (e :: es) [] pos) (tM X.K W (mCall pk ρ mf dv mr)) := pe_imp (pe_callG Fn hr hgd hg hm hk hb hd tk ha hdb he hpl) (im_call hdv hN)
theorem gx_call0 (Fn : FnG X.prog X.w X.K X.mg X.base k f fd ps (spF X.K pk ρ mf)) (hr : Room k X.A) (hgd : X.A.guards = some []) (hg : Gl X x) (hm : X.mg x = some (.ref f)) (hk : PySem.W.keepIn X.K (.ref f) = true) (hb : Binds X.K fd ps ds) (hd : Vals dvs ds) (hdv : ∀ F : Hp, RpL X.K F dvs dv) (tk : Takes X W)
    (hN : 0 + dvs.length = pk.length := by rfl) (hdb : (x == ("__debug__" : Str)) = false := by decide) : PE X (.Call (.Name x p) [] [] pos) (tM X.K W (mCall pk ρ mf dv mNil)) := pe_imp (pe_callG0 Fn hr hgd hg hm hk hb hd tk hdb) fun σ H Q h => by
  obtain ⟨τ, G, n, F, ro, Γ, T, ts, ex, k, w, R, g, c⟩ := im_call (N := 0) hdv hN σ H Q h
  exact c Γ T [] F H (.refl _) rfl R g
end
end Fx

/-! G: what is one's own comes to stay, or moves; displays; items; slices. -/
namespace Fx
open PySem PySem.Spec PyProof.Rows L2
/-- it comes to stay -/
def mFz (e : Me) : Me := fun τ ro Γ T ex k => e τ ro Γ T ex fun Γ1 T1 => match T1 with
  | .kd κ d :: T0 => if κ.free then k Γ1 (.kd .v d :: T0) else .no
  | _ => .no
/-- a name's own object moves out -/
def mMv (e : Me) : Me := fun τ ro Γ T ex k => e τ ro Γ T ex fun Γ1 T1 => match T1 with
  | .al j [] none :: T0 => (match gg Γ1 j with
    | .kd κ d => if T0.all (fun s => !ofB j s && !isRo s) then k (gs (kG j ro 0 Γ1) j .un) (.kd κ d :: T0) else .no
    | _ => .no)
  | _ => .no
section
variable {K : PySem.W.Frag} {W : WX} {n : Ent} {F F1 H H1 : Hp} {ro : Ro} {Γ T : Gm} {σ : L2.St} {ts : List V} {τ : Type} {G : O τ → Prop} {X : Cx} {pos : Pos} {e : Expr} {m : Me} {κ : Kd} {d : D} {v : V}
theorem ent_top (s : Sl) (hs : isRo s = false) : entOf ro Γ (s :: T) = fun z => if z = .t T.length then s else entOf ro Γ T z := by
  rw [ent_push]
  have : rest' ro T.length s = s := by cases s <;> first | rfl | cases hs
  rw [this]
/-- in thought, dicts are locked -/
def tGh (t : TE) : TE := fun σ H Q => t σ H fun v H1 => ∃ A : List Addr, ∀ H2, Lkd A H1 H2 → Q v H2
theorem lock_all {pins : List (Addr × Obj)} {s : Shared} (I : Inv X pins σ H s) : ∀ A : List Addr, ∃ H2, Lkd A H H2 ∧ Inv X pins σ H2 s
  | [] => ⟨H, ⟨fun _ _ => rfl, (fun b hb => by cases hb), (fun b hb => by cases hb)⟩, I⟩
  | a :: A => by
    obtain ⟨H2, lk, I2⟩ := lock_all I A
    by_cases ha : a ∈ A
    · exact ⟨H2, ⟨fun b hb => lk.off b fun z => hb (List.mem_cons_of_mem _ z), fun b hb => lk.on b ((List.mem_cons.mp hb).elim (fun e => e ▸ ha) id), fun b hb => lk.nn b ((List.mem_cons.mp hb).elim (fun e => e ▸ ha) id)⟩, I2⟩
    · have e2 : H2 a = H a := lk.off a ha
      have keep : (∀ u, H a = some u → isDk u = false) → ∃ H2, Lkd (a :: A) H H2 ∧ Inv X pins σ H2 s := fun hn =>
        ⟨H2, ⟨fun b hb => lk.off b fun z => hb (List.mem_cons_of_mem _ z), fun b hb => by
          by_cases e : b = a
          · subst e
            exact fun u hu => ⟨fun _ => e2.trans hu, fun hd => (by rw [hn u hu] at hd; cases hd)⟩
          · exact lk.on b ((List.mem_cons.mp hb).resolve_left e), fun b hb hz => by
          by_cases e : b = a
          · subst e; exact e2.trans hz
          · exact lk.nn b ((List.mem_cons.mp hb).resolve_left e) hz⟩, I2⟩
      cases hu : H a with
      | none => exact keep fun u h => by rw [hu] at h; cases h
      | some u =>
        cases hd : isDk u with
        | false => exact keep fun w h => by rw [hu] at h; cases h; exact hd
        | true =>
          obtain ⟨od, I3⟩ := I2.lock (e2.trans hu) (by cases u <;> first | trivial | cases hd)
          refine ⟨_, ⟨fun b hb => ?_, fun b hb => ?_, fun b hb hz => ?_⟩, I3⟩
          · rw [upd_ne (fun e => hb (by rw [e]; simp))]
            exact lk.off b fun z => hb (List.mem_cons_of_mem _ z)
          · by_cases e : b = a
            · subst e
              exact fun w hw => by
                rw [hu] at hw
                cases hw
                exact ⟨fun z => (by rw [hd] at z; cases z), fun _ => ⟨od, upd_same⟩⟩
            · intro w hw
              rw [upd_ne e]
              exact lk.on b ((List.mem_cons.mp hb).resolve_left e) w hw
          · by_cases e : b = a
            · subst e; rw [hu] at hz; cases hz
            · rw [upd_ne e]; exact lk.nn b ((List.mem_cons.mp hb).resolve_left e) hz
theorem pe_gh {t : TE} (h : PE X e t) : PE X e (tGh t) := ⟨fun pins s σ H Q I q => thn (h.run pins s σ H _ I q) fun u s1 ⟨v, H1, I1, r, A, q1⟩ => by
  obtain ⟨H2, lk, I2⟩ := lock_all I1 A
  exact ⟨v, H2, I2, r, q1 H2 lk⟩⟩
theorem Rl.frz (R : Rl K n F ro Γ (.kd κ d :: T) σ (v :: ts) H) (hf : κ.free = true) : ∃ A : List Addr, ∀ H2, Lkd A H H2 → ∃ F1, Same F F1 ∧ Rl K n F1 ro Γ (.kd .v d :: T) σ (v :: ts) H2 := by
  have e0 : entOf ro Γ (.kd κ d :: T) (.t T.length) = .kd κ d := by rw [ent_top _ rfl]; simp
  obtain ⟨A, hA⟩ := R.S.frzX e0 hf fun z _ => Sl.not_of_t
  refine ⟨A, fun H2 lk => ?_⟩
  obtain ⟨F1, v', fz, h1, r, S⟩ := hA H2 lk
  refine ⟨F1, fz, R.ls, R.lt, ?_⟩
  have e1 : entOf ro Γ (.kd .v d :: T) = fun z => if z = .t T.length then .kd .v d else entOf ro Γ (.kd κ d :: T) z := by
    rw [ent_top _ rfl, ent_top _ rfl]
    funext z
    by_cases h : z = .t T.length <;> simp [h]
  rw [e1]
  exact S
theorem gx_fz (h : PE X e (tM X.K W m)) : PE X e (tM X.K W (mFz m)) := pe_imp (pe_gh h) fun σ H Q ⟨τ, G, n, F, ro, Γ, T, ts, ex, k, w, R, g, c⟩ =>
  ⟨τ, G, n, F, ro, Γ, T, ts, ex, _, w, R, g, fun Γ1 s T1 v F1 H1 e1 R1 g1 => by
    cases s with
    | kd κ d =>
      by_cases hf : κ.free = true
      · have g1 : G (if κ.free then k Γ1 (.kd .v d :: T1) else .no) := g1
        rw [if_pos hf] at g1
        obtain ⟨A, hA⟩ := R1.frz hf
        refine ⟨A, fun H2 lk => ?_⟩
        obtain ⟨F2, s2, R2⟩ := hA H2 lk
        exact c Γ1 _ T1 v F2 H2 (e1.trans s2) R2 g1
      · have g1 : G (if κ.free then k Γ1 (.kd .v d :: T1) else .no) := g1
        rw [if_neg hf] at g1; exact (w.no g1).elim
    | _ => exact (w.no g1).elim⟩
theorem tr_noal {j : Nat} : ∀ {T : Gm}, T.all (fun s => !ofB j s && !isRo s) = true → ∀ i, ¬ (tr ro T i).of (.s j)
  | [], _, i => fun z => z
  | s :: T, hT, i => by
    rw [List.all_cons, Bool.and_eq_true, Bool.and_eq_true] at hT
    unfold tr
    rw [tb_cons]
    by_cases h : i = T.length
    · rw [if_pos h]
      intro z
      have : rest' ro i s = s := by
        have := hT.1.2
        cases s <;> first | rfl | cases this
      rw [this] at z
      have z := ofB_of.mpr z
      rw [z] at hT
      cases hT.1.1
    · rw [if_neg h]
      exact tr_noal hT.2 i
theorem Rl.mvT {j : Nat} (R : Rl K n F ro Γ (.al j [] none :: T) σ (v :: ts) H) (hj : gg Γ j = .kd κ d) (hT : T.all (fun s => !ofB j s && !isRo s) = true) : Rl K n F ro (gs (kG j ro 0 Γ) j .un) (.kd κ d :: T) σ (v :: ts) H := by
  have lt : T.length = ts.length := by simpa using R.lt
  have hl : j < Γ.length := by
    by_cases q : j < Γ.length
    · exact q
    · rw [gg_out (by omega)] at hj; cases hj
  have egr : gr ro Γ j = .kd κ d := by unfold gr; rw [hj]; rfl
  -- the value is the slot's
  obtain ⟨ft, S, q, hv⟩ := R.top
  have q : EnOk K n F H _ _ _ _ (.al j [] none) := q
  obtain ⟨k1, d1, v1, w1, q1, q2, q3, q4, q5, q6⟩ := q
  have q1 : (gr ro Γ j).own = some (k1, d1) := q1
  rw [egr] at q1
  cases q1
  rw [hv] at q3
  cases q3
  have q4 : v = v1 := q4
  subst q4
  have R0 := R.pop
  have tno := tr_noal (ro := ro) hT
  have R1 := R0.kill j tno
  have e0 : entOf ro (kG j ro 0 Γ) T (.s j) = .kd κ d := by
    show gr ro (kG j ro 0 Γ) j = _
    rw [gr_kG, egr]; rfl
  have noal : ∀ x, ¬ (entOf ro (kG j ro 0 Γ) T x).of (.s j) := fun x => by
    cases x with
    | s i =>
      show ¬ (gr ro (kG j ro 0 Γ) i).of (.s j)
      rw [gr_kG]
      by_cases h : ofB j (gr ro Γ i) = true
      · rw [if_pos h]; exact fun z => z
      · rw [if_neg h]; exact fun z => h (ofB_of.mpr z)
    | t i => exact tno i
  have S2 := R1.S.mv (x := .s j) (y := .t T.length) e0 (by intro e; cases e) fun z _ _ => ⟨Sl.not_of_t, noal z⟩
  refine ⟨by rw [gs_len, kG_len]; exact R.ls, by simp [lt], ?_⟩
  have e1 : entOf ro (gs (kG j ro 0 Γ) j .un) (.kd κ d :: T) = fun z => if z = .t T.length then .kd κ d else if z = .s j then .un else entOf ro (kG j ro 0 Γ) T z := by
    rw [ent_top _ rfl]
    funext z
    by_cases h : z = .t T.length
    · simp [h]
    · simp only [if_neg h]
      cases z with
      | s i =>
        show gr ro (gs (kG j ro 0 Γ) j .un) i = _
        unfold gr
        rw [gg_set]
        by_cases hi : i = j
        · subst hi
          rw [if_pos ⟨rfl, by rw [kG_len]; exact hl⟩, if_pos rfl]; rfl
        · rw [if_neg (fun z => hi z.1), if_neg (fun z => hi (Ix.s.inj z))]; rfl
      | t i =>
        rw [if_neg (by intro e; cases e)]; rfl
  have v1' : valOf σ (v :: ts) = fun z => if z = .t T.length then valOf σ ts (.s j) else valOf σ ts z := by
    rw [val_push, ← lt]
    funext z
    by_cases h : z = .t T.length
    · simp only [if_pos h]
      exact q2.symm
    · simp only [if_neg h]
  rw [e1, v1']
  exact S2
theorem gx_mv (h : PE X e (tM X.K W m)) : PE X e (tM X.K W (mMv m)) := pe_imp h fun σ H Q ⟨τ, G, n, F, ro, Γ, T, ts, ex, k, w, R, g, c⟩ =>
  ⟨τ, G, n, F, ro, Γ, T, ts, ex, _, w, R, g, fun Γ1 s T1 v F1 H1 e1 R1 g1 => by
    cases s with
    | al j p o =>
      cases p with
      | nil =>
        cases o with
        | none =>
          simp only at g1
          cases eg : gg Γ1 j with
          | kd κ d =>
            rw [eg] at g1
            simp only at g1
            split at g1
            · rename_i hT
              exact c _ _ T1 v F1 H1 e1 (R1.mvT eg hT) g1
            · exact (w.no g1).elim
          | _ => rw [eg] at g1; exact (w.no g1).elim
        | some c => exact (w.no g1).elim
      | cons _ _ => exact (w.no g1).elim
    | _ => exact (w.no g1).elim⟩

/-! ### displays -/
/-- the n temporaries at the top, of these kinds -/
def popK {τ : Type} : List Kd → Gm → (List D → Gm → O τ) → O τ
  | [], T, k => k [] T
  | κ :: ks, .kd κ' d :: T, k => if κ.eqb κ' then popK ks T fun ds T0 => k (ds ++ [d]) T0 else .no
  | _, _, _ => .no
def allV : List Kd → Bool
  | [] => true
  | .v :: ks => allV ks
  | _ => false
def tupK (ks : List Kd) : Kd := if allV ks then .v else .t ks
def mTup (ks : List Kd) (mr : Me) : Me := fun τ ro Γ T ex k => mr τ ro Γ T ex fun Γ1 T1 => popK ks.reverse T1 fun ds T0 => k Γ1 (.kd (tupK ks) (.tup ds) :: T0)
def mLst (κ : Kd) (n : Nat) (mr : Me) : Me := fun τ ro Γ T ex k => mr τ ro Γ T ex fun Γ1 T1 => popK (List.replicate n κ) T1 fun ds T0 => k Γ1 (.kd (.l κ) (.lst ds) :: T0)
/-- what was taken off the stack -/
theorem popK_ok (no : ¬ G .no) : ∀ {ks : List Kd} {T : Gm} {vs : List V} {k : List D → Gm → O τ}, vs.length = ks.length → Rl K n F ro Γ T σ (vs.reverse ++ ts) H → G (popK ks T k) →
    ∃ ds C T0, T = C ++ T0 ∧ C.length = vs.length ∧ ds.length = ks.length ∧ G (k ds T0) ∧ ∀ ft, SimF K n F (entOf ro Γ T) (valOf σ (vs.reverse ++ ts)) ft H →
      ∃ A, (∀ f : Nat → Kd, (∀ i, i < ks.length → f i = ks.reverse.getD i .v) → OwC K F H f vs ds A) ∧ ∀ x, x ∈ A → ∃ i, T0.length ≤ i ∧ i < T.length ∧ x ∈ ft (.t i)
  | [], T, vs, k, hl, R, g => by
    obtain rfl : vs = [] := List.length_eq_zero_iff.mp hl
    exact ⟨[], [], T, rfl, rfl, rfl, g, fun ft S => ⟨[], fun f _ => .nil, fun x h => by cases h⟩⟩
  | κ :: ks, [], vs, k, hl, R, g => (no g).elim
  | κ :: ks, s :: T, vs, k, hl, R, g => by
    obtain ⟨us, v, rfl, hl2⟩ := rev_ind (N := ks.length) hl
    rw [List.reverse_append] at R ⊢
    have R : Rl K n F ro Γ (s :: T) σ (v :: (us.reverse ++ ts)) H := R
    cases s with
    | kd κ' d =>
      simp only [popK] at g
      split at g
      · rename_i hk
        have ek := Kd.eqb_eq hk
        subst ek
        obtain ⟨ds, C, T0, rfl, h2, h3, h4, h5⟩ := popK_ok no hl2 R.pop g
        refine ⟨ds ++ [d], .kd κ d :: C, T0, rfl, by simp [h2], by simp [h3], h4, fun ft S => ?_⟩
        have S : SimF K n F (entOf ro Γ (.kd κ d :: (C ++ T0))) (valOf σ (v :: (us.reverse ++ ts))) ft H := S
        have lt : (C ++ T0).length = (us.reverse ++ ts).length := by simpa using R.lt
        -- below the top
        have S' : SimF K n F (entOf ro Γ (C ++ T0)) (valOf σ (us.reverse ++ ts)) ft H := by
          refine ⟨S.sub, fun x => ?_, S.dj, S.fn, S.th, S.frame, S.frz, S.sub0, S.nd⟩
          have q := S.en x
          rw [ent_top _ rfl, val_push, ← lt] at q
          by_cases hx : x = .t (C ++ T0).length
          · subst hx
            have : entOf ro Γ (C ++ T0) (.t (C ++ T0).length) = .un := by
              show tr ro (C ++ T0) (C ++ T0).length = .un
              unfold tr tb
              rw [if_neg (by omega)]; rfl
            rw [this]; trivial
          · simp only [if_neg hx] at q
            cases e : entOf ro Γ (C ++ T0) x with
            | un => trivial
            | ro => trivial
            | kd k0 d0 => rw [e] at q; obtain ⟨v0, z1, z2⟩ := q; exact ⟨v0, by simpa only [if_neg hx] using z1, z2⟩
            | io k0 d0 => rw [e] at q; obtain ⟨⟨i, z0, z1⟩, v0, z2, z3⟩ := q; exact ⟨⟨i, z0, by simpa only [if_neg hx] using z1⟩, v0, by simpa only [if_neg hx] using z2, z3⟩
            | al i p o =>
              rw [e] at q
              obtain ⟨k0, d0, v0, w0, z1, z2, z3, z4, z5, z6⟩ := q
              have hs : ¬ (Ix.s i = .t (C ++ T0).length) := by intro e; cases e
              simp only [if_neg hs] at z1 z2
              exact ⟨k0, d0, v0, w0, z1, z2, by simpa only [if_neg hx] using z3, z4, z5, z6⟩
        obtain ⟨A, a1, a2⟩ := h5 ft S'
        have top := S.en (.t (C ++ T0).length)
        have et : entOf ro Γ (.kd κ d :: (C ++ T0)) (.t (C ++ T0).length) = .kd κ d := by rw [ent_top _ rfl]; simp
        rw [et] at top
        obtain ⟨v', t1, t2⟩ := top
        have hv : valOf σ (v :: (us.reverse ++ ts)) (.t (C ++ T0).length) = some v := by rw [val_push, lt]; simp
        rw [hv] at t1
        cases t1
        refine ⟨A ++ ft (.t (C ++ T0).length), fun f hf => ?_, fun x hx => ?_⟩
        · have hlen : ds.length = us.length := by rw [h3, hl2]
          have hlast : f us.length = κ := by
            rw [hf us.length (by simp [hl2])]
            rw [List.reverse_cons, List.getD_eq_getElem?_getD, List.getElem?_append_right (by rw [List.length_reverse]; omega)]
            simp [hl2]
          have base : OwC K F H f us ds A := a1 f fun i hi => by
            rw [hf i (by simp; omega)]
            rw [List.reverse_cons, List.getD_eq_getElem?_getD, List.getD_eq_getElem?_getD, List.getElem?_append_left (by rw [List.length_reverse]; exact hi)]
          have snoc : ∀ {f : Nat → Kd} {us : List V} {ds : List D} {A : List Addr}, OwC K F H f us ds A → f us.length = κ → (∀ x, x ∈ A → x ∉ ft (.t (C ++ T0).length)) → OwC K F H f (us ++ [v]) (ds ++ [d]) (A ++ ft (.t (C ++ T0).length)) := by
            intro f us ds A o
            induction ds generalizing f us A with
            | nil =>
              cases o
              intro he _
              have q := OwC.cons (f := f) (vs := []) (ds := []) (B := []) (A := ft (.t (C ++ T0).length)) (v := v) (d := d) (by rw [show f 0 = κ from he]; exact t2) .nil (fun x _ h => by cases h)
              rw [List.append_nil] at q
              exact q
            | cons d0 ds ih =>
              cases o with
              | cons a t nn =>
                intro he hd
                rw [List.append_assoc]
                refine .cons a (ih t he fun x hx => hd x (List.mem_append_right _ hx)) fun x hx hb => ?_
                rcases List.mem_append.mp hb with z | z
                · exact nn x hx z
                · exact hd x (List.mem_append_left _ hx) z
          exact snoc base hlast fun x hx hy => by
            obtain ⟨i, b1, b2, b3⟩ := a2 x hx
            exact S.dj (.t i) (.t (C ++ T0).length) (by intro e; have := Ix.t.inj e; omega) x b3 hy
        · rcases List.mem_append.mp hx with z | z
          · obtain ⟨i, b1, b2, b3⟩ := a2 x z
            exact ⟨i, b1, by rw [List.length_cons]; omega, b3⟩
          · exact ⟨_, by rw [List.length_append]; omega, by rw [List.length_cons]; omega, z⟩
      · exact (no g).elim
    | _ => exact (no g).elim
/-- temporaries are used up, and something comes that holds what they held -/
theorem Rl.pack {C : Gm} {vs : List V} (hC : C.length = vs.length) (R : Rl K n F ro Γ (C ++ T) σ (vs.reverse ++ ts) H) {ft : Ix → List Addr} (S : SimF K n F (entOf ro Γ (C ++ T)) (valOf σ (vs.reverse ++ ts)) ft H) (g : Grow F H F1 H1) {B : List Addr} (o : Ow K F1 H1 κ v d B)
    (hB : ∀ x, x ∈ B → (∃ i, T.length ≤ i ∧ x ∈ ft (.t i)) ∨ H x = none) (fB : ∀ x, x ∈ B → F1 x = none) : Rl K n F1 ro Γ (.kd κ d :: T) σ (v :: ts) H1 := by
  have lt : T.length = ts.length := by
    have := R.lt
    simp at this
    omega
  let Y : Ix → Prop := fun z => match z with
    | .s _ => False
    | .t i => T.length ≤ i
  have dY : DecidablePred Y := fun z => match z with
    | .s _ => .isFalse id
    | .t i => inferInstanceAs (Decidable (T.length ≤ i))
  have S2 := S.setA (y := .t T.length) (X := Y) g o (fun a ha => by
    rcases hB a ha with ⟨i, q1, q2⟩ | q
    · exact .inl ⟨.t i, q1, q2⟩
    · exact .inr q) fB fun x hx hX => ⟨Sl.not_of_t, fun z hz => by
      cases z with
      | s i => exact hz.elim
      | t i => exact Sl.not_of_t⟩
  refine ⟨R.ls, by simp [lt], S2.wk (fun x => ?_) fun x j p o e => ⟨?_, ?_⟩⟩
  · rw [ent_top _ rfl, val_push, ← lt]
    cases x with
    | s i =>
      have hs : ¬ (Ix.s i = .t T.length) := by intro e; cases e
      refine .inl ⟨?_, ?_⟩
      · simp only [if_neg hs]
        have nX : ¬ Y (.s i) := fun z => z
        rw [if_neg nX]; rfl
      · simp only [if_neg hs]; rfl
    | t i =>
      by_cases h : i = T.length
      · subst h; exact .inl ⟨by simp, by simp⟩
      · have h' : ¬ (Ix.t i = Ix.t T.length) := fun e => h (Ix.t.inj e)
        by_cases hi : i < T.length
        · refine .inl ⟨?_, ?_⟩
          · simp only [if_neg h']
            have nX : ¬ Y (.t i) := fun z => by have z : T.length ≤ i := z; omega
            rw [if_neg nX]
            exact (tr_app C T i hi).symm
          · simp only [if_neg h']
            exact (val_app vs.reverse ts i (by omega)).symm
        · refine .inr (.inl ?_)
          simp only [if_neg h']
          show tr ro T i = .un
          unfold tr tb
          rw [if_neg (by omega)]; rfl
  · rw [ent_top _ rfl]
    have hs : ¬ (Ix.s j = .t T.length) := by intro e; cases e
    simp only [if_neg hs]
    have nX : ¬ Y (.s j) := fun z => z
    rw [if_neg nX]; rfl
  · rw [val_push]
    have hs : ¬ (Ix.s j = .t T.length) := by intro e; cases e
    have hs' : ¬ (Ix.s j = .t ts.length) := by intro e; cases e
    simp only [if_neg hs, if_neg hs']
    rfl
end
end Fx

/-! G: displays. -/
namespace Fx
open PySem PySem.Spec PyProof.Rows L2
section
variable {K : PySem.W.Frag} {W : WX} {n : Ent} {F F1 H H1 : Hp} {ro : Ro} {Γ T : Gm} {σ : L2.St} {ts : List V} {τ : Type} {G : O τ → Prop} {X : Cx} {pos : Pos} {e : Expr} {es : List Expr} {m mr : Me} {κ : Kd} {d : D} {v : V} {N : Nat} {ks : List Kd}
theorem allV_at : ∀ {ks : List Kd}, allV ks = true → ∀ i, ks.getD i .v = .v
  | [], _, i => by cases i <;> rfl
  | .v :: ks, h, 0 => rfl
  | .v :: ks, h, i + 1 => by
    rw [List.getD_cons_succ]
    exact allV_at (ks := ks) h i
  | .l _ :: _, h, _ => by cases h
  | .d _ :: _, h, _ => by cases h
  | .dl _ :: _, h, _ => by cases h
  | .t _ :: _, h, _ => by cases h
  | .i _ :: _, h, _ => by cases h
theorem im_tup (hk : ks.length = N) (hz : N ≤ sizeLine) : ∀ σ H Q, tM K W (mTup ks mr) σ H Q → tTup (tA K W N mr) σ H Q := fun σ H Q ⟨τ, G, n, F, ro, Γ, T, ts, ex, k, w, R, g, c⟩ =>
  ⟨τ, G, n, F, ro, Γ, T, ts, ex, _, w, R, g, fun Γ1 T1 vs F1 H1 e1 hl R1 g1 => by
    refine ⟨by rw [hl]; exact hz, fun p hp => ?_⟩
    obtain ⟨ds, C, T0, rfl, h2, h3, g2, h5⟩ := popK_ok w.no (by rw [hl, List.length_reverse, hk]) R1 g1
    have gr1 : Grow F1 H1 (upd F1 p (.tup vs)) (upd H1 p (.tup vs)) := Grow.one R1.sub hp
    obtain ⟨ft, S⟩ := R1.S
    obtain ⟨A, a1, a2⟩ := h5 ft S
    have hA : ∀ x, x ∈ A → F1 x = none ∧ x ≠ p := fun x hx => by
      obtain ⟨i, b1, b2, b3⟩ := a2 x hx
      refine ⟨(S.fn _ x b3).1, fun e => ?_⟩
      obtain ⟨o, ho, _⟩ := S.th _ x b3
      rw [e, hp] at ho
      cases ho
    by_cases av : allV ks = true
    · have ek : tupK ks = .v := by unfold tupK; rw [if_pos av]
      rw [ek] at g2
      have q := owc_v' (fun _ => rfl) (a1 (fun _ => .v) fun i hi => by rw [List.reverse_reverse]; exact (allV_at av i).symm)
      have R2 : Rl _ n F1 ro Γ1 T0 σ ts H1 := Rl.drops (by rw [h2, List.length_reverse]) R1
      exact c Γ1 _ T0 _ _ _ (e1.trans gr1.fz) ((R2.grow gr1).push (.tup upd_same (q.2.mono gr1.fz))) g2
    · have ek : tupK ks = .t ks := by unfold tupK; rw [if_neg av]
      rw [ek] at g2
      refine c Γ1 _ T0 _ _ _ (e1.trans gr1.fz) (Rl.pack h2 R1 S gr1 (B := A) (.tup upd_same ((a1 (Kd.ch (.t ks)) fun i hi => by rw [List.reverse_reverse]; rfl).mono gr1.fz fun x hx => upd_ne (hA x hx).2)) (fun x hx => ?_) fun x hx => ?_) g2
      · obtain ⟨i, b1, b2, b3⟩ := a2 x hx
        exact .inl ⟨i, b1, b3⟩
      · rw [upd_ne (hA x hx).2]; exact (hA x hx).1⟩
theorem gx_tup {x1 : Nat} (ks : List Kd) (ha : PA X es (tA X.K W N mr)) (hk : ks.length = N := by rfl) (hz : N ≤ sizeLine := by decide) : PE X (.Tuple es x1 pos) (tM X.K W (mTup ks mr)) := pe_imp (pe_tup ha) (im_tup hk hz)
theorem im_lst (hz : N ≤ sizeLine) : ∀ σ H Q, tM K W (mLst κ N mr) σ H Q → tLst (tA K W N mr) σ H Q := fun σ H Q ⟨τ, G, n, F, ro, Γ, T, ts, ex, k, w, R, g, c⟩ =>
  ⟨τ, G, n, F, ro, Γ, T, ts, ex, _, w, R, g, fun Γ1 T1 vs F1 H1 e1 hl R1 g1 => by
    refine ⟨by rw [hl]; exact hz, fun p hp => ?_⟩
    obtain ⟨ds, C, T0, rfl, h2, h3, g2, h5⟩ := popK_ok w.no (by rw [hl, List.length_replicate]) R1 g1
    have gr1 : Grow F1 H1 F1 (upd H1 p (.lst vs)) := Grow.beside R1.sub hp
    obtain ⟨ft, S⟩ := R1.S
    obtain ⟨A, a1, a2⟩ := h5 ft S
    have hA : ∀ x, x ∈ A → F1 x = none ∧ x ≠ p := fun x hx => by
      obtain ⟨i, b1, b2, b3⟩ := a2 x hx
      refine ⟨(S.fn _ x b3).1, fun e => ?_⟩
      obtain ⟨o, ho, _⟩ := S.th _ x b3
      rw [e, hp] at ho
      cases ho
    refine c Γ1 _ T0 _ _ _ e1 (Rl.pack h2 R1 S gr1 (B := p :: A) (.lst upd_same ((a1 (Kd.ch (.l κ)) fun i hi => ?_).mono (.refl _) fun x hx => upd_ne (hA x hx).2) (fun h => (hA p h).2 rfl)) (fun x hx => ?_) fun x hx => ?_) g2
    · rw [List.length_replicate] at hi
      rw [List.reverse_replicate, List.getD_eq_getElem?_getD, List.getElem?_replicate, if_pos hi]
      rfl
    · rcases List.mem_cons.mp hx with rfl | hx
      · exact .inr hp
      · obtain ⟨i, b1, b2, b3⟩ := a2 x hx
        exact .inl ⟨i, b1, b3⟩
    · rcases List.mem_cons.mp hx with rfl | hx
      · exact R1.sub.free hp
      · exact (hA x hx).1⟩
theorem gx_lst (κ : Kd) (ha : PA X es (tA X.K W N mr)) (hz : N ≤ sizeLine := by decide) : PE X (.List es pos) (tM X.K W (mLst κ N mr)) := pe_imp (pe_lst ha) (im_lst hz)
end
end Fx

/-! G: items. -/
namespace Fx
open PySem PySem.Spec PyProof.Rows L2
def rIxDic : R2 := fun x y H Q => ∃ a v, x = .ref a ∧ DGet H a y (some v) ∧ Q v H
section
variable {X : Cx} {K : PySem.W.Frag}
theorem ix_dict (hu : X.A.units + 1 < cLine) : IxR X rIxDic := by
  intro value slice pins s σ H x y v u Q I rx ry h hs
  obtain ⟨a, z, rfl, g, q⟩ := h
  obtain rfl : v = Value.ref a := rx
  have hT := dict_typeIs I g
  unfold subscriptTail
  refine wpAny_bind ?_
  rw [getitemInPython_of_ne hT.not_modules]
  refine wpAny_bind (wpAny_specialOf hT PySem.F.slot_dict_getitem.lookup ?_)
  have fin : wpAny (model X.prog X.w) X.A (subscripted slice false (.ref a) u) (fun r s₃ => wpAny (model X.prog X.w) X.A (letTemporaryGo value (.ref a) r >>= fun _ => pure r) (EP X pins σ Q) X.xe s₃) X.xe s := by
    rw [hs]
    exact wpAny_operating (d_getItem hu I g ry fun w' s3 I3 rw' => wpAny_bind (wpAny_letTemporaryGo (wpAny_pure ⟨z, H, I3, rw', q⟩)))
  first
    | exact wpAny_pure (wpAny_bind fin)
    | exact wpAny_bind (wpAny_pure (wpAny_bind fin))
    | exact wpAny_bind fin
theorem IxR.imp {r r' : R2} (h : IxR X r) (i : ∀ x y H Q, r' x y H Q → r x y H Q) : IxR X r' := fun value slice pins s σ H x y v u Q I rx ry q hs => h value slice pins s σ H x y v u Q I rx ry (i _ _ _ _ q) hs
theorem ix_F2 (hu : X.A.units + 1 < cLine) : IxR X (rF2 X.K ixD2) := IxR.imp ((ix_F (X := X)).or (ix_dict hu)) fun x y H Q ⟨F, d, e, z, sF, qd, qe, hz, o⟩ => by
  unfold ixD2 at hz
  split at hz
  · obtain ⟨p, v, rfl, g, r⟩ := (dget_of sF qd qe).1 z hz
    exact .inr ⟨p, v, rfl, g, o.same sF r⟩
  · exact .inl ⟨F, d, e, z, sF, qd, qe, hz, o⟩
end
/-- which item -/
def ixNd : D → D → Option Nat
  | .lst l, .int i => ixN l.length i
  | .dic es, e => (keyD e).bind fun k => keyIx es k
  | .dit es, e => (keyT e).bind fun k => keyIx es k
  | _, _ => none
def nthD (c : D) (n : Nat) : Option D := (kids c)[n]?
def Kd.isV : Kd → Bool
  | .v => true
  | _ => false
/-- a part that is one's own -/
def mIxA (ma mb : Me) : Me := fun τ ro Γ T ex k => ma τ ro Γ T ex fun Γ1 T1 => mb τ ro Γ1 T1 ex fun Γ2 T2 => match T2 with
  | .kd .v e :: .al j p o :: T0 => (match (gr ro Γ2 j).own with
    | some (κ, d) => (match κ.at p with
      | .l κ' => if κ'.isV then .no else getK' d p o fun c => bindN (ixNd c e) fun n => bindO (nthD c n) fun c' => k Γ2 (.al j (p ++ [.ix n]) (some c') :: T0)
      | .d κ' => if κ'.isV then .no else getK' d p o fun c => bindN (ixNd c e) fun n => bindO (nthD c n) fun c' => k Γ2 (.al j (p ++ [.ix n]) (some c') :: T0)
      | _ => .no)
    | none => .no)
  | _ => .no
section
variable {K : PySem.W.Frag} {W : WX} {n : Ent} {F F1 H H1 : Hp} {ro : Ro} {Γ T : Gm} {σ : L2.St} {ts : List V} {τ : Type} {G : O τ → Prop} {X : Cx} {pos : Pos} {a b : Expr} {ma mb : Me} {κ : Kd} {d : D} {v : V}
theorem gx_ix (hu : X.A.units + 1 < cLine) (ha : PE X a (tM X.K W ma)) (hb : PE X b (tM X.K W mb)) (hs : PlainIx b := by first | exact fun _ _ => rfl) : PE X (.Subscript a b pos) (tM X.K W (mOp2 ixD2 ma mb)) := pe_imp (pe_ix (ix_F2 hu) ha hb hs) im_op2
theorem at_app : ∀ (p : List Stp) (k : Kd) (s : Stp), k.at (p ++ [s]) = (k.at p).st s
  | [], _, _ => rfl
  | t :: p, k, s => at_app p (k.st t) s
theorem getP_app {s : Stp} {c' : D} {m : Nat} : ∀ {p : List Stp} {d c : D}, getP d p = some c → resv c s = some m → (kids c)[m]? = some c' → getP d (p ++ [s]) = some c'
  | [], d, c, h, h1, h2 => by
    cases h
    show ((resv d s).bind fun n => ((kids d)[n]?).bind fun c => getP c []) = _
    rw [h1]
    show (((kids d)[m]?).bind fun c => getP c []) = _
    rw [h2]
    rfl
  | t :: p, d, c, h, h1, h2 => by
    have h : ((resv d t).bind fun n => ((kids d)[n]?).bind fun c => getP c p) = some c := h
    show ((resv d t).bind fun n => ((kids d)[n]?).bind fun c => getP c (p ++ [s])) = some c'
    cases e : resv d t with
    | none => rw [e] at h; cases h
    | some i =>
      rw [e] at h
      have h : (((kids d)[i]?).bind fun c => getP c p) = some c := h
      show (((kids d)[i]?).bind fun c => getP c (p ++ [s])) = some c'
      cases e2 : (kids d)[i]? with
      | none => rw [e2] at h; cases h
      | some z =>
        rw [e2] at h
        exact getP_app (p := p) (d := z) h h1 h2
theorem VP.snoc {s : Stp} {u w : V} {c c' : D} {m : Nat} {a : Addr} {xs : List V} (h1 : resv c s = some m) (h2 : (kids c)[m]? = some c') (hu : xs[m]? = some u) : ∀ {p : List Stp} {k : Kd} {v : V} {d : D}, VP F H k v d p w → getP d p = some c → w = .ref a → Kids F H (k.at p) a c xs → VP F H k v d (p ++ [s]) u
  | [], k, v, d, h, hc, hw, hk => by
    cases hc
    have h : w = v := h
    subst h
    exact ⟨m, c', a, xs, u, h1, h2, hw, hk, hu, rfl⟩
  | t :: p, k, v, d, h, hc, hw, hk => by
    obtain ⟨n, z, b, ys, y, g1, g2, g3, g4, g5, g6⟩ := h
    have hc : ((resv d t).bind fun n => ((kids d)[n]?).bind fun c => getP c p) = some c := hc
    rw [g1] at hc
    have hc : (((kids d)[n]?).bind fun c => getP c p) = some c := hc
    rw [g2] at hc
    exact ⟨n, z, b, ys, y, g1, g2, g3, g4, g5, VP.snoc h1 h2 hu g6 hc hw hk⟩
theorem getK'_ok {o : Option D} {p : List Stp} {k : D → O τ} (no : ¬ G .no) (h : ∀ c, o = some c → getP d p = some c) (g : G (getK' d p o k)) : ∃ c, getP d p = some c ∧ G (k c) := getK_ok no h g
theorem getK_ix {κ : Type} [DecidableEq κ] {k : κ} : ∀ {es : List (κ × D)} {m : Nat} {c : D}, keyIx es k = some m → (es.map (·.2))[m]? = some c → getK es k = some c
  | [], _, _, h, _ => by cases h
  | (j, d) :: es, m, c, h, h2 => by
    unfold keyIx at h
    rw [List.findIdx?_cons] at h
    by_cases q : j = k
    · simp only [q, decide_true, if_true] at h
      cases h
      cases h2
      unfold getK
      rw [List.find?_cons_of_pos (by simpa using q)]
      rfl
    · simp only [q, decide_false, Bool.false_eq_true, if_false] at h
      cases e : es.findIdx? (fun e => decide (e.1 = k)) with
      | none => rw [e] at h; cases h
      | some i =>
        rw [e] at h
        cases h
        have h2 : (es.map (·.2))[i]? = some c := h2
        unfold getK
        rw [List.find?_cons_of_neg (by simpa using q)]
        exact getK_ix e h2
theorem keyIx_val {κ : Type} [DecidableEq κ] {k : κ} : ∀ {kvs : List (κ × V)} {es : List (κ × D)} {m : Nat} {u : V}, kvs.map (·.1) = es.map (·.1) → keyIx es k = some m → (kvs.map (·.2))[m]? = some u → valV kvs k = some u
  | [], [], _, _, _, h, _ => by cases h
  | (j', v) :: kvs, (j, d) :: es, m, c, q, h, h2 => by
    simp only [List.map_cons, List.cons.injEq] at q
    obtain ⟨rfl, q⟩ := q
    unfold keyIx at h
    rw [List.findIdx?_cons] at h
    by_cases e : j' = k
    · simp only [e, decide_true, if_true] at h
      cases h
      cases h2
      unfold valV
      rw [List.find?_cons_of_pos (by simpa using e)]
      rfl
    · simp only [e, decide_false, Bool.false_eq_true, if_false] at h
      cases e' : es.findIdx? (fun e => decide (e.1 = k)) with
      | none => rw [e'] at h; cases h
      | some i =>
        rw [e'] at h
        cases h
        have h2 : (kvs.map (·.2))[i]? = some c := h2
        unfold valV
        rw [List.find?_cons_of_neg (by simpa using e)]
        exact keyIx_val q e' h2
  | [], _ :: _, _, _, q, _, _ => by cases q
  | _ :: _, [], _, _, q, _, _ => by cases q
/-- the part that is read -/
theorem ixNd_ok {w y : V} {c e c' : D} {m : Nat} {B : List Addr} {κ κ' : Kd} (sub : Lk F H) (o : Ow K F H κ w c B) (hκ : κ = .l κ' ∨ κ = .d κ') (ry : Rp K F y e) (h : ixNd c e = some m) (hm : (kids c)[m]? = some c') :
    ∃ a xs u, w = .ref a ∧ Kids F H κ a c xs ∧ xs[m]? = some u ∧ resv c (.ix m) = some m ∧ κ.st (.ix m) = κ' ∧ ∀ Q : VK, Q u H → rIxL K w y H Q ∨ rIxDic w y H Q := by
  have part : ∀ {f : Nat → Kd} {vs : List V} {ds : List D} {A : List Addr}, OwC K F H f vs ds A → ds[m]? = some c' → ∃ u, vs[m]? = some u := fun t hd => by
    have hl := t.length
    have : m < _ := (List.getElem?_eq_some_iff.mp hd).1
    exact ⟨_, List.getElem?_eq_getElem (by rw [hl]; exact this)⟩
  have ryF : Rq K F H y e := .rp ry
  cases o with
  | v r => rcases hκ with h | h <;> cases h
  | @lst k a xs ds A hh t nn =>
    rcases hκ with q | q
    · cases q
      obtain ⟨u, hu⟩ := part t hm
      cases e with
      | int i =>
        have h : ixN ds.length i = some m := h
        refine ⟨a, xs, u, rfl, hh, hu, rfl, rfl, fun Q hq => .inl ⟨a, xs, i, u, rfl, ryF.int, SqL.of hh, ?_, hq⟩⟩
        unfold atI
        rw [t.length, h]
        exact hu
      | _ => cases h
    · cases q
  | @dic k a kvs es A hh q1 t nn =>
    rcases hκ with q | q
    · cases q
    · cases q
      obtain ⟨u, hu⟩ := part t hm
      have h : ((keyD e).bind fun k => keyIx es k) = some m := h
      cases ek : keyD e with
      | none => rw [ek] at h; cases h
      | some k0 =>
        rw [ek] at h
        exact ⟨a, _, u, rfl, ⟨kvs, hh, rfl⟩, hu, rfl, rfl, fun Q hq => .inr ⟨a, u, rfl, .inl ⟨kvs, k0, .inl hh, keyD_v ryF ek, (keyIx_val q1 h hu).symm⟩, hq⟩⟩
  | @dit k a kvs es A hh q1 t nn =>
    rcases hκ with q | q
    · cases q
    · cases q
      obtain ⟨u, hu⟩ := part t hm
      have h : ((keyT e).bind fun k => keyIx es k) = some m := h
      cases ek : keyT e with
      | none => rw [ek] at h; cases h
      | some k0 =>
        rw [ek] at h
        obtain ⟨b, rfl, hb⟩ := keyT_v sub ryF ek
        exact ⟨a, _, u, rfl, ⟨kvs, hh, rfl⟩, hu, rfl, rfl, fun Q hq => .inr ⟨a, u, rfl, .inr ⟨kvs, k0, b, .inl hh, rfl, hb, (keyIx_val q1 h hu).symm⟩, hq⟩⟩
  | dicl => rcases hκ with h | h <;> cases h
  | ditl => rcases hκ with h | h <;> cases h
  | tup => rcases hκ with h | h <;> cases h
  | ins => rcases hκ with h | h <;> cases h
theorem val_s (σ : L2.St) (ts ts' : List V) (i : Nat) : valOf σ ts (.s i) = valOf σ ts' (.s i) := rfl
theorem im_ixA : ∀ σ H Q, tM K W (mIxA ma mb) σ H Q → tOp (fun x y H Q => rIxL K x y H Q ∨ rIxDic x y H Q) (tM K W ma) (tM K W mb) σ H Q := fun σ H Q ⟨τ, G, n, F, ro, Γ, T, ts, ex, k, w, R, g, c⟩ =>
  ⟨τ, G, n, F, ro, Γ, T, ts, ex, _, w, R, g, fun Γ1 s1 T1 x F1 H1 e1 R1 g1 => ⟨τ, G, n, F1, ro, Γ1, s1 :: T1, x :: ts, ex, _, w.mono e1, R1, g1, fun Γ2 s2 T2 y F2 H2 e2 R2 g2 => by
    cases s2 with
    | kd κ2 e =>
      cases κ2 with
      | v =>
        cases T2 with
        | nil => exact (w.no g2).elim
        | cons s T3 =>
          cases s with
          | al j p o =>
            have ry := R2.topV
            have R3 := R2.pop
            obtain ⟨ft, S, q, hv⟩ := R3.top
            have q : EnOk K n F2 H2 _ _ _ _ (.al j p o) := q
            obtain ⟨κ, d, v, w', q1, q2, q3, q4, q5, q6, q7⟩ := q.alOw S
            rw [hv] at q3
            cases q3
            have q1 : (gr ro Γ2 j).own = some (κ, d) := q1
            simp only [q1] at g2
            have key : ∀ κ', (κ.at p = .l κ' ∨ κ.at p = .d κ') → G (if κ'.isV then .no else getK' d p o fun c => bindN (ixNd c e) fun n => bindO (nthD c n) fun c' => k Γ2 (.al j (p ++ [.ix n]) (some c') :: T3)) → rIxL K x y H2 Q ∨ rIxDic x y H2 Q := fun κ' hκ g3 => by
              by_cases hi : κ'.isV = true
              · rw [if_pos hi] at g3; exact (w.no g3).elim
              · rw [if_neg hi] at g3
                obtain ⟨c0, hc, g4⟩ := getK'_ok w.no q5 g3
                obtain ⟨m, hm, g5⟩ := bindN_some w.no g4
                obtain ⟨c', hc', g6⟩ := bindO_some w.no g5
                obtain ⟨B, oB⟩ := q7 c0 hc
                obtain ⟨a, xs, u, e1', e2', e3', e4', e5', fin⟩ := ixNd_ok R2.sub oB hκ ry hm hc'
                refine fin Q ?_
                refine c Γ2 _ T3 u F2 H2 (e1.trans e2) (R3.pop.pushA q1 q2 (VP.snoc e4' hc' e3' q4 hc e1' e2') ?_ fun z hz => ?_) g6
                · rw [at_app, e5']
                  intro e; rw [e] at hi; exact hi rfl
                · cases hz
                  exact getP_app hc e4' hc'
            cases ek : κ.at p with
            | l κ' => rw [ek] at g2; exact key κ' (.inl ek) g2
            | d κ' => rw [ek] at g2; exact key κ' (.inr ek) g2
            | _ => rw [ek] at g2; exact (w.no g2).elim
          | _ => exact (w.no g2).elim
      | _ => exact (w.no g2).elim
    | _ => exact (w.no g2).elim⟩⟩
theorem gx_ixA (hu : X.A.units + 1 < cLine) (ha : PE X a (tM X.K W ma)) (hb : PE X b (tM X.K W mb)) (hs : PlainIx b := by first | exact fun _ _ => rfl) : PE X (.Subscript a b pos) (tM X.K W (mIxA ma mb)) := pe_imp (pe_ix (ix_list.or (ix_dict hu)) ha hb hs) im_ixA
end
end Fx

/-! G: methods that change lists. -/
namespace Fx
open PySem PySem.Spec PyProof.Rows L2
/-- the receiver is a list of one's own -/
def rcL {τ : Type} (ro : Ro) (Γ T : Gm) (k : O τ) : O τ := match T with
  | .al j p o :: _ => (match (gr ro Γ j).own with
    | some (κ, d) => (match κ.at p with
      | .l _ => getK' d p o fun _ => k
      | _ => .no)
    | none => .no)
  | _ => .no
def bindMu {τ : Type} (o : Option (List D × D)) (k : List D → D → O τ) : O τ := match o with
  | some (zs, z) => k zs z
  | none => .no
def lstD : D → Option (List D)
  | .lst l => some l
  | _ => none
def mutV {τ : Type} (ro : Ro) (Γ T : Gm) (f : List D → (List D → D → O τ) → O τ) (k : Gm → Gm → O τ) : O τ := match T with
  | .al j p o :: T0 => (match (gr ro Γ j).own with
    | some (κ, d) => (match κ.at p with
      | .l .v => if isRo (gg Γ j) then .no else getK' d p o fun c => bindL (lstD c) fun ds => f ds fun zs z => setK d p (.lst zs) fun d' => k (putG j p.length d' ro Γ) (.kd .v z :: kMT j p.length ro T0)
      | _ => .no)
    | none => .no)
  | _ => .no
/-- a method that changes a list whose items stay -/
def mMutV (N : Nat) (g : Mu) (mx mr : Me) : Me := fun τ ro Γ T ex k => mx τ ro Γ T ex fun Γ1 T1 => rcL ro Γ1 T1 (mr τ ro Γ1 T1 ex fun Γ2 T2 => popK (List.replicate N .v) T2 fun es T3 => mutV ro Γ2 T3 (fun ds q => bindMu (g ds es) q) k)
def appD (l : List D) (e : D) : Option (List D) := if l.length < sizeLine then some (l ++ [e]) else none
/-- x.append(e), e of a kind -/
def mApp (mx ma : Me) : Me := fun τ ro Γ T ex k => mx τ ro Γ T ex fun Γ1 T1 => rcL ro Γ1 T1 (ma τ ro Γ1 T1 ex fun Γ2 T2 => match T2 with
  | .kd κ e :: .al j p o :: T0 => (match (gr ro Γ2 j).own with
    | some (κj, d) => (match κj.at p with
      | .l κ' => if κ.eqb κ' && !isRo (gg Γ2 j) then getK' d p o fun c => bindL (lstD c) fun ds => bindL (appD ds e) fun zs => setK d p (.lst zs) fun d' => k (putG j p.length d' ro Γ2) (.kd .v .non :: kMT j p.length ro T0) else .no
      | _ => .no)
    | none => .no)
  | _ => .no)
theorem lk_off {F H : Hp} {a : Addr} {o : HO} (s : Lk F H) (h : F a = none) : Lk F (upd H a o) := fun b u e => by
  rw [upd_ne (fun z => by rw [z, h] at e; cases e)]
  exact s b u e
section
variable {K : PySem.W.Frag} {W : WX} {n : Ent} {F F1 H H1 : Hp} {ro : Ro} {Γ T : Gm} {σ : L2.St} {ts : List V} {τ : Type} {G : O τ → Prop} {X : Cx} {pos : Pos} {a b : Expr} {ma mb mx mr : Me} {κ : Kd} {d : D} {v x : V}
theorem Rl.rcL {s : Sl} {kk : O τ} (no : ¬ G .no) (R : Rl K n F ro Γ (s :: T) σ (x :: ts) H) (g : G (Fx.rcL ro Γ (s :: T) kk)) : (∃ a xs, x = .ref a ∧ SqL K H a xs) ∧ G kk := by
  cases s with
  | al j p o =>
    obtain ⟨ft, S, q, hv⟩ := R.top
    have q : EnOk K n F H _ _ _ _ (.al j p o) := q
    obtain ⟨κ, d, v, w', q1, q2, q3, q4, q5, q6, q7⟩ := q.alOw S
    rw [hv] at q3
    cases q3
    have q1 : (gr ro Γ j).own = some (κ, d) := q1
    simp only [Fx.rcL, q1] at g
    cases ek : κ.at p with
    | l κ' =>
      rw [ek] at g
      obtain ⟨c, hc, g1⟩ := getK'_ok no q5 g
      obtain ⟨B, o⟩ := q7 c hc
      rw [ek] at o
      cases o with
      | lst h t nn => exact ⟨⟨_, _, rfl, SqL.of h⟩, g1⟩
    | _ => rw [ek] at g; exact (no g).elim
  | _ => exact (no g).elim
/-- the change of a list whose items stay -/
theorem Rl.mutV {s : Sl} {f : List D → (List D → D → O τ) → O τ} {k : Gm → Gm → O τ} (no : ¬ G .no) (R : Rl K n F ro Γ (s :: T) σ (x :: ts) H) (g : G (Fx.mutV ro Γ (s :: T) f k)) :
    ∃ a xs ds, ∃ k' : List D → D → O τ, x = .ref a ∧ H a = some (.lst xs) ∧ RpL K F xs ds ∧ G (f ds k') ∧ ∀ zs z ws v, RpL K F ws zs → Rp K F v z → G (k' zs z) → ∃ Γ' T', Rl K n F ro Γ' (.kd .v z :: T') σ (v :: ts) (upd H a (.lst ws)) ∧ G (k Γ' (.kd .v z :: T')) := by
  cases s with
  | al j p o =>
    obtain ⟨ft, S, q, hv⟩ := R.top
    have q : EnOk K n F H _ _ _ _ (.al j p o) := q
    obtain ⟨κ, d, v, w', q1, q2, q3, q4, q5, q6, q7⟩ := q.alOw S
    rw [hv] at q3
    cases q3
    have q1 : (gr ro Γ j).own = some (κ, d) := q1
    simp only [Fx.mutV, q1] at g
    cases ek : κ.at p with
    | l κ' =>
      cases κ' with
      | v =>
        rw [ek] at g
        simp only at g
        by_cases hr : isRo (gg Γ j) = true
        · rw [if_pos hr] at g; exact (no g).elim
        · rw [if_neg hr] at g
          obtain ⟨c, hc, g1⟩ := getK'_ok no q5 g
          obtain ⟨ds, hds, g2⟩ := bindL_some no g1
          obtain ⟨ft', w0, Ac, S', f1, f2, f3, f4⟩ := Rl.mut (C := [.al j p o]) (cs := [x]) rfl R (by simpa using hr) q1 q2 (by rw [ek]; intro e; cases e) hc (fun _ _ => trivial)
          cases vp_det (k := .v) f1 q4
          rw [ek] at f2 f4
          cases f2 with
          | @lst _ a xs ds' A hh t nn =>
            cases hds
            obtain ⟨rfl, rp⟩ := owc_v' (fun _ => rfl) t
            have fa : F a = none := (S'.fn _ a (f3 a (by simp))).1
            refine ⟨a, xs, ds, _, rfl, hh, rp, g2, fun zs z ws v rw' rv g3 => ?_⟩
            have hsub : Lk F (upd H a (.lst ws)) := lk_off R.sub fa
            obtain ⟨d', k1, k2⟩ := f4 F (upd H a (.lst ws)) (.lst zs) [a] (.refl _) hsub R.nd (fun b o hb hn => by rw [upd_ne (fun e => hn (by simp [e]))]; exact hb) (fun b o h => .inl (.inl ⟨o, h⟩)) (.lst upd_same (owc_v (fun _ => rfl) rw') (by simp))
              (fun b hb => by simp at hb; subst hb; exact fa) (fun b hb => .inl hb) .v z v [] (.v rv) (fun b hb => by cases hb) (fun b hb => by cases hb) fun b hb => by cases hb
            obtain ⟨d2, h2, g4⟩ := setK_ok no g3
            rw [k1] at h2
            cases h2
            exact ⟨_, _, k2, g4⟩
      | _ => rw [ek] at g; exact (no g).elim
    | _ => rw [ek] at g; exact (no g).elim
  | _ => exact (no g).elim
theorem popV (no : ¬ G .no) {N : Nat} {vs : List V} {k : List D → Gm → O τ} (hl : vs.length = N) (R : Rl K n F ro Γ T σ (vs.reverse ++ ts) H) (g : G (popK (List.replicate N .v) T k)) : ∃ ds T0, RpL K F vs ds ∧ Rl K n F ro Γ T0 σ ts H ∧ G (k ds T0) := by
  obtain ⟨ds, C, T0, rfl, h2, h3, g2, h5⟩ := popK_ok no (by rw [hl, List.length_replicate]) R g
  obtain ⟨ft, S⟩ := R.S
  obtain ⟨A, a1, a2⟩ := h5 ft S
  have q := owc_v' (fun _ => rfl) (a1 (fun _ => .v) fun i hi => by
    rw [List.length_replicate] at hi
    rw [List.reverse_replicate, List.getD_eq_getElem?_getD, List.getElem?_replicate, if_pos hi]
    rfl)
  exact ⟨ds, T0, q.2, Rl.drops (by rw [h2, List.length_reverse]) R, g2⟩
theorem im_mutV {g' : Mu} {N : Nat} : ∀ σ H Q, tM K W (mMutV N g' mx mr) σ H Q → tBM K "list" (rMut K g') (tM K W mx) (tA K W N mr) σ H Q := fun σ H Q ⟨τ, G, n, F, ro, Γ, T, ts, ex, k, w, R, g, c⟩ =>
  ⟨τ, G, n, F, ro, Γ, T, ts, ex, _, w, R, g, fun Γ1 s1 T1 x F1 H1 e1 R1 g1 => by
    obtain ⟨⟨a, xs, rfl, hq⟩, g2⟩ := R1.rcL w.no g1
    refine ⟨.inl ⟨rfl, xs, hq⟩, τ, G, n, F1, ro, Γ1, _, _, ex, _, w.mono e1, R1, g2, fun Γ2 T2 vs F2 H2 e2 hl R2 g3 => ?_⟩
    obtain ⟨es, T3, re, R3, g4⟩ := popV w.no hl R2 g3
    cases T3 with
    | nil => have := R3.lt; simp at this
    | cons s3 T3 =>
      obtain ⟨b, ys, ds, k', eb, hb, rd, g5, fin⟩ := R3.mutV w.no g4
      cases eb
      cases em : g' ds es with
      | none => rw [em] at g5; exact (w.no g5).elim
      | some zz =>
        obtain ⟨zs, z⟩ := zz
        rw [em] at g5
        refine ⟨F2, a, ys, ds, es, zs, z, rfl, hb, rd, re, em, fun v ws rw' rv => ?_⟩
        obtain ⟨Γ', T', R4, g6⟩ := fin zs z ws v rw' rv g5
        exact c Γ' _ T' v F2 _ (e1.trans e2) R4 g6⟩
theorem gx_mutV {es : List Expr} {e o : Expr} {name : Str} {apos cpos : Pos} {g : Mu} {id : String} {N : Nat} (slot : Slot "list" name id) (hty : typeOf (.builtin id) = pure (.type "method_descriptor")) (hm : MtR X id (rMut X.K g)) (ho : PE X o (tM X.K W mx)) (ha : PA X (e :: es) (tA X.K W N mr))
    (hbase : attributeBase o name X.env (eval o X.env) = eval o X.env := by rfl)
    (hfew : ((backTo cpos (starEach (e :: es) X.env)).all (fun x => !x.1) && (backToKw cpos (keywordEach [] X.env)).all (fun x => x.1.isSome) && decide ((e :: es).length + ([] : List Keyword).length + (if ([] : List Keyword).isEmpty then 0 else 1) < 30)) = true := by rfl)
    (hline : (apos.endLine == cpos.line) = true := by rfl) (hs : starEach (e :: es) X.env = (false, eval e X.env) :: starEach es X.env := by rfl) (hplain : (backTo cpos (starEach es X.env)).any (·.1) = false := by rfl) :
    PE X (.Call (.Attribute o name apos) (e :: es) [] cpos) (tM X.K W (mMutV N g mx mr)) := pe_imp (pe_bm PySem.F.plainAttrs_list slot hty hm ho ha hbase hfew hline hs hplain) im_mutV
theorem im_mutV0 {g' : Mu} : ∀ σ H Q, tM K W (mMutV 0 g' mx mNil) σ H Q → tBM0 K "list" (rMut K g') (tM K W mx) σ H Q := fun σ H Q h => by
  have h' := im_mutV (N := 0) σ H Q h
  obtain ⟨τ, G, n, F, ro, Γ, T, ts, ex, k, w, R, g, c⟩ := h'
  refine ⟨τ, G, n, F, ro, Γ, T, ts, ex, k, w, R, g, fun Γ1 s1 T1 x F1 H1 e1 R1 g1 => ?_⟩
  obtain ⟨ty, q⟩ := c Γ1 s1 T1 x F1 H1 e1 R1 g1
  obtain ⟨τ', G', n', F', ro', Γ', T', ts', ex', k', w', R', g', c'⟩ := q
  exact ⟨ty, c' Γ' T' [] F' H1 (.refl _) rfl R' g'⟩
theorem gx_mutV0 {o : Expr} {name : Str} {apos cpos : Pos} {g : Mu} {id : String} (slot : Slot "list" name id) (hty : typeOf (.builtin id) = pure (.type "method_descriptor")) (hm : MtR X id (rMut X.K g)) (ho : PE X o (tM X.K W mx))
    (hbase : attributeBase o name X.env (eval o X.env) = eval o X.env := by rfl) (hline : (apos.endLine == cpos.line) = true := by rfl) :
    PE X (.Call (.Attribute o name apos) [] [] cpos) (tM X.K W (mMutV 0 g mx mNil)) := pe_imp (pe_bm0 PySem.F.plainAttrs_list slot hty hm ho hbase hline) im_mutV0
end
end Fx

/-! G: items of one's own come into lists and dicts; stores. -/
namespace Fx
open PySem PySem.Spec PyProof.Rows L2
/-- c[i] = e, of a list -/
def putI (c i e : D) : Option D := (ixNd c i).map fun n => setKid c n e
def putDn (own : Bool) : D → D → D → Option D
  | .dic es, i, e => if es.length < sizeLine then (keyD i).bind fun k => if own && (getK es k).isSome then none else some (.dic (putD es k e)) else none
  | .dit es, i, e => if es.length < sizeLine then (keyT i).bind fun k => if own && (getK es k).isSome then none else some (.dit (putD es k e)) else none
  | _, _, _ => none
/-- x[i] = e: e, x, i come -/
def mSto (me mx mi : Me) : Ms := fun τ ro Γ ks => me τ ro Γ [] ks.ex fun Γ1 T1 => mx τ ro Γ1 T1 ks.ex fun Γ2 T2 => mi τ ro Γ2 T2 ks.ex fun Γ3 T3 => match T3 with
  | .kd .v i :: .al j p o :: .kd κ e :: _ => (match (gr ro Γ3 j).own with
    | some (κj, d) => (match κj.at p with
      | .l κ' => if κ.eqb κ' && !isRo (gg Γ3 j) then getK' d p o fun c => bindO (putI c i e) fun c' => setK d p c' fun d' => ks.nx (putG j p.length d' ro Γ3) else .no
      | .d κ' => if κ.eqb κ' && !isRo (gg Γ3 j) then getK' d p o fun c => bindO (putDn (!κ'.isV) c i e) fun c' => setK d p c' fun d' => ks.nx (putG j p.length d' ro Γ3) else .no
      | _ => .no)
    | none => .no)
  | _ => .no
section
variable {K : PySem.W.Frag} {W : WX} {n : Ent} {F F1 H H1 : Hp} {ro : Ro} {Γ T : Gm} {σ : L2.St} {ts : List V} {τ : Type} {G : O τ → Prop} {X : Cx} {pos : Pos} {a b : Expr} {ma mb mx mr me mi : Me} {κ κj : Kd} {d e c : D} {v x y : V} {j : Nat} {p : List Stp}
theorem OwC.snoc {v : V} {d : D} {B : List Addr} : ∀ {ds : List D} {f : Nat → Kd} {us : List V} {A : List Addr}, OwC K F H f us ds A → Ow K F H (f us.length) v d B → (∀ x, x ∈ A → x ∉ B) → OwC K F H f (us ++ [v]) (ds ++ [d]) (A ++ B)
  | [], f, _, _, .nil, o, _ => by
    have q := OwC.cons (f := f) (vs := []) (ds := []) (B := []) (A := B) (v := v) (d := d) o .nil (fun x _ h => by cases h)
    rw [List.append_nil] at q
    exact q
  | d0 :: ds, f, _, _, .cons (A := A) (B := B') a t nn, o, hd => by
    rw [List.append_assoc]
    refine .cons a (OwC.snoc t o fun x hx => hd x (List.mem_append_right _ hx)) fun x hx hb => ?_
    rcases List.mem_append.mp hb with z | z
    · exact nn x hx z
    · exact hd x (List.mem_append_left _ hx) z
theorem OwC.setI {y : V} {e : D} {B : List Addr} : ∀ {ds : List D} {f : Nat → Kd} {us : List V} {A : List Addr} {m : Nat}, OwC K F H f us ds A → m < ds.length → Ow K F H (f m) y e B → (∀ x, x ∈ A → x ∉ B) → ∃ A', OwC K F H f (us.set m y) (ds.set m e) A' ∧ ∀ x, x ∈ A' → x ∈ A ∨ x ∈ B
  | [], _, _, _, _, .nil, h, _, _ => by cases h
  | d0 :: ds, f, _, _, 0, .cons (A := A) (B := B') a t nn, h, o, hd => ⟨B ++ B', .cons o t fun x hx hb => hd x (List.mem_append_right _ hb) hx, fun x hx => by
    rcases List.mem_append.mp hx with z | z
    · exact .inr z
    · exact .inl (List.mem_append_right _ z)⟩
  | d0 :: ds, f, _, _, m + 1, .cons (A := A) (B := B') a t nn, h, o, hd => by
    obtain ⟨A', k1, k2⟩ := OwC.setI (m := m) t (by simpa using h) o fun x hx => hd x (List.mem_append_right _ hx)
    refine ⟨A ++ A', .cons a k1 fun x hx hb => ?_, fun x hx => ?_⟩
    · rcases k2 x hb with z | z
      · exact nn x hx z
      · exact hd x (List.mem_append_left _ hx) z
    · rcases List.mem_append.mp hx with z | z
      · exact .inl (List.mem_append_left _ z)
      · rcases k2 x z with y | y
        · exact .inl (List.mem_append_right _ y)
        · exact .inr y
/-- a part gets an item that is used up -/
theorem Rl.mutI {C : Gm} {cs : List V} (hC : C.length = cs.length) (R : Rl K n F ro Γ (C ++ T) σ (cs ++ ts) H) (hr : isRo (gg Γ j) = false) (ho : (gr ro Γ j).own = some (κj, d)) (hv : valOf σ [] (.s j) = some v) (hk : κj.at p ≠ .v) (hc : getP d p = some c) (hx : VP F H κj v d p x)
    {ie : Nat} (hi : T.length ≤ ie) (he : tr ro (C ++ T) ie = .kd κ e) (hy : valOf σ (cs ++ ts) (.t ie) = some y) :
    ∃ Ac B, Ow K F H (κj.at p) x c Ac ∧ Ow K F H κ y e B ∧ (∀ a, a ∈ Ac → a ∉ B) ∧ (∀ a, a ∈ Ac → F a = none) ∧ ∀ a o' c' Ac', a ∈ Ac → Ow K F (upd H a o') (κj.at p) x c' Ac' → (∀ z, z ∈ Ac' → z ∈ Ac ∨ z ∈ B) →
      ∃ d', setP d p c' = some d' ∧ Rl K n F ro (putG j p.length d' ro Γ) (.kd .v .non :: kMT j p.length ro T) σ (.non :: ts) (upd H a o') := by
  obtain ⟨ft, w, Ac, S, f1, f2, f3, f4⟩ := Rl.mut hC R hr ho hv hk hc (fun _ _ => trivial)
  cases vp_det (k := .v) f1 hx
  have q := S.en (.t ie)
  rw [show entOf ro Γ (C ++ T) (.t ie) = .kd κ e from he] at q
  obtain ⟨y', y1, y2⟩ := q
  rw [hy] at y1
  cases y1
  refine ⟨Ac, ft (.t ie), f2, y2, fun a ha => S.dj _ _ (by intro e; cases e) a (f3 a ha), fun a ha => (S.fn _ a (f3 a ha)).1, fun a o' c' Ac' ha o2 sub => ?_⟩
  have fa : F a = none := (S.fn _ a (f3 a ha)).1
  exact f4 F (upd H a o') c' Ac' (.refl _) (lk_off R.sub fa) R.nd (fun b u hb hn => by rw [upd_ne (fun e => hn (by rw [e]; exact ha))]; exact hb) (fun b u h => .inl (.inl ⟨u, h⟩)) o2
    (fun z hz => by
      rcases sub z hz with q | q
      · exact (S.fn _ z (f3 z q)).1
      · exact (S.fn _ z q).1) (fun z hz => by
      rcases sub z hz with q | q
      · exact .inl q
      · exact .inr (.inl ⟨ie, hi, q⟩)) .v .non .non [] (.v .non) (fun b hb => by cases hb) (fun b hb => by cases hb) fun b hb => by cases hb
def rAppO : V → List V → Hp → VK → Prop := fun x vs H Q => ∃ p ys y, x = .ref p ∧ vs = [y] ∧ H p = some (.lst ys) ∧ ys.length < sizeLine ∧ Q .non (upd H p (.lst (ys ++ [y])))
theorem mt_appO : MtR X "list.append" rAppO := by
  intro pins s σ H x xs v us Q I rx rs hh
  obtain ⟨p, ys, y, rfl, rfl, hp, hl, q⟩ := hh
  exact mt_append pins s σ H _ _ v us Q I rx rs ⟨p, ys, _, rfl, rfl, hp, hl, q⟩
theorem tr_top (s : Sl) (T : Gm) (hs : isRo s = false) : tr ro (s :: T) T.length = s := by
  unfold tr
  rw [tb_cons, if_pos rfl]
  cases s <;> first | rfl | cases hs
theorem tr_low {s : Sl} {T : Gm} {i : Nat} (h : i < T.length) : tr ro (s :: T) i = tr ro T i := by
  unfold tr
  rw [tb_cons, if_neg (by omega)]
theorem val_top (v : V) (ts : List V) : valOf σ (v :: ts) (.t ts.length) = some v := by rw [val_push]; simp
theorem val_low {v : V} {ts : List V} {i : Nat} (h : i < ts.length) : valOf σ (v :: ts) (.t i) = valOf σ ts (.t i) := by
  rw [val_push]
  have : ¬ (Ix.t i = Ix.t ts.length) := fun e => by have := Ix.t.inj e; omega
  simp only [if_neg this]
theorem im_app : ∀ σ H Q, tM K W (mApp mx ma) σ H Q → tBM K "list" rAppO (tM K W mx) (tA K W 1 (mCons ma mNil)) σ H Q := fun σ H Q ⟨τ, G, n, F, ro, Γ, T, ts, ex, k, w, R, g, c⟩ =>
  ⟨τ, G, n, F, ro, Γ, T, ts, ex, _, w, R, g, fun Γ1 s1 T1 x F1 H1 e1 R1 g1 => by
    obtain ⟨⟨a, xs, rfl, hq⟩, g2⟩ := R1.rcL w.no g1
    refine ⟨.inl ⟨rfl, xs, hq⟩, τ, G, n, F1, ro, Γ1, _, _, ex, _, w.mono e1, R1, g2, fun Γ2 T2 vs F2 H2 e2 hl R2 g3 => ?_⟩
    cases vs with
    | nil => cases hl
    | cons y vs =>
      obtain rfl : vs = [] := List.length_eq_zero_iff.mp (by simpa using hl)
      have R2 : Rl K n F2 ro Γ2 T2 σ (y :: .ref a :: ts) H2 := R2
      cases T2 with
      | nil => exact (w.no g3).elim
      | cons s2 T2 =>
        cases s2 with
        | kd κ e =>
          cases T2 with
          | nil => exact (w.no g3).elim
          | cons s3 T3 =>
            cases s3 with
            | al j p o =>
              have R3 := R2.pop
              obtain ⟨ft, S, q, hv⟩ := R3.top
              have q : EnOk K n F2 H2 _ _ _ _ (.al j p o) := q
              obtain ⟨κj, d, v, w', q1, q2, q3, q4, q5, q6, q7⟩ := q.alOw S
              rw [hv] at q3
              cases q3
              have q1 : (gr ro Γ2 j).own = some (κj, d) := q1
              simp only [q1] at g3
              cases ek : κj.at p with
              | l κ' =>
                rw [ek] at g3
                simp only at g3
                by_cases hb : (κ.eqb κ' && !isRo (gg Γ2 j)) = true
                · rw [if_pos hb] at g3
                  rw [Bool.and_eq_true] at hb
                  have ekk := Kd.eqb_eq hb.1
                  subst ekk
                  obtain ⟨c0, hc, g4⟩ := getK'_ok w.no q5 g3
                  obtain ⟨ds, hds, g5⟩ := bindL_some w.no g4
                  obtain ⟨zs, hz, g6⟩ := bindL_some w.no g5
                  have lt3 : T3.length = ts.length := by simpa using R3.lt
                  obtain ⟨Ac, B, o1, o2, dj, fn, fin⟩ := Rl.mutI (C := [.kd κ e, .al j p o]) (cs := [y, .ref a]) (T := T3) (ts := ts) (κ := κ) (e := e) (y := y) rfl R2 (by simpa using hb.2) q1 q2 (by rw [ek]; intro e; cases e) hc q4 (ie := T3.length + 1) (by omega)
                    (tr_top (.kd κ e) (.al j p o :: T3) rfl) (by
                      have q := val_top (σ := σ) y (.ref a :: ts)
                      rw [List.length_cons, ← lt3] at q
                      exact q)
                  rw [ek] at o1 fin
                  cases o1 with
                  | @lst _ a' xs' ds' A hh t nn =>
                    cases hds
                    unfold appD at hz
                    split at hz
                    · rename_i hlen
                      cases hz
                      refine ⟨a, xs', y, rfl, rfl, hh, by rw [t.length]; exact hlen, ?_⟩
                      obtain ⟨d', k1, k2⟩ := fin a (.lst (xs' ++ [y])) (.lst (ds ++ [e])) (a :: (A ++ B)) (by simp) (.lst upd_same
                        (OwC.snoc (t.mono (.refl _) fun z hz => upd_ne (fun e => nn (by rw [← e]; exact hz))) (o2.mono (.refl _) fun z hz => upd_ne (fun e => dj a (by simp) (by rw [← e]; exact hz))) fun z hz => dj z (by simp [hz]))
                        (fun h => by
                          rcases List.mem_append.mp h with h | h
                          · exact nn h
                          · exact dj a (by simp) h)) fun z hz => by
                          rcases List.mem_cons.mp hz with rfl | hz
                          · exact .inl (by simp)
                          · rcases List.mem_append.mp hz with h | h
                            · exact .inl (by simp [h])
                            · exact .inr h
                      obtain ⟨d2, h2, g7⟩ := setK_ok w.no g6
                      rw [k1] at h2
                      cases h2
                      exact c _ _ _ _ F2 _ (e1.trans e2) k2 g7
                    · cases hz
                · rw [if_neg hb] at g3; exact (w.no g3).elim
              | _ => rw [ek] at g3; exact (w.no g3).elim
            | _ => exact (w.no g3).elim
        | _ => exact (w.no g3).elim⟩
theorem gx_app {e o : Expr} {apos cpos : Pos} (ho : PE X o (tM X.K W mx)) (ha : PE X e (tM X.K W ma)) (slot : Slot "list" "append" "list.append" := PySem.F.slot_list_append)
    (hbase : attributeBase o "append" X.env (eval o X.env) = eval o X.env := by rfl)
    (hfew : ((backTo cpos (starEach [e] X.env)).all (fun x => !x.1) && (backToKw cpos (keywordEach [] X.env)).all (fun x => x.1.isSome) && decide (([e] : List Expr).length + ([] : List Keyword).length + (if ([] : List Keyword).isEmpty then 0 else 1) < 30)) = true := by rfl)
    (hline : (apos.endLine == cpos.line) = true := by rfl) (hs : starEach [e] X.env = (false, eval e X.env) :: starEach [] X.env := by rfl) (hplain : (backTo cpos (starEach [] X.env)).any (·.1) = false := by rfl) :
    PE X (.Call (.Attribute o "append" apos) [e] [] cpos) (tM X.K W (mApp mx ma)) := pe_imp (pe_bm PySem.F.plainAttrs_list slot rfl mt_appO ho (ga_cons ha ga_nil hs) hbase hfew hline hs hplain) im_app

/-! ### stores -/
theorem rpK_inv {κ : Type} : ∀ {kvs : List (κ × V)} {es : List (κ × D)}, RpK K F kvs es → kvs.map (·.1) = es.map (·.1) ∧ RpL K F (kvs.map (·.2)) (es.map (·.2))
  | _, _, .nil => ⟨rfl, .nil⟩
  | _, _, .cons r t => by
    obtain ⟨h1, h2⟩ := rpK_inv t
    exact ⟨by simp only [List.map_cons, h1], .cons r h2⟩
theorem any_fst {κ : Type} [DecidableEq κ] {α : Type} {k : κ} (es : List (κ × α)) : (es.any fun e => decide (e.1 = k)) = (es.map (·.1)).any fun e => decide (e = k) := by
  induction es with
  | nil => rfl
  | cons a r ih => simp only [List.any_cons, List.map_cons, ih]
theorem getK_none {κ : Type} [DecidableEq κ] {k : κ} {es : List (κ × D)} (h : (getK es k).isSome = false) : (es.any fun e => decide (e.1 = k)) = false := by
  unfold getK at h
  cases e : es.find? (fun e => decide (e.1 = k)) with
  | some z => rw [e] at h; cases h
  | none =>
    rw [List.find?_eq_none] at e
    rw [List.any_eq_false]
    exact e
theorem isV_eq {κ : Kd} (h : κ.isV = true) : κ = .v := by
  cases κ <;> first | rfl | cases h
theorem putDict {κ : Type} [DecidableEq κ] {κ' : Kd} {k : κ} {kvs : List (κ × V)} {es : List (κ × D)} {A B : List Addr} {y : V} {e : D} (q : kvs.map (·.1) = es.map (·.1)) (t : OwC K F H (Kd.ch (.d κ')) (kvs.map (·.2)) (es.map (·.2)) A) (o : Ow K F H κ' y e B) (dj : ∀ x, x ∈ A → x ∉ B) (h : ((!κ'.isV) && (getK es k).isSome) = false) :
    (putK kvs k y).map (·.1) = (putD es k e).map (·.1) ∧ ∃ A', OwC K F H (Kd.ch (.d κ')) ((putK kvs k y).map (·.2)) ((putD es k e).map (·.2)) A' ∧ ∀ x, x ∈ A' → x ∈ A ∨ x ∈ B := by
  by_cases hv : κ'.isV = true
  · have := isV_eq hv
    subst this
    obtain ⟨rfl, rp⟩ := owc_v' (fun _ => rfl) t
    cases o with
    | v r =>
      obtain ⟨h1, h2⟩ := rpK_inv (RpK.put (k := k) (rpK_of q rp) r)
      exact ⟨h1, [], owc_v (fun _ => rfl) h2, fun x h => by cases h⟩
  · have h : (getK es k).isSome = false := by
      cases e1 : κ'.isV with
      | true => exact (hv e1).elim
      | false => rw [e1] at h; simpa using h
    have a1 := getK_none h
    have a2 : (kvs.any fun e => decide (e.1 = k)) = false := by rw [any_fst, q, ← any_fst]; exact a1
    have e1 : putK kvs k y = kvs ++ [(k, y)] := by unfold putK; rw [a2]; rfl
    have e2 : putD es k e = es ++ [(k, e)] := by unfold putD; rw [a1]; rfl
    rw [e1, e2, List.map_append, List.map_append, List.map_append, List.map_append, q]
    exact ⟨rfl, A ++ B, OwC.snoc t o dj, fun x hx => List.mem_append.mp hx⟩
theorem pset_or {t t' : TSet} (h : PSet X t) (h' : PSet X t') : PSet X (fun o i v H Q => t o i v H Q ∨ t' o i v H Q) := fun pins s σ H o i v ov iv u Q I ro ri rv q => q.elim (h pins s σ H o i v ov iv u Q I ro ri rv) (h' pins s σ H o i v ov iv u Q I ro ri rv)
theorem im_sto : ∀ E σ H, tS K W (mSto me mx mi) E σ H → tAsg (tM K W me) (gSub (tM K W mx) (tM K W mi) (fun o i v H Q => rSetL o i v H Q ∨ rSetD o i v H Q)) E σ H := fun E σ H ⟨τ, G, n, F, ro, Γ, ks, w, R, g⟩ =>
  ⟨τ, G, n, F, ro, Γ, [], [], ks.ex, _, w.wi, R, g, fun Γ1 s1 T1 y F1 H1 e1 R1 g1 => ⟨τ, G, n, F1, ro, Γ1, s1 :: T1, [y], ks.ex, _, (w.mono e1).wi, R1, g1, fun Γ2 s2 T2 x F2 H2 e2 R2 g2 => ⟨τ, G, n, F2, ro, Γ2, s2 :: T2, [x, y], ks.ex, _, (w.mono (e1.trans e2)).wi, R2, g2, fun Γ3 s3 T3 iv F3 H3 e3 R3 g3 => by
    cases s3 with
    | kd κi i =>
      cases κi with
      | v =>
        cases T3 with
        | nil => exact (w.no g3).elim
        | cons s2' T3 =>
          cases s2' with
          | al j p o =>
            cases T3 with
            | nil => exact (w.no g3).elim
            | cons s1' T3 =>
              cases s1' with
              | kd κ e =>
                have e0 : T3 = [] := by have := R3.lt; simp at this; exact this
                subst e0
                have ri := R3.topV
                have R4 := R3.pop
                obtain ⟨ft, S, q, hv⟩ := R4.top
                have q : EnOk K n F3 H3 _ _ _ _ (.al j p o) := q
                obtain ⟨κj, d, v, w', q1, q2, q3, q4, q5, q6, q7⟩ := q.alOw S
                rw [hv] at q3
                cases q3
                have q1 : (gr ro Γ3 j).own = some (κj, d) := q1
                simp only [q1] at g3
                have core : ∀ {κ'} {c0 : D}, (κ.eqb κ' && !isRo (gg Γ3 j)) = true → κj.at p ≠ .v → getP d p = some c0 → κ = κ' ∧ ∃ Ac B, Ow K F3 H3 (κj.at p) x c0 Ac ∧ Ow K F3 H3 κ y e B ∧ (∀ a, a ∈ Ac → a ∉ B) ∧ (∀ a, a ∈ Ac → F3 a = none) ∧ ∀ a o' c' Ac', a ∈ Ac → Ow K F3 (upd H3 a o') (κj.at p) x c' Ac' → (∀ z, z ∈ Ac' → z ∈ Ac ∨ z ∈ B) →
                    ∃ d', setP d p c' = some d' ∧ Rl K n F3 ro (putG j p.length d' ro Γ3) [.kd .v .non] σ [.non] (upd H3 a o') := fun {κ' c0} hb hk hc => by
                  rw [Bool.and_eq_true] at hb
                  refine ⟨Kd.eqb_eq hb.1, ?_⟩
                  exact Rl.mutI (C := [.kd .v i, .al j p o, .kd κ e]) (cs := [iv, x, y]) (T := []) (ts := []) (κ := κ) (e := e) (y := y) rfl R3 (by simpa using hb.2) q1 q2 hk hc q4 (ie := 0) (Nat.le_refl _) rfl rfl
                cases ek : κj.at p with
                | l κ' =>
                  rw [ek] at g3
                  simp only at g3
                  by_cases hb : (κ.eqb κ' && !isRo (gg Γ3 j)) = true
                  · rw [if_pos hb] at g3
                    obtain ⟨c0, hc, g4⟩ := getK'_ok w.no q5 g3
                    obtain ⟨c', hc', g5⟩ := bindO_some w.no g4
                    obtain ⟨rfl, Ac, B, o1, o2, dj, fn, fin⟩ := core hb (by rw [ek]; intro e; cases e) hc
                    rw [ek] at o1 fin
                    cases o1 with
                    | @lst _ a xs ds A hh t nn =>
                      unfold putI at hc'
                      cases em : ixNd (.lst ds) i with
                      | none => rw [em] at hc'; cases hc'
                      | some m =>
                        rw [em] at hc'
                        cases hc'
                        cases i with
                        | int i =>
                          have em : ixN ds.length i = some m := em
                          have hm : m < ds.length := (ixN_seq em).2.1
                          obtain ⟨A', k1, k2⟩ := OwC.setI (m := m) (t.mono (.refl _) (H' := upd H3 a (.lst (xs.set m y))) fun z hz => upd_ne (fun e => nn (by rw [← e]; exact hz))) hm (o2.mono (.refl _) fun z hz => upd_ne (fun e => dj a (by simp) (by rw [← e]; exact hz))) fun z hz => dj z (by simp [hz])
                          obtain ⟨d', z1, z2⟩ := fin a (.lst (xs.set m y)) (.lst (ds.set m e)) (a :: A') (by simp) (.lst upd_same k1 (fun h => by
                            rcases k2 _ h with h | h
                            · exact nn h
                            · exact dj a (by simp) h)) fun z hz => by
                            rcases List.mem_cons.mp hz with rfl | hz
                            · exact .inl (by simp)
                            · rcases k2 _ hz with h | h
                              · exact .inl (by simp [h])
                              · exact .inr h
                          obtain ⟨d2, h2, g7⟩ := setK_ok w.no g5
                          have h2 : setP d p (.lst (ds.set m e)) = some d2 := h2
                          rw [z1] at h2
                          cases h2
                          refine .inl ⟨a, xs, i, m, rfl, (Rq.rp (H := H3) ri).int, hh, by rw [t.length]; exact em, ?_⟩
                          exact w.nx _ σ F3 _ (e1.trans (e2.trans e3)) z2.pop g7
                        | _ => cases em
                  · rw [if_neg hb] at g3; exact (w.no g3).elim
                | d κ' =>
                  rw [ek] at g3
                  simp only at g3
                  by_cases hb : (κ.eqb κ' && !isRo (gg Γ3 j)) = true
                  · rw [if_pos hb] at g3
                    obtain ⟨c0, hc, g4⟩ := getK'_ok w.no q5 g3
                    obtain ⟨c', hc', g5⟩ := bindO_some w.no g4
                    obtain ⟨rfl, Ac, B, o1, o2, dj, fn, fin⟩ := core hb (by rw [ek]; intro e; cases e) hc
                    rw [ek] at o1 fin
                    have done : ∀ (a : Addr) (A A' : List Addr) (u : HO), Ac = a :: A → Ow K F3 (upd H3 a u) (.d κ) x c' (a :: A') → (∀ z, z ∈ A' → z ∈ A ∨ z ∈ B) → E.nx σ (upd H3 a u) := fun a A A' u hA ho hs => by
                      obtain ⟨d', z1, z2⟩ := fin a u c' (a :: A') (by rw [hA]; simp) ho fun z hz => by
                        rcases List.mem_cons.mp hz with rfl | hz
                        · exact .inl (by rw [hA]; simp)
                        · rcases hs _ hz with h | h
                          · exact .inl (by rw [hA]; simp [h])
                          · exact .inr h
                      obtain ⟨d2, h2, g7⟩ := setK_ok w.no g5
                      rw [z1] at h2
                      cases h2
                      exact w.nx _ σ F3 _ (e1.trans (e2.trans e3)) z2.pop g7
                    cases o1 with
                    | @dic _ a kvs es A hh qq t nn =>
                      have hc' : (if es.length < sizeLine then (keyD i).bind fun k => if (!κ.isV) && (getK es k).isSome then none else some (.dic (putD es k e)) else none) = some c' := hc'
                      split at hc'
                      · rename_i hlen
                        cases ei : keyD i with
                        | none => rw [ei] at hc'; cases hc'
                        | some k =>
                          rw [ei] at hc'
                          have hc' : (if (!κ.isV) && (getK es k).isSome then none else some (.dic (putD es k e))) = some c' := hc'
                          split at hc'
                          · cases hc'
                          · rename_i hn
                            cases hc'
                            obtain ⟨p1, A', p2, p3⟩ := putDict (k := k) qq (t.mono (.refl _) (H' := upd H3 a (.dK (putK kvs k y))) fun z hz => upd_ne (fun e => nn (by rw [← e]; exact hz))) (o2.mono (.refl _) fun z hz => upd_ne (fun e => dj a (by simp) (by rw [← e]; exact hz))) (fun z hz => dj z (by simp [hz])) (by simpa using hn)
                            refine .inr ⟨a, upd H3 a (.dK (putK kvs k y)), rfl, .inl ⟨kvs, k, hh, keyD_v (Rq.rp (H := H3) ri) ei, ?_, rfl⟩, done a A A' _ rfl (.dic upd_same p1 p2 fun h => ?_) p3⟩
                            · have := congrArg List.length qq; simp at this; omega
                            · rcases p3 _ h with h | h
                              · exact nn h
                              · exact dj a (by simp) h
                      · cases hc'
                    | @dit _ a kvs es A hh qq t nn =>
                      have hc' : (if es.length < sizeLine then (keyT i).bind fun k => if (!κ.isV) && (getK es k).isSome then none else some (.dit (putD es k e)) else none) = some c' := hc'
                      split at hc'
                      · rename_i hlen
                        cases ei : keyT i with
                        | none => rw [ei] at hc'; cases hc'
                        | some k =>
                          rw [ei] at hc'
                          have hc' : (if (!κ.isV) && (getK es k).isSome then none else some (.dit (putD es k e))) = some c' := hc'
                          split at hc'
                          · cases hc'
                          · rename_i hn
                            cases hc'
                            obtain ⟨b, eb, hb'⟩ := keyT_v R3.sub (Rq.rp (H := H3) ri) ei
                            obtain ⟨p1, A', p2, p3⟩ := putDict (k := k) qq (t.mono (.refl _) (H' := upd H3 a (.dT (putK kvs k y))) fun z hz => upd_ne (fun e => nn (by rw [← e]; exact hz))) (o2.mono (.refl _) fun z hz => upd_ne (fun e => dj a (by simp) (by rw [← e]; exact hz))) (fun z hz => dj z (by simp [hz])) (by simpa using hn)
                            refine .inr ⟨a, upd H3 a (.dT (putK kvs k y)), rfl, .inr ⟨kvs, k, b, hh, eb, hb', ?_, rfl⟩, done a A A' _ rfl (.dit upd_same p1 p2 fun h => ?_) p3⟩
                            · have := congrArg List.length qq; simp at this; omega
                            · rcases p3 _ h with h | h
                              · exact nn h
                              · exact dj a (by simp) h
                      · cases hc'
                  · rw [if_neg hb] at g3; exact (w.no g3).elim
                | _ => rw [ek] at g3; exact (w.no g3).elim
              | _ => exact (w.no g3).elim
          | _ => exact (w.no g3).elim
      | _ => exact (w.no g3).elim
    | _ => exact (w.no g3).elim⟩⟩⟩
theorem sx_sto {o i e : Expr} {pos' : Pos} (hu : X.A.units + 1 < cLine) (he : PE X e (tM X.K W me)) (ho : PE X o (tM X.K W mx)) (hi : PE X i (tM X.K W mi))
    (ha : ∀ v, assign (.Subscript o i pos') X.env v = (do
      let ov ← holding [v] (eval o X.env)
      let iv ← holding [v, ov] (eval i X.env)
      standAt pos'
      holding [v, ov, iv] (setItem ov iv v)
      release [v, ov, iv] []) := by intro _; rfl)
    (hs : swapsWithSole [.Subscript o i pos'] e pos.line X.env = pure false := by rfl) (hw : swappedStores [.Subscript o i pos'] e X.env = pure none := by rfl)
    (h1 : (assignEach [.Subscript o i pos'] X.env).map (·.2) = [assign (.Subscript o i pos') X.env] := by rfl) : PS X (.Assign [.Subscript o i pos'] e pos) (tS X.K W (mSto me mx mi)) :=
  ps_imp (ps_asg he (pg_sub ho hi (pset_or set_list (set_dict hu)) ha) hs hw h1) im_sto
end
end Fx

/-! G: list comprehensions. -/
namespace Fx
open PySem PySem.Spec PyProof.Rows L2
def AgrS (S : List Nat) (σ σ' : L2.St) : Prop := σ'.length = σ.length ∧ ∀ i, i ∉ S → σ'[i]? = σ[i]?
theorem AgrS.refl (S : List Nat) (σ : L2.St) : AgrS S σ σ := ⟨rfl, fun _ _ => rfl⟩
theorem AgrS.trans {S : List Nat} {a b c : L2.St} (h : AgrS S a b) (h' : AgrS S b c) : AgrS S a c := ⟨h'.1.trans h.1, fun i hi => (h'.2 i hi).trans (h.2 i hi)⟩
theorem wipe_inS {i : Nat} {vs : List Nat} (hi : i ∈ vs) (σ : L2.St) : (L2.wipe σ vs)[i]? = if i < σ.length then some none else none := by
  induction vs with
  | nil => cases hi
  | cons v vs ih =>
    unfold L2.wipe
    by_cases hv : v = i
    · subst hv
      split
      · rename_i hl; rw [List.getElem?_set_self (by rw [wipe_length]; exact hl)]
      · rename_i hl; rw [List.getElem?_eq_none (by rw [List.length_set, wipe_length]; omega)]
    · rw [List.getElem?_set_ne hv]
      exact ih ((List.mem_cons.mp hi).resolve_left fun e => hv e.symm)
theorem agr_wipeS {S vs : List Nat} {σ σ' : L2.St} (a : AgrS S σ σ') (h : ∀ i, i ∈ S → i ∈ vs) : L2.wipe σ' vs = L2.wipe σ vs := by
  apply List.ext_getElem?
  intro i
  by_cases hi : i ∈ vs
  · rw [wipe_inS hi, wipe_inS hi, a.1]
  · rw [wipe_out hi, wipe_out hi]
    exact a.2 i fun e => hi (h i e)
theorem wipe_wipeS (σ : L2.St) (vs : List Nat) : L2.wipe (L2.wipe σ vs) vs = L2.wipe σ vs := by
  apply List.ext_getElem?
  intro i
  by_cases hi : i ∈ vs
  · rw [wipe_inS hi, wipe_inS hi, wipe_length]
  · rw [wipe_out hi]

/-! ### targets -/
def tC (K : PySem.W.Frag) (S : List Nat) (g : Mg) : TG := fun v σ H Q => ∃ (τ : Type) (G : O τ → Prop) (n : Ent) (F : Hp) (ro : Ro) (Γ T : Gm) (ts : List V) (d : D) (k : Gm → O τ), ¬ G .no ∧ Rl K n F ro Γ T σ ts H ∧ (∀ i, i ∈ S → ∀ x, ¬ (tr ro T x).of (.s i)) ∧ Rp K F v d ∧ G (g τ d ro Γ k) ∧
  ∀ Γ' σ', AgrS S σ σ' → Rl K n F ro Γ' T σ' ts H → G (k Γ') → Q σ' H
def tCL (K : PySem.W.Frag) (S : List Nat) (g : MgL) : TGs := fun vs σ H Q => ∃ (τ : Type) (G : O τ → Prop) (n : Ent) (F : Hp) (ro : Ro) (Γ T : Gm) (ts : List V) (ds : List D) (k : Gm → O τ), ¬ G .no ∧ Rl K n F ro Γ T σ ts H ∧ (∀ i, i ∈ S → ∀ x, ¬ (tr ro T x).of (.s i)) ∧ RpL K F vs ds ∧ G (g τ ds ro Γ k) ∧
  ∀ Γ' σ', AgrS S σ σ' → Rl K n F ro Γ' T σ' ts H → G (k Γ') → Q σ' H
section
variable {K : PySem.W.Frag} {W : WX} {n : Ent} {F F1 H H1 : Hp} {ro : Ro} {Γ Γ' T : Gm} {σ : L2.St} {ts : List V} {τ : Type} {G : O τ → Prop} {X : Cx} {pos : Pos} {κ : Kd} {d e : D} {v x y : V} {m : List Bm} {S : List Nat}
/-- slot i gets what stays -/
theorem Rl.assignT {i : Nat} (R : Rl K n F ro Γ T σ ts H) (r : Rp K F v d) (hi : isRo (gg Γ i) = false) (hT : ∀ x, ¬ (tr ro T x).of (.s i)) : Rl K n F ro (gs (kG i ro 0 Γ) i (.kd .v d)) T (σ.set i (some v)) ts H := by
  have R1 := R.kill i hT
  refine ⟨by rw [gs_len, List.length_set]; exact R1.ls, R1.lt, ?_⟩
  by_cases hl : i < Γ.length
  · have hσ : i < σ.length := by rw [← R.ls]; exact hl
    have noal : ∀ x, ¬ (entOf ro (kG i ro 0 Γ) T x).of (.s i) := fun x => by
      cases x with
      | s j =>
        show ¬ (gr ro (kG i ro 0 Γ) j).of (.s i)
        rw [gr_kG]
        by_cases h : ofB i (gr ro Γ j) = true
        · rw [if_pos h]; exact fun z => z
        · rw [if_neg h]; exact fun z => h (ofB_of.mpr z)
      | t j => exact hT j
    have S := R1.S.put (y := .s i) r fun x _ => noal x
    have e1 : entOf ro (gs (kG i ro 0 Γ) i (.kd .v d)) T = fun z => if z = .s i then .kd .v d else entOf ro (kG i ro 0 Γ) T z := by
      funext z
      cases z with
      | s j =>
        show gr ro (gs (kG i ro 0 Γ) i (.kd .v d)) j = _
        by_cases h : j = i
        · subst h
          rw [if_pos rfl]
          unfold gr
          rw [gg_set, if_pos ⟨rfl, by rw [kG_len]; exact hl⟩]; rfl
        · rw [if_neg (fun e => h (Ix.s.inj e))]
          unfold gr
          rw [gg_set, if_neg (fun q => h q.1)]
          rfl
      | t j => rw [if_neg (by intro e; cases e)]; rfl
    have e2 : valOf (σ.set i (some v)) ts = fun z => if z = .s i then some v else valOf σ ts z := by
      funext z
      cases z with
      | s j =>
        show ((σ.set i (some v))[j]?).join = _
        by_cases h : j = i
        · subst h
          rw [if_pos rfl, List.getElem?_set_self hσ]; rfl
        · rw [if_neg (fun e => h (Ix.s.inj e)), List.getElem?_set_ne (Ne.symm h)]
          rfl
      | t j => rw [if_neg (by intro e; cases e)]; rfl
    rw [e1, e2]
    exact S
  · have key : ∀ (L : Gm) (i : Nat) (s : Sl), ¬ i < L.length → gs L i s = L := fun L => by
      induction L with
      | nil => intro i s _; rfl
      | cons x r ih =>
        intro i s h
        cases i with
        | zero => simp at h
        | succ i => simp only [gs, ih i s (by simpa using h)]
    rw [key _ _ _ (by rw [kG_len]; exact hl), List.set_eq_of_length_le (by rw [← R.ls]; omega)]
    exact R1.S
theorem gc_name {i : Nat} {x : Str} (hN : X.N.Nodup) (hi : X.N[i]? = some x) (hx : Loc X.env.scope x) (hS : i ∈ S) (hf : X.fn x = true ∨ X.env.scope.names.lookup x = some .local := by first | exact .inl rfl | exact .inr rfl | assumption) : PG X (.Name x pos) (tC X.K S (gN i)) :=
  pg_imp (pg_name hN hi hx hf) fun v σ H Q ⟨τ, G, n, F, ro, Γ, T, ts, d, k, no, R, hT, r, g, c⟩ => by
    have g : G (if isRo (gg Γ i) || isIo (gg Γ i) || ofB i (.kd .v d) then .no else k (gs (kG i ro 0 Γ) i (.kd .v d))) := g
    split at g
    · exact (no g).elim
    · rename_i h
      simp only [Bool.or_eq_true, not_or, Bool.not_eq_true] at h
      refine c _ _ ⟨by simp, fun j hj => ?_⟩ (R.assignT r h.1.1 (hT i hS)) g
      rw [List.getElem?_set_ne (fun e => hj (by rw [← e]; exact hS))]
theorem gcs_nil : PGs X [] (tCL X.K S gN0) := pgs_imp pgs_nil fun v σ H Q ⟨τ, G, n, F, ro, Γ, T, ts, ds, k, no, R, hT, r, g, c⟩ => by
  cases ds with
  | nil => cases r; exact ⟨rfl, c _ _ (.refl _ _) R g⟩
  | cons d ds => exact (no g).elim
theorem gcs_cons {e : Expr} {es : List Expr} {g : Mg} {r : MgL} (h1 : PG X e (tC X.K S g)) (h2 : PGs X es (tCL X.K S r))
    (hs : (assignEach (e :: es) X.env).map (·.2) = assign e X.env :: (assignEach es X.env).map (·.2) := by rfl) : PGs X (e :: es) (tCL X.K S (gNC g r)) := pgs_imp (pgs_cons h1 h2 hs) fun v σ H Q ⟨τ, G, n, F, ro, Γ, T, ts, ds, k, no, R, hT, rr, gg', c⟩ => by
  cases rr with
  | nil => exact (no gg').elim
  | @cons v vs d ds r1 r2 => exact ⟨v, vs, rfl, τ, G, n, F, ro, Γ, T, ts, d, _, no, R, hT, r1, gg', fun Γ1 σ1 a1 R1 g1 => ⟨τ, G, n, F, ro, Γ1, T, ts, ds, k, no, R1, hT, r2, g1, fun Γ2 σ2 a2 => c Γ2 σ2 (a1.trans a2)⟩⟩
theorem gc_tup {es : List Expr} {k : Nat} {g : MgL} {n : Nat} (hc : X.calm = true) (h : PGs X es (tCL X.K S g))
    (hn : (assignEach es X.env).length = n := by rfl) (hst : (assignEach es X.env).findIdx? (·.1) = none := by rfl) : PG X (.Tuple es k pos) (tC X.K S (gT n g)) :=
  pg_imp (pg_alt (pg_tup (n := n) hc h hn hst) (pg_lst (n := n) hc h hn hst)) fun v σ H Q ⟨τ, G, n', F, ro, Γ, T, ts, d, kk, no, R, hT, r, gg', c⟩ => by
    obtain ⟨ds, hd, g1⟩ := bindL_some no gg'
    unfold unpk at hd
    split at hd
    · split at hd
      · rename_i hl
        cases hd
        rw [bindU_ok hl] at g1
        cases r with
        | tup a t => exact .inl ⟨_, _, rfl, SqT.of (R.sub.at a rfl), by rw [t.length]; exact hl, τ, G, n', F, ro, Γ, T, ts, _, kk, no, R, hT, t, g1, c⟩
      · cases hd
    · split at hd
      · rename_i hl
        cases hd
        rw [bindU_ok hl] at g1
        cases r with
        | lst a t => exact .inr ⟨_, _, rfl, R.sub.seq a, by rw [t.length]; exact hl, τ, G, n', F, ro, Γ, T, ts, _, kk, no, R, hT, t, g1, c⟩
      · cases hd
    · cases hd

/-! ### the same at other slots -/
theorem Rl.sig {σ' : L2.St} (R : Rl K n F ro Γ T σ ts H) (hl : σ'.length = σ.length) (h : ∀ i, gr ro Γ i ≠ .un → σ'[i]? = σ[i]?) : Rl K n F ro Γ T σ' ts H := by
  refine ⟨R.ls.trans hl.symm, R.lt, ?_⟩
  obtain ⟨ft, S⟩ := R.S
  refine Sim.wk ⟨ft, S⟩ (fun x => ?_) fun x j p o e => ⟨rfl, ?_⟩
  · cases x with
    | s i =>
      by_cases hi : gr ro Γ i = .un
      · exact .inr (.inl hi)
      · refine .inl ⟨rfl, ?_⟩
        show (σ'[i]?).join = (σ[i]?).join
        rw [h i hi]
    | t i => exact .inl ⟨rfl, rfl⟩
  · have q := S.en x
    rw [e] at q
    obtain ⟨k, d, v, w, h1, _⟩ := q
    have h1 : (gr ro Γ j).own = some (k, d) := h1
    show (σ'[j]?).join = (σ[j]?).join
    rw [h j (fun z => by rw [z] at h1; cases h1)]
/-- once more into the block, over temporaries -/
theorem Rl.againT (h : okD m ro Γ T = true) {ds : List D} (hd : extG m (resG ro 0 Γ) Γ' = some ds) (R : Rl K n F (roB ro Γ T) Γ' (hidT T) σ ts H) : Rl K n F (roB ro Γ T) (entG m (back m (resG ro 0 Γ) (resG ro 0 Γ) ds)) (hidT T) σ ts H := by
  obtain ⟨h1, h2, h3, h4⟩ := extG_bk (Γ := resG ro 0 Γ) rfl hd
  have lg : (entG m (back m (resG ro 0 Γ) (resG ro 0 Γ) ds)).length = Γ'.length := by rw [entG_len, h1, h2]
  have key : ∀ i, gr (roB ro Γ T) (entG m (back m (resG ro 0 Γ) (resG ro 0 Γ) ds)) i = if (mkB m i).isDd then .un else gr (roB ro Γ T) Γ' i := fun i => by
    by_cases hi : i < (resG ro 0 Γ).length
    · have q := h4 i hi
      unfold gr
      rw [gg_entG, h1, if_pos hi]
      cases e : mkB m i with
      | st k =>
        rw [e] at q
        obtain ⟨d, q1, q2⟩ := q
        simp only [Bm.isDd, Bool.false_eq_true, if_false]
        rw [q1, q2]
      | ro =>
        rw [e] at q
        simp only [Bm.isDd, Bool.false_eq_true, if_false]
        rw [q.1]
      | dd => rfl
    · rw [gr_out (by rw [lg, h2]; omega), gr_out (by rw [h2]; omega)]
      split <;> rfl
  refine ⟨by rw [lg]; exact R.ls, R.lt, R.S.wk (fun x => ?_) fun x j p o e => ⟨?_, rfl⟩⟩
  · cases x with
    | s i =>
      show (gr _ _ i = gr _ Γ' i ∧ _) ∨ gr _ _ i = .un ∨ _
      rw [key]
      cases (mkB m i).isDd with
      | true => exact .inr (.inl rfl)
      | false => exact .inl ⟨rfl, rfl⟩
    | t i => exact .inl ⟨rfl, rfl⟩
  · show gr _ _ j = gr _ Γ' j
    rw [key]
    have nd : (mkB m j).isDd = false := by
      cases x with
      | s i =>
        have e : gr (roB ro Γ T) (entG m (back m (resG ro 0 Γ) (resG ro 0 Γ) ds)) i = .al j p o := e
        rw [key] at e
        split at e
        · cases e
        · by_cases hi : i < (resG ro 0 Γ).length
          · have q := h4 i hi
            unfold gr at e
            cases em : mkB m i with
            | st k =>
              rw [em] at q
              obtain ⟨d, q1, q2⟩ := q
              rw [q1] at e
              cases eg : gg (resG ro 0 Γ) i <;> rw [eg] at e <;> cases e
            | ro =>
              rw [em] at q
              rw [q.1] at e
              have e : gg (resG ro 0 Γ) i = .al j p o := e
              have qr := gg_resG (ro := ro) Γ 0 i
              rw [Nat.zero_add, e] at qr
              exact okD_s h (i := i) qr.symm
            | dd =>
              rename_i hd'
              exact absurd (by rw [em]; rfl) hd'
          · rw [gr_out (by rw [h2]; omega)] at e; cases e
      | t i =>
        have e : tr (roB ro Γ T) (hidT T) i = .al j p o := e
        rw [tr_hid] at e
        exact okD_t h e
    rw [nd]; rfl
/-- the list that grows, over temporaries -/
theorem Rl.growA {acc : List D} {D0 : Addr} (R : Rl K n F (roB ro Γ (.kd (.l κ) (.lst acc) :: T)) Γ' (.kd κ e :: hidT (.kd (.l κ) (.lst acc) :: T)) σ (y :: .ref D0 :: ts) H) : ∃ xs, H D0 = some (.lst xs) ∧ xs.length = acc.length ∧
    Rl K n F (roB ro Γ (.kd (.l κ) (.lst (acc ++ [e])) :: T)) Γ' (hidT (.kd (.l κ) (.lst (acc ++ [e])) :: T)) σ (.ref D0 :: ts) (upd H D0 (.lst (xs ++ [y]))) := by
  obtain ⟨ft, S⟩ := R.S
  have lt : T.length = ts.length := by have := R.lt; simp [hidT_len] at this; exact this
  have hlen : (hidT (.kd (.l κ) (.lst acc) :: T)).length = T.length + 1 := by rw [hidT_len]; rfl
  have trA : ∀ (a : List D) (i : Nat), i ≤ T.length → tr (roB ro Γ (.kd (.l κ) (.lst a) :: T)) (hidT (.kd (.l κ) (.lst a) :: T)) i = if i = T.length then .kd (.l κ) (.lst a) else tr ro T i := fun a i hi => by
    rw [tr_hid]
    by_cases h : i = T.length
    · subst h
      rw [if_pos rfl]
      exact tr_top _ _ rfl
    · rw [if_neg h]
      exact tr_low (by omega)
  have trE : ∀ i, tr (roB ro Γ (.kd (.l κ) (.lst acc) :: T)) (.kd κ e :: hidT (.kd (.l κ) (.lst acc) :: T)) i = if i = T.length + 1 then .kd κ e else tr (roB ro Γ (.kd (.l κ) (.lst acc) :: T)) (hidT (.kd (.l κ) (.lst acc) :: T)) i := fun i => by
    by_cases h : i = T.length + 1
    · rw [if_pos h, h, ← hlen]
      exact tr_top _ _ rfl
    · rw [if_neg h]
      by_cases h1 : i < T.length + 1
      · exact tr_low (by rw [hlen]; exact h1)
      · unfold tr tb
        rw [if_neg (by simp [hlen]; omega), if_neg (by rw [hlen]; omega)]
  have q1 := S.en (.t (T.length + 1))
  rw [show entOf _ _ _ (.t (T.length + 1)) = .kd κ e from (trE _).trans (if_pos rfl)] at q1
  have q2 := S.en (.t T.length)
  rw [show entOf _ _ _ (.t T.length) = .kd (.l κ) (.lst acc) from (trE _).trans ((if_neg (by omega)).trans ((trA acc _ (Nat.le_refl _)).trans (if_pos rfl)))] at q2
  obtain ⟨v1, a1, o1⟩ := q1
  obtain ⟨v2, a2, o2⟩ := q2
  have hv1 : valOf σ (y :: .ref D0 :: ts) (.t (T.length + 1)) = some y := by rw [lt]; exact val_top (σ := σ) y (.ref D0 :: ts)
  have hv2 : valOf σ (y :: .ref D0 :: ts) (.t T.length) = some (.ref D0) := by rw [lt, val_low (by simp)]; exact val_top (σ := σ) (.ref D0) ts
  rw [hv1] at a1; cases a1
  rw [hv2] at a2; cases a2
  generalize hB : ft (.t (T.length + 1)) = B at o1
  generalize hA : ft (.t T.length) = A0 at o2
  cases o2 with
  | @lst _ a xs ds A hh t nn =>
    have dAB : ∀ z, z ∈ D0 :: A → z ∉ B := fun z hz => by rw [← hA] at hz; rw [← hB]; exact S.dj _ _ (by intro e; have := Ix.t.inj e; omega) z hz
    have fD : F D0 = none := (S.fn (.t T.length) D0 (by rw [hA]; simp)).1
    refine ⟨xs, hh, t.length, R.ls, by simp [hidT_len, lt], ?_⟩
    let ft' : Ix → List Addr := fun z => if z = .t T.length then D0 :: (A ++ B) else if z = .t (T.length + 1) then [] else ft z
    have off : ∀ z, z ≠ .t T.length → ∀ a, a ∈ ft z → a ≠ D0 := fun z hz a ha e => S.dj z (.t T.length) hz a ha (by rw [hA, e]; simp)
    refine ⟨ft', S.step (fun b => b = D0) (.refl _) (lk_off S.sub fD) S.nd (fun b o hb hn => by rw [upd_ne hn]; exact hb) (fun b hb => ⟨.t T.length, by rw [hb, hA]; simp⟩) (fun b o h => .inl (.inl ⟨o, h⟩)) (fun z a h => ?_) (fun z a h => ?_) (fun z a h => ?_) (fun z w hzw a hz hw => ?_) fun z => ?_⟩
    · left
      simp only [ft'] at h
      split at h
      · rcases List.mem_cons.mp h with rfl | h
        · exact ⟨.t T.length, by rw [hA]; simp⟩
        · rcases List.mem_append.mp h with h | h
          · exact ⟨.t T.length, by rw [hA]; simp [h]⟩
          · exact ⟨.t (T.length + 1), by rw [hB]; exact h⟩
      · split at h
        · cases h
        · exact ⟨z, h⟩
    · simp only [ft'] at h
      split at h
      · rcases List.mem_cons.mp h with rfl | h
        · exact fD
        · rcases List.mem_append.mp h with h | h
          · exact (S.fn (.t T.length) a (by rw [hA]; simp [h])).1
          · exact (S.fn (.t (T.length + 1)) a (by rw [hB]; exact h)).1
      · split at h
        · cases h
        · exact (S.fn z a h).1
    · by_cases ha : a = D0
      · subst ha; exact ⟨_, upd_same, fun xs e => by cases e⟩
      · rw [upd_ne ha]
        simp only [ft'] at h
        split at h
        · rcases List.mem_cons.mp h with e | h
          · exact (ha e).elim
          · rcases List.mem_append.mp h with h | h
            · exact S.th (.t T.length) a (by rw [hA]; simp [h])
            · exact S.th (.t (T.length + 1)) a (by rw [hB]; exact h)
        · split at h
          · cases h
          · exact S.th z a h
    · have key : ∀ u, u ≠ .t T.length → a ∈ D0 :: (A ++ B) → a ∈ ft' u → False := fun u hu h1 h2 => by
        simp only [ft', if_neg hu] at h2
        split at h2
        · cases h2
        · rename_i hu2
          rcases List.mem_cons.mp h1 with rfl | h1
          · exact off u hu _ h2 rfl
          · rcases List.mem_append.mp h1 with h1 | h1
            · exact S.dj u (.t T.length) hu a h2 (by rw [hA]; simp [h1])
            · exact S.dj u (.t (T.length + 1)) hu2 a h2 (by rw [hB]; exact h1)
      by_cases h1 : z = .t T.length
      · have h2 : w ≠ .t T.length := fun e => hzw (h1.trans e.symm)
        simp only [ft', if_pos h1] at hz
        exact key w h2 hz hw
      · by_cases h2 : w = .t T.length
        · simp only [ft', if_pos h2] at hw
          exact key z h1 hw hz
        · simp only [ft', if_neg h1] at hz
          simp only [ft', if_neg h2] at hw
          split at hz
          · cases hz
          · split at hw
            · cases hw
            · exact S.dj z w hzw a hz hw
    · by_cases h1 : z = .t T.length
      · subst h1
        rw [show entOf _ _ _ (.t T.length) = .kd (.l κ) (.lst (acc ++ [e])) from (trA _ _ (Nat.le_refl _)).trans (if_pos rfl)]
        simp only [ft', if_pos rfl]
        refine ⟨.ref D0, by rw [lt]; exact val_top (σ := σ) (.ref D0) ts, .lst upd_same (OwC.snoc (t.mono (.refl _) fun z hz => upd_ne (fun e => nn (by rw [← e]; exact hz))) (o1.mono (.refl _) fun z hz => upd_ne (fun e => dAB D0 (by simp) (by rw [← e]; exact hz))) fun z hz => dAB z (by simp [hz])) fun h => ?_⟩
        rcases List.mem_append.mp h with h | h
        · exact nn h
        · exact dAB D0 (by simp) h
      · by_cases h2 : z = .t (T.length + 1)
        · subst h2
          have : entOf (roB ro Γ (.kd (.l κ) (.lst (acc ++ [e])) :: T)) Γ' (hidT (.kd (.l κ) (.lst (acc ++ [e])) :: T)) (.t (T.length + 1)) = .un := by
            show tr _ _ _ = _
            unfold tr tb
            rw [if_neg (by rw [hidT_len]; simp)]; rfl
          rw [this]; trivial
        · have eq : entOf (roB ro Γ (.kd (.l κ) (.lst (acc ++ [e])) :: T)) Γ' (hidT (.kd (.l κ) (.lst (acc ++ [e])) :: T)) z = entOf (roB ro Γ (.kd (.l κ) (.lst acc) :: T)) Γ' (.kd κ e :: hidT (.kd (.l κ) (.lst acc) :: T)) z := by
            cases z with
            | s i => rfl
            | t i =>
              show tr _ _ i = tr _ _ i
              rw [trE, if_neg (fun e => h2 (by rw [e]))]
              by_cases hi : i ≤ T.length
              · rw [trA _ _ hi, trA _ _ hi, if_neg (fun e => h1 (by rw [e])), if_neg (fun e => h1 (by rw [e]))]
              · unfold tr tb
                rw [if_neg (by rw [hidT_len]; simp; omega), if_neg (by rw [hidT_len]; simp; omega)]
                rfl
          rw [eq]
          simp only [ft', if_neg h1, if_neg h2]
          have ev : ∀ u, u ≠ .t (T.length + 1) → valOf σ (.ref D0 :: ts) u = valOf σ (y :: .ref D0 :: ts) u := fun u hu => by
            rw [val_push σ y]
            have : ¬ (u = .t (V.ref D0 :: ts).length) := fun e => hu (by rw [e, lt]; rfl)
            simp only [if_neg this]
          refine S.keepE (.refl _) (fun a ha => upd_ne (off z h1 a ha)) (ev z h2) fun j p o ez => ⟨?_, ev _ (by intro e; cases e), fun a ha => upd_ne (off _ (by intro e; cases e) a ha)⟩
          rfl
end
/-! ### list comprehensions -/
/-- an item comes, or none -/
def O.cm {σ τ : Type} (o : O σ) (add : D → σ → O τ) (sk : σ → O τ) : O τ := match o with
  | .rt e s => add e s
  | .nx s => sk s
  | _ => .no
def cmpF {σ : Type} (f : List D → D → σ → O σ) : List D → List D → σ → O σ
  | [], acc, s => .rt (.lst acc) s
  | d :: ds, acc, s => (f acc d s).cm (fun e s' => if acc.length < sizeLine then cmpF f ds (acc ++ [e]) s' else .no) fun s' => cmpF f ds acc s'
def mYes : Mq := fun _ _ Γ T _ k => k true Γ T
section
variable (m : List Bm) (ro : Ro) (Γ T : Gm) (κ : Kd) (g : Mg) (q : Mq) (me : Me)
def cmB : List D → D → St (cnt m) → O (St (cnt m)) := fun acc d s => g (St (cnt m)) d (roB ro Γ (.kd (.l κ) (.lst acc) :: T)) (inB m ro Γ s) fun Γ2 =>
  q (St (cnt m)) (roB ro Γ (.kd (.l κ) (.lst acc) :: T)) Γ2 (hidT (.kd (.l κ) (.lst acc) :: T)) (fun _ _ => .no) fun b Γ3 T3 => if T3.all isRo then (if b then
    me (St (cnt m)) (roB ro Γ (.kd (.l κ) (.lst acc) :: T)) Γ3 (hidT (.kd (.l κ) (.lst acc) :: T)) (fun _ _ => .no) fun Γ4 T4 => match T4 with
      | .kd κ' e :: T5 => if κ'.eqb κ && T5.all isRo then endB m ro Γ Γ4 fun s => .rt e s else .no
      | _ => .no
    else endB m ro Γ Γ3 fun s => .nx s) else .no
end
def mLc (m : List Bm) (vs : List Nat) (κ : Kd) (mi : Mi) (g : Mg) (q : Mq) (me : Me) : Me := fun τ ro Γ T ex k => mi τ ro Γ T ex fun ds Γ1 T1 => if okD m ro Γ1 T1 && vs.all (fun i => (mkB m i).isDd) then
  (endB m ro Γ1 (entG m (resG ro 0 Γ1)) fun s0 => cmpF (cmB m ro Γ1 T1 κ g q me) ds [] s0).val (fun d s => k (outB m ro Γ1 s) (.kd (.l κ) d :: T1)) (fun _ _ => .no) else .no
/-- no exception leaves -/
abbrev W0 : WX := fun _ _ _ _ => False
theorem pts_imp {X : Cx} {e : List Expr} {t t' : TT} (h : PTs X e t) (i : ∀ σ H Q, t' σ H Q → t σ H Q) : PTs X e t' := ⟨fun pins s σ H Q I q => h.run pins s σ H Q I (i _ _ _ q)⟩
section
variable {K : PySem.W.Frag} {W : WX} {n : Ent} {F F1 H H1 : Hp} {ro : Ro} {Γ Γ' T : Gm} {σ : L2.St} {ts : List V} {τ : Type} {G : O τ → Prop} {X : Cx} {pos : Pos} {κ : Kd} {d e : D} {v x y : V} {m : List Bm} {S : List Nat}
theorem gts_nil : PTs X [] (tQ X.K W mYes) := pts_imp pts_nil fun σ H Q ⟨τ, G, n, F, ro, Γ, T, ts, ex, k, w, R, g, c⟩ => c true Γ T F H (.refl _) R g
theorem gts_one {c : Expr} {q : Mq} (h : PT X c (tQ X.K W q)) : PTs X [c] (tQ X.K W q) := pts_one h
theorem gr_inB {s : St (cnt m)} {i : Nat} {l : List D} (hm : extG m (resG ro 0 Γ) (entG m (resG ro 0 Γ)) = some l) (h : (mkB m i).isDd = true) : gr (roB ro Γ T) (inB m ro Γ s) i = .un := by
  unfold inB gr
  rw [gg_entG]
  split
  · rename_i hi
    cases e : mkB m i with
    | dd => rfl
    | st k => rw [e] at h; cases h
    | ro => rw [e] at h; cases h
  · rfl
theorem im_lc {vs S : List Nat} {mi : Mi} {g : Mg} {q : Mq} {me : Me} (hS : ∀ i, i ∈ S → i ∈ vs) : ∀ σ H Q, tM K W (mLc m vs κ mi g q me) σ H Q → tLc (tI K W mi) (tC K S g) (tQ K W0 q) (tM K W0 me) vs σ H Q := fun σ H Q ⟨τ, G, n, F, ro, Γ, T, ts, ex, k, w, R, g0, c⟩ =>
  ⟨τ, G, n, F, ro, Γ, T, ts, ex, _, w, R, g0, fun ds Γ1 T1 J F1 H1 e1 R1 wk g1 => by
    split at g1
    · rename_i hok
      rw [Bool.and_eq_true] at hok
      obtain ⟨ok, hdd⟩ := hok
      have dd : ∀ i, i ∈ vs → (mkB m i).isDd = true := fun i hi => List.all_eq_true.mp hdd i hi
      intro D0 hD
      let CC : O (St (cnt m)) → O τ := fun o => o.val (fun d s => k (outB m ro Γ1 s) (.kd (.l κ) d :: T1)) (fun _ _ => .no)
      have noC : ¬ G (CC .no) := w.no
      obtain ⟨l0, q1, q2, g2⟩ := endB_some (G := fun o => G (CC o)) noC g1
      have okA : ∀ acc, okD m ro Γ1 (.kd (.l κ) (.lst acc) :: T1) = true := fun acc => by
        unfold okD at ok ⊢
        rw [Bool.and_eq_true] at ok ⊢
        refine ⟨ok.1, ?_⟩
        show (okS m (.kd (.l κ) (.lst acc)) && (resT ro T1).all (okS m)) = true
        rw [ok.2]; rfl
      let Az : List D → Gm := fun acc => .kd (.l κ) (.lst acc) :: T1
      have wipeR : ∀ {F' : Hp} {Γ' : Gm} {σ2 : L2.St} {acc : List D} {H' : Hp} {l : List D}, extG m (resG ro 0 Γ1) Γ' = some l → ofSt (cnt m) (toSt (cnt m) l) = l → L2.wipe σ2 vs = L2.wipe σ vs → Rl K n F' (roB ro Γ1 (Az acc)) Γ' (hidT (Az acc)) σ2 (.ref D0 :: ts) H' →
          Rl K n F' (roB ro Γ1 (Az acc)) (inB m ro Γ1 (toSt (cnt m) l)) (hidT (Az acc)) (L2.wipe σ vs) (.ref D0 :: ts) H' := fun {F' Γ' σ2 acc H' l} x1 x2 x3 R' => by
        have R2 := Rl.againT (okA acc) x1 R'
        rw [← x3]
        unfold inB
        rw [x2]
        refine R2.sig (by rw [wipe_length]) fun i hi => ?_
        by_cases hv : i ∈ vs
        · have z := gr_inB (ro := ro) (T := Az acc) (s := toSt (cnt m) l) q1 (dd i hv)
          unfold inB at z
          rw [x2] at z
          exact (hi z).elim
        · exact wipe_out hv
      -- the new list as it grows
      refine ⟨fun i mm Hc => ∃ F' acc s, Same F1 F' ∧ Rl K n F' (roB ro Γ1 (Az acc)) (inB m ro Γ1 s) (hidT (Az acc)) (L2.wipe σ vs) (.ref D0 :: ts) Hc ∧ G (CC (cmpF (cmB m ro Γ1 T1 κ g q me) (ds.drop i) acc s)) ∧ i + mm = ds.length, ?_, ?_⟩
      · refine ⟨ds.length, F1, [], _, .refl _, ?_, g2, by omega⟩
        have gr1 : Grow F1 H1 F1 (upd H1 D0 (.lst [])) := Grow.beside R1.sub hD
        have R2 : Rl K n F1 ro Γ1 (Az []) σ (.ref D0 :: ts) (upd H1 D0 (.lst [])) := R1.pushN (k := .l κ) (d := .lst []) (A := [D0]) gr1 (.lst upd_same .nil (by simp)) (fun a ha => by simp at ha; subst ha; exact hD) fun a ha => by simp at ha; subst ha; exact R1.sub.free hD
        exact wipeR q1 q2 rfl (R2.enter (okA []))
      · intro i mm Hc ⟨F', acc, s, sF, R', hl, hm⟩
        obtain ⟨w2, w3⟩ := wk i F' Hc sF R'.sub
        by_cases hi : i < ds.length
        · obtain ⟨g1', g2'⟩ := w2 ds[i] (List.getElem?_eq_getElem hi)
          refine .inr ⟨g1', fun H2 => ∃ F' acc s, Same F1 F' ∧ Rl K n F' (roB ro Γ1 (Az acc)) (inB m ro Γ1 s) (hidT (Az acc)) (L2.wipe σ vs) (.ref D0 :: ts) H2 ∧ G (CC (cmpF (cmB m ro Γ1 T1 κ g q me) (ds.drop (i + 1)) acc s)), fun H2 ⟨F', acc, s, a1, a2, a3⟩ => ⟨mm - 1, by omega, F', acc, s, a1, a2, a3, by omega⟩, fun x H2 y => ?_⟩
          obtain ⟨F2, gr2, rp⟩ := g2' x H2 y
          have R2 := R'.grow gr2
          rw [List.drop_eq_getElem_cons hi] at hl
          let C2 : O (St (cnt m)) → O τ := fun o => CC (o.cm (fun e s' => if acc.length < sizeLine then cmpF (cmB m ro Γ1 T1 κ g q me) (ds.drop (i + 1)) (acc ++ [e]) s' else .no) fun s' => cmpF (cmB m ro Γ1 T1 κ g q me) (ds.drop (i + 1)) acc s')
          have hl : G (C2 (cmB m ro Γ1 T1 κ g q me acc ds[i] s)) := hl
          have noC2 : ¬ G (C2 .no) := w.no
          refine ⟨St (cnt m), fun o => G (C2 o), n, F2, roB ro Γ1 (Az acc), inB m ro Γ1 s, hidT (Az acc), .ref D0 :: ts, ds[i], _, noC2, R2, fun j hj z hz => ?_, rp, hl, fun Γ2 σ2 ag R3 g3 => ⟨(agr_wipeS ag hS).trans (wipe_wipeS σ vs), ?_⟩⟩
          · rw [tr_hid] at hz
            cases e : tr ro (Az acc) z with
            | al j' p o =>
              rw [e] at hz
              cases hz
              have := okD_t (okA acc) e
              rw [dd j (hS j hj)] at this
              cases this
            | _ => rw [e] at hz; exact hz
          · have hw : L2.wipe σ2 vs = L2.wipe σ vs := (agr_wipeS ag hS).trans (wipe_wipeS σ vs)
            have wi : ∀ F'', Wi K W0 (fun o => G (C2 o)) n F'' (roB ro Γ1 (Az acc)) σ2 (fun _ _ => .no) := fun F'' => ⟨noC2, fun x Γ' cls dO F' H' s R xo g => noC2 g⟩
            refine ⟨St (cnt m), fun o => G (C2 o), n, F2, roB ro Γ1 (Az acc), Γ2, hidT (Az acc), .ref D0 :: ts, _, _, wi _, R3, g3, fun b Γ3 T3 F3 H3 s3 R4 g4z => ?_⟩
            have g4 : G (C2 (if T3.all isRo then (if b then me (St (cnt m)) (roB ro Γ1 (Az acc)) Γ3 (hidT (Az acc)) (fun _ _ => .no) fun Γ4 T4 => match T4 with
                | .kd κ' e :: T5 => if κ'.eqb κ && T5.all isRo then endB m ro Γ1 Γ4 fun s => .rt e s else .no
                | _ => .no else endB m ro Γ1 Γ3 fun s => .nx s) else .no)) := g4z
            clear g4z
            by_cases hr : T3.all isRo = true
            · rw [if_pos hr] at g4
              have ht : T3 = hidT (Az acc) := hid_of hr (by have := R4.lt; have := R3.lt; rw [hidT_len] at this; simp at *; omega)
              subst ht
              cases b with
              | false =>
                refine iteF ?_
                obtain ⟨l, x1, x2, g5⟩ := endB_some (G := fun o => G (C2 o)) noC2 g4
                exact ⟨F3, acc, _, sF.trans (gr2.fz.trans s3), wipeR x1 x2 hw R4, g5⟩
              | true =>
                refine iteT ⟨St (cnt m), fun o => G (C2 o), n, F3, roB ro Γ1 (Az acc), Γ3, hidT (Az acc), .ref D0 :: ts, _, _, wi _, R4, g4, fun Γ4 s4 T4 yv F4 H4 s5 R5 g5z => ?_⟩
                cases s4 with
                | kd κ' e =>
                  have g5 : G (C2 (if κ'.eqb κ && T4.all isRo then endB m ro Γ1 Γ4 fun s => .rt e s else .no)) := g5z
                  clear g5z
                  by_cases hb : (κ'.eqb κ && T4.all isRo) = true
                  · rw [if_pos hb] at g5
                    rw [Bool.and_eq_true] at hb
                    have ek := Kd.eqb_eq hb.1
                    subst ek
                    have ht : T4 = hidT (Az acc) := hid_of hb.2 (by have := R5.lt; have := R4.lt; rw [hidT_len] at this; simp at *; omega)
                    subst ht
                    obtain ⟨l, x1, x2, g6⟩ := endB_some (G := fun o => G (C2 o)) noC2 g5
                    obtain ⟨xs, z1, z2, z3⟩ := Rl.growA R5
                    have g6 : G (CC (if acc.length < sizeLine then cmpF (cmB m ro Γ1 T1 κ' g q me) (ds.drop (i + 1)) (acc ++ [e]) (toSt (cnt m) l) else .no)) := g6
                    by_cases hz : acc.length < sizeLine
                    · rw [if_pos hz] at g6
                      exact ⟨xs, z1, by rw [z2]; exact hz, F4, acc ++ [e], _, sF.trans (gr2.fz.trans (s3.trans s5)), wipeR (acc := acc ++ [e]) x1 x2 hw z3, g6⟩
                    · rw [if_neg hz] at g6; exact (w.no g6).elim
                  · rw [if_neg hb] at g5; exact (noC2 g5).elim
                | _ => exact (noC2 g5z).elim
            · rw [if_neg hr] at g4; exact (noC2 g4).elim
        · left
          refine ⟨w3 (by omega), ?_⟩
          rw [List.drop_eq_nil_of_le (by omega)] at hl
          have hl : G (k (outB m ro Γ1 s) (.kd (.l κ) (.lst acc) :: T1)) := hl
          -- out of the block, the names as they were
          have Rs : Rl K n F' (roB ro Γ1 (Az acc)) (inB m ro Γ1 s) (hidT (Az acc)) σ (.ref D0 :: ts) Hc := R'.sig (by rw [wipe_length]) fun j hj => by
            by_cases hv : j ∈ vs
            · exact (hj (gr_inB (ro := ro) (T := Az acc) q1 (dd j hv))).elim
            · exact (wipe_out hv).symm
          have R6 := Rl.leave (T := Az acc) (by have := R'.lt; rw [hidT_len] at this; exact this) (okA acc) (ext_in (ofSt_len _ s) q1) Rs
          exact c _ _ T1 _ F' Hc (e1.trans sF) R6 hl
    · exact (w.no g1).elim⟩
theorem gx_lc (m : List Bm) (κ : Kd) (S : List Nat) {elt tg iter : Expr} {ifs : List Expr} {scope : Scope} {own : List (Str × Nat)} {mi : Mi} {g : Mg} {q : Mq} {me : Me} (hc : X.calm = true) (hN : X.N.Nodup) (hi : PI X tg iter (tI X.K W mi)) (ok : BlkOk X.N X.env.scope scope own)
    (hg : ∀ (s : Shared) (H : Hp) (C : Addr) (cl : List (Str × Addr)) (fp : List Addr), PG (X.blk s H scope (compEnvC scope cl C X.env) fp) tg (tC X.K S g))
    (ht : ∀ (s : Shared) (H : Hp) (C : Addr) (cl : List (Str × Addr)) (fp : List Addr), PTs (X.blk s H scope (compEnvC scope cl C X.env) fp) ifs (tQ X.K W0 q))
    (he : ∀ (s : Shared) (H : Hp) (C : Addr) (cl : List (Str × Addr)) (fp : List Addr), PE (X.blk s H scope (compEnvC scope cl C X.env) fp) elt (tM X.K W0 me))
    (hS : ∀ i, i ∈ S → i ∈ own.map (·.2) := by decide) (hs : ∀ x, foldedSetIterable iter X.env x = pure x := by intro _; rfl) :
    PE X (.ListComp elt [⟨tg, iter, ifs, 0⟩] scope pos) (tM X.K W (mLc m (own.map (·.2)) κ mi g q me)) := pe_imp (pe_lc hc hN hi ok hg ht he hs) (im_lc hS)
theorem im_setM {i : Nat} {me : Me} : ∀ E σ H, tS K W (mSet i me) E σ H → tAsg (tM K W me) (gName i) E σ H := fun E σ H ⟨τ, G, n, F, ro, Γ, ks, w, R, g⟩ =>
  ⟨τ, G, n, F, ro, Γ, [], [], _, _, w.wi, R, g, fun Γ1 s T1 v F1 H1 e1 R1 g1 => by
    cases R1.pop.tnil
    obtain ⟨R2, g2⟩ := setE_ok w.no R1 g1
    exact w.nx _ _ F1 H1 e1 R2 g2⟩
theorem sx_setLc (m : List Bm) (κ : Kd) (S : List Nat) {i : Nat} {y : Str} {py spos : Pos} {elt tg iter : Expr} {ifs : List Expr} {scope : Scope} {own : List (Str × Nat)} {mi : Mi} {g : Mg} {q : Mq} {me : Me} (hc : X.calm = true) (hN : X.N.Nodup) (hy : X.N[i]? = some y) (hyl : X.env.scope.names.lookup y = some .local) (hk : X.env.scope.kind = .function) (hl : (py.line == pos.line) = true) (hna : (scope.names.any fun (n, k) => n == y && (k == .local || k == .cell)) = false)
    (hi : PI X tg iter (tI X.K W mi)) (ok : BlkOk X.N X.env.scope scope own)
    (hg : ∀ (s : Shared) (H : Hp) (C : Addr) (cl : List (Str × Addr)) (fp : List Addr), PG (X.blk s H scope (compEnvC scope cl C X.env) fp) tg (tC X.K S g))
    (ht : ∀ (s : Shared) (H : Hp) (C : Addr) (cl : List (Str × Addr)) (fp : List Addr), PTs (X.blk s H scope (compEnvC scope cl C X.env) fp) ifs (tQ X.K W0 q))
    (he : ∀ (s : Shared) (H : Hp) (C : Addr) (cl : List (Str × Addr)) (fp : List Addr), PE (X.blk s H scope (compEnvC scope cl C X.env) fp) elt (tM X.K W0 me))
    (hS : ∀ i, i ∈ S → i ∈ own.map (·.2) := by decide) (hs : ∀ x, foldedSetIterable iter X.env x = pure x := by intro _; rfl) :
    PS X (.Assign [.Name y py] (.ListComp elt [⟨tg, iter, ifs, 0⟩] scope pos) spos) (tS X.K W (mSet i (mLc m (own.map (·.2)) κ mi g q me))) :=
  ps_imp (ps_setLc hc hN hy hyl (sw_true hk hyl hl hna) hi ok hg ht he hs) fun E σ H h => im_lc hS σ H _ (im_setM E σ H h)
end
end Fx

/-! G: exceptions of the program's own classes are made and raised. -/
namespace Fx
open PySem PySem.Spec PyProof.Rows L2
/-- what C.__init__(self, ..) does: each argument becomes a field -/
def spI (K : PySem.W.Frag) (fN : List Str) : Sp := fun vs H Q _ => ∃ (a C : Addr) (ys : List V), vs = .ref a :: ys ∧ ys.length = fN.length ∧ OexC K C ∧ (∀ f, f ∈ fN → PySem.W.findIn K (.ref C) f = some none) ∧ H a = some (exo a C none) ∧
  ∀ d H2, H d = none → d ≠ a → H2 a = some (exo a C (some d)) → H2 d = some (exd d (fN.zip ys).reverse) → (∀ b, b ≠ a → b ≠ d → H2 b = H b) → Q .non H2
/-- Base.__init__(self, ..), Base a class of the program that inherits it from ValueError -/
theorem pe_cinit {X : Cx} {e : Expr} {es : List Expr} {ta : TA} {p1 p2 pos : Pos} {x : Str} {C0 : Addr} {pl : Sem Bool} (hg : Gl X x) (hm : X.mg x = some (.ref C0)) (hsp : PySem.W.specialIn X.K (.ref C0) "__getattribute__" = some (some (.builtin "type.__getattribute__"))) (hr : PySem.W.readsIn X.K C0 (.type "type") = true)
    (vV : PySem.W.findCls X.K (.ref C0) (.type "type") "__init__" = some (.val (.builtin "ValueError.__init__"))) (ha : PA X (e :: es) ta) (hdb : (x == ("__debug__" : Str)) = false := by decide)
    (hc : eval (.Call (.Attribute (.Name x p1) "__init__" p2) (e :: es) [] pos) X.env = (do
      let ov ← eval (.Name x p1) X.env
      standAt p2.atName
      let (f, first) ← holding [ov] (getMethod ov "__init__" pl)
      callWith pos f first (backTo pos (starEach (e :: es) X.env)) (backToKw pos (keywordEach [] X.env))) := by rfl)
    (he : starEach (e :: es) X.env = (false, eval e X.env) :: starEach es X.env := by rfl) (hpl : (backTo pos (starEach es X.env)).any (·.1) = false := by rfl) : PE X (.Call (.Attribute (.Name x p1) "__init__" p2) (e :: es) [] pos) (tVeI X.K ta) := ⟨fun pins s σ H Q I h => by
  refine PySem.W.methodCall_KW (ld_glob I hg hm ?_ hdb) hc
  refine PySem.W.method_cls I.kIn hsp (PySem.W.cls_value I.kIn hr vV (by decide +kernel) ?_)
  show wpAny _ _ (callWith pos (Value.builtin "ValueError.__init__") [] _ []) _ _ _
  refine PyProof.Rows.callWith_method1 (thn (ha.run pos pins _ σ H _ (I.tok _) h) fun us s1 ⟨vs, H1, I1, r1, a, C, ws, ev, hl, T, ea, q⟩ => ?_) he hpl
  subst ev
  cases r1 with
  | @cons _ u0 _ ur ra rr =>
    obtain rfl : u0 = Value.ref a := ra
    exact oinit_ok T I1 ea (by rw [← Paired.length rr, sizeLine_eq]; omega) fun s2 J => ⟨.non, H1, J, rfl, q⟩⟩
theorem fnk_body {CX : CXT} {P : Program} {w : World} {K : PySem.W.Frag} {mg : Str → Option Value} {base : Heap} {k : Nat} {f : Addr} {fd : FuncData} {x qual : Str} {st : Stmt} {N ps : List Str} {sp : Sp} (F : Fun K x qual st f fd) (S : FnScope N ps (defScope st))
    (len : ∀ vs H Q E, sp vs H Q E → vs.length = ps.length)
    (hbody : ∀ (cdv : Value) (A : Around) (outer : List Env) (s : Shared) (H : Hp) (vs : List V) (Q : VK) (E : XK), sp vs H Q E →
      ∃ t, PSs (cxOf CX P w K mg base N qual (defScope st) f cdv A outer s H E) (defBody st) t ∧ t { nx := fun _ H' => Q .non H', rt := Q } (start N vs) H) : FnOk P w K mg base CX (k + 1) f fd ps sp := by
  obtain ⟨oc, od, kV, doc, pm, an, cdv, ct, osl, rfl, lk, hcd⟩ := F.ex
  exact fn_of lk hcd S len fun A outer s H vs Q E _ h => hbody cdv A outer s H vs Q E h
section
variable {CX : CXT} {P : Program} {w : World} {K : PySem.W.Frag} {mg : Str → Option Value} {base : Heap} {k : Nat} {f : Addr} {fd : FuncData} {x qual : Str} {st : Stmt} {N ps : List Str} {fn f1 f2 msg : Str}
theorem fnk_init1 (F : Fun K x qual st f fd) (S : FnScope N ps (defScope st)) (hl : ps.length = 2) (hb : ∀ cdv A outer s H E, PSs (cxOf CX P w K mg base N qual (defScope st) f cdv A outer s H E) (defBody st) (tSeq (tDrop (tVeI K (tCons (tVar 0) (tCons (L2.tC (.str msg)) tNil)))) (tOst K fn (tVar 0) (tVar 1)))) : FnOk P w K mg base CX (k + 1) f fd ps (spI K [fn]) :=
  fnk_body F S (fun vs H Q E ⟨a, C, ys, e, h, _⟩ => by rw [e, hl]; simp at h; simp [h]) fun cdv A outer s H vs Q E ⟨a, C, ys, e, h, T, hf, ha, q⟩ => by
    refine ⟨_, hb cdv A outer s H E, ?_⟩
    cases ys with
    | nil => cases h
    | cons y ys =>
      obtain rfl : ys = [] := List.length_eq_zero_iff.mp (by simpa using h)
      subst e
      refine ⟨.ref a, rfl, a, C, [.str msg], rfl, by simp, T, ha, y, rfl, .ref a, rfl, a, C, rfl, T, hf fn (by simp), .inl ⟨ha, fun d hd hne => ?_⟩⟩
      exact q d _ hd hne upd_same (by rw [upd_ne hne, upd_same]; rfl) fun b h1 h2 => by rw [upd_ne h1, upd_ne h2]
theorem fnk_init2 (F : Fun K x qual st f fd) (S : FnScope N ps (defScope st)) (hl : ps.length = 3) (hb : ∀ cdv A outer s H E, PSs (cxOf CX P w K mg base N qual (defScope st) f cdv A outer s H E) (defBody st) (tSeq (tDrop (tVeI K (tCons (tVar 0) (tCons (L2.tC (.str msg)) tNil)))) (tSeq (tOst K f1 (tVar 0) (tVar 1)) (tOst K f2 (tVar 0) (tVar 2))))) : FnOk P w K mg base CX (k + 1) f fd ps (spI K [f1, f2]) :=
  fnk_body F S (fun vs H Q E ⟨a, C, ys, e, h, _⟩ => by rw [e, hl]; simp at h; simp [h]) fun cdv A outer s H vs Q E ⟨a, C, ys, e, h, T, hf, ha, q⟩ => by
    refine ⟨_, hb cdv A outer s H E, ?_⟩
    match ys, h with
    | [y, z], _ =>
      subst e
      refine ⟨.ref a, rfl, a, C, [.str msg], rfl, by simp, T, ha, y, rfl, .ref a, rfl, a, C, rfl, T, hf f1 (by simp), .inl ⟨ha, fun d hd hne => ?_⟩⟩
      refine ⟨z, rfl, .ref a, rfl, a, C, rfl, T, hf f2 (by simp), .inr ⟨d, _, upd_same, by rw [upd_ne hne, upd_same], by simp, ?_⟩⟩
      exact q d _ hd hne (by rw [upd_ne hne.symm, upd_same]) (by rw [upd_same]; rfl) fun b h1 h2 => by rw [upd_ne h2, upd_ne h1, upd_ne h2]
end
/-- raise C(e, ..) -/
def mRaise (c : Str) (fN : List Str) (mr : Me) : Ms := fun τ ro Γ ks => mr τ ro Γ [] ks.ex fun Γ1 T1 => popK (List.replicate fN.length .v) T1 fun ds _ => ks.ex ⟨c, (fN.zip ds).reverse⟩ Γ1
section
variable {K : PySem.W.Frag} {W : WX} {n : Ent} {F F1 H H1 : Hp} {ro : Ro} {Γ Γ' T : Gm} {σ : L2.St} {ts : List V} {τ : Type} {G : O τ → Prop} {X : Cx} {pos : Pos} {mr : Me} {fN : List Str} {c : Str} {C : Addr}
theorem rpF_zip : ∀ {fN : List Str} {vs : List V} {ds : List D}, RpL K F vs ds → RpF K F (fN.zip vs) (fN.zip ds)
  | [], _, _, _ => .nil
  | f :: fN, _, _, .nil => .nil
  | f :: fN, _, _, .cons a t => .cons a (rpF_zip t)
theorem RpF.snoc {f : Str} {v : V} {d : D} (r : Rp K F v d) : ∀ {a : List (Str × V)} {b : List (Str × D)}, RpF K F a b → RpF K F (a ++ [(f, v)]) (b ++ [(f, d)])
  | _, _, .nil => .cons r .nil
  | _, _, .cons a t => .cons a (RpF.snoc r t)
theorem RpF.rev : ∀ {a : List (Str × V)} {b : List (Str × D)}, RpF K F a b → RpF K F a.reverse b.reverse
  | _, _, .nil => .nil
  | _, _, .cons a t => by
    rw [List.reverse_cons, List.reverse_cons]
    exact RpF.snoc a (RpF.rev t)
theorem sx_raise {CX : CXT} {x : Str} {p pos' : Pos} {e : Expr} {es : List Expr} {fI : Addr} {k : Nat} {fd : FuncData} {ps : List Str} (hC : clsV X.K c = .ref C) (T : OexC X.K C) (hf : ∀ f, f ∈ fN → PySem.W.findIn X.K (.ref C) f = some none) (iC : PySem.W.findIn X.K (.ref C) "__init__" = some (some (.ref fI))) (tI : PySem.W.typeIn X.K (.ref fI) = some (.type "function"))
    (F1 : FnOk X.prog X.w X.K X.mg X.base CX k fI fd ps (spI X.K fN)) (hr : Room (k + 1) X.A) (hb : Binds X.K fd ps []) (hx : Passes CX X (fun _ _ _ => False)) (hg : Gl X x) (hm : X.mg x = some (.ref C)) (hc : X.calm = true) (tk : Takes X W) (ha : PA X (e :: es) (tA X.K W fN.length mr)) (hn : fN.length ≤ 1000 := by decide)
    (hdb : (x == ("__debug__" : Str)) = false := by decide) (he : starEach (e :: es) X.env = (false, eval e X.env) :: starEach es X.env := by rfl) (hpl : (backTo pos (starEach es X.env)).any (·.1) = false := by rfl) :
    PS X (.Raise (some (.Call (.Name x p) (e :: es) [] pos)) none pos') (tS X.K W (mRaise c fN mr)) :=
  ps_imp (ps_raise hc tk (pmk_oex T iC tI F1 hr hb .nil hx hg hm ha hdb he hpl)) fun E σ H ⟨τ, G, n, F, ro, Γ, ks, w, R, g⟩ =>
    ⟨τ, G, n, F, ro, Γ, [], [], ks.ex, _, w.wi, R, g, fun Γ1 T1 vs F1 H1 e1 hl R1 g1 => by
      obtain ⟨ds, T0, re, R2, g2⟩ := popV w.no hl R1 g1
      cases R2.tnil
      refine ⟨by rw [hl]; exact hn, fun a ha => ?_⟩
      rw [List.append_nil]
      refine ⟨a, C, vs, rfl, hl, T, hf, upd_same, fun d H2 hd hda h1 h2 h3 => ⟨rfl, d, _, h1, h2, by rw [upd_ne hda] at hd; exact hd, ?_⟩⟩
      rw [upd_ne hda] at hd
      have eH : upd (del H2 a) d (.xd (fN.zip vs).reverse) = upd H1 d (.xd (fN.zip vs).reverse) := by
        funext b
        by_cases hb : b = d
        · subst hb; rw [upd_same, upd_same]
        · rw [upd_ne hb, upd_ne hb]
          by_cases hb2 : b = a
          · subst hb2; rw [del_same]; exact ha.symm
          · rw [del_ne hb2, h3 b hb2 hb, upd_ne hb2]
      rw [eH]
      have gr : Grow F1 H1 (upd F1 d (.xd (fN.zip vs).reverse)) (upd H1 d (.xd (fN.zip vs).reverse)) := Grow.one R2.sub hd
      exact w.xc _ Γ1 _ _ σ _ _ (e1.trans gr.fz) (R2.grow gr) ⟨hC.symm, .inr ⟨d, _, rfl, upd_same, RpF.rev (rpF_zip (re.mono gr.fz))⟩⟩ g2⟩
end
end Fx

/-! G: try .. except, the exception being tracked from the suite on. -/
namespace Fx
open PySem PySem.Spec PyProof.Rows L2
section
variable {X : Cx} {pins : List (Addr × Obj)} {σ : L2.St} {H : Hp} {s sI s' : Shared} {B : Heap} {a : Addr} {cls : Value} {d : Option Addr}
theorem exh_ok {P : Program} {w : World} {h : Heap} (z : ∃ oe vs, h.get? a = some oe ∧ Zc cls d oe ∧ oe.data = .fields vs) : ObjOk P w H h a (exh a cls d) := by
  obtain ⟨oe, vs, e1, e2, e3⟩ := z
  exact ⟨⟨oe, vs, e1, e2, e3⟩, ⟨oe, e1⟩, fun h1 h2 q k => by
    obtain ⟨o2, v2, q1, q2, q3⟩ := q
    exact ⟨o2, v2, k _ q1, q2, q3⟩⟩
/-- on the ground again, the exception tracked -/
theorem landX (I : Inv X pins σ H sI) (nb : ∀ b o, sI.heap.get? b = some o → b ∉ frs X.stack → B.get? b = some o) (st : B.StaysIn s'.heap) (up : sI.heap.UpToSlots s'.heap) (os : s'.os = sI.os) (ag : AllBare s'.gens) (hB : B.get? a = none) (hf : a ∉ frs X.stack) (na : H a = none)
    (z : ∃ oe vs, s'.heap.get? a = some oe ∧ Zc cls d oe ∧ oe.data = .fields vs) : Inv X pins σ (upd H a (exh a cls d)) s' := by
  have hn : ∀ b o, sI.heap.get? b = some o → b ≠ a := fun b o e q => by
    subst q
    have := nb b o e hf
    rw [hB] at this
    cases this
  have fr : ∀ b, b ∈ frs X.stack → ∀ o, sI.heap.get? b = some o → ∃ sl, s'.heap.get? b = some { o with slots := sl } := fun b hb o e => by
    obtain ⟨_, o1, e1, h1⟩ := I.stack.mem hb
    rw [e] at e1
    cases e1
    exact up b o e h1
  have keepT : ∀ {b : Addr} {u : HO}, H b = some u → b ≠ a := fun {b u} e q => by rw [q, na] at e; cases e
  have okH : HOk X.prog X.w (upd H a (exh a cls d)) s'.heap := fun b o q => by
    by_cases hb : b = a
    · subst hb
      rw [upd_same] at q
      cases q
      exact exh_ok z
    · rw [upd_ne hb] at q
      exact ((I.inGround nb).kept st b o q).stay (fun _ _ _ r => r) (fun c hc => by rw [upd_ne (keepT hc)]; exact hc) fun c xs hc => by rw [upd_ne (keepT hc)]; exact hc
  have th : ∀ b o, sI.heap.get? b = some o → ∃ o', s'.heap.get? b = some o' := fun b o e => by
    by_cases hb : b ∈ frs X.stack
    · exact (fr b hb o e).elim fun sl q => ⟨_, q⟩
    · exact ⟨o, st b o (nb b o e hb)⟩
  have J := I.call (ch := []) (h' := s'.heap) (g' := s'.gens) (t' := s'.toks) (d' := s'.drawn) (H' := upd H a (exh a cls d)) { keep := fun b o e _ hb _ => st b o (nb b o e hb), slot := fun b o e _ hb _ => fr b hb o e, free := fun b o e n _ => by rw [upd_ne (hn b o e)]; exact n, there := fun b o e _ => th b o e, tups := fun b xs e => by rw [upd_ne (keepT e)]; exact e, frzs := fun b o u e => by rw [upd_ne (keepT e)]; exact e, tbls := fun b ps e => ⟨#[], by rw [upd_ne (keepT e), e]; simp⟩ } okH ag (fun _ z => nomatch z)
  obtain ⟨a1, a2, a3, a4, a5⟩ := s'
  have e5 : a5 = sI.os := os
  subst e5
  exact J
theorem inSuite (I : Inv X pins σ H s) : Inv (X.suite a (X.pn ++ pins)) [] σ H s := { I with ok := I.ok.suite _ _, pin := fun p hp => I.pin p (by rwa [List.append_nil] at hp) }
theorem outSuite {pn' : List (Addr × Obj)} (I : Inv (X.suite a (X.pn ++ pins)) pn' σ H s) (ok : X.Ok) : Inv X pins σ H s := { I with ok := ok, pin := fun p hp => I.pin p (List.mem_append_left _ hp) }
end
/-- what 'except c as n' wishes of an exception: slot i is n's, the exception is tracked from then on -/
def wTr (K : PySem.W.Frag) (c : Value) (i : Nat) (ts : TS) (Wout : WX) (D : Ends) : WX := fun cls d σ H => ∃ b, PySem.W.exmOne K cls c = some b ∧
  (b = true → ∀ a, H a = none → ts { nx := fun σ' H' => D.nx (σ'.set i none) H', rt := D.rt, bk := fun σ' H' => D.bk (σ'.set i none) H', ct := fun σ' H' => D.ct (σ'.set i none) H' } (σ.set i (some (.ref a))) (upd H a (exh a cls d))) ∧ (b = false → Wout cls d σ H)
section
variable {X : Cx} {x n : Str} {c : Value} {i : Nat} {body suite : List Stmt} {b₀ : Stmt} {np pos pos' : Pos} {tb : WX → TS} {ts : TS} {Wout : WX}
theorem ps_tryX (hs : X.stack = X.env :: X.outer) (hf : X.env.frame = some X.env.locals) (hN : X.N.Nodup) (hi : X.N[i]? = some n) (hln : X.env.kindOf n = some .local) (hc : Names X x c) (tk : Takes X Wout)
    (hb : ∀ (W : WX) (pn : List (Addr × Obj)) (xe : Value → Shared → Prop), Takes (X.tr pn xe) W → PassesOwn (model X.prog X.w) X.A X.env xe → PSs (X.tr pn xe) body (tb W)) (hsu : ∀ (a : Addr) (pn : List (Addr × Obj)), PSs (X.suite a pn) (b₀ :: suite) ts) :
    PS X (.Try body [.ExceptHandler (some (.Name x np)) (some n) (b₀ :: suite) pos'] [] [] pos) (fun D σ H => tb (wTr X.K c i ts Wout D) D σ H) := by
  refine ⟨fun pins s σ H D I h => wpAny_Try_except ?_⟩
  have ok := I.ok
  have frA : X.A.frames = some (X.env :: X.outer) := ok.frames.trans (by rw [hs])
  let hd : ExceptHandler := .ExceptHandler (some (.Name x np)) (some n) (b₀ :: suite) pos'
  let xe0 : Value → Shared → Prop := fun e s₁ => wpAny (model X.prog X.w) X.A (noteFrame e X.env) (fun _ s₂ => wpAny (model X.prog X.w) X.A (setFlight e none) (fun _ s₃ => wpAny (model X.prog X.w) X.A (handleBy e X.env [hd]) (SP X pins D) X.xe s₃) X.xe s₂) X.xe s₁
  have taken : Takes (X.tr (X.pn ++ pins) xe0) (wTr X.K c i ts Wout D) := fun u s' xx => by
    obtain ⟨a, B, sI, pins1, σ1, H1, cls, d, rfl, J1, nb, up, sky, na, os, ag, b, hb1, hyes, hno⟩ := xx
    have J : Inv X pins σ1 H1 sI := J1.ofTry ok
    have sky1 : Sky B (X.env :: X.outer) a (Zc cls d) X.env.locals s'.heap := by rw [← hs]; exact sky
    show wpAny (model X.prog X.w) X.A (noteFrame (.ref a) X.env) _ _ _
    refine Sky.land Zc.steady frA hf sky1 fun h3 fl3 up3 => ?_
    have J3 : Inv X pins σ1 H1 { s' with heap := h3 } := J.landed nb fl3.1 (up.trans up3) os ag
    obtain ⟨oe3, vs3, he3, hz3, hd3⟩ := fl3.there
    have nfr : a ∉ frs (X.env :: X.outer) := fun hm => by
      obtain ⟨_, o2, e2, h2⟩ := fl3.2.2.1.mem hm
      rw [he3] at e2
      cases e2
      exact h2 _ hd3
    have nfs : a ∉ frs X.stack := by rw [hs]; exact nfr
    have nL : a ≠ X.env.locals := fun z => nfr (List.mem_filterMap.mpr ⟨X.env, List.mem_cons_self, by rw [hf, z]⟩)
    have nF : a ∉ X.fs := fun hm => by
      obtain ⟨e, he, q⟩ := List.mem_filterMap.mp hm
      exact nfr (List.mem_filterMap.mpr ⟨e, List.mem_cons_of_mem _ he, q⟩)
    refine wpAny_handleBy_cons (codeAny_handlers_test ?_) (by intro q; cases q)
    have LT : PySem.W.Looks (model X.prog X.w) h3 (typeOf (.ref a)) cls := fun A Q E s k q => wpAny_typeOf_ref (k _ _ he3) (hz3.1.symm ▸ q)
    have LM := PySem.W.exm_one (M := model X.prog X.w) J3.kIn LT hb1
    have J3s := J3.suite he3 hd3 na nL nF
    have test : ∀ {Q : Value → Shared → Prop} {E : Value → Shared → Prop}, Q c { s' with heap := h3 } → wpAny (model X.prog X.w) (X.A.mark (some (.ref a))) (eval (.Name x np) X.env) Q E { s' with heap := h3 } := fun {Q E} q => by
      obtain ⟨hg, hdb, hm | ⟨hm, hv, hnn⟩⟩ := hc
      · exact ld_glob (X := X.suite a ((a, oe3) :: (X.pn ++ pins))) J3s hg hm q hdb
      · exact ld_blt (X := X.suite a ((a, oe3) :: (X.pn ++ pins))) J3s hg hm hv q hnn hdb
    refine test (LM.here ?_)
    cases b with
    | true =>
      refine codeAny_handlers_suite_as (HandSPX.lands_againZ fl3 fun h4 fl4 up4 => ?_)
      have z4 := fl4.there
      have J4 : Inv X pins σ1 (upd H1 a (exh a cls d)) { s' with heap := h4 } := landX J nb fl4.1 ((up.trans up3).trans up4) os ag fl4.2.1 nfs na (by
        obtain ⟨oe4, vs4, q1, q2, q3⟩ := z4
        exact ⟨oe4, vs4, q1, q2, q3⟩)
      refine store_ok (X := X.suite a (X.pn ++ pins)) (v := .ref a) (inSuite J4) hN hi (.inl hln) rfl (fun s5 S5 => ?_) (.inr hln)
      refine wpAny_mono ((hsu a (X.pn ++ pins)).run [] s5 _ _ _ S5 (hyes rfl a na)) (fun f s6 hsp => ?_) (fun _ _ z => False.elim z)
      have end_ : ∀ {σ6 : L2.St} {H6 : Hp} {Q : Shared → Prop}, Inv (X.suite a (X.pn ++ pins)) [] σ6 H6 s6 → (∀ s7, Inv X pins (σ6.set i none) H6 s7 → Q s7) → wpAny (model X.prog X.w) X.A (do bindName X.env n .none; unbindBehindTheSuite X.env n pos') (fun _ s7 => Q s7) X.xe s6 := fun {σ6 H6 Q} S6 hq => gone_ok (outSuite S6 ok) hN hi hln hq
      cases f with
      | next => exact hsp.elim fun σ6 ⟨H6, S6, q6⟩ => end_ S6 fun s7 J7 => ⟨_, _, J7, q6⟩
      | brk => exact hsp.elim fun σ6 ⟨H6, S6, q6⟩ => end_ S6 fun s7 J7 => ⟨_, _, J7, q6⟩
      | cont => exact hsp.elim fun σ6 ⟨H6, S6, q6⟩ => end_ S6 fun s7 J7 => ⟨_, _, J7, q6⟩
      | ret u => exact hsp.elim fun v6 ⟨σ6, H6, S6, r6, q6⟩ => end_ S6 fun s7 J7 => ⟨_, _, _, J7, r6, q6⟩
    | false =>
      refine wpAny_handleBy_nil ?_
      obtain ⟨k1, k2, k3, oe, vs, T, oT, ts1, he, hz, hd', h1, hr⟩ := id fl3
      unfold PySem.passOn
      refine wpAny_bind (wpAny_field he hd' h1 ?_)
      rw [if_neg (by simp)]
      have fin : wpAny (model X.prog X.w) X.A (setFlight (.ref a) X.env.frame) (fun _ s4 => wpAny (model X.prog X.w) X.A (throw (.ref a) : Sem Flow) (SP X pins D) X.xe s4) X.xe { s' with heap := h3 } := by
        rw [hf]
        exact HandSPX.setFlight_upZ fl3 fun h4 hh4 up4 => wpAny_throw (tk _ _ ⟨a, B, sI, pins, σ1, H1, cls, d, rfl, J, nb, (up.trans up3).trans up4, .inr (.inr (by rw [hs]; exact hh4)), na, os, ag, hno rfl⟩)
      first | exact wpAny_bind (wpAny_pure (wpAny_bind fin)) | exact wpAny_bind fin
  refine wpAny_mono ((hb (wTr X.K c i ts Wout D) (X.pn ++ pins) xe0 taken PassesOwn.looking).run [] s σ H D (I.toTry _) h) (fun f s1 hsp => ?_) (fun e s1 he => he)
  cases f with
  | next => exact hsp.elim fun σ1 ⟨H1, J1, q⟩ => wpAny_execs_nil ⟨σ1, H1, J1.ofTry ok, q⟩
  | brk => exact hsp.elim fun σ1 ⟨H1, J1, q⟩ => ⟨σ1, H1, J1.ofTry ok, q⟩
  | cont => exact hsp.elim fun σ1 ⟨H1, J1, q⟩ => ⟨σ1, H1, J1.ofTry ok, q⟩
  | ret u => exact hsp.elim fun v ⟨σ1, H1, J1, r, q⟩ => ⟨v, σ1, H1, J1.ofTry ok, r, q⟩
end
end Fx

/-! G: try .. except C as n. -/
namespace Fx
open PySem PySem.Spec PyProof.Rows L2
def O.tr {σ : Type} (o : O σ) (h : Xn → σ → O σ) : O σ := match o with
  | .ex x s => h x s
  | .nx s => .nx s
  | .bk s => .bk s
  | .ct s => .ct s
  | .rt r s => .rt r s
  | .no => .no
/-- slot i is forgotten -/
def delE (i : Nat) (ro : Ro) (Γ : Gm) : Gm := gs (kG i ro 0 Γ) i .un
def ksDel {τ : Type} (i : Nat) (ro : Ro) (k : Ks τ) : Ks τ := ⟨fun Γ => k.nx (delE i ro Γ), fun Γ => k.bk (delE i ro Γ), fun Γ => k.ct (delE i ro Γ), k.rt, fun _ _ => .no⟩
def hdB (m : List Bm) (ro : Ro) (Γ : Gm) (sub : List (Str × Bool)) (i : Nat) (s : Ms) : Xn → St (cnt m) → O (St (cnt m)) := fun x s' => match sub.lookup x.cls with
  | some true => setE (roB ro Γ []) i (.kd .v (.exn x.cls x.fs)) (inB m ro Γ s') fun Γ2 => s (St (cnt m)) (roB ro Γ []) Γ2 (ksDel i (roB ro Γ []) (ksB m ro Γ))
  | some false => .ex x s'
  | none => .no
/-- try: b, except C as n: s -/
def mTry (m : List Bm) (sub : List (Str × Bool)) (i : Nat) (b s : Ms) : Ms := fun τ ro Γ ks => if okD m ro Γ [] then O.to m ro Γ ks ((b (St (cnt m)) (roB ro Γ []) (entG m (resG ro 0 Γ)) (ksB m ro Γ)).tr (hdB m ro Γ sub i s)) else .no
section
variable {K : PySem.W.Frag} {W W' : WX} {n : Ent} {F F1 H : Hp} {ro : Ro} {Γ T : Gm} {σ : L2.St} {ts : List V} {τ : Type} {G : O τ → Prop} {ks : Ks τ} {E : Ends} {m : List Bm} {X : Cx} {pos : Pos}
theorem Rl.del (R : Rl K n F ro Γ [] σ [] H) (i : Nat) : Rl K n F ro (delE i ro Γ) [] (σ.set i none) [] H := by
  have R1 := R.kill i fun j h => h
  refine ⟨by unfold delE; rw [gs_len, List.length_set]; exact R1.ls, rfl, R1.S.wk (fun x => ?_) fun x j p o e => ?_⟩
  · cases x with
    | s j =>
      by_cases h : j = i
      · subst h
        refine .inr (.inl ?_)
        show gr ro (gs (kG j ro 0 Γ) j .un) j = .un
        unfold gr
        rw [gg_set]
        split
        · rfl
        · rename_i q
          rw [gg_out (by simp at q; exact q)]; rfl
      · refine .inl ⟨?_, ?_⟩
        · show gr ro (gs (kG i ro 0 Γ) i .un) j = gr ro (kG i ro 0 Γ) j
          unfold gr
          rw [gg_set, if_neg (fun q => h q.1)]
        · show ((σ.set i none)[j]?).join = (σ[j]?).join
          rw [List.getElem?_set_ne (Ne.symm h)]
    | t j => exact .inl ⟨rfl, rfl⟩
  · have e : entOf ro (delE i ro Γ) [] x = .al j p o := e
    have key : ∃ z, gr ro (kG i ro 0 Γ) z = .al j p o := by
      cases x with
      | s z =>
        refine ⟨z, ?_⟩
        have e : gr ro (gs (kG i ro 0 Γ) i .un) z = .al j p o := e
        unfold gr at e ⊢
        rw [gg_set] at e
        split at e
        · cases e
        · exact e
      | t z => cases e
    obtain ⟨z, hz⟩ := key
    have hj : j ≠ i := fun q => by
      subst q
      rw [gr_kG] at hz
      split at hz
      · cases hz
      · rename_i h
        rw [hz] at h
        simp [ofB] at h
    refine ⟨?_, ?_⟩
    · show gr ro (gs (kG i ro 0 Γ) i .un) j = gr ro (kG i ro 0 Γ) j
      unfold gr
      rw [gg_set, if_neg (fun q => hj q.1)]
    · show ((σ.set i none)[j]?).join = (σ[j]?).join
      rw [List.getElem?_set_ne (Ne.symm hj)]
theorem Wk.del {i : Nat} (w : Wk K W G n F ro ks E) : Wk K W0 G n F ro (ksDel i ro ks) { nx := fun σ' H' => E.nx (σ'.set i none) H', rt := E.rt, bk := fun σ' H' => E.bk (σ'.set i none) H', ct := fun σ' H' => E.ct (σ'.set i none) H' } :=
  ⟨w.no, fun Γ' σ' F' H' s R g => w.nx _ _ F' H' s (R.del i) g, fun Γ' σ' F' H' s R g => w.bk _ _ F' H' s (R.del i) g, fun Γ' σ' F' H' s R g => w.ct _ _ F' H' s (R.del i) g, w.rt, fun x Γ' cls dO σ' F' H' s R xo g => (w.no g).elim⟩
theorem Wk.blkX {C : O (St (cnt m)) → O τ} (w : Wk K W G n F ro ks E) (ok : okD m ro Γ [] = true) (c0 : C .no = .no) (c1 : ∀ s, G (C (.nx s)) → G (ks.nx (outB m ro Γ s))) (c2 : ∀ s, G (C (.bk s)) → G (ks.bk (outB m ro Γ s))) (c3 : ∀ s, G (C (.ct s)) → G (ks.ct (outB m ro Γ s))) (c4 : ∀ r s, G (C (.rt r s)) → G (ks.rt (outB m ro Γ s) (.kd .v r)))
    (c5 : ∀ x l Γ' cls dO σ' F' H', Same F F' → Rl K n F' (roB ro Γ []) Γ' [] σ' [] H' → extG m (resG ro 0 Γ) Γ' = some l → ofSt (cnt m) (toSt (cnt m) l) = l → XOk K F' x cls dO → G (C (.ex x (toSt (cnt m) l))) → W' cls dO σ' H') : Wk K W' (fun o => G (C o)) n F (roB ro Γ []) (ksB m ro Γ) E := by
  have no : ¬ G (C .no) := by rw [c0]; exact w.no
  have lv : ∀ {Γ' : Gm} {l : List D} {σ' : L2.St} {F' H' : Hp}, extG m (resG ro 0 Γ) Γ' = some l → ofSt (cnt m) (toSt (cnt m) l) = l → Rl K n F' (roB ro Γ []) Γ' [] σ' [] H' → Rl K n F' ro (outB m ro Γ (toSt (cnt m) l)) [] σ' [] H' := fun e1 e2 R => by
    unfold outB
    rw [e2]
    exact Rl.leave (T := []) rfl ok e1 R
  refine ⟨no, fun Γ' σ' F' H' s R g => ?_, fun Γ' σ' F' H' s R g => ?_, fun Γ' σ' F' H' s R g => ?_, fun Γ' s v σ' F' H' q R g => ?_, fun x Γ' cls dO σ' F' H' s R xo g => ?_⟩
  · obtain ⟨l, e1, e2, g⟩ := endB_some (G := fun o => G (C o)) no g
    exact w.nx _ σ' F' H' s (lv e1 e2 R) (c1 _ g)
  · obtain ⟨l, e1, e2, g⟩ := endB_some (G := fun o => G (C o)) no g
    exact w.bk _ σ' F' H' s (lv e1 e2 R) (c2 _ g)
  · obtain ⟨l, e1, e2, g⟩ := endB_some (G := fun o => G (C o)) no g
    exact w.ct _ σ' F' H' s (lv e1 e2 R) (c3 _ g)
  · have g : G (C (rtB m ro Γ Γ' s)) := g
    cases s with
    | kd κ d =>
      cases κ with
      | v =>
        obtain ⟨l, e1, e2, g⟩ := endB_some (G := fun o => G (C o)) no g
        exact w.rt _ _ v σ' F' H' q ((lv e1 e2 R.pop).push R.topV) (c4 _ _ g)
      | _ => exact (no g).elim
    | _ => exact (no g).elim
  · obtain ⟨l, e1, e2, g⟩ := endB_some (G := fun o => G (C o)) no g
    exact c5 x l Γ' cls dO σ' F' H' s R e1 e2 xo g
theorem rp_exn {x : Xn} {cls : Value} {dO : Option Addr} {a : Addr} (xo : XOk K F x cls dO) (ha : F a = none) : Rp K (upd F a (exh a cls dO)) (.ref a) (.exn x.cls x.fs) := by
  obtain ⟨rfl, ⟨rfl, e⟩ | ⟨d, fs, rfl, hd, r⟩⟩ := xo
  · rw [e]; exact .exn upd_same rfl
  · have sm : Same F (upd F a (exh a (clsV K x.cls) (some d))) := same_new ha
    exact .exd upd_same (sm _ _ hd) (r.mono sm)
theorem sx_try (m : List Bm) (sub : List (Str × Bool)) {x nm : Str} {c : Value} {i : Nat} {body suite : List Stmt} {b₀ : Stmt} {np pos' : Pos} {b s : Ms} (hs : X.stack = X.env :: X.outer) (hf : X.env.frame = some X.env.locals) (hN : X.N.Nodup) (hi : X.N[i]? = some nm) (hln : X.env.kindOf nm = some .local) (hc : Names X x c) (tk : Takes X W)
    (hsub : ∀ y z, sub.lookup y = some z → PySem.W.exmOne X.K (clsV X.K y) c = some z)
    (hb : ∀ (W : WX) (pn : List (Addr × Obj)) (xe : Value → Shared → Prop), Takes (X.tr pn xe) W → PassesOwn (model X.prog X.w) X.A X.env xe → PSs (X.tr pn xe) body (tS X.K W b)) (hsu : ∀ (a : Addr) (pn : List (Addr × Obj)), PSs (X.suite a pn) (b₀ :: suite) (tS X.K W0 s)) :
    PS X (.Try body [.ExceptHandler (some (.Name x np)) (some nm) (b₀ :: suite) pos'] [] [] pos) (tS X.K W (mTry m sub i b s)) :=
  ps_imp (ps_tryX (tb := fun W => tS X.K W b) (ts := tS X.K W0 s) hs hf hN hi hln hc tk hb hsu) fun E σ H ⟨τ, G, n, F, ro, Γ, ks, w, R, g⟩ => by
    have g : G (if okD m ro Γ [] then O.to m ro Γ ks ((b (St (cnt m)) (roB ro Γ []) (entG m (resG ro 0 Γ)) (ksB m ro Γ)).tr (hdB m ro Γ sub i s)) else .no) := g
    by_cases ok : okD m ro Γ [] = true
    · rw [if_pos ok] at g
      refine ⟨St (cnt m), fun o => G (O.to m ro Γ ks (o.tr (hdB m ro Γ sub i s))), n, F, roB ro Γ [], _, ksB m ro Γ, w.blkX (C := fun o => O.to m ro Γ ks (o.tr (hdB m ro Γ sub i s))) ok rfl (fun _ g => g) (fun _ g => g) (fun _ g => g) (fun _ _ g => g) (fun y l Γ' cls dO σ' F' H' s1 R' e1 e2 xo g' => ?_), R.enter ok, g⟩
      have g' : G (O.to m ro Γ ks (hdB m ro Γ sub i s y (toSt (cnt m) l))) := g'
      unfold hdB at g'
      cases el : sub.lookup y.cls with
      | none => rw [el] at g'; exact (w.no g').elim
      | some z =>
        rw [el] at g'
        have hz := hsub _ _ el
        refine ⟨z, by rw [xo.1]; exact hz, fun hzt a ha => ?_, fun hzf => ?_⟩
        · subst hzt
          have fa : F' a = none := R'.sub.free ha
          have gr1 : Grow F' H' (upd F' a (exh a cls dO)) (upd H' a (exh a cls dO)) := Grow.one R'.sub ha
          have R2 : Rl X.K n F' (roB ro Γ []) (inB m ro Γ (toSt (cnt m) l)) [] σ' [] H' := by
            unfold inB
            rw [e2]
            exact R'.again ok e1
          have wb := (w.mono (s1.trans gr1.fz)).blk (m := m) ok
          obtain ⟨R3, g3⟩ := setE_ok (G := fun o => G (O.to m ro Γ ks o)) w.no ((R2.grow gr1).push (rp_exn xo fa)) g'
          exact ⟨St (cnt m), fun o => G (O.to m ro Γ ks o), n, _, roB ro Γ [], _, _, wb.del, R3, g3⟩
        · subst hzf
          have R2 : Rl X.K n F' ro (outB m ro Γ (toSt (cnt m) l)) [] σ' [] H' := by
            unfold outB
            rw [e2]
            exact Rl.leave (T := []) rfl ok e1 R'
          exact w.xc y _ cls dO σ' F' H' s1 R2 xo g'
    · rw [if_neg ok] at g; exact (w.no g).elim
end
end Fx

/-! G: isinstance, fields of exceptions. -/
namespace Fx
open PySem PySem.Spec PyProof.Rows L2
/-- what isinstance and a field's reading ask of an exception class -/
def xcB (K : PySem.W.Frag) (C : Addr) : Bool := (PySem.W.clsIn K C).isSome && xfB K C && decide (PySem.W.findIn K (.ref C) "__class__" = some (some (.builtin "object.__class__"))) && decide (PySem.W.specialIn K (.builtin "object.__class__") "__get__" = some (some (.builtin "getset_descriptor.__get__"))) &&
  decide (PySem.W.takesIn K (.builtin "object.__class__") = some true) && decide (PySem.W.mroIn K C (.type "object") = some true)
/-- x is of the class t: all that isinstance asks -/
def KitV (X : Cx) (H : Hp) (x : V) (t : Value) : Prop := ∀ (pins : List (Addr × Obj)) (σ : L2.St) (s : Shared) (u : Value), Inv X pins σ H s → RelV x u → ∃ P : Heap → Prop, PySem.W.KitX X.K u t P ∧ P s.heap ∧ u ≠ .builtin "__main__.__loader__#opaque"
def rI1 (X : Cx) : List V → Hp → VK → Prop := fun xs H Q => ∃ (x c : V) (t u : Value) (b : Bool), xs = [x, c] ∧ ClsV c u ∧ KitV X H x t ∧ PySem.W.kitOne X.K t u = some b ∧ Q (.bl b) H
def rIT (X : Cx) : List V → Hp → VK → Prop := fun xs H Q => ∃ (x : V) (tp : Addr) (cs : List V) (t : Value) (us : List Value) (b : Bool), xs = [x, .ref tp] ∧ H tp = some (.tup cs) ∧ Paired ClsV cs us ∧ KitV X H x t ∧ PySem.W.kitAny X.K t us = some b ∧ Q (.bl b) H
/-- by the names of types and classes -/
def isX (tt : List (String × Bool)) (tc : List (Str × Bool)) : D → Option Bool
  | .exn c _ => tc.lookup c
  | d => (tyD d).bind fun t => tt.lookup t
def fitB (K : PySem.W.Frag) (kit : Value → Option Bool) (tt : List (String × Bool)) (tc : List (Str × Bool)) : Bool := (tt.all fun p => kit (.type p.1) == some p.2) && tc.all fun p => match clsV K p.1 with
  | .ref C => xcB K C && kit (.ref C) == some p.2
  | _ => false
def mIsi (f : D → Option Bool) (me : Me) : Me := fun τ ro Γ T ex k => me τ ro Γ T ex fun Γ1 T1 => match T1 with
  | s :: T0 => rd ro Γ1 s fun d => bindB (f d) fun b => k Γ1 (.kd .v (.bl b) :: T0)
  | _ => .no
/-- e.f, e an exception of one of these classes -/
def fldX (cs : List Str) (f : Str) : D → Option D
  | .exn c fs => if cs.contains c then fs.lookup f else none
  | _ => none
def fldB (K : PySem.W.Frag) (cs : List Str) (f : Str) : Bool := cs.all fun c => match clsV K c with
  | .ref C => xfB K C && decide (PySem.W.findIn K (.ref C) f = some none)
  | _ => false
section
variable {X : Cx} {K : PySem.W.Frag} {W : WX} {n : Ent} {F F1 H H1 : Hp} {ro : Ro} {Γ T : Gm} {σ : L2.St} {ts : List V} {τ : Type} {G : O τ → Prop} {pos : Pos} {me : Me} {v x : V} {d : D} {tt : List (String × Bool)} {tc : List (Str × Bool)} {b : Bool}
theorem call_i1 : CallR X (.builtin "isinstance") (rI1 X) := by
  intro pins s σ H xs us Q I r h
  obtain ⟨x, c, t, u, b, rfl, k, kv, e, q⟩ := h
  obtain ⟨u1, u2, rfl, r1, r2⟩ := vals2 r
  cases k.eq r2
  obtain ⟨P, Z, p, hx⟩ := kv pins σ s u1 I r1
  exact PySem.W.kia_one Z I.kIn p e hx fun tk => ⟨.bl b, H, I.tok tk, rfl, q⟩
theorem call_iT : CallR X (.builtin "isinstance") (rIT X) := by
  intro pins s σ H xs us Q I r h
  obtain ⟨x, tp, cs, t, ws, b, rfl, hT, k, kv, e, q⟩ := h
  obtain ⟨u1, u2, rfl, r1, r2⟩ := vals2 r
  cases (show u2 = Value.ref tp from r2)
  obtain ⟨P, Z, p, hx⟩ := kv pins σ s u1 I r1
  have z : ObjOk X.prog X.w H s.heap tp (.tup cs) := I.hok tp _ hT
  obtain ⟨_, its, rv, o, h1, h2, n, h3⟩ := z
  cases ClsV.all k rv
  obtain ⟨oc, od, dt, sl⟩ := o
  simp only at h2 h3
  subst h2 h3
  exact PySem.W.kia_tup Z I.kIn p h1 e hx fun tk => ⟨.bl b, H, I.tok tk, rfl, q⟩
theorem xcB_ok {C : Addr} (h : xcB K C = true) : (PySem.W.clsIn K C).isSome = true ∧ XfC K C ∧ PySem.W.findIn K (.ref C) "__class__" = some (some (.builtin "object.__class__")) ∧ PySem.W.specialIn K (.builtin "object.__class__") "__get__" = some (some (.builtin "getset_descriptor.__get__")) ∧ PySem.W.takesIn K (.builtin "object.__class__") = some true ∧ PySem.W.mroIn K C (.type "object") = some true := by
  unfold xcB at h
  simp only [Bool.and_eq_true, decide_eq_true_eq] at h
  obtain ⟨⟨⟨⟨⟨h1, h2⟩, h3⟩, h4⟩, h5⟩, h6⟩ := h
  exact ⟨h1, xfB_ok h2, h3, h4, h5, h6⟩
/-- an exception object and its dict -/
theorem exn_at {pins : List (Addr × Obj)} {s : Shared} {a C : Addr} {c : Str} {fs : List (Str × D)} (I : Inv X pins σ H s) (r : Rp X.K H (.ref a) (.exn c fs)) (hC : clsV X.K c = .ref C) : ∃ oe od, PySem.W.InstAt s.heap a oe C od ∧ ((od = none ∧ fs = []) ∨ ∃ o fv dd, od = some o ∧ RpF X.K H fv fs ∧ H dd = some (.xd fv) ∧ ∃ mA : Str → Option Value, (∀ n, PySem.W.lookIn n o = some (mA n)) ∧ ∀ n, RelO (fv.lookup n) (mA n)) := by
  have at_ : ∀ {dO : Option Addr}, H a = some (exh a (clsV X.K c) dO) → ∃ oe vs, s.heap.get? a = some oe ∧ Zc (.ref C) dO oe ∧ oe.data = .fields vs := fun h => by
    have z : ObjOk X.prog X.w H s.heap a (exh a (clsV X.K c) _) := I.hok a _ h
    rw [hC] at z
    exact z.1
  cases r with
  | exn h e =>
    obtain ⟨oe, vs, e1, e2, e3⟩ := at_ h
    refine ⟨oe, none, ⟨e1, e2.1, by unfold PySem.W.notCls; rw [e3] <;> rfl, by rw [e2.2]; trivial⟩, .inl ⟨rfl, e⟩⟩
  | @exd _ dd _ fv _ h g t =>
    obtain ⟨oe, vs, e1, e2, e3⟩ := at_ h
    have hx : ObjOk X.prog X.w H s.heap dd (.xd fv) := I.hok dd _ g
    obtain ⟨mA, hns, hr⟩ := hx
    obtain ⟨od, ho, hl⟩ := lookIn_ns hns
    exact ⟨oe, some od, ⟨e1, e2.1, by unfold PySem.W.notCls; rw [e3] <;> rfl, by rw [e2.2]; exact ho⟩, .inr ⟨od, fv, dd, rfl, t, g, mA, hl, hr⟩⟩
theorem fit_kit {kit : Value → Option Bool} (hfit : fitB X.K kit tt tc = true) (r : Rp X.K H v d) (h : isX tt tc d = some b) : ∃ t, KitV X H v t ∧ kit t = some b := by
  unfold fitB at hfit
  rw [Bool.and_eq_true, List.all_eq_true, List.all_eq_true] at hfit
  obtain ⟨h1, h2⟩ := hfit
  have lk : ∀ {α : Type} [BEq α] [LawfulBEq α] {l : List (α × Bool)} {k : α} {b : Bool}, l.lookup k = some b → (k, b) ∈ l := fun {α _ _ l k b} h => by
    induction l with
    | nil => cases h
    | cons p l ih =>
      obtain ⟨j, z⟩ := p
      unfold List.lookup at h
      split at h
      · rename_i q
        cases h
        rw [eq_of_beq q]
        exact List.mem_cons_self
      · exact List.mem_cons_of_mem _ (ih h)
  have base : ∀ {t : String}, tyD d = some t → tt.lookup t = some b → ∃ t, KitV X H v t ∧ kit t = some b := fun {t} ht hl =>
    ⟨.type t, fun pins σ s u I ru => kit_tree (F := H) I ru (.refl _) (.rp r) ht, by simpa using h1 _ (lk hl)⟩
  have hd : (∃ c fs, d = .exn c fs) ∨ isX tt tc d = (tyD d).bind fun t => tt.lookup t := by cases d <;> first | exact .inl ⟨_, _, rfl⟩ | exact .inr rfl
  rcases hd with ⟨c, fs, rfl⟩ | hd
  · have q := h2 _ (lk (show tc.lookup c = some b from h))
    simp only at q
    cases hC : clsV X.K c with
    | ref C =>
      rw [hC] at q
      simp only [Bool.and_eq_true] at q
      obtain ⟨q1, q2⟩ := q
      obtain ⟨g1, g2, g3, g4, g5, g6⟩ := xcB_ok q1
      have : ∃ a, v = .ref a := by cases r <;> exact ⟨_, rfl⟩
      obtain ⟨a, rfl⟩ := this
      refine ⟨.ref C, fun pins σ s u I ru => ?_, by simpa using q2⟩
      cases (show u = Value.ref a from ru)
      obtain ⟨oe, od, J, _⟩ := exn_at I r hC
      exact ⟨_, PySem.W.kitx_exc (ox := oe) (od := od) g1 g2.ga g2.gg g2.exC g3 g4 g5 g6, J, fun z => nomatch z⟩
    | _ => rw [hC] at q; cases q
  · rw [hd] at h
    obtain ⟨t, e1, e2⟩ := Option.bind_eq_some_iff.mp h
    exact base e1 e2
theorem im_i1 {c : V} {u : Value} (hc : ClsV c u) (hfit : fitB X.K (fun t => PySem.W.kitOne X.K t u) tt tc = true) : ∀ σ H Q, tM X.K W (mIsi (isX tt tc) me) σ H Q → tCB (rI1 X) (tCons (tM X.K W me) (tCons (L2.tC c) tNil)) σ H Q := fun σ H Q ⟨τ, G, n, F, ro, Γ, T, ts, ex, k, w, R, g, cc⟩ =>
  ⟨τ, G, n, F, ro, Γ, T, ts, ex, _, w, R, g, fun Γ1 s1 T1 x F1 H1 e1 R1 g1 => by
    obtain ⟨d, r, g2⟩ := R1.rd w.no g1
    obtain ⟨b, hb, g3⟩ := bindB_some w.no g2
    obtain ⟨t, kv, hk⟩ := fit_kit hfit r hb
    exact ⟨x, c, t, u, b, rfl, hc, kv, hk, cc Γ1 _ T1 _ F1 H1 e1 (R1.pop.push (.bl b)) g3⟩⟩
theorem gx_isi {e c : Expr} {x : Str} {p : Pos} {cv : V} {u : Value} (tt : List (String × Bool)) (tc : List (Str × Bool)) (he : PE X e (tM X.K W me)) (hcl : PE X c (L2.tC cv)) (hc : ClsV cv u) (hfit : fitB X.K (fun t => PySem.W.kitOne X.K t u) tt tc = true) (hx : x = "isinstance") (hg : Gl X x) (hm : X.mg x = none)
    (hs : starEach [e, c] X.env = (false, eval e X.env) :: starEach [c] X.env := by rfl) (hs2 : starEach [c] X.env = (false, eval c X.env) :: starEach [] X.env := by rfl) (hpl : (backTo pos (starEach [c] X.env)).any (·.1) = false := by rfl) :
    PE X (.Call (.Name x p) [e, c] [] pos) (tM X.K W (mIsi (isX tt tc) me)) := by
  subst hx
  exact pe_imp (pe_callB call_i1 hg hm PyProof.Rows.Boot.«isinstance» (pa_cons he (pa_cons hcl pa_nil hs2) hs) (by decide) (by decide) hs hpl) (im_i1 hc hfit)

def tCs : List V → TA
  | [] => tNil
  | c :: r => tCons (L2.tC c) (tCs r)
theorem tCs_run : ∀ {cs : List V} {H : Hp} {Q : List V → Hp → Prop}, Q cs H → tCs cs σ H Q
  | [], _, _, h => h
  | c :: r, _, _, h => tCs_run (cs := r) h
theorem im_iT {cs : List V} {us : List Value} (hc : Paired ClsV cs us) (hl : cs.length ≤ sizeLine) (hfit : fitB X.K (fun t => PySem.W.kitAny X.K t us) tt tc = true) : ∀ σ H Q, tM X.K W (mIsi (isX tt tc) me) σ H Q → tCB (rIT X) (tCons (tM X.K W me) (tCons (tTup (tCs cs)) tNil)) σ H Q := fun σ H Q ⟨τ, G, n, F, ro, Γ, T, ts, ex, k, w, R, g, cc⟩ =>
  ⟨τ, G, n, F, ro, Γ, T, ts, ex, _, w, R, g, fun Γ1 s1 T1 x F1 H1 e1 R1 g1 => tCs_run ⟨hl, fun tp htp => by
    have gr : Grow F1 H1 F1 (upd H1 tp (.tup cs)) := Grow.beside R1.sub htp
    have R2 := R1.grow gr
    obtain ⟨d, r, g2⟩ := R2.rd w.no g1
    obtain ⟨b, hb, g3⟩ := bindB_some w.no g2
    obtain ⟨t, kv, hk⟩ := fit_kit hfit r hb
    exact ⟨x, tp, cs, t, us, b, rfl, upd_same, hc, kv, hk, cc Γ1 _ T1 _ F1 _ e1 (R2.pop.push (.bl b)) g3⟩⟩⟩
theorem gx_isiT {e : Expr} {cl : List Expr} {x : Str} {p tp : Pos} {kk : Nat} {cs : List V} {us : List Value} (tt : List (String × Bool)) (tc : List (Str × Bool)) (he : PE X e (tM X.K W me)) (hcl : PA X cl (tCs cs)) (hc : Paired ClsV cs us) (hfit : fitB X.K (fun t => PySem.W.kitAny X.K t us) tt tc = true) (hx : x = "isinstance") (hg : Gl X x) (hm : X.mg x = none) (hl : cs.length ≤ sizeLine := by decide)
    (hs : starEach [e, .Tuple cl kk tp] X.env = (false, eval e X.env) :: starEach [.Tuple cl kk tp] X.env := by rfl) (hs2 : starEach [.Tuple cl kk tp] X.env = (false, eval (.Tuple cl kk tp) X.env) :: starEach [] X.env := by rfl) (hpl : (backTo pos (starEach [.Tuple cl kk tp] X.env)).any (·.1) = false := by rfl) :
    PE X (.Call (.Name x p) [e, .Tuple cl kk tp] [] pos) (tM X.K W (mIsi (isX tt tc) me)) := by
  subst hx
  exact pe_imp (pe_callB call_iT hg hm PyProof.Rows.Boot.«isinstance» (pa_cons he (pa_cons (pe_tup hcl) pa_nil hs2) hs) (by decide) (by decide) hs hpl) (im_iT hc hl hfit)
/-- e.f, e a tracked exception -/
def tF1 (X : Cx) (f : Str) (te : TE) : TE := fun σ H Q => te σ H fun x H1 => ∃ (a dd C : Addr) (fv : List (Str × V)) (y : V), x = .ref a ∧ XfC X.K C ∧ PySem.W.findIn X.K (.ref C) f = some none ∧ H1 a = some (exh a (.ref C) (some dd)) ∧ H1 dd = some (.xd fv) ∧ fv.lookup f = some y ∧ Q y H1
theorem pe_f1 {e : Expr} {f : Str} {te : TE} (he : PE X e te) (hb : attributeBase e f X.env (eval e X.env) = eval e X.env := by rfl) : PE X (.Attribute e f pos) (tF1 X f te) := ⟨fun pins s σ H Q I h => by
  refine attr_of hb (thn (he.run pins s σ H _ I h) fun u s1 ⟨x, H1, I1, rx, a, dd, C, fv, y, ex, T, hno, h1, h2, hl, q⟩ => ?_)
  subst ex
  cases (show u = Value.ref a from rx)
  have z : ObjOk X.prog X.w H1 s1.heap a (exh a (.ref C) (some dd)) := I1.hok a _ h1
  obtain ⟨oe, vs, e1, e2, e3⟩ := z.1
  have hx : ObjOk X.prog X.w H1 s1.heap dd (.xd fv) := I1.hok dd _ h2
  obtain ⟨mA, hns, hr⟩ := hx
  obtain ⟨od, ho, hk⟩ := lookIn_ns hns
  obtain ⟨u, hu, ru⟩ := RelO.some_of (v := y) (o := mA f) (by rw [← hl]; exact hr f)
  have J : PySem.W.InstAt s1.heap a oe C (some od) := ⟨e1, e2.1, (by unfold PySem.W.notCls; rw [e3] <;> rfl), by rw [e2.2]; exact ho⟩
  exact HandSPX.exc_get I1.kIn J T.ga T.gg T.exC (PySem.W.findObj_own T.hdC hno rfl (by rw [hk, hu])) (handed_of ru) ⟨y, H1, I1.tok _, ru, q⟩⟩
theorem rpF_get {f : Str} {z : D} : ∀ {fv : List (Str × V)} {fs : List (Str × D)}, RpF K F fv fs → fs.lookup f = some z → ∃ y, fv.lookup f = some y ∧ Rp K F y z
  | _, _, .nil, h => by cases h
  | _, _, .cons (k := k) r t, h => by
    unfold List.lookup at h ⊢
    by_cases q : (f == k) = true
    · rw [q] at h ⊢
      cases h
      exact ⟨_, rfl, r⟩
    · have q : (f == k) = false := by simpa using q
      rw [q] at h ⊢
      exact rpF_get t h
theorem gx_fld {e : Expr} (cs : List Str) {f : Str} (he : PE X e (tM X.K W me)) (hB : fldB X.K cs f = true) (hb : attributeBase e f X.env (eval e X.env) = eval e X.env := by rfl) : PE X (.Attribute e f pos) (tM X.K W (mOp1 (fldX cs f) me)) :=
  pe_imp (pe_f1 he hb) fun σ H Q ⟨τ, G, n, F, ro, Γ, T, ts, ex, k, w, R, g, c⟩ => ⟨τ, G, n, F, ro, Γ, T, ts, ex, _, w, R, g, fun Γ1 s1 T1 x F1 H1 e1 R1 g1 => by
    obtain ⟨d, q1, g3⟩ := R1.rq w.no g1
    obtain ⟨z, hz, g5⟩ := bindO_some w.no g3
    unfold fldX at hz
    split at hz
    · rename_i cn fs
      split at hz
      · rename_i hc
        unfold fldB at hB
        rw [List.all_eq_true] at hB
        have q := hB cn (by simpa using hc)
        cases hC : clsV X.K cn with
        | ref C =>
          rw [hC] at q
          simp only [Bool.and_eq_true, decide_eq_true_eq] at q
          cases q1 with
          | rp r =>
            cases r with
            | exn h e => rw [e] at hz; cases hz
            | exd h g' t =>
              rw [hC] at h
              obtain ⟨y, hy, ry⟩ := rpF_get t hz
              exact ⟨_, _, C, _, y, rfl, xfB_ok q.1, q.2, R1.sub.at h rfl, R1.sub.at g' rfl, hy, c Γ1 _ T1 y F1 H1 e1 (R1.pop.push ry) g5⟩
          | own o => exact o.elim
        | _ => rw [hC] at q; cases q
      · cases hz
    · cases hz⟩
end
end Fx

/-! G: the end: a law's promise at the heap behind the top. -/
namespace Fx
open PySem PySem.Spec PyProof.Rows L2

theorem takes0 {X : Cx} : Takes X W0 := fun u s' ⟨_, _, _, _, _, _, _, _, _, _, _, _, _, _, _, _, w⟩ => w.elim
theorem hu64_of {A : Around} {k : Nat} (hr : Room k A) : A.units + 64 < cLine := by have := hr.un; omega
theorem hu65_of {A : Around} {k : Nat} (hr : Room k A) : A.units + 65 < cLine := by have := hr.un; omega
theorem hu1_of {A : Around} {k : Nat} (hr : Room k A) : A.units + 1 < cLine := by have := hr.un; omega
def argL (ns : List Int) : List D := [.lst (ns.map .int)]
theorem rp_ints {K : PySem.W.Frag} {H : Hp} : ∀ ns : List Int, RpL K H (ns.map V.int) (ns.map D.int)
  | [] => .nil
  | n :: ns => .cons (.int n) (rp_ints ns)
/-- the promise of a law at its script -/
theorem spF_law {K : PySem.W.Frag} {mf : List D → O (St (nio [.v]))} {H : Hp} {a : Addr} {ns : List Int} (hn : NoDk H) (hS : SqL K H a (ns.map V.int)) (h : mf (argL ns) = .rt (.bl true) ()) : spF K [.v] .v mf [.ref a] H (fun v _ => v = .bl true) fun _ _ _ => False := by
  refine ⟨⟨H, H, fun b => b ∈ ([] : List Addr), fun _ => 0⟩, H, argL ns, rfl, rfl, callee (.v (.lst hS (rp_ints ns)) .nil) (.refl _) hn [] (fun _ => 0) (fun w κ c h => by cases h) (fun i i' κ κ' e => by cases i <;> cases e) (fun x h => by cases h) (fun x h => by cases h), rfl, rfl, ?_⟩
  rw [h]
  intro v F' H' ss R'
  have q := R'.topV
  cases q
  rfl
/-- the script's list, tracked or the module's own -/
theorem enterG {P : Program} {w : World} {K : PySem.W.Frag} {mg mb : Str → Option Value} {k : Nat} {fa a : Addr} {fd : FuncData} {x : Str} {mf : List D → O (St (nio [.v]))} {s₁ : Shared} {vs : List Value} {ns : List Int}
    (KX : K.In s₁.heap) (hmain : s₁.heap.Ns mainGlobals mg) (hblt : s₁.heap.Ns builtinsNs mb) (hboot : ∀ x : Str, x ≠ "__name__" → mb x = bootBuiltins x) (hlim : s₁.heap.NoLimit) (hgen : s₁.gens = #[])
    (ha : s₁.heap.get? a = some { cls := .type "list", data := .seq vs.toArray }) (hi : IntsAre vs ns) (hl : ns.length ≤ sizeLine) (hr : Room k callerA)
    (Fn : ∀ base : Heap, K.In base → base.Ns mainGlobals mg → FnG P w K mg base k fa fd [x] (spF K [.v] .v mf)) (hbind : ∀ (s : Shared) (u : Value), BindsTo s fd ⟨[u], []⟩ [(x, u)])
    (h : mf (argL ns) = .rt (.bl true) ()) :
    codeAny (model P w) callerA (.call (.ref fa) ⟨[.ref a], []⟩) (fun r s' => r = .ok (.ret (.bool true)) ∧ OldK s₁.heap s'.heap ∧ s'.os = s₁.os ∧ AllBare s'.gens) s₁ := by
  have words : Vals (ns.map V.int) vs := L2.vals_ints hi
  have many : vs.length = ns.length := hi.length
  let o₁ : Obj := { cls := .type "list", data := .seq vs.toArray }
  -- what is tracked: the script, unless it is the module's own
  let T : Hp := fun b => if b = a ∧ K.lookup a = none then some (.frz o₁ (.lst (ns.map V.int))) else none
  have tAt : ∀ b u, T b = some u → b = a ∧ K.lookup a = none ∧ u = .frz o₁ (.lst (ns.map V.int)) := fun b u e => by
    by_cases c : b = a ∧ K.lookup a = none
    · have e : some (HO.frz o₁ (.lst (ns.map V.int))) = some u := (if_pos c).symm.trans e
      cases e
      exact ⟨c.1, c.2, rfl⟩
    · have e : (none : Option HO) = some u := (if_neg c).symm.trans e
      cases e
  have seq : SqL K T a (ns.map V.int) := by
    cases c : K.lookup a with
    | some o =>
      have e := KX a o c
      rw [ha] at e
      cases e
      exact .inr ⟨_, vs.toArray, _, c, rfl, rfl, rfl, by rw [List.size_toArray, many]; exact hl, by simpa using words⟩
    | none => exact .inl (.inr ⟨o₁, if_pos ⟨rfl, c⟩⟩)
  have tok : HOk P w T s₁.heap := fun b u e => by
    obtain ⟨rfl, _, rfl⟩ := tAt b u e
    exact ⟨ha, by rw [List.length_map]; exact hl, vs, _, words, ha⟩
  have out : ∀ {b : Addr} {o : Obj}, s₁.heap.get? b = some o → T b = none → (L2.hidT s₁.heap T).get? b = some o := fun e n => L2.hidT_get e n
  have notA : ∀ {b : Addr} {o : Obj} {es : Array DictEntry} {ep : Nat}, s₁.heap.get? b = some o → o.data = .dict es ep → T b = none := fun {b o es ep} e d => by
    cases q : T b with
    | none => rfl
    | some u =>
      obtain ⟨rfl, _, _⟩ := tAt b u q
      rw [ha] at e
      cases e
      cases d
  have nsOf : ∀ {b : Addr} {m : Str → Option Value}, s₁.heap.Ns b m → (L2.hidT s₁.heap T).Ns b m := fun ⟨o, es, ep, e, d, r⟩ => ⟨o, es, ep, out e (notA e d), d, r⟩
  have KT : K.In (L2.hidT s₁.heap T) := fun b o e => out (KX b o e) (by
    cases q : T b with
    | none => rfl
    | some u =>
      obtain ⟨rfl, n, _⟩ := tAt b u q
      rw [n] at e
      cases e)
  have md : Mod K mg (L2.hidT s₁.heap T) := ⟨KT, nsOf hmain, ⟨mb, nsOf hblt, hboot⟩, let ⟨mc, l1, l2⟩ := hlim; ⟨mc, nsOf l1, l2⟩⟩
  have start : Env0 P w K mg (L2.hidT s₁.heap T) callerA [] s₁ T := ⟨rfl, md, fun b o e => L2.of_hidT e, Nat.le_of_eq (L2.hidT_size _ _), trivial, fun b hb => absurd (show b ∈ ([] : List Addr) from hb) (by simp), tok, .of_eq hgen⟩
  refine codeAny_mono ((Fn _ KT (nsOf hmain)).run callerA [] s₁ T ⟨[.ref a], []⟩ [.ref a] [.ref a] _ _ hr rfl start (hbind s₁ (.ref a)) (.cons rfl .nil) (spF_law (fun b u e => by obtain ⟨_, _, rfl⟩ := tAt b u e; rfl) seq h)) fun r s' q => ?_
  match r, q with
  | .error e, q =>
    obtain ⟨_, _, _, _, _, _, _, _, _, _, _, _, z⟩ := q
    exact z.elim
  | .ok .next, q => exact False.elim q
  | .ok .brk, q => exact False.elim q
  | .ok .cont, q => exact False.elim q
  | .ok (.ret u), q =>
    obtain ⟨v, T', os, bare, un, tok', ru, qv⟩ := q
    have qv : v = .bl true := qv
    subst qv
    obtain rfl : u = Value.bool true := ru
    refine ⟨rfl, OldK.of_keep fun b o e => ?_, os, bare⟩
    cases z : T b with
    | none => exact un.keep b o e z (by intro y; exact absurd (show b ∈ ([] : List Addr) from y) (by simp)) (by simp)
    | some u =>
      obtain ⟨_, _, rfl⟩ := tAt b u z
      have z2 := un.frzs b _ _ z
      obtain ⟨e1, _⟩ := tok b _ z
      obtain ⟨e2, _⟩ := tok' b _ z2
      rw [e] at e1
      cases e1
      exact e2
/-- the goal that the row's head leaves, from the mirror's answer at every script -/
theorem walkG {l : PySem.W.OpenLaw} {n k : Nat} {q : Program} {loose : List Str} {XP : (Str → Option Value) → Heap → Prop} {YP : World → Heap → Prop} {d : DefRec} {K : Params → PySem.W.Frag} {mf : List D → O (St (nio [.v]))} {x : Str}
    (hn : l.most = some n) (hn2 : n ≤ sizeLine) (hdf : d.params.defaults = []) (hr : Room k callerA) (hY : ∀ (w : World) (h : Heap), YP w h → (K w.params).In h)
    (Fn : ∀ (w : World) (mg : Str → Option Value) (fa : Addr) (h : Heap), (K w.params).In h → h.Ns mainGlobals mg → mg d.name = some (.ref fa) →
      ∃ fd : FuncData, (∀ (s : Shared) (u : Value), BindsTo s fd ⟨[u], []⟩ [(x, u)]) ∧ ∀ base : Heap, (K w.params).In base → base.Ns mainGlobals mg → FnG l.prog w (K w.params) mg base k fa fd [x] (spF (K w.params) [.v] .v mf))
    (h : ∀ ns : List Int, ns.length ≤ n → (∀ z ∈ ns, Builtin.Int.intBits z ≤ 1048576) → mf (argL ns) = .rt (.bl true) ()) :
    PySem.W.WalkO q loose XP YP l.row.toRowW d [] (fun f vs => PySem.call f vs) := by
  refine Att.attach_callB hn hdf fun w s₀ s₁ mg mb fa o pm cd doc a vs ns G Y ho hd hcd hmg hobj hints hlen hbits hg => ?_
  have KX := hY w _ Y
  obtain ⟨fd, hb, hF⟩ := Fn w mg fa _ KX G.T.g hmg
  exact enterG KX G.T.g G.T.b G.T.builtins G.T.nolimit hg hobj hints (Nat.le_trans hlen hn2) hr hF hb (h ns hlen hbits)
end Fx

/-! G: what the built-in names stand for. -/
namespace Fx
open PySem PySem.Spec PyProof.Rows L2
theorem bb_len : bootBuiltins "len" = some (.builtin "len") := by decide +kernel
theorem bb_isinstance : bootBuiltins "isinstance" = some (.builtin "isinstance") := by decide +kernel
theorem bb_all : bootBuiltins "all" = some (.builtin "all") := by decide +kernel
theorem bb_any : bootBuiltins "any" = some (.builtin "any") := by decide +kernel
theorem bb_sum : bootBuiltins "sum" = some (.builtin "sum") := by decide +kernel
theorem bb_max : bootBuiltins "max" = some (.builtin "max") := by decide +kernel
theorem bb_min : bootBuiltins "min" = some (.builtin "min") := by decide +kernel
theorem bb_abs : bootBuiltins "abs" = some (.builtin "abs") := by decide +kernel
theorem bb_int : bootBuiltins "int" = some (.type "int") := by decide +kernel
theorem bb_str : bootBuiltins "str" = some (.type "str") := by decide +kernel
theorem bb_repr : bootBuiltins "repr" = some (.builtin "repr") := by decide +kernel
theorem bb_sorted : bootBuiltins "sorted" = some (.builtin "sorted") := by decide +kernel
theorem bb_list : bootBuiltins "list" = some (.type "list") := by decide +kernel
theorem bb_dict : bootBuiltins "dict" = some (.type "dict") := by decide +kernel
theorem bb_tuple : bootBuiltins "tuple" = some (.type "tuple") := by decide +kernel
theorem bb_set : bootBuiltins "set" = some (.type "set") := by decide +kernel
theorem bb_bool : bootBuiltins "bool" = some (.type "bool") := by decide +kernel
theorem bb_range : bootBuiltins "range" = some (.type "range") := by decide +kernel
theorem bb_zip : bootBuiltins "zip" = some (.type "zip") := by decide +kernel
theorem bb_enumerate : bootBuiltins "enumerate" = some (.type "enumerate") := by decide +kernel
theorem bb_ValueError : bootBuiltins "ValueError" = some (.type "ValueError") := by decide +kernel
theorem bb_LookupError : bootBuiltins "LookupError" = some (.type "LookupError") := by decide +kernel
end Fx

/-! G: classes of exceptions, bundled; calls by names of parameters. -/
namespace Fx
open PySem PySem.Spec PyProof.Rows L2
/-- C(e, ..) can be raised -/
structure RaiseX (P : Program) (w : World) (K : PySem.W.Frag) (mg : Str → Option Value) (base : Heap) (c : Str) (fN : List Str) (k : Nat) : Prop where
  ex : ∃ (C fI : Addr) (fd : FuncData) (ps : List Str), clsV K c = .ref C ∧ OexC K C ∧ (∀ f, f ∈ fN → PySem.W.findIn K (.ref C) f = some none) ∧ PySem.W.findIn K (.ref C) "__init__" = some (some (.ref fI)) ∧ PySem.W.typeIn K (.ref fI) = some (.type "function") ∧
    FnOk P w K mg base (L2.CX P w) k fI fd ps (spI K fN) ∧ Binds K fd ps [] ∧ mg c = some (.ref C)
section
variable {X : Cx} {W : WX} {pos pos' p : Pos} {c : Str} {fN : List Str} {k k' : Nat} {e : Expr} {es : List Expr} {mr : Me}
theorem pass0 {X : Cx} : Passes (L2.CX X.prog X.w) X (fun _ _ _ => False) := passes_call (W := W0) takes0 fun _ _ _ _ h => h
theorem sx_raiseX (R : RaiseX X.prog X.w X.K X.mg X.base c fN k) (hr : Room k' X.A) (hk : k + 1 ≤ k') (hg : Gl X c) (hc : X.calm = true) (tk : Takes X W) (ha : PA X (e :: es) (tA X.K W fN.length mr)) (hn : fN.length ≤ 1000 := by decide)
    (hdb : (c == ("__debug__" : Str)) = false := by decide) (he : starEach (e :: es) X.env = (false, eval e X.env) :: starEach es X.env := by rfl) (hpl : (backTo pos (starEach es X.env)).any (·.1) = false := by rfl) :
    PS X (.Raise (some (.Call (.Name c p) (e :: es) [] pos)) none pos') (tS X.K W (mRaise c fN mr)) := by
  obtain ⟨C, fI, fd, ps, h1, h2, h3, h4, h5, h6, h7, h8⟩ := R.ex
  exact sx_raise h1 h2 h3 h4 h5 h6 (hr.mono hk) h7 pass0 hg h8 hc tk ha hn hdb he hpl
end
/-! ### f(.., k = v) -/
section
variable {X : Cx} {k : Nat} {f : Addr} {fd : FuncData} {ps ks : List Str} {sp : Sp} {x : Str} {p pos : Pos} {e : Expr} {es : List Expr} {kws : List Keyword} {t tk : TA} {W : WX} {g : List Value → List Value → List Value} {gV : List V → List V → List V}
theorem run_fngK {n : Nat} {pins : List (Addr × Obj)} {σ : L2.St} {H : Hp} {s : Shared} {Q : VK} {us ws : List Value} {vs zs : List V} (Fn : FnG X.prog X.w X.K X.mg X.base k f fd ps sp) (hr : Room k X.A) (hgd : X.A.guards = some []) (hb : KBn X.K fd ps n ks g gV) (tk : Takes X W)
    (I : Inv X pins σ H s) (r : Vals vs us) (rz : Vals zs ws) (l1 : vs.length = n) (l2 : zs.length = ks.length) (h : sp (gV vs zs) H Q (WE W σ)) : wpAny (model X.prog X.w) X.A (call (.ref f) us (ks.zip ws)) (EP X pins σ Q) X.xe s := by
  have r2 := hb.rel r rz
  refine wpAny_call (codeAny_mono (Fn.run X.A X.stack s H ⟨us, ks.zip ws⟩ (g us ws) (gV vs zs) Q (WE W σ) hr hgd I.env0 (hb.to s us ws I.kIn (r.length.symm.trans l1) (rz.length.symm.trans l2)) r2 h) fun res s' hq => ?_)
  match res, hq with
  | .error e, hq => exact (passAt tk σ) pins H s e s' I hq
  | .ok (.ret u), hq => exact I.after hq
  | .ok .next, hq => exact False.elim hq
  | .ok .brk, hq => exact False.elim hq
  | .ok .cont, hq => exact False.elim hq
def tCallGK0 (m : Nat) (sp : Sp) (gV : List V → List V → List V) (W : WX) (tk : TA) : TE := fun σ H Q => tk σ H fun zs H2 => zs.length = m ∧ sp (gV [] zs) H2 Q (WE W σ)
theorem pe_callGK0 (Fn : FnG X.prog X.w X.K X.mg X.base k f fd ps sp) (hr : Room k X.A) (hgd : X.A.guards = some []) (hg : Gl X x) (hm : X.mg x = some (.ref f)) (hk : PySem.W.keepIn X.K (.ref f) = true) (hb : KBn X.K fd ps 0 ks g gV) (tK : Takes X W) (hkw : PK X kws tk)
    (hall : (backToKw pos (keywordEach kws X.env)).all (·.1.isSome) = true := by rfl) (hks : (backToKw pos (keywordEach kws X.env)).filterMap (·.1) = ks := by rfl) (hdb : (x == ("__debug__" : Str)) = false := by decide)
    (hpl : ((backTo pos (starEach [] X.env)).any (·.1) || (backToKw pos (keywordEach kws X.env)).any (·.1.isNone)) = false := by rfl) : PE X (.Call (.Name x p) [] kws pos) (tCallGK0 ks.length sp gV W tk) := ⟨fun pins s σ H Q I h => by
  refine wpAny_Call_Name_kw (ld_glob I hg hm (PySem.W.callWith_KW0 (h₀ := X.base) I.ok.mod.kin hk hall (thn (hkw.run pos pins s σ H _ I h) fun ws s2 ⟨zs, H2, I2, rz, l2, q2⟩ => ⟨I2.kIn, ?_⟩) hpl) hdb)
  rw [hks]
  exact run_fngK (us := []) (vs := []) Fn hr hgd hb tK I2 .nil rz rfl l2 q2⟩
/-- the keywords' values, as temporaries -/
theorem gk_nil : PK X [] (tA X.K W 0 mNil) := ⟨fun pos pins s σ H Q I ⟨τ, G, n, F, ro, Γ, T, ts, ex, kk, w, R, g0, c⟩ => pk_nil.run pos pins s σ H Q I (c Γ T [] F H (.refl _) rfl R g0)⟩
theorem gk_cons {nm : Option Str} {kpos : Pos} {ma mr : Me} {N : Nat} (ha : PE X e (tM X.K W ma)) (hr : PK X kws (tA X.K W N mr)) : PK X (⟨nm, e, kpos⟩ :: kws) (tA X.K W (N + 1) (mCons ma mr)) := ⟨fun pos pins s σ H Q I ⟨τ, G, n, F, ro, Γ, T, ts, ex, k, w, R, g0, c⟩ =>
  (pk_cons ha hr).run pos pins s σ H Q I ⟨τ, G, n, F, ro, Γ, T, ts, ex, _, w, R, g0, fun Γ1 s1 T1 x F1 H1 e1 R1 g1 => ⟨τ, G, n, F1, ro, Γ1, s1 :: T1, x :: ts, ex, k, w.mono e1, R1, g1, fun Γ2 T2 vs F2 H2 e2 hl R2 g2 => c Γ2 T2 (x :: vs) F2 H2 (e1.trans e2) (by simp [hl]) (by simpa using R2) g2⟩⟩⟩
end
/-- parameters by name only, in their order -/
theorem gx_callK0 {X : Cx} {k : Nat} {f : Addr} {fd : FuncData} {ps : List Str} {x : Str} {p pos : Pos} {kws : List Keyword} {W : WX} {pk : List Pk} {ρ : Kd} {mf : List D → O (St (nio pk))} {mr : Me} {N : Nat} (Fn : FnG X.prog X.w X.K X.mg X.base k f fd ps (spF X.K pk ρ mf)) (hr : Room k X.A) (hgd : X.A.guards = some []) (hg : Gl X x) (hm : X.mg x = some (.ref f)) (hk : PySem.W.keepIn X.K (.ref f) = true)
    (hb : KBn X.K fd ps 0 ps (fun _ ws => ws) (fun _ zs => zs)) (tk : Takes X W) (ha : PK X kws (tA X.K W N mr)) (hN : N = pk.length := by rfl) (hN2 : N = ps.length := by rfl) (hall : (backToKw pos (keywordEach kws X.env)).all (·.1.isSome) = true := by rfl) (hks : (backToKw pos (keywordEach kws X.env)).filterMap (·.1) = ps := by rfl) (hdb : (x == ("__debug__" : Str)) = false := by decide)
    (hpl : ((backTo pos (starEach [] X.env)).any (·.1) || (backToKw pos (keywordEach kws X.env)).any (·.1.isNone)) = false := by rfl) : PE X (.Call (.Name x p) [] kws pos) (tM X.K W (mCall pk ρ mf [] mr)) :=
  pe_imp (pe_callGK0 Fn hr hgd hg hm hk hb tk ha hall hks hdb hpl) fun σ H Q h => by
    have q := im_call (dv := []) (dvs := []) (N := N) (fun _ => .nil) (by simpa using hN) σ H Q h
    show tA X.K W N mr σ H fun zs H2 => zs.length = ps.length ∧ spF X.K pk ρ mf zs H2 Q (WE W σ)
    obtain ⟨τ, G, n, F, ro, Γ, T, ts, ex, kk, w, R, g0, c⟩ := q
    exact ⟨τ, G, n, F, ro, Γ, T, ts, ex, kk, w, R, g0, fun Γ' T' vs F' H' s' hl R' g' => by
      have z : spF X.K pk ρ mf (vs ++ []) H' Q (WE W σ) := c Γ' T' vs F' H' s' hl R' g'
      rw [List.append_nil] at z
      exact ⟨hl.trans hN2, z⟩⟩
end Fx

/-! G: slices; what a name holds comes to stay in its place. -/
namespace Fx
open PySem PySem.Spec PyProof.Rows L2
abbrev MO := ∀ τ : Type, Ro → Gm → Gm → (Xn → Gm → O τ) → (Option Int → Gm → Gm → O τ) → O τ
def asI : D → Option (Option Int)
  | .int i => some (some i)
  | _ => none
def mO0 : MO := fun _ _ Γ T _ k => k none Γ T
def mO1 (m : Me) : MO := fun τ ro Γ T ex k => m τ ro Γ T ex fun Γ1 T1 => match T1 with
  | s :: T0 => rd ro Γ1 s fun d => bindI (asI d) fun o => k o Γ1 T0
  | _ => .no
def mSlc (own : Bool) (ma : Me) (ml mh : MO) : Me := fun τ ro Γ T ex k => ma τ ro Γ T ex fun Γ1 T1 => ml τ ro Γ1 T1 ex fun lo Γ2 T2 => mh τ ro Γ2 T2 ex fun hi Γ3 T3 => match T3 with
  | a :: T4 => rq ro Γ3 a fun d => bindO (asL own (cutD d lo hi)) fun z => k Γ3 (.kd (kdL own) z :: T4)
  | _ => .no
def revD : D → Option D
  | .lst l => some (.lst l.reverse)
  | _ => none
def mRev (own : Bool) (ma : Me) : Me := fun τ ro Γ T ex k => ma τ ro Γ T ex fun Γ1 T1 => match T1 with
  | a :: T4 => rq ro Γ1 a fun d => bindO (asL own (revD d)) fun z => k Γ1 (.kd (kdL own) z :: T4)
  | _ => .no
def tO (K : PySem.W.Frag) (W : WX) (m : MO) : TO := fun σ H Q => ∃ (τ : Type) (G : O τ → Prop) (n : Ent) (F : Hp) (ro : Ro) (Γ T : Gm) (ts : List V) (ex : Xn → Gm → O τ) (k : Option Int → Gm → Gm → O τ),
  Wi K W G n F ro σ ex ∧ Rl K n F ro Γ T σ ts H ∧ G (m τ ro Γ T ex k) ∧ ∀ o Γ' T' F' H', Same F F' → Rl K n F' ro Γ' T' σ ts H' → G (k o Γ' T') → Q o H'
section
variable {X : Cx} {K : PySem.W.Frag} {W : WX} {n : Ent} {F F1 H H1 : Hp} {ro : Ro} {Γ T : Gm} {σ : L2.St} {ts : List V} {τ : Type} {G : O τ → Prop} {pos p2 : Pos} {a e : Expr} {ma me : Me} {ml mh : MO} {lo hi : Option Expr} {v : V} {d : D} {κ : Kd}
theorem rpL_rev : ∀ {vs : List V} {ds : List D}, RpL K F vs ds → RpL K F vs.reverse ds.reverse
  | _, _, .nil => .nil
  | _, _, .cons a t => by
    rw [List.reverse_cons, List.reverse_cons]
    exact (rpL_rev t).append (.cons a .nil)
theorem go_none : PO X none (tO X.K W mO0) := ⟨fun pins s σ H Q I ⟨τ, G, n, F, ro, Γ, T, ts, ex, k, w, R, g, c⟩ => po_none.run pins s σ H Q I (c none Γ T F H (.refl _) R g)⟩
theorem go_some (he : PE X e (tM X.K W me)) : PO X (some e) (tO X.K W (mO1 me)) := ⟨fun pins s σ H Q I ⟨τ, G, n, F, ro, Γ, T, ts, ex, k, w, R, g, c⟩ => (po_some he).run pins s σ H Q I ⟨τ, G, n, F, ro, Γ, T, ts, ex, _, w, R, g, fun Γ1 s1 T1 x F1 H1 e1 R1 g1 => by
  obtain ⟨d, r, g2⟩ := R1.rd w.no g1
  obtain ⟨o, ho, g3⟩ := bindI_some w.no g2
  unfold asI at ho
  split at ho
  · cases ho
    cases r
    exact ⟨_, rfl, c _ Γ1 T1 F1 H1 e1 R1.pop g3⟩
  · cases ho⟩⟩
theorem gx_slc (own : Bool) (ha : PE X a (tM X.K W ma)) (hl : PO X lo (tO X.K W ml)) (hh : PO X hi (tO X.K W mh)) : PE X (.Subscript a (.Slice lo hi none p2) pos) (tM X.K W (mSlc own ma ml mh)) := pe_imp (pe_slice sl_F ha hl hh) fun σ H Q ⟨τ, G, n, F, ro, Γ, T, ts, ex, k, w, R, g, c⟩ =>
  ⟨τ, G, n, F, ro, Γ, T, ts, ex, _, w, R, g, fun Γ1 s1 T1 x F1 H1 e1 R1 g1 => ⟨τ, G, n, F1, ro, Γ1, s1 :: T1, x :: ts, ex, _, w.mono e1, R1, g1, fun lo Γ2 T2 F2 H2 e2 R2 g2 => ⟨τ, G, n, F2, ro, Γ2, T2, x :: ts, ex, _, w.mono (e1.trans e2), R2, g2, fun hi Γ3 T3 F3 H3 e3 R3 g3 => by
    cases T3 with
    | nil => exact (w.no g3).elim
    | cons s T4 =>
      obtain ⟨d, q, g4⟩ := R3.rq w.no g3
      obtain ⟨z, hz, g5⟩ := bindO_some w.no g4
      obtain ⟨z', hz', o⟩ := R3.pop.outN hz fun v F' H' e' R' => c Γ3 _ T4 v F' H' (e1.trans (e2.trans (e3.trans e'))) R' g5
      exact ⟨F3, d, z', R3.sub, q, hz', o⟩⟩⟩⟩
theorem gx_rev (own : Bool) {k : Nat} {p1 p3 : Pos} (ha : PE X a (tM X.K W ma)) : PE X (.Subscript a (.Slice none none (some (.UnaryOp .USub (.Constant (.int 1) k p1) p2)) p3) pos) (tM X.K W (mRev own ma)) := pe_imp (pe_revL ha) fun σ H Q ⟨τ, G, n, F, ro, Γ, T, ts, ex, k, w, R, g, c⟩ =>
  ⟨τ, G, n, F, ro, Γ, T, ts, ex, _, w, R, g, fun Γ1 s1 T1 x F1 H1 e1 R1 g1 => by
    obtain ⟨d, q, g4⟩ := R1.rq w.no g1
    obtain ⟨z, hz, g5⟩ := bindO_some w.no g4
    obtain ⟨z', hz', o⟩ := R1.pop.outN hz fun v F' H' e' R' => c Γ1 _ T1 v F' H' (e1.trans e') R' g5
    unfold revD at hz'
    split at hz'
    · cases hz'
      obtain ⟨a, xs, rfl, h, t⟩ := q.lst R1.sub
      exact ⟨a, xs, rfl, h, fun p hp => o.lnew R1.sub hp (rpL_rev t)⟩
    · cases hz'⟩
end
end Fx

/-! G: what a name holds comes to stay, in its place. -/
namespace Fx
open PySem PySem.Spec PyProof.Rows L2
def frE (j : Nat) (d : D) (ro : Ro) (Γ : Gm) : Gm := gs (kG j ro 0 (gs (kG j ro 0 Γ) j .un)) j (.kd .v d)
def mFzS (e : Me) : Me := fun τ ro Γ T ex k => e τ ro Γ T ex fun Γ1 T1 => match T1 with
  | .al j [] none :: T0 => (match gg Γ1 j with
    | .kd κ d => if κ.free && T0.all (fun s => !ofB j s && !isRo s) then k (frE j d ro Γ1) (.kd .v d :: T0) else .no
    | _ => .no)
  | _ => .no
section
variable {X : Cx} {K : PySem.W.Frag} {W : WX} {n : Ent} {F F1 H H1 : Hp} {ro : Ro} {Γ T : Gm} {σ : L2.St} {ts : List V} {τ : Type} {G : O τ → Prop} {pos : Pos} {e : Expr} {m : Me} {v : V} {d : D} {κ : Kd}
theorem set_self {j : Nat} {v : V} (h : (σ[j]?).join = some v) : σ.set j (some v) = σ := by
  apply List.ext_getElem?
  intro i
  by_cases hi : j = i
  · subst hi
    by_cases hl : j < σ.length
    · rw [List.getElem?_set_self hl]
      rw [List.getElem?_eq_getElem hl] at h ⊢
      exact congrArg some h.symm
    · rw [List.getElem?_eq_none (by omega)] at h
      cases h
  · rw [List.getElem?_set_ne hi]
theorem Rl.frS {j : Nat} (R : Rl K n F ro Γ (.al j [] none :: T) σ (v :: ts) H) (hj : gg Γ j = .kd κ d) (hf : κ.free = true) (hT : T.all (fun s => !ofB j s && !isRo s) = true) : ∃ A : List Addr, ∀ H2, Lkd A H H2 → ∃ F1, Same F F1 ∧ Rl K n F1 ro (frE j d ro Γ) (.kd .v d :: T) σ (v :: ts) H2 := by
  obtain ⟨ft, S, q, hv⟩ := R.top
  have q : EnOk K n F H _ _ _ _ (.al j [] none) := q
  obtain ⟨k1, d1, v1, w1, q1, q2, q3, q4, q5, q6⟩ := q
  rw [hv] at q3
  cases q3
  have q4 : v = v1 := q4
  subst q4
  obtain ⟨A, hA⟩ := (R.mvT hj hT).frz hf
  refine ⟨A, fun H2 lk => ?_⟩
  obtain ⟨F1, s1, R2⟩ := hA H2 lk
  have hl : j < Γ.length := by
    by_cases q : j < Γ.length
    · exact q
    · rw [gg_out (by omega)] at hj; cases hj
  have R3 := R2.assignT (i := j) R2.topV (by rw [gg_set, if_pos ⟨rfl, by rw [kG_len]; exact hl⟩]; rfl) fun x hx => by
    unfold tr at hx
    rw [tb_cons] at hx
    by_cases h : x = T.length
    · rw [if_pos h] at hx; exact hx
    · rw [if_neg h] at hx
      exact tr_noal (ro := ro) hT x hx
  rw [set_self (j := j) (v := v) q2] at R3
  exact ⟨F1, s1, R3⟩
theorem gx_fzS (h : PE X e (tM X.K W m)) : PE X e (tM X.K W (mFzS m)) := pe_imp (pe_gh h) fun σ H Q ⟨τ, G, n, F, ro, Γ, T, ts, ex, k, w, R, g, c⟩ =>
  ⟨τ, G, n, F, ro, Γ, T, ts, ex, _, w, R, g, fun Γ1 s T1 v F1 H1 e1 R1 g1 => by
    cases s with
    | al j p o =>
      cases p with
      | nil =>
        cases o with
        | none =>
          simp only at g1
          cases eg : gg Γ1 j with
          | kd κ d =>
            rw [eg] at g1
            simp only at g1
            split at g1
            · rename_i hb
              rw [Bool.and_eq_true] at hb
              obtain ⟨A, hA⟩ := R1.frS eg hb.1 hb.2
              refine ⟨A, fun H2 lk => ?_⟩
              obtain ⟨F2, s2, R2⟩ := hA H2 lk
              exact c _ _ T1 v F2 H2 (e1.trans s2) R2 g1
            · exact (w.no g1).elim
          | _ => rw [eg] at g1; exact (w.no g1).elim
        | some c => exact (w.no g1).elim
      | cons _ _ => exact (w.no g1).elim
    | _ => exact (w.no g1).elim⟩
end
end Fx

/-! G: built-in functions whose answers are scalars. -/
namespace Fx
open PySem PySem.Spec PyProof.Rows L2
theorem sc_lenF : ∀ ds z, lenF ds = some z → scal z = true := by
  intro ds z h
  unfold lenF at h
  split at h <;> first | (cases h; rfl) | (split at h <;> first | (cases h; rfl) | cases h) | cases h
theorem sc_map {α : Type} {o : Option α} {f : α → D} {z : D} (hf : ∀ a, scal (f a) = true) (h : o.map f = some z) : scal z = true := by
  cases o with
  | none => cases h
  | some a => cases h; exact hf a
theorem sc_isiF : ∀ ds z, isiF ds = some z → scal z = true := by
  intro ds z h
  unfold isiF at h
  split at h
  · exact sc_map (fun _ => rfl) h
  · cases h
theorem sc_allF : ∀ ds z, allF ds = some z → scal z = true := by
  intro ds z h
  unfold allF at h
  split at h
  · exact sc_map (fun _ => rfl) h
  · cases h
theorem sc_anyF : ∀ ds z, anyF ds = some z → scal z = true := by
  intro ds z h
  unfold anyF at h
  split at h
  · exact sc_map (fun _ => rfl) h
  · cases h
theorem sc_sumF : ∀ ds z, sumF ds = some z → scal z = true := by
  intro ds z h
  unfold sumF at h
  split at h
  · exact sc_map (fun _ => rfl) h
  · cases h
theorem sc_max2F : ∀ ds z, max2F ds = some z → scal z = true := by
  intro ds z h
  unfold max2F at h
  split at h <;> cases h
  rfl
theorem sc_min2F : ∀ ds z, min2F ds = some z → scal z = true := by
  intro ds z h
  unfold min2F at h
  split at h <;> cases h
  rfl
theorem sc_absF : ∀ ds z, absF ds = some z → scal z = true := by
  intro ds z h
  unfold absF at h
  split at h <;> cases h
  rfl
theorem sc_intF : ∀ ds z, intF ds = some z → scal z = true := by
  intro ds z h
  unfold intF at h
  split at h <;> cases h <;> rfl
theorem sc_strF : ∀ ds z, strF ds = some z → scal z = true := by
  intro ds z h
  unfold strF at h
  split at h
  · split at h <;> cases h
    rfl
  · cases h
theorem sc_rprF : ∀ ds z, rprF ds = some z → scal z = true := by
  intro ds z h
  unfold rprF at h
  split at h
  · split at h <;> cases h
    rfl
  · cases h
end Fx

/-! G: facts of exception classes, bundled for the top. -/
namespace Fx
open PySem PySem.Spec PyProof.Rows L2
section
variable {P : Program} {w : World} {K : PySem.W.Frag} {mg : Str → Option Value} {base : Heap} {c qual fn f1 f2 msg : Str} {st : Stmt} {C fI : Addr} {fd : FuncData} {N ps : List Str}
theorem clsV_of (h : PySem.W.nsIn K mainGlobals c = some (some (.ref C))) : clsV K c = .ref C := by unfold clsV; rw [h]
theorem raise1 (a : PySem.W.nsIn K mainGlobals c = some (some (.ref C))) (o : OexC K C) (nf : PySem.W.findIn K (.ref C) fn = some none) (iC : PySem.W.findIn K (.ref C) "__init__" = some (some (.ref fI))) (tI : PySem.W.typeIn K (.ref fI) = some (.type "function")) (F : Fun K "__init__" qual st fI fd) (S : FnScope N ps (defScope st)) (hl : ps.length = 2)
    (hb : ∀ cdv A outer s H E, PSs (cxOf (L2.CX P w) P w K mg base N qual (defScope st) fI cdv A outer s H E) (defBody st) (tSeq (tDrop (tVeI K (tCons (tVar 0) (tCons (L2.tC (.str msg)) tNil)))) (tOst K fn (tVar 0) (tVar 1)))) (hB : Binds K fd ps []) (hm : mg c = some (.ref C)) : RaiseX P w K mg base c [fn] 1 :=
  ⟨C, fI, fd, ps, clsV_of a, o, (fun f hf => by simp at hf; subst hf; exact nf), iC, tI, fnk_init1 F S hl hb, hB, hm⟩
theorem raise2 (a : PySem.W.nsIn K mainGlobals c = some (some (.ref C))) (o : OexC K C) (n1 : PySem.W.findIn K (.ref C) f1 = some none) (n2 : PySem.W.findIn K (.ref C) f2 = some none) (iC : PySem.W.findIn K (.ref C) "__init__" = some (some (.ref fI))) (tI : PySem.W.typeIn K (.ref fI) = some (.type "function")) (F : Fun K "__init__" qual st fI fd) (S : FnScope N ps (defScope st)) (hl : ps.length = 3)
    (hb : ∀ cdv A outer s H E, PSs (cxOf (L2.CX P w) P w K mg base N qual (defScope st) fI cdv A outer s H E) (defBody st) (tSeq (tDrop (tVeI K (tCons (tVar 0) (tCons (L2.tC (.str msg)) tNil)))) (tSeq (tOst K f1 (tVar 0) (tVar 1)) (tOst K f2 (tVar 0) (tVar 2))))) (hB : Binds K fd ps []) (hm : mg c = some (.ref C)) : RaiseX P w K mg base c [f1, f2] 1 :=
  ⟨C, fI, fd, ps, clsV_of a, o, (fun f hf => by simp at hf; rcases hf with rfl | rfl <;> assumption), iC, tI, fnk_init2 F S hl hb, hB, hm⟩
/-- except tables -/
def SubOk (K : PySem.W.Frag) (cv : Value) : List (Str × Bool) → Prop
  | [] => True
  | (y, b) :: r => PySem.W.exmOne K (clsV K y) cv = some b ∧ SubOk K cv r
theorem subOk_lookup {cv : Value} : ∀ {l : List (Str × Bool)}, SubOk K cv l → ∀ y z, l.lookup y = some z → PySem.W.exmOne K (clsV K y) cv = some z
  | [], _, _, _, h => by cases h
  | (x, b) :: r, ⟨h1, h2⟩, y, z, h => by
    unfold List.lookup at h
    by_cases q : (y == x) = true
    · rw [q] at h
      cases h
      rw [eq_of_beq q]
      exact h1
    · have q : (y == x) = false := by simpa using q
      rw [q] at h
      exact subOk_lookup h2 y z h
/-- isinstance tables -/
def FitT (kit : Value → Option Bool) : List (String × Bool) → Prop
  | [] => True
  | (t, b) :: r => kit (.type t) = some b ∧ FitT kit r
def FitC (K : PySem.W.Frag) (kit : Value → Option Bool) : List (Str × Bool) → Prop
  | [] => True
  | (y, b) :: r => (∃ C, clsV K y = .ref C ∧ xcB K C = true ∧ kit (.ref C) = some b) ∧ FitC K kit r
theorem fit_of {kit : Value → Option Bool} {tt : List (String × Bool)} {tc : List (Str × Bool)} (h1 : FitT kit tt) (h2 : FitC K kit tc) : fitB K kit tt tc = true := by
  unfold fitB
  rw [Bool.and_eq_true]
  constructor
  · induction tt with
    | nil => rfl
    | cons p r ih =>
      obtain ⟨t, b⟩ := p
      obtain ⟨g1, g2⟩ := h1
      rw [List.all_cons, ih g2, g1]
      simp
  · induction tc with
    | nil => rfl
    | cons p r ih =>
      obtain ⟨y, b⟩ := p
      obtain ⟨⟨C, g1, g2, g3⟩, g4⟩ := h2
      rw [List.all_cons, ih g4, g1]
      simp [g2, g3]
theorem xcB_of (h1 : (PySem.W.clsIn K C).isSome = true) (h2 : xfB K C = true) (h3 : PySem.W.findIn K (.ref C) "__class__" = some (some (.builtin "object.__class__"))) (h4 : PySem.W.specialIn K (.builtin "object.__class__") "__get__" = some (some (.builtin "getset_descriptor.__get__"))) (h5 : PySem.W.takesIn K (.builtin "object.__class__") = some true) (h6 : PySem.W.mroIn K C (.type "object") = some true) : xcB K C = true := by
  unfold xcB
  rw [h1, h2, h3, h4, h5, h6]
  simp
theorem xfB_of (h1 : PySem.W.findIn K (.ref C) "__getattribute__" = some (some (.builtin "BaseException.__getattribute__"))) (h2 : PySem.W.findIn K (.ref C) "__getattr__" = some none) (h3 : PySem.W.subIn K (.ref C) (.type "BaseException") = some true) (h4 : PySem.W.hasDictIn K C = true) : xfB K C = true := by
  unfold xfB
  rw [h1, h2, h3, h4]
  simp
/-- fields -/
def FldOk (K : PySem.W.Frag) (f : Str) : List Str → Prop
  | [] => True
  | y :: r => (∃ C, clsV K y = .ref C ∧ xfB K C = true ∧ PySem.W.findIn K (.ref C) f = some none) ∧ FldOk K f r
theorem fldB_of {f : Str} : ∀ {l : List Str}, FldOk K f l → fldB K l f = true
  | [], _ => rfl
  | y :: r, ⟨⟨C, g1, g2, g3⟩, h⟩ => by
    have ih := fldB_of h
    unfold fldB at ih ⊢
    rw [List.all_cons, ih, g1]
    simp [g2, g3]
/-- isinstance by the facts of subclasses -/
theorem kitOne_ref {t : Value} {b : Bool} (h1 : (PySem.W.clsIn K C).isSome = true) (h2 : PySem.W.typeIn K (.ref C) = some (.type "type")) (h3 : PySem.W.subIn K t (.ref C) = some b) (h4 : t = .ref C → b = true) : PySem.W.kitOne K t (.ref C) = some b := by
  unfold PySem.W.kitOne
  by_cases h : (t == Value.ref C) = true
  · rw [if_pos h, h4 (beq_iff_eq.mp h)]
  · rw [if_neg h]
    unfold PySem.W.kitCls
    simp [h1, h2, h3]
theorem kitOne_ty {t : Value} {T : String} {b : Bool} (h1 : PySem.W.kitMeta T = true) (h3 : PySem.W.subIn K t (.type T) = some b) (h4 : t = .type T → b = true) : PySem.W.kitOne K t (.type T) = some b := by
  unfold PySem.W.kitOne
  by_cases h : (t == Value.type T) = true
  · rw [if_pos h, h4 (beq_iff_eq.mp h)]
  · rw [if_neg h]
    unfold PySem.W.kitCls
    simp [h1, h3]
theorem clsIn_of (h : PySem.W.hasDictIn K C = true) : (PySem.W.clsIn K C).isSome = true := by
  obtain ⟨cd, hc, _⟩ := PySem.W.any_some h
  rw [hc]; rfl
end
end Fx

/-! G: instances of the program's own classes: fields read and set. -/
namespace Fx
open PySem PySem.Spec PyProof.Rows L2
/-- the field f of the class c's instances may be read and set -/
structure FldX (K : PySem.W.Frag) (c f : Str) : Prop where
  ex : ∃ C, clsV K c = .ref C ∧ Cls K C ∧ NoAttr K C f
def insF (c f : Str) : D → Option D
  | .ins c' gs => if c' = c then gs.lookup f else none
  | _ => none
/-- o.f -/
def mAttr (c f : Str) (ma : Me) : Me := fun τ ro Γ T ex k => ma τ ro Γ T ex fun Γ1 T1 => match T1 with
  | .kd .v d :: T0 => bindO (insF c f d) fun z => k Γ1 (.kd .v z :: T0)
  | .al j p o :: T0 => (match (gr ro Γ1 j).own with
    | some (κ, d) => (match κ.at p with
      | .i ks => getK' d p o fun c0 => bindO (insF c f c0) fun z => if ((Kd.i ks).st (.fd f)).isV then k Γ1 (.kd .v z :: T0) else k Γ1 (.al j (p ++ [.fd f]) (some z) :: T0)
      | _ => .no)
    | none => .no)
  | _ => .no
/-- fields with a new one, or another value -/
def putFL {α : Type} (f : Str) (v : α) : List (Str × α) → List (Str × α)
  | [] => [(f, v)]
  | (g, x) :: r => if g = f then (g, v) :: r else (g, x) :: putFL f v r
def setIns (c f : Str) (e : D) : D → Option D
  | .ins c' gs => if c' = c ∧ gs.length < 1000 then some (.ins c' (putFL f e gs)) else none
  | _ => none
def Sl.setKD : Sl → Kd → D → Sl
  | .kd _ _, k, d => .kd k d
  | .io _ _, k, d => .io k d
  | s, _, _ => s
/-- o.f = e, o a name -/
def mSetF (c f : Str) (me mo : Me) : Ms := fun τ ro Γ ks => me τ ro Γ [] ks.ex fun Γ1 T1 => mo τ ro Γ1 T1 ks.ex fun Γ2 T2 => match T2 with
  | .al j [] _ :: .kd κ e :: _ => (match (gg Γ2 j).own with
    | some (.i ks', d) => bindO (setIns c f e d) fun d' => ks.nx (gs (kG j ro 0 Γ2) j ((gg Γ2 j).setKD (.i (putFL f κ ks')) d'))
    | _ => .no)
  | _ => .no
section
variable {K : PySem.W.Frag} {W : WX} {n : Ent} {F F1 H H1 : Hp} {ro : Ro} {Γ T : Gm} {σ : L2.St} {ts : List V} {τ : Type} {G : O τ → Prop} {X : Cx} {pos pos' : Pos} {a o e : Expr} {ma mo me : Me} {κ : Kd} {d : D} {v : V} {c f : Str}
theorem rpF_keys : ∀ {fs : List (Str × V)} {gs : List (Str × D)}, RpF K F fs gs → fs.map (·.1) = gs.map (·.1)
  | _, _, .nil => rfl
  | _, _, .cons _ t => by simp only [List.map_cons, rpF_keys t]
theorem lookup_key {α β : Type} : ∀ {gs : List (Str × α)} {fs : List (Str × β)} {f : Str} {z : α}, fs.map (·.1) = gs.map (·.1) → gs.lookup f = some z → ∃ n u, (gs.map (·.2))[n]? = some z ∧ (fs.map (·.2))[n]? = some u ∧ fs.lookup f = some u ∧ gs.findIdx? (fun e => decide (e.1 = f)) = some n
  | [], _, _, _, _, h => by cases h
  | (g, y) :: gs, [], _, _, e, _ => by cases e
  | (g, y) :: gs, (g', x) :: fs, f, z, e, h => by
    simp only [List.map_cons, List.cons.injEq] at e
    obtain ⟨rfl, e⟩ := e
    by_cases q : f = g'
    · subst q
      rw [List.lookup_cons_self] at h
      cases h
      exact ⟨0, x, rfl, rfl, List.lookup_cons_self, by simp [List.findIdx?_cons]⟩
    · have q' : (f == g') = false := by simpa using q
      rw [List.lookup_cons, q'] at h
      obtain ⟨n, u, h1, h2, h3, h4⟩ := lookup_key (fs := fs) e h
      refine ⟨n + 1, u, h1, h2, ?_, ?_⟩
      · rw [List.lookup_cons, q']; exact h3
      · rw [List.findIdx?_cons, h4]
        have : ¬ g' = f := fun e => q e.symm
        simp [this]
theorem rpF_nth : ∀ {fs : List (Str × V)} {gs : List (Str × D)} {n : Nat} {u : V} {z : D}, RpF K F fs gs → (fs.map (·.2))[n]? = some u → (gs.map (·.2))[n]? = some z → Rp K F u z
  | _, _, _, _, _, .nil, h, _ => by cases h
  | _, _, 0, _, _, .cons r _, h, h2 => by cases h; cases h2; exact r
  | _, _, n + 1, _, _, .cons _ t, h, h2 => rpF_nth (n := n) t h h2
theorem insF_rp (r : Rp K F v d) {z : D} (h : insF c f d = some z) (x : FldX K c f) (sub : Lk F H) : ∃ a C dx fs u, v = .ref a ∧ H a = some (.ins C dx fs) ∧ Cls K C ∧ NoAttr K C f ∧ fs.lookup f = some u ∧ Rp K F u z := by
  obtain ⟨C, hC, h1, h2⟩ := x.ex
  cases r with
  | @ins a C' dx c' fs gs q1 q2 t =>
    by_cases e : c' = c
    · subst e
      have h : gs.lookup f = some z := (if_pos (c := c' = c') rfl).symm.trans h
      rw [hC] at q1
      cases q1
      obtain ⟨n, u, g1, g2, g3, _⟩ := lookup_key (fs := fs) (rpF_keys t) h
      exact ⟨a, C, dx, fs, u, rfl, sub.at q2 rfl, h1, h2, g3, rpF_nth t g2 g1⟩
    · exact absurd (((if_neg e : (if c' = c then gs.lookup f else none) = none)).symm.trans h) (by intro q; cases q)
  | _ => cases h
theorem insF_ow {ks : List (Str × Kd)} {A : List Addr} (r : Ow K F H (.i ks) v d A) {z : D} (h : insF c f d = some z) (x : FldX K c f) : ∃ a C dx fs u m B, v = .ref a ∧ H a = some (.ins C dx fs) ∧ Cls K C ∧ NoAttr K C f ∧ fs.lookup f = some u ∧ resv d (.fd f) = some m ∧ (kids d)[m]? = some z ∧ Kids F H (.i ks) a d (fs.map (·.2)) ∧ (fs.map (·.2))[m]? = some u ∧ Ow K F H ((Kd.i ks).st (.fd f)) u z B := by
  obtain ⟨C, hC, h1, h2⟩ := x.ex
  cases r with
  | @ins ks a C' dx c' fs gs A q1 q2 q3 q4 q5 t n1 n2 =>
    by_cases e : c' = c
    · subst e
      have h : gs.lookup f = some z := (if_pos (c := c' = c') rfl).symm.trans h
      rw [hC] at q1
      cases q1
      obtain ⟨n, u, g1, g2, g3, g4⟩ := lookup_key (fs := fs) q4 h
      have g4 : keyIx gs f = some n := g4
      obtain ⟨u', B, o1, o2, _⟩ := OwC.focus t g1
      rw [g2] at o1
      cases o1
      have ek : (Kd.i ks).st (.fd f) = Kd.ch (.i ks) n := lookup_ix q5 g4
      exact ⟨a, C, dx, fs, u, n, B, rfl, q2, h1, h2, g3, g4, g1, ⟨C, dx, fs, q2, rfl⟩, g2, by rw [ek]; exact o2⟩
    · exact absurd (((if_neg e : (if c' = c then gs.lookup f else none) = none)).symm.trans h) (by intro q; cases q)
theorem im_attr (x : FldX K c f) : ∀ σ H Q, tM K W (mAttr c f ma) σ H Q → tFld K (tM K W ma) f σ H Q := fun σ H Q ⟨τ, G, n, F, ro, Γ, T, ts, ex, k, w, R, g, cc⟩ =>
  ⟨τ, G, n, F, ro, Γ, T, ts, ex, _, w, R, g, fun Γ1 s T1 v F1 H1 e1 R1 g1 => by
    cases s with
    | kd κ d =>
      cases κ with
      | v =>
        obtain ⟨z, hz, g2⟩ := bindO_some w.no g1
        obtain ⟨a, C, dx, fs, u, rfl, h1, h2, h3, h4, h5⟩ := insF_rp R1.topV hz x R1.sub
        exact ⟨a, C, dx, fs, u, rfl, h1, h2, h3, h4, cc Γ1 _ T1 u F1 H1 e1 (R1.pop.push h5) g2⟩
      | _ => exact (w.no g1).elim
    | al j p o =>
      obtain ⟨ft, S, q, hv⟩ := R1.top
      have q : EnOk K n F1 H1 _ _ _ _ (.al j p o) := q
      obtain ⟨κ, d, v0, w', q1, q2, q3, q4, q5, q6, q7⟩ := q.alOw S
      rw [hv] at q3
      cases q3
      have q1 : (gr ro Γ1 j).own = some (κ, d) := q1
      simp only [q1] at g1
      cases ek : κ.at p with
      | i ks =>
        rw [ek] at g1
        simp only at g1
        obtain ⟨c0, hc, g2⟩ := getK'_ok w.no q5 g1
        obtain ⟨z, hz, g3⟩ := bindO_some w.no g2
        obtain ⟨B, oB⟩ := q7 c0 hc
        rw [ek] at oB
        obtain ⟨a, C, dx, fs, u, m, B', rfl, h1, h2, h3, h4, r1, r2, r3, r4, r5⟩ := insF_ow oB hz x
        refine ⟨a, C, dx, fs, u, rfl, h1, h2, h3, h4, ?_⟩
        split at g3
        · rename_i hi
          rw [isV_eq hi] at r5
          cases r5 with
          | v r => exact cc Γ1 _ T1 u F1 H1 e1 (R1.pop.push r) g3
        · rename_i hi
          refine cc Γ1 _ T1 u F1 H1 e1 (R1.pop.pushA q1 q2 (VP.snoc r1 r2 r4 q4 hc rfl (by rw [ek]; exact r3)) ?_ fun z' hz' => ?_) g3
          · rw [at_app, ek]
            intro e; rw [e] at hi; exact hi rfl
          · cases hz'
            exact getP_app hc r1 r2
      | _ => rw [ek] at g1; exact (w.no g1).elim
    | _ => exact (w.no g1).elim⟩
theorem gx_attr (x : FldX X.K c f) (ha : PE X a (tM X.K W ma)) (hb : attributeBase a f X.env (eval a X.env) = eval a X.env := by rfl) : PE X (.Attribute a f pos) (tM X.K W (mAttr c f ma)) := pe_imp (pe_fld ha hb) (im_attr x)

/-! ### o.f = e -/
theorem putFL_V (f : Str) (v : V) : ∀ fs : List (Str × V), putF f v fs = putFL f v fs
  | [] => rfl
  | (g, x) :: r => by
    unfold putFL
    rw [show putF f v ((g, x) :: r) = (if g = f then (g, v) :: r else (g, x) :: putF f v r) from rfl, putFL_V f v r]
theorem putFL_keys {α β : Type} {f : Str} {x : α} {y : β} : ∀ {fs : List (Str × α)} {gs : List (Str × β)}, fs.map (·.1) = gs.map (·.1) → (putFL f x fs).map (·.1) = (putFL f y gs).map (·.1)
  | [], [], _ => rfl
  | (g, a) :: fs, (g', b) :: gs, e => by
    simp only [List.map_cons, List.cons.injEq] at e
    obtain ⟨rfl, e⟩ := e
    unfold putFL
    by_cases h : g = f
    · rw [if_pos h, if_pos h]; simp only [List.map_cons, e]
    · rw [if_neg h, if_neg h]; simp only [List.map_cons, putFL_keys (x := x) (y := y) e]
  | [], _ :: _, e => by cases e
  | _ :: _, [], e => by cases e
/-- the parts' kinds by their list -/
def chL (l : List Kd) (n : Nat) : Kd := l.getD n .v
theorem owc_put {f : Str} {y : V} {e : D} {κ : Kd} {B : List Addr} (o : Ow K F H κ y e B) : ∀ {ks : List (Str × Kd)} {fs : List (Str × V)} {gs : List (Str × D)} {A : List Addr}, fs.map (·.1) = gs.map (·.1) → gs.map (·.1) = ks.map (·.1) → OwC K F H (chL (ks.map (·.2))) (fs.map (·.2)) (gs.map (·.2)) A → (∀ x, x ∈ A → x ∉ B) →
    ∃ A', OwC K F H (chL ((putFL f κ ks).map (·.2))) ((putFL f y fs).map (·.2)) ((putFL f e gs).map (·.2)) A' ∧ ∀ x, x ∈ A' → x ∈ A ∨ x ∈ B
  | [], [], [], A, _, _, t, dj => by
    have q := OwC.cons (K := K) (F := F) (H := H) (f := chL [κ]) (v := y) (vs := []) (d := e) (ds := []) (A := B) (B := []) o .nil (fun x _ h => by cases h)
    exact ⟨B ++ [], q, fun x hx => by simpa using Or.inr hx⟩
  | (k, κ0) :: ks, (g, x) :: fs, (g', z) :: gs, A, e1, e2, t, dj => by
    simp only [List.map_cons, List.cons.injEq] at e1 e2
    obtain ⟨rfl, e1⟩ := e1
    obtain ⟨rfl, e2⟩ := e2
    cases t with
    | @cons _ _ _ _ _ A0 B0 a0 t0 nn =>
      unfold putFL
      by_cases h : g = f
      · rw [if_pos h, if_pos h, if_pos h]
        refine ⟨B ++ B0, .cons o t0 fun x hx hb => dj x (List.mem_append_right _ hb) hx, fun x hx => ?_⟩
        rcases List.mem_append.mp hx with q | q
        · exact .inr q
        · exact .inl (List.mem_append_right _ q)
      · rw [if_neg h, if_neg h, if_neg h]
        obtain ⟨A', k1, k2⟩ := owc_put o e1 e2 t0 fun x hx => dj x (List.mem_append_right _ hx)
        refine ⟨A0 ++ A', .cons a0 k1 fun x hx hb => ?_, fun x hx => ?_⟩
        · rcases k2 x hb with q | q
          · exact nn x hx q
          · exact dj x (List.mem_append_left _ hx) q
        · rcases List.mem_append.mp hx with q | q
          · exact .inl (List.mem_append_left _ q)
          · rcases k2 x q with r | r
            · exact .inl (List.mem_append_right _ r)
            · exact .inr r
  | [], _ :: _, [], _, e1, _, _, _ => by cases e1
  | [], [], _ :: _, _, e1, _, _, _ => by cases e1
  | [], _ :: _, _ :: _, _, _, e2, _, _ => by cases e2
  | _ :: _, [], [], _, _, e2, _, _ => by cases e2
  | _ :: _, _ :: _, [], _, e1, _, _, _ => by cases e1
  | _ :: _, [], _ :: _, _, e1, _, _, _ => by cases e1
/-- what a name holds is changed at its root, its kind, too; the temporaries are used up -/
theorem Rl.mutR {j : Nat} {k : Kd} (R : Rl K n F ro Γ T σ ts H) (hj : (gg Γ j).own = some (k, d)) (hv : valOf σ [] (.s j) = some v) :
    ∃ ft, SimF K n F (entOf ro Γ T) (valOf σ ts) ft H ∧ Ow K F H k v d (ft (.s j)) ∧ ∀ (b : Addr) (o' : HO) (k' : Kd) (d' : D) (A' : List Addr), b ∈ ft (.s j) → Ow K F (upd H b o') k' v d' A' → (∀ z, z ∈ A' → z ∈ ft (.s j) ∨ ∃ i, z ∈ ft (.t i)) →
      Rl K n F ro (gs (kG j ro 0 Γ) j ((gg Γ j).setKD k' d')) [] σ [] (upd H b o') := by
  obtain ⟨ft, S⟩ := R.S
  have ho : (entOf ro Γ T (.s j)).own = some (k, d) := by
    show (gr ro Γ j).own = _
    unfold gr
    cases h : gg Γ j with
    | kd _ _ => rw [h] at hj; exact hj
    | io _ _ => rw [h] at hj; exact hj
    | _ => rw [h] at hj; cases hj
  obtain ⟨v', g1, g2⟩ := S.own_of ho
  rw [show valOf σ ts (.s j) = valOf σ [] (.s j) from rfl, hv] at g1
  cases g1
  have hl : j < Γ.length := by
    by_cases q : j < Γ.length
    · exact q
    · rw [gg_out (by omega)] at hj; cases hj
  refine ⟨ft, S, g2, fun b o' k' d' A' hb o2 hA => ?_⟩
  have fb : F b = none := (S.fn _ b hb).1
  have off : ∀ z, z ≠ .s j → ∀ a, a ∈ ft z → upd H b o' a = H a := fun z hz a ha => upd_ne fun e => S.dj z (.s j) hz a ha (by rw [e]; exact hb)
  have ej : entOf ro (gs (kG j ro 0 Γ) j ((gg Γ j).setKD k' d')) [] (.s j) = (gg Γ j).setKD k' d' := by
    show gr ro _ j = _
    unfold gr
    rw [gg_set, if_pos ⟨rfl, by rw [kG_len]; exact hl⟩]
    cases h : gg Γ j with
    | kd _ _ => rfl
    | io _ _ => rfl
    | _ => rw [h] at hj; cases hj
  have ei : ∀ i, i ≠ j → entOf ro (gs (kG j ro 0 Γ) j ((gg Γ j).setKD k' d')) [] (.s i) = if ofB j (gr ro Γ i) then .un else gr ro Γ i := fun i hi => by
    show gr ro _ i = _
    rw [← gr_kG]
    unfold gr
    rw [gg_set, if_neg (fun q => hi q.1)]
  refine ⟨by rw [gs_len, kG_len]; exact R.ls, rfl, fun z => match z with
    | .s i => if i = j then A' else ft (.s i)
    | .t _ => [], S.step (fun z => z = b) (.refl _) (lk_off S.sub fb) S.nd (fun z o h hn => by rw [upd_ne hn]; exact h) (fun z h => ⟨.s j, by rw [h]; exact hb⟩) (fun z o h => .inl (.inl ⟨o, h⟩)) (fun x a h => ?_) (fun x a h => ?_) (fun x a h => ?_) (fun x z hxz a hx hz => ?_) fun x => ?_⟩
  · cases x with
    | s i =>
      simp only at h
      split at h
      · rcases hA a h with q | ⟨i', q⟩
        · exact .inl ⟨_, q⟩
        · exact .inl ⟨_, q⟩
      · exact .inl ⟨_, h⟩
    | t i => cases h
  · cases x with
    | s i =>
      simp only at h
      split at h
      · rcases hA a h with q | ⟨i', q⟩
        · exact (S.fn _ a q).1
        · exact (S.fn _ a q).1
      · exact (S.fn _ a h).1
    | t i => cases h
  · cases x with
    | s i =>
      simp only at h
      split at h
      · exact o2.there a h
      · rename_i hi
        obtain ⟨u, hu, nt⟩ := S.th _ a h
        exact ⟨u, (off _ (fun e => hi (Ix.s.inj e)) a h).trans hu, nt⟩
    | t i => cases h
  · have key : ∀ i, i ≠ j → a ∈ ft (.s i) → a ∈ A' → False := fun i hi h1 h2 => by
      rcases hA a h2 with q | ⟨i', q⟩
      · exact S.dj _ _ (fun e => hi (Ix.s.inj e)) a h1 q
      · exact S.dj _ _ (by intro e; cases e) a h1 q
    cases x with
    | s i =>
      cases z with
      | s i' =>
        simp only at hx hz
        split at hx
        · rename_i h1
          split at hz
          · rename_i h2
            exact hxz (by rw [h1, h2])
          · rename_i h2
            exact key i' h2 hz hx
        · rename_i h1
          split at hz
          · exact key i h1 hx hz
          · exact S.dj _ _ hxz a hx hz
      | t i' => cases hz
    | t i => cases hx
  · cases x with
    | s i =>
      by_cases h : i = j
      · subst h
        rw [ej]
        simp only [if_pos rfl]
        have q := S.en (.s i)
        cases hg : gg Γ i with
        | kd k0 d0 => exact ⟨v, hv, o2⟩
        | io k0 d0 =>
          have e0 : entOf ro Γ T (.s i) = .io k0 d0 := by show gr ro Γ i = _; unfold gr; rw [hg]; rfl
          rw [e0] at q
          obtain ⟨⟨i2, z1, z2⟩, _⟩ := q
          exact ⟨⟨i2, z1, z2⟩, v, hv, o2⟩
        | _ => rw [hg] at hj; cases hj
      · rw [ei i h]
        simp only [if_neg h]
        by_cases hb' : ofB j (gr ro Γ i) = true
        · rw [if_pos hb']; trivial
        · rw [if_neg hb']
          refine S.keepE (x := .s i) (.refl _) (fun a ha => off _ (fun e => h (Ix.s.inj e)) a ha) rfl fun j' p o e => ?_
          have e : gr ro Γ i = .al j' p o := e
          have nj : j' ≠ j := fun z => hb' (by rw [e, z]; simp [ofB])
          refine ⟨?_, rfl, fun a ha => off _ (fun z => nj (Ix.s.inj z)) a ha⟩
          rw [ei j' nj]
          have q := S.en (.s i)
          rw [show entOf ro Γ T (.s i) = .al j' p o from e] at q
          obtain ⟨k1, d1, v1, w1, y1, _⟩ := q
          have y1 : (gr ro Γ j').own = some (k1, d1) := y1
          show _ = gr ro Γ j'
          cases eg : gr ro Γ j' with
          | al a b c => rw [eg] at y1; cases y1
          | _ => simp [ofB]
    | t i => trivial
theorem im_setF (x : FldX K c f) : ∀ E σ H, tS K W (mSetF c f me mo) E σ H → sFld K (tM K W mo) (tM K W me) f E σ H := fun E σ H ⟨τ, G, n, F, ro, Γ, ks, w, R, g⟩ =>
  ⟨τ, G, n, F, ro, Γ, [], [], ks.ex, _, w.wi, R, g, fun Γ1 s1 T1 y F1 H1 e1 R1 g1 => ⟨τ, G, n, F1, ro, Γ1, s1 :: T1, [y], ks.ex, _, (w.mono e1).wi, R1, g1, fun Γ2 s2 T2 u F2 H2 e2 R2 g2 => by
    cases s2 with
    | al j p o =>
      cases p with
      | nil =>
        cases T2 with
        | nil => exact (w.no g2).elim
        | cons s1' T3 =>
          cases s1' with
          | kd κ e =>
            have e0 : T3 = [] := by have := R2.lt; simp at this; exact this
            subst e0
            simp only at g2
            cases eo : (gg Γ2 j).own with
            | none => rw [eo] at g2; exact (w.no g2).elim
            | some kd0 =>
              obtain ⟨k0, d⟩ := kd0
              rw [eo] at g2
              cases k0 with
              | i ks' =>
                obtain ⟨d', hd, g3⟩ := bindO_some w.no g2
                obtain ⟨ft0, S0, q0, hv0⟩ := R2.top
                have q0 : EnOk K n F2 H2 _ _ _ _ (.al j [] o) := q0
                obtain ⟨k1, d1, v1, w1, q1, q2, q3, q4, q5, q6⟩ := q0
                rw [hv0] at q3
                cases q3
                have q4 : u = v1 := q4
                subst q4
                have q2 : valOf σ [] (.s j) = some u := q2
                obtain ⟨ft, S, o1, fin⟩ := R2.mutR eo q2
                have qe := S.en (.t 0)
                rw [show entOf ro Γ2 [.al j [] o, .kd κ e] (.t 0) = .kd κ e from rfl] at qe
                obtain ⟨y', y1, y2⟩ := qe
                cases y1
                obtain ⟨C, hC, h1, h2⟩ := x.ex
                cases d with
                | ins c' gs =>
                  by_cases hc : c' = c ∧ gs.length < 1000
                  · obtain ⟨rfl, hlen⟩ := hc
                    have hd : some (D.ins c' (putFL f e gs)) = some d' := (if_pos (c := c' = c' ∧ gs.length < 1000) ⟨rfl, hlen⟩).symm.trans hd
                    cases hd
                    generalize hA : ft (.s j) = A at o1 fin
                    cases o1 with
                    | @ins _ a0 C' dx _ fs _ A0 z1 z2 z3 z4 z5 t n1 n2 =>
                      rw [hC] at z1
                      cases z1
                      have djB : ∀ z, z ∈ a0 :: dx :: A0 → z ∉ ft (.t 0) := fun z hz => by rw [← hA] at hz; exact S.dj _ _ (by intro e; cases e) z hz
                      have ne : dx ≠ a0 := fun e => by rw [e, z2] at z3; cases z3
                      have na : ∀ z, z ∈ A0 → z ≠ a0 := fun z hz e => n1 (by rw [← e]; exact hz)
                      have nb : ∀ z, z ∈ ft (.t 0) → z ≠ a0 := fun z hz e => djB a0 (by simp) (by rw [← e]; exact hz)
                      obtain ⟨A', k1, k2⟩ := owc_put (f := f) (y2.mono (.refl _) (H' := upd H2 a0 (.ins C dx (putFL f y fs))) fun z hz => upd_ne (nb z hz)) (ks := ks') (fs := fs) (gs := gs) z4 z5 (t.mono (.refl _) fun z hz => upd_ne (na z hz)) fun z hz => djB z (by simp [hz])
                      have hlen2 : fs.length < 1000 := by have := congrArg List.length z4; simp at this; omega
                      refine ⟨a0, C, dx, fs, rfl, z2, h1, h2, hlen2, ?_⟩
                      rw [putFL_V]
                      refine w.nx _ σ F2 _ (e1.trans e2) (fin a0 (.ins C dx (putFL f y fs)) (.i (putFL f κ ks')) _ (a0 :: dx :: A') (by simp) (.ins hC upd_same (by rw [upd_ne ne]; exact z3) (putFL_keys z4) (putFL_keys z5) k1 (fun h => ?_) fun h => ?_) fun z hz => ?_) g3
                      · rcases k2 _ h with q | q
                        · exact n1 q
                        · exact djB a0 (by simp) q
                      · rcases k2 _ h with q | q
                        · exact n2 q
                        · exact djB dx (by simp) q
                      · rcases List.mem_cons.mp hz with rfl | hz
                        · exact .inl (by simp)
                        · rcases List.mem_cons.mp hz with rfl | hz
                          · exact .inl (by simp)
                          · rcases k2 _ hz with q | q
                            · exact .inl (by simp [q])
                            · exact .inr ⟨0, q⟩
                  · exact absurd (((if_neg hc : (if c' = c ∧ gs.length < 1000 then some (D.ins c' (putFL f e gs)) else none) = none)).symm.trans hd) (by intro q; cases q)
                | _ => cases hd
              | _ => exact (w.no g2).elim
          | _ => exact (w.no g2).elim
      | cons _ _ => exact (w.no g2).elim
    | _ => exact (w.no g2).elim⟩⟩
theorem sx_setF (x : FldX X.K c f) (he : PE X e (tM X.K W me)) (ho : PE X o (tM X.K W mo)) (hs : swapsWith e (some (.Attribute o f pos')) pos.line X.env = pure false := by rfl) : PS X (.Assign [.Attribute o f pos'] e pos) (tS X.K W (mSetF c f me mo)) := ps_imp (ps_fld ho he hs) (im_setF x)
end
end Fx

/-! G: methods are called, instances are made. -/
namespace Fx
open PySem PySem.Spec PyProof.Rows L2
structure MetX (K : PySem.W.Frag) (c m : Str) (f : Addr) : Prop where
  ex : ∃ C, clsV K c = .ref C ∧ Cls K C ∧ Meth K C m f
def isIns (c m : Str) : D → Bool
  | .ins c' gs => decide (c' = c) && (gs.lookup m).isNone
  | _ => false
/-- o in o.m(..) -/
def mRecv (c m : Str) (mo : Me) : Me := fun τ ro Γ T ex k => mo τ ro Γ T ex fun Γ1 T1 => match T1 with
  | s :: T0 => rd ro Γ1 s fun d => if isIns c m d then k Γ1 (s :: T0) else .no
  | _ => .no
def tMethG (c m : Str) (K : PySem.W.Frag) (sp : Sp) (dvs : List V) (W : WX) (ta : TE) (t : TA) : TE := fun σ H Q => ta σ H fun x H1 => ∃ a C dx fs, x = .ref a ∧ clsV K c = .ref C ∧ H1 a = some (.ins C dx fs) ∧ fs.lookup m = none ∧ t σ H1 fun vs H2 => sp (x :: (vs ++ dvs)) H2 Q (WE W σ)
section
variable {X : Cx} {k : Nat} {f : Addr} {fd : FuncData} {ps : List Str} {sp : Sp} {c m : Str} {apos pos : Pos} {e o : Expr} {es : List Expr} {t : TA} {ta : TE} {W : WX} {dvs : List V} {ds : List Value}
theorem pe_methG {pl : Sem Bool} (he : PE X o ta) (mx : MetX X.K c m f) (Fn : FnG X.prog X.w X.K X.mg X.base k f fd ps sp) (hr : Room k X.A) (hgd : X.A.guards = some []) (hb : Binds X.K fd ps ds) (hd : Vals dvs ds) (tk : Takes X W) (ha : PA X (e :: es) t)
    (hst : starEach (e :: es) X.env = (false, eval e X.env) :: starEach es X.env := by rfl) (hpl : (backTo pos (starEach es X.env)).any (·.1) = false := by rfl)
    (ht : eval (.Call (.Attribute o m apos) (e :: es) [] pos) X.env = (do
      let ov ← eval o X.env
      standAt apos.atName
      let (f, first) ← holding [ov] (getMethod ov m pl)
      callWith pos f first (backTo pos (starEach (e :: es) X.env)) (backToKw pos (keywordEach [] X.env))) := by rfl) :
    PE X (.Call (.Attribute o m apos) (e :: es) [] pos) (tMethG c m X.K sp dvs W ta t) := by
  obtain ⟨C0, hC0, c1, hm⟩ := mx.ex
  refine ⟨fun pins s σ H Q I h => ?_⟩
  refine PySem.W.methodCall_KW (pl := pl) (thn (he.run pins s σ H _ I h) fun u s1 ⟨x, H1, I1, rx, a, C, dx, fs, ex, hC, ea, l, q⟩ => ?_) ht
  subst ex
  rw [hC0] at hC
  cases hC
  obtain rfl : u = Value.ref a := rx
  refine getmeth_ok I1 ea c1 hm l ?_
  refine PySem.W.callWith_K (first := [.ref a]) (h₀ := X.base) I.ok.mod.kin hm.kp (thn (ha.run pos pins s1 σ H1 _ I1 q) fun us s2 ⟨vs, H2, I2, r, q2⟩ => ⟨I2.kIn, ?_⟩) hst hpl
  exact run_fng (us := .ref a :: us) (vs := .ref a :: vs) Fn hr hgd hb hd tk I2 (.cons rfl r) q2
theorem pe_methG0 {pl : Sem Bool} (he : PE X o ta) (mx : MetX X.K c m f) (Fn : FnG X.prog X.w X.K X.mg X.base k f fd ps sp) (hr : Room k X.A) (hgd : X.A.guards = some []) (hb : Binds X.K fd ps ds) (hd : Vals dvs ds) (tk : Takes X W)
    (ht : eval (.Call (.Attribute o m apos) [] [] pos) X.env = (do
      let ov ← eval o X.env
      standAt apos.atName
      let (f, first) ← holding [ov] (getMethod ov m pl)
      callWith pos f first (backTo pos (starEach [] X.env)) (backToKw pos (keywordEach [] X.env))) := by rfl) :
    PE X (.Call (.Attribute o m apos) [] [] pos) (tMethG c m X.K sp dvs W ta tNil) := by
  obtain ⟨C0, hC0, c1, hm⟩ := mx.ex
  refine ⟨fun pins s σ H Q I h => ?_⟩
  refine PySem.W.methodCall_KW (pl := pl) (thn (he.run pins s σ H _ I h) fun u s1 ⟨x, H1, I1, rx, a, C, dx, fs, ex, hC, ea, l, q⟩ => ?_) ht
  subst ex
  rw [hC0] at hC
  cases hC
  obtain rfl : u = Value.ref a := rx
  refine getmeth_ok I1 ea c1 hm l ?_
  exact PySem.W.callWith_K0 (first := [.ref a]) I1.kIn hm.kp (run_fng (us := [.ref a]) (vs := [.ref a]) Fn hr hgd hb hd tk I1 (.cons rfl .nil) q)
end
section
variable {K : PySem.W.Frag} {W : WX} {n : Ent} {F F1 H H1 : Hp} {ro : Ro} {Γ T : Gm} {σ : L2.St} {ts : List V} {τ : Type} {G : O τ → Prop} {ma mr mo : Me} {v : V} {d : D} {c m : Str}
theorem tA_cons {N : Nat} {Q : List V → Hp → Prop} (h : tA K W (N + 1) (mCons ma mr) σ H Q) : tM K W ma σ H fun x H1 => tA K W N mr σ H1 fun vs H2 => Q (x :: vs) H2 := by
  obtain ⟨τ, G, n, F, ro, Γ, T, ts, ex, k, w, R, g0, cc⟩ := h
  exact ⟨τ, G, n, F, ro, Γ, T, ts, ex, _, w, R, g0, fun Γ1 s1 T1 x F1 H1 e1 R1 g1 => ⟨τ, G, n, F1, ro, Γ1, s1 :: T1, x :: ts, ex, k, w.mono e1, R1, g1, fun Γ2 T2 vs F2 H2 e2 hl R2 g2 => cc Γ2 T2 (x :: vs) F2 H2 (e1.trans e2) (by simp [hl]) (by simpa using R2) g2⟩⟩
theorem lookup_none {α β : Type} : ∀ {gs : List (Str × α)} {fs : List (Str × β)} {f : Str}, fs.map (·.1) = gs.map (·.1) → gs.lookup f = none → fs.lookup f = none
  | [], [], _, _, _ => rfl
  | (g, y) :: gs, [], _, e, _ => by cases e
  | [], _ :: _, _, e, _ => by cases e
  | (g, y) :: gs, (g', x) :: fs, f, e, h => by
    simp only [List.map_cons, List.cons.injEq] at e
    obtain ⟨rfl, e⟩ := e
    rw [List.lookup_cons] at h ⊢
    split at h
    · cases h
    · exact lookup_none e h
theorem isIns_ok (r : Rp K H v d) (h : isIns c m d = true) : ∃ a C dx fs, v = .ref a ∧ clsV K c = .ref C ∧ H a = some (.ins C dx fs) ∧ fs.lookup m = none := by
  cases r with
  | @ins a C dx c' fs gs q1 q2 t =>
    unfold isIns at h
    rw [Bool.and_eq_true, decide_eq_true_eq] at h
    obtain ⟨rfl, h⟩ := h
    exact ⟨a, C, dx, fs, rfl, q1, q2, lookup_none (rpF_keys t) (by simpa using h)⟩
  | _ => cases h
theorem im_recv {Q : VK} (h : tM K W (mRecv c m mo) σ H Q) : tM K W mo σ H fun x H1 => (∃ a C dx fs, x = .ref a ∧ clsV K c = .ref C ∧ H1 a = some (.ins C dx fs) ∧ fs.lookup m = none) ∧ Q x H1 := by
  obtain ⟨τ, G, n, F, ro, Γ, T, ts, ex, k, w, R, g, cc⟩ := h
  exact ⟨τ, G, n, F, ro, Γ, T, ts, ex, _, w, R, g, fun Γ1 s T1 v F1 H1 e1 R1 g1 => by
    have g1 : G (rd ro Γ1 s fun d => if isIns c m d then k Γ1 (s :: T1) else .no) := g1
    obtain ⟨d, r, g2⟩ := R1.rd w.no g1
    split at g2
    · rename_i hi
      exact ⟨isIns_ok r hi, cc Γ1 s T1 v F1 H1 e1 R1 g2⟩
    · exact (w.no g2).elim⟩
theorem tM_imp {Q Q' : VK} (h : tM K W ma σ H Q) (i : ∀ x H1, Q x H1 → Q' x H1) : tM K W ma σ H Q' := by
  obtain ⟨τ, G, n, F, ro, Γ, T, ts, ex, k, w, R, g, cc⟩ := h
  exact ⟨τ, G, n, F, ro, Γ, T, ts, ex, k, w, R, g, fun Γ1 s T1 v F1 H1 e1 R1 g1 => i _ _ (cc Γ1 s T1 v F1 H1 e1 R1 g1)⟩
theorem im_meth {pk : List Pk} {ρ : Kd} {mf : List D → O (St (nio pk))} {dv : List D} {dvs : List V} {N : Nat} (hdv : ∀ F : Hp, RpL K F dvs dv) (hN : N + 1 + dvs.length = pk.length) : ∀ σ H Q, tM K W (mCall pk ρ mf dv (mCons (mRecv c m mo) mr)) σ H Q → tMethG c m K (spF K pk ρ mf) dvs W (tM K W mo) (tA K W N mr) σ H Q := fun σ H Q h => by
  have h1 := im_call (N := N + 1) hdv hN σ H Q h
  have h2 := im_recv (tA_cons h1)
  exact tM_imp h2 fun x H1 ⟨⟨a, C, dx, fs, e1, e2, e3, e4⟩, q⟩ => ⟨a, C, dx, fs, e1, e2, e3, e4, q⟩
end
section
variable {X : Cx} {k : Nat} {f : Addr} {fd : FuncData} {ps : List Str} {c m : Str} {apos pos : Pos} {e o : Expr} {es : List Expr} {W : WX} {pk : List Pk} {ρ : Kd} {mf : List D → O (St (nio pk))} {mo mr : Me} {N : Nat} {dvs : List V} {ds : List Value} {dv : List D}
theorem gx_meth {pl : Sem Bool} (Fn : FnG X.prog X.w X.K X.mg X.base k f fd ps (spF X.K pk ρ mf)) (hr : Room k X.A) (hgd : X.A.guards = some []) (mx : MetX X.K c m f) (hb : Binds X.K fd ps ds) (hd : Vals dvs ds) (hdv : ∀ F : Hp, RpL X.K F dvs dv) (tk : Takes X W) (ho : PE X o (tM X.K W mo)) (ha : PA X (e :: es) (tA X.K W N mr)) (hN : N + 1 + dvs.length = pk.length := by rfl)
    (hst : starEach (e :: es) X.env = (false, eval e X.env) :: starEach es X.env := by rfl) (hpl : (backTo pos (starEach es X.env)).any (·.1) = false := by rfl)
    (ht : eval (.Call (.Attribute o m apos) (e :: es) [] pos) X.env = (do
      let ov ← eval o X.env
      standAt apos.atName
      let (f, first) ← holding [ov] (getMethod ov m pl)
      callWith pos f first (backTo pos (starEach (e :: es) X.env)) (backToKw pos (keywordEach [] X.env))) := by rfl) :
    PE X (.Call (.Attribute o m apos) (e :: es) [] pos) (tM X.K W (mCall pk ρ mf dv (mCons (mRecv c m mo) mr))) := pe_imp (pe_methG ho mx Fn hr hgd hb hd tk ha hst hpl ht) (im_meth hdv hN)
theorem gx_meth0 {pl : Sem Bool} (Fn : FnG X.prog X.w X.K X.mg X.base k f fd ps (spF X.K pk ρ mf)) (hr : Room k X.A) (hgd : X.A.guards = some []) (mx : MetX X.K c m f) (hb : Binds X.K fd ps ds) (hd : Vals dvs ds) (hdv : ∀ F : Hp, RpL X.K F dvs dv) (tk : Takes X W) (ho : PE X o (tM X.K W mo)) (hN : 0 + 1 + dvs.length = pk.length := by rfl)
    (ht : eval (.Call (.Attribute o m apos) [] [] pos) X.env = (do
      let ov ← eval o X.env
      standAt apos.atName
      let (f, first) ← holding [ov] (getMethod ov m pl)
      callWith pos f first (backTo pos (starEach [] X.env)) (backToKw pos (keywordEach [] X.env))) := by rfl) :
    PE X (.Call (.Attribute o m apos) [] [] pos) (tM X.K W (mCall pk ρ mf dv (mCons (mRecv c m mo) mNil))) := pe_imp (pe_methG0 ho mx Fn hr hgd hb hd tk ht) fun σ H Q h => by
  have q := im_meth (N := 0) (mr := mNil) (mo := mo) (c := c) (m := m) hdv hN σ H Q h
  exact tM_imp q fun x H1 ⟨a, C, dx, fs, e1, e2, e3, e4, z⟩ => ⟨a, C, dx, fs, e1, e2, e3, e4, by
    obtain ⟨τ, G, n, F, ro, Γ, T, ts, ex, kk, w, R, g, cc⟩ := z
    exact cc Γ T [] F H1 (.refl _) rfl R g⟩
end

/-! ### C(..) -/
/-- the promise of an __init__: what the object is behind it -/
def spC (K : PySem.W.Frag) (c : Str) (pk : List Pk) (κ : Kd) (mf : List D → O D) : Sp := fun vs H Q E => ∃ n F ds a ys, vs = .ref a :: ys ∧ ys.length = pk.length ∧ ds.length = pk.length ∧ Rl K n F ro0 (parG (.io (.i []) :: pk) (.ins c [] :: ds)) [] (vs.map some) [] H ∧ n.H0 = H ∧ n.F0 = F ∧
  match mf ds with
  | .rt _ d => ∀ F' H', Same F F' → Rl K n F' ro0 [.io κ d] [] [some (.ref a)] [] H' → Q .non H'
  | .ex x _ => ∀ cls dO F' H', Same F F' → Rl K n F' ro0 [] [] [] [] H' → XOk K F' x cls dO → E cls dO H'
  | _ => False
def retC (κ : Kd) (Γ : Gm) : O D := match ioS κ (gg Γ 0) with
  | some d => .rt .non d
  | none => .no
def rtC (κ : Kd) (Γ : Gm) : Sl → O D
  | .kd .v .non => retC κ Γ
  | _ => .no
def ksC (κ : Kd) : Ks D := ⟨fun Γ => retC κ Γ, fun _ => .no, fun _ => .no, rtC κ, fun x _ => .ex x .non⟩
def bodyC (c : Str) (pk : List Pk) (N : Nat) (κ : Kd) (b : Ms) (ds : List D) : O D := b D ro0 (parG (.io (.i []) :: pk) (.ins c [] :: ds) ++ List.replicate (N - (pk.length + 1)) .un) (ksC κ)
section
variable {K : PySem.W.Frag} {n : Ent} {F F' H H' : Hp} {Γ Γ' T : Gm} {σ σ' : L2.St} {pk : List Pk} {ro : Ro}
/-- a few names are left -/
theorem Rl.less (R : Rl K n F ro0 Γ T σ [] H) : Rl K n F ro0 [] [] [] [] H := by
  have S := R.S
  refine ⟨rfl, rfl, S.wk (fun x => .inr (.inl ?_)) fun x j p o e => ?_⟩
  · cases x <;> rfl
  · cases x <;> cases e
theorem Rl.self {κ : Kd} {d : D} {a : Addr} (h0 : (σ'[0]?).join = some (.ref a)) (hg : gg Γ 0 = .io κ d) (R : Rl K n F ro0 Γ T σ' ts H) : Rl K n F ro0 [.io κ d] [] [some (.ref a)] [] H := by
  obtain ⟨ft, S⟩ := R.S
  have e0 : entOf ro0 Γ T (.s 0) = .io κ d := by show gr ro0 Γ 0 = _; unfold gr; rw [hg]; rfl
  refine ⟨rfl, rfl, fun z => match z with | .s 0 => ft (.s 0) | _ => [], S.step (fun _ => False) (.refl _) S.sub S.nd (fun b o h _ => h) (fun b h => h.elim) (fun b o h => .inl (.inl ⟨o, h⟩)) (fun x b h => ?_) (fun x b h => ?_) (fun x b h => ?_) (fun x z hxz b hx hz => ?_) fun x => ?_⟩
  · split at h
    · exact .inl ⟨_, h⟩
    · cases h
  · split at h
    · exact (S.fn _ b h).1
    · cases h
  · split at h
    · exact S.th _ b h
    · cases h
  · split at hx
    · split at hz
      · exact hxz rfl
      · cases hz
    · cases hx
  · cases x with
    | s i =>
      cases i with
      | zero =>
        have q := S.en (.s 0)
        rw [e0] at q
        obtain ⟨⟨i', z1, z2⟩, v, z3, z4⟩ := q
        cases z1
        have e1 : valOf σ' ts (.s 0) = some (.ref a) := h0
        rw [e1] at z2 z3
        cases z3
        exact ⟨⟨0, rfl, z2⟩, _, rfl, z4⟩
      | succ i => show EnOk _ _ _ _ _ _ _ _ (gr ro0 [.io κ d] (i + 1)); trivial
    | t i => trivial
end
theorem fnc_mirror {P : Program} {w : World} {K : PySem.W.Frag} {mg : Str → Option Value} {base : Heap} {k : Nat} {f : Addr} {fd : FuncData} {x qual c : Str} {st : Stmt} {N ps : List Str} {pk : List Pk} {κ : Kd} {body : Ms} {mf : List D → O D} (F : Fun K x qual st f fd) (S : FnScope N ps (defScope st)) (hnp : ps.length = pk.length + 1) (hmf : ∀ ds, ds.length = pk.length → mf ds = bodyC c pk N.length κ body ds)
    (hbody : ∀ (cd : Value) (A : Around) (outer : List Env) (s : Shared) (H : Hp) (E : XK), Room k (CxD P w K mg base N qual st f cd A outer s H E).A → (CxD P w K mg base N qual st f cd A outer s H E).A.guards = some [] → Takes (CxD P w K mg base N qual st f cd A outer s H E) (WD E) →
      PassesOwn (model P w) (CxD P w K mg base N qual st f cd A outer s H E).A (CxD P w K mg base N qual st f cd A outer s H E).env (CxD P w K mg base N qual st f cd A outer s H E).xe → PSs (CxD P w K mg base N qual st f cd A outer s H E) (defBody st) (tS K (WD E) body)) : FnG P w K mg base (k + 1) f fd ps (spC K c pk κ mf) := by
  refine fng_body F S (fun vs H Q E h => ?_) fun cdv A outer s H vs Q E hr hg h => ?_
  · obtain ⟨n, F, ds, a, ys, rfl, h1, _⟩ := h
    rw [List.length_cons, h1, hnp]
  · obtain ⟨n, F0, ds, a, ys, rfl, h1, h2, R0, hH, hF, h3⟩ := h
    rw [hmf ds h2] at h3
    let G : O D → Prop := fun o => match o with
      | .rt _ d => ∀ F' H', Same F0 F' → Rl K n F' ro0 [.io κ d] [] [some (.ref a)] [] H' → Q .non H'
      | .ex x _ => ∀ cls dO F' H', Same F0 F' → Rl K n F' ro0 [] [] [] [] H' → XOk K F' x cls dO → E cls dO H'
      | _ => False
    have gb : G (bodyC c pk N.length κ body ds) := h3
    have noG : ¬ G .no := fun z => z
    have key : ∀ Γ' T' σ' ts' F' H', Same F0 F' → Rl K n F' ro0 Γ' T' σ' ts' H' → G (retC κ Γ') → Q .non H' := fun Γ' T' σ' ts' F' H' ss R g => by
      unfold retC at g
      cases e : ioS κ (gg Γ' 0) with
      | none => rw [e] at g; exact g.elim
      | some d =>
        rw [e] at g
        have eg : gg Γ' 0 = .io κ d := by
          unfold ioS at e
          split at e
          · rename_i k' d' hh
            split at e
            · rename_i q
              cases e
              rw [hh, Kd.eqb_eq q]
            · cases e
          · cases e
        have ha : n.ad 0 = a := by
          obtain ⟨ft, S0⟩ := R0.S
          have q := S0.en (.s 0)
          have q : EnOk K n F0 H _ _ _ _ (.io (.i []) (.ins c [])) := q
          obtain ⟨⟨i', z1, z2⟩, _⟩ := q
          cases z1
          have z2 : some (V.ref a) = some (.ref (n.ad 0)) := z2
          cases z2
          rfl
        obtain ⟨ft, S⟩ := R.S
        have q := S.en (.s 0)
        have e0 : entOf ro0 Γ' T' (.s 0) = .io κ d := by show gr ro0 Γ' 0 = _; unfold gr; rw [eg]; rfl
        rw [e0] at q
        obtain ⟨⟨i', z1, z2⟩, _⟩ := q
        cases z1
        rw [ha] at z2
        exact g F' H' ss (R.self z2 eg)
    refine ⟨_, hbody cdv A outer s H E hr hg (takes_of rfl rfl rfl rfl) (passes_of rfl), D, G, n, F0, ro0, _, ksC κ, ⟨noG, fun Γ' σ' F' H' ss R g => key _ _ _ _ _ _ ss R g, fun Γ' σ' F' H' ss R g => g.elim, fun Γ' σ' F' H' ss R g => g.elim, fun Γ' s v σ' F' H' ss R g => ?_, fun x Γ' cls dO σ' F' H' ss R xo g => ?_⟩, ?_, gb⟩
    · have g : G (rtC κ Γ' s) := g
      cases s with
      | kd κ' d' =>
        cases κ' with
        | v =>
          cases d' with
          | non =>
            have rv := R.topV
            cases rv
            exact key _ _ _ _ _ _ ss R g
          | _ => exact g.elim
        | _ => exact g.elim
      | _ => exact g.elim
    · exact g cls dO F' H' ss R.less xo
    · have R1 := R0.ext (N.length - (pk.length + 1))
      unfold L2.start
      rw [List.length_cons, h1]
      exact R1
/-- what a class must have to be made -/
structure MakX (K : PySem.W.Frag) (c : Str) (C f : Addr) : Prop where
  cls : clsV K c = .ref C
  mak : Mk K C f
def mMake (pk : List Pk) (κ : Kd) (mf : List D → O D) (mr : Me) : Me := fun τ ro Γ T ex k => mr τ ro Γ T ex fun Γ1 T1 => argR ro Γ1 pk.reverse T1 [] none fun ds _ T0 =>
  (mf ds).val (fun _ d => k Γ1 (.kd κ d :: T0)) fun x _ => ex x Γ1
def noIo (pk : List Pk) : Bool := pk.all fun p => match p with | .io _ => false | _ => true
section
variable {K : PySem.W.Frag} {W : WX} {n : Ent} {F F1 H H1 : Hp} {ro : Ro} {Γ T : Gm} {σ : L2.St} {ts : List V} {τ : Type} {G : O τ → Prop} {mr : Me} {v : V} {d : D} {c : Str} {C : Addr} {pk : List Pk} {κ : Kd} {mf : List D → O D}
def tMakG (C : Addr) (sp : Sp) (W : WX) (t : TA) : TE := fun σ H Q => t σ H fun vs H1 => ∀ x dx, H1 x = none → H1 dx = none → dx ≠ x → sp (.ref x :: vs) (upd (upd H1 dx (.own x)) x (.ins C dx [])) (fun v H2 => v = .non ∧ Q (.ref x) H2) (WE W σ)
theorem ag_nil (hv : noIo pk = true) : ∀ {vs : List V} {ds : List D} {L : List (V × Kd × D)}, Ag K F pk vs ds L → L = [] := by
  intro vs ds L a
  induction a with
  | nil => rfl
  | v r t ih => exact ih (by unfold noIo at hv ⊢; rw [List.all_cons] at hv; simpa using hv)
  | x t ih => exact ih (by unfold noIo at hv ⊢; rw [List.all_cons] at hv; simpa using hv)
  | io t ih => unfold noIo at hv; rw [List.all_cons] at hv; simp at hv
/-- the entry of an __init__ -/
theorem calleeC {vs : List V} {ds : List D} (hC : clsV K c = .ref C) (a : Ag K F pk vs ds []) (s : Lk F H) (nd : NoDk F) {x dx : Addr} (hx : H x = none) (hd : H dx = none) (ne : dx ≠ x) :
    Rl K ⟨upd (upd H dx (.own x)) x (.ins C dx []), F, fun b => b = x ∨ b = dx, fun _ => x⟩ F ro0 (parG (.io (.i []) :: pk) (.ins c [] :: ds)) [] ((V.ref x :: vs).map some) [] (upd (upd H dx (.own x)) x (.ins C dx [])) := by
  obtain ⟨l1, l2, l3⟩ := a.len
  have sm : Same H (upd (upd H dx (.own x)) x (.ins C dx [])) := fun b o e => by
    rw [upd_ne (ne_of_none e hx), upd_ne (ne_of_none e hd)]; exact e
  have ow : Ow K F (upd (upd H dx (.own x)) x (.ins C dx [])) (.i []) (.ref x) (.ins c []) [x, dx] := .ins hC upd_same (by rw [upd_ne ne, upd_same]) rfl rfl .nil (by simp) (by simp)
  have fx : F x = none := s.free hx
  have fd : F dx = none := s.free hd
  refine ⟨by simp [parG, parG_len l2, l1], rfl, fun z => match z with | .s 0 => [x, dx] | _ => [], ⟨s.grow sm, fun z => ?_, fun y z hyz b hy hz => ?_, fun y b hb => ?_, fun y b hb => ?_, fun b o e _ => e, fun b o e => .inl (.inl ⟨o, e⟩), .refl _, nd⟩⟩
  · cases z with
    | s i =>
      cases i with
      | zero => exact ⟨⟨0, rfl, rfl⟩, _, rfl, ow⟩
      | succ i =>
        show EnOk K _ F _ _ _ _ _ (gr ro0 (parG (.io (.i []) :: pk) (.ins c [] :: ds)) (i + 1))
        show EnOk K _ F _ _ _ _ _ (res ro0 (i + 1) (gg (parG pk ds) i))
        by_cases hi : i < pk.length
        · obtain ⟨d, k1, k2⟩ := parG_at l2 i hi
          obtain ⟨v, k3, k4⟩ := a.at i d k1
          have hv : valOf ((V.ref x :: vs).map some) [] (.s (i + 1)) = some v := by
            show ((vs.map some)[i]?).join = some v
            rw [List.getElem?_map, k3]; rfl
          rw [k2]
          cases ep : pkAt pk i with
          | v => rw [ep] at k4; exact ⟨v, hv, .v k4⟩
          | x => trivial
          | io κ => rw [ep] at k4; cases k4
        · rw [gg_out (by rw [parG_len l2]; omega)]; trivial
    | t i => trivial
  · split at hy
    · split at hz
      · exact hyz rfl
      · cases hz
    · cases hy
  · split at hb
    · rcases List.mem_cons.mp hb with rfl | hb
      · exact ⟨fx, .inr (.inl rfl)⟩
      · rw [List.mem_singleton.mp hb]; exact ⟨fd, .inr (.inr rfl)⟩
    · cases hb
  · split at hb
    · exact ow.there b hb
    · cases hb
theorem im_make {N : Nat} (hC : clsV K c = .ref C) (hv : noIo pk = true) (hN : N = pk.length) : ∀ σ H Q, tM K W (mMake pk κ mf mr) σ H Q → tMakG C (spC K c pk κ mf) W (tA K W N mr) σ H Q := fun σ H Q ⟨τ, G, n, F, ro, Γ, T, ts, ex, k, w, R, g, cc⟩ =>
  ⟨τ, G, n, F, ro, Γ, T, ts, ex, _, w, R, g, fun Γ1 T1 vs F1 H1 e1 hl R1 g1 => by
    have w := w.mono e1
    intro x dx hx hd ne
    obtain ⟨ds, L, pl, T0, a, R3, g2, h4⟩ := argR_ok w.no (by rw [hl]; simpa using hN) R1 g1
    rw [List.reverse_reverse] at a
    rw [List.append_nil] at g2
    have eL := ag_nil hv a
    subst eL
    obtain ⟨l1, l2, l3⟩ := a.len
    have Rc := calleeC (H := H1) hC a R3.sub R3.nd hx hd ne
    refine ⟨_, F1, ds, x, vs, rfl, l1, l2, Rc, rfl, rfl, ?_⟩
    have back : ∀ {b : Addr} {o : HO}, H1 b = some o → b ≠ x ∧ b ≠ dx := fun e => ⟨fun z => (by rw [z, hx] at e; cases e), fun z => (by rw [z, hd] at e; cases e)⟩
    have grow : ∀ {F' H' : Hp} {Γ' T' : Gm} {σ' : L2.St} {ts' : List V}, Same F1 F' → Rl K ⟨upd (upd H1 dx (.own x)) x (.ins C dx []), F1, fun b => b = x ∨ b = dx, fun _ => x⟩ F' ro0 Γ' T' σ' ts' H' → Grow F1 H1 F' H' := fun ss R' => by
      obtain ⟨ft, S⟩ := R'.S
      refine ⟨ss, fun b o h => S.frame b o ?_ ?_, S.sub, fun b o h => ?_, fun _ => S.nd⟩
      · show upd (upd H1 dx (.own x)) x (.ins C dx []) b = _
        rw [upd_ne (back h).1, upd_ne (back h).2]; exact h
      · exact fun z => z.elim (back h).1 (back h).2
      · rcases S.frz b o h with q | q | q
        · exact .inl q
        · have q : upd (upd H1 dx (.own x)) x (.ins C dx []) b = none := q
          refine .inr ?_
          by_cases e1 : b = x
          · rw [e1]; exact hx
          · rw [upd_ne e1] at q
            by_cases e2 : b = dx
            · rw [e2]; exact hd
            · rw [upd_ne e2] at q; exact q
        · rcases q with q | q
          · rw [q]; exact .inr hx
          · rw [q]; exact .inr hd
    cases em : mf ds with
    | rt r d =>
      rw [em] at g2
      intro F' H' ss R'
      refine ⟨rfl, ?_⟩
      have gr' := grow ss R'
      obtain ⟨ft, S⟩ := R'.S
      have q := S.en (.s 0)
      have q : EnOk K _ F' H' _ _ _ _ (.io κ d) := q
      obtain ⟨_, v2, y1, y2⟩ := q
      cases y1
      refine cc Γ1 _ T0 (.ref x) F' H' (e1.trans ss) (R3.pushN gr' y2 (fun b hb => ?_) fun b hb => (S.fn _ b hb).1) g2
      rcases (S.fn _ b hb).2 with z | z
      · have q : upd (upd H1 dx (.own x)) x (.ins C dx []) b = none := z
        by_cases e1 : b = x
        · rw [e1]; exact hx
        · rw [upd_ne e1] at q
          by_cases e2 : b = dx
          · rw [e2]; exact hd
          · rw [upd_ne e2] at q; exact q
      · rcases z with z | z
        · rw [z]; exact hx
        · rw [z]; exact hd
    | ex y s =>
      rw [em] at g2
      intro cls dO F' H' ss R' xo
      exact w.xc y Γ1 cls dO F' H' ss (R3.popAll.grow (grow ss R')) xo g2
    | nx s => rw [em] at g2; exact (w.no g2).elim
    | bk s => rw [em] at g2; exact (w.no g2).elim
    | ct s => rw [em] at g2; exact (w.no g2).elim
    | no => rw [em] at g2; exact (w.no g2).elim⟩
end
section
variable {X : Cx} {k : Nat} {f C : Addr} {fd : FuncData} {ps : List Str} {c : Str} {p pos : Pos} {e : Expr} {es : List Expr} {W : WX} {pk : List Pk} {κ : Kd} {mf : List D → O D} {mr : Me} {N : Nat} {sp : Sp} {t : TA}
theorem under_guards {A : Around} {vs : List Value} {kw : List (Str × Value)} (h : A.guards = some []) : (A.under (.builtin "type.__call__" ⟨vs, kw⟩)).guards = some [] := by
  unfold Around.under
  simp only [h]
  rfl
theorem run_makG {pins : List (Addr × Obj)} {σ : L2.St} {H : Hp} {s : Shared} {Q : VK} {us : List Value} {vs : List V} (M : Mk X.K C f) (Fn : FnG X.prog X.w X.K X.mg X.base k f fd ps sp) (hr : Room (k + 1) X.A) (hgd : X.A.guards = some []) (hb : Binds X.K fd ps []) (tk : Takes X W)
    (I : Inv X pins σ H s) (r : Vals vs us)
    (h : ∀ x dx, H x = none → H dx = none → dx ≠ x → sp (.ref x :: vs) (upd (upd H dx (.own x)) x (.ins C dx [])) (fun v H2 => v = .non ∧ Q (.ref x) H2) (WE W σ)) :
    wpAny (model X.prog X.w) X.A (call (.ref C) us) (EP X pins σ Q) X.xe s := by
  have hq := h (s.heap.objs.size + 1) s.heap.objs.size (I.hok.fresh (Nat.le_succ _)) (I.hok.fresh (Nat.le_refl _)) (Nat.ne_of_lt (Nat.lt_succ_self _))
  have I2 := Inv.made (C := C) I
  have r2 : Vals (V.ref (s.heap.objs.size + 1) :: vs) (Value.ref (s.heap.objs.size + 1) :: us) := .cons rfl r
  have hl : ((Value.ref (s.heap.objs.size + 1) :: us) ++ []).length = ps.length := by
    have e := r2.length
    rw [Fn.len _ _ _ _ hq] at e
    rw [List.append_nil]
    exact e.symm
  have hb2 := hb _ (Value.ref (s.heap.objs.size + 1) :: us) I2.kIn hl
  rw [List.append_nil] at hb2
  refine wpAny_call (make_map (f := f) I.kIn M.makes M.init (beq_iff_eq.mp M.fn) (codeAny_mono (Fn.run _ X.stack _ _ ⟨Value.ref (s.heap.objs.size + 1) :: us, []⟩ (Value.ref (s.heap.objs.size + 1) :: us) _ _ (WE W σ) (hr.make C us []) (under_guards hgd)
    (I2.env0.make C us []) hb2 r2 hq) fun r s' hq' => ?_))
  cases r with
  | error e => exact (passAt tk σ) pins _ _ e s' I2 hq'
  | ok fl =>
    cases fl with
    | ret u =>
      obtain ⟨v, H', I3, rv, ev, q3⟩ := I2.after hq'
      subst ev
      exact ⟨rv, ⟨V.ref (s.heap.objs.size + 1), H', I3, rfl, q3⟩⟩
    | next => exact False.elim hq'
    | brk => exact False.elim hq'
    | cont => exact False.elim hq'
theorem gx_make (Fn : FnG X.prog X.w X.K X.mg X.base k f fd ps (spC X.K c pk κ mf)) (hr : Room (k + 1) X.A) (hgd : X.A.guards = some []) (hg : Gl X c) (hm : X.mg c = some (.ref C)) (M : MakX X.K c C f) (hb : Binds X.K fd ps []) (tk : Takes X W) (ha : PA X (e :: es) (tA X.K W N mr)) (hv : noIo pk = true := by rfl) (hN : N = pk.length := by rfl)
    (hdb : (c == ("__debug__" : Str)) = false := by decide) (he : starEach (e :: es) X.env = (false, eval e X.env) :: starEach es X.env := by rfl) (hpl : (backTo pos (starEach es X.env)).any (·.1) = false := by rfl) :
    PE X (.Call (.Name c p) (e :: es) [] pos) (tM X.K W (mMake pk κ mf mr)) := pe_imp (t := tMakG C (spC X.K c pk κ mf) W (tA X.K W N mr)) ⟨fun pins s σ H Q I h =>
  wpAny_Call_Name_kw (ld_glob I hg hm (PySem.W.callWith_K (h₀ := X.base) I.ok.mod.kin M.mak.kp (thn (ha.run pos pins s σ H _ I h) fun us s1 ⟨vs, H1, I1, r, q⟩ => ⟨I1.kIn, run_makG M.mak Fn hr hgd hb tk I1 r q⟩) he hpl) hdb)⟩ (im_make M.cls hv hN)
theorem gx_make0 (Fn : FnG X.prog X.w X.K X.mg X.base k f fd ps (spC X.K c [] κ mf)) (hr : Room (k + 1) X.A) (hgd : X.A.guards = some []) (hg : Gl X c) (hm : X.mg c = some (.ref C)) (M : MakX X.K c C f) (hb : Binds X.K fd ps []) (tk : Takes X W)
    (hdb : (c == ("__debug__" : Str)) = false := by decide) : PE X (.Call (.Name c p) [] [] pos) (tM X.K W (mMake [] κ mf mNil)) := pe_imp (t := tMakG C (spC X.K c [] κ mf) W tNil) ⟨fun pins s σ H Q I h =>
  wpAny_Call_Name_kw (ld_glob I hg hm (PySem.W.callWith_K0 I.kIn M.mak.kp (run_makG (us := []) M.mak Fn hr hgd hb tk I .nil h)) hdb)⟩ fun σ H Q h => by
    have q := im_make (N := 0) (mr := mNil) (pk := []) (κ := κ) (mf := mf) M.cls rfl rfl σ H Q h
    obtain ⟨τ, G, n, F, ro, Γ, T, ts, ex, kk, w, R, g, cc⟩ := q
    exact cc Γ T [] F H (.refl _) rfl R g
end
end Fx

/-! G: comprehensions of any kind (list, dict; one or two clauses): one core, the body of the innermost clause as a parameter. -/
namespace Fx
open PySem PySem.Spec PyProof.Rows L2
abbrev BdK := Addr → Env → Sem PySem.Fin → Sem PySem.Fin
/-- one turn of a clause: the item stored and tested, then the body -/
def TurnIs (ce : Expr) (ix : Nat) (t i : Expr) (ifs : List Expr) (body : BdK) : Prop := ∀ (it : Value) (D : Addr) (env : Env), compTurn ce ix it (.ref D) env = (do
  standAt i.pos
  match ← pyNext it with
  | none => pure (.done .next)
  | some v =>
    letOwnedTupleGo t it v
    assign t env v
    let mut ok := true
    for c in ifs do
      if ok then ok ← isTrue c env (eval c env)
    if ok then body D env (again (.compLoop ce ix it (.ref D) env)) else again (.compLoop ce ix it (.ref D) env))
def actL (elt : Expr) : BdK := fun D env k => do
  let r ← (do let _ ← call (.builtin "list.append") [.ref D, ← eval elt env] : Sem Unit)
  k
def actD (kx vx : Expr) : BdK := fun D env k => do
  let r ← (do
    let kv ← eval kx env
    let vv ← holding [kv] (eval vx env)
    standAt { kx.pos with endLine := vx.pos.endLine, endCol := vx.pos.endCol }
    holding [kv, vv] (dictSet D kv vv) : Sem Unit)
  k
def inner (ce i1 : Expr) : BdK := fun D env k => do
  let x ← eval i1 env
  standAt i1.pos
  let x ← foldedSetIterable i1 env x
  let _ ← runOwn (.compStart ce 1 (← holding [x] (pyIter x)) (.ref D) env) env
  k
section
variable {elt kx vx t0 i0 t1 i1 : Expr} {ifs0 ifs1 : List Expr} {scope : Scope} {pos : Pos}
theorem turn_l1 : TurnIs (.ListComp elt [⟨t0, i0, ifs0, 0⟩] scope pos) 0 t0 i0 ifs0 (actL elt) := fun _ _ _ => rfl
theorem turn_l20 : TurnIs (.ListComp elt [⟨t0, i0, ifs0, 0⟩, ⟨t1, i1, ifs1, 0⟩] scope pos) 0 t0 i0 ifs0 (inner (.ListComp elt [⟨t0, i0, ifs0, 0⟩, ⟨t1, i1, ifs1, 0⟩] scope pos) i1) := fun _ _ _ => rfl
theorem turn_l21 : TurnIs (.ListComp elt [⟨t0, i0, ifs0, 0⟩, ⟨t1, i1, ifs1, 0⟩] scope pos) 1 t1 i1 ifs1 (actL elt) := fun _ _ _ => rfl
theorem turn_d1 : TurnIs (.DictComp kx vx [⟨t0, i0, ifs0, 0⟩] scope pos) 0 t0 i0 ifs0 (actD kx vx) := fun _ _ _ => rfl
theorem turn_d20 : TurnIs (.DictComp kx vx [⟨t0, i0, ifs0, 0⟩, ⟨t1, i1, ifs1, 0⟩] scope pos) 0 t0 i0 ifs0 (inner (.DictComp kx vx [⟨t0, i0, ifs0, 0⟩, ⟨t1, i1, ifs1, 0⟩] scope pos) i1) := fun _ _ _ => rfl
theorem turn_d21 : TurnIs (.DictComp kx vx [⟨t0, i0, ifs0, 0⟩, ⟨t1, i1, ifs1, 0⟩] scope pos) 1 t1 i1 ifs1 (actD kx vx) := fun _ _ _ => rfl
end
section
variable {prog : Program} {w : World} {A : Around} {R : Result → Shared → Prop} {s : Shared} {ce t i i1 : Expr} {ifs : List Expr} {ix : Nat} {body : BdK} {it : Value} {D : Addr} {env : Env}
abbrev NoE : Value → Shared → Prop := fun _ _ => False
theorem wpNo {α : Type} {a : Sem α} {Q : α → Shared → Prop} {E : Value → Shared → Prop} (h : wpAny (model prog w) A a Q NoE s) : wpAny (model prog w) A a Q E s := wpAny_mono h (fun _ _ z => z) fun _ _ z => z.elim
def DenIs (ce : Expr) (ix : Nat) : Prop := ∀ (prog : Program) (w : World) (A : Around) (it acc : Value) (env : Env) (Q : PySem.Fin → Shared → Prop) (E : Value → Shared → Prop) (s : Shared),
  wpAny (model prog w) A ((compTurn ce ix it acc env).onRaise (fun x => do noteFrame x env; theTreesLotGoes x)) Q E s → wpAny (model prog w) (A.under (.compLoop ce ix it acc env)) ((model prog w).den (.compLoop ce ix it acc env)) Q E s
theorem den_l {elt : Expr} {cl : List Comprehension} {scope : Scope} {pos : Pos} {ix : Nat} : DenIs (.ListComp elt cl scope pos) ix := fun _ _ _ _ _ _ _ _ _ h => h
theorem den_d {kx vx : Expr} {cl : List Comprehension} {scope : Scope} {pos : Pos} {ix : Nat} : DenIs (.DictComp kx vx cl scope pos) ix := fun _ _ _ _ _ _ _ _ _ h => h
theorem loop_gen (hd : DenIs ce ix) (hq : ∀ it acc env, (Code.compLoop ce ix it acc env).quiet = true) (ht : TurnIs ce ix t i ifs body) (I : Nat → Shared → Prop)
    (turn : ∀ n s, I n s → wpAny (model prog w) A (pyNext it) (fun r s₁ => match r with
      | none => R (.ok .next) s₁
      | some v => wpAny (model prog w) A (letOwnedTupleGo t it v) (fun _ s₁' => wpAny (model prog w) A (assign t env v) (fun _ s₂ =>
          wpAny (model prog w) A (forIn ifs true fun c r => if r = true then do let ok ← isTrue c env (eval c env); pure (ForInStep.yield ok) else pure (ForInStep.yield r)) (fun ok s₃ =>
            if ok = true then ∀ (k : Sem PySem.Fin) (Qk : PySem.Fin → Shared → Prop), (∀ s₄, (∃ m, m < n ∧ I m s₄) → wpAny (model prog w) A k Qk NoE s₄) → wpAny (model prog w) A (body D env k) Qk NoE s₃
            else ∃ m, m < n ∧ I m s₃) NoE s₂) NoE s₁') NoE s₁) NoE s)
    (n : Nat) (h : I n s) : codeAny (model prog w) A (.compLoop ce ix it (.ref D) env) R s := by
  refine codeAny_loop (hq _ _ _) I (fun n s hI => hd _ _ _ _ _ _ _ _ _ ?_) n h
  refine wpAny_noted ?_
  rw [ht]
  refine wpAny_bind (wpAny_standAt (wpAny_bind (wpAny_mono (wpNo (turn n s hI)) (fun r s₁ h₁ => ?_) fun _ _ h' => h')))
  cases r with
  | none => exact wpAny_pure h₁
  | some v =>
    refine wpAny_bind (wpAny_mono (wpNo h₁) (fun _ s₁' h₁' => ?_) fun _ _ h' => h')
    refine wpAny_bind (wpAny_mono (wpNo h₁') (fun _ s₂ h₂ => wpAny_bind (wpAny_mono (wpNo h₂) (fun ok s₃ h₃ => ?_) fun _ _ h' => h')) fun _ _ h' => h')
    cases ok with
    | false => exact wpAny_pure ⟨rfl, h₃⟩
    | true => exact wpNo (h₃ _ _ fun s₄ h₄ => wpAny_pure ⟨rfl, h₄⟩)
/-- the first start; the second clause's start -/
def Start0 (ce : Expr) : Prop := ∀ (prog : Program) (w : World) (A : Around) (R : Result → Shared → Prop) (s : Shared) (it acc : Value) (env : Env), codeAny (model prog w) A (.compLoop ce 0 it acc env) R s →
  wpAny (model prog w) A (pyIter it) (fun it' s' => codeAny (model prog w) A (.compLoop ce 0 it' acc env) R s') (notedBy (model prog w) A env fun x s' => R (.error x) s') s → codeAny (model prog w) A (.compStart ce 0 it acc env) R s
def Start1 (ce : Expr) : Prop := ∀ (prog : Program) (w : World) (A : Around) (R : Result → Shared → Prop) (s : Shared) (it acc : Value) (env : Env), codeAny (model prog w) A (.compLoop ce 1 it acc env) R s →
  wpAny (model prog w) A (pyIter it) (fun it' s' => codeAny (model prog w) A (.compLoop ce 1 it' acc env) R s') (notedBy (model prog w) A env fun x s' => R (.error x) s') s → codeAny (model prog w) A (.compStart ce 1 it acc env) R s
theorem start0_l {elt t0 i0 : Expr} {ifs0 : List Expr} {rest : List Comprehension} {scope : Scope} {pos : Pos} : Start0 (.ListComp elt (⟨t0, i0, ifs0, 0⟩ :: rest) scope pos) := fun _ _ _ _ _ _ _ _ a b => codeAny_compStart_list a b
theorem start0_d {kx vx t0 i0 : Expr} {ifs0 : List Expr} {rest : List Comprehension} {scope : Scope} {pos : Pos} : Start0 (.DictComp kx vx (⟨t0, i0, ifs0, 0⟩ :: rest) scope pos) := fun _ _ _ _ _ _ _ _ a b => codeAny_compStart_dict a b
theorem start1_l {elt t0 i0 t1 i1 : Expr} {ifs0 ifs1 : List Expr} {scope : Scope} {pos : Pos} : Start1 (.ListComp elt [⟨t0, i0, ifs0, 0⟩, ⟨t1, i1, ifs1, 0⟩] scope pos) := fun _ _ _ _ _ _ _ _ a b => compStart1_ok a b
theorem start1_d {kx vx t0 i0 t1 i1 : Expr} {ifs0 ifs1 : List Expr} {scope : Scope} {pos : Pos} : Start1 (.DictComp kx vx [⟨t0, i0, ifs0, 0⟩, ⟨t1, i1, ifs1, 0⟩] scope pos) := fun prog w A R s it acc env h0 h => by
  refine codeAny_of_tree ?_
  show wpAny _ _ ((compStart (.DictComp kx vx [⟨t0, i0, ifs0, 0⟩, ⟨t1, i1, ifs1, 0⟩] scope pos) 1 it acc env).onRaise (fun x => do noteFrame x env; standAt theWindowsPlace)) _ _ s
  refine wpAny_notedAt ?_
  unfold compStart
  show wpAny _ _ (ask >>= _) _ _ s
  refine wpAny_bind (wpAny_askSetting (wpAny_ite ?_))
  split
  · first
      | exact wpAny_bind (wpAny_pure (wpAny_pure (And.intro rfl h0)))
      | exact wpAny_pure (And.intro rfl h0)
  · refine wpAny_bind (wpAny_rule ?_)
    show wpAny _ _ (standAt i1.pos >>= _) _ _ s
    exact wpAny_bind (wpAny_standAt (wpAny_bind (wpAny_mono h (fun it' s' h' => wpAny_pure (And.intro rfl h')) fun _ _ x => x)))
end
/-! ### bodies -/
abbrev TBd := L2.St → Hp → (Hp → Prop) → Prop
/-- the body from slots σ, the block's own names vs; behind it, less may be known of them -/
structure PB (X : Cx) (vs : List Nat) (body : BdK) (t : Addr → TBd) : Prop where
  run : ∀ (D : Addr) (pins : List (Addr × Obj)) (s : Shared) (σ : L2.St) (H : Hp) (Q : Hp → Prop) (k : Sem PySem.Fin) (Qk : PySem.Fin → Shared → Prop), Inv X pins σ H s → t D σ H Q →
    (∀ s' σ' H', Inv X pins σ' H' s' → σ'.length = σ.length → (∀ (j : Nat) v, (L2.wipe σ vs)[j]? = some (some v) → σ'[j]? = some (some v)) → Q H' → wpAny (model X.prog X.w) X.A k Qk NoE s') → wpAny (model X.prog X.w) X.A (body D X.env k) Qk NoE s
theorem PB.imp {X : Cx} {vs : List Nat} {body : BdK} {t t' : Addr → TBd} (h : PB X vs body t) (i : ∀ D σ H Q, t' D σ H Q → t D σ H Q) : PB X vs body t' := ⟨fun D pins s σ H Q k Qk I q => h.run D pins s σ H Q k Qk I (i D σ H Q q)⟩
/-- d[k] = v in a comprehension's dict -/
def AddH (H : Hp) (y z : V) : HO → HO → Prop
  | .dK kvs, u => ∃ k, y = kV k ∧ kvs.length < sizeLine ∧ u = .dK (putK kvs k z)
  | .dT kvs, u => ∃ ks b, y = .ref b ∧ H b = some (.tup (ks.map kV)) ∧ kvs.length < sizeLine ∧ u = .dT (putK kvs ks z)
  | _, _ => False
section
variable {X : Cx} {vs : List Nat} {elt kx vx : Expr} {te tk tv : TE}
theorem thnE {α : Type} {t : Sem α} {Q Q' : α → Shared → Prop} {M : Model} {A : Around} {E : Value → Shared → Prop} {s : Shared} (h : wpAny M A t Q NoE s) (hQ : ∀ a s, Q a s → Q' a s) : wpAny M A t Q' E s := wpAny_mono h hQ fun _ _ z => False.elim z
theorem pb_l (he : PE X elt te) (hxe : X.xe = NoE) : PB X vs (actL elt) (fun D σ H Q => te σ H fun y H1 => ∃ acc, H1 D = some (.lst acc) ∧ acc.length < sizeLine ∧ Q (upd H1 D (.lst (acc ++ [y])))) := ⟨fun D pins s σ H Q k Qk I q fin => by
  have h := he.run pins s σ H _ I q
  rw [hxe] at h
  refine wpAny_bind (wpAny_bind (thnE h fun u s1 ⟨y, H1, I1, r1, acc, hD, hz, q1⟩ => ?_))
  refine wpAny_bind (app_ok I1 hD hz r1 fun s2 I2 => ?_)
  exact wpAny_pure (fin s2 σ _ I2 rfl (fun j v e => (wipe_some e).1) q1)⟩
theorem dict_set {X : Cx} {pins : List (Addr × Obj)} {σ : L2.St} {H : Hp} {s : Shared} {E : Value → Shared → Prop} {D : Addr} {u u' : HO} {y z : V} {a r : Value} {Q : Unit → Shared → Prop} (hu : X.A.units + 1 < cLine) (I : Inv X pins σ H s) (hD : H D = some u) (ha : AddH H y z u u') (ry : RelV y a) (rz : RelV z r)
    (h : ∀ s', Inv X pins σ (upd H D u') s' → Q () s') : wpAny (model X.prog X.w) X.A (dictSet D a r) Q E s := by
  cases u with
  | dK kvs =>
    obtain ⟨k, rfl, hz, rfl⟩ := ha
    exact d_dictSet I hD hz ry rz h
  | dT kvs =>
    obtain ⟨ks, b, rfl, hb, hlen, rfl⟩ := ha
    cases (show a = Value.ref b from ry)
    obtain ⟨z1, hd, xs, rel, dd⟩ := dt_of I.hok hD
    have hz : xs.length ≤ sizeLine := by rw [← Paired.length rel]; exact z1
    have hl : (putK kvs ks z).length ≤ sizeLine := by have := length_putK kvs ks z; omega
    refine wpAny_dictSet_heap (hsz := hz) (show (tupleKind _).room X.A from Nat.lt_of_succ_lt hu) (key_of I.hok hb) dd fun h' dd' hs => h _ ?_
    obtain ⟨q, es, ep, hq, h2, h3, h4, _, h5⟩ := dd'
    refine d_write I (by rw [hD]; exact True.intro) hs ⟨q, hq⟩ ⟨hl, hd, _, (rel.put ks hb rz).keeps fun c ys ec => ?_, q, es, ep, hq, h2, h3, h4, h5⟩
    rw [upd_ne (ne_of ec hD (fun z => nomatch z))]
    exact ec
  | _ => exact ha.elim
theorem pb_d (hu : X.A.units + 1 < cLine) (hk : PE X kx tk) (hv : PE X vx tv) (hxe : X.xe = NoE) : PB X vs (actD kx vx) (fun D σ H Q => tk σ H fun y H1 => tv σ H1 fun z H2 => ∃ u u', H2 D = some u ∧ AddH H2 y z u u' ∧ Q (upd H2 D u')) := ⟨fun D pins s σ H Q k Qk I q fin => by
  have h := hk.run pins s σ H _ I q
  rw [hxe] at h
  refine wpAny_bind (wpAny_bind (thnE h fun a s1 ⟨y, H1, I1, r1, q1⟩ => ?_))
  have h2 := hv.run pins s1 σ H1 _ I1 q1
  rw [hxe] at h2
  refine wpAny_bind (wpAny_holding (thnE h2 fun r s2 ⟨z, H2, I2, r2, u, u', hD, ha, q2⟩ => ?_))
  refine wpAny_bind (wpAny_standAt (wpAny_holding (dict_set hu I2 hD ha r1 r2 fun s3 I3 => ?_)))
  exact fin s3 σ _ I3 rfl (fun j v e => (wipe_some e).1) q2⟩

/-- a clause within: its own walk -/
def tIn (wi : TI) (g : TG) (tt : TT) (tb : Addr → TBd) (vs1 : List Nat) : Addr → TBd := fun D σ H Q => wi σ H fun J H1 => ∃ W : Nat → Nat → Hp → Prop, (∃ m, W 0 m H1) ∧ ∀ i m H, W i m H →
  (J.stop i H ∧ Q H) ∨ (J.go i H ∧ ∃ Nx : Hp → Prop, (∀ H', Nx H' → ∃ m', m' < m ∧ W (i + 1) m' H') ∧ ∀ x H', J.yld i H x H' → g x (L2.wipe σ vs1) H' fun σ2 H2 => L2.wipe σ2 vs1 = L2.wipe σ vs1 ∧ tt σ2 H2 fun b H3 => if b = true then tb D σ2 H3 Nx else Nx H3)
theorem pb_in {ce t1 i1 : Expr} {ifs1 : List Expr} {body : BdK} {wi : TI} {g : TG} {tt : TT} {tb : Addr → TBd} {vs1 : List Nat} (hxe : X.xe = NoE) (hc : X.calm = true) (ht : TurnIs ce 1 t1 i1 ifs1 body) (hst : Start1 ce) (hd : DenIs ce 1) (hq : ∀ it acc env, (Code.compLoop ce 1 it acc env).quiet = true)
    (hv : ∀ i, i ∈ vs1 → i ∈ vs) (hi : PI X t1 i1 wi) (hg : PG X t1 g) (htt : PTs X ifs1 tt) (hb : PB X vs1 body tb) (hs : ∀ env x, foldedSetIterable i1 env x = pure x) : PB X vs (inner ce i1) (tIn wi g tt tb vs1) := ⟨fun D pins s σ H Q k Qk I q fin => by
  have h0 := hi.run pins s σ H _ I q
  rw [hxe] at h0
  refine wpAny_bind (thnE h0 fun xv s1 hx => ?_)
  refine wpAny_bind (wpAny_standAt (wpAny_bind (wpAny_of_eq (hs _ xv) (wpAny_bind (wpAny_holding (thnE hx fun itv s2 h2 => ?_))))))
  obtain ⟨it1, fp1, tn1, J1, H2, e1, I2, T1, st2, f2, W1, ⟨m1, w1⟩, turn1⟩ := h2
  subst e1
  refine wpAny_bind (wpAny_runOwn ?_)
  rw [Around.mark_none]
  have stat1 : ∀ {H' : Hp}, (∀ b ∈ fp1, H' b = none) → ∀ b ∈ fp1, FpOk X pins H' b := fun hn b hb => ⟨hn b hb, (f2 b hb).2⟩
  let Good : Shared → Prop := fun s' => ∃ σ' H', Inv X pins σ' H' s' ∧ σ'.length = σ.length ∧ (∀ (j : Nat) v, (L2.wipe σ vs)[j]? = some (some v) → σ'[j]? = some (some v)) ∧ Q H'
  have loop1 : codeAny (model X.prog X.w) X.A (.compLoop ce 1 (.ref it1) (.ref D) X.env) (fun r s' => match r with
      | .ok _ => Good s'
      | .error _ => False) s2 := by
    refine loop_gen hd hq ht (fun k s' => ∃ j H', Inv X pins (L2.wipe σ vs1) H' s' ∧ tn1 j s'.heap ∧ (∀ b ∈ fp1, H' b = none) ∧ W1 j k H') ?_ m1 ⟨0, H2, I2.weak (wipe_length _ _) (fun j v e => (wipe_some e).1), st2, fun b hb => (f2 b hb).1, w1⟩
    rintro k s12 ⟨j, H12, I12, st12, n12, w12⟩
    rcases turn1 j k H12 w12 with ⟨stop1, nx1⟩ | ⟨go1, Nx1, hNx1, step1⟩
    · refine thnE (T1.done X rfl rfl rfl hc j _ s12 (L2.wipe σ vs1) H12 (fun _ _ => False) I12 (stat1 n12) st12 stop1) fun r s13 ⟨hr, I13⟩ => ?_
      subst hr
      refine ⟨_, H12, I13, wipe_length _ _, fun j v e => ?_, nx1⟩
      obtain ⟨e1, e2⟩ := wipe_some e
      rw [wipe_out fun z => e2 (hv j z)]
      exact e1
    · refine thnE (T1.item X rfl rfl rfl hc j _ s12 (L2.wipe σ vs1) H12 (fun _ _ => False) I12 (stat1 n12) st12 go1) fun r s13 ⟨u1, hr, h13⟩ => ?_
      subst hr
      refine thnE h13 fun _ s14 ⟨x1, H14, I14, r14, y14, st14, n14⟩ => ?_
      have I14' := I14.pinned (stat1 n14) (T1.obj _ _ st14)
      have hgr := hg.run _ s14 (L2.wipe σ vs1) H14 x1 u1 _ I14' r14 (step1 x1 H14 y14)
      rw [hxe] at hgr
      refine thnE hgr fun _ s15 ⟨σ15, H15, I15, hw15, q15⟩ => ?_
      have htr := htt.run _ s15 σ15 H15 _ I15 q15
      rw [hxe] at htr
      refine thnE htr fun b1 s16 ⟨H16, I16, q16⟩ => ?_
      have fin1 : ∀ {σ9 : L2.St} {s' : Shared} {H' : Hp}, Inv X (pins ++ pinsAt fp1 s14.heap) σ9 H' s' → (L2.wipe σ vs1).length = σ9.length → (∀ (j : Nat) v, (L2.wipe σ vs1)[j]? = some (some v) → σ9[j]? = some (some v)) → Nx1 H' → ∃ m, m < k ∧ ∃ j H', Inv X pins (L2.wipe σ vs1) H' s' ∧ tn1 j s'.heap ∧ (∀ b ∈ fp1, H' b = none) ∧ W1 j m H' := fun {σ9 s' H'} I' l9 k9 nx => by
        obtain ⟨m', hm, w'⟩ := hNx1 H' nx
        have pin' : ∀ b ∈ fp1, ∀ o, s14.heap.get? b = some o → s'.heap.get? b = some o ∧ H' b = none := fun b hb o e =>
          let z := I'.pin (b, o) (List.mem_append_right _ (List.mem_append_right _ (mem_pinsAt hb e)))
          ⟨z.1, z.2.1⟩
        refine ⟨m', hm, j + 1, H', I'.unpinned.weak l9 k9, T1.keep _ _ _ st14 fun b hb o e => (pin' b hb o e).1, fun b hb => ?_, w'⟩
        obtain ⟨o, e, _⟩ := T1.obj _ _ st14 b hb
        exact (pin' b hb o e).2
      have l15 : (L2.wipe σ vs1).length = σ15.length := by rw [← hw15, wipe_length]
      cases b1 with
      | false =>
        simp only [Bool.false_eq_true, if_false] at q16 ⊢
        exact fin1 I16 l15 (fun j v e => by rw [← hw15] at e; exact (wipe_some e).1) q16
      | true =>
        simp only [if_true] at q16 ⊢
        intro kk Qk1 hk1
        refine hb.run D _ s16 σ15 H16 Nx1 kk Qk1 I16 q16 fun s17 σ17 H17 I17 l17 k17 nx => hk1 s17 (fin1 I17 (l15.trans l17.symm) (fun j v e => k17 j v ?_) nx)
        rw [← hw15] at e
        exact e
  refine codeAny_mono (hst _ _ _ _ _ _ _ _ loop1 (T1.self X.A 0 _ _ _ st2 loop1)) fun r s' hr => ?_
  cases r with
  | ok f =>
    obtain ⟨σ', H', I', a, b, c⟩ := hr
    first
      | exact fin s' σ' H' I' a b c
      | exact wpAny_bind (wpAny_pure (fin s' σ' H' I' a b c))
      | exact wpAny_pure (fin s' σ' H' I' a b c)
  | error e => exact hr.elim⟩
end
end Fx

/-! G: comprehensions: the first clause, the new object. -/
namespace Fx
open PySem PySem.Spec PyProof.Rows L2
/-- the new object that is filled -/
structure NewIs (newAcc : Sem Value) (ob : Obj) (u0 : HO) : Prop where
  mak : ∀ (prog : Program) (w : World) (A : Around) (Q : Value → Shared → Prop) (E : Value → Shared → Prop) (s : Shared), Q (.ref s.heap.objs.size) { s with heap := s.heap.push ob } → wpAny (model prog w) A newAcc Q E s
  ok : ∀ (P : Program) (w : World) (H : Hp) (h : Heap), sysModules < h.objs.size → ObjOk P w H (h.push ob) h.objs.size u0
theorem new_l : NewIs (newList []) { cls := .type "list", data := .seq ([] : List Value).toArray } (.lst []) := ⟨fun prog w A Q E s h => wpAny_newObj_type h (by show 0 ≤ sizeLine; decide), fun P w H h hb => ⟨Nat.zero_le _, [], 0, .nil, Heap.get?_push_size _ rfl⟩⟩
theorem new_dk : NewIs newDict { cls := .type "dict", data := .dict #[] } (.dK []) := ⟨fun prog w A Q E s h => wpAny_newObj_type h, fun P w H h hb => dk_empty h hb⟩
theorem new_dt : NewIs newDict { cls := .type "dict", data := .dict #[] } (.dT []) := ⟨fun prog w A Q E s h => wpAny_newObj_type h, fun P w H h hb => dt_empty h hb⟩
def tGc (u0 : HO) (wi : TI) (g : TG) (tt : TT) (tb : Addr → TBd) (vs : List Nat) : TE := fun σ H Q => wi σ H fun J H1 => ∀ D, H1 D = none → ∃ W : Nat → Nat → Hp → Prop, (∃ m, W 0 m (upd H1 D u0)) ∧ ∀ i m H, W i m H →
  (J.stop i H ∧ Q (.ref D) H) ∨ (J.go i H ∧ ∃ Nx : Hp → Prop, (∀ H', Nx H' → ∃ m', m' < m ∧ W (i + 1) m' H') ∧ ∀ x H', J.yld i H x H' → g x (L2.wipe σ vs) H' fun σ2 H2 => L2.wipe σ2 vs = L2.wipe σ vs ∧ tt σ2 H2 fun b H3 => if b = true then tb D σ2 H3 Nx else Nx H3)
abbrev AllB (X : Cx) (scope : Scope) (P : Cx → Prop) : Prop := ∀ (s : Shared) (H : Hp) (C : Addr) (cl : List (Str × Addr)) (fp : List Addr), P (X.blk s H scope (compEnvC scope cl C X.env) fp)
section
variable {X : Cx} {ce tg iter : Expr} {ifs : List Expr} {gs : List Comprehension} {scope : Scope} {own : List (Str × Nat)} {pos' : Pos} {wi : TI} {g : TG} {tt : TT} {tb : Addr → TBd} {body : BdK} {newAcc : Sem Value} {ob : Obj} {u0 : HO}
theorem gc_core {pins : List (Addr × Obj)} {s : Shared} {σ : L2.St} {H : Hp} {Q : VK} {use : Option (Value → Sem Unit)} {Qf : Value → Shared → Prop} (hce : clausesOf ce = ⟨tg, iter, ifs, 0⟩ :: gs) (nw : NewIs newAcc ob u0) (htn : TurnIs ce 0 tg iter ifs body) (hst : Start0 ce) (hdn : DenIs ce 0) (hqt : ∀ it acc env, (Code.compLoop ce 0 it acc env).quiet = true)
    (hc : X.calm = true) (hN : X.N.Nodup) (I : Inv X pins σ H s) (hi : PI X tg iter wi) (ok : BlkOk X.N X.env.scope scope own)
    (hg : AllB X scope fun Y => PG Y tg g) (ht : AllB X scope fun Y => PTs Y ifs tt) (hb : AllB X scope fun Y => PB Y (own.map (·.2)) body tb) (hs : ∀ x, foldedSetIterable iter X.env x = pure x)
    (h : tGc u0 wi g tt tb (own.map (·.2)) σ H Q)
    (hRR : ∀ D C s' m H', Inv X pins σ H' s' → Q (.ref D) H' → s'.heap.Ns C m → FpOk X pins H' C → compPost (model X.prog X.w) X.A X.xe use Qf (.ref D) C (.ok .next) s') :
    wpAny (model X.prog X.w) X.A (comprehension ce scope X.env pos' newAcc false (eval iter X.env) use) Qf X.xe s := by
  have hfree : ∀ y ∈ scope.names, y.2 = .free → ∃ c, X.env.cells.lookup y.1 = some c := fun y hy e => by
    rcases ok.free y hy e with k | k
    · exact I.ok.has _ (.inl k)
    · exact I.ok.has _ (.inr k)
  refine wpAny_comprehension_free (use := use) hce hs (closure_ok hfree) ok.kind (fun y hy e => by rw [ok.uniq y hy, e])
    (thn (hi.run pins s σ H _ I h) fun xv s1 hx => thn hx fun itv s2 h2 => ?_)
  obtain ⟨it, fp, tn, J, H2, e, I2, T, st2, f2, q⟩ := h2
  subst e
  refine nw.mak _ _ _ _ _ _ (newEnv_comp ?_)
  generalize hD : s2.heap.objs.size = D
  have hDn : H2 D = none := I2.hok.fresh (Nat.le_of_eq hD)
  obtain ⟨W, ⟨m0, w0⟩, turn⟩ := q D hDn
  generalize hs3 : ({ s2 with heap := s2.heap.push ob } : Shared) = s3
  have I3 : Inv X pins σ (upd H2 D u0) s3 := by
    rw [← hs3]
    refine I2.laid (t' := s2.toks) (fun b o e => Heap.get?_push_of_some _ e) (Nat.le_of_eq hD) ?_
    rw [← hD]
    exact nw.ok _ _ _ s2.heap I2.big
  have h3 : s3.heap = s2.heap.push ob := by rw [← hs3]
  have sz : ∀ b ∈ fp, b < s2.heap.objs.size := fun b hb => by
    obtain ⟨o, e, _⟩ := T.obj _ _ st2 b hb
    exact Heap.lt_size e
  have f3 : ∀ b ∈ fp, FpOk X pins (upd H2 D u0) b ∧ b < s3.heap.objs.size := fun b hb => by
    have hlt := sz b hb
    refine ⟨⟨?_, (f2 b hb).2⟩, by rw [h3, Heap.size_push]; exact Nat.lt_succ_of_lt hlt⟩
    rw [upd_ne (by rw [← hD]; exact Nat.ne_of_lt hlt)]
    exact (f2 b hb).1
  have st3 : tn 0 s3.heap := T.keep _ _ _ st2 fun b _ o e => by rw [h3]; exact Heap.get?_push_of_some _ e
  have I4 := block_start I3 ok hN f3
  have pg := hg s3 (upd H2 D u0) s3.heap.objs.size (cellsFrom (s3.heap.objs.size + 1) scope.names (cloFrom X.env.cells scope.names [])) fp
  have pt := ht s3 (upd H2 D u0) s3.heap.objs.size (cellsFrom (s3.heap.objs.size + 1) scope.names (cloFrom X.env.cells scope.names [])) fp
  have pb := hb s3 (upd H2 D u0) s3.heap.objs.size (cellsFrom (s3.heap.objs.size + 1) scope.names (cloFrom X.env.cells scope.names [])) fp
  show codeAny _ _ (.compStart ce 0 (.ref it) (.ref D) (compEnvC scope (cellsFrom (s3.heap.objs.size + 1) scope.names (cloFrom X.env.cells scope.names [])) s3.heap.objs.size X.env)) (compPost (model X.prog X.w) X.A X.xe use Qf (.ref D) s3.heap.objs.size) { s3 with heap := pushCells (s3.heap.push { cls := .type "dict", data := .dict #[] }) scope.names }
  have nfp : ∀ b ∈ fp, (upd H2 D u0) b = none := fun b hb => (f3 b hb).1.1
  generalize hce : compEnvC scope (cellsFrom (s3.heap.objs.size + 1) scope.names (cloFrom X.env.cells scope.names [])) s3.heap.objs.size X.env = cx at I4 pg pt pb ⊢
  have cL : cx.locals = s3.heap.objs.size := by subst hce; rfl
  generalize hH3 : upd H2 D u0 = H3 at I3 I4 pg pt pb w0 nfp f3
  generalize hs4 : ({ s3 with heap := pushCells (s3.heap.push { cls := .type "dict", data := .dict #[] }) scope.names } : Shared) = s4 at I4 ⊢
  have st4 : tn 0 s4.heap := T.keep _ _ _ st3 fun b _ o e => by rw [← hs4]; exact pushCells_keeps _ _ _ _ (Heap.get?_push_of_some _ e)
  have stat : ∀ {σ' : L2.St} {H' : Hp} {s' : Shared}, Inv (X.blk s3 H3 scope cx fp) [] σ' H' s' → (∀ b ∈ fp, H' b = none) → ∀ b ∈ fp, FpOk (X.blk s3 H3 scope cx fp) [] H' b := fun {σ' H' s'} I' hn b hb =>
    ⟨hn b hb, (I'.ok.exf b hb).1, I'.ok.exfs b hb, .inl hb, fun x c e => (I'.ok.exf b hb).2 x c e, fun p hp => absurd (show p ∈ ([] : List (Addr × Obj)) ++ [] from hp) (by simp)⟩
  have loop : codeAny (model X.prog X.w) X.A (.compLoop ce 0 (.ref it) (.ref D) cx) (compPost (model X.prog X.w) X.A X.xe use Qf (.ref D) s3.heap.objs.size) s4 := by
    refine loop_gen hdn hqt htn (fun n s' => ∃ i H', Inv (X.blk s3 H3 scope cx fp) [] (L2.wipe σ (own.map (·.2))) H' s' ∧ tn i s'.heap ∧ (∀ b ∈ fp, H' b = none) ∧ W i n H') ?_ m0 ⟨0, H3, I4, st4, nfp, w0⟩
    rintro n s5 ⟨i, H5, I5, st5, n5, w5⟩
    rcases turn i n H5 w5 with ⟨stop, qq⟩ | ⟨go, Nx, hNx, step⟩
    · have td := T.done (X.blk s3 H3 scope cx fp) rfl rfl rfl hc i [] s5 _ H5 (fun _ _ => False) I5 (stat I5 n5) st5 stop
      refine thnE td fun r s6 ⟨hr, I6⟩ => ?_
      subst hr
      have I7 : Inv X pins σ H5 s6 := I3.call' (ch := fp) I6.os I6.base I6.hok I6.bare fun b hb => ⟨(f3 b hb).1.2.2.2.1, (f3 b hb).1.2.1, (f3 b hb).1.2.2.2.2.1, (f3 b hb).1.2.2.2.2.2⟩
      have nC : H5 s3.heap.objs.size = none := by
        have z : H5 cx.locals = none := I6.free
        rw [cL] at z
        exact z
      obtain ⟨m, hn, _⟩ := I6.loc
      have hn : s6.heap.Ns cx.locals m := hn
      rw [cL] at hn
      exact hRR D s3.heap.objs.size s6 m H5 I7 qq hn (I3.fpOk (Nat.le_refl _) nC)
    · have ti := T.item (X.blk s3 H3 scope cx fp) rfl rfl rfl hc i [] s5 _ H5 (fun _ _ => False) I5 (stat I5 n5) st5 go
      refine thnE ti fun r s6 ⟨u, hr, h6⟩ => ?_
      subst hr
      refine thnE h6 fun _ s7 ⟨x, H7, I7, r7, y7, st7, n7⟩ => ?_
      have I7' := I7.pinned (stat I7 n7) (T.obj _ _ st7)
      refine thnE (pg.run _ s7 _ H7 x u _ I7' r7 (step x H7 y7)) fun _ s8 ⟨σ8, H8, I8, hw8, q8⟩ => ?_
      refine thnE (pt.run _ s8 σ8 H8 _ I8 q8) fun b s9 ⟨H9, I9, q9⟩ => ?_
      have fin : ∀ {σ9 : L2.St} {s' : Shared} {H' : Hp}, Inv (X.blk s3 H3 scope cx fp) ([] ++ pinsAt fp s7.heap) σ9 H' s' → (L2.wipe σ (own.map (·.2))).length = σ9.length → (∀ (j : Nat) v, (L2.wipe σ (own.map (·.2)))[j]? = some (some v) → σ9[j]? = some (some v)) → Nx H' →
          ∃ m, m < n ∧ ∃ i H', Inv (X.blk s3 H3 scope cx fp) [] (L2.wipe σ (own.map (·.2))) H' s' ∧ tn i s'.heap ∧ (∀ b ∈ fp, H' b = none) ∧ W i m H' := fun {σ9 s' H'} I' hl hk nx => by
        obtain ⟨m', hm, w'⟩ := hNx H' nx
        have pin' : ∀ b ∈ fp, ∀ o, s7.heap.get? b = some o → s'.heap.get? b = some o ∧ H' b = none := fun b hb o e =>
          let z := I'.pin (b, o) (List.mem_append_right _ (List.mem_append_right _ (mem_pinsAt hb e)))
          ⟨z.1, z.2.1⟩
        refine ⟨m', hm, i + 1, H', (I'.unpinned (pins := [])).weak hl hk, T.keep _ _ _ st7 fun b hb o e => (pin' b hb o e).1, fun b hb => ?_, w'⟩
        obtain ⟨o, e, _⟩ := T.obj _ _ st7 b hb
        exact (pin' b hb o e).2
      have hl8 : (L2.wipe σ (own.map (·.2))).length = σ8.length := by rw [← hw8, wipe_length]
      cases b with
      | false =>
        simp only [Bool.false_eq_true, if_false] at q9 ⊢
        exact fin I9 hl8 (fun j v e => by rw [← hw8] at e; exact (wipe_some e).1) q9
      | true =>
        simp only [if_true] at q9 ⊢
        intro kk Qk1 hk1
        refine pb.run D _ s9 σ8 H9 Nx kk Qk1 I9 q9 fun s17 σ17 H17 I17 l17 k17 nx => hk1 s17 (fin I17 (hl8.trans l17.symm) (fun j v e => k17 j v ?_) nx)
        rw [← hw8] at e
        exact e
  exact hst _ _ _ _ _ _ _ _ loop (T.self X.A 0 _ _ _ st4 loop)
/-- as a value -/
theorem pe_gc (hev : eval ce X.env = comprehension ce scope X.env pos' newAcc false (eval iter X.env)) (hce : clausesOf ce = ⟨tg, iter, ifs, 0⟩ :: gs) (nw : NewIs newAcc ob u0) (htn : TurnIs ce 0 tg iter ifs body) (hst : Start0 ce) (hdn : DenIs ce 0) (hqt : ∀ it acc env, (Code.compLoop ce 0 it acc env).quiet = true)
    (hc : X.calm = true) (hN : X.N.Nodup) (hi : PI X tg iter wi) (ok : BlkOk X.N X.env.scope scope own)
    (hg : AllB X scope fun Y => PG Y tg g) (ht : AllB X scope fun Y => PTs Y ifs tt) (hb : AllB X scope fun Y => PB Y (own.map (·.2)) body tb) (hs : ∀ x, foldedSetIterable iter X.env x = pure x) : PE X ce (tGc u0 wi g tt tb (own.map (·.2))) := by
  refine ⟨fun pins s σ H Q I h => ?_⟩
  rw [hev]
  refine gc_core hce nw htn hst hdn hqt hc hN I hi ok hg ht hb hs h fun D C s' m H' I' q hn f => ⟨m, hn, fun h'' sb => ?_⟩
  obtain ⟨f0, f1, f2, f3, f4, f5⟩ := f
  exact ⟨.ref D, H', I'.turned (t' := s'.toks) (fun b o hb e => (sb.2 b hb).trans e) f0 f1 f3 f4 f5, rfl, q⟩
/-- name = comprehension on one line, the name a local -/
theorem ps_setGc {i : Nat} {y : Str} {py spos : Pos} (hun : ∀ use, evalThenUse ce X.env use = (do let _ ← comprehension ce scope X.env pos' newAcc false (eval iter X.env) (some use))) (hce : clausesOf ce = ⟨tg, iter, ifs, 0⟩ :: gs) (nw : NewIs newAcc ob u0) (htn : TurnIs ce 0 tg iter ifs body) (hst : Start0 ce) (hdn : DenIs ce 0) (hqt : ∀ it acc env, (Code.compLoop ce 0 it acc env).quiet = true)
    (hc : X.calm = true) (hN : X.N.Nodup) (hy : X.N[i]? = some y) (hyl : X.env.scope.names.lookup y = some .local) (hsw : swapsWith ce (some (.Name y py)) spos.line X.env = pure true) (hi : PI X tg iter wi) (ok : BlkOk X.N X.env.scope scope own)
    (hg : AllB X scope fun Y => PG Y tg g) (ht : AllB X scope fun Y => PTs Y ifs tt) (hb : AllB X scope fun Y => PB Y (own.map (·.2)) body tb) (hs : ∀ x, foldedSetIterable iter X.env x = pure x) : PS X (.Assign [.Name y py] ce spos) (tAsg (tGc u0 wi g tt tb (own.map (·.2))) (gName i)) := by
  refine ⟨fun pins s σ H D I h => ?_⟩
  rw [exec_Assign_Name_used _ _ _ _ hsw]
  refine wpAny_bind (wpAny_standAt (wpAny_bind ?_))
  rw [hun]
  have h : tGc u0 wi g tt tb (own.map (·.2)) σ H (fun x H1 => gName i x σ H1 D.nx) := h
  refine wpAny_bind (thn (gc_core (Qf := fun _ s' => SP X pins D .next s') hce nw htn hst hdn hqt hc hN I hi ok hg ht hb hs h fun L C s' m H' I' q hn f => ?_) fun _ s' hq => wpAny_pure (wpAny_pure hq))
  show wpAny _ _ (assign (.Name y py) X.env (.ref L)) _ _ _
  refine wpAny_assign_Name (store_ok2 (v := V.ref L) I' hN hy (.inl hyl) rfl (fun s2 I2 ⟨a, sb, ha⟩ => ?_) (.inr hyl))
  obtain ⟨f0, f1, f2, f3, f4, f5⟩ := f
  have haC : C ≠ a := by
    rcases ha with z | z
    · rw [z]; exact f1
    · exact fun e => f4 y a z e.symm
  refine ⟨m, hn.sameBut sb haC, fun h3 sb3 => ?_⟩
  exact ⟨_, H', I2.turned (t' := s2.toks) (fun b o hb e => (sb3.2 b hb).trans e) f0 f1 f3 f4 f5, q⟩
end
end Fx

/-! G: comprehensions of lists and dicts, one or two clauses: what they compute. -/
namespace Fx
open PySem PySem.Spec PyProof.Rows L2
/-- the walk of a clause: what has come so far goes along -/
def cmpA {σ : Type} (f : D → D → σ → O σ) : List D → D → σ → O σ
  | [], acc, s => .rt acc s
  | d :: ds, acc, s => (f acc d s).val (fun acc' s' => cmpA f ds acc' s') fun _ _ => .no
/-- the rest of a clause: from what has come so far -/
abbrev Mc := ∀ (τ : Type), (D → Ro) → Gm → Gm → D → (D → Gm → O τ) → O τ
abbrev noX {τ : Type} : Xn → Gm → O τ := fun _ _ => .no
def addL : D → D → Option D
  | .lst l, e => if l.length < sizeLine then some (.lst (l ++ [e])) else none
  | _, _ => none
/-- an item at the end -/
def bLst (κ : Kd) (me : Me) : Mc := fun τ roA Γ T acc k => me τ (roA acc) Γ T noX fun Γ4 T4 => match T4 with
  | .kd κ' e :: T5 => if κ'.eqb κ && T5.all isRo then bindO (addL acc e) fun acc' => k acc' Γ4 else .no
  | _ => .no
/-- an entry -/
def bDic (κ : Kd) (mk mv : Me) : Mc := fun τ roA Γ T acc k => mk τ (roA acc) Γ T noX fun Γ1 T1 => mv τ (roA acc) Γ1 T1 noX fun Γ2 T2 => match T2 with
  | .kd κ' z :: .kd .v y :: T5 => if κ'.eqb κ && T5.all isRo then bindO (putDn (!κ.isV) acc y z) fun acc' => k acc' Γ2 else .no
  | _ => .no
section
variable (m : List Bm) (roF : D → Ro) (TF : D → Gm) (Γ : Gm) (g : Mg) (q : Mq) (B : Mc)
def turnC : D → D → St (cnt m) → O (St (cnt m)) := fun acc d s => g (St (cnt m)) d (roB (roF acc) Γ (TF acc)) (inB m (roF acc) Γ s) fun Γ2 =>
  q (St (cnt m)) (roB (roF acc) Γ (TF acc)) Γ2 (hidT (TF acc)) noX fun b Γ3 T3 => if T3.all isRo then (if b then
    B (St (cnt m)) (fun a => roB (roF a) Γ (TF a)) Γ3 (hidT (TF acc)) acc fun acc' Γ4 => endB m (roF acc') Γ Γ4 fun s => .rt acc' s
    else endB m (roF acc) Γ Γ3 fun s => .rt acc s) else .no
end
/-- a clause within -/
def bFor (m : List Bm) (vs : List Nat) (mi : Mi) (g : Mg) (q : Mq) (B : Mc) : Mc := fun τ roA Γ T acc k => mi τ (roA acc) Γ T noX fun ds Γ1 T1 => if okD m (roA acc) Γ1 T1 && vs.all (fun i => (mkB m i).isDd) && T1.all isRo then
  (endB m (roA acc) Γ1 (entG m (resG (roA acc) 0 Γ1)) fun s0 => cmpA (turnC m roA (fun _ => T1) Γ1 g q B) ds acc s0).val (fun acc' s => k acc' (outB m (roA acc') Γ1 s)) (fun _ _ => .no) else .no
def mGc (m : List Bm) (vs : List Nat) (kA : Kd) (e0 : D) (mi : Mi) (g : Mg) (q : Mq) (B : Mc) : Me := fun τ ro Γ T ex k => mi τ ro Γ T ex fun ds Γ1 T1 => if okD m ro Γ1 T1 && vs.all (fun i => (mkB m i).isDd) then
  (endB m ro Γ1 (entG m (resG ro 0 Γ1)) fun s0 => cmpA (turnC m (fun _ => ro) (fun a => .kd kA a :: T1) Γ1 g q B) ds e0 s0).val (fun d s => k (outB m ro Γ1 s) (.kd kA d :: T1)) (fun _ _ => .no) else .no
/-- where what has come so far is -/
structure AccAt (roF : D → Ro) (TF : D → Gm) (j : Nat) (kA : Kd) : Prop where
  len : ∀ a b, (TF a).length = (TF b).length
  lt : ∀ a, j < (TF a).length
  s : ∀ a b, (roF a).s = (roF b).s
  at_ : ∀ a, tr (roF a) (TF a) j = .kd kA a
  off : ∀ a b i, i ≠ j → tr (roF a) (TF a) i = tr (roF b) (TF b) i
theorem resG_s {a b : Ro} (h : a.s = b.s) : ∀ (Γ : Gm) (o : Nat), resG a o Γ = resG b o Γ
  | [], _ => rfl
  | s :: Γ, o => by
    have e : res a o s = res b o s := by cases s <;> first | rfl | (show gg a.s o = gg b.s o; rw [h])
    show res a o s :: resG a (o + 1) Γ = res b o s :: resG b (o + 1) Γ
    rw [e, resG_s h Γ (o + 1)]
theorem gr_s {a b : Ro} (h : a.s = b.s) (Γ : Gm) (i : Nat) : gr a Γ i = gr b Γ i := by
  unfold gr
  cases gg Γ i <;> first | rfl | (show gg a.s i = gg b.s i; rw [h])
theorem hid_eq : ∀ {T T' : Gm}, T.length = T'.length → hidT T = hidT T'
  | [], [], _ => rfl
  | _ :: T, _ :: T', h => by
    show Sl.ro :: hidT T = Sl.ro :: hidT T'
    rw [hid_eq (by simpa using h)]
  | [], _ :: _, h => by cases h
  | _ :: _, [], h => by cases h
theorem ro_eq : ∀ {T T' : Gm}, T.all isRo = true → T'.all isRo = true → T'.length = T.length → T' = T
  | [], [], _, _, _ => rfl
  | s :: T, s' :: T', h, h', hl => by
    rw [List.all_cons, Bool.and_eq_true] at h h'
    rw [ro_eq h.2 h'.2 (by simpa using hl)]
    have e1 : s = .ro := by cases s <;> first | rfl | cases h.1
    have e2 : s' = .ro := by cases s' <;> first | rfl | cases h'.1
    rw [e1, e2]
  | [], _ :: _, _, _, h => by cases h
  | _ :: _, [], _, _, h => by cases h
theorem hid_ro : ∀ T : Gm, (hidT T).all isRo = true
  | [] => rfl
  | _ :: T => by show (isRo .ro && (hidT T).all isRo) = true; rw [hid_ro T]; rfl
theorem AccAt.blk {roF : D → Ro} {TF : D → Gm} {j : Nat} {kA : Kd} (A : AccAt roF TF j kA) (Γ : Gm) (e : D) : AccAt (fun a => roB (roF a) Γ (TF a)) (fun _ => hidT (TF e)) j kA where
  len := fun _ _ => rfl
  lt := fun _ => by rw [hidT_len]; exact A.lt e
  s := fun a b => resG_s (A.s a b) Γ 0
  at_ := fun a => by rw [hid_eq (A.len e a), tr_hid]; exact A.at_ a
  off := fun a b i hi => by
    show tr (roB (roF a) Γ (TF a)) (hidT (TF e)) i = tr (roB (roF b) Γ (TF b)) (hidT (TF e)) i
    have h1 : tr (roB (roF a) Γ (TF a)) (hidT (TF e)) i = tr (roF a) (TF a) i := by rw [hid_eq (A.len e a), tr_hid]
    have h2 : tr (roB (roF b) Γ (TF b)) (hidT (TF e)) i = tr (roF b) (TF b) i := by rw [hid_eq (A.len e b), tr_hid]
    rw [h1, h2]
    exact A.off a b i hi
section
variable {K : PySem.W.Frag} {W : WX} {n : Ent} {F F1 H H1 : Hp} {ro : Ro} {Γ Γ' T : Gm} {σ : L2.St} {ts : List V} {τ : Type} {G : O τ → Prop} {X : Cx} {pos : Pos} {κ kA : Kd} {d e acc : D} {v x y : V} {m : List Bm} {roA roF : D → Ro} {TF : D → Gm} {j : Nat} {D0 : Addr}
/-- what has come so far gets more, temporaries are used up -/
theorem Rl.growX {C : Gm} {cs : List V} (A : AccAt roA (fun _ => T) j kA) (hC : C.length = cs.length) (R : Rl K n F (roA acc) Γ (C ++ T) σ (cs ++ ts) H) (hv : valOf σ ts (.t j) = some (.ref D0)) :
    ∃ ft, SimF K n F (entOf (roA acc) Γ (C ++ T)) (valOf σ (cs ++ ts)) ft H ∧ Ow K F H kA (.ref D0) acc (ft (.t j)) ∧ ∀ (o' : HO) (acc' : D) (A' : List Addr), D0 ∈ ft (.t j) → Ow K F (upd H D0 o') kA (.ref D0) acc' A' → (∀ z, z ∈ A' → z ∈ ft (.t j) ∨ ∃ i, T.length ≤ i ∧ z ∈ ft (.t i)) → Rl K n F (roA acc') Γ T σ ts (upd H D0 o') := by
  obtain ⟨ft, S⟩ := R.S
  have lt : T.length = ts.length := by
    have := R.lt
    rw [List.length_append, List.length_append] at this
    omega
  have hj : j < T.length := A.lt acc
  have ej : entOf (roA acc) Γ (C ++ T) (.t j) = .kd kA acc := (tr_app C T j hj).trans (A.at_ acc)
  have vj : valOf σ (cs ++ ts) (.t j) = some (.ref D0) := (val_app cs ts j (by omega)).trans hv
  have q := S.en (.t j)
  rw [ej] at q
  obtain ⟨v', g1, g2⟩ := q
  rw [vj] at g1
  cases g1
  refine ⟨ft, S, g2, fun o' acc' A' hb o2 hA => ?_⟩
  have fb : F D0 = none := (S.fn _ D0 hb).1
  have off : ∀ z, z ≠ .t j → ∀ a, a ∈ ft z → upd H D0 o' a = H a := fun z hz a ha => upd_ne fun e => S.dj z (.t j) hz a ha (by rw [e]; exact hb)
  refine ⟨R.ls, lt, fun z => match z with
    | .s i => ft (.s i)
    | .t i => if i = j then A' else if i < T.length then ft (.t i) else [], S.step (fun z => z = D0) (.refl _) (lk_off S.sub fb) S.nd (fun z o h hn => by rw [upd_ne hn]; exact h) (fun z h => ⟨.t j, by rw [h]; exact hb⟩) (fun z o h => .inl (.inl ⟨o, h⟩)) (fun x a h => ?_) (fun x a h => ?_) (fun x a h => ?_) (fun x z hxz a hx hz => ?_) fun x => ?_⟩
  · cases x with
    | s i => exact .inl ⟨_, h⟩
    | t i =>
      simp only at h
      split at h
      · rcases hA a h with q | ⟨i', _, q⟩
        · exact .inl ⟨_, q⟩
        · exact .inl ⟨_, q⟩
      · split at h
        · exact .inl ⟨_, h⟩
        · cases h
  · cases x with
    | s i => exact (S.fn _ a h).1
    | t i =>
      simp only at h
      split at h
      · rcases hA a h with q | ⟨i', _, q⟩
        · exact (S.fn _ a q).1
        · exact (S.fn _ a q).1
      · split at h
        · exact (S.fn _ a h).1
        · cases h
  · cases x with
    | s i =>
      obtain ⟨u, hu, nt⟩ := S.th _ a h
      exact ⟨u, (off _ (by intro e; cases e) a h).trans hu, nt⟩
    | t i =>
      simp only at h
      split at h
      · exact o2.there a h
      · rename_i hi
        split at h
        · obtain ⟨u, hu, nt⟩ := S.th _ a h
          exact ⟨u, (off _ (fun e => hi (Ix.t.inj e)) a h).trans hu, nt⟩
        · cases h
  · have key : ∀ z : Ix, (∀ i, z = .t i → i ≠ j ∧ i < T.length) → a ∈ ft z → a ∈ A' → False := fun z hz h1 h2 => by
      rcases hA a h2 with q | ⟨i', hi', q⟩
      · exact S.dj _ _ (fun e => (hz j e).1 rfl) a h1 q
      · exact S.dj _ _ (fun e => by have := (hz i' e).2; omega) a h1 q
    have low : ∀ (x : Ix), a ∈ (match x with | .s i => ft (.s i) | .t i => if i = j then A' else if i < T.length then ft (.t i) else [] : List Addr) → (x = .t j ∧ a ∈ A') ∨ ((∀ i, x = .t i → i ≠ j ∧ i < T.length) ∧ a ∈ ft x) := fun x h => by
      cases x with
      | s i => exact .inr ⟨(fun i e => by cases e), h⟩
      | t i =>
        simp only at h
        split at h
        · rename_i e; exact .inl ⟨by rw [e], h⟩
        · rename_i e
          split at h
          · rename_i e2
            exact .inr ⟨(fun i' e' => by cases e'; exact ⟨e, e2⟩), h⟩
          · cases h
    rcases low x hx with ⟨e1, h1⟩ | ⟨e1, h1⟩
    · rcases low z hz with ⟨e2, h2⟩ | ⟨e2, h2⟩
      · exact hxz (e1.trans e2.symm)
      · exact key z e2 h2 h1
    · rcases low z hz with ⟨e2, h2⟩ | ⟨e2, h2⟩
      · exact key x e1 h1 h2
      · exact S.dj x z hxz a h1 h2
  · have es : ∀ i, entOf (roA acc') Γ T (.s i) = entOf (roA acc) Γ (C ++ T) (.s i) := fun i => gr_s (A.s acc' acc) Γ i
    cases x with
    | s i =>
      rw [es]
      exact S.keepE (x := .s i) (.refl _) (fun a ha => off _ (by intro e; cases e) a ha) rfl fun j' p o e => ⟨es j', rfl, fun a ha => off _ (by intro e; cases e) a ha⟩
    | t i =>
      by_cases h1 : i = j
      · subst h1
        rw [show entOf (roA acc') Γ T (.t i) = .kd kA acc' from A.at_ acc']
        simp only [if_pos rfl]
        exact ⟨_, hv, o2⟩
      · by_cases h2 : i < T.length
        · have e1 : entOf (roA acc') Γ T (.t i) = entOf (roA acc) Γ (C ++ T) (.t i) := (A.off acc' acc i h1).trans (tr_app C T i h2).symm
          rw [e1]
          simp only [if_neg h1, if_pos h2]
          exact S.keepE (x := .t i) (.refl _) (fun a ha => off _ (fun e => h1 (Ix.t.inj e)) a ha) (val_app cs ts i (by omega)).symm fun j' p o e => ⟨es j', rfl, fun a ha => off _ (by intro e; cases e) a ha⟩
        · have : entOf (roA acc') Γ T (.t i) = .un := by
            show tr (roA acc') T i = .un
            unfold tr tb
            rw [if_neg h2]; rfl
          rw [this]; trivial
/-! ### the bodies -/
def tB (K : PySem.W.Frag) (kA : Kd) (B : Mc) : Addr → TBd := fun D0 σ H Nx => ∃ (τ : Type) (G : O τ → Prop) (n : Ent) (F : Hp) (roA : D → Ro) (Γ T : Gm) (ts : List V) (acc : D) (k : D → Gm → O τ) (j : Nat),
  ¬ G .no ∧ AccAt roA (fun _ => T) j kA ∧ T.all isRo = true ∧ Rl K n F (roA acc) Γ T σ ts H ∧ valOf σ ts (.t j) = some (.ref D0) ∧ G (B τ roA Γ T acc k) ∧ ∀ acc' Γ' F' H', Same F F' → Rl K n F' (roA acc') Γ' T σ ts H' → G (k acc' Γ') → Nx H'
theorem wiN (no : ¬ G .no) : Wi K W0 G n F ro σ noX := ⟨no, fun x Γ' cls dO F' H' s R xo g => no g⟩
theorem im_bl {me : Me} {Q : Hp → Prop} (h : tB K (.l κ) (bLst κ me) D0 σ H Q) : tM K W0 me σ H fun y H1 => ∃ l, H1 D0 = some (.lst l) ∧ l.length < sizeLine ∧ Q (upd H1 D0 (.lst (l ++ [y]))) := by
  obtain ⟨τ, G, n, F, roA, Γ, T, ts, acc, k, j, no, A, hT, R, hv, g, cc⟩ := h
  refine ⟨τ, G, n, F, roA acc, Γ, T, ts, noX, _, wiN no, R, g, fun Γ4 s4 T4 yv F4 H4 s5 R5 g5z => ?_⟩
  cases s4 with
  | kd κ' e =>
    have g5 : G (if κ'.eqb κ && T4.all isRo then bindO (addL acc e) fun acc' => k acc' Γ4 else .no) := g5z
    clear g5z
    by_cases hb : (κ'.eqb κ && T4.all isRo) = true
    · rw [if_pos hb] at g5
      rw [Bool.and_eq_true] at hb
      have ek := Kd.eqb_eq hb.1
      subst ek
      have ht : T4 = T := ro_eq hT hb.2 (by have := R5.lt; have := R.lt; simp at *; omega)
      subst ht
      obtain ⟨acc', ha, g6⟩ := bindO_some no g5
      obtain ⟨ft, S, o1, fin⟩ := Rl.growX (C := [.kd κ' e]) (cs := [yv]) A rfl R5 hv
      cases acc with
      | lst l =>
        have ha : (if l.length < sizeLine then some (D.lst (l ++ [e])) else none) = some acc' := ha
        by_cases hl : l.length < sizeLine
        · rw [if_pos hl] at ha
          cases ha
          have qe := S.en (.t T4.length)
          have lt : T4.length = ts.length := R.lt
          have e1 : entOf (roA (.lst l)) Γ4 ([.kd κ' e] ++ T4) (.t T4.length) = .kd κ' e := tr_top _ _ rfl
          rw [e1] at qe
          obtain ⟨y', y1, y2⟩ := qe
          have v1 : valOf σ ([yv] ++ ts) (.t T4.length) = some yv := by rw [lt]; exact val_top (σ := σ) yv ts
          rw [v1] at y1
          cases y1
          have hj : j < T4.length := A.lt (.lst l)
          have dj := S.dj (.t j) (.t T4.length) (by intro e; have := Ix.t.inj e; omega)
          generalize hA : ft (.t j) = AA at o1 fin dj
          cases o1 with
          | @lst _ a xs ds A0 hh t nn =>
            refine ⟨xs, hh, by rw [t.length]; exact hl, cc _ _ F4 _ s5 (fin (.lst (xs ++ [yv])) _ (D0 :: (A0 ++ ft (.t T4.length))) (by simp) (.lst upd_same (OwC.snoc (t.mono (.refl _) fun z hz => upd_ne (fun e => nn (by rw [← e]; exact hz))) (y2.mono (.refl _) fun z hz => upd_ne (fun e => dj D0 (by simp) (by rw [← e]; exact hz))) fun z hz => dj z (by simp [hz])) fun h => ?_) fun z hz => ?_) g6⟩
            · rcases List.mem_append.mp h with h | h
              · exact nn h
              · exact dj D0 (by simp) h
            · rcases List.mem_cons.mp hz with rfl | hz
              · exact .inl (by simp)
              · rcases List.mem_append.mp hz with h | h
                · exact .inl (by simp [h])
                · exact .inr ⟨T4.length, Nat.le_refl _, h⟩
        · rw [if_neg hl] at ha; cases ha
      | _ => cases ha
    · rw [if_neg hb] at g5; exact (no g5).elim
  | _ => exact (no g5z).elim
theorem im_bd {mk mv : Me} {Q : Hp → Prop} (h : tB K (.d κ) (bDic κ mk mv) D0 σ H Q) : tM K W0 mk σ H fun y H1 => tM K W0 mv σ H1 fun z H2 => ∃ u u', H2 D0 = some u ∧ AddH H2 y z u u' ∧ Q (upd H2 D0 u') := by
  obtain ⟨τ, G, n, F, roA, Γ, T, ts, acc, k, j, no, A, hT, R, hv, g, cc⟩ := h
  refine ⟨τ, G, n, F, roA acc, Γ, T, ts, noX, _, wiN no, R, g, fun Γ1 s1 T1 yk F1 H1 e1 R1 g1 => ⟨τ, G, n, F1, roA acc, Γ1, s1 :: T1, yk :: ts, noX, _, wiN no, R1, g1, fun Γ4 s4 T4 yv F4 H4 s5 R5 g5z => ?_⟩⟩
  cases s4 with
  | kd κ' e =>
    cases T4 with
    | nil => exact (no g5z).elim
    | cons s2 T4 =>
      cases s2 with
      | kd κk ek0 =>
        cases κk with
        | v =>
          have g5 : G (if κ'.eqb κ && T4.all isRo then bindO (putDn (!κ.isV) acc ek0 e) fun acc' => k acc' Γ4 else .no) := g5z
          clear g5z
          by_cases hb : (κ'.eqb κ && T4.all isRo) = true
          · rw [if_pos hb] at g5
            rw [Bool.and_eq_true] at hb
            have ek := Kd.eqb_eq hb.1
            subst ek
            have ht : T4 = T := ro_eq hT hb.2 (by have := R5.lt; have := R.lt; simp at *; omega)
            subst ht
            obtain ⟨acc', ha, g6⟩ := bindO_some no g5
            obtain ⟨ft, S, o1, fin⟩ := Rl.growX (C := [.kd κ' e, .kd .v ek0]) (cs := [yv, yk]) A rfl R5 hv
            have lt : T4.length = ts.length := R.lt
            have rk : Rp K F4 yk ek0 := R5.pop.topV
            have qe := S.en (.t (T4.length + 1))
            have ee1 : entOf (roA acc) Γ4 ([.kd κ' e, .kd .v ek0] ++ T4) (.t (T4.length + 1)) = .kd κ' e := tr_top _ (.kd .v ek0 :: T4) rfl
            rw [ee1] at qe
            obtain ⟨y', y1, y2⟩ := qe
            have v1 : valOf σ ([yv, yk] ++ ts) (.t (T4.length + 1)) = some yv := by rw [lt]; exact val_top (σ := σ) yv (yk :: ts)
            rw [v1] at y1
            cases y1
            have hj : j < T4.length := A.lt acc
            have dj := S.dj (.t j) (.t (T4.length + 1)) (by intro e; have := Ix.t.inj e; omega)
            generalize hA : ft (.t j) = AA at o1 fin dj
            have done : ∀ (A0 A' : List Addr) (u : HO), AA = D0 :: A0 → Ow K F4 (upd H4 D0 u) (.d κ') (.ref D0) acc' (D0 :: A') → (∀ z, z ∈ A' → z ∈ A0 ∨ z ∈ ft (.t (T4.length + 1))) → Q (upd H4 D0 u) := fun A0 A' u hA0 ho hs =>
              cc _ _ F4 _ (e1.trans s5) (fin u _ (D0 :: A') (by rw [hA0]; simp) ho fun z hz => by
                rcases List.mem_cons.mp hz with rfl | hz
                · exact .inl (by rw [hA0]; simp)
                · rcases hs _ hz with h | h
                  · exact .inl (by rw [hA0]; simp [h])
                  · exact .inr ⟨T4.length + 1, by omega, h⟩) g6
            cases o1 with
            | @dic _ a kvs es A0 hh qq t nn =>
              have ha : (if es.length < sizeLine then (keyD ek0).bind fun k => if (!κ'.isV) && (getK es k).isSome then none else some (D.dic (putD es k e)) else none) = some acc' := ha
              split at ha
              · rename_i hlen
                cases ei : keyD ek0 with
                | none => rw [ei] at ha; cases ha
                | some kk =>
                  rw [ei] at ha
                  have ha : (if (!κ'.isV) && (getK es kk).isSome then none else some (D.dic (putD es kk e))) = some acc' := ha
                  split at ha
                  · cases ha
                  · rename_i hn
                    cases ha
                    obtain ⟨p1, A', p2, p3⟩ := putDict (k := kk) qq (t.mono (.refl _) (H' := upd H4 D0 (.dK (putK kvs kk yv))) fun z hz => upd_ne (fun e => nn (by rw [← e]; exact hz))) (y2.mono (.refl _) fun z hz => upd_ne (fun e => dj D0 (by simp) (by rw [← e]; exact hz))) (fun z hz => dj z (by simp [hz])) (by simpa using hn)
                    refine ⟨.dK kvs, .dK (putK kvs kk yv), hh, ⟨kk, keyD_v (Rq.rp (H := H4) rk) ei, ?_, rfl⟩, done A0 A' _ rfl (.dic upd_same p1 p2 fun h => ?_) p3⟩
                    · have := congrArg List.length qq; simp at this; omega
                    · rcases p3 _ h with h | h
                      · exact nn h
                      · exact dj D0 (by simp) h
              · cases ha
            | @dit _ a kvs es A0 hh qq t nn =>
              have ha : (if es.length < sizeLine then (keyT ek0).bind fun k => if (!κ'.isV) && (getK es k).isSome then none else some (D.dit (putD es k e)) else none) = some acc' := ha
              split at ha
              · rename_i hlen
                cases ei : keyT ek0 with
                | none => rw [ei] at ha; cases ha
                | some kk =>
                  rw [ei] at ha
                  have ha : (if (!κ'.isV) && (getK es kk).isSome then none else some (D.dit (putD es kk e))) = some acc' := ha
                  split at ha
                  · cases ha
                  · rename_i hn
                    cases ha
                    obtain ⟨b, eb, hb'⟩ := keyT_v R5.sub (Rq.rp (H := H4) rk) ei
                    obtain ⟨p1, A', p2, p3⟩ := putDict (k := kk) qq (t.mono (.refl _) (H' := upd H4 D0 (.dT (putK kvs kk yv))) fun z hz => upd_ne (fun e => nn (by rw [← e]; exact hz))) (y2.mono (.refl _) fun z hz => upd_ne (fun e => dj D0 (by simp) (by rw [← e]; exact hz))) (fun z hz => dj z (by simp [hz])) (by simpa using hn)
                    refine ⟨.dT kvs, .dT (putK kvs kk yv), hh, ⟨kk, b, eb, hb', ?_, rfl⟩, done A0 A' _ rfl (.dit upd_same p1 p2 fun h => ?_) p3⟩
                    · have := congrArg List.length qq; simp at this; omega
                    · rcases p3 _ h with h | h
                      · exact nn h
                      · exact dj D0 (by simp) h
              · cases ha
          · rw [if_neg hb] at g5; exact (no g5).elim
        | _ => exact (no g5z).elim
      | _ => exact (no g5z).elim
  | _ => exact (no g5z).elim
end
end Fx

/-! G: comprehensions: the walks, the rules. -/
namespace Fx
open PySem PySem.Spec PyProof.Rows L2
section
variable {K : PySem.W.Frag} {W : WX} {n : Ent} {F F1 H H0 H1 : Hp} {ro : Ro} {Γ Γ1 Γ' T : Gm} {σ : L2.St} {ts : List V} {τ : Type} {G : O τ → Prop} {X : Cx} {pos : Pos} {κ kA : Kd} {d e acc e0 : D} {v x y : V} {m : List Bm} {roA roF : D → Ro} {TF : D → Gm} {j : Nat} {D0 : Addr} {g : Mg} {q : Mq} {B : Mc} {S vs : List Nat}
theorem inB_s {a b : Ro} (h : a.s = b.s) (s : St (cnt m)) : inB m a Γ s = inB m b Γ s := by unfold inB; rw [resG_s h]
theorem outB_s {a b : Ro} (h : a.s = b.s) (s : St (cnt m)) : outB m a Γ s = outB m b Γ s := by unfold outB; rw [resG_s h]
theorem resT_all {p : Sl → Bool} : ∀ {T : Gm}, (resT ro T).all p = true ↔ ∀ i, i < T.length → p (tr ro T i) = true
  | [] => by simp [resT]
  | s :: T => by
    show (p (rest' ro T.length s) && (resT ro T).all p) = true ↔ _
    rw [Bool.and_eq_true, resT_all (T := T)]
    have e0 : tr ro (s :: T) T.length = rest' ro T.length s := by unfold tr; rw [tb_cons, if_pos rfl]
    have e1 : ∀ i, i < T.length → tr ro (s :: T) i = tr ro T i := fun i hi => by unfold tr; rw [tb_cons, if_neg (by omega)]
    constructor
    · rintro ⟨h1, h2⟩ i hi
      by_cases h : i = T.length
      · rw [h, e0]; exact h1
      · have hi' : i < T.length := by simp at hi; omega
        rw [e1 i hi']; exact h2 i hi'
    · intro h
      refine ⟨?_, fun i hi => ?_⟩
      · rw [← e0]; exact h _ (by simp)
      · rw [← e1 i hi]; exact h i (by simp; omega)
theorem okD_at (A : AccAt roF TF j kA) (h : okD m (roF e) Γ (TF e) = true) (a : D) : okD m (roF a) Γ (TF a) = true := by
  unfold okD at h ⊢
  rw [Bool.and_eq_true] at h ⊢
  refine ⟨by rw [resG_s (A.s a e)]; exact h.1, resT_all.mpr fun i hi => ?_⟩
  by_cases hj : i = j
  · subst hj; rw [A.at_]; rfl
  · rw [A.off a e i hj]
    exact resT_all.mp h.2 i (by rw [A.len e a]; exact hi)
theorem wipeC (A : AccAt roF TF j kA) (okA : ∀ a, okD m (roF a) Γ1 (TF a) = true) {l0 : List D} {e0 : D} (q1 : extG m (resG (roF e0) 0 Γ1) (entG m (resG (roF e0) 0 Γ1)) = some l0) (dd : ∀ i, i ∈ vs → (mkB m i).isDd = true) {F' : Hp} {Γ' : Gm} {σ2 : L2.St} {acc : D} {H' : Hp} {l : List D} (x1 : extG m (resG (roF acc) 0 Γ1) Γ' = some l) (x2 : ofSt (cnt m) (toSt (cnt m) l) = l) (x3 : L2.wipe σ2 vs = L2.wipe σ vs)
    (R' : Rl K n F' (roB (roF acc) Γ1 (TF acc)) Γ' (hidT (TF acc)) σ2 ts H') : Rl K n F' (roB (roF acc) Γ1 (TF acc)) (inB m (roF acc) Γ1 (toSt (cnt m) l)) (hidT (TF acc)) (L2.wipe σ vs) ts H' := by
  have R2 := Rl.againT (okA acc) x1 R'
  rw [← x3]
  unfold inB
  rw [x2]
  refine R2.sig (by rw [wipe_length]) fun i hi => ?_
  by_cases hv : i ∈ vs
  · have q1' : extG m (resG (roF acc) 0 Γ1) (entG m (resG (roF acc) 0 Γ1)) = some l0 := by rw [resG_s (A.s acc e0)]; exact q1
    have z := gr_inB (ro := roF acc) (T := TF acc) (s := toSt (cnt m) l) q1' (dd i hv)
    unfold inB at z
    rw [x2] at z
    exact (hi z).elim
  · exact wipe_out hv
theorem lp_core {C : O (St (cnt m)) → O τ} (noC : ¬ G (C .no)) (A : AccAt roF TF j kA) (okA : ∀ a, okD m (roF a) Γ1 (TF a) = true) {l0 : List D} (q1 : extG m (resG (roF e0) 0 Γ1) (entG m (resG (roF e0) 0 Γ1)) = some l0) (dd : ∀ i, i ∈ vs → (mkB m i).isDd = true) (hS : ∀ i, i ∈ S → i ∈ vs)
    {ds : List D} {J : It} {s0 : St (cnt m)} {Fin : Hp → Prop} (wk : Walk K J F1 ds) (start : Rl K n F1 (roB (roF e0) Γ1 (TF e0)) (inB m (roF e0) Γ1 s0) (hidT (TF e0)) (L2.wipe σ vs) ts H0) (hv : valOf σ ts (.t j) = some (.ref D0)) (gg' : G (C (cmpA (turnC m roF TF Γ1 g q B) ds e0 s0)))
    (fin : ∀ acc s F' H', Same F1 F' → Rl K n F' (roB (roF acc) Γ1 (TF acc)) (inB m (roF acc) Γ1 s) (hidT (TF acc)) (L2.wipe σ vs) ts H' → G (C (.rt acc s)) → Fin H') :
    ∃ W : Nat → Nat → Hp → Prop, (∃ mm, W 0 mm H0) ∧ ∀ i mm H, W i mm H → (J.stop i H ∧ Fin H) ∨ (J.go i H ∧ ∃ Nx : Hp → Prop, (∀ H', Nx H' → ∃ m', m' < mm ∧ W (i + 1) m' H') ∧ ∀ x H', J.yld i H x H' →
      tC K S g x (L2.wipe σ vs) H' fun σ2 H2 => L2.wipe σ2 vs = L2.wipe σ vs ∧ tQ K W0 q σ2 H2 fun b H3 => if b = true then tB K kA B D0 σ2 H3 Nx else Nx H3) := by
  refine ⟨fun i mm Hc => ∃ F' acc s, Same F1 F' ∧ Rl K n F' (roB (roF acc) Γ1 (TF acc)) (inB m (roF acc) Γ1 s) (hidT (TF acc)) (L2.wipe σ vs) ts Hc ∧ G (C (cmpA (turnC m roF TF Γ1 g q B) (ds.drop i) acc s)) ∧ i + mm = ds.length,
    ⟨ds.length, F1, e0, s0, .refl _, start, gg', by omega⟩, ?_⟩
  intro i mm Hc ⟨F', acc, s, sF, R', hl, hm⟩
  obtain ⟨w2, w3⟩ := wk i F' Hc sF R'.sub
  by_cases hi : i < ds.length
  · obtain ⟨g1', g2'⟩ := w2 ds[i] (List.getElem?_eq_getElem hi)
    refine .inr ⟨g1', fun H2 => ∃ F' acc s, Same F1 F' ∧ Rl K n F' (roB (roF acc) Γ1 (TF acc)) (inB m (roF acc) Γ1 s) (hidT (TF acc)) (L2.wipe σ vs) ts H2 ∧ G (C (cmpA (turnC m roF TF Γ1 g q B) (ds.drop (i + 1)) acc s)), fun H2 ⟨F', acc, s, a1, a2, a3⟩ => ⟨mm - 1, by omega, F', acc, s, a1, a2, a3, by omega⟩, fun x H2 y => ?_⟩
    obtain ⟨F2, gr2, rp⟩ := g2' x H2 y
    have R2 := R'.grow gr2
    rw [List.drop_eq_getElem_cons hi] at hl
    let C2 : O (St (cnt m)) → O τ := fun o => C (o.val (fun acc' s' => cmpA (turnC m roF TF Γ1 g q B) (ds.drop (i + 1)) acc' s') fun _ _ => .no)
    have hl : G (C2 (turnC m roF TF Γ1 g q B acc ds[i] s)) := hl
    have noC2 : ¬ G (C2 .no) := noC
    refine ⟨St (cnt m), fun o => G (C2 o), n, F2, roB (roF acc) Γ1 (TF acc), inB m (roF acc) Γ1 s, hidT (TF acc), ts, ds[i], _, noC2, R2, fun jj hj z hz => ?_, rp, hl, fun Γ2 σ2 ag R3 g3 => ?_⟩
    · rw [tr_hid] at hz
      cases e : tr (roF acc) (TF acc) z with
      | al j' p o =>
        rw [e] at hz
        cases hz
        have := okD_t (okA acc) e
        rw [dd jj (hS jj hj)] at this
        cases this
      | _ => rw [e] at hz; exact hz
    · have hw : L2.wipe σ2 vs = L2.wipe σ vs := (agr_wipeS ag hS).trans (wipe_wipeS σ vs)
      refine ⟨hw, St (cnt m), fun o => G (C2 o), n, F2, roB (roF acc) Γ1 (TF acc), Γ2, hidT (TF acc), ts, noX, _, wiN noC2, R3, g3, fun b Γ3 T3 F3 H3 s3 R4 g4z => ?_⟩
      have g4 : G (C2 (if T3.all isRo then (if b then B (St (cnt m)) (fun a => roB (roF a) Γ1 (TF a)) Γ3 (hidT (TF acc)) acc fun acc' Γ4 => endB m (roF acc') Γ1 Γ4 fun s => .rt acc' s else endB m (roF acc) Γ1 Γ3 fun s => .rt acc s) else .no)) := g4z
      clear g4z
      by_cases hr : T3.all isRo = true
      · rw [if_pos hr] at g4
        have ht : T3 = hidT (TF acc) := ro_eq (hid_ro _) hr (by have h1 := R4.lt; have h2 := R3.lt; omega)
        subst ht
        cases b with
        | false =>
          refine iteF ?_
          obtain ⟨l, x1, x2, g5⟩ := endB_some (G := fun o => G (C2 o)) noC2 g4
          exact ⟨F3, acc, _, sF.trans (gr2.fz.trans s3), wipeC A okA q1 dd x1 x2 hw R4, g5⟩
        | true =>
          refine iteT ⟨St (cnt m), fun o => G (C2 o), n, F3, fun a => roB (roF a) Γ1 (TF a), Γ3, hidT (TF acc), ts, acc, _, j, noC2, A.blk Γ1 acc, hid_ro _, R4, hv, g4, fun acc' Γ4 F4 H4 s5 R5 g5 => ?_⟩
          obtain ⟨l, x1, x2, g6⟩ := endB_some (G := fun o => G (C2 o)) noC2 g5
          rw [hid_eq (A.len acc acc')] at R5
          exact ⟨F4, acc', _, sF.trans (gr2.fz.trans (s3.trans s5)), wipeC A okA q1 dd x1 x2 hw R5, g6⟩
      · rw [if_neg hr] at g4; exact (noC2 g4).elim
  · left
    refine ⟨w3 (by omega), ?_⟩
    rw [List.drop_eq_nil_of_le (by omega)] at hl
    exact fin acc s F' Hc sF R' hl
/-- out of a clause's block, the names as they were -/
theorem leaveC (A : AccAt roF TF j kA) (okA : ∀ a, okD m (roF a) Γ1 (TF a) = true) {l0 : List D} (q1 : extG m (resG (roF e0) 0 Γ1) (entG m (resG (roF e0) 0 Γ1)) = some l0) (dd : ∀ i, i ∈ vs → (mkB m i).isDd = true) {s : St (cnt m)}
    (R' : Rl K n F1 (roB (roF acc) Γ1 (TF acc)) (inB m (roF acc) Γ1 s) (hidT (TF acc)) (L2.wipe σ vs) ts H1) : Rl K n F1 (roF acc) (outB m (roF acc) Γ1 s) (TF acc) σ ts H1 := by
  have q1' : extG m (resG (roF acc) 0 Γ1) (entG m (resG (roF acc) 0 Γ1)) = some l0 := by rw [resG_s (A.s acc e0)]; exact q1
  have Rs : Rl K n F1 (roB (roF acc) Γ1 (TF acc)) (inB m (roF acc) Γ1 s) (hidT (TF acc)) σ ts H1 := R'.sig (by rw [wipe_length]) fun i hi => by
    by_cases hv : i ∈ vs
    · exact (hi (gr_inB (ro := roF acc) (T := TF acc) q1' (dd i hv))).elim
    · exact (wipe_out hv).symm
  exact Rl.leave (T := TF acc) (by have := R'.lt; rw [hidT_len] at this; exact this) (okA acc) (ext_in (ofSt_len _ s) q1') Rs
theorem im_in {mi : Mi} (hS : ∀ i, i ∈ S → i ∈ vs) {Q : Hp → Prop} (h : tB K kA (bFor m vs mi g q B) D0 σ H Q) : tIn (tI K W0 mi) (tC K S g) (tQ K W0 q) (tB K kA B) vs D0 σ H Q := by
  obtain ⟨τ, G, n, F, roA, Γ, T, ts, acc, k, j, no, A, hT, R, hv, g0, cc⟩ := h
  refine ⟨τ, G, n, F, roA acc, Γ, T, ts, noX, _, wiN no, R, g0, fun ds Γ1 T1 J F1 H1 e1 R1 wk g1 => ?_⟩
  split at g1
  · rename_i hok
    rw [Bool.and_eq_true, Bool.and_eq_true] at hok
    obtain ⟨⟨ok, hdd⟩, hr⟩ := hok
    have ht : T1 = T := ro_eq hT hr (by have h1 := R1.lt; have h2 := R.lt; omega)
    subst ht
    have dd : ∀ i, i ∈ vs → (mkB m i).isDd = true := fun i hi => List.all_eq_true.mp hdd i hi
    have okA : ∀ a, okD m (roA a) Γ1 T1 = true := fun a => okD_at (TF := fun _ => T1) A ok a
    let CC : O (St (cnt m)) → O τ := fun o => o.val (fun acc' s => k acc' (outB m (roA acc') Γ1 s)) (fun _ _ => .no)
    have noC : ¬ G (CC .no) := no
    obtain ⟨l0, q1, q2, g2⟩ := endB_some (G := fun o => G (CC o)) noC g1
    exact lp_core (TF := fun _ => T1) (C := CC) noC A okA q1 dd hS wk (wipeC (TF := fun _ => T1) A okA q1 dd q1 q2 rfl (R1.enter ok)) hv g2 fun acc' s F' H' sF R' g' => cc acc' _ F' H' (e1.trans sF) (leaveC (TF := fun _ => T1) A okA q1 dd R') g'
  · exact (no g1).elim
theorem im_gc {mi : Mi} {u0 : HO} (hS : ∀ i, i ∈ S → i ∈ vs) (hnew : ∀ (D : Addr) (F H : Hp), Ow K F (upd H D u0) kA (.ref D) e0 [D]) : ∀ σ H Q, tM K W (mGc m vs kA e0 mi g q B) σ H Q → tGc u0 (tI K W mi) (tC K S g) (tQ K W0 q) (tB K kA B) vs σ H Q := fun σ H Q ⟨τ, G, n, F, ro, Γ, T, ts, ex, k, w, R, g0, c⟩ =>
  ⟨τ, G, n, F, ro, Γ, T, ts, ex, _, w, R, g0, fun ds Γ1 T1 J F1 H1 e1 R1 wk g1 => by
    split at g1
    · rename_i hok
      rw [Bool.and_eq_true] at hok
      obtain ⟨ok, hdd⟩ := hok
      have dd : ∀ i, i ∈ vs → (mkB m i).isDd = true := fun i hi => List.all_eq_true.mp hdd i hi
      intro D0 hD
      let TF : D → Gm := fun a => .kd kA a :: T1
      have lt1 : T1.length = ts.length := R1.lt
      have A : AccAt (fun _ => ro) TF T1.length kA := ⟨fun _ _ => rfl, fun _ => by simp [TF], fun _ _ => rfl, fun a => tr_top _ _ rfl, fun a b i hi => by
        by_cases h : i < T1.length
        · exact (tr_low h).trans (tr_low h).symm
        · have z : ∀ a, tr ro (TF a) i = .un := fun a => by
            unfold tr tb
            rw [if_neg (by simp [TF]; omega)]; rfl
          rw [z, z]⟩
      have ok0 : okD m ro Γ1 (TF e0) = true := by
        unfold okD at ok ⊢
        rw [Bool.and_eq_true] at ok ⊢
        refine ⟨ok.1, ?_⟩
        show (okS m (.kd kA e0) && (resT ro T1).all (okS m)) = true
        rw [ok.2]; rfl
      have okA : ∀ a, okD m ro Γ1 (TF a) = true := fun a => okD_at (roF := fun _ => ro) (TF := TF) A ok0 a
      let CC : O (St (cnt m)) → O τ := fun o => o.val (fun d s => k (outB m ro Γ1 s) (.kd kA d :: T1)) (fun _ _ => .no)
      have noC : ¬ G (CC .no) := w.no
      obtain ⟨l0, q1, q2, g2⟩ := endB_some (G := fun o => G (CC o)) noC g1
      have fD : F1 D0 = none := R1.sub.free hD
      have gr1 : Grow F1 H1 F1 (upd H1 D0 u0) := Grow.beside R1.sub hD
      have R2 : Rl K n F1 ro Γ1 (TF e0) σ (.ref D0 :: ts) (upd H1 D0 u0) := R1.pushN (k := kA) (d := e0) (A := [D0]) gr1 (hnew D0 F1 H1) (fun a ha => by simp at ha; subst ha; exact hD) fun a ha => by simp at ha; subst ha; exact fD
      exact lp_core (roF := fun _ => ro) (TF := TF) (C := CC) noC A okA q1 dd hS wk (wipeC (roF := fun _ => ro) (TF := TF) (e0 := e0) A okA q1 dd q1 q2 rfl (R2.enter (okA e0))) (by rw [lt1]; exact val_top (σ := σ) (.ref D0) ts) g2 fun acc' s F' H' sF R' g' => c _ _ T1 _ F' H' (e1.trans sF) (leaveC (roF := fun _ => ro) (TF := TF) (e0 := e0) A okA q1 dd R') g'
    · exact (w.no g1).elim⟩
theorem new_lO (κ : Kd) : ∀ (D : Addr) (F H : Hp), Ow K F (upd H D (.lst [])) (.l κ) (.ref D) (.lst []) [D] := fun D F H => .lst upd_same .nil (by simp)
theorem new_dkO (κ : Kd) : ∀ (D : Addr) (F H : Hp), Ow K F (upd H D (.dK [])) (.d κ) (.ref D) (.dic []) [D] := fun D F H => .dic upd_same rfl .nil (by simp)
theorem new_dtO (κ : Kd) : ∀ (D : Addr) (F H : Hp), Ow K F (upd H D (.dT [])) (.d κ) (.ref D) (.dit []) [D] := fun D F H => .dit upd_same rfl .nil (by simp)
end
/-! ### the bodies' rules -/
/-- in a block of the def X -/
abbrev inBlk (X : Cx) (scope : Scope) (P : Cx → Prop) : Prop := AllB X scope P
section
variable {X : Cx} {W : WX} {scope : Scope} {elt kx vx : Expr} {me mk mv : Me} {κ kA : Kd} {vs : List Nat}
theorem gb_lst (he : AllB X scope fun Y => PE Y elt (tM X.K W0 me)) : AllB X scope fun Y => PB Y vs (actL elt) (tB X.K (.l κ) (bLst κ me)) := fun s H C cl fp => (pb_l (X := X.blk s H scope (compEnvC scope cl C X.env) fp) (he s H C cl fp) rfl).imp fun D σ H Q h => im_bl h
theorem gb_dic (hu : X.A.units + 1 < cLine) (hk : AllB X scope fun Y => PE Y kx (tM X.K W0 mk)) (hv : AllB X scope fun Y => PE Y vx (tM X.K W0 mv)) : AllB X scope fun Y => PB Y vs (actD kx vx) (tB X.K (.d κ) (bDic κ mk mv)) := fun s H C cl fp => (pb_d (X := X.blk s H scope (compEnvC scope cl C X.env) fp) hu (hk s H C cl fp) (hv s H C cl fp) rfl).imp fun D σ H Q h => im_bd h
theorem gb_in {ce t1 i1 : Expr} {ifs1 : List Expr} {body : BdK} {mi : Mi} {g : Mg} {q : Mq} {B : Mc} (m : List Bm) (S vs1 : List Nat) (hc : X.calm = true) (ht : TurnIs ce 1 t1 i1 ifs1 body) (hst : Start1 ce) (hd : DenIs ce 1) (hq : ∀ it acc env, (Code.compLoop ce 1 it acc env).quiet = true)
    (hi : AllB X scope fun Y => PI Y t1 i1 (tI X.K W0 mi)) (hg : AllB X scope fun Y => PG Y t1 (tC X.K S g)) (htt : AllB X scope fun Y => PTs Y ifs1 (tQ X.K W0 q)) (hb : AllB X scope fun Y => PB Y vs1 body (tB X.K kA B)) (hS : ∀ i, i ∈ S → i ∈ vs1 := by decide) (hv : ∀ i, i ∈ vs1 → i ∈ vs := by decide) (hs : ∀ env x, foldedSetIterable i1 env x = pure x := by intro _ _; rfl) :
    AllB X scope fun Y => PB Y vs (inner ce i1) (tB X.K kA (bFor m vs1 mi g q B)) := fun s H C cl fp =>
  (pb_in (X := X.blk s H scope (compEnvC scope cl C X.env) fp) (vs1 := vs1) rfl hc ht hst hd hq hv (hi s H C cl fp) (hg s H C cl fp) (htt s H C cl fp) (hb s H C cl fp) hs).imp fun D σ H Q h => im_in hS h
end
/-! ### as a value; set -/
section
variable {X : Cx} {W : WX} {ce tg iter : Expr} {ifs : List Expr} {gs : List Comprehension} {scope : Scope} {own : List (Str × Nat)} {pos' : Pos} {body : BdK} {newAcc : Sem Value} {ob : Obj} {u0 : HO} {kA : Kd} {e0 : D} {mi : Mi} {g : Mg} {q : Mq} {B : Mc}
/-- what kind of comprehension -/
structure CompIs (X : Cx) (ce : Expr) (scope : Scope) (tg iter : Expr) (ifs : List Expr) (body : BdK) (u0 : HO) : Prop where
  ex : ∃ (gs : List Comprehension) (pos' : Pos) (newAcc : Sem Value) (ob : Obj), eval ce X.env = comprehension ce scope X.env pos' newAcc false (eval iter X.env) ∧ (∀ use, evalThenUse ce X.env use = (do let _ ← comprehension ce scope X.env pos' newAcc false (eval iter X.env) (some use))) ∧
    clausesOf ce = ⟨tg, iter, ifs, 0⟩ :: gs ∧ NewIs newAcc ob u0 ∧ TurnIs ce 0 tg iter ifs body ∧ Start0 ce ∧ DenIs ce 0 ∧ ∀ it acc env, (Code.compLoop ce 0 it acc env).quiet = true
theorem gx_gc (m : List Bm) (kA : Kd) (e0 : D) (S : List Nat) (ci : CompIs X ce scope tg iter ifs body u0) (hnew : ∀ (D : Addr) (F H : Hp), Ow X.K F (upd H D u0) kA (.ref D) e0 [D]) (hc : X.calm = true) (hN : X.N.Nodup) (hi : PI X tg iter (tI X.K W mi)) (ok : BlkOk X.N X.env.scope scope own)
    (hg : AllB X scope fun Y => PG Y tg (tC X.K S g)) (ht : AllB X scope fun Y => PTs Y ifs (tQ X.K W0 q)) (hb : AllB X scope fun Y => PB Y (own.map (·.2)) body (tB X.K kA B)) (hS : ∀ i, i ∈ S → i ∈ own.map (·.2) := by decide) (hs : ∀ x, foldedSetIterable iter X.env x = pure x := by intro _; rfl) :
    PE X ce (tM X.K W (mGc m (own.map (·.2)) kA e0 mi g q B)) := by
  obtain ⟨gs, pos', newAcc, ob, h1, h2, h3, h4, h5, h6, h7, h8⟩ := ci.ex
  exact pe_imp (pe_gc h1 h3 h4 h5 h6 h7 h8 hc hN hi ok hg ht hb hs) (im_gc hS hnew)
theorem sx_setGc (m : List Bm) (kA : Kd) (e0 : D) (S : List Nat) {i : Nat} {y : Str} {py spos : Pos} (ci : CompIs X ce scope tg iter ifs body u0) (hnew : ∀ (D : Addr) (F H : Hp), Ow X.K F (upd H D u0) kA (.ref D) e0 [D]) (hc : X.calm = true) (hN : X.N.Nodup) (hy : X.N[i]? = some y) (hyl : X.env.scope.names.lookup y = some .local)
    (hsw : swapsWith ce (some (.Name y py)) spos.line X.env = pure true) (hi : PI X tg iter (tI X.K W mi)) (ok : BlkOk X.N X.env.scope scope own)
    (hg : AllB X scope fun Y => PG Y tg (tC X.K S g)) (ht : AllB X scope fun Y => PTs Y ifs (tQ X.K W0 q)) (hb : AllB X scope fun Y => PB Y (own.map (·.2)) body (tB X.K kA B)) (hS : ∀ i, i ∈ S → i ∈ own.map (·.2) := by decide) (hs : ∀ x, foldedSetIterable iter X.env x = pure x := by intro _; rfl) :
    PS X (.Assign [.Name y py] ce spos) (tS X.K W (mSet i (mGc m (own.map (·.2)) kA e0 mi g q B))) := by
  obtain ⟨gs, pos', newAcc, ob, h1, h2, h3, h4, h5, h6, h7, h8⟩ := ci.ex
  exact ps_imp (ps_setGc h2 h3 h4 h5 h6 h7 h8 hc hN hy hyl hsw hi ok hg ht hb hs) fun E σ H h => im_gc hS hnew σ H _ (im_setM E σ H h)
end
section
variable {X : Cx} {elt kx vx t0 i0 t1 i1 : Expr} {ifs0 ifs1 : List Expr} {scope : Scope} {pos : Pos}
theorem ci_l1 : CompIs X (.ListComp elt [⟨t0, i0, ifs0, 0⟩] scope pos) scope t0 i0 ifs0 (actL elt) (.lst []) := ⟨⟨_, _, _, _, rfl, fun _ => rfl, rfl, new_l, turn_l1, start0_l, den_l, fun _ _ _ => rfl⟩⟩
theorem ci_l2 : CompIs X (.ListComp elt [⟨t0, i0, ifs0, 0⟩, ⟨t1, i1, ifs1, 0⟩] scope pos) scope t0 i0 ifs0 (inner (.ListComp elt [⟨t0, i0, ifs0, 0⟩, ⟨t1, i1, ifs1, 0⟩] scope pos) i1) (.lst []) := ⟨⟨_, _, _, _, rfl, fun _ => rfl, rfl, new_l, turn_l20, start0_l, den_l, fun _ _ _ => rfl⟩⟩
theorem ci_d1k : CompIs X (.DictComp kx vx [⟨t0, i0, ifs0, 0⟩] scope pos) scope t0 i0 ifs0 (actD kx vx) (.dK []) := ⟨⟨_, _, _, _, rfl, fun _ => rfl, rfl, new_dk, turn_d1, start0_d, den_d, fun _ _ _ => rfl⟩⟩
theorem ci_d1t : CompIs X (.DictComp kx vx [⟨t0, i0, ifs0, 0⟩] scope pos) scope t0 i0 ifs0 (actD kx vx) (.dT []) := ⟨⟨_, _, _, _, rfl, fun _ => rfl, rfl, new_dt, turn_d1, start0_d, den_d, fun _ _ _ => rfl⟩⟩
theorem ci_d2k : CompIs X (.DictComp kx vx [⟨t0, i0, ifs0, 0⟩, ⟨t1, i1, ifs1, 0⟩] scope pos) scope t0 i0 ifs0 (inner (.DictComp kx vx [⟨t0, i0, ifs0, 0⟩, ⟨t1, i1, ifs1, 0⟩] scope pos) i1) (.dK []) := ⟨⟨_, _, _, _, rfl, fun _ => rfl, rfl, new_dk, turn_d20, start0_d, den_d, fun _ _ _ => rfl⟩⟩
theorem ci_d2t : CompIs X (.DictComp kx vx [⟨t0, i0, ifs0, 0⟩, ⟨t1, i1, ifs1, 0⟩] scope pos) scope t0 i0 ifs0 (inner (.DictComp kx vx [⟨t0, i0, ifs0, 0⟩, ⟨t1, i1, ifs1, 0⟩] scope pos) i1) (.dT []) := ⟨⟨_, _, _, _, rfl, fun _ => rfl, rfl, new_dt, turn_d20, start0_d, den_d, fun _ _ _ => rfl⟩⟩
theorem sw_of {ce : Expr} {py : Pos} {y : Str} {l : Nat} {scope : Scope} (hk : X.env.scope.kind = .function) (hy : X.env.scope.names.lookup y = some .local) (hce : (∃ elt cl pos, ce = .ListComp elt cl scope pos ∧ (py.line == pos.line) = true) ∨ ∃ kx vx cl pos, ce = .DictComp kx vx cl scope pos ∧ (py.line == pos.line) = true)
    (ha : (scope.names.any fun (n, k) => n == y && (k == .local || k == .cell)) = false) : swapsWith ce (some (.Name y py)) l X.env = pure true := by
  have ky : X.env.kindOf y = some .local := hy
  have hb : X.env.blockKind = .function := by unfold Env.blockKind; rw [hk]; rfl
  rcases hce with ⟨elt, cl, pos, rfl, hl⟩ | ⟨kx, vx, cl, pos, rfl, hl⟩
  · unfold swapsWith
    simp only [hb, ky, ha, Expr.pos, hl]
    rfl
  · unfold swapsWith
    simp only [hb, ky, ha, Expr.pos, hl]
    rfl
end
end Fx

/-! G: new dicts, walks over dicts that stay. -/
namespace Fx
open PySem PySem.Spec PyProof.Rows L2
/-- {} -/
def mDnew (κ : Kd) (b : Bool) : Me := fun τ ro Γ T ex k => k Γ (.kd (.d κ) (if b then .dit [] else .dic []) :: T)
def itK : D → Option (List D)
  | .dic es => some (es.map fun e => kD e.1)
  | .dit es => some (es.map fun e => ktD e.1)
  | _ => none
def itVs : D → Option (List D)
  | .dic es => some (es.map (·.2))
  | _ => none
def itIs : D → Option (List D)
  | .dic es => some (es.map fun e => .tup [kD e.1, e.2])
  | _ => none
section
variable {X : Cx} {K : PySem.W.Frag} {W : WX} {n : Ent} {F F1 H H1 : Hp} {ro : Ro} {Γ T : Gm} {σ : L2.St} {ts : List V} {τ : Type} {G : O τ → Prop} {pos : Pos} {e tg : Expr} {me : Me} {v : V} {d : D} {κ : Kd}
theorem im_dnewK : ∀ σ H Q, tM K W (mDnew κ false) σ H Q → tDNewK σ H Q := fun σ H Q ⟨τ, G, n, F, ro, Γ, T, ts, ex, k, w, R, g, c⟩ p hp => by
  have gr1 : Grow F H F (upd H p (.dK [])) := Grow.beside R.sub hp
  exact c Γ _ T (.ref p) F _ (.refl _) (R.pushN (k := .d κ) (d := .dic []) (A := [p]) gr1 (.dic upd_same rfl .nil (by simp)) (fun a ha => by simp at ha; subst ha; exact hp) fun a ha => by simp at ha; subst ha; exact R.sub.free hp) g
theorem im_dnewT : ∀ σ H Q, tM K W (mDnew κ true) σ H Q → tDNewT σ H Q := fun σ H Q ⟨τ, G, n, F, ro, Γ, T, ts, ex, k, w, R, g, c⟩ p hp => by
  have gr1 : Grow F H F (upd H p (.dT [])) := Grow.beside R.sub hp
  exact c Γ _ T (.ref p) F _ (.refl _) (R.pushN (k := .d κ) (d := .dit []) (A := [p]) gr1 (.dit upd_same rfl .nil (by simp)) (fun a ha => by simp at ha; subst ha; exact hp) fun a ha => by simp at ha; subst ha; exact R.sub.free hp) g
theorem gx_dnewK (κ : Kd) : PE X (.Dict [] [] pos) (tM X.K W (mDnew κ false)) := pe_imp pe_dnewK im_dnewK
theorem gx_dnewT (κ : Kd) : PE X (.Dict [] [] pos) (tM X.K W (mDnew κ true)) := pe_imp pe_dnewT im_dnewT
theorem kv_rp : ∀ k : Key, Rp K F (kV k) (kD k)
  | .inl i => .int i
  | .inr x => .str x
theorem kvs_rp : ∀ ks : List Key, RpL K F (ks.map kV) (ks.map kD)
  | [] => .nil
  | k :: r => .cons (kv_rp k) (kvs_rp r)
theorem rpK_at {κ : Type} : ∀ {kvs : List (κ × V)} {es : List (κ × D)} {i : Nat} {k : κ} {v : V}, RpK K F kvs es → kvs[i]? = some (k, v) → ∃ d, es[i]? = some (k, d) ∧ Rp K F v d
  | _, _, _, _, _, .nil, h => by cases h
  | _, _, 0, _, _, .cons r t, h => by cases h; exact ⟨_, rfl, r⟩
  | _, _, i + 1, _, _, .cons r t, h => rpK_at (i := i) t h
/-- a tuple that is there comes to stay -/
theorem grow_tup (s : Lk F H) {q : Addr} {xs : List V} (h : H q = some (.tup xs)) : ∃ F2, Grow F H F2 H ∧ F2 q = some (.tup xs) := by
  have keep : ∀ o, F q = some o → o = .tup xs := fun o ho => by
    rcases s q o ho with z | ⟨_, ob, z⟩
    · rw [h] at z; cases z; rfl
    · rw [h] at z; cases z
  refine ⟨upd F q (.tup xs), ⟨fun b o e => ?_, .refl _, fun b o e => ?_, fun b o e => ?_, fun nd => nd.put rfl⟩, upd_same⟩
  · by_cases hb : b = q
    · subst hb; rw [upd_same, keep o e]
    · rw [upd_ne hb]; exact e
  · by_cases hb : b = q
    · subst hb; rw [upd_same] at e; cases e; exact .inl h
    · rw [upd_ne hb] at e; exact s b o e
  · by_cases hb : b = q
    · subst hb; rw [upd_same] at e; cases e; exact .inl (.inr ⟨xs, rfl⟩)
    · rw [upd_ne hb] at e; exact .inl (.inl ⟨o, e⟩)
theorem walk_K {a : Addr} {o : Obj} {kvs : List (Key × V)} {es : List (Key × D)} (h : F a = some (.frz o (.dK kvs))) (t : RpK K F kvs es) : Walk K (Itk a o kvs) F (es.map fun e => kD e.1) := fun i F1 H1 s1 s2 => by
  have hq := s2.at (s1 _ _ h) rfl
  have ln := t.len
  refine ⟨fun d hd => ?_, fun hl => ⟨hq, by rw [List.length_map] at hl; omega⟩⟩
  rw [List.getElem?_map] at hd
  cases e : es[i]? with
  | none => rw [e] at hd; cases hd
  | some z =>
    rw [e] at hd
    cases hd
    have hi : i < es.length := (List.getElem?_eq_some_iff.mp e).1
    refine ⟨⟨hq, by omega⟩, fun x H2 y => ?_⟩
    obtain ⟨rfl, k, v, e1, rfl⟩ := y
    obtain ⟨d', e2, _⟩ := rpK_at t e1
    rw [e] at e2
    cases e2
    exact ⟨F1, .refl s2, kv_rp _⟩
theorem walk_T {a : Addr} {o : Obj} {kvs : List (List Key × V)} {es : List (List Key × D)} (h : F a = some (.frz o (.dT kvs))) (t : RpK K F kvs es) : Walk K (Itkt a o kvs) F (es.map fun e => ktD e.1) := fun i F1 H1 s1 s2 => by
  have hq := s2.at (s1 _ _ h) rfl
  have ln := t.len
  refine ⟨fun d hd => ?_, fun hl => ⟨hq, by rw [List.length_map] at hl; omega⟩⟩
  rw [List.getElem?_map] at hd
  cases e : es[i]? with
  | none => rw [e] at hd; cases hd
  | some z =>
    rw [e] at hd
    cases hd
    have hi : i < es.length := (List.getElem?_eq_some_iff.mp e).1
    refine ⟨⟨hq, by omega⟩, fun x H2 y => ?_⟩
    obtain ⟨rfl, k, v, q, e1, rfl, hk⟩ := y
    obtain ⟨d', e2, _⟩ := rpK_at t e1
    rw [e] at e2
    cases e2
    obtain ⟨F2, g2, f2⟩ := grow_tup s2 hk
    exact ⟨F2, g2, .tup f2 (kvs_rp _)⟩
theorem walk_V {a : Addr} {o : Obj} {kvs : List (Key × V)} {es : List (Key × D)} (h : F a = some (.frz o (.dK kvs))) (t : RpK K F kvs es) : Walk K (Itd a o kvs) F (es.map (·.2)) := fun i F1 H1 s1 s2 => by
  have hq := s2.at (s1 _ _ h) rfl
  have ln := t.len
  refine ⟨fun d hd => ?_, fun hl => ⟨hq, by rw [List.length_map] at hl; omega⟩⟩
  rw [List.getElem?_map] at hd
  cases e : es[i]? with
  | none => rw [e] at hd; cases hd
  | some z =>
    rw [e] at hd
    cases hd
    have hi : i < es.length := (List.getElem?_eq_some_iff.mp e).1
    refine ⟨⟨hq, by omega⟩, fun x H2 y => ?_⟩
    obtain ⟨rfl, k, e1⟩ := y
    obtain ⟨d', e2, r2⟩ := rpK_at t e1
    rw [e] at e2
    cases e2
    exact ⟨F1, .refl s2, r2.mono s1⟩
theorem walk_I {a : Addr} {o : Obj} {kvs : List (Key × V)} {es : List (Key × D)} (h : F a = some (.frz o (.dK kvs))) (t : RpK K F kvs es) : Walk K (Iti a o kvs) F (es.map fun e => .tup [kD e.1, e.2]) := fun i F1 H1 s1 s2 => by
  have hq := s2.at (s1 _ _ h) rfl
  have ln := t.len
  refine ⟨fun d hd => ?_, fun hl => ⟨hq, by rw [List.length_map] at hl; omega⟩⟩
  rw [List.getElem?_map] at hd
  cases e : es[i]? with
  | none => rw [e] at hd; cases hd
  | some z =>
    rw [e] at hd
    cases hd
    have hi : i < es.length := (List.getElem?_eq_some_iff.mp e).1
    refine ⟨⟨hq, by omega⟩, fun x H2 y => ?_⟩
    obtain ⟨p, k, v, e1, rfl, hp, rfl⟩ := y
    obtain ⟨d', e2, r2⟩ := rpK_at t e1
    rw [e] at e2
    cases e2
    exact ⟨_, Grow.one s2 hp, .tup upd_same (.cons (kv_rp k) (.cons ((r2.mono s1).mono (same_new (same_none s2 hp))) .nil))⟩
theorem rp_dic (nd : NoDk F) (r : Rp K F v d) : (∀ es, d = .dic es → ∃ a o kvs, v = .ref a ∧ F a = some (.frz o (.dK kvs)) ∧ RpK K F kvs es) ∧ (∀ es, d = .dit es → ∃ a o kvs, v = .ref a ∧ F a = some (.frz o (.dT kvs)) ∧ RpK K F kvs es) := by
  refine ⟨fun es e => ?_, fun es e => ?_⟩
  · subst e
    cases r with
    | dicK h t =>
      rcases h with h | ⟨o, h⟩
      · have := nd _ _ h; cases this
      · exact ⟨_, o, _, rfl, h, t⟩
  · subst e
    cases r with
    | dicT h t =>
      rcases h with h | ⟨o, h⟩
      · have := nd _ _ h; cases this
      · exact ⟨_, o, _, rfl, h, t⟩
theorem gi_keys (h : PE X e (tM X.K W me)) : PI X tg e (tI X.K W (mIt itK me)) := pi_imp (pi_keys h) fun σ H R ⟨τ, G, n, F, ro, Γ, T, ts, ex, k, w, Rr, g, c⟩ =>
  ⟨τ, G, n, F, ro, Γ, T, ts, ex, _, w, Rr, g, fun Γ1 s T1 v F1 H1 e1 R1 g1 => by
    cases s with
    | kd κ d =>
      cases κ with
      | v =>
        obtain ⟨ds, hd, g2⟩ := bindL_some w.no g1
        have q := rp_dic R1.nd R1.topV
        cases d with
        | dic es =>
          cases hd
          obtain ⟨a, o, kvs, rfl, h1, h2⟩ := q.1 es rfl
          exact ⟨a, o, rfl, .inl ⟨kvs, R1.sub.at h1 rfl, c _ Γ1 T1 _ F1 H1 e1 R1.pop (walk_K h1 h2) g2⟩⟩
        | dit es =>
          cases hd
          obtain ⟨a, o, kvs, rfl, h1, h2⟩ := q.2 es rfl
          exact ⟨a, o, rfl, .inr ⟨kvs, R1.sub.at h1 rfl, c _ Γ1 T1 _ F1 H1 e1 R1.pop (walk_T h1 h2) g2⟩⟩
        | _ => cases hd
      | _ => exact (w.no g1).elim
    | _ => exact (w.no g1).elim⟩
theorem gi_vals {apos cpos : Pos} (h : PE X e (tM X.K W me)) (hbase : attributeBase e "values" X.env (eval e X.env) = eval e X.env := by rfl) (hline : (apos.endLine == cpos.line) = true := by rfl) : PI X tg (.Call (.Attribute e "values" apos) [] [] cpos) (tI X.K W (mIt itVs me)) := pi_imp (pi_values h hbase hline) fun σ H R ⟨τ, G, n, F, ro, Γ, T, ts, ex, k, w, Rr, g, c⟩ =>
  ⟨τ, G, n, F, ro, Γ, T, ts, ex, _, w, Rr, g, fun Γ1 s T1 v F1 H1 e1 R1 g1 => by
    cases s with
    | kd κ d =>
      cases κ with
      | v =>
        obtain ⟨ds, hd, g2⟩ := bindL_some w.no g1
        have q := rp_dic R1.nd R1.topV
        cases d with
        | dic es =>
          cases hd
          obtain ⟨a, o, kvs, rfl, h1, h2⟩ := q.1 es rfl
          exact ⟨a, o, kvs, rfl, R1.sub.at h1 rfl, c _ Γ1 T1 _ F1 H1 e1 R1.pop (walk_V h1 h2) g2⟩
        | _ => cases hd
      | _ => exact (w.no g1).elim
    | _ => exact (w.no g1).elim⟩
theorem gi_items {elts : List Expr} {kk : Nat} {tpos apos cpos : Pos} (h : PE X e (tM X.K W me)) (hbase : attributeBase e "items" X.env (eval e X.env) = eval e X.env := by rfl) (hline : (apos.endLine == cpos.line) = true := by rfl) : PI X (.Tuple elts kk tpos) (.Call (.Attribute e "items" apos) [] [] cpos) (tI X.K W (mIt itIs me)) := pi_imp (pi_items h hbase hline) fun σ H R ⟨τ, G, n, F, ro, Γ, T, ts, ex, k, w, Rr, g, c⟩ =>
  ⟨τ, G, n, F, ro, Γ, T, ts, ex, _, w, Rr, g, fun Γ1 s T1 v F1 H1 e1 R1 g1 => by
    cases s with
    | kd κ d =>
      cases κ with
      | v =>
        obtain ⟨ds, hd, g2⟩ := bindL_some w.no g1
        have q := rp_dic R1.nd R1.topV
        cases d with
        | dic es =>
          cases hd
          obtain ⟨a, o, kvs, rfl, h1, h2⟩ := q.1 es rfl
          exact ⟨a, o, kvs, rfl, R1.sub.at h1 rfl, c _ Γ1 T1 _ F1 H1 e1 R1.pop (walk_I h1 h2) g2⟩
        | _ => cases hd
      | _ => exact (w.no g1).elim
    | _ => exact (w.no g1).elim⟩
end
end Fx

/-! G: a, b = x, y. -/
namespace Fx
open PySem PySem.Spec PyProof.Rows L2
def mPar (i j : Nat) (mr : Me) : Ms := fun τ ro Γ ks => mr τ ro Γ [] ks.ex fun Γ1 T1 => match T1 with
  | .kd .v e :: .kd .v d :: _ => setE ro i (.kd .v d) Γ1 fun Γ2 => setE ro j (.kd .v e) Γ2 ks.nx
  | _ => .no
def mPar3 (i j l : Nat) (mr : Me) : Ms := fun τ ro Γ ks => mr τ ro Γ [] ks.ex fun Γ1 T1 => match T1 with
  | .kd .v c :: .kd .v e :: .kd .v d :: _ => setE ro i (.kd .v d) Γ1 fun Γ2 => setE ro j (.kd .v e) Γ2 fun Γ3 => setE ro l (.kd .v c) Γ3 ks.nx
  | _ => .no
section
variable {X : Cx} {W : WX} {i j l : Nat} {x y z : Str} {a b c : Expr} {mr : Me} {px py pz pt pos : Pos} {kt k2 : Nat} {pt2 : Pos}
theorem sx_par (hc : X.calm = true) (hN : X.N.Nodup) (hi : X.N[i]? = some x) (hj : X.N[j]? = some y) (hij : i ≠ j) (hx : X.env.scope.names.lookup x = some .local) (hy : X.env.scope.names.lookup y = some .local) (ha : PA X [a, b] (tA X.K W 2 mr))
    (hw : swappedStores [.Tuple [.Name x px, .Name y py] kt pt] (.Tuple [a, b] k2 pt2) X.env = pure (some [x, y]) := by rfl) (hs : swapsWithSole [.Tuple [.Name x px, .Name y py] kt pt] (.Tuple [a, b] k2 pt2) pos.line X.env = pure false := by rfl) :
    PS X (.Assign [.Tuple [.Name x px, .Name y py] kt pt] (.Tuple [a, b] k2 pt2) pos) (tS X.K W (mPar i j mr)) := ps_imp (ps_par hc hN hi hj hij hx hy ha hw hs) fun E σ H ⟨τ, G, n, F, ro, Γ, ks, w, R, g⟩ =>
  ⟨τ, G, n, F, ro, Γ, [], [], _, _, w.wi, R, g, fun Γ1 T1 vs F1 H1 e1 hl R1 g1 => by
    match vs, hl, R1 with
    | [v, u], _, R1 =>
      have R1 : Rl X.K n F1 ro Γ1 T1 σ [u, v] H1 := R1
      split at g1
      · rename_i e d T0
        have re := R1.topV
        have R2 := R1.pop
        have rd := R2.topV
        have R3 := R2.pop
        cases R3.tnil
        obtain ⟨R4, g4⟩ := setE_ok w.no (R3.push rd) g1
        obtain ⟨R5, g5⟩ := setE_ok w.no (R4.push re) g4
        exact ⟨v, u, rfl, w.nx _ _ F1 H1 e1 R5 g5⟩
      · exact (w.no g1).elim⟩
theorem sx_par3 (hc : X.calm = true) (hN : X.N.Nodup) (hi : X.N[i]? = some x) (hj : X.N[j]? = some y) (hl : X.N[l]? = some z) (hij : i ≠ j) (hil : i ≠ l) (hjl : j ≠ l) (hx : X.env.scope.names.lookup x = some .local) (hy : X.env.scope.names.lookup y = some .local) (hz : X.env.scope.names.lookup z = some .local) (ha : PA X [a, b, c] (tA X.K W 3 mr))
    (hw : swappedStores [.Tuple [.Name x px, .Name y py, .Name z pz] kt pt] (.Tuple [a, b, c] k2 pt2) X.env = pure (some [x, y, z]) := by rfl) (hs : swapsWithSole [.Tuple [.Name x px, .Name y py, .Name z pz] kt pt] (.Tuple [a, b, c] k2 pt2) pos.line X.env = pure false := by rfl) :
    PS X (.Assign [.Tuple [.Name x px, .Name y py, .Name z pz] kt pt] (.Tuple [a, b, c] k2 pt2) pos) (tS X.K W (mPar3 i j l mr)) := ps_imp (ps_par3 hc hN hi hj hl hij hil hjl hx hy hz ha hw hs) fun E σ H ⟨τ, G, n, F, ro, Γ, ks, w, R, g⟩ =>
  ⟨τ, G, n, F, ro, Γ, [], [], _, _, w.wi, R, g, fun Γ1 T1 vs F1 H1 e1 hl R1 g1 => by
    match vs, hl, R1 with
    | [v, u, t], _, R1 =>
      have R1 : Rl X.K n F1 ro Γ1 T1 σ [t, u, v] H1 := R1
      split at g1
      · rename_i c e d T0
        have rc := R1.topV
        have R2 := R1.pop
        have re := R2.topV
        have R3 := R2.pop
        have rd := R3.topV
        have R3' := R3.pop
        cases R3'.tnil
        obtain ⟨R4, g4⟩ := setE_ok w.no (R3'.push rd) g1
        obtain ⟨R5, g5⟩ := setE_ok w.no (R4.push re) g4
        obtain ⟨R6, g6⟩ := setE_ok w.no (R5.push rc) g5
        exact ⟨v, u, t, rfl, w.nx _ _ F1 H1 e1 R6 g6⟩
      · exact (w.no g1).elim⟩
end
end Fx

/-! G: [f, g, h][i](..). -/
namespace Fx
open PySem PySem.Spec PyProof.Rows L2
/-- one of the defs -/
structure PickX (X : Cx) (k : Nat) (pk : List Pk) (ρ : Kd) (x : Str) (mf : List D → O (St (nio pk))) : Prop where
  ex : ∃ (f : Addr) (fd : FuncData) (ps : List Str), FnG X.prog X.w X.K X.mg X.base k f fd ps (spF X.K pk ρ mf) ∧ Gl X x ∧ X.mg x = some (.ref f) ∧ PySem.W.keepIn X.K (.ref f) = true ∧ Binds X.K fd ps [] ∧ (x == ("__debug__" : Str)) = false
inductive PickAll (X : Cx) (k : Nat) (pk : List Pk) (ρ : Kd) : List Expr → List (List D → O (St (nio pk))) → Prop
  | nil : PickAll X k pk ρ [] []
  | cons {x : Str} {p : Pos} {es : List Expr} {mf : List D → O (St (nio pk))} {fs : List (List D → O (St (nio pk)))} : PickX X k pk ρ x mf → PickAll X k pk ρ es fs → PickAll X k pk ρ (.Name x p :: es) (mf :: fs)
def pickF {α : Type} (fs : List α) : D → Option α
  | .int i => atI fs i
  | _ => none
def bindP {α τ : Type} (o : Option α) (k : α → O τ) : O τ := match o with
  | some z => k z
  | none => .no
def mPick {pk : List Pk} (fs : List (List D → O (St (nio pk)))) (ρ : Kd) (mi mr : Me) : Me := fun τ ro Γ T ex k => mi τ ro Γ T ex fun Γ1 T1 => match T1 with
  | .kd .v d :: T0 => bindP (pickF fs d) fun mf => mCall pk ρ mf [] mr τ ro Γ1 T0 ex k
  | _ => .no
section
variable {X : Cx} {k : Nat} {pk : List Pk} {ρ : Kd} {nms : List Expr} {fs : List (List D → O (St (nio pk)))} {W : WX} {mi mr : Me} {N : Nat}
theorem PickAll.len (h : PickAll X k pk ρ nms fs) : nms.length = fs.length := by induction h <;> simp [*]
/-- what the list holds -/
def PickV (X : Cx) (k : Nat) (pk : List Pk) (ρ : Kd) (v : V) (mf : List D → O (St (nio pk))) : Prop := ∃ (f : Addr) (fd : FuncData) (ps : List Str), v = .ref f ∧ FnG X.prog X.w X.K X.mg X.base k f fd ps (spF X.K pk ρ mf) ∧ PySem.W.keepIn X.K (.ref f) = true ∧ Binds X.K fd ps []
theorem PickAll.pa (h : PickAll X k pk ρ nms fs) : ∃ vs : List V, vs.length = fs.length ∧ (∀ (j : Nat) (mf : List D → O (St (nio pk))), fs[j]? = some mf → ∃ v : V, vs[j]? = some v ∧ PickV X k pk ρ v mf) ∧ PA X nms (fun σ H Q => Q vs H) := by
  induction h with
  | nil => exact ⟨[], rfl, fun j mf h => by simp at h, pa_nil⟩
  | @cons x p es mf fs hx t ih =>
    obtain ⟨f, fd, ps, h1, h2, h3, h4, h5, h6⟩ := hx.ex
    obtain ⟨vs, l, a, q⟩ := ih
    refine ⟨.ref f :: vs, by simp [l], fun j mf' hj => ?_, ?_⟩
    · cases j with
      | zero =>
        simp at hj
        subst hj
        exact ⟨_, rfl, f, fd, ps, rfl, h1, h4, h5⟩
      | succ j => exact a j mf' (by simpa using hj)
    · exact pa_cons (pe_glob (v := .ref f) h2 h3 rfl h6) q
theorem atI_map {α β : Type} {xs : List α} {ys : List β} (hl : ys.length = xs.length) {i : Int} {x : α} (h : atI xs i = some x) : ∃ j : Nat, xs[j]? = some x ∧ ∀ y : β, ys[j]? = some y → atI ys i = some y := by
  unfold atI at h ⊢
  rw [hl]
  cases e : ixN xs.length i with
  | none => rw [e] at h; cases h
  | some j =>
    rw [e] at h
    exact ⟨j, h, fun y hy => hy⟩
theorem gx_pick {pos p1 p2 : Pos} {ie e : Expr} {es : List Expr} (P : PickAll X k pk ρ nms fs) (hr : Room k X.A) (hgd : X.A.guards = some []) (tk : Takes X W) (hi : PE X ie (tM X.K W mi)) (ha : PA X (e :: es) (tA X.K W N mr)) (hN : N + 0 = pk.length := by rfl) (hsz : nms.length ≤ sizeLine := by decide)
    (hpi : PlainIx ie := by intro _ _; rfl) (he : starEach (e :: es) X.env = (false, eval e X.env) :: starEach es X.env := by rfl) (hpl : (backTo pos (starEach es X.env)).any (·.1) = false := by rfl)
    (ht : eval (.Call (.Subscript (.List nms p1) ie p2) (e :: es) [] pos) X.env = (do
      let fv ← eval (.Subscript (.List nms p1) ie p2) X.env
      callWith pos fv [] (backTo pos (starEach (e :: es) X.env)) (backToKw pos (keywordEach [] X.env))) := by rfl) :
    PE X (.Call (.Subscript (.List nms p1) ie p2) (e :: es) [] pos) (tM X.K W (mPick fs ρ mi mr)) := by
  obtain ⟨vs, l1, l2, hpa⟩ := P.pa
  refine ⟨fun pins s σ H Q I h => ?_⟩
  rw [ht]
  obtain ⟨τ, G, n, F, ro, Γ, T, ts, ex, kk, w, R, g, cc⟩ := h
  refine wpAny_bind (thn ((pe_ix (X := X) (pos := p2) ix_list (pe_lst (pos := p1) hpa) hi hpi).run pins s σ H (fun v H2 => ∃ (f : Addr) (fd : FuncData) (ps : List Str) (mf : List D → O (St (nio pk))), v = .ref f ∧ FnG X.prog X.w X.K X.mg X.base k f fd ps (spF X.K pk ρ mf) ∧ PySem.W.keepIn X.K (.ref f) = true ∧ Binds X.K fd ps [] ∧ tM X.K W (mCall pk ρ mf [] mr) σ H2 Q) I ?_) ?_)
  · refine ⟨by rw [l1, ← P.len]; exact hsz, fun p hp => ?_⟩
    have fp : F p = none := R.sub.free hp
    have gr : Grow F H (upd F p (.lst vs)) (upd H p (.lst vs)) := Grow.one R.sub hp
    have R2 := R.grow gr
    refine ⟨τ, G, n, upd F p (.lst vs), ro, Γ, T, ts, ex, _, w.mono gr.fz, R2, g, fun Γ1 s1 T1 y F1 H2 e1 R1 g1 => ?_⟩
    cases s1 with
    | kd κ d =>
      cases κ with
      | v =>
        cases d with
        | int i =>
          have g1 : G (bindP (atI fs i) fun mf => mCall pk ρ mf [] mr τ ro Γ1 T1 ex kk) := g1
          cases hm : atI fs i with
          | none => rw [hm] at g1; exact (w.no g1).elim
          | some mf =>
            rw [hm] at g1
            have ry := R1.topV
            cases ry
            obtain ⟨j, hj, back⟩ := atI_map (ys := vs) l1 hm
            obtain ⟨v, hv, f, fd, ps, rfl, h1, h2, h3⟩ := l2 j mf hj
            have e2 : F1 p = some (.lst vs) := e1 _ _ upd_same
            exact ⟨p, vs, i, .ref f, rfl, rfl, SqL.of (R1.sub.at e2 rfl), back _ hv, f, fd, ps, mf, rfl, h1, h2, h3, τ, G, n, F1, ro, Γ1, T1, ts, ex, kk, w.mono (gr.fz.trans e1), R1.pop, g1, fun Γ2 s2 T2 v F3 H3 e3 R3 g3 => cc Γ2 s2 T2 v F3 H3 (gr.fz.trans (e1.trans e3)) R3 g3⟩
        | _ => exact (w.no g1).elim
      | _ => exact (w.no g1).elim
    | _ => exact (w.no g1).elim
  · intro u s1 ⟨v, H1, I1, r1, f, fd, ps, mf, e1, Fn, hk, hb, h2⟩
    subst e1
    cases r1
    have h3 := im_call (N := N) (dvs := []) (dv := []) (fun _ => .nil) hN σ H1 Q h2
    exact PySem.W.callWith_K (h₀ := X.base) I1.ok.mod.kin hk (thn (ha.run pos pins s1 σ H1 _ I1 h3) fun us s2 ⟨vs2, H2, I2, r, q⟩ => ⟨I2.kIn, run_fng Fn hr hgd hb .nil tk I2 r q⟩) he hpl
end
end Fx

/-! G: methods that read: l.index(x). -/
namespace Fx
open PySem PySem.Spec PyProof.Rows L2
def isL : D → Bool
  | .lst _ => true
  | _ => false
def isS : D → Bool
  | .str _ => true
  | _ => false
def mMth (N : Nat) (ty : D → Bool) (g : D → List D → Option D) (mx mr : Me) : Me := fun τ ro Γ T ex k => mx τ ro Γ T ex fun Γ1 T1 => match T1 with
  | s :: T' => rq ro Γ1 s fun d0 => if ty d0 then mr τ ro Γ1 (s :: T') ex fun Γ2 T2 => popK (List.replicate N .v) T2 fun es T3 => match T3 with
    | s3 :: T4 => rq ro Γ2 s3 fun d => bindO (g d es) fun z => k Γ2 (.kd .v z :: T4)
    | [] => .no else .no
  | [] => .no
section
variable {K : PySem.W.Frag} {W : WX} {n : Ent} {F F1 H H1 : Hp} {ro : Ro} {Γ T : Gm} {σ : L2.St} {ts : List V} {τ : Type} {G : O τ → Prop} {X : Cx} {pos : Pos} {mx mr : Me} {ty : D → Bool} {g' : D → List D → Option D} {Tn : String}
theorem rpL_q : ∀ {vs : List V} {ds : List D}, RpL K F vs ds → RqL K F H vs ds
  | _, _, .nil => .nil
  | _, _, .cons a t => .cons (.rp a) (rpL_q t)
theorem im_mth {N : Nat} (hty : ∀ {F H : Hp} {x : V} {d : D}, Lk F H → Rq K F H x d → ty d = true → tyV K Tn x H) : ∀ σ H Q, tM K W (mMth N ty g' mx mr) σ H Q → tBM K Tn (rFm K g') (tM K W mx) (tA K W N mr) σ H Q := fun σ H Q ⟨τ, G, n, F, ro, Γ, T, ts, ex, k, w, R, g, c⟩ =>
  ⟨τ, G, n, F, ro, Γ, T, ts, ex, _, w, R, g, fun Γ1 s1 T1 x F1 H1 e1 R1 g1 => by
    obtain ⟨d0, q0, g2⟩ := R1.rq w.no g1
    by_cases ht : ty d0 = true
    · rw [if_pos ht] at g2
      refine ⟨hty R1.sub q0 ht, τ, G, n, F1, ro, Γ1, _, _, ex, _, w.mono e1, R1, g2, fun Γ2 T2 vs F2 H2 e2 hl R2 g3 => ?_⟩
      obtain ⟨es, T3, re, R3, g4⟩ := popV w.no hl R2 g3
      cases T3 with
      | nil => exact (w.no g4).elim
      | cons s3 T4 =>
        obtain ⟨d, q, g5⟩ := R3.rq w.no g4
        obtain ⟨z, hz, g6⟩ := bindO_some w.no g5
        exact ⟨F2, d, es, z, R3.sub, q, rpL_q re, hz, R3.pop.outV fun v F' H' e' R' => c Γ2 _ T4 v F' H' (e1.trans (e2.trans e')) R' g6⟩
    · rw [if_neg ht] at g2; exact (w.no g2).elim⟩
theorem ty_l {x : V} {d : D} (s : Lk F H) (q : Rq K F H x d) (h : isL d = true) : tyV K "list" x H := by
  cases d with
  | lst ds =>
    obtain ⟨a, xs, rfl, h1, h2⟩ := q.lst s
    exact .inl ⟨rfl, xs, h1⟩
  | _ => cases h
theorem ty_s {x : V} {d : D} (s : Lk F H) (q : Rq K F H x d) (h : isS d = true) : tyV K "str" x H := by
  cases d with
  | str ds => cases q.str; rfl
  | _ => cases h
end
section
variable {X : Cx} {W : WX} {mx mr : Me} {g : D → List D → Option D}
theorem gx_mthL {es : List Expr} {e o : Expr} {name : Str} {apos cpos : Pos} {id : String} {N : Nat} (slot : Slot "list" name id) (hty : typeOf (.builtin id) = pure (.type "method_descriptor")) (hm : MtR X id (rFm X.K g)) (ho : PE X o (tM X.K W mx)) (ha : PA X (e :: es) (tA X.K W N mr))
    (hbase : attributeBase o name X.env (eval o X.env) = eval o X.env := by rfl)
    (hfew : ((backTo cpos (starEach (e :: es) X.env)).all (fun x => !x.1) && (backToKw cpos (keywordEach [] X.env)).all (fun x => x.1.isSome) && decide ((e :: es).length + ([] : List Keyword).length + (if ([] : List Keyword).isEmpty then 0 else 1) < 30)) = true := by rfl)
    (hline : (apos.endLine == cpos.line) = true := by rfl) (hs : starEach (e :: es) X.env = (false, eval e X.env) :: starEach es X.env := by rfl) (hplain : (backTo cpos (starEach es X.env)).any (·.1) = false := by rfl) :
    PE X (.Call (.Attribute o name apos) (e :: es) [] cpos) (tM X.K W (mMth N isL g mx mr)) := pe_imp (pe_bm PySem.F.plainAttrs_list slot hty hm ho ha hbase hfew hline hs hplain) (im_mth fun s q h => ty_l s q h)
end
end Fx

/-! G: x += e, x -= e, of whole numbers. -/
namespace Fx
open PySem PySem.Spec PyProof.Rows L2
def augD (f : Int → Int → Int) : D → D → Option D
  | .int a, .int b => some (.int (f a b))
  | _, _ => none
def mAug (i : Nat) (f : Int → Int → Int) (me : Me) : Ms := fun τ ro Γ ks => mV i τ ro Γ [] ks.ex fun Γ1 T1 => match T1 with
  | .kd .v d :: _ => me τ ro Γ1 [] ks.ex fun Γ2 T2 => match T2 with
    | .kd .v e :: _ => bindO (augD f d e) fun z => setE ro i (.kd .v z) Γ2 ks.nx
    | _ => .no
  | _ => .no
section
variable {K : PySem.W.Frag} {W : WX} {τ : Type} {G : O τ → Prop} {X : Cx} {pos pos' : Pos} {e : Expr} {me : Me} {i : Nat} {f : Int → Int → Int}
theorem augD_some {d e z : D} (h : augD f d e = some z) : ∃ a b, d = .int a ∧ e = .int b ∧ z = .int (f a b) := by
  cases d <;> cases e <;> first | (cases h; exact ⟨_, _, rfl, rfl, rfl⟩) | cases h
def tIpI (f : Int → Int → Int) : TIp := fun x y H Q => ∃ i j : Int, x = .int i ∧ y = .int j ∧ Q (.int (f i j)) H
theorem im_aug (E : Ends) (σ : L2.St) (H : Hp) (h : tS K W (mAug i f me) E σ H) : tAug i (tM K W me) (tIpI f) E σ H := by
  obtain ⟨τ, G, n, F, ro, Γ, ks, w, R, g⟩ := h
  have q := im_v (i := i) σ H (fun x H1 => tM K W me σ H1 fun y H2 => ∃ a b : Int, x = .int a ∧ y = .int b ∧ E.nx (σ.set i (some (.int (f a b)))) H2) ⟨τ, G, n, F, ro, Γ, [], [], _, _, w.wi, R, g, fun Γ1 s1 T1 x F1 H1 e1 R1 g1 => by
    cases s1 with
    | kd κ d =>
      cases κ with
      | v =>
        have rx := R1.topV
        have R2 := R1.pop
        cases R2.tnil
        refine ⟨τ, G, n, F1, ro, Γ1, [], [], _, _, (w.mono e1).wi, R2, g1, fun Γ2 s2 T2 y F2 H2 e2 R3 g3 => ?_⟩
        cases s2 with
        | kd κ' e' =>
          cases κ' with
          | v =>
            obtain ⟨z, hz, g4⟩ := bindO_some w.no g3
            obtain ⟨a, b, rfl, rfl, rfl⟩ := augD_some hz
            cases rx
            have ry := R3.topV
            cases ry
            have R4 := R3.pop
            cases R4.tnil
            obtain ⟨R5, g5⟩ := setE_ok w.no (R4.push (.int (f a b))) g4
            exact ⟨a, b, rfl, rfl, w.nx _ _ F2 H2 (e1.trans e2) R5 g5⟩
          | _ => exact (w.no g3).elim
        | _ => exact (w.no g3).elim
      | _ => exact (w.no g1).elim
    | _ => exact (w.no g1).elim⟩
  obtain ⟨x, hx, t⟩ := q
  exact ⟨x, hx, tM_imp t fun y H1 ⟨a, b, ea, eb, h⟩ => ⟨a, b, ea, eb, h⟩⟩
theorem sx_augA {x : Str} (hN : X.N.Nodup) (hi : X.N[i]? = some x) (hx : Loc X.env.scope x) (he : PE X e (tM X.K W me)) (hf : X.fn x = true ∨ X.env.scope.names.lookup x = some .local := by first | exact .inl rfl | exact .inr rfl | assumption) :
    PS X (.AugAssign (.Name x pos') .Add e pos) (tS X.K W (mAug i (· + ·) me)) := ps_imp (ps_aug hN hi hx he ip_add hf) fun E σ H h => im_aug E σ H h
theorem sx_augS {x : Str} (hN : X.N.Nodup) (hi : X.N[i]? = some x) (hx : Loc X.env.scope x) (he : PE X e (tM X.K W me)) (hf : X.fn x = true ∨ X.env.scope.names.lookup x = some .local := by first | exact .inl rfl | exact .inr rfl | assumption) :
    PS X (.AugAssign (.Name x pos') .Sub e pos) (tS X.K W (mAug i (· - ·) me)) := ps_imp (ps_aug hN hi hx he ip_sub hf) fun E σ H h => im_aug E σ H h
end
end Fx

/-! G: exception classes over LookupError, with one field. -/
namespace Fx
open PySem PySem.Spec PyProof.Rows L2 PySem.HandSPX PySem.OEX Builtin Builtin.ObjectAttr
/-- what the mro of a class must be, so that a field is set in its dict -/
structure MroOk (l : List Value) : Prop where
  ne : l.isEmpty = false
  ob : l.contains (.type "object") = true
  pass : ∀ self, refuseLoop self "__setattr__" l = pure ()
abbrev leTail : List Value := [.type "LookupError", .type "Exception", .type "BaseException", .type "object"]
def refsLE : List Value → Bool
  | .ref _ :: r => refsLE r
  | l => l == leTail
theorem refsLE_or : ∀ l : List Value, refsLE l = true → ∃ cs : List Addr, l = cs.map Value.ref ++ leTail
  | [], e => absurd e (by decide)
  | v :: r, e => by
    cases v with
    | ref c =>
      obtain ⟨cs, h⟩ := refsLE_or r e
      exact ⟨c :: cs, by rw [h]; rfl⟩
    | _ => exact ⟨[], beq_iff_eq.mp e⟩
theorem refsLE_has (T : String) (l : List Value) (h : refsLE l = true) : l.contains (.type T) = leTail.contains (.type T) := by
  obtain ⟨cs, rfl⟩ := refsLE_or l h
  induction cs with
  | nil => rfl
  | cons c cs ih => rw [List.map_cons, List.cons_append, List.contains_cons, ih (by exact h)]; rfl
theorem refsLE_ok (l : List Value) (h : refsLE l = true) : MroOk l := by
  refine ⟨?_, (refsLE_has "object" l h).trans (by decide +kernel), fun self => ?_⟩
  · obtain ⟨cs, rfl⟩ := refsLE_or l h
    cases cs <;> rfl
  · obtain ⟨cs, rfl⟩ := refsLE_or l h
    induction cs with
    | nil => exact F.store_LookupError.passes self
    | cons c cs ih => rw [List.map_cons, List.cons_append, refuseLoop_ref]; exact ih h
structure OexL (K : PySem.W.Frag) (C : Addr) : Prop where
  cls : ∃ nm q N bs bm sn sub ab col dd k0 k1 k2 k3 k5, K.lookup C = some (excClassObj nm q C N bs bm true sn sub ab col dd k0 k1 k2 k3 k5 "LookupError.__new__") ∧ refsLE bm = true
  sa : PySem.W.findIn K (.ref C) "__setattr__" = some (some (.builtin "object.__setattr__"))
  exC : PySem.W.subIn K (.ref C) (.type "BaseException") = some true
  tyC : PySem.W.typeIn K (.ref C) = some (.type "type")
  kC : PySem.W.keepIn K (.ref C) = true
/-- a first field of an exception -/
theorem osaL {prog : Program} {w : World} {A : Around} {R : Result → Shared → Prop} {hp : Heap} {g : Array GenState} {d : Drawn} {t : Nat} {os : OsState} {K : PySem.W.Frag} {name : Str} {tk : Tok} {v : Value} {x C : Addr} {fv : Array Value} {cd : ClassData}
    (X : K.In hp) (hx : hp.get? x = some { cls := .ref C, data := .fields fv }) (hcd : PySem.W.clsIn K C = some cd) (hm : MroOk cd.mro) (hh : cd.hasDict = true) (ha : PySem.W.findIn K (.ref C) name = some none)
    (hq : ∀ h' tk' dx, (∀ b o, b ≠ x → hp.get? b = some o → h'.get? b = some o) → hp.objs.size ≤ dx → dx ≠ x → h'.get? x = some { cls := .ref C, dict := some dx, data := .fields fv } →
      h'.Ns1 dx (fun y => if y = name then some v else none) → R (.ok (.ret .none)) ⟨h', g, d, tk', os⟩) :
    codeAny (model prog w) A (.call (.builtin "object.__setattr__") ⟨[.ref x, .str name tk, v], []⟩) R ⟨hp, g, d, t, os⟩ := by
  have I : PySem.W.InstAt hp x { cls := .ref C, data := .fields fv } C none := ⟨hx, rfl, rfl, trivial⟩
  have SF := F.store_object
  have hxs : x ≠ hp.objs.size := Nat.ne_of_lt (Heap.lt_size hx)
  have sub : PySem.W.Looks (model prog w) hp (isInstance (.ref x) (.type "object")) true := I.type.andThen (PySem.W.looks_mroIn X (by unfold PySem.W.mroIn; rw [hcd, Option.bind_some, if_neg (by rw [hm.ne]; decide), hm.ob]))
  refine codeAny_call_builtin SF.slot.plain SF.entry (@PySem.W.check_slot (model prog w) _ _ ⟨hp, g, d, t, os⟩ "object.__setattr__" "object" "__setattr__" (.ref x) [.str name tk, v] [] _ SF.kind SF.split sub (SF.args (.ref x) (.str name tk) v) ?_)
  have hmr : PySem.W.Looks (model prog w) hp (mroOf (.ref C)) cd.mro := (PySem.W.looks_clsIn X hcd).andThen .now
  have L3 : PySem.W.Looks (model prog w) hp (storeTaker? none) none := .now
  have hcls : PySem.W.Looks (model prog w) hp (classData C) cd := PySem.W.looks_clsIn X hcd
  rw [PySem.W.osa_eq, refuse_eq]
  refine wpAny_bind (wpAny_bind (I.type.at (wpAny_bind (hmr.at ?_))))
  rw [hm.pass]
  refine wpAny_pure (wpAny_bind (I.type.at (wpAny_bind ((PySem.W.looks_findIn X ha).at (wpAny_bind (L3.at ?_))))))
  show wpAny _ _ (storeInOwnDict (.ref x) (.ref C) (.str name tk) name v false) _ _ _
  obtain ⟨nm, bs, mro, ns, qn, hd, sn, sb, ab, col, del⟩ := cd
  dsimp only at hh
  subst hh
  unfold storeInOwnDict ownDictForStores
  repeat (first | with_reducible refine store_in_new ?_ ?_ | with_reducible refine wpAny_loadPart_at hx ?_ | with_reducible refine hcls.at ?_ | wp_step)
  · exact ⟨_, #[], _, (Heap.get?_update_ne _ _ _ _ hxs.symm).trans (Heap.get?_push_at rfl rfl), rfl, fun e he => absurd he (by simp), fun _ => rfl⟩
  · intro h' tk' hn' hs
    have hx₁ : (hp.push { cls := .type "dict", data := .dict #[] }).get? x = some { cls := .ref C, data := .fields fv } := Heap.get?_push_of_some _ hx
    refine hq h' tk' hp.objs.size (fun b o hb ho => ?_) (Nat.le_refl _) hxs.symm ?_ hn'
    · exact (hs.2 b (Nat.ne_of_lt (Heap.lt_size ho))).trans ((Heap.get?_update_ne _ _ _ _ hb).trans (Heap.get?_push_of_some _ ho))
    · exact (hs.2 x hxs).trans (Heap.get?_update_self _ hx₁ rfl)
section
variable {X : Cx} {pins : List (Addr × Obj)} {σ : L2.St} {H : Hp} {s : Shared} {a C dx : Addr} {f : Str} {y : V} {u : Value} {fs : List (Str × V)} {Q : Unit → Shared → Prop} {E : Value → Shared → Prop} {A : Around}
/-- self.f = y -/
theorem ostL (T : OexL X.K C) (I : Inv X pins σ H s) (e : H a = some (exo a C none)) (hno : PySem.W.findIn X.K (.ref C) f = some none) (ry : RelV y u)
    (h : ∀ dx s', H dx = none → dx ≠ a → Inv X pins σ (upd (upd H dx (exd dx [(f, y)])) a (exo a C (some dx))) s' → Q () s') : wpAny (model X.prog X.w) A (setAttr (.ref a) f u) Q E s := by
  obtain ⟨nm, q, N, bs, bm, sn, sub, ab, col, dd, k0, k1, k2, k3, k5, hC, hbm⟩ := T.cls
  have hcl : PySem.W.clsIn X.K C = some { name := nm, bases := bs, mro := .ref C :: bm, ns := N, qualname := q, hasDict := true, slotNames := sn, subclasses := sub, abstract := ab, collection := col, hasDel := false } := by unfold PySem.W.clsIn; rw [hC] <;> rfl
  obtain ⟨t1, ho⟩ := exo_at I.hok e
  obtain ⟨hp, g, d, t, os⟩ := s
  refine PySem.W.set_plain I.kIn (ox := { cls := .ref C, dict := none, data := .fields #[.ref t1, .none, .none, .none, .bool false, .none] }) (od := none) ⟨ho, rfl, rfl, trivial⟩ T.sa ?_
  refine osaL I.kIn ho hcl (refsLE_ok (.ref C :: bm) hbm) rfl hno (fun h' tk' dx k dn dne hx hn => ?_)
  have hnd : H dx = none := I.hok.fresh dn
  have nd : ∀ {b : Addr} {o : Obj}, hp.get? b = some o → b ≠ dx := fun {b o} q => Nat.ne_of_lt (Nat.lt_of_lt_of_le (Heap.lt_size q) dn)
  have na : ∀ {b : Addr}, H b = none → b ≠ a := fun {b} n z => by
    rw [z, e] at n
    cases n
  have Un1 : Un X.fs [] H (upd (upd H dx (exd dx [(f, y)])) a (exo a C (some dx))) hp h' := {
    keep := fun b o q n _ _ => k b o (na n) q
    slot := fun b o q n _ _ => ⟨o.slots, k b o (na n) q⟩
    free := fun b o q n _ => by rw [upd_ne (na n), upd_ne (nd q)]; exact n
    there := fun b o q _ => by
      by_cases hb : b = a
      · exact ⟨_, by rw [hb]; exact hx⟩
      · exact ⟨o, k b o hb q⟩
    tups := fun b xs q => by rw [upd_ne (at_ne e q exo_tup), upd_ne (ne_of_none q hnd)]; exact q
    frzs := fun b o v q => by rw [upd_ne (at_ne e q exo_frz), upd_ne (ne_of_none q hnd)]; exact q
    tbls := fun b ps q => ⟨#[], by rw [upd_ne (at_ne e q exo_tbl), upd_ne (ne_of_none q hnd), q]; simp⟩ }
  refine h dx _ hnd dne (I.un (t' := tk') Un1 fun b o q => ?_)
  by_cases hb : b = a
  · subst hb
    rw [upd_same] at q
    cases q
    exact exo_ok hx
  · rw [upd_ne hb] at q
    by_cases hd : b = dx
    · subst hd
      rw [upd_same] at q
      cases q
      exact exd_ok hn (relO_put (fs := []) ry fun g => True.intro)
    · rw [upd_ne hd] at q
      exact (I.hok b o q).stay (fun c v hc z => k c v (by
          rcases hc with hc | hc
          · rw [hc]
            exact hb
          · exact at_ne e hc exo_own) z)
        (fun c hc => by rw [upd_ne (at_ne e hc exo_own), upd_ne (ne_of_none hc hnd)]; exact hc) (fun c xs hc => by rw [upd_ne (at_ne e hc exo_tup), upd_ne (ne_of_none hc hnd)]; exact hc)
theorem oinitL {us : List Value} {Q : Value → Shared → Prop} (T : OexL X.K C) (I : Inv X pins σ H s) (e : H a = some (exo a C none)) (hl : us.length ≤ sizeLine) (h : ∀ s', Inv X pins σ H s' → Q .none s') :
    wpAny (model X.prog X.w) A (call (.builtin "LookupError.__init__") (.ref a :: us)) Q E s := by
  obtain ⟨nm, q, N, bs, bm, sn, sub, ab, col, dd, k0, k1, k2, k3, k5, hC, hbm⟩ := T.cls
  obtain ⟨t1, ho⟩ := exo_at I.hok e
  obtain ⟨hp, g, d, t, os⟩ := s
  refine wpAny_call (PySem.HandSPX.init_base F.excBase_LookupError (fun Y => refsLE_has Y bm hbm) (I.kIn _ _ hC) ho hl fun h' t2 k hx => ?_)
  have J := I.write (t' := t) (x := a) (e := a) (o := exo a C none) (by rw [e]; exact True.intro) (.inl rfl) k ⟨_, hx⟩ (exo_ok hx)
  have eu : upd H a (exo a C none) = H := by
    funext b
    by_cases hb : b = a
    · rw [hb, upd_same, e]
    · rw [upd_ne hb]
  rw [eu] at J
  exact h _ J
end
def tVeL (K : PySem.W.Frag) (ta : TA) : TE := fun σ H Q => ta σ H fun vs H1 => ∃ (a C : Addr) (ws : List V), vs = .ref a :: ws ∧ ws.length ≤ 1000 ∧ OexL K C ∧ H1 a = some (exo a C none) ∧ Q .non H1
def tOsL (K : PySem.W.Frag) (f : Str) (to te : TE) : TS := fun D σ H => te σ H fun y H1 => to σ H1 fun x H2 => ∃ a C : Addr, x = .ref a ∧ OexL K C ∧ PySem.W.findIn K (.ref C) f = some none ∧
  H2 a = some (exo a C none) ∧ ∀ dx, H2 dx = none → dx ≠ a → D.nx σ (upd (upd H2 dx (exd dx [(f, y)])) a (exo a C (some dx)))
theorem pe_cinitL {X : Cx} {e : Expr} {es : List Expr} {ta : TA} {p1 p2 pos : Pos} {x : Str} {C0 : Addr} {pl : Sem Bool} (hg : Gl X x) (hm : X.mg x = some (.ref C0)) (hsp : PySem.W.specialIn X.K (.ref C0) "__getattribute__" = some (some (.builtin "type.__getattribute__"))) (hr : PySem.W.readsIn X.K C0 (.type "type") = true)
    (vV : PySem.W.findCls X.K (.ref C0) (.type "type") "__init__" = some (.val (.builtin "LookupError.__init__"))) (ha : PA X (e :: es) ta) (hdb : (x == ("__debug__" : Str)) = false := by decide)
    (hc : eval (.Call (.Attribute (.Name x p1) "__init__" p2) (e :: es) [] pos) X.env = (do
      let ov ← eval (.Name x p1) X.env
      standAt p2.atName
      let (f, first) ← holding [ov] (getMethod ov "__init__" pl)
      callWith pos f first (backTo pos (starEach (e :: es) X.env)) (backToKw pos (keywordEach [] X.env))) := by rfl)
    (he : starEach (e :: es) X.env = (false, eval e X.env) :: starEach es X.env := by rfl) (hpl : (backTo pos (starEach es X.env)).any (·.1) = false := by rfl) : PE X (.Call (.Attribute (.Name x p1) "__init__" p2) (e :: es) [] pos) (tVeL X.K ta) := ⟨fun pins s σ H Q I h => by
  refine PySem.W.methodCall_KW (ld_glob I hg hm ?_ hdb) hc
  refine PySem.W.method_cls I.kIn hsp (PySem.W.cls_value I.kIn hr vV (by decide +kernel) ?_)
  show wpAny _ _ (callWith pos (Value.builtin "LookupError.__init__") [] _ []) _ _ _
  refine PyProof.Rows.callWith_method1 (thn (ha.run pos pins _ σ H _ (I.tok _) h) fun us s1 ⟨vs, H1, I1, r1, a, C, ws, ev, hl, T, ea, q⟩ => ?_) he hpl
  subst ev
  cases r1 with
  | @cons _ u0 _ ur ra rr =>
    obtain rfl : u0 = Value.ref a := ra
    exact oinitL T I1 ea (by rw [← Paired.length rr, sizeLine_eq]; omega) fun s2 J => ⟨.non, H1, J, rfl, q⟩⟩
theorem ps_ostL {X : Cx} {o e : Expr} {to te : TE} {f : Str} {p' pos : Pos} (ho : PE X o to) (he : PE X e te) (hs : swapsWith e (some (.Attribute o f p')) pos.line X.env = pure false := by rfl) : PS X (.Assign [.Attribute o f p'] e pos) (tOsL X.K f to te) := by
  refine ⟨fun pins s σ H D I h => ?_⟩
  refine plainObj_wpAny_Assign_Attribute (thn (he.run pins s σ H _ I h) fun v s1 ⟨y, H1, I1, r1, q1⟩ => thn (ho.run pins s1 σ H1 _ I1 q1) fun u s2 ⟨x, H2, I2, r2, a, C, ex, T, hno, ea, q⟩ => ?_) hs
  subst ex
  obtain rfl : u = Value.ref a := r2
  exact ostL T I2 ea hno r1 fun dx s' n ne J => ⟨σ, _, J, q dx n ne⟩
/-- what C.__init__(self, x) does -/
def spL (K : PySem.W.Frag) (f : Str) : Sp := fun vs H Q _ => ∃ (a C : Addr) (y : V), vs = [.ref a, y] ∧ OexL K C ∧ PySem.W.findIn K (.ref C) f = some none ∧ H a = some (exo a C none) ∧
  ∀ d H2, H d = none → d ≠ a → H2 a = some (exo a C (some d)) → H2 d = some (exd d [(f, y)]) → (∀ b, b ≠ a → b ≠ d → H2 b = H b) → Q .non H2
section
variable {CX : CXT} {P : Program} {w : World} {K : PySem.W.Frag} {mg : Str → Option Value} {base : Heap} {k : Nat} {fa : Addr} {fd : FuncData} {x qual : Str} {st : Stmt} {N ps : List Str} {fn msg : Str}
theorem fnk_initL (F : Fun K x qual st fa fd) (S : FnScope N ps (defScope st)) (hl : ps.length = 2) (hb : ∀ cdv A outer s H E, PSs (cxOf CX P w K mg base N qual (defScope st) fa cdv A outer s H E) (defBody st) (tSeq (tDrop (tVeL K (tCons (tVar 0) (tCons (L2.tC (.str msg)) tNil)))) (tOsL K fn (tVar 0) (tVar 1)))) : FnOk P w K mg base CX (k + 1) fa fd ps (spL K fn) :=
  fnk_body F S (fun vs H Q E ⟨a, C, y, e, _⟩ => by rw [e, hl]; rfl) fun cdv A outer s H vs Q E ⟨a, C, y, e, T, hf, ha, q⟩ => by
    refine ⟨_, hb cdv A outer s H E, ?_⟩
    subst e
    refine ⟨.ref a, rfl, a, C, [.str msg], rfl, by simp, T, ha, y, rfl, .ref a, rfl, a, C, rfl, T, hf, ha, fun d hd hne => ?_⟩
    exact q d _ hd hne upd_same (by rw [upd_ne hne, upd_same]) fun b h1 h2 => by rw [upd_ne h1, upd_ne h2]
end
/-- C(x): the exception is made -/
def tMkL (C : Addr) (sp : Sp) (ta : TA) : L2.St → Hp → XK → Prop := fun σ H Q => ta σ H fun vs H1 => vs.length ≤ 1000 ∧ ∀ a, H1 a = none → sp (.ref a :: vs) (upd H1 a (exo a C none))
  (fun v H2 => v = .non ∧ ∃ (d : Addr) (fs : List (Str × V)), H2 a = some (exo a C (some d)) ∧ H2 d = some (exd d fs) ∧ H1 d = none ∧ Q (.ref C) (some d) (upd (del H2 a) d (.xd fs))) (fun _ _ _ => False)
theorem pmk_oexL {X : Cx} {e : Expr} {es : List Expr} {ta : TA} {p pos : Pos} {CX : CXT} {x : Str} {C fI : Addr} {k : Nat} {fd : FuncData} {ps : List Str} {sp : Sp} (T : OexL X.K C) (iC : PySem.W.findIn X.K (.ref C) "__init__" = some (some (.ref fI))) (tI : PySem.W.typeIn X.K (.ref fI) = some (.type "function"))
    (F1 : FnOk X.prog X.w X.K X.mg X.base CX k fI fd ps sp) (hr : Room (k + 1) X.A) (hb : Binds X.K fd ps []) (hx : Passes CX X (fun _ _ _ => False)) (hg : Gl X x) (hm : X.mg x = some (.ref C)) (ha : PA X (e :: es) ta)
    (hdb : (x == ("__debug__" : Str)) = false := by decide) (he : starEach (e :: es) X.env = (false, eval e X.env) :: starEach es X.env := by rfl) (hpl : (backTo pos (starEach es X.env)).any (·.1) = false := by rfl) :
    PMk X (.Call (.Name x p) (e :: es) [] pos) (tMkL C sp ta) := by
  intro pins s σ H Q I h
  obtain ⟨nm, q, N, bs, bm, sn, sub, ab, col, dd, k0, k1, k2, k3, k5, hC, hbm⟩ := T.cls
  refine wpAny_Call_Name_kw (ld_glob I hg hm ?_ hdb)
  refine PySem.W.callWith_K (h₀ := X.base) I.ok.mod.kin T.kC (thn (ha.run pos pins s σ H _ I h) fun us s1 ⟨vs, H1, I1, r1, hz, q1⟩ => ⟨I1.kIn, ?_⟩) he hpl
  show wpAny _ _ (call (.ref C) us) _ _ _
  obtain ⟨hp, g, dr, tk, os⟩ := s1
  have hsz : hp.objs.size ≤ hp.objs.size + 1 := Nat.le_succ _
  have hn : H1 (hp.objs.size + 1) = none := I1.hok.fresh hsz
  have hq := q1 (hp.objs.size + 1) hn
  have kk : ∀ b o, hp.get? b = some o → ((hp.push (PySem.W.kdv_tup us)).push (PySem.HandSPX.excO C hp.objs.size)).get? b = some o := fun b o e => Heap.get?_push_of_some _ (Heap.get?_push_of_some _ e)
  have hget : ((hp.push (PySem.W.kdv_tup us)).push (PySem.HandSPX.excO C hp.objs.size)).get? (hp.objs.size + 1) = some (PySem.HandSPX.excO C hp.objs.size) := by heap_get
  have I2 : Inv X pins σ (upd H1 (hp.objs.size + 1) (exo (hp.objs.size + 1) C none)) ⟨(hp.push (PySem.W.kdv_tup us)).push (PySem.HandSPX.excO C hp.objs.size), g, dr, tk, os⟩ :=
    I1.laid (t' := tk) (a := hp.objs.size + 1) (o := exo (hp.objs.size + 1) C none) (h' := (hp.push (PySem.W.kdv_tup us)).push (PySem.HandSPX.excO C hp.objs.size)) kk hsz (exo_ok hget)
  have r2 : Vals (V.ref (hp.objs.size + 1) :: vs) (Value.ref (hp.objs.size + 1) :: us) := .cons rfl r1
  have hl : ((Value.ref (hp.objs.size + 1) :: us) ++ []).length = ps.length := by
    have e := r2.length
    rw [F1.len _ _ _ _ hq] at e
    rw [List.append_nil]
    exact e.symm
  have hb2 := hb _ (Value.ref (hp.objs.size + 1) :: us) I2.kIn hl
  rw [List.append_nil] at hb2
  have hus : us.length ≤ sizeLine := by
    rw [← Paired.length r1, sizeLine_eq]
    omega
  refine wpAny_call (PySem.HandSPX.call_own F.excBase_LookupError (fun Y => refsLE_has Y bm hbm) (I1.kIn _ _ hC) (PySem.W.looks_findIn I1.kIn iC) (fun self => PySem.W.bind_fn I1.kIn self tI) hus
    (codeAny_mono (F1.run _ X.stack _ _ ⟨Value.ref (hp.objs.size + 1) :: us, []⟩ (Value.ref (hp.objs.size + 1) :: us) _ _ (fun _ _ _ => False) (hr.make C us []) (I2.env0.make C us []) hb2 r2 hq) fun r s' hq' => ?_))
  cases r with
  | error er => exact hx pins σ _ _ er s' I2 hq'
  | ok fl =>
    cases fl with
    | ret u =>
      obtain ⟨v, H2, os2, bare2, un2, hok2, rv, ev, d, fs, ea, ed, hd1, q2⟩ := hq'
      subst ev
      obtain ⟨h2, g2, d2, t2, os'⟩ := s'
      exact ⟨rv, mk_end (raises_own T.exC T.tyC) I1 hsz kk un2 hok2 os2 bare2 ea ed hd1 q2⟩
    | next => exact False.elim hq'
    | brk => exact False.elim hq'
    | cont => exact False.elim hq'
/-- C(x) can be raised -/
structure RaisL (P : Program) (w : World) (K : PySem.W.Frag) (mg : Str → Option Value) (base : Heap) (c f : Str) (k : Nat) : Prop where
  ex : ∃ (C fI : Addr) (fd : FuncData) (ps : List Str), clsV K c = .ref C ∧ OexL K C ∧ PySem.W.findIn K (.ref C) f = some none ∧ PySem.W.findIn K (.ref C) "__init__" = some (some (.ref fI)) ∧ PySem.W.typeIn K (.ref fI) = some (.type "function") ∧
    FnOk P w K mg base (L2.CX P w) k fI fd ps (spL K f) ∧ Binds K fd ps [] ∧ mg c = some (.ref C)
theorem sx_raisL {X : Cx} {W : WX} {pos pos' p : Pos} {c f : Str} {k k' : Nat} {e : Expr} {mr : Me} (R : RaisL X.prog X.w X.K X.mg X.base c f k) (hr : Room k' X.A) (hk : k + 1 ≤ k') (hg : Gl X c) (hc : X.calm = true) (tk : Takes X W) (ha : PA X [e] (tA X.K W 1 mr))
    (hdb : (c == ("__debug__" : Str)) = false := by decide) (he : starEach [e] X.env = (false, eval e X.env) :: starEach [] X.env := by rfl) (hpl : (backTo pos (starEach [] X.env)).any (·.1) = false := by rfl) :
    PS X (.Raise (some (.Call (.Name c p) [e] [] pos)) none pos') (tS X.K W (mRaise c [f] mr)) := by
  obtain ⟨C, fI, fd, ps, hC, T, hf, iC, tI, F1, hb, hm⟩ := R.ex
  exact ps_imp (ps_raise hc tk (pmk_oexL T iC tI F1 (hr.mono hk) hb pass0 hg hm ha hdb he hpl)) fun E σ H ⟨τ, G, n, F, ro, Γ, ks, w, R, g⟩ =>
    ⟨τ, G, n, F, ro, Γ, [], [], ks.ex, _, w.wi, R, g, fun Γ1 T1 vs F1 H1 e1 hl R1 g1 => by
      obtain ⟨ds, T0, re, R2, g2⟩ := popV w.no hl R1 g1
      cases R2.tnil
      match vs, ds, re, hl with
      | [v], [d0], re, _ =>
        refine ⟨by simp, fun a ha => ?_⟩
        refine ⟨a, C, v, rfl, T, hf, upd_same, fun d H2 hd hda h1 h2 h3 => ⟨rfl, d, _, h1, h2, by rw [upd_ne hda] at hd; exact hd, ?_⟩⟩
        rw [upd_ne hda] at hd
        have eH : upd (del H2 a) d (.xd [(f, v)]) = upd H1 d (.xd [(f, v)]) := by
          funext b
          by_cases hb : b = d
          · subst hb; rw [upd_same, upd_same]
          · rw [upd_ne hb, upd_ne hb]
            by_cases hb2 : b = a
            · subst hb2; rw [del_same]; exact ha.symm
            · rw [del_ne hb2, h3 b hb2 hb, upd_ne hb2]
        rw [eH]
        have gr : Grow F1 H1 (upd F1 d (.xd [(f, v)])) (upd H1 d (.xd [(f, v)])) := Grow.one R2.sub hd
        have rf : RpF X.K (upd F1 d (.xd [(f, v)])) [(f, v)] [(f, d0)] := RpF.rev (rpF_zip (fN := [f]) (re.mono gr.fz))
        exact w.xc ⟨c, [(f, d0)]⟩ Γ1 _ _ σ _ _ (e1.trans gr.fz) (R2.grow gr) ⟨hC.symm, .inr ⟨d, _, rfl, upd_same, rf⟩⟩ g2⟩
theorem raisL1 {P : Program} {w : World} {K : PySem.W.Frag} {mg : Str → Option Value} {base : Heap} {c qual fn msg : Str} {st : Stmt} {C fI : Addr} {fd : FuncData} {N ps : List Str} (a : PySem.W.nsIn K mainGlobals c = some (some (.ref C))) (o : OexL K C) (nf : PySem.W.findIn K (.ref C) fn = some none) (iC : PySem.W.findIn K (.ref C) "__init__" = some (some (.ref fI))) (tI : PySem.W.typeIn K (.ref fI) = some (.type "function")) (F : Fun K "__init__" qual st fI fd) (S : FnScope N ps (defScope st)) (hl : ps.length = 2)
    (hb : ∀ cdv A outer s H E, PSs (cxOf (L2.CX P w) P w K mg base N qual (defScope st) fI cdv A outer s H E) (defBody st) (tSeq (tDrop (tVeL K (tCons (tVar 0) (tCons (L2.tC (.str msg)) tNil)))) (tOsL K fn (tVar 0) (tVar 1)))) (hB : Binds K fd ps []) (hm : mg c = some (.ref C)) : RaisL P w K mg base c fn 1 :=
  ⟨C, fI, fd, ps, clsV_of a, o, nf, iC, tI, fnk_initL F S hl hb, hB, hm⟩
/-- an __init__ answers None -/
def rtN (r : D) (o : O D) : O D := match r with
  | .non => o
  | _ => .no
end Fx

/-! G: try .. except C as n, what follows taken along. -/
namespace Fx
open PySem PySem.Spec PyProof.Rows L2
def hdR {τ : Type} (ro : Ro) (sub : List (Str × Bool)) (i : Nat) (s : Ms) (ks : Ks τ) : Xn → Gm → O τ := fun x Γ' => match sub.lookup x.cls with
  | some true => setE ro i (.kd .v (.exn x.cls x.fs)) Γ' fun Γ2 => s τ ro Γ2 (ksDel i ro ks)
  | some false => ks.ex x Γ'
  | none => .no
def mTryR (sub : List (Str × Bool)) (i : Nat) (b s : Ms) : Ms := fun τ ro Γ ks => b τ ro Γ { ks with ex := hdR ro sub i s ks }
theorem sx_tryR {X : Cx} {W : WX} {pos : Pos} (sub : List (Str × Bool)) {x nm : Str} {c : Value} {i : Nat} {body suite : List Stmt} {b₀ : Stmt} {np pos' : Pos} {b s : Ms} (hs : X.stack = X.env :: X.outer) (hf : X.env.frame = some X.env.locals) (hN : X.N.Nodup) (hi : X.N[i]? = some nm) (hln : X.env.kindOf nm = some .local) (hc : Names X x c) (tk : Takes X W)
    (hsub : ∀ y z, sub.lookup y = some z → PySem.W.exmOne X.K (clsV X.K y) c = some z)
    (hb : ∀ (W : WX) (pn : List (Addr × Obj)) (xe : Value → Shared → Prop), Takes (X.tr pn xe) W → PassesOwn (model X.prog X.w) X.A X.env xe → PSs (X.tr pn xe) body (tS X.K W b)) (hsu : ∀ (a : Addr) (pn : List (Addr × Obj)), PSs (X.suite a pn) (b₀ :: suite) (tS X.K W0 s)) :
    PS X (.Try body [.ExceptHandler (some (.Name x np)) (some nm) (b₀ :: suite) pos'] [] [] pos) (tS X.K W (mTryR sub i b s)) :=
  ps_imp (ps_tryX (tb := fun W => tS X.K W b) (ts := tS X.K W0 s) hs hf hN hi hln hc tk hb hsu) fun E σ H ⟨τ, G, n, F, ro, Γ, ks, w, R, g⟩ => by
    refine ⟨τ, G, n, F, ro, Γ, { ks with ex := hdR ro sub i s ks }, ⟨w.no, w.nx, w.bk, w.ct, w.rt, fun y Γ' cls dO σ' F' H' s1 R' xo g' => ?_⟩, R, g⟩
    have g' : G (hdR ro sub i s ks y Γ') := g'
    unfold hdR at g'
    cases el : sub.lookup y.cls with
    | none => rw [el] at g'; exact (w.no g').elim
    | some z =>
      rw [el] at g'
      have hz := hsub _ _ el
      refine ⟨z, by rw [xo.1]; exact hz, fun hzt a ha => ?_, fun hzf => ?_⟩
      · subst hzt
        have fa : F' a = none := R'.sub.free ha
        have gr1 : Grow F' H' (upd F' a (exh a cls dO)) (upd H' a (exh a cls dO)) := Grow.one R'.sub ha
        obtain ⟨R3, g3⟩ := setE_ok w.no ((R'.grow gr1).push (rp_exn xo fa)) g'
        exact ⟨τ, G, n, _, ro, _, _, (w.mono (s1.trans gr1.fz)).del, R3, g3⟩
      · subst hzf
        exact w.xc y _ cls dO σ' F' H' s1 R' xo g'
end Fx

/-! G: list(d), d a dict with tuple keys. -/
namespace Fx
open PySem PySem.Spec PyProof.Rows L2
def listTF : List D → Option D
  | [.dit es] => some (.lst (es.map fun e => ktD e.1))
  | _ => none
section
variable {K : PySem.W.Frag} {F H : Hp}
theorem keys_rp : ∀ {kvs : List (List Key × V)} {bs : List Addr} {es : List (List Key × D)} {F : Hp}, Lk F H → IsKeys H kvs bs → RpK K F kvs es → ∃ F2, Grow F H F2 H ∧ RpL K F2 (bs.map V.ref) (es.map fun e => ktD e.1)
  | _, _, _, F, s, .nil, .nil => ⟨F, .refl s, .nil⟩
  | _, _, _, F, s, .cons h t, .cons r q => by
    obtain ⟨F1, g1, e1⟩ := grow_tup s h
    obtain ⟨F2, g2, r2⟩ := keys_rp g1.sub t (q.mono g1.fz)
    exact ⟨F2, g1.trans g2, .cons (.tup (g2.fz _ _ e1) (kvs_rp _)) r2⟩
end
theorem call_listTF {X : Cx} (hc : X.calm = true) : CallR X (.type "list") (rFnN X.K listTF) := by
  intro pins s σ H xs us Q I r ⟨F, ds, z, sF, q, hz, o⟩
  unfold listTF at hz
  split at hz
  · rename_i es
    cases hz
    obtain ⟨v, rfl, q1⟩ := q.one
    obtain ⟨a, kvs, rfl, hd, t⟩ := q1.dit sF
    exact call_list_dT hc pins s σ H _ us Q I r ⟨a, kvs, rfl, hd, fun p bs hp ik => by
      obtain ⟨F2, g, rl⟩ := keys_rp (K := X.K) sF ik t
      exact o.ln F2 _ p _ rfl hp g rl⟩
  · cases hz
end Fx

/-! G: mirrors in plain Lean: simp lemmas, loops, repr, the laws' numbers. -/
namespace Fx
open PySem PySem.Spec PyProof.Rows L2
open PySem.Builtin.Str (reprChar)
section
variable {σ τ : Type}
@[simp] theorem bindO_s (d : D) (k : D → O τ) : bindO (some d) k = k d := rfl
@[simp] theorem bindB_s (d : Bool) (k : Bool → O τ) : bindB (some d) k = k d := rfl
@[simp] theorem bindN_s (d : Nat) (k : Nat → O τ) : bindN (some d) k = k d := rfl
@[simp] theorem bindL_s (d : List D) (k : List D → O τ) : bindL (some d) k = k d := rfl
@[simp] theorem bindI_s (d : Option Int) (k : Option Int → O τ) : bindI (some d) k = k d := rfl
@[simp] theorem val_rt (r : D) (s : σ) (k : D → σ → O τ) (e : Xn → σ → O τ) : (O.rt r s).val k e = k r s := rfl
@[simp] theorem val_ex (r : Xn) (s : σ) (k : D → σ → O τ) (e : Xn → σ → O τ) : (O.ex r s).val k e = e r s := rfl
@[simp] theorem fin_nx (s : σ) (a : σ → O τ) (r : D → σ → O τ) (e : Xn → σ → O τ) : (O.nx s).fin a r e = a s := rfl
@[simp] theorem fin_rt (d : D) (s : σ) (a : σ → O τ) (r : D → σ → O τ) (e : Xn → σ → O τ) : (O.rt d s).fin a r e = r d s := rfl
@[simp] theorem fin_ex (x : Xn) (s : σ) (a : σ → O τ) (r : D → σ → O τ) (e : Xn → σ → O τ) : (O.ex x s).fin a r e = e x s := rfl
@[simp] theorem all_nx (s : σ) (a b c : σ → O τ) (r : D → σ → O τ) (e : Xn → σ → O τ) : (O.nx s).all a b c r e = a s := rfl
@[simp] theorem all_bk (s : σ) (a b c : σ → O τ) (r : D → σ → O τ) (e : Xn → σ → O τ) : (O.bk s).all a b c r e = b s := rfl
@[simp] theorem all_ct (s : σ) (a b c : σ → O τ) (r : D → σ → O τ) (e : Xn → σ → O τ) : (O.ct s).all a b c r e = c s := rfl
@[simp] theorem all_rt (d : D) (s : σ) (a b c : σ → O τ) (r : D → σ → O τ) (e : Xn → σ → O τ) : (O.rt d s).all a b c r e = r d s := rfl
@[simp] theorem all_ex (x : Xn) (s : σ) (a b c : σ → O τ) (r : D → σ → O τ) (e : Xn → σ → O τ) : (O.ex x s).all a b c r e = e x s := rfl
@[simp] theorem lp_nx (s : σ) (k : σ → O σ) : (O.nx s).lp k = k s := rfl
@[simp] theorem lp_ct (s : σ) (k : σ → O σ) : (O.ct s).lp k = k s := rfl
@[simp] theorem lp_bk (s : σ) (k : σ → O σ) : (O.bk s).lp k = .nx s := rfl
@[simp] theorem lp_rt (r : D) (s : σ) (k : σ → O σ) : (O.rt r s).lp k = .rt r s := rfl
@[simp] theorem lp_ex (r : Xn) (s : σ) (k : σ → O σ) : (O.ex r s).lp k = .ex r s := rfl
@[simp] theorem tr_nx (s : σ) (h : Xn → σ → O σ) : (O.nx s).tr h = .nx s := rfl
@[simp] theorem tr_rt (r : D) (s : σ) (h : Xn → σ → O σ) : (O.rt r s).tr h = .rt r s := rfl
@[simp] theorem tr_ex (x : Xn) (s : σ) (h : Xn → σ → O σ) : (O.ex x s).tr h = h x s := rfl
@[simp] theorem tr_bk (s : σ) (h : Xn → σ → O σ) : (O.bk s).tr h = .bk s := rfl
@[simp] theorem tr_ct (s : σ) (h : Xn → σ → O σ) : (O.ct s).tr h = .ct s := rfl
/-! ### loops -/
@[simp] theorem loopF_nil (f : Nat → D → σ → O σ) (i : Nat) (s : σ) : loopF f i [] s = .nx s := rfl
theorem loopF_cons (f : Nat → D → σ → O σ) (i : Nat) (d : D) (ds : List D) (s : σ) : loopF f i (d :: ds) s = (f i d s).lp fun s' => loopF f (i + 1) ds s' := rfl
/-- a loop whose turns all go on: an invariant over what is left -/
theorem loop_inv {f : D → σ → O σ} (I : List D → σ → Prop) (h : ∀ d r s, I (d :: r) s → ∃ s', (f d s = .nx s' ∨ f d s = .ct s') ∧ I r s') : ∀ (ds : List D) (i : Nat) (s : σ), I ds s → ∃ s', loopF (fun _ => f) i ds s = .nx s' ∧ I [] s'
  | [], i, s, hs => ⟨s, rfl, hs⟩
  | d :: ds, i, s, hs => by
    obtain ⟨s1, h1, h2⟩ := h d ds s hs
    obtain ⟨s2, g1, g2⟩ := loop_inv I h ds (i + 1) s1 h2
    refine ⟨s2, ?_, g2⟩
    rw [loopF_cons]
    rcases h1 with h1 | h1 <;> rw [h1] <;> exact g1
/-- .. by its items alone -/
theorem loop_all {f : D → σ → O σ} (I : σ → Prop) (ds : List D) (h : ∀ d ∈ ds, ∀ s, I s → ∃ s', f d s = .nx s' ∧ I s') (i : Nat) (s : σ) (hs : I s) : ∃ s', loopF (fun _ => f) i ds s = .nx s' ∧ I s' := by
  obtain ⟨s', h1, h2⟩ := loop_inv (f := f) (fun r s => I s ∧ ∀ d ∈ r, d ∈ ds) (fun d r s ⟨h1, h2⟩ => by
    obtain ⟨s', g1, g2⟩ := h d (h2 d (by simp)) s h1
    exact ⟨s', .inl g1, g2, fun x hx => h2 x (by simp [hx])⟩) ds i s ⟨hs, fun _ h => h⟩
  exact ⟨s', h1, h2.1⟩
/-- .. a fold -/
theorem loop_fold {α : Type} {f : D → σ → O σ} (enc : α → D) (step : σ → α → σ) (P : List α → σ → Prop) (h : ∀ a r s, P (a :: r) s → f (enc a) s = .nx (step s a) ∧ P r (step s a)) : ∀ (xs : List α) (i : Nat) (s : σ), P xs s → loopF (fun _ => f) i (xs.map enc) s = .nx (xs.foldl step s) ∧ P [] (xs.foldl step s)
  | [], i, s, hs => ⟨rfl, hs⟩
  | a :: r, i, s, hs => by
    obtain ⟨h1, h2⟩ := h a r s hs
    obtain ⟨g1, g2⟩ := loop_fold enc step P h r (i + 1) _ h2
    refine ⟨?_, g2⟩
    rw [List.map_cons, loopF_cons, h1]
    exact g1
@[simp] theorem cm_rt (e : D) (s : σ) (k : D → σ → O σ) (n : σ → O σ) : (O.rt e s).cm k n = k e s := rfl
@[simp] theorem cm_nx (s : σ) (k : D → σ → O σ) (n : σ → O σ) : (O.nx s).cm k n = n s := rfl
@[simp] theorem cmpF_nil (f : List D → D → σ → O σ) (acc : List D) (s : σ) : cmpF f [] acc s = .rt (.lst acc) s := rfl
/-- a comprehension: each item gives its list (none or one item), the state goes along -/
theorem cmp_run {f : List D → D → σ → O σ} (I : List D → List D → σ → Prop) (h : ∀ d r acc s, I (d :: r) acc s → acc.length < sizeLine ∧ ∃ s', (∃ e, f acc d s = .rt e s' ∧ I r (acc ++ [e]) s') ∨ (f acc d s = .nx s' ∧ I r acc s')) : ∀ (ds acc : List D) (s : σ), I ds acc s → ∃ acc' s', cmpF f ds acc s = .rt (.lst acc') s' ∧ I [] acc' s'
  | [], acc, s, hs => ⟨acc, s, rfl, hs⟩
  | d :: ds, acc, s, hs => by
    obtain ⟨hl, s1, ⟨e, h1, h2⟩ | ⟨h1, h2⟩⟩ := h d ds acc s hs
    · obtain ⟨a2, s2, g1, g2⟩ := cmp_run I h ds _ s1 h2
      refine ⟨a2, s2, ?_, g2⟩
      unfold cmpF
      rw [h1, cm_rt, if_pos hl]
      exact g1
    · obtain ⟨a2, s2, g1, g2⟩ := cmp_run I h ds _ s1 h2
      refine ⟨a2, s2, ?_, g2⟩
      unfold cmpF
      rw [h1, cm_nx]
      exact g1
/-- .. a map and a filter, no state -/
theorem cmp_map {α : Type} {f : List D → D → Unit → O Unit} (enc : α → D) (g : α → Option D) (xs : List α) (h : ∀ a ∈ xs, ∀ acc, f acc (enc a) () = match g a with | some e => .rt e () | none => .nx ()) : ∀ acc : List D, acc.length + xs.length ≤ sizeLine → cmpF f (xs.map enc) acc () = .rt (.lst (acc ++ xs.filterMap g)) () := by
  induction xs with
  | nil => intro acc _; simp
  | cons a r ih =>
    intro acc hl
    rw [List.length_cons] at hl
    have ha := h a (by simp) acc
    have ih := ih fun b hb => h b (by simp [hb])
    rw [List.map_cons]
    unfold cmpF
    rw [ha]
    cases e : g a with
    | some z =>
      simp only [cm_rt]
      rw [if_pos (by omega), ih _ (by simp; omega), List.filterMap_cons_some e]
      simp
    | none =>
      simp only [cm_nx]
      rw [ih _ (by omega), List.filterMap_cons_none e]
end
/-! ### operators -/
@[simp] theorem asL_f (o : Option D) : asL false o = o := rfl
@[simp] theorem asL_t (l : List D) : asL true (some (.lst l)) = some (.lst l) := rfl
@[simp] theorem asB_bl (b : Bool) : asB (.bl b) = some b := rfl
@[simp] theorem asI_int (i : Int) : asI (.int i) = some (some i) := rfl
@[simp] theorem lstD_lst (l : List D) : lstD (.lst l) = some l := rfl
@[simp] theorem itL_lst (l : List D) : itL (.lst l) = some l := rfl
@[simp] theorem isX_exn (tt : List (String × Bool)) (tc : List (Str × Bool)) (c : Str) (fs : List (Str × D)) : isX tt tc (.exn c fs) = tc.lookup c := rfl
@[simp] theorem fldX_exn (cs : List Str) (f c : Str) (fs : List (Str × D)) : fldX cs f (.exn c fs) = if cs.contains c then fs.lookup f else none := rfl
@[simp] theorem itS_str (x : Str) : itS (.str x) = some (chrs x) := rfl
@[simp] theorem itT_tup (l : List D) : itT (.tup l) = some l := rfl
@[simp] theorem addD_i (a b : Int) : addD (.int a) (.int b) = some (.int (a + b)) := rfl
@[simp] theorem subD_i (a b : Int) : subD (.int a) (.int b) = some (.int (a - b)) := rfl
@[simp] theorem negD_i (a : Int) : negD (.int a) = some (.int (-a)) := rfl
@[simp] theorem mulD_i (a b : Int) : mulD (.int a) (.int b) = if mulIn a b then some (.int (a * b)) else none := rfl
@[simp] theorem divD_i (a b : Int) : divD (.int a) (.int b) = if divIn b then some (.int (a.fdiv b)) else none := rfl
@[simp] theorem modD_i (a b : Int) : modD (.int a) (.int b) = if b ≠ 0 then some (.int (a.fmod b)) else none := rfl
@[simp] theorem absF_i (a : Int) : absF [.int a] = some (.int (if a < 0 then -a else a)) := rfl
@[simp] theorem intF_b (b : Bool) : intF [.bl b] = some (.int (if b then 1 else 0)) := rfl
@[simp] theorem intF_i (a : Int) : intF [.int a] = some (.int a) := rfl
@[simp] theorem max2F_i (a b : Int) : max2F [.int a, .int b] = some (.int (if b > a then b else a)) := rfl
@[simp] theorem min2F_i (a b : Int) : min2F [.int a, .int b] = some (.int (if b < a then b else a)) := rfl
@[simp] theorem ltD_i (a b : Int) : ltD (.int a) (.int b) = some (decide (a < b)) := rfl
@[simp] theorem gtD_i (a b : Int) : gtD (.int a) (.int b) = some (decide (b < a)) := rfl
@[simp] theorem leD_i (a b : Int) : leD (.int a) (.int b) = some (decide (a ≤ b)) := rfl
@[simp] theorem geD_i (a b : Int) : geD (.int a) (.int b) = some (decide (b ≤ a)) := rfl
@[simp] theorem lenF_l (l : List D) : lenF [.lst l] = some (.int l.length) := rfl
@[simp] theorem lenF_t (l : List D) : lenF [.tup l] = some (.int l.length) := rfl
@[simp] theorem rg1_i (b : Int) : rg1 [.int b] = if small62 b then some (rngL 0 b) else none := rfl
@[simp] theorem rg2_i (a b : Int) : rg2 [.int a, .int b] = if small62 a && small62 b then some (rngL a b) else none := rfl
theorem mul_l {a b : Int} (h : smallI 18446744073709551616 a = true) : mulIn a b = true := by unfold mulIn; simp [h]
theorem mul_r {a b : Int} (h : smallI 18446744073709551616 b = true) : mulIn a b = true := by unfold mulIn; simp [h]
theorem small_of {m : Nat} {a : Int} (h1 : -(m : Int) < a) (h2 : a < m) : smallI m a = true := smallI_iff.mpr ⟨h1, h2⟩
theorem div_of {b : Int} (h0 : 0 < b) (h1 : b < 1073741824) : divIn b = true := by
  unfold divIn
  have : smallI 1073741824 b = true := smallI_iff.mpr ⟨by omega, by omega⟩
  simp [this]
  exact .inl (by omega)
@[simp] theorem fit_non {n : Nat} : fitD n .non = true := by simp [fitD, flatD, toPy, PyData.canLay0, PyData.depth]
@[simp] theorem fit_bl {n : Nat} {b : Bool} : fitD n (.bl b) = true := by simp [fitD, flatD, toPy, PyData.canLay0, PyData.depth]
@[simp] theorem fit_int {n : Nat} {b : Int} : fitD n (.int b) = true := by simp [fitD, flatD, toPy, PyData.canLay0, PyData.depth]
@[simp] theorem fit_str {n : Nat} {x : Str} : fitD n (.str x) = PyData.strOk x := by simp [fitD, flatD, toPy, PyData.canLay0, PyData.depth]
theorem fitL {n : Nat} : ∀ {l : List D}, (∀ d ∈ l, fitD n d = true) → flatL l = true ∧ PyData.canLayAll0 (toPyL l) = true ∧ PyData.depthAll (toPyL l) ≤ n
  | [], _ => by simp [flatL, toPyL, PyData.canLayAll0, PyData.depthAll]
  | d :: l, h => by
    obtain ⟨h1, h2, h3⟩ := fitL (l := l) fun e he => h e (List.mem_cons_of_mem _ he)
    have h4 := h d List.mem_cons_self
    unfold fitD at h4
    simp only [Bool.and_eq_true, decide_eq_true_eq] at h4
    refine ⟨by simp [flatL, h4.1.1, h1], by simp [toPyL, PyData.canLayAll0, h4.1.2, h2], ?_⟩
    simp only [toPyL, PyData.depthAll]
    omega
theorem fit_lst {n : Nat} {l : List D} (h : ∀ d ∈ l, fitD n d = true) : fitD (n + 1) (.lst l) = true := by
  obtain ⟨h1, h2, h3⟩ := fitL h
  simp [fitD, flatD, toPy, PyData.canLay0, PyData.depth, h1, h2, h3]
theorem fit_tup {n : Nat} {l : List D} (h : ∀ d ∈ l, fitD n d = true) : fitD (n + 1) (.tup l) = true := by
  obtain ⟨h1, h2, h3⟩ := fitL h
  simp [fitD, flatD, toPy, PyData.canLay0, PyData.depth, h1, h2, h3]
theorem fitL_of {n : Nat} : ∀ {l : List D}, flatL l = true → PyData.canLayAll0 (toPyL l) = true → PyData.depthAll (toPyL l) ≤ n → l.all (fitD n) = true
  | [], _, _, _ => rfl
  | d :: l, h1, h2, h3 => by
    simp only [flatL, toPyL, PyData.canLayAll0, PyData.depthAll, Bool.and_eq_true] at h1 h2 h3
    rw [List.all_cons, fitL_of h1.2 h2.2 (by omega)]
    simp [fitD, h1.1, h2.1, show (toPy d).depth ≤ n by omega]
@[simp] theorem fit_lst_ {n : Nat} {l : List D} : fitD (n + 1) (.lst l) = l.all (fitD n) := by
  rw [Bool.eq_iff_iff]
  constructor
  · intro h
    simp only [fitD, flatD, toPy, PyData.canLay0, PyData.depth, Bool.and_eq_true, decide_eq_true_eq] at h
    exact fitL_of h.1.1 h.1.2 (by omega)
  · intro h
    exact fit_lst fun d hd => List.all_eq_true.mp h d hd
@[simp] theorem fit_tup_ {n : Nat} {l : List D} : fitD (n + 1) (.tup l) = l.all (fitD n) := by
  rw [Bool.eq_iff_iff]
  constructor
  · intro h
    simp only [fitD, flatD, toPy, PyData.canLay0, PyData.depth, Bool.and_eq_true, decide_eq_true_eq] at h
    exact fitL_of h.1.1 h.1.2 (by omega)
  · intro h
    exact fit_tup fun d hd => List.all_eq_true.mp h d hd
@[simp] theorem eqD_ {d e : D} : eqD d e = if fitD (63 + 1) d && fitD (63 + 1) e then some (same d e) else none := by
  unfold eqD same
  rw [shD_fit, shD_fit]
@[simp] theorem neD_ {d e : D} : neD d e = if fitD (63 + 1) d && fitD (63 + 1) e then some (!same d e) else none := by
  unfold neD
  rw [eqD_]
  split <;> rfl
@[simp] theorem same_int {a b : Int} : same (.int a) (.int b) = (a == b) := by simp [same, toPy, PyData.eqv]
@[simp] theorem same_str {a b : Str} : same (.str a) (.str b) = (a == b) := by simp [same, toPy, PyData.eqv]
@[simp] theorem same_bl {a b : Bool} : same (.bl a) (.bl b) = (a == b) := by simp [same, toPy, PyData.eqv]
@[simp] theorem same_non : same .non .non = true := by simp [same, toPy, PyData.eqv]
@[simp] theorem same_lst {a b : List D} : same (.lst a) (.lst b) = sameL a b := by simp [same, sameL, toPy, PyData.eqv]
@[simp] theorem same_tup {a b : List D} : same (.tup a) (.tup b) = sameL a b := by simp [same, sameL, toPy, PyData.eqv]
@[simp] theorem sameL_nil : sameL [] [] = true := by simp [sameL, toPyL, PyData.eqvAll]
@[simp] theorem sameL_cons {d e : D} {a b : List D} : sameL (d :: a) (e :: b) = (same d e && sameL a b) := by simp [sameL, same, toPyL, PyData.eqvAll]
@[simp] theorem sameL_nc {e : D} {b : List D} : sameL [] (e :: b) = false := by simp [sameL, toPyL, PyData.eqvAll]
@[simp] theorem sameL_cn {e : D} {b : List D} : sameL (e :: b) [] = false := by simp [sameL, toPyL, PyData.eqvAll]
theorem memD_ {d : D} {l : List D} : memD d l = l.any fun z => same z d := by
  unfold memD same
  induction l with
  | nil => rfl
  | cons a l ih => simp only [toPyL, List.any_cons, ih]
@[simp] theorem in_lst {d : D} {l : List D} : inD d (.lst l) = if fitD (63 + 1) d && fitD (63 + 1) (.lst l) then some (l.any fun z => same z d) else none := by
  rw [← memD_, ← shD_fit, ← shD_fit]
  cases d <;> rfl
@[simp] theorem in_tup {d : D} {l : List D} : inD d (.tup l) = if fitD (63 + 1) d && fitD (63 + 1) (.tup l) then some (l.any fun z => same z d) else none := by
  rw [← memD_, ← shD_fit, ← shD_fit]
  cases d <;> rfl
@[simp] theorem in_str {x y : Str} : inD (.str x) (.str y) = some (inSD x y) := rfl
@[simp] theorem inSD_one {c : Nat} {y : Str} : inSD ⟨#[c]⟩ y = decide (c ∈ y.cps.toList) := rfl
/-! ### plain signs -/
def asc (x : Str) : Prop := ∀ c ∈ x.cps.toList, c < 128
theorem asc_app {x y : Str} (h : asc x) (h2 : asc y) : asc (x ++ y) := fun c hc => by
  have e : (x ++ y).cps.toList = x.cps.toList ++ y.cps.toList := Array.toList_append
  rw [e] at hc
  exact (List.mem_append.mp hc).elim (h c) (h2 c)
theorem asc_strOk {x : Str} (h : asc x) : PyData.strOk x = true := by
  unfold PyData.strOk
  rw [Array.all_eq_true']
  intro c hc
  exact decide_eq_true (by have := h c (by simpa using hc); omega)
theorem asc_of {x : Str} (h : (x.cps.toList.all fun c => Nat.blt c 128) = true) : asc x := fun c hc => by
  have := List.all_eq_true.mp h c hc
  rwa [Nat.blt_eq] at this
theorem asc_int (i : Int) : asc (toString i : Str) := fun c hc => by
  have e : (toString i : Str).cps.toList = (toString i).toList.map Char.toNat := PyProof.Rows.signs_ofString _
  rw [e, List.mem_map] at hc
  obtain ⟨d, hd, rfl⟩ := hc
  exact int_ascii i d hd
theorem asc_reprChar : ∀ c < 128, ∀ q, q = 39 ∨ q = 34 → ∀ d ∈ reprChar q c, d < 128 := by
  have h : ((List.range 128).all fun c => (reprChar 39 c).all (fun d => Nat.blt d 128) && (reprChar 34 c).all fun d => Nat.blt d 128) = true := by decide +kernel
  intro c hc q hq d hd
  have := List.all_eq_true.mp h c (List.mem_range.mpr hc)
  rw [Bool.and_eq_true, List.all_eq_true, List.all_eq_true] at this
  rcases hq with rfl | rfl
  · have := this.1 d hd; rwa [Nat.blt_eq] at this
  · have := this.2 d hd; rwa [Nat.blt_eq] at this
theorem asc_repr {x : Str} (h : asc x) : asc (reprText x) := by
  have hq : reprQuote x = 39 ∨ reprQuote x = 34 := by unfold reprQuote; split <;> simp
  have key : ∀ (l : List Nat) (acc : Array Nat), (∀ c ∈ l, c < 128) → (∀ d ∈ acc.toList, d < 128) → ∀ d ∈ (l.foldl (fun out c => out ++ (reprChar (reprQuote x) c).toArray) acc).toList, d < 128 := fun l => by
    induction l with
    | nil => intro acc _ h; exact h
    | cons c l ih =>
      intro acc h1 h2
      refine ih _ (fun c hc => h1 c (by simp [hc])) fun d hd => ?_
      rw [Array.toList_append, List.mem_append] at hd
      rcases hd with hd | hd
      · exact h2 d hd
      · exact asc_reprChar c (h1 c (by simp)) _ hq d hd
  intro c hc
  unfold reprText at hc
  rw [Array.toList_push, List.mem_append, ← Array.foldl_toList] at hc
  rcases hc with hc | hc
  · exact key _ _ h (fun d hd => by simp at hd; rcases hq with q | q <;> omega) c hc
  · simp at hc; rcases hq with q | q <;> omega
theorem asc_from : ∀ (ts : List Str) (k : Nat) (acc : Str), asc acc → (∀ t ∈ ts, asc t) → asc (textFrom k acc ts)
  | [], _, _, h, _ => h
  | t :: r, k, acc, h, h2 => by
    refine asc_from r (k + 1) _ (asc_app (asc_app h ?_) (h2 t (by simp))) fun u hu => h2 u (by simp [hu])
    split <;> exact asc_of (by decide)
theorem asc_list {ts : List Str} (h : ∀ t ∈ ts, asc t) : asc (listText ts) := asc_app (asc_from ts 0 _ (asc_of (by decide)) h) (asc_of (by decide))
theorem asc_join {sep : Str} (hs : asc sep) : ∀ {ts : List Str}, (∀ t ∈ ts, asc t) → asc (Str.join sep ts) := by
  intro ts h
  induction ts with
  | nil => exact fun c hc => by cases hc
  | cons x r ih =>
    cases r with
    | nil => exact h x (by simp)
    | cons y r => exact asc_app (asc_app (h x (by simp)) hs) (ih fun t ht => h t (by simp [ht]))
theorem asc_tup {ts : List Str} (h : ∀ t ∈ ts, asc t) : asc (tupleText ts) := by
  unfold tupleText
  refine asc_app (asc_app (asc_of (by decide)) (asc_join (asc_of (by decide)) h)) ?_
  split <;> exact asc_of (by decide)
/-! ### repr -/
mutual
/-- what repr shows: no dicts, no great numbers, plain signs -/
def rok : D → Bool
  | .non => true
  | .bl _ => true
  | .int i => smallI (10 ^ 500) i
  | .str x => x.cps.toList.all fun c => Nat.blt c 128
  | .lst l => rokL l
  | .tup l => rokL l
  | _ => false
def rokL : List D → Bool
  | [] => true
  | d :: r => rok d && rokL r
end
theorem rok_int {i : Int} (h : smallI (10 ^ 500) i = true) : i.natAbs < 10 ^ 500 := by
  rw [smallI_iff] at h
  obtain ⟨h1, h2⟩ := h
  have e : ((10 ^ 500 : Nat) : Int) = (10 ^ 500 : Nat) := rfl
  generalize (10 ^ 500 : Nat) = n at *
  omega
mutual
theorem rok_flat : ∀ {d : D}, rok d = true → flatD d = true ∧ (toPy d).showable = true ∧ (toPy d).leavesShort 600 = true
  | .non, _ => by simp only [flatD, toPy, PyData.showable, PyData.leavesShort]; simp
  | .bl _, _ => by simp only [flatD, toPy, PyData.showable, PyData.leavesShort]; simp
  | .int i, h => by
    have h : smallI (10 ^ 500) i = true := h
    have h1 := rok_int h
    refine ⟨rfl, ?_, ?_⟩
    · simp only [toPy, PyData.showable, decide_eq_true_eq]
      have h2 : i.natAbs < 2 ^ 1920 := Nat.lt_trans h1 (by decide +kernel)
      exact PySem.Flt.log2_lt_of (by decide) h2
    · simp only [toPy, PyData.leavesShort]
      refine decide_eq_true ?_
      have := int_text_length_le10 (a := i) (k := 500) (by decide) h1
      have e : Str.length (PyData.shown (.int i)) = (toString i).length := by
        simp only [PyData.shown]
        show (Str.ofString (toString i)).length = _
        exact PySem.ofString_length _
      omega
  | .str x, h => by
    refine ⟨rfl, by simp only [toPy, PyData.showable], ?_⟩
    simp only [toPy, PyData.leavesShort]
    have h : (x.cps.toList.all fun c => Nat.blt c 128) = true := h
    rw [List.all_eq_true] at h ⊢
    exact fun c hc => decide_eq_true (by have := h c hc; rw [Nat.blt_eq] at this; omega)
  | .lst l, h => by
    obtain ⟨h1, h2, h3⟩ := rokL_flat (l := l) h
    exact ⟨h1, by simpa only [toPy, PyData.showable] using h2, by simpa only [toPy, PyData.leavesShort] using h3⟩
  | .tup l, h => by
    obtain ⟨h1, h2, h3⟩ := rokL_flat (l := l) h
    exact ⟨h1, by simpa only [toPy, PyData.showable] using h2, by simpa only [toPy, PyData.leavesShort] using h3⟩
  | .dic _, h => by cases h
  | .dit _, h => by cases h
  | .raw _, h => by cases h
  | .ins _ _, h => by cases h
  | .exn _ _, h => by cases h
theorem rokL_flat : ∀ {l : List D}, rokL l = true → flatL l = true ∧ PyData.showableAll (toPyL l) = true ∧ PyData.leavesShortAll 600 (toPyL l) = true
  | [], _ => by simp only [flatL, toPyL, PyData.showableAll, PyData.leavesShortAll]; simp
  | d :: r, h => by
    have h : (rok d && rokL r) = true := h
    rw [Bool.and_eq_true] at h
    obtain ⟨h1, h2, h3⟩ := rok_flat h.1
    obtain ⟨g1, g2, g3⟩ := rokL_flat h.2
    simp only [flatL, toPyL, PyData.showableAll, PyData.leavesShortAll, h1, h2, h3, g1, g2, g3]
    simp
end
theorem rpr_ok {d : D} (h : rok d = true) (hd : (toPy d).depth ≤ 60) (hw : (toPy d).weight ≤ 27000) : rprF [d] = some (.str (toPy d).shown) := by
  obtain ⟨h1, h2, h3⟩ := rok_flat h
  have h4 := PyData.shown_le 600 (by decide) _ h3
  have hz : sizeLine = 16777216 := sizeLine_eq
  show (if ((flatD d || flatE d) && (toPy d).showable && decide ((toPy d).depth ≤ 60) && decide ((toPy d).shown.length ≤ sizeLine)) = true then some (D.str (toPy d).shown) else none) = some (D.str (toPy d).shown)
  rw [if_pos]
  rw [h1, h2, decide_eq_true hd, decide_eq_true (by omega)]
  rfl
mutual
theorem rok_asc : ∀ {d : D}, rok d = true → asc (toPy d).shown
  | .non, _ => by simp only [toPy, PyData.shown]; exact asc_of (by decide)
  | .bl b, _ => by simp only [toPy, PyData.shown]; cases b <;> exact asc_of (by decide)
  | .int i, h => by simp only [toPy, PyData.shown]; exact asc_int i
  | .str x, h => by simp only [toPy, PyData.shown]; exact asc_repr (asc_of h)
  | .lst l, h => by simp only [toPy, PyData.shown]; exact asc_list (rokL_asc (l := l) h)
  | .tup l, h => by simp only [toPy, PyData.shown]; exact asc_tup (rokL_asc (l := l) h)
  | .dic _, h => by cases h
  | .dit _, h => by cases h
  | .raw _, h => by cases h
  | .ins _ _, h => by cases h
  | .exn _ _, h => by cases h
theorem rokL_asc : ∀ {l : List D}, rokL l = true → ∀ t ∈ PyData.shownAll (toPyL l), asc t
  | [], _, t, ht => by simp only [toPyL, PyData.shownAll] at ht; cases ht
  | d :: r, h, t, ht => by
    have h : (rok d && rokL r) = true := h
    rw [Bool.and_eq_true] at h
    simp only [toPyL, PyData.shownAll] at ht
    rcases List.mem_cons.mp ht with rfl | ht
    · exact rok_asc h.1
    · exact rokL_asc h.2 t ht
end
/-- equal texts of repr -/
theorem rpr_same {d : D} (h : rok d = true) (hd : (toPy d).depth ≤ 60) (hw : (toPy d).weight ≤ 27000) : ∃ x : Str, rprF [d] = some (.str x) ∧ PyData.strOk x = true := ⟨_, rpr_ok h hd hw, asc_strOk (rok_asc h)⟩
end Fx

/-! G: the laws' numbers: a source of a script's number, draws. -/
namespace Fx
open PySem PySem.Spec PyProof.Rows L2
theorem small62_ {a : Int} (h : -4611686018427387904 < a) (h2 : a < 4611686018427387904) : small62 a = true := smallI_iff.mpr ⟨h, h2⟩
theorem rngL_len {a b : Int} : (rngL a b).length = (b - a).toNat := by unfold rngL; simp
theorem rngL_nat (n : Nat) : rngL 0 n = (List.range n).map fun (i : Nat) => D.int i := by
  unfold rngL
  simp
theorem rng_mem {m : Int} {d : D} (h : d ∈ rngL 0 m) : ∃ k : Nat, (k : Int) < m ∧ d = .int k := by
  unfold rngL at h
  obtain ⟨i, hi, rfl⟩ := List.mem_map.mp h
  rw [List.mem_range] at hi
  exact ⟨i, by omega, by simp⟩
/-- a source: two whole numbers -/
def src (a b : Int) : D := .lst [.int a, .int b]
def drawM (s n : D) : O D :=
  bindO (ixD2 s (.int 0)) fun z3 =>
  bindB (gtD z3 (.int 0)) fun b4 =>
  if b4 then
  bindO (ixD2 s (.int 0)) fun z5 =>
  bindO (modD z5 n) fun z6 =>
  bindO (ixD2 s (.int 0)) fun z7 =>
  bindO (divD z7 n) fun z8 =>
  bindO (putI s (.int 0) z8) fun c9 =>
  .rt z6 c9
  else
  bindO (ixD2 s (.int 1)) fun z10 =>
  bindO (asL false (mulD z10 (.int 48271))) fun z11 =>
  bindO (asL false (addD z11 (.int 11))) fun z12 =>
  bindO (modD z12 (.int 2147483647)) fun z13 =>
  bindO (putI s (.int 1) z13) fun c14 =>
  bindO (ixD2 c14 (.int 1)) fun z15 =>
  bindO (ixD2 c14 (.int 1)) fun z16 =>
  bindO (asL false (mulD z15 z16)) fun z17 =>
  bindO (modD z17 (.int 2147483629)) fun z18 =>
  bindO (divD z18 (.int 16)) fun z19 =>
  bindO (modD z19 n) fun z20 =>
  .rt z20 c14
@[simp] theorem ix_0 (x y : D) : ixD2 (.lst [x, y]) (.int 0) = some x := rfl
@[simp] theorem ix_1 (x y : D) : ixD2 (.lst [x, y]) (.int 1) = some y := rfl
@[simp] theorem put_0 (x y z : D) : putI (.lst [x, y]) (.int 0) z = some (.lst [z, y]) := rfl
@[simp] theorem put_1 (x y z : D) : putI (.lst [x, y]) (.int 1) z = some (.lst [x, z]) := rfl
theorem small_fmod (a : Int) {m : Int} (h0 : 0 < m) (h1 : m ≤ 18446744073709551616) : smallI 18446744073709551616 (a.fmod m) = true := by
  have h2 : 0 ≤ a.fmod m := Int.fmod_nonneg_of_pos _ h0
  have h3 : a.fmod m < m := Int.fmod_lt_of_pos _ h0
  refine small_of ?_ ?_ <;> omega
/-- a draw below m -/
theorem draw_ok (a b m : Int) (h0 : 0 < m) (h1 : divIn m = true) : ∃ r a' b', drawM (src a b) (.int m) = .rt (.int r) (src a' b') ∧ 0 ≤ r ∧ r < m := by
  have hm : m ≠ 0 := by omega
  unfold drawM src
  simp only [ix_0, bindO_s, gtD_i, bindB_s]
  by_cases h : 0 < a
  · simp only [decide_eq_true h, if_true, modD_i, if_pos hm, bindO_s, ix_0, divD_i, if_pos h1, put_0]
    exact ⟨_, _, _, rfl, Int.fmod_nonneg_of_pos _ h0, Int.fmod_lt_of_pos _ h0⟩
  · have e1 : mulIn b 48271 = true := mul_r (by decide)
    have e2 : divIn 16 = true := by decide
    simp only [decide_eq_false h, Bool.false_eq_true, if_false, ix_1, bindO_s, mulD_i, if_pos e1, asL_f, addD_i, modD_i]
    rw [if_pos (by decide)]
    simp only [bindO_s, put_1, ix_1, mulD_i]
    rw [if_pos (mul_l (small_fmod _ (by decide) (by decide)))]
    simp only [asL_f, bindO_s, modD_i]
    rw [if_pos (by decide)]
    simp only [bindO_s, divD_i, if_pos e2, modD_i, if_pos hm]
    exact ⟨_, _, _, rfl, Int.fmod_nonneg_of_pos _ h0, Int.fmod_lt_of_pos _ h0⟩
theorem draw_nat (a b : Int) (m : Nat) (h0 : 0 < m) (h1 : m < 1000000000) : ∃ (r : Nat) (a' b' : Int), drawM (src a b) (.int m) = .rt (.int r) (src a' b') ∧ r < m := by
  obtain ⟨r, a', b', e, l1, l2⟩ := draw_ok a b m (by omega) (div_of (by omega) (by omega))
  obtain ⟨k, rfl⟩ := Int.eq_ofNat_of_zero_le l1
  exact ⟨k, a', b', e, by omega⟩
def sourceM (script1 k2 : D) : O Unit :=
  bindI (asI (.int 63)) fun o3 =>
  bindO (asL false (cutD script1 none o3)) fun z4 =>
  bindO (sumF [z4]) fun z5 =>
  bindO (asL false (mulD (.int 7) z5)) fun z6 =>
  bindO (asL false (addD z6 k2)) fun z7 =>
  bindO (lenF [script1]) fun z8 =>
  bindB (ltD k2 z8) fun b9 =>
  O.fin (σ := D) (if b9 then
  bindO (ixD2 script1 k2) fun z10 =>
  .nx z10
  else
  .nx z7) (fun s11 =>
  bindO (absF [s11]) fun z16 =>
  bindO (modD z16 (.int 2147483629)) fun z17 =>
  bindO (asL false (mulD (.int 7919) k2)) fun z18 =>
  bindO (asL false (mulD z18 k2)) fun z19 =>
  bindO (asL false (addD z17 z19)) fun z20 =>
  bindO (asL false (mulD (.int 31) k2)) fun z21 =>
  bindO (asL false (addD z20 z21)) fun z22 =>
  bindO (asL false (addD z22 (.int 17))) fun z23 =>
  bindO (asL false (mulD z23 (.int 48271))) fun z24 =>
  bindO (modD z24 (.int 2147483647)) fun z25 =>
  bindO (powD (.int 10) (.int 18)) fun z26 =>
  bindB (geD z16 z26) fun b27 =>
  bindO (intF [.bl b27]) fun z28 =>
  bindO (asL false (mulD z16 z28)) fun z29 =>
  bindO (asL false (mulD z25 z25)) fun z30 =>
  bindO (modD z30 (.int 2147483629)) fun z31 =>
  .rt (.lst [z29, z31]) ())
  (fun r14 s12 => .no)
  fun x15 s13 => .ex x15 ()
theorem ints_map (ns : List Int) : intsD (ns.map D.int) = some ns := by
  induction ns with
  | nil => rfl
  | cons n r ih => simp only [List.map_cons, intsD, ih]; rfl
theorem cutL_map {α : Type} (f : α → D) (l : List α) (lo hi : Option Int) : ∃ l' : List α, cutL (l.map f) lo hi = l'.map f ∧ ∀ x ∈ l', x ∈ l := by
  unfold cutL
  rw [List.length_map, ← List.map_drop, ← List.map_take]
  exact ⟨_, rfl, fun x hx => List.mem_of_mem_drop (List.mem_of_mem_take hx)⟩
theorem source_ok (ns : List Int) (k : Nat) (h1 : k < 100) : ∃ a b, sourceM (.lst (ns.map .int)) (.int k) = .rt (src a b) () := by
  obtain ⟨l', hl, _⟩ := cutL_map D.int ns none (some 63)
  unfold sourceM
  have ec : cutD (.lst (ns.map .int)) none (some 63) = some (.lst (l'.map .int)) := by show some (D.lst _) = _; rw [hl]
  have es : sumF [.lst (l'.map .int)] = some (.int l'.sum) := by show (intsD _).map _ = _; rw [ints_map]; rfl
  have k64 : smallI 18446744073709551616 (k : Int) = true := small_of (by omega) (by omega)
  have e7 : mulIn 7 l'.sum = true := mul_l (by decide)
  simp only [asI_int, bindI_s, asL_f, ec, bindO_s, es, mulD_i, if_pos e7, addD_i, lenF_l, ltD_i, bindB_s, List.length_map]
  have tail : ∀ z : Int, ∃ a b, (bindO (absF [.int z]) fun z16 =>
      bindO (modD z16 (.int 2147483629)) fun z17 =>
      bindO (if mulIn 7919 k = true then some (.int (7919 * k)) else none) fun z18 =>
      bindO (mulD z18 (.int k)) fun z19 =>
      bindO (addD z17 z19) fun z20 =>
      bindO (if mulIn 31 k = true then some (.int (31 * k)) else none) fun z21 =>
      bindO (addD z20 z21) fun z22 =>
      bindO (addD z22 (.int 17)) fun z23 =>
      bindO (mulD z23 (.int 48271)) fun z24 =>
      bindO (modD z24 (.int 2147483647)) fun z25 =>
      bindO (powD (.int 10) (.int 18)) fun z26 =>
      bindB (geD z16 z26) fun b27 =>
      bindO (intF [.bl b27]) fun z28 =>
      bindO (mulD z16 z28) fun z29 =>
      bindO (mulD z25 z25) fun z30 =>
      bindO (modD z30 (.int 2147483629)) fun z31 =>
      (.rt (.lst [z29, z31]) () : O Unit)) = .rt (src a b) () := fun z => by
    generalize hx : (if z < 0 then -z else z) = x
    have hp : powD (.int 10) (.int 18) = some (.int 1000000000000000000) := rfl
    have m1 : mulIn 7919 k = true := mul_r k64
    have m2 : mulIn 31 k = true := mul_r k64
    have m3 : mulIn (7919 * k) k = true := mul_r k64
    have n1 : (2147483629 : Int) ≠ 0 := by decide
    have n2 : (2147483647 : Int) ≠ 0 := by decide
    simp only [absF_i, hx, bindO_s, modD_i, if_pos n1, if_pos m1, if_pos m2, mulD_i, if_pos m3, addD_i, if_pos (mul_r (a := (x.fmod 2147483629 + 7919 * (k : Int) * k + 31 * k + 17)) (b := 48271) (by decide)), if_pos n2, hp, geD_i, bindB_s, intF_b]
    rw [if_pos (mul_r (by split <;> decide)), bindO_s, if_pos (mul_r (small_fmod _ (by decide) (by decide))), bindO_s, modD_i, if_pos n1, bindO_s]
    exact ⟨_, _, rfl⟩
  by_cases hk : (k : Int) < ns.length
  · have hi : k < ns.length := by omega
    have ix : ixD2 (.lst (ns.map .int)) (.int k) = some (.int ns[k]) := by
      show atI (ns.map D.int) k = _
      exact atI_nat (by rw [List.getElem?_map, List.getElem?_eq_getElem hi]; rfl)
    simp only [decide_eq_true hk, if_true, ix, bindO_s, fin_nx]
    exact tail _
  · simp only [decide_eq_false hk, Bool.false_eq_true, if_false, fin_nx]
    exact tail _
end Fx

/-! G: the laws' names. -/
namespace Fx
open PySem PySem.Spec PyProof.Rows L2
def alph : Str := "abcdefghijklmnopqrstuvwxyz"
def chr1 (i : Nat) : Str := ⟨#[97 + i]⟩
def stepL : List Nat := [1, 3, 5, 7, 9, 11, 15, 17, 19, 21, 23, 25]
def tailL : List Str := ["", "", "q", "abcd"]
def nmAt (start step : Nat) (tail : Str) (k : Nat) : Str := repS (chr1 ((start + step * k) % 26)) (1 + k / 26) ++ tail
def namesL1 (z11 r3 z16 d19 s18 : D) : O D :=
  bindO (asL false (mulD z11 d19)) fun z20 =>
  bindO (asL false (addD r3 z20)) fun z21 =>
  bindO (modD z21 (.int 26)) fun z22 =>
  bindO (ixD2 (.str "abcdefghijklmnopqrstuvwxyz") z22) fun z23 =>
  bindO (divD d19 (.int 26)) fun z24 =>
  bindO (asL false (addD (.int 1) z24)) fun z25 =>
  bindO (asL false (mulD z23 z25)) fun z26 =>
  bindO (asL false (addD z26 z16)) fun z27 =>
  bindL (lstD s18) fun l28 =>
  bindL (appD l28 z27) fun l29 =>
  .nx (.lst l29)
def namesM (s n : D) : O D :=
  O.val (drawM s (.int 26)) (fun r3 s4 =>
  O.val (drawM s4 (.int 12)) (fun r7 s8 =>
  bindO (ixD2 (.lst [.int 1, .int 3, .int 5, .int 7, .int 9, .int 11, .int 15, .int 17, .int 19, .int 21, .int 23, .int 25]) r7) fun z11 =>
  O.val (drawM s8 (.int 4)) (fun r12 s13 =>
  bindO (ixD2 (.lst [.str "", .str "", .str "q", .str "abcd"]) r12) fun z16 =>
  bindL (rg1 [n]) fun w17 =>
  O.fin (σ := D) (loopF (fun _ => namesL1 z11 r3 z16) 0 w17 (.lst [])) (fun s30 =>
  .rt s30 s13)
  (fun r33 s31 => .rt r33 s13)
  fun x34 s32 => .ex x34 s13) fun x15 s14 =>
  .ex x15 s14) fun x10 s9 =>
  .ex x10 s9) fun x6 s5 =>
  .ex x6 s5
theorem alph_at : ∀ i, i < 26 → ixD2 (.str "abcdefghijklmnopqrstuvwxyz") (.int (i : Nat)) = some (.str (chr1 i)) := by
  have h : ((List.range 26).all fun i => match ixD2 (.str "abcdefghijklmnopqrstuvwxyz") (.int (i : Nat)) with | some (.str x) => decide (x = chr1 i) | _ => false) = true := by decide +kernel
  intro i hi
  have h2 := List.all_eq_true.mp h i (List.mem_range.mpr hi)
  split at h2
  · rename_i x e
    rw [e, of_decide_eq_true h2]
  · cases h2
theorem rep_cps (c : Nat) : ∀ (n : Nat) (acc : Array Nat), (List.replicate n (#[c] : Array Nat)).foldl (· ++ ·) acc = acc ++ (List.replicate n c).toArray
  | 0, acc => by simp
  | n + 1, acc => by
    rw [List.replicate_succ, List.foldl_cons, rep_cps c n]
    apply Array.ext'
    simp [List.replicate_succ]
theorem nm_cps (start step k : Nat) (tail : Str) : (nmAt start step tail k).cps.toList = List.replicate (1 + k / 26) (97 + (start + step * k) % 26) ++ tail.cps.toList := by
  show ((repS (chr1 ((start + step * k) % 26)) (1 + k / 26)) ++ tail).cps.toList = _
  have e : (repS (chr1 ((start + step * k) % 26)) (1 + k / 26)).cps = (List.replicate (1 + k / 26) (97 + (start + step * k) % 26)).toArray := by
    show (List.replicate (1 + k / 26) (#[97 + (start + step * k) % 26] : Array Nat)).foldl (· ++ ·) #[] = _
    rw [rep_cps]; simp
  show ((repS (chr1 ((start + step * k) % 26)) (1 + k / 26)).cps ++ tail.cps).toList = _
  rw [e]; simp
structure NmOk (x : Str) : Prop where
  lo : 1 ≤ x.cps.size
  hi : x.cps.size ≤ 8
  az : ∀ c ∈ x.cps.toList, 97 ≤ c ∧ c ≤ 122
theorem nm_inj {start step : Nat} (hs : step ∈ stepL) {tail : Str} {j k : Nat} (e : nmAt start step tail j = nmAt start step tail k) : j = k := by
  have h := congrArg (fun x : Str => x.cps.toList) e
  simp only [nm_cps] at h
  have hl := congrArg List.length h
  simp at hl
  have h1 : j / 26 = k / 26 := by omega
  rw [h1] at h
  have h2 := List.append_cancel_right h
  have h3 : (start + step * j) % 26 = (start + step * k) % 26 := by
    have h4 := congrArg List.head? h2
    rw [Nat.add_comm 1, List.replicate_succ, List.replicate_succ] at h4
    simp at h4
    omega
  simp only [stepL, List.mem_cons, List.mem_nil_iff, or_false] at hs
  rcases hs with rfl | rfl | rfl | rfl | rfl | rfl | rfl | rfl | rfl | rfl | rfl | rfl <;> omega
theorem tail_ok : ∀ t ∈ tailL, t.cps.size ≤ 4 ∧ ∀ c ∈ t.cps.toList, 97 ≤ c ∧ c ≤ 122 := by decide
theorem nm_size (start step k : Nat) (tail : Str) : (nmAt start step tail k).cps.size = 1 + k / 26 + tail.cps.size := by
  have h := congrArg List.length (nm_cps start step k tail)
  simpa using h
theorem nm_ok {start step k : Nat} {tail : Str} (ht : tail ∈ tailL) (hk : k < 104) : NmOk (nmAt start step tail k) := by
  obtain ⟨h1, h2⟩ := tail_ok tail ht
  refine ⟨by rw [nm_size]; omega, by rw [nm_size]; omega, fun c hc => ?_⟩
  rw [nm_cps] at hc
  rcases List.mem_append.mp hc with hc | hc
  · have := (List.mem_replicate.mp hc).2
    have : (start + step * k) % 26 < 26 := Nat.mod_lt _ (by decide)
    omega
  · exact h2 c hc
theorem namesL1_ok {start step k : Nat} {tail : Str} {l : List D} (hs : step < 26) (h0 : start < 26) (hk : k < 104) (ht : tail.cps.size ≤ 4) (hl : l.length < sizeLine) :
    namesL1 (.int (step : Nat)) (.int (start : Nat)) (.str tail) (.int (k : Nat)) (.lst l) = .nx (.lst (l ++ [.str (nmAt start step tail k)])) := by
  unfold namesL1
  have e1 : mulIn (step : Int) (k : Int) = true := mul_l (small_of (by omega) (by omega))
  have e2 : ((start : Int) + (step : Int) * (k : Int)).fmod 26 = (((start + step * k) % 26 : Nat) : Int) := by
    rw [Int.fmod_eq_emod_of_nonneg _ (by decide)]
    omega
  have e3 : ((k : Nat) : Int).fdiv 26 = ((k / 26 : Nat) : Int) := by
    rw [Int.fdiv_eq_ediv_of_nonneg _ (by decide)]
    omega
  simp only [mulD_i, if_pos e1, asL_f, bindO_s, addD_i, modD_i]
  rw [if_pos (by decide)]
  rw [e2]
  simp only [bindO_s]
  rw [alph_at _ (Nat.mod_lt _ (by decide))]
  simp only [bindO_s, divD_i]
  rw [if_pos (by decide), e3]
  simp only [bindO_s, addD_i, asL_f]
  have e4 : (1 : Int) + ((k / 26 : Nat) : Int) = ((1 + k / 26 : Nat) : Int) := by omega
  rw [e4]
  have hz : sizeLine = 16777216 := sizeLine_eq
  have e5 : mulD (.str (chr1 ((start + step * k) % 26))) (.int ((1 + k / 26 : Nat) : Int)) = some (.str (repS (chr1 ((start + step * k) % 26)) (1 + k / 26))) := by
    show (if 0 < ((1 + k / 26 : Nat) : Int) ∧ ((1 + k / 26 : Nat) : Int) < 1000 ∧ (chr1 ((start + step * k) % 26)).length * ((1 + k / 26 : Nat) : Int).toNat ≤ sizeLine then some (D.str (repS (chr1 ((start + step * k) % 26)) ((1 + k / 26 : Nat) : Int).toNat)) else none) = _
    have el : (chr1 ((start + step * k) % 26)).length = 1 := rfl
    rw [if_pos ⟨by omega, by omega, by rw [el]; omega⟩, Int.toNat_natCast]
  rw [e5]
  simp only [asL_f, bindO_s]
  have e6 : addD (.str (repS (chr1 ((start + step * k) % 26)) (1 + k / 26))) (.str tail) = some (.str (nmAt start step tail k)) := by
    have es : (nmAt start step tail k).cps.size = 1 + k / 26 + tail.cps.size := nm_size _ _ _ _
    have es2 : (repS (chr1 ((start + step * k) % 26)) (1 + k / 26)).length + tail.length = (nmAt start step tail k).cps.size := by
      show (repS (chr1 ((start + step * k) % 26)) (1 + k / 26)).cps.size + tail.cps.size = ((repS (chr1 ((start + step * k) % 26)) (1 + k / 26)).cps ++ tail.cps).size
      simp
    show (if _ then _ else _) = _
    rw [if_pos (by rw [es2, es]; omega)]
    rfl
  rw [e6]
  simp only [asL_f, bindO_s, lstD_lst, bindL_s]
  show bindL (if l.length < sizeLine then some (l ++ [.str (nmAt start step tail k)]) else none) _ = _
  rw [if_pos hl]
  rfl
theorem step_at : ∀ r, r < 12 → ∃ t ∈ stepL, ixD2 (.lst [.int 1, .int 3, .int 5, .int 7, .int 9, .int 11, .int 15, .int 17, .int 19, .int 21, .int 23, .int 25]) (.int (r : Nat)) = some (.int (t : Nat)) := by
  intro r hr
  match r, hr with
  | 0, _ => exact ⟨1, by decide, rfl⟩
  | 1, _ => exact ⟨3, by decide, rfl⟩
  | 2, _ => exact ⟨5, by decide, rfl⟩
  | 3, _ => exact ⟨7, by decide, rfl⟩
  | 4, _ => exact ⟨9, by decide, rfl⟩
  | 5, _ => exact ⟨11, by decide, rfl⟩
  | 6, _ => exact ⟨15, by decide, rfl⟩
  | 7, _ => exact ⟨17, by decide, rfl⟩
  | 8, _ => exact ⟨19, by decide, rfl⟩
  | 9, _ => exact ⟨21, by decide, rfl⟩
  | 10, _ => exact ⟨23, by decide, rfl⟩
  | 11, _ => exact ⟨25, by decide, rfl⟩
theorem tail_at : ∀ r, r < 4 → ∃ t ∈ tailL, ixD2 (.lst [.str "", .str "", .str "q", .str "abcd"]) (.int (r : Nat)) = some (.str t) := by
  intro r hr
  match r, hr with
  | 0, _ => exact ⟨"", by decide, rfl⟩
  | 1, _ => exact ⟨"", by decide, rfl⟩
  | 2, _ => exact ⟨"q", by decide, rfl⟩
  | 3, _ => exact ⟨"abcd", by decide, rfl⟩
theorem names_ok (a b : Int) (n : Nat) (hn : n ≤ 104) : ∃ (a' b' : Int) (xs : List Str), namesM (src a b) (.int n) = .rt (.lst (xs.map .str)) (src a' b') ∧ xs.length = n ∧ xs.Nodup ∧ (∀ x ∈ xs, NmOk x) ∧ (n ≤ 26 → ∀ x ∈ xs, x.cps.size ≤ 5) := by
  obtain ⟨start, a1, b1, d1, l1⟩ := draw_nat a b 26 (by decide) (by decide)
  obtain ⟨r2, a2, b2, d2, l2⟩ := draw_nat a1 b1 12 (by decide) (by decide)
  obtain ⟨r3, a3, b3, d3, l3⟩ := draw_nat a2 b2 4 (by decide) (by decide)
  obtain ⟨step, hst, e2⟩ := step_at r2 l2
  obtain ⟨tail, htl, e3⟩ := tail_at r3 l3
  have hz : sizeLine = 16777216 := sizeLine_eq
  have hs26 : step < 26 := by
    have : ∀ t ∈ stepL, t < 26 := by decide
    exact this _ hst
  refine ⟨a3, b3, (List.range n).map fun k => nmAt start step tail k, ?_, by simp, ?_, ?_, ?_⟩
  · have d1 : drawM (src a b) (.int 26) = _ := d1
    have d2 : drawM (src a1 b1) (.int 12) = _ := d2
    have d3 : drawM (src a2 b2) (.int 4) = _ := d3
    unfold namesM
    rw [d1, val_rt, d2, val_rt, e2, bindO_s, d3, val_rt, e3, bindO_s, rg1_i, if_pos (small62_ (by omega) (by omega)), bindL_s, rngL_nat]
    have key : ∀ (m : List Nat) (i : Nat) (acc : List D), (∀ k ∈ m, k < 104) → acc.length + m.length ≤ 1000 → loopF (fun _ => namesL1 (.int (step : Nat)) (.int (start : Nat)) (.str tail)) i (m.map fun (k : Nat) => D.int k) (.lst acc) = .nx (.lst (acc ++ m.map fun k => .str (nmAt start step tail k))) := by
      intro m
      induction m with
      | nil => intro i acc _ _; simp [loopF]
      | cons k m ih =>
        intro i acc h1 h2
        rw [List.length_cons] at h2
        rw [List.map_cons, loopF_cons, namesL1_ok hs26 l1 (h1 k (by simp)) (tail_ok tail htl).1 (by omega)]
        show loopF _ _ _ _ = _
        rw [ih _ _ (fun z hz => h1 z (by simp [hz])) (by simp; omega)]
        simp
    have h := key (List.range n) 0 [] (fun k hk => by have := List.mem_range.mp hk; omega) (by simp; omega)
    rw [h, fin_nx]
    simp
  · exact List.pairwise_map.mpr ((List.nodup_range (n := n)).imp fun h e => h (nm_inj hst e))
  · intro x hx
    obtain ⟨k, hk, rfl⟩ := List.mem_map.mp hx
    exact nm_ok htl (by have := List.mem_range.mp hk; omega)
  · intro hn x hx
    obtain ⟨k, hk, rfl⟩ := List.mem_map.mp hx
    rw [nm_size]
    have h1 := List.mem_range.mp hk
    have h2 := (tail_ok tail htl).1
    omega
end Fx

/-! G: the laws' graphs. -/
namespace Fx
open PySem PySem.Spec PyProof.Rows L2
abbrev Dart := Str × Int
def dD (d : Dart) : D := .tup [.str d.1, .int d.2]
def rowD (r : List Dart) : D := .lst (r.map dD)
abbrev Gr := List (Str × List Dart)
def vD (p : Str × List Dart) : D := .tup [.str p.1, rowD p.2]
def gD (g : Gr) : D := .lst (g.map vD)
def dartsOf (g : Gr) : List Dart := g.flatMap (·.2)
/-- a graph: its vertices' names, its darts -/
structure GrOk (g : Gr) : Prop where
  vn : (g.map (·.1)).Nodup
  vo : ∀ p ∈ g, NmOk p.1
  dn : (dartsOf g).Nodup
  no : ∀ d ∈ dartsOf g, NmOk d.1 ∧ (d.2 = 0 ∨ d.2 = 1)
  op : ∀ x, (x, 0) ∈ dartsOf g ↔ (x, 1) ∈ dartsOf g
/-! ### its making -/
def graphL1 (vertices2 d17 d20 : D) (s19 : D × D) : O (D × D) :=
  O.val (drawM s19.1 vertices2) (fun r21 s22 =>
  bindN (ixNd s19.2 r21) fun n25 =>
  bindO (nthD s19.2 n25) fun row26 =>
  bindO (lenF [row26]) fun z27 =>
  bindO (asL false (addD z27 (.int 1))) fun z28 =>
  O.val (drawM s22 z28) (fun r29 s30 =>
  bindL (lstD row26) fun l33 =>
  bindMu (gIns l33 [r29, .tup [d17, d20]]) fun l34 z35 =>
  bindO (setP s19.2 [.ix n25] (.lst l34)) fun all36 =>
  .nx (s30, all36)) fun x32 s31 =>
  .ex x32 (s31, s19.2)) fun x24 s23 =>
  .ex x24 (s23, s19.2)
def graphL2 (vertices2 d17 : D) (s16 : D × D) : O (D × D) :=
  bindL (itL (.lst [.int 0, .int 1])) fun w18 =>
  O.fin (σ := D × D) (loopF (fun _ => graphL1 vertices2 d17) 0 w18 (s16.1, s16.2)) (fun s37 =>
  .nx (s37.1, s37.2))
  (fun r40 s38 => .rt r40 (s38.1, s38.2))
  fun x41 s39 => .ex x41 (s39.1, s39.2)
def graphM (sourcehere1 vertices2 many3 : D) : O D :=
  bindL (rg1 [vertices2]) fun w4 =>
  O.val (σ := Unit) (cmpA (fun acc5 d6 s7 =>
  bindO (addL acc5 (.lst [])) fun acc8 =>
  .rt acc8 ()) w4 (.lst []) ()) (fun c9 s10 =>
  O.val (namesM sourcehere1 many3) (fun r11 s12 =>
  bindL (itL r11) fun w15 =>
  O.fin (σ := D × D) (loopF (fun _ => graphL2 vertices2) 0 w15 (s12, c9)) (fun s42 =>
  O.val (namesM s42.1 vertices2) (fun r47 s48 =>
  bindL (zipD [r47, s42.2]) fun w51 =>
  O.val (σ := Unit) (cmpA (fun acc52 d53 s54 =>
  bindL (unpk 2 d53) fun l55 =>
  bindO (addL acc52 (.tup [l55.headD .non, (l55.tail).headD .non])) fun acc56 =>
  .rt acc56 ()) w51 (.lst []) ()) (fun c57 s58 =>
  .rt c57 s48) fun _ _ => .no) fun x50 s49 =>
  .ex x50 s49)
  (fun r45 s43 => .rt r45 s43.1)
  fun x46 s44 => .ex x46 s44.1) fun x14 s13 =>
  .ex x14 s13) fun _ _ => .no
/-- a comprehension over one clause, item by item -/
theorem cmpA_map {α : Type} {f : D → D → Unit → O Unit} (enc : α → D) (g : α → D) (xs : List α) (h : ∀ a ∈ xs, ∀ acc, f (.lst acc) (enc a) () = bindO (addL (.lst acc) (g a)) fun a2 => .rt a2 ()) : ∀ acc : List D, acc.length + xs.length ≤ sizeLine → cmpA f (xs.map enc) (.lst acc) () = .rt (.lst (acc ++ xs.map g)) () := by
  induction xs with
  | nil => intro acc _; simp [cmpA]
  | cons a r ih =>
    intro acc hl
    rw [List.length_cons] at hl
    rw [List.map_cons]
    unfold cmpA
    rw [h a (by simp)]
    show O.val (bindO (if acc.length < sizeLine then some (D.lst (acc ++ [g a])) else none) _) _ _ = _
    rw [if_pos (by omega), bindO_s, val_rt, ih (fun b hb => h b (by simp [hb])) _ (by simp; omega)]
    simp
theorem perm_set {α : Type} : ∀ (rows : List (List α)) (i j : Nat) (r : List α) (d : α), rows[i]? = some r → List.Perm (rows.set i (r.take j ++ [d] ++ r.drop j)).flatten (d :: rows.flatten)
  | [], _, _, _, _, h => by simp at h
  | x :: rows, 0, j, r, d, h => by
    simp at h
    subst h
    simp only [List.set_cons_zero, List.flatten_cons]
    have h1 : List.Perm (x.take j ++ [d] ++ x.drop j) (d :: x) := by
      have h2 : List.Perm (x.take j ++ d :: x.drop j) (d :: (x.take j ++ x.drop j)) := List.perm_middle
      rw [List.take_append_drop] at h2
      simpa using h2
    exact h1.append_right _
  | x :: rows, i + 1, j, r, d, h => by
    simp only [List.set_cons_succ, List.flatten_cons]
    have h1 := perm_set rows i j r d (by simpa using h)
    exact (h1.append_left x).trans List.perm_middle
theorem gIns_ok {l : List D} {r : Nat} {d : D} (h : l.length < sizeLine) (hr : (r : Int) < 2 ^ 63) : gIns l [.int (r : Nat), d] = some (l.take r ++ [d] ++ l.drop r, .non) := by
  show (if l.length < sizeLine ∧ (0 : Int) ≤ (r : Nat) ∧ ((r : Nat) : Int) < 2 ^ 63 then some (l.take ((r : Nat) : Int).toNat ++ [d] ++ l.drop ((r : Nat) : Int).toNat, D.non) else none) = _
  rw [if_pos ⟨h, by omega, hr⟩, Int.toNat_natCast]
theorem graphL1_ok (a b : Int) (v : Nat) (x : Str) (sd : Int) (rows : List (List Dart)) (hv : rows.length = v) (h0 : 0 < v) (hb : v < 1000) (hs : rows.flatten.length < 1000) :
    ∃ (a' b' : Int) (rows' : List (List Dart)), graphL1 (.int v) (.str x) (.int sd) (src a b, .lst (rows.map rowD)) = .nx (src a' b', .lst (rows'.map rowD)) ∧ rows'.length = v ∧ List.Perm rows'.flatten ((x, sd) :: rows.flatten) := by
  obtain ⟨i, a1, b1, d1, l1⟩ := draw_nat a b v h0 (by omega)
  have hi : i < rows.length := by omega
  have hr : rows[i]? = some rows[i] := List.getElem?_eq_getElem hi
  have hz : sizeLine = 16777216 := sizeLine_eq
  have hlen : rows[i].length ≤ rows.flatten.length := (List.sublist_flatten_of_mem (List.getElem_mem hi)).length_le
  obtain ⟨j, a2, b2, d2, l2⟩ := draw_nat a1 b1 (rows[i].length + 1) (by omega) (by omega)
  refine ⟨a2, b2, rows.set i (rows[i].take j ++ [(x, sd)] ++ rows[i].drop j), ?_, by simpa using hv, perm_set rows i j _ _ hr⟩
  unfold graphL1
  simp only
  rw [d1, val_rt]
  have e1 : ixNd (.lst (rows.map rowD)) (.int (i : Nat)) = some i := by
    show ixN (rows.map rowD).length (i : Nat) = some i
    unfold ixN
    rw [if_pos (by omega), if_pos (by simp; omega), Int.toNat_natCast]
  rw [e1]
  show bindO (nthD (.lst (rows.map rowD)) i) _ = _
  have e2 : nthD (.lst (rows.map rowD)) i = some (rowD rows[i]) := by
    show (rows.map rowD)[i]? = _
    rw [List.getElem?_map, hr]; rfl
  rw [e2, bindO_s]
  show bindO (lenF [.lst (rows[i].map dD)]) _ = _
  rw [lenF_l, bindO_s, addD_i, asL_f, bindO_s]
  have e3 : ((List.map dD rows[i]).length : Int) + 1 = ((rows[i].length + 1 : Nat) : Int) := by simp
  rw [e3, d2, val_rt]
  show bindL (some (rows[i].map dD)) _ = _
  rw [bindL_s, gIns_ok (by simp; omega) (by omega)]
  show bindO (setP (.lst (rows.map rowD)) [.ix i] (.lst _)) _ = _
  have e4 : setP (.lst (rows.map rowD)) [.ix i] (.lst ((rows[i].map dD).take j ++ [.tup [.str x, .int sd]] ++ (rows[i].map dD).drop j)) = some (.lst ((rows.set i (rows[i].take j ++ [(x, sd)] ++ rows[i].drop j)).map rowD)) := by
    show (((rows.map rowD)[i]?).bind fun c => (some (D.lst _)).map fun c' => setKid (.lst (rows.map rowD)) i c') = _
    rw [List.getElem?_map, hr]
    show some (D.lst ((rows.map rowD).set i _)) = _
    rw [List.map_set]
    simp [rowD, dD]
  rw [e4, bindO_s]
theorem graphL2_ok (a b : Int) (v : Nat) (x : Str) (rows : List (List Dart)) (hv : rows.length = v) (h0 : 0 < v) (hb : v < 1000) (hs : rows.flatten.length + 1 < 1000) :
    ∃ (a' b' : Int) (rows' : List (List Dart)), graphL2 (.int v) (.str x) (src a b, .lst (rows.map rowD)) = .nx (src a' b', .lst (rows'.map rowD)) ∧ rows'.length = v ∧ List.Perm rows'.flatten ((x, 0) :: (x, 1) :: rows.flatten) := by
  obtain ⟨a1, b1, r1, e1, h1, p1⟩ := graphL1_ok a b v x 0 rows hv h0 hb (by omega)
  obtain ⟨a2, b2, r2, e2, h2, p2⟩ := graphL1_ok a1 b1 v x 1 r1 h1 h0 hb (by rw [p1.length_eq, List.length_cons]; omega)
  refine ⟨a2, b2, r2, ?_, h2, p2.trans ((p1.cons _).trans (.swap _ _ _))⟩
  unfold graphL2
  rw [itL_lst, bindL_s]
  simp only
  rw [loopF_cons, e1, lp_nx, loopF_cons, e2]
  rfl
theorem graph_rows (v : Nat) (h0 : 0 < v) (hb : v < 1000) : ∀ (xs : List Str) (k : Nat) (a b : Int) (rows : List (List Dart)), rows.length = v → rows.flatten.length + 2 * xs.length < 1000 →
    ∃ (a' b' : Int) (rows' : List (List Dart)), loopF (fun _ => graphL2 (.int v)) k (xs.map .str) (src a b, .lst (rows.map rowD)) = .nx (src a' b', .lst (rows'.map rowD)) ∧ rows'.length = v ∧ List.Perm rows'.flatten (xs.flatMap (fun x => [(x, 0), (x, 1)]) ++ rows.flatten)
  | [], k, a, b, rows, hv, hs => ⟨a, b, rows, rfl, hv, by simp⟩
  | x :: xs, k, a, b, rows, hv, hs => by
    rw [List.length_cons] at hs
    obtain ⟨a1, b1, r1, e1, h1, p1⟩ := graphL2_ok a b v x rows hv h0 hb (by omega)
    obtain ⟨a2, b2, r2, e2, h2, p2⟩ := graph_rows v h0 hb xs (k + 1) a1 b1 r1 h1 (by have h := p1.length_eq; rw [List.length_cons, List.length_cons] at h; omega)
    refine ⟨a2, b2, r2, ?_, h2, p2.trans ?_⟩
    · rw [List.map_cons, loopF_cons, e1]
      exact e2
    · have q := p1.append_left (xs.flatMap fun x => [(x, (0 : Int)), (x, 1)])
      refine q.trans ?_
      rw [List.flatMap_cons]
      have : List.Perm (xs.flatMap (fun x => [(x, (0 : Int)), (x, 1)]) ++ ([(x, 0), (x, 1)] ++ rows.flatten)) ([(x, 0), (x, 1)] ++ (xs.flatMap (fun x => [(x, (0 : Int)), (x, 1)]) ++ rows.flatten)) := by
        rw [← List.append_assoc, ← List.append_assoc]
        exact List.perm_append_comm.append_right _
      simpa using this
theorem nodup_pairs : ∀ {xs : List Str}, xs.Nodup → (xs.flatMap (fun x => [(x, (0 : Int)), (x, 1)])).Nodup
  | [], _ => by simp
  | x :: xs, h => by
    rw [List.nodup_cons] at h
    rw [List.flatMap_cons, List.nodup_append]
    refine ⟨by simp, nodup_pairs h.2, fun a ha b hb e => ?_⟩
    subst e
    obtain ⟨y, hy, hd⟩ := List.mem_flatMap.mp hb
    simp at ha hd
    rcases ha with rfl | rfl <;> rcases hd with hd | hd <;> first | (cases hd; done) | (cases hd; exact h.1 hy)
theorem len_pairs : ∀ xs : List Str, (xs.flatMap (fun x => [(x, (0 : Int)), (x, 1)])).length = 2 * xs.length
  | [] => rfl
  | x :: xs => by rw [List.flatMap_cons, List.length_append, len_pairs xs]; simp; omega
theorem zip_vD : ∀ (vs : List Str) (rows : List (List Dart)), List.zipWith (fun x y => D.tup [x, y]) (vs.map .str) (rows.map rowD) = (vs.zip rows).map vD
  | [], _ => by simp
  | _ :: _, [] => by simp
  | v :: vs, r :: rows => by
    simp only [List.map_cons, List.zipWith_cons_cons, List.zip_cons_cons, zip_vD vs rows]
    rfl
/-- what the laws' graph is -/
theorem graph_ok (a b : Int) (v n : Nat) (h0 : 0 < v) (hv : v ≤ 104) (hn : n ≤ 104) : ∃ (a' b' : Int) (g : Gr), graphM (src a b) (.int v) (.int n) = .rt (gD g) (src a' b') ∧ GrOk g ∧ g.length = v ∧ (dartsOf g).length = 2 * n ∧ (n ≤ 26 → ∀ d ∈ dartsOf g, d.1.cps.size ≤ 5) ∧ (v ≤ 26 → ∀ p ∈ g, p.1.cps.size ≤ 5) := by
  have hz : sizeLine = 16777216 := sizeLine_eq
  obtain ⟨a1, b1, xs, e1, x1, x2, x3, x4⟩ := names_ok a b n hn
  obtain ⟨a2, b2, rows, e2, r1, r2⟩ := graph_rows v h0 (by omega) xs 0 a1 b1 (List.replicate v []) (by simp) (by simp; omega)
  obtain ⟨a3, b3, vs, e3, v1, v2, v3, v4⟩ := names_ok a2 b2 v hv
  have hlen : (vs.zip rows).length = v := by simp [v1, r1]
  have hm1 : (vs.zip rows).map (·.1) = vs := by rw [List.map_fst_zip]; omega
  have hm2 : (vs.zip rows).map (·.2) = rows := by rw [List.map_snd_zip]; omega
  have hd : dartsOf (vs.zip rows) = rows.flatten := by
    unfold dartsOf
    rw [List.flatMap_def, hm2]
  have hp : List.Perm (dartsOf (vs.zip rows)) (xs.flatMap fun x => [(x, 0), (x, 1)]) := by
    rw [hd]
    simpa using r2
  have hmem : ∀ d, d ∈ dartsOf (vs.zip rows) ↔ d.1 ∈ xs ∧ (d.2 = 0 ∨ d.2 = 1) := fun d => by
    rw [hp.mem_iff, List.mem_flatMap]
    constructor
    · rintro ⟨y, hy, hd⟩
      simp at hd
      rcases hd with rfl | rfl
      · exact ⟨hy, .inl rfl⟩
      · exact ⟨hy, .inr rfl⟩
    · rintro ⟨h1, h2⟩
      obtain ⟨y, s⟩ := d
      refine ⟨y, h1, ?_⟩
      simp at h2 ⊢
      exact h2
  refine ⟨a3, b3, vs.zip rows, ?_, ⟨by rw [hm1]; exact v2, fun p hp => v3 _ ((List.of_mem_zip hp).1), hp.nodup_iff.mpr (nodup_pairs x2), fun d hd => ⟨x3 _ ((hmem d).mp hd).1, ((hmem d).mp hd).2⟩, fun x => ?_⟩, hlen, ?_, fun hn d hd => x4 hn _ ((hmem d).mp hd).1, fun hv p hp => v4 hv _ ((List.of_mem_zip hp).1)⟩
  · unfold graphM
    rw [rg1_i, if_pos (small62_ (by omega) (by omega)), bindL_s, rngL_nat]
    rw [cmpA_map (fun (i : Nat) => D.int i) (fun _ => .lst []) (List.range v) (fun a _ acc => rfl) [] (by simp; omega)]
    rw [val_rt, e1, val_rt, itL_lst, bindL_s]
    have er : (([] : List D) ++ (List.range v).map fun _ => D.lst []) = (List.replicate v ([] : List Dart)).map rowD := by
      apply List.ext_getElem
      · simp
      · intro i h1 h2; simp [rowD]
    rw [er, e2, fin_nx]
    simp only
    rw [e3, val_rt]
    have ez : zipD [.lst (vs.map .str), .lst (rows.map rowD)] = some ((vs.zip rows).map vD) := by
      show some (List.zipWith (fun x y => D.tup [x, y]) (vs.map .str) (rows.map rowD)) = _
      rw [zip_vD]
    rw [ez, bindL_s, cmpA_map vD vD (vs.zip rows) (fun p _ acc => rfl) [] (by rw [hlen]; simp; omega), val_rt]
    rfl
  · rw [hmem, hmem]; simp
  · rw [hp.length_eq, len_pairs, x1]
end Fx

/-! G: what Rotations(graph) holds. -/
namespace Fx
open PySem PySem.Spec PyProof.Rows L2
def rotL1 (d41 : D) (s40 : D) : O D :=
  bindL (unpk 2 d41) fun l42 =>
  bindO (insF "Rotations" "next_by" s40) fun nextby43 =>
  bindO (putDn false nextby43 (l42.headD .non) ((l42.tail).headD .non)) fun c44 =>
  bindO (setP s40 [.fd ("next_by")] c44) fun all45 =>
  bindO (insF "Rotations" "previous_by" all45) fun previousby46 =>
  bindO (putDn false previousby46 ((l42.tail).headD .non) (l42.headD .non)) fun c47 =>
  bindO (setP all45 [.fd ("previous_by")] c47) fun all48 =>
  .nx all48
def rotL2 (d32 : D) (s31 : D) : O D :=
  bindL (unpk 2 d32) fun l33 =>
  bindI (asI (.int 1)) fun o34 =>
  bindO (asL false (cutD ((l33.tail).headD .non) o34 none)) fun z35 =>
  bindI (asI (.int 1)) fun o36 =>
  bindO (asL false (cutD ((l33.tail).headD .non) none o36)) fun z37 =>
  bindO (asL false (addD z35 z37)) fun z38 =>
  bindL (zipD [(l33.tail).headD .non, z38]) fun w39 =>
  O.fin (σ := D) (loopF (fun _ => rotL1) 0 w39 s31) (fun s49 =>
  .nx s49)
  (fun r52 s50 => .rt r52 s50)
  fun x53 s51 => .ex x53 s51
def rotM (graph2 : D) : O D :=
  bindL (itL graph2) fun w3 =>
  O.val (σ := Unit) (cmpA (fun acc4 d5 s6 =>
  bindL (unpk 2 d5) fun l7 =>
  bindL (itL ((l7.tail).headD .non)) fun w8 =>
  O.val (σ := Unit) (cmpA (fun acc9 d10 s11 =>
  bindO (putDn false acc9 d10 (l7.headD .non)) fun acc12 =>
  .rt acc12 ()) w8 acc4 ()) (fun acc13 s14 =>
  .rt acc13 ()) fun _ _ => .no) w3 (.dit []) ()) (fun c15 s16 =>
  bindO (setIns "Rotations" "vertex_by" c15 (.ins "Rotations" [])) fun obj17 =>
  bindO (setIns "Rotations" "next_by" (.dit []) obj17) fun obj18 =>
  bindO (setIns "Rotations" "previous_by" (.dit []) obj18) fun obj19 =>
  bindL (itL graph2) fun w20 =>
  O.val (σ := Unit) (cmpA (fun acc21 d22 s23 =>
  bindL (unpk 2 d22) fun l24 =>
  bindB (eqD ((l24.tail).headD .non) (.lst [])) fun b25 =>
  if b25 then
  bindO (putDn false acc21 (l24.headD .non) (.bl true)) fun acc26 =>
  .rt acc26 ()
  else .rt acc21 ()) w20 (.dic []) ()) (fun c27 s28 =>
  bindO (setIns "Rotations" "isolated" c27 obj19) fun obj29 =>
  bindL (itL graph2) fun w30 =>
  O.fin (σ := D) (loopF (fun _ => rotL2) 0 w30 obj29) (fun s54 =>
  .rt .non s54)
  (fun r57 s55 => rtN r57 (.rt .non s55))
  fun x58 s56 => .ex x58 .non) fun _ _ => .no) fun _ _ => .no
/-! ### dicts with darts as keys -/
def kT (d : Dart) : List Key := [.inr d.1, .inl d.2]
theorem kT_inj {d e : Dart} (h : kT d = kT e) : d = e := by
  obtain ⟨a, b⟩ := d
  obtain ⟨c, f⟩ := e
  simp [kT] at h
  rw [h.1, h.2]
theorem keyT_d (d : Dart) : keyT (dD d) = some (kT d) := rfl
abbrev DM := List (Dart × D)
def mD (m : DM) : D := .dit (m.map fun p => (kT p.1, p.2))
theorem getK_m (m : DM) (d : Dart) : getK (m.map fun p => (kT p.1, p.2)) (kT d) = m.lookup d := by
  unfold getK
  induction m with
  | nil => rfl
  | cons p m ih =>
    rw [List.map_cons, List.find?_cons, List.lookup_cons]
    by_cases h : d = p.1
    · subst h
      simp
    · have h1 : ¬ kT p.1 = kT d := fun e => h (kT_inj e).symm
      have h2 : (d == p.1) = false := by simpa using h
      rw [h2]
      simp only [decide_eq_false h1]
      exact ih
theorem putD_m (m : DM) (d : Dart) (e : D) (h : m.lookup d = none) : putD (m.map fun p => (kT p.1, p.2)) (kT d) e = (m ++ [(d, e)]).map fun p => (kT p.1, p.2) := by
  unfold putD
  have h1 : ((m.map fun p => (kT p.1, p.2)).any fun q => decide (q.1 = kT d)) = false := by
    rw [List.any_eq_false]
    intro q hq
    obtain ⟨p, hp, rfl⟩ := List.mem_map.mp hq
    intro z
    have z := kT_inj (of_decide_eq_true z)
    have : m.lookup d ≠ none := by
      rw [← z]
      intro hn
      rw [List.lookup_eq_none_iff] at hn
      have := hn p hp
      simp at this
    exact this h
  rw [if_neg (by rw [h1]; decide)]
  simp
theorem put_m (m : DM) (d : Dart) (e : D) (h : m.lookup d = none) (hl : m.length < sizeLine) : putDn false (mD m) (dD d) e = some (mD (m ++ [(d, e)])) := by
  show (if (m.map fun p => (kT p.1, p.2)).length < sizeLine then (keyT (dD d)).bind fun k => if (false && (getK (m.map fun p => (kT p.1, p.2)) k).isSome) = true then none else some (D.dit (putD (m.map fun p => (kT p.1, p.2)) k e)) else none) = _
  rw [if_pos (by simpa using hl), keyT_d, Option.bind_some, if_neg (by simp), putD_m m d e h]
  rfl
theorem ix_m (m : DM) (d : Dart) : ixD2 (mD m) (dD d) = m.lookup d := by
  show (keyT (dD d)).bind (fun k => getK (m.map fun p => (kT p.1, p.2)) k) = _
  rw [keyT_d, Option.bind_some, getK_m]
theorem in_m (m : DM) (d : Dart) : inD2 (dD d) (mD m) = some (m.lookup d).isSome := by
  show (keyT (dD d)).map (fun k => (getK (m.map fun p => (kT p.1, p.2)) k).isSome) = _
  rw [keyT_d, Option.map_some, getK_m]
theorem look_none {m : DM} {d : Dart} (h : d ∉ m.map (·.1)) : m.lookup d = none := by
  rw [List.lookup_eq_none_iff]
  intro p hp
  have : ¬ d = p.1 := fun e => h (e ▸ List.mem_map_of_mem hp)
  simpa using this
/-- putting new keys, one by one -/
theorem put_run {f : D → D → Unit → O Unit} (v : D) (hf : ∀ acc d, f acc d () = bindO (putDn false acc d v) fun a => .rt a ()) : ∀ (r : List Dart) (m : DM), (m.map (·.1) ++ r).Nodup → m.length + r.length < 10000 → cmpA f (r.map dD) (mD m) () = .rt (mD (m ++ r.map fun d => (d, v))) ()
  | [], m, _, _ => by simp [cmpA]
  | d :: r, m, h, hl => by
    rw [List.length_cons] at hl
    have hz : sizeLine = 16777216 := sizeLine_eq
    have hn : d ∉ m.map (·.1) := fun z => by
      rw [List.nodup_append] at h
      exact h.2.2 d z d (by simp) rfl
    rw [List.map_cons]
    unfold cmpA
    rw [hf, put_m m d v (look_none hn) (by omega), bindO_s, val_rt, put_run v hf r _ (by simpa using h) (by simp; omega)]
    simp
def vby (g : Gr) : DM := g.flatMap fun p => p.2.map fun d => (d, .str p.1)
def turns (r : List Dart) : List (Dart × Dart) := r.zip (r.drop 1 ++ r.take 1)
def nby (g : Gr) : DM := g.flatMap fun p => (turns p.2).map fun q => (q.1, dD q.2)
def pby (g : Gr) : DM := g.flatMap fun p => (turns p.2).map fun q => (q.2, dD q.1)
/-- dicts with texts as keys -/
abbrev SM := List (Str × D)
def sD (m : SM) : D := .dic (m.map fun p => (.inr p.1, p.2))
def iso (g : Gr) : SM := (g.filter fun p => p.2.isEmpty).map fun p => (p.1, .bl true)
def rotS (a n p i : D) : D := .ins "Rotations" [("vertex_by", a), ("next_by", n), ("previous_by", p), ("isolated", i)]
def rotT (g : Gr) : D := rotS (mD (vby g)) (mD (nby g)) (mD (pby g)) (sD (iso g))
theorem ins_v (a n p i : D) : insF "Rotations" "vertex_by" (rotS a n p i) = some a := rfl
theorem ins_n (a n p i : D) : insF "Rotations" "next_by" (rotS a n p i) = some n := rfl
theorem ins_p (a n p i : D) : insF "Rotations" "previous_by" (rotS a n p i) = some p := rfl
theorem ins_i (a n p i : D) : insF "Rotations" "isolated" (rotS a n p i) = some i := rfl
theorem set_n (a n p i c : D) : setP (rotS a n p i) [.fd "next_by"] c = some (rotS a c p i) := rfl
theorem set_p (a n p i c : D) : setP (rotS a n p i) [.fd "previous_by"] c = some (rotS a n c i) := rfl
theorem vby_keys (g : Gr) : (vby g).map (·.1) = dartsOf g := by
  unfold vby dartsOf
  induction g with
  | nil => rfl
  | cons p g ih => rw [List.flatMap_cons, List.map_append, ih, List.flatMap_cons]; simp [Function.comp_def]
theorem turns_fst (r : List Dart) : (turns r).map (·.1) = r := by
  unfold turns
  rw [List.map_fst_zip]
  cases r <;> simp
theorem turns_snd (r : List Dart) : (turns r).map (·.2) = r.drop 1 ++ r.take 1 := by
  unfold turns
  rw [List.map_snd_zip]
  cases r <;> simp
theorem turns_perm (r : List Dart) : List.Perm ((turns r).map (·.2)) r := by
  rw [turns_snd]
  have := List.perm_append_comm (l₁ := r.drop 1) (l₂ := r.take 1)
  rwa [List.take_append_drop] at this
theorem nby_keys (g : Gr) : (nby g).map (·.1) = dartsOf g := by
  unfold nby dartsOf
  induction g with
  | nil => rfl
  | cons p g ih =>
    rw [List.flatMap_cons, List.map_append, ih, List.flatMap_cons]
    congr 1
    rw [List.map_map]
    exact turns_fst p.2
theorem pby_keys (g : Gr) : List.Perm ((pby g).map (·.1)) (dartsOf g) := by
  unfold pby dartsOf
  induction g with
  | nil => exact .refl _
  | cons p g ih =>
    rw [List.flatMap_cons, List.map_append, List.flatMap_cons]
    refine List.Perm.append ?_ ih
    rw [List.map_map]
    exact turns_perm p.2
theorem unpk2 (x y : D) : unpk 2 (.tup [x, y]) = some [x, y] := rfl
/-- a turn of the inner loop -/
theorem rotL1_ok {a i : D} {n p : DM} {d e : Dart} (hn : n.lookup d = none) (hp : p.lookup e = none) (h1 : n.length < 10000) (h2 : p.length < 10000) :
    rotL1 (.tup [dD d, dD e]) (rotS a (mD n) (mD p) i) = .nx (rotS a (mD (n ++ [(d, dD e)])) (mD (p ++ [(e, dD d)])) i) := by
  have hz : sizeLine = 16777216 := sizeLine_eq
  unfold rotL1
  rw [unpk2, bindL_s]
  rw [ins_n, bindO_s]
  show bindO (putDn false (mD n) (dD d) (dD e)) _ = _
  rw [put_m n d _ hn (by omega), bindO_s, set_n, bindO_s, ins_p, bindO_s]
  show bindO (putDn false (mD p) (dD e) (dD d)) _ = _
  rw [put_m p e _ hp (by omega), bindO_s, set_p, bindO_s]
theorem rot_row {a i : D} : ∀ (q : List (Dart × Dart)) (k : Nat) (n p : DM), (n.map (·.1) ++ q.map (·.1)).Nodup → (p.map (·.1) ++ q.map (·.2)).Nodup → n.length + q.length < 10000 → p.length + q.length < 10000 →
    loopF (fun _ => rotL1) k (q.map fun z => .tup [dD z.1, dD z.2]) (rotS a (mD n) (mD p) i) = .nx (rotS a (mD (n ++ q.map fun z => (z.1, dD z.2))) (mD (p ++ q.map fun z => (z.2, dD z.1))) i)
  | [], k, n, p, _, _, _, _ => by simp [loopF]
  | z :: q, k, n, p, h1, h2, l1, l2 => by
    rw [List.length_cons] at l1 l2
    rw [List.map_cons, loopF_cons, rotL1_ok (look_none fun m => (List.nodup_append.mp h1).2.2 _ m _ (by simp) rfl) (look_none fun m => (List.nodup_append.mp h2).2.2 _ m _ (by simp) rfl) (by omega) (by omega), lp_nx,
      rot_row q _ _ _ (by simpa using h1) (by simpa using h2) (by simp; omega) (by simp; omega)]
    simp
theorem sIx_one (n : Nat) (d : Nat) : HT.sIx n d (some 1) = min 1 n := by
  unfold HT.sIx
  simp
theorem cut_d (r : List Dart) : cutD (rowD r) (some 1) none = some (rowD (r.drop 1)) := by
  show some (D.lst (cutL (r.map dD) (some 1) none)) = _
  have e : cutL (r.map dD) (some 1) none = (r.drop 1).map dD := by
    unfold cutL
    rw [sIx_one]
    have e2 : HT.sIx (r.map dD).length (r.map dD).length none = (r.map dD).length := rfl
    rw [e2]
    cases r with
    | nil => rfl
    | cons x r => simp [List.take_of_length_le]
  rw [e]; rfl
theorem cut_t (r : List Dart) : cutD (rowD r) none (some 1) = some (rowD (r.take 1)) := by
  show some (D.lst (cutL (r.map dD) none (some 1))) = _
  have e : cutL (r.map dD) none (some 1) = (r.take 1).map dD := by
    unfold cutL
    rw [sIx_one]
    have e2 : HT.sIx (r.map dD).length 0 none = 0 := rfl
    rw [e2]
    cases r with
    | nil => rfl
    | cons x r => simp
  rw [e]; rfl
theorem zip_turns (r : List Dart) : zipD [rowD r, rowD (r.drop 1 ++ r.take 1)] = some ((turns r).map fun z => .tup [dD z.1, dD z.2]) := by
  show some (List.zipWith pairD (r.map dD) ((r.drop 1 ++ r.take 1).map dD)) = _
  unfold turns
  generalize r.drop 1 ++ r.take 1 = q
  congr 1
  induction r generalizing q with
  | nil => rfl
  | cons x r ih =>
    cases q with
    | nil => rfl
    | cons y q =>
      rw [List.map_cons, List.map_cons, List.zipWith_cons_cons, ih, List.zip_cons_cons, List.map_cons]
      rfl
theorem turns_len (r : List Dart) : (turns r).length = r.length := by
  have h := congrArg List.length (turns_fst r)
  simpa using h
theorem asI_1 {τ : Type} (k : Option Int → O τ) : bindI (asI (.int 1)) k = k (some 1) := rfl
theorem rotL2_ok {a i : D} {n p : DM} {x : Str} {r : List Dart} (h1 : (n.map (·.1) ++ r).Nodup) (h2 : (p.map (·.1) ++ r).Nodup) (l1 : n.length + r.length < 10000) (l2 : p.length + r.length < 10000) :
    rotL2 (vD (x, r)) (rotS a (mD n) (mD p) i) = .nx (rotS a (mD (n ++ (turns r).map fun z => (z.1, dD z.2))) (mD (p ++ (turns r).map fun z => (z.2, dD z.1))) i) := by
  have hz : sizeLine = 16777216 := sizeLine_eq
  unfold rotL2
  show bindL (unpk 2 (.tup [.str x, rowD r])) _ = _
  rw [unpk2, bindL_s, asI_1]
  simp only [List.tail_cons, List.headD_cons]
  rw [cut_d, asL_f, bindO_s, asI_1, cut_t, asL_f, bindO_s]
  have e : addD (rowD (r.drop 1)) (rowD (r.take 1)) = some (rowD (r.drop 1 ++ r.take 1)) := by
    show (if ((r.drop 1).map dD).length + ((r.take 1).map dD).length ≤ sizeLine then some (D.lst ((r.drop 1).map dD ++ (r.take 1).map dD)) else none) = _
    rw [if_pos (by simp; omega), ← List.map_append]
    rfl
  rw [e, asL_f, bindO_s, zip_turns, bindL_s, rot_row]
  · rfl
  · rw [turns_fst]; exact h1
  · exact ((turns_perm r).append_left _).nodup_iff.mpr h2
  · rw [turns_len]; exact l1
  · rw [turns_len]; exact l2
theorem rot_rows {a i : D} : ∀ (g : Gr) (k : Nat) (n p : DM), (n.map (·.1) ++ dartsOf g).Nodup → (p.map (·.1) ++ dartsOf g).Nodup → n.length + (dartsOf g).length < 10000 → p.length + (dartsOf g).length < 10000 →
    loopF (fun _ => rotL2) k (g.map vD) (rotS a (mD n) (mD p) i) = .nx (rotS a (mD (n ++ nby g)) (mD (p ++ pby g)) i)
  | [], k, n, p, _, _, _, _ => by simp [loopF, nby, pby]
  | (x, r) :: g, k, n, p, h1, h2, l1, l2 => by
    have e0 : dartsOf ((x, r) :: g) = r ++ dartsOf g := by unfold dartsOf; rw [List.flatMap_cons]
    rw [e0] at h1 h2 l1 l2
    rw [← List.append_assoc] at h1 h2
    rw [List.length_append] at l1 l2
    rw [List.map_cons, loopF_cons, rotL2_ok (List.nodup_append.mp h1).1 (List.nodup_append.mp h2).1 (by omega) (by omega), lp_nx, rot_rows g]
    · simp [nby, pby]
    · have e : (n ++ (turns r).map fun z => (z.1, dD z.2)).map (·.1) = n.map (·.1) ++ r := by
        rw [List.map_append, List.map_map]
        exact congrArg _ (turns_fst r)
      rw [e]; exact h1
    · have e : (p ++ (turns r).map fun z => (z.2, dD z.1)).map (·.1) = p.map (·.1) ++ (turns r).map (·.2) := by
        rw [List.map_append, List.map_map]
        rfl
      rw [e]
      exact (((turns_perm r).append_left (p.map (·.1))).append_right _).nodup_iff.mpr h2
    · rw [List.length_append, List.length_map, turns_len]; omega
    · rw [List.length_append, List.length_map, turns_len]; omega
theorem getK_s (m : SM) (x : Str) : getK (m.map fun (p : Str × D) => ((.inr p.1 : Key), p.2)) (.inr x) = m.lookup x := by
  unfold getK
  induction m with
  | nil => rfl
  | cons p m ih =>
    rw [List.map_cons, List.find?_cons, List.lookup_cons]
    by_cases h : x = p.1
    · subst h
      simp
    · have h1 : ¬ (Sum.inr p.1 : Key) = .inr x := fun e => h (Sum.inr.inj e).symm
      have h2 : (x == p.1) = false := by simpa using h
      rw [h2]
      simp only [decide_eq_false h1]
      exact ih
theorem put_s (m : SM) (x : Str) (e : D) (h : x ∉ m.map (·.1)) (hl : m.length < sizeLine) : putDn false (sD m) (.str x) e = some (sD (m ++ [(x, e)])) := by
  show (if (m.map fun (p : Str × D) => ((.inr p.1 : Key), p.2)).length < sizeLine then (keyD (.str x)).bind fun k => if (false && (getK (m.map fun (p : Str × D) => ((.inr p.1 : Key), p.2)) k).isSome) = true then none else some (D.dic (putD (m.map fun (p : Str × D) => ((.inr p.1 : Key), p.2)) k e)) else none) = _
  have e0 : keyD (.str x) = some (.inr x) := rfl
  rw [if_pos (by simpa using hl), e0, Option.bind_some, if_neg (by simp)]
  unfold putD
  rw [if_neg]
  · simp [sD]
  · intro z
    obtain ⟨q, hq, z⟩ := List.any_eq_true.mp z
    obtain ⟨p, hp, rfl⟩ := List.mem_map.mp hq
    have z := Sum.inr.inj (of_decide_eq_true z)
    exact h (z ▸ List.mem_map_of_mem hp)
theorem ix_s (m : SM) (x : Str) : ixD2 (sD m) (.str x) = m.lookup x := by
  show getK (m.map fun (p : Str × D) => ((.inr p.1 : Key), p.2)) (.inr x) = _
  exact getK_s m x
theorem in_s (m : SM) (x : Str) : inD2 (.str x) (sD m) = some (m.lookup x).isSome := by
  show some (getK (m.map fun (p : Str × D) => ((.inr p.1 : Key), p.2)) (.inr x)).isSome = _
  rw [getK_s]
theorem NmOk.fit {x : Str} (h : NmOk x) : PyData.strOk x = true := asc_strOk fun c hc => by have := h.az c hc; omega
theorem fit_dart {d : Dart} (h : NmOk d.1) {n : Nat} : fitD (n + 1) (dD d) = true := by
  unfold dD
  simp [h.fit]
theorem fit_row {r : List Dart} (h : ∀ d ∈ r, NmOk d.1) {n : Nat} : fitD (n + 2) (rowD r) = true := by
  unfold rowD
  rw [fit_lst_, List.all_eq_true]
  intro z hz
  obtain ⟨d, hd, rfl⟩ := List.mem_map.mp hz
  exact fit_dart (h d hd)
theorem eq_row {r : List Dart} (h : ∀ d ∈ r, NmOk d.1) : eqD (rowD r) (.lst []) = some r.isEmpty := by
  rw [eqD_, fit_row h]
  cases r with
  | nil => simp [rowD]
  | cons d r => simp [rowD]
theorem vby_run : ∀ (g : Gr) (m : DM), (m.map (·.1) ++ dartsOf g).Nodup → m.length + (dartsOf g).length < 10000 →
    cmpA (fun acc4 d5 (s6 : Unit) =>
      bindL (unpk 2 d5) fun l7 =>
      bindL (itL ((l7.tail).headD .non)) fun w8 =>
      O.val (σ := Unit) (cmpA (fun acc9 d10 (s11 : Unit) =>
      bindO (putDn false acc9 d10 (l7.headD .non)) fun acc12 =>
      .rt acc12 ()) w8 acc4 ()) (fun acc13 s14 =>
      .rt acc13 ()) fun _ _ => .no) (g.map vD) (mD m) () = .rt (mD (m ++ vby g)) ()
  | [], m, _, _ => by simp [cmpA, vby]
  | (x, r) :: g, m, h, hl => by
    have e0 : dartsOf ((x, r) :: g) = r ++ dartsOf g := by unfold dartsOf; rw [List.flatMap_cons]
    rw [e0] at h hl
    rw [List.length_append] at hl
    rw [← List.append_assoc] at h
    rw [List.map_cons]
    unfold cmpA
    have e1 : unpk 2 (vD (x, r)) = some [.str x, rowD r] := rfl
    rw [e1, bindL_s]
    simp only [List.tail_cons, List.headD_cons]
    show O.val (bindL (some (r.map dD)) _) _ _ = _
    rw [bindL_s, put_run (.str x) (fun _ _ => rfl) r m (List.nodup_append.mp h).1 (by omega), val_rt, val_rt, vby_run g]
    · simp [vby]
    · rw [List.map_append, List.map_map]
      have : (r.map ((fun p : Dart × D => p.1) ∘ fun d => (d, D.str x))) = r := by simp [Function.comp_def]
      rw [this]; exact h
    · simp; omega
theorem iso_run : ∀ (g : Gr) (m : SM), (∀ p ∈ g, ∀ d ∈ p.2, NmOk d.1) → (m.map (·.1) ++ g.map (·.1)).Nodup → m.length + g.length < 10000 →
    cmpA (fun acc21 d22 (s23 : Unit) =>
      bindL (unpk 2 d22) fun l24 =>
      bindB (eqD ((l24.tail).headD .non) (.lst [])) fun b25 =>
      if b25 then
      bindO (putDn false acc21 (l24.headD .non) (.bl true)) fun acc26 =>
      .rt acc26 ()
      else .rt acc21 ()) (g.map vD) (sD m) () = .rt (sD (m ++ iso g)) ()
  | [], m, _, _, _ => by simp [cmpA, iso]
  | (x, r) :: g, m, ho, h, hl => by
    have hz : sizeLine = 16777216 := sizeLine_eq
    rw [List.length_cons] at hl
    rw [List.map_cons]
    unfold cmpA
    have e1 : unpk 2 (vD (x, r)) = some [.str x, rowD r] := rfl
    rw [e1, bindL_s]
    simp only [List.tail_cons, List.headD_cons]
    rw [eq_row (ho (x, r) (by simp)), bindB_s]
    cases hr : r.isEmpty with
    | true =>
      rw [if_pos rfl, put_s m x _ (fun z => (List.nodup_append.mp h).2.2 _ z _ (by simp) rfl) (by omega), bindO_s, val_rt, iso_run g _ (fun p hp => ho p (by simp [hp]))]
      · simp [iso, hr]
      · simpa using h
      · simp; omega
    | false =>
      rw [if_neg (by decide), val_rt, iso_run g m (fun p hp => ho p (by simp [hp]))]
      · simp [iso, hr]
      · rw [List.map_cons] at h
        exact h.sublist (List.Sublist.append (.refl _) (List.sublist_cons_self _ _))
      · omega
theorem setIns_some {c f : Str} {e : D} {gs : List (Str × D)} (h : gs.length < 1000) : setIns c f e (.ins c gs) = some (.ins c (putFL f e gs)) := if_pos ⟨rfl, h⟩
theorem si_1 (a : D) : setIns "Rotations" "vertex_by" a (.ins "Rotations" []) = some (.ins "Rotations" [("vertex_by", a)]) := (setIns_some (by simp)).trans rfl
theorem si_2 (a n : D) : setIns "Rotations" "next_by" n (.ins "Rotations" [("vertex_by", a)]) = some (.ins "Rotations" [("vertex_by", a), ("next_by", n)]) := (setIns_some (by simp)).trans rfl
theorem si_3 (a n p : D) : setIns "Rotations" "previous_by" p (.ins "Rotations" [("vertex_by", a), ("next_by", n)]) = some (.ins "Rotations" [("vertex_by", a), ("next_by", n), ("previous_by", p)]) := (setIns_some (by simp)).trans rfl
theorem si_4 (a n p i : D) : setIns "Rotations" "isolated" i (.ins "Rotations" [("vertex_by", a), ("next_by", n), ("previous_by", p)]) = some (rotS a n p i) := (setIns_some (by simp)).trans rfl
theorem rot_ok {g : Gr} (h : GrOk g) (hl : (dartsOf g).length < 10000) (hg : g.length < 10000) : rotM (gD g) = .rt .non (rotT g) := by
  have ho : ∀ p ∈ g, ∀ d ∈ p.2, NmOk d.1 := fun p hp d hd => (h.no d (List.mem_flatMap.mpr ⟨p, hp, hd⟩)).1
  unfold rotM gD
  rw [itL_lst, bindL_s]
  have e1 := vby_run g [] (by simpa using h.dn) (by simpa using hl)
  have e1 : cmpA _ (g.map vD) (.dit []) () = .rt (mD ([] ++ vby g)) () := e1
  rw [e1, val_rt, si_1, bindO_s, si_2, bindO_s, si_3, bindO_s]
  have e2 := iso_run g [] ho (by simpa using h.vn) (by simpa using hg)
  have e2 : cmpA _ (g.map vD) (.dic []) () = .rt (sD ([] ++ iso g)) () := e2
  rw [bindL_s, e2, val_rt, si_4, bindO_s]
  have e3 := rot_rows (a := mD (vby g)) (i := sD (iso g)) g 0 [] [] (by simpa using h.dn) (by simpa using h.dn) (by simpa using hl) (by simpa using hl)
  have e3 : loopF (fun _ => rotL2) 0 (g.map vD) (rotS (mD (vby g)) (.dit []) (.dit []) (sD ([] ++ iso g))) = _ := e3
  rw [bindL_s]
  have e4 : (.dit [] : D) = mD [] := rfl
  show O.fin (loopF (fun _ => rotL2) 0 (g.map vD) (rotS (mD ([] ++ vby g)) (.dit []) (.dit []) (sD ([] ++ iso g)))) _ _ _ = _
  rw [List.nil_append, e3, fin_nx]
  rfl
end Fx

/-! G: is_name, is_integer, is_dart; what the dicts of Rotations answer. -/
namespace Fx
open PySem PySem.Spec PyProof.Rows L2
def isNameM (value1 : D) : O Unit :=
  bindO (isiF [value1, .raw (.ty "str")]) fun z2 =>
  bindB (asB z2) fun b3 =>
  O.val (σ := Unit) (if b3 then
  bindO (lenF [value1]) fun z6 =>
  bindB (leD (.int 1) z6) fun b7 =>
  O.val (σ := Unit) (if b7 then
  .rt (.int 8) ()
  else
  .rt .non ()) (fun h8 s9 =>
  bindB (if b7 then leD z6 h8 else some false) fun b12 =>
  bindB (asB (.bl b12)) fun b13 =>
  O.val (σ := Unit) (if b13 then
  bindL (itS value1) fun w16 =>
  O.val (σ := Unit) (cmpA (fun acc17 d18 s19 =>
  bindB (inD2 d18 (.str "abcdefghijklmnopqrstuvwxyz")) fun b21 =>
  bindO (addL acc17 (.bl b21)) fun acc20 =>
  .rt acc20 ()) w16 (.lst []) ()) (fun c22 s23 =>
  bindO (allF [c22]) fun z24 =>
  bindB (asB z24) fun b25 =>
  .rt (.bl b25) ()) fun _ _ => .no
  else
  .rt (.bl false) ()) (fun z26 s14 =>
  bindB (asB z26) fun b27 =>
  .rt (.bl b27) ()) fun x28 s15 =>
  .ex x28 ()) fun x11 s10 =>
  .ex x11 ()
  else
  .rt (.bl false) ()) (fun z29 s4 =>
  bindB (asB z29) fun b30 =>
  .rt (.bl b30) ()) fun x31 s5 =>
  .ex x31 ()
def isIntM (value1 low2 high3 : D) : O Unit :=
  bindO (isiF [value1, .raw (.ty "int")]) fun z4 =>
  bindB (asB z4) fun b5 =>
  O.val (σ := Unit) (if b5 then
  bindO (isiF [value1, .raw (.ty "bool")]) fun z8 =>
  bindB (asB z8) fun b9 =>
  bindB (asB (.bl (!b9))) fun b10 =>
  O.val (σ := Unit) (if b10 then
  bindB (leD low2 value1) fun b13 =>
  O.val (σ := Unit) (if b13 then
  .rt high3 ()
  else
  .rt .non ()) (fun h14 s15 =>
  bindB (if b13 then leD value1 h14 else some false) fun b18 =>
  bindB (asB (.bl b18)) fun b19 =>
  .rt (.bl b19) ()) fun x17 s16 =>
  .ex x17 ()
  else
  .rt (.bl false) ()) (fun z20 s11 =>
  bindB (asB z20) fun b21 =>
  .rt (.bl b21) ()) fun x22 s12 =>
  .ex x22 ()
  else
  .rt (.bl false) ()) (fun z23 s6 =>
  bindB (asB z23) fun b24 =>
  .rt (.bl b24) ()) fun x25 s7 =>
  .ex x25 ()
def isDartM (value1 : D) : O Unit :=
  bindO (isiF [value1, .raw (.ty "tuple")]) fun z2 =>
  bindB (asB z2) fun b3 =>
  O.val (σ := Unit) (if b3 then
  bindO (lenF [value1]) fun z6 =>
  bindB (eqD z6 (.int 2)) fun b7 =>
  bindB (asB (.bl b7)) fun b8 =>
  O.val (σ := Unit) (if b8 then
  bindO (ixD2 value1 (.int 0)) fun z11 =>
  O.val (isNameM z11) (fun r12 _ =>
  bindB (asB r12) fun b14 =>
  O.val (σ := Unit) (if b14 then
  bindO (ixD2 value1 (.int 1)) fun z17 =>
  O.val (isIntM z17 (.int 0) (.int 1)) (fun r18 _ =>
  bindB (asB r18) fun b20 =>
  .rt (.bl b20) ()) fun x19 _ =>
  .ex x19 ()
  else
  .rt (.bl false) ()) (fun z21 s15 =>
  bindB (asB z21) fun b22 =>
  .rt (.bl b22) ()) fun x23 s16 =>
  .ex x23 ()) fun x13 _ =>
  .ex x13 ()
  else
  .rt (.bl false) ()) (fun z24 s9 =>
  bindB (asB z24) fun b25 =>
  .rt (.bl b25) ()) fun x26 s10 =>
  .ex x26 ()
  else
  .rt (.bl false) ()) (fun z27 s4 =>
  bindB (asB z27) fun b28 =>
  .rt (.bl b28) ()) fun x29 s5 =>
  .ex x29 ()
theorem alph_in : ∀ c, 97 ≤ c → c ≤ 122 → inSD ⟨#[c]⟩ "abcdefghijklmnopqrstuvwxyz" = true := by
  have h : ((List.range 26).all fun i => inSD ⟨#[97 + i]⟩ "abcdefghijklmnopqrstuvwxyz") = true := by decide +kernel
  intro c h1 h2
  have h3 := List.all_eq_true.mp h (c - 97) (List.mem_range.mpr (by omega))
  rw [show 97 + (c - 97) = c by omega] at h3
  exact h3
theorem bls_all : ∀ {α : Type} (l : List α), blsD (l.map fun _ => D.bl true) = some (l.map fun _ => true)
  | _, [] => rfl
  | _, _ :: l => by
    rw [List.map_cons]
    unfold blsD
    rw [bls_all l]
    rfl
theorem isName_ok {x : Str} (h : NmOk x) : isNameM (.str x) = .rt (.bl true) () := by
  have hz : sizeLine = 16777216 := sizeLine_eq
  have hlo := h.lo
  have hhi := h.hi
  have e1 : isiF [.str x, .raw (.ty "str")] = some (.bl true) := rfl
  have e2 : lenF [.str x] = some (.int (x.cps.size : Nat)) := if_pos (by show x.cps.size ≤ sizeLine; omega)
  have e3 : decide ((1 : Int) ≤ ((x.cps.size : Nat) : Int)) = true := decide_eq_true (by omega)
  have e4 : decide (((x.cps.size : Nat) : Int) ≤ (8 : Int)) = true := decide_eq_true (by omega)
  have e5 := cmpA_map (f := fun acc17 d18 (s19 : Unit) =>
    bindB (inD2 d18 (.str "abcdefghijklmnopqrstuvwxyz")) fun b21 =>
    bindO (addL acc17 (.bl b21)) fun acc20 =>
    .rt acc20 ()) (fun c : Nat => .str ⟨#[c]⟩) (fun _ => .bl true) x.cps.toList (fun c hc acc => by
      obtain ⟨h1, h2⟩ := h.az c hc
      have e : inD2 (.str ⟨#[c]⟩) (.str "abcdefghijklmnopqrstuvwxyz") = some true := by
        show some (inSD _ _) = _
        rw [alph_in c h1 h2]
      show bindB (inD2 (.str ⟨#[c]⟩) (.str "abcdefghijklmnopqrstuvwxyz")) _ = _
      rw [e, bindB_s]) [] (by simp; omega)
  have e6 : allF [.lst ([] ++ x.cps.toList.map fun _ => D.bl true)] = some (.bl true) := by
    show (blsD _).map _ = _
    rw [List.nil_append, bls_all]
    simp
  unfold isNameM
  rw [e1, bindO_s]
  simp only [asB_bl, bindB_s, if_true, e2, bindO_s, leD_i, e3, val_rt, e4, itS_str, bindL_s]
  show O.val (O.val (O.val (cmpA _ (x.cps.toList.map fun c => .str ⟨#[c]⟩) (.lst []) ()) _ _) _ _) _ _ = _
  rw [e5, val_rt, e6]
  rfl
theorem isInt_ok {s : Int} (h : s = 0 ∨ s = 1) : isIntM (.int s) (.int 0) (.int 1) = .rt (.bl true) () := by
  rcases h with rfl | rfl <;> rfl
theorem isDart_ok {d : Dart} (h : NmOk d.1) (h2 : d.2 = 0 ∨ d.2 = 1) : isDartM (dD d) = .rt (.bl true) () := by
  unfold isDartM dD
  have e1 : isiF [.tup [.str d.1, .int d.2], .raw (.ty "tuple")] = some (.bl true) := rfl
  have e2 : eqD (.int (([.str d.1, .int d.2] : List D).length : Nat)) (.int 2) = some true := rfl
  have e3 : ixD2 (.tup [.str d.1, .int d.2]) (.int 0) = some (.str d.1) := rfl
  have e4 : ixD2 (.tup [.str d.1, .int d.2]) (.int 1) = some (.int d.2) := rfl
  rw [e1, bindO_s]
  simp only [asB_bl, bindB_s, if_true, lenF_t, bindO_s]
  rw [e2]
  simp only [asB_bl, bindB_s, if_true, e3, e4, bindO_s, isName_ok h, isInt_ok h2, val_rt]
/-! ### what the dicts answer -/
theorem look_mem {m : DM} (hn : (m.map (·.1)).Nodup) {d : Dart} {v : D} (h : (d, v) ∈ m) : m.lookup d = some v := by
  induction m with
  | nil => cases h
  | cons p m ih =>
    rw [List.map_cons, List.nodup_cons] at hn
    rw [List.lookup_cons]
    rcases List.mem_cons.mp h with rfl | h
    · simp
    · have : (d == p.1) = false := by
        rw [beq_eq_false_iff_ne]
        intro e
        exact hn.1 (e ▸ List.mem_map_of_mem h)
      rw [this]
      exact ih hn.2 h
theorem turns_at {r : List Dart} {j : Nat} (h : j < r.length) : (turns r)[j]? = some (r[j], r[(j + 1) % r.length]'(Nat.mod_lt _ (by omega))) := by
  have hl : j < (turns r).length := by rw [turns_len]; exact h
  rw [List.getElem?_eq_getElem hl]
  have e1 : ((turns r)[j]).1 = r[j] := by
    have := turns_fst r
    have h2 : ((turns r).map (·.1))[j]? = some r[j] := by rw [this]; exact List.getElem?_eq_getElem h
    rw [List.getElem?_map, List.getElem?_eq_getElem hl] at h2
    simpa using h2
  have e2 : ((turns r)[j]).2 = r[(j + 1) % r.length]'(Nat.mod_lt _ (by omega)) := by
    have h2 : ((turns r).map (·.2))[j]? = some (turns r)[j].2 := by rw [List.getElem?_map, List.getElem?_eq_getElem hl]; rfl
    rw [turns_snd] at h2
    by_cases hj : j + 1 < r.length
    · rw [List.getElem?_append_left (by simp; omega), List.getElem?_drop, List.getElem?_eq_getElem (by omega)] at h2
      have h3 : (j + 1) % r.length = j + 1 := Nat.mod_eq_of_lt hj
      simp only [h3]
      simp only [Nat.add_comm 1 j] at h2
      exact (Option.some.inj h2).symm
    · have hj : j + 1 = r.length := by omega
      rw [List.getElem?_append_right (by simp; omega)] at h2
      have h3 : (j + 1) % r.length = 0 := by rw [hj]; exact Nat.mod_self _
      simp only [h3]
      have h4 : j - (r.drop 1).length = 0 := by simp; omega
      rw [h4, List.getElem?_take_of_lt (by decide), List.getElem?_eq_getElem (by omega)] at h2
      exact (Option.some.inj h2).symm
  rw [← e1, ← e2]
theorem vby_look {g : Gr} (h : GrOk g) {x : Str} {r : List Dart} {d : Dart} (hp : (x, r) ∈ g) (hd : d ∈ r) : (vby g).lookup d = some (.str x) := by
  refine look_mem (by rw [vby_keys]; exact h.dn) ?_
  exact List.mem_flatMap.mpr ⟨_, hp, List.mem_map.mpr ⟨d, hd, rfl⟩⟩
theorem nby_look {g : Gr} (h : GrOk g) {x : Str} {r : List Dart} {j : Nat} (hp : (x, r) ∈ g) (hj : j < r.length) : (nby g).lookup r[j] = some (dD (r[(j + 1) % r.length]'(Nat.mod_lt _ (by omega)))) := by
  refine look_mem (by rw [nby_keys]; exact h.dn) ?_
  exact List.mem_flatMap.mpr ⟨_, hp, List.mem_map.mpr ⟨_, List.mem_of_getElem? (turns_at hj), rfl⟩⟩
theorem pby_look {g : Gr} (h : GrOk g) {x : Str} {r : List Dart} {j : Nat} (hp : (x, r) ∈ g) (hj : j < r.length) : (pby g).lookup (r[(j + 1) % r.length]'(Nat.mod_lt _ (by omega))) = some (dD r[j]) := by
  refine look_mem ((pby_keys g).nodup_iff.mpr h.dn) ?_
  exact List.mem_flatMap.mpr ⟨_, hp, List.mem_map.mpr ⟨_, List.mem_of_getElem? (turns_at hj), rfl⟩⟩
theorem nby_none {g : Gr} {d : Dart} (h : d ∉ dartsOf g) : (nby g).lookup d = none := look_none (by rw [nby_keys]; exact h)
theorem nby_some {g : Gr} {d : Dart} (h : d ∈ dartsOf g) : ((nby g).lookup d).isSome = true := by
  cases e : (nby g).lookup d with
  | some z => rfl
  | none =>
    rw [List.lookup_eq_none_iff] at e
    rw [← nby_keys] at h
    obtain ⟨p, hp, rfl⟩ := List.mem_map.mp h
    have := e p hp
    simp at this
end Fx

/-! G: a graph is shown; equal trees are equal. -/
namespace Fx
open PySem PySem.Spec PyProof.Rows L2
def wD (d : D) : Nat := (toPy d).weight
def pD (d : D) : Nat := (toPy d).depth
theorem w_lst0 : wD (.lst []) = 0 := by simp [wD, toPy, toPyL, PyData.weight, PyData.weightAll]
theorem w_lst (d : D) (l : List D) : wD (.lst (d :: l)) = wD d + 1 + wD (.lst l) := by simp [wD, toPy, toPyL, PyData.weight, PyData.weightAll]
theorem w_tup0 : wD (.tup []) = 0 := by simp [wD, toPy, toPyL, PyData.weight, PyData.weightAll]
theorem w_tup (d : D) (l : List D) : wD (.tup (d :: l)) = wD d + 1 + wD (.tup l) := by simp [wD, toPy, toPyL, PyData.weight, PyData.weightAll]
theorem w_str (x : Str) : wD (.str x) = x.cps.size := by simp [wD, toPy, PyData.weight]
theorem w_bl (b : Bool) : wD (.bl b) = 0 := by simp [wD, toPy, PyData.weight]
theorem w_non : wD .non = 0 := by simp [wD, toPy, PyData.weight]
theorem w_int (i : Int) : wD (.int i) = if i == 0 then 0 else i.natAbs.log2 + 1 := by simp [wD, toPy, PyData.weight]
theorem p_lst {n : Nat} : ∀ {l : List D}, (∀ d ∈ l, pD d ≤ n) → pD (.lst l) ≤ n + 1 := fun {l} h => by
  have key : ∀ l : List D, (∀ d ∈ l, pD d ≤ n) → PyData.depthAll (toPyL l) ≤ n := by
    intro l
    induction l with
    | nil => intro _; simp [toPyL, PyData.depthAll]
    | cons d l ih =>
      intro h
      have h1 := h d (by simp)
      have h2 := ih fun e he => h e (by simp [he])
      unfold pD at h1
      simp only [toPyL, PyData.depthAll]
      omega
  have := key l h
  simp only [pD, toPy, PyData.depth]
  omega
theorem p_tup {n : Nat} {l : List D} (h : ∀ d ∈ l, pD d ≤ n) : pD (.tup l) ≤ n + 1 := by
  have := p_lst h
  simpa [pD, toPy, PyData.depth] using this
theorem p_str (x : Str) : pD (.str x) = 0 := by simp [pD, toPy, PyData.depth]
theorem p_int (i : Int) : pD (.int i) = 0 := by simp [pD, toPy, PyData.depth]
theorem p_bl (b : Bool) : pD (.bl b) = 0 := by simp [pD, toPy, PyData.depth]
theorem rok_lst {l : List D} (h : ∀ d ∈ l, rok d = true) : rok (.lst l) = true := by
  have key : ∀ l : List D, (∀ d ∈ l, rok d = true) → rokL l = true := by
    intro l
    induction l with
    | nil => intro _; rfl
    | cons d l ih => intro h; simp only [rokL, h d (by simp), ih fun e he => h e (by simp [he])]; rfl
  exact key l h
theorem rok_tup {l : List D} (h : ∀ d ∈ l, rok d = true) : rok (.tup l) = true := rok_lst (l := l) h
theorem NmOk.rok {x : Str} (h : NmOk x) : rok (.str x) = true := by
  show (x.cps.toList.all fun c => Nat.blt c 128) = true
  rw [List.all_eq_true]
  intro c hc
  have := h.az c hc
  rw [Nat.blt_eq]
  omega
theorem rok_side {s : Int} (h : s = 0 ∨ s = 1) : rok (.int s) = true := by
  rcases h with rfl | rfl
  · show smallI (10 ^ 500) 0 = true
    decide +kernel
  · show smallI (10 ^ 500) 1 = true
    decide +kernel
theorem w_side {s : Int} (h : s = 0 ∨ s = 1) : wD (.int s) ≤ 1 := by
  rw [w_int]
  rcases h with rfl | rfl
  · decide
  · decide
/-- a dart that can be -/
def DtOk (d : Dart) : Prop := NmOk d.1 ∧ (d.2 = 0 ∨ d.2 = 1)
theorem DtOk.rok {d : Dart} (h : DtOk d) : rok (dD d) = true := rok_tup fun z hz => by
  simp at hz
  rcases hz with rfl | rfl
  · exact h.1.rok
  · exact rok_side h.2
theorem DtOk.w {d : Dart} (h : DtOk d) : wD (dD d) ≤ 11 := by
  have h1 := h.1.hi
  have h2 := w_side h.2
  unfold dD
  rw [w_tup, w_tup, w_tup0, w_str]
  omega
theorem DtOk.p (d : Dart) : pD (dD d) ≤ 1 := p_tup fun z hz => by
  simp at hz
  rcases hz with rfl | rfl
  · rw [p_str]; omega
  · rw [p_int]; omega
theorem row_w : ∀ {r : List Dart}, (∀ d ∈ r, DtOk d) → wD (rowD r) ≤ 12 * r.length
  | [], _ => by unfold rowD; rw [List.map_nil, w_lst0]; omega
  | d :: r, h => by
    have h1 := (h d (by simp)).w
    have h2 := row_w (r := r) fun e he => h e (by simp [he])
    unfold rowD at h2 ⊢
    rw [List.map_cons, w_lst, List.length_cons]
    omega
theorem row_p (r : List Dart) : pD (rowD r) ≤ 2 := p_lst fun z hz => by
  obtain ⟨d, _, rfl⟩ := List.mem_map.mp hz
  exact DtOk.p d
theorem row_rok {r : List Dart} (h : ∀ d ∈ r, DtOk d) : rok (rowD r) = true := rok_lst fun z hz => by
  obtain ⟨d, hd, rfl⟩ := List.mem_map.mp hz
  exact (h d hd).rok
theorem GrOk.rows {g : Gr} (h : GrOk g) {p : Str × List Dart} (hp : p ∈ g) : ∀ d ∈ p.2, DtOk d := fun d hd => h.no d (List.mem_flatMap.mpr ⟨p, hp, hd⟩)
theorem gr_w : ∀ {g : Gr}, (∀ p ∈ g, NmOk p.1) → (∀ p ∈ g, ∀ d ∈ p.2, DtOk d) → wD (gD g) ≤ 12 * (dartsOf g).length + 11 * g.length
  | [], _, _ => by unfold gD; rw [List.map_nil, w_lst0]; omega
  | (x, r) :: g, h1, h2 => by
    have a1 := (h1 (x, r) (by simp)).hi
    have a2 := row_w (h2 (x, r) (by simp))
    have a3 := gr_w (g := g) (fun p hp => h1 p (by simp [hp])) fun p hp => h2 p (by simp [hp])
    have e0 : (dartsOf ((x, r) :: g)).length = r.length + (dartsOf g).length := by unfold dartsOf; rw [List.flatMap_cons, List.length_append]
    unfold gD at a3 ⊢
    rw [List.map_cons, w_lst, e0, List.length_cons]
    have e1 : wD (vD (x, r)) = x.cps.size + 1 + (wD (rowD r) + 1 + 0) := by
      unfold vD
      rw [w_tup, w_tup, w_tup0, w_str]
    simp only at a1 a2
    omega
/-- repr of a graph -/
theorem gr_rpr {g : Gr} (h : GrOk g) (hl : 12 * (dartsOf g).length + 11 * g.length ≤ 27000) : ∃ t : Str, rprF [gD g] = some (.str t) ∧ PyData.strOk t = true := by
  refine rpr_same (rok_lst fun z hz => ?_) (Nat.le_trans (show pD (gD g) ≤ 4 from p_lst fun z hz => ?_) (by decide)) (Nat.le_trans (gr_w h.vo fun p hp => h.rows hp) hl)
  · obtain ⟨p, hp, rfl⟩ := List.mem_map.mp hz
    refine rok_tup fun y hy => ?_
    simp at hy
    rcases hy with rfl | rfl
    · exact (h.vo p hp).rok
    · exact row_rok (h.rows hp)
  · obtain ⟨p, hp, rfl⟩ := List.mem_map.mp hz
    refine p_tup fun y hy => ?_
    simp at hy
    rcases hy with rfl | rfl
    · rw [p_str]; omega
    · exact row_p _
/-- equal texts -/
theorem ne_same {t : Str} (h : PyData.strOk t = true) : neD (.str t) (.str t) = some false := by
  rw [neD_, fit_str, h]
  simp
theorem GrOk.rev {g : Gr} (h : GrOk g) : GrOk g.reverse := by
  have hp : List.Perm (dartsOf g.reverse) (dartsOf g) := (List.reverse_perm g).flatMap_right _
  refine ⟨?_, fun p hp => h.vo p (by simpa using hp), hp.nodup_iff.mpr h.dn, fun d hd => h.no d (hp.mem_iff.mp hd), fun x => ?_⟩
  · rw [List.map_reverse]; exact (List.reverse_perm _).nodup_iff.mpr h.vn
  · rw [hp.mem_iff, hp.mem_iff]; exact h.op x
theorem rev_gD (g : Gr) : revD (gD g) = some (gD g.reverse) := by
  show some (D.lst (g.map vD).reverse) = _
  rw [← List.map_reverse]; rfl
end Fx

/-! G: sorted, as a plain law: corners. -/
namespace Fx
open PySem PySem.Spec PyProof.Rows L2
def toksD (d : D) : List (Int ⊕ List Nat) := PySem.W.keyToks (toPy d)
abbrev oD : KeyOrd := listOrd itemOrd
theorem leT_def (a b : D) : leT a b = !oD.blt (toksD b) (toksD a) := rfl
theorem leT_all : PySem.W.TotalLe leT := PySem.W.sortLe_total oD false (fun d : D => toksD d)
theorem leT_total (a b : D) : (leT a b || leT b a) = true := by
  rw [Bool.or_eq_true]; exact leT_all.total a b
theorem leT_trans (a b c : D) (h1 : leT a b = true) (h2 : leT b c = true) : leT a c = true := leT_all.trans a b c h1 h2
theorem leT_anti {a b : D} (h1 : leT a b = true) (h2 : leT b a = true) : toksD a = toksD b := by
  rw [leT_def] at h1 h2
  exact oD.total _ _ (by simpa using h2) (by simpa using h1)
/-- lists of the same items, sorted -/
theorem sort_perm {l m : List D} (h : List.Perm l m) (inj : ∀ a ∈ l, ∀ b ∈ l, toksD a = toksD b → a = b) : l.mergeSort leT = m.mergeSort leT := by
  have p1 := List.mergeSort_perm l leT
  have p2 := List.mergeSort_perm m leT
  refine List.Perm.eq_of_pairwise (le := fun a b => leT a b = true) (fun a b ha hb h1 h2 => ?_) (List.pairwise_mergeSort leT_trans leT_total l) (List.pairwise_mergeSort leT_trans leT_total m) (p1.trans (h.trans p2.symm))
  exact inj a (p1.mem_iff.mp ha) b (h.mem_iff.mpr (p2.mem_iff.mp hb)) (leT_anti h1 h2)
end Fx

/-! G: corners of a graph, the next and the previous one. -/
namespace Fx
open PySem PySem.Spec PyProof.Rows L2
/-- e follows d at its vertex -/
def Nx (g : Gr) (d e : Dart) : Prop := ∃ (x : Str) (r : List Dart) (j : Nat) (h : j < r.length), (x, r) ∈ g ∧ r[j] = d ∧ r[(j + 1) % r.length]'(Nat.mod_lt _ (by omega)) = e
theorem nx_of {g : Gr} {d : Dart} (h : d ∈ dartsOf g) : ∃ e, Nx g d e := by
  obtain ⟨⟨x, r⟩, hp, hd⟩ := List.mem_flatMap.mp h
  obtain ⟨j, hj, rfl⟩ := List.getElem_of_mem hd
  exact ⟨_, x, r, j, hj, hp, rfl, rfl⟩
theorem Nx.mem {g : Gr} {d e : Dart} (h : Nx g d e) : d ∈ dartsOf g ∧ e ∈ dartsOf g := by
  obtain ⟨x, r, j, hj, hp, rfl, rfl⟩ := h
  exact ⟨List.mem_flatMap.mpr ⟨_, hp, List.getElem_mem _⟩, List.mem_flatMap.mpr ⟨_, hp, List.getElem_mem _⟩⟩
theorem Nx.nby {g : Gr} (ok : GrOk g) {d e : Dart} (h : Nx g d e) : (nby g).lookup d = some (dD e) := by
  obtain ⟨x, r, j, hj, hp, rfl, rfl⟩ := h
  exact nby_look ok hp hj
theorem Nx.pby {g : Gr} (ok : GrOk g) {d e : Dart} (h : Nx g d e) : (pby g).lookup e = some (dD d) := by
  obtain ⟨x, r, j, hj, hp, rfl, rfl⟩ := h
  exact pby_look ok hp hj
theorem nx_to {g : Gr} {e : Dart} (h : e ∈ dartsOf g) : ∃ d, Nx g d e := by
  obtain ⟨⟨x, r⟩, hp, hd⟩ := List.mem_flatMap.mp h
  obtain ⟨j, hj, rfl⟩ := List.getElem_of_mem hd
  have hj : j < r.length := hj
  have hm : ((j + r.length - 1) % r.length + 1) % r.length = j := by
    rcases Nat.eq_zero_or_pos j with rfl | hp
    · have e : 0 + r.length - 1 = r.length - 1 := by omega
      rw [e, Nat.mod_eq_of_lt (by omega : r.length - 1 < r.length)]
      have e2 : r.length - 1 + 1 = r.length := by omega
      rw [e2, Nat.mod_self]
    · have e : j + r.length - 1 = (j - 1) + r.length := by omega
      rw [e, Nat.add_mod_right, Nat.mod_eq_of_lt (by omega : j - 1 < r.length)]
      have e2 : j - 1 + 1 = j := by omega
      rw [e2, Nat.mod_eq_of_lt hj]
  exact ⟨_, x, r, (j + r.length - 1) % r.length, Nat.mod_lt _ (by omega), hp, rfl, by simp only [hm]⟩
theorem dD_inj {d e : Dart} (h : dD d = dD e) : d = e := by
  obtain ⟨a, b⟩ := d
  obtain ⟨c, f⟩ := e
  simp [dD] at h
  rw [h.1, h.2]
/-- the other side of the edge -/
def opp (d : Dart) : Dart := (d.1, 1 - d.2)
theorem opp_opp (d : Dart) : opp (opp d) = d := by
  obtain ⟨a, b⟩ := d
  simp [opp]
  omega
theorem opp_mem {g : Gr} (ok : GrOk g) {d : Dart} (h : d ∈ dartsOf g) : opp d ∈ dartsOf g := by
  obtain ⟨x, s⟩ := d
  obtain ⟨_, h2⟩ := ok.no _ h
  simp at h2
  rcases h2 with rfl | rfl
  · exact (ok.op x).mp h
  · exact (ok.op x).mpr h
/-- a corner: of a vertex without darts, of a dart -/
inductive Cn where
  | v (x : Str) | d (e : Dart)
def cD : Cn → D
  | .v x => .tup [.str x]
  | .d e => dD e
def cnOf (g : Gr) : List Cn := g.flatMap fun p => p.2.map .d ++ if p.2.isEmpty then [.v p.1] else []
theorem cn_d {g : Gr} {e : Dart} : Cn.d e ∈ cnOf g ↔ e ∈ dartsOf g := by
  unfold cnOf dartsOf
  simp only [List.mem_flatMap, List.mem_append, List.mem_map]
  constructor
  · rintro ⟨p, hp, ⟨d, hd, h⟩ | h⟩
    · cases h; exact ⟨p, hp, hd⟩
    · split at h <;> simp at h
  · rintro ⟨p, hp, hd⟩
    exact ⟨p, hp, .inl ⟨e, hd, rfl⟩⟩
theorem cn_v {g : Gr} {x : Str} : Cn.v x ∈ cnOf g ↔ (x, []) ∈ g := by
  unfold cnOf
  simp only [List.mem_flatMap, List.mem_append, List.mem_map]
  constructor
  · rintro ⟨⟨y, r⟩, hp, ⟨d, hd, h⟩ | h⟩
    · cases h
    · cases r with
      | nil => simp at h; subst h; exact hp
      | cons a r => simp at h
  · intro h
    exact ⟨(x, []), h, .inr (by simp)⟩
/-- the next corner -/
def NxC (g : Gr) : Cn → Cn → Prop
  | .v x, c => c = .v x ∧ (x, []) ∈ g
  | .d d, c => ∃ e, Nx g d e ∧ c = .d (opp e)
/-! ### the methods -/
def hasDartM (self1 : D) (value2 : D) : O Unit :=
  O.val (isDartM value2) (fun r3 _ =>
  bindB (asB r3) fun b5 =>
  O.val (σ := Unit) (if b5 then
  bindO (insF "Rotations" "next_by" self1) fun nextby8 =>
  bindB (inD2 value2 nextby8) fun b9 =>
  bindB (asB (.bl b9)) fun b10 =>
  .rt (.bl b10) ()
  else
  .rt (.bl false) ()) (fun z11 s6 =>
  bindB (asB z11) fun b12 =>
  .rt (.bl b12) ()) fun x13 s7 =>
  .ex x13 ()) fun x4 _ =>
  .ex x4 ()
def hasCornM (self1 : D) (value2 : D) : O Unit :=
  bindO (isiF [value2, .raw (.ty "tuple")]) fun z3 =>
  bindB (asB z3) fun b4 =>
  O.val (σ := Unit) (if b4 then
  bindO (lenF [value2]) fun z7 =>
  bindB (eqD z7 (.int 1)) fun b8 =>
  .rt (.bl b8) ()
  else
  .rt (.bl false) ()) (fun z9 s5 =>
  bindB (asB z9) fun b10 =>
  if b10 then
  bindO (ixD2 value2 (.int 0)) fun z12 =>
  O.val (isNameM z12) (fun r13 _ =>
  bindB (asB r13) fun b15 =>
  O.val (σ := Unit) (if b15 then
  bindO (ixD2 value2 (.int 0)) fun z18 =>
  bindO (insF "Rotations" "isolated" self1) fun isolated19 =>
  bindB (inD2 z18 isolated19) fun b20 =>
  bindB (asB (.bl b20)) fun b21 =>
  .rt (.bl b21) ()
  else
  .rt (.bl false) ()) (fun z22 s16 =>
  bindB (asB z22) fun b23 =>
  .rt (.bl b23) ()) fun x24 s17 =>
  .ex x24 ()) fun x14 _ =>
  .ex x14 ()
  else
  if isIns "Rotations" "has_dart" self1 then
  O.val (hasDartM self1 value2) (fun r25 _ =>
  .rt r25 ()) fun x26 _ =>
  .ex x26 ()
  else .no) fun x11 s6 =>
  .ex x11 ()
def oppM (dart1 : D) : O Unit :=
  bindL (unpk 2 dart1) fun l2 =>
  bindO (subD (.int 1) ((l2.tail).headD .non)) fun z3 =>
  .rt (.tup [l2.headD .non, z3]) ()
def nextCornM (self1 : D) (corner2 : D) : O Unit :=
  bindO (lenF [corner2]) fun z3 =>
  bindB (eqD z3 (.int 1)) fun b4 =>
  O.val (σ := Unit) (if b4 then
  .rt corner2 ()
  else
  bindO (insF "Rotations" "next_by" self1) fun nextby5 =>
  bindO (ixD2 nextby5 corner2) fun z6 =>
  O.val (oppM z6) (fun r7 _ =>
  .rt r7 ()) fun x8 _ =>
  .ex x8 ()) (fun z9 s10 =>
  .rt z9 ()) fun x12 s11 => .ex x12 ()
def prevCornM (self1 : D) (corner2 : D) : O Unit :=
  bindO (lenF [corner2]) fun z3 =>
  bindB (eqD z3 (.int 1)) fun b4 =>
  O.val (σ := Unit) (if b4 then
  .rt corner2 ()
  else
  bindO (insF "Rotations" "previous_by" self1) fun previousby5 =>
  O.val (oppM corner2) (fun r6 _ =>
  bindO (ixD2 previousby5 r6) fun z8 =>
  .rt z8 ()) fun x7 _ =>
  .ex x7 ()) (fun z9 s10 =>
  .rt z9 ()) fun x12 s11 => .ex x12 ()

theorem hasDart_yes {g : Gr} {d : Dart} (h : GrOk g) (hd : d ∈ dartsOf g) : hasDartM (rotT g) (dD d) = .rt (.bl true) () := by
  obtain ⟨h1, h2⟩ := h.no d hd
  have e2 : insF "Rotations" "next_by" (rotT g) = some (mD (nby g)) := rfl
  unfold hasDartM
  rw [isDart_ok h1 h2, val_rt, asB_bl, bindB_s, if_pos rfl, e2, bindO_s, in_m, nby_some hd, bindB_s]
  rfl
theorem hasDart_no {g : Gr} {v : D} (h : isDartM v = .rt (.bl false) () ∨ (isDartM v = .rt (.bl true) () ∧ ∃ d, v = dD d ∧ d ∉ dartsOf g)) : hasDartM (rotT g) v = .rt (.bl false) () := by
  rcases h with h | ⟨h, d, rfl, hd⟩
  · unfold hasDartM
    rw [h, val_rt, asB_bl, bindB_s, if_neg (by decide), val_rt]
    rfl
  · have e2 : insF "Rotations" "next_by" (rotT g) = some (mD (nby g)) := rfl
    unfold hasDartM
    rw [h, val_rt, asB_bl, bindB_s, if_pos rfl, e2, bindO_s, in_m, nby_none hd, bindB_s]
    rfl
theorem iso_some {g : Gr} {x : Str} (h : (x, []) ∈ g) : ((iso g).lookup x).isSome = true := by
  cases e : (iso g).lookup x with
  | some z => rfl
  | none =>
    rw [List.lookup_eq_none_iff] at e
    have := e (x, .bl true) (List.mem_map.mpr ⟨(x, []), List.mem_filter.mpr ⟨h, rfl⟩, rfl⟩)
    simp at this
theorem iso_none {g : Gr} {x : Str} (h : (x, []) ∉ g) : (iso g).lookup x = none := by
  rw [List.lookup_eq_none_iff]
  intro p hp
  obtain ⟨q, hq, rfl⟩ := List.mem_map.mp hp
  obtain ⟨hq, hr⟩ := List.mem_filter.mp hq
  obtain ⟨y, r⟩ := q
  have hr : r = [] := by simpa using hr
  subst hr
  have : ¬ x = y := fun e => h (e ▸ hq)
  simpa using this
theorem lenT (l : List D) : lenF [.tup l] = some (.int l.length) := rfl
theorem hasCorn_v {g : Gr} {x : Str} (hx : NmOk x) : hasCornM (rotT g) (.tup [.str x]) = .rt (.bl ((iso g).lookup x).isSome) () := by
  unfold hasCornM
  have e1 : isiF [.tup [.str x], .raw (.ty "tuple")] = some (.bl true) := rfl
  have e2 : eqD (.int (([.str x] : List D).length : Nat)) (.int 1) = some true := rfl
  have e3 : ixD2 (.tup [.str x]) (.int 0) = some (.str x) := rfl
  have e4 : insF "Rotations" "isolated" (rotT g) = some (sD (iso g)) := rfl
  rw [e1, bindO_s, asB_bl, bindB_s, if_pos rfl, lenT, bindO_s, e2, bindB_s, val_rt, asB_bl, bindB_s, if_pos rfl, e3, bindO_s, isName_ok hx, val_rt, asB_bl, bindB_s, if_pos rfl, bindO_s, e4, bindO_s, in_s, bindB_s]
  rfl
theorem hasCorn_d {g : Gr} {d : Dart} (b : Bool) (h : hasDartM (rotT g) (dD d) = .rt (.bl b) ()) : hasCornM (rotT g) (dD d) = .rt (.bl b) () := by
  unfold hasCornM
  have e1 : isiF [dD d, .raw (.ty "tuple")] = some (.bl true) := rfl
  have e0 : lenF [dD d] = some (.int 2) := rfl
  have e2 : eqD (.int 2) (.int 1) = some false := rfl
  have e3 : isIns "Rotations" "has_dart" (rotT g) = true := rfl
  rw [e1, bindO_s, asB_bl, bindB_s, if_pos rfl, e0, bindO_s, e2, bindB_s, val_rt, asB_bl, bindB_s, if_neg (by decide), if_pos e3, h, val_rt]
theorem hasCorn_yes {g : Gr} (ok : GrOk g) {c : Cn} (h : c ∈ cnOf g) : hasCornM (rotT g) (cD c) = .rt (.bl true) () := by
  cases c with
  | v x =>
    have hx := cn_v.mp h
    have := hasCorn_v (g := g) (ok.vo _ hx)
    rw [iso_some hx] at this
    exact this
  | d e => exact hasCorn_d true (hasDart_yes ok (cn_d.mp h))
theorem opp_ok (d : Dart) : oppM (dD d) = .rt (dD (opp d)) () := by
  unfold oppM
  have e : unpk 2 (dD d) = some [.str d.1, .int d.2] := rfl
  rw [e, bindL_s]
  rfl
theorem nextC_ok {g : Gr} (ok : GrOk g) {c c' : Cn} (h : NxC g c c') : nextCornM (rotT g) (cD c) = .rt (cD c') () := by
  unfold nextCornM
  cases c with
  | v x =>
    obtain ⟨rfl, _⟩ := h
    have e2 : eqD (.int (([.str x] : List D).length : Nat)) (.int 1) = some true := rfl
    show bindO (lenF [.tup [.str x]]) _ = _
    rw [lenT, bindO_s, e2, bindB_s, if_pos rfl, val_rt]
  | d d =>
    obtain ⟨e, he, rfl⟩ := h
    have e0 : lenF [dD d] = some (.int 2) := rfl
    have e2 : eqD (.int 2) (.int 1) = some false := rfl
    have e4 : insF "Rotations" "next_by" (rotT g) = some (mD (nby g)) := rfl
    show bindO (lenF [dD d]) _ = _
    rw [e0, bindO_s, e2, bindB_s, if_neg (by decide), e4, bindO_s]
    show O.val (bindO (ixD2 (mD (nby g)) (dD d)) _) _ _ = _
    rw [ix_m, he.nby ok, bindO_s, opp_ok, val_rt, val_rt]
    rfl
theorem prevC_ok {g : Gr} (ok : GrOk g) {c c' : Cn} (h : NxC g c c') : prevCornM (rotT g) (cD c') = .rt (cD c) () := by
  unfold prevCornM
  cases c with
  | v x =>
    obtain ⟨rfl, _⟩ := h
    have e2 : eqD (.int (([.str x] : List D).length : Nat)) (.int 1) = some true := rfl
    show bindO (lenF [.tup [.str x]]) _ = _
    rw [lenT, bindO_s, e2, bindB_s, if_pos rfl, val_rt]
  | d d =>
    obtain ⟨e, he, rfl⟩ := h
    have e0 : lenF [dD (opp e)] = some (.int 2) := rfl
    have e2 : eqD (.int 2) (.int 1) = some false := rfl
    have e4 : insF "Rotations" "previous_by" (rotT g) = some (mD (pby g)) := rfl
    show bindO (lenF [dD (opp e)]) _ = _
    rw [e0, bindO_s, e2, bindB_s, if_neg (by decide), e4, bindO_s]
    show O.val (O.val (oppM (dD (opp e))) _ _) _ _ = _
    rw [opp_ok, opp_opp, val_rt, ix_m, he.pby ok, bindO_s, val_rt]
    rfl
theorem nxC_of {g : Gr} (ok : GrOk g) {c : Cn} (h : c ∈ cnOf g) : ∃ c', NxC g c c' ∧ c' ∈ cnOf g := by
  cases c with
  | v x => exact ⟨.v x, ⟨rfl, cn_v.mp h⟩, h⟩
  | d d =>
    obtain ⟨e, he⟩ := nx_of (cn_d.mp h)
    exact ⟨.d (opp e), ⟨e, he, rfl⟩, cn_d.mpr (opp_mem ok he.mem.2)⟩
theorem nxC_to {g : Gr} (ok : GrOk g) {c : Cn} (h : c ∈ cnOf g) : ∃ c', NxC g c' c ∧ c' ∈ cnOf g := by
  cases c with
  | v x => exact ⟨.v x, ⟨rfl, cn_v.mp h⟩, h⟩
  | d d =>
    obtain ⟨e, he⟩ := nx_to (opp_mem ok (cn_d.mp h))
    exact ⟨.d e, ⟨opp d, he, by rw [opp_opp]⟩, cn_d.mpr he.mem.1⟩
end Fx

/-! G: the corners sorted; each is the next of one. -/
namespace Fx
open PySem PySem.Spec PyProof.Rows L2
theorem perm_sub {α : Type} : ∀ (l m : List α), l.Nodup → (∀ a ∈ l, a ∈ m) → m.length ≤ l.length → List.Perm l m
  | [], m, _, _, h => by
    have : m = [] := List.length_eq_zero_iff.mp (by simpa using h)
    rw [this]
  | a :: l, m, hn, hs, hl => by
    rw [List.nodup_cons] at hn
    obtain ⟨s, t, rfl⟩ := List.append_of_mem (hs a (by simp))
    have h1 : List.Perm l (s ++ t) := perm_sub l (s ++ t) hn.2 (fun b hb => by
      have := hs b (by simp [hb])
      simp only [List.mem_append, List.mem_cons] at this
      rcases this with h | rfl | h
      · simp [h]
      · exact absurd hb hn.1
      · simp [h]) (by simp at hl ⊢; omega)
    exact (h1.cons a).trans List.perm_middle.symm
theorem cD_inj {c c' : Cn} (h : cD c = cD c') : c = c' := by
  cases c with
  | v x =>
    cases c' with
    | v y => simp [cD] at h; rw [h]
    | d e => simp [cD, dD] at h
  | d d =>
    cases c' with
    | v y => simp [cD, dD] at h
    | d e => rw [dD_inj h]
theorem cn_nodup {g : Gr} (ok : GrOk g) : (cnOf g).Nodup := by
  have key : ∀ g : Gr, (g.map (·.1)).Nodup → (dartsOf g).Nodup → (cnOf g).Nodup := by
    intro g
    induction g with
    | nil => intro _ _; simp [cnOf]
    | cons p g ih =>
      obtain ⟨x, r⟩ := p
      intro h1 h2
      have e0 : dartsOf ((x, r) :: g) = r ++ dartsOf g := by unfold dartsOf; rw [List.flatMap_cons]
      have e1 : cnOf ((x, r) :: g) = (r.map .d ++ if r.isEmpty then [.v x] else []) ++ cnOf g := by unfold cnOf; rw [List.flatMap_cons]
      rw [e0] at h2
      rw [List.map_cons, List.nodup_cons] at h1
      rw [e1, List.nodup_append]
      rw [List.nodup_append] at h2
      refine ⟨?_, ih h1.2 h2.2.1, fun a ha b hb e => ?_⟩
      · cases r with
        | nil => simp
        | cons d r =>
          simp only [List.isEmpty_cons, Bool.false_eq_true, if_false, List.append_nil]
          exact List.pairwise_map.mpr (h2.1.imp fun h e => h (by cases e; rfl))
      · subst e
        rcases List.mem_append.mp ha with ha | ha
        · obtain ⟨d, hd, rfl⟩ := List.mem_map.mp ha
          exact h2.2.2 d hd d (cn_d.mp hb) rfl
        · cases r with
          | nil =>
            simp at ha
            subst ha
            exact h1.1 (List.mem_map_of_mem (cn_v.mp hb))
          | cons d r => simp at ha
  exact key g ok.vn ok.dn
theorem NxC.back {g : Gr} (ok : GrOk g) {c1 c2 c : Cn} (h1 : NxC g c1 c) (h2 : NxC g c2 c) : c1 = c2 := by
  have e := (prevC_ok ok h1).symm.trans (prevC_ok ok h2)
  injection e with e
  exact cD_inj e
/-- the next corners of all corners are all corners -/
theorem nxC_perm {g : Gr} (ok : GrOk g) : ∃ f : Cn → Cn, (∀ c ∈ cnOf g, NxC g c (f c) ∧ f c ∈ cnOf g) ∧ List.Perm ((cnOf g).map f) (cnOf g) := by
  have h : ∀ c : Cn, ∃ c' : Cn, c ∈ cnOf g → (NxC g c c' ∧ c' ∈ cnOf g) := fun c => by
    by_cases hc : c ∈ cnOf g
    · obtain ⟨c', h1, h2⟩ := nxC_of ok hc
      exact ⟨c', fun _ => ⟨h1, h2⟩⟩
    · exact ⟨c, fun h => absurd h hc⟩
  obtain ⟨f, hf⟩ := Classical.axiomOfChoice h
  refine ⟨f, hf, perm_sub _ _ ?_ (fun a ha => ?_) (by simp)⟩
  · have hn := cn_nodup ok
    rw [List.Nodup, List.pairwise_map]
    refine List.Pairwise.imp_of_mem (fun {a b} ha hb hab e => hab ?_) hn
    have h1 := (hf a ha).1
    have h2 := (hf b hb).1
    rw [e] at h1
    exact h1.back ok h2
  · obtain ⟨c, hc, rfl⟩ := List.mem_map.mp ha
    exact (hf c hc).2
/-! ### sorted -/
def CnOk : Cn → Prop
  | .v x => NmOk x
  | .d d => DtOk d
theorem cn_ok {g : Gr} (ok : GrOk g) {c : Cn} (h : c ∈ cnOf g) : CnOk c := by
  cases c with
  | v x => exact ok.vo _ (cn_v.mp h)
  | d d => exact ok.no _ (cn_d.mp h)
theorem toks_inj {c c' : Cn} (h : toksD (cD c) = toksD (cD c')) : c = c' := by
  have ev : ∀ x : Str, toksD (cD (.v x)) = [.inl 1, .inr x.cps.toList, .inl 0] := fun x => by simp [toksD, cD, toPy, toPyL, PySem.W.keyToks, PySem.W.keyToksAll]
  have ed : ∀ d : Dart, toksD (cD (.d d)) = [.inl 1, .inr d.1.cps.toList, .inl 1, .inl d.2, .inl 0] := fun x => by simp [toksD, cD, dD, toPy, toPyL, PySem.W.keyToks, PySem.W.keyToksAll]
  have es : ∀ {x y : Str}, x.cps.toList = y.cps.toList → x = y := fun {x y} h => by
    cases x; cases y
    simp at h
    rw [h]
  cases c with
  | v x =>
    cases c' with
    | v y =>
      rw [ev, ev] at h
      simp at h
      rw [es (congrArg Array.toList h)]
    | d e => rw [ev, ed] at h; simp at h
  | d d =>
    cases c' with
    | v y => rw [ev, ed] at h; simp at h
    | d e =>
      rw [ed, ed] at h
      simp at h
      have h1 : d.1 = e.1 := es (congrArg Array.toList h.1)
      have : d = e := Prod.ext h1 h.2
      rw [this]
theorem cn_flat (c : Cn) : flatD (cD c) = true := by cases c <;> rfl
theorem cn_tup (c : Cn) : tup1 (cD c) = true := by cases c <;> rfl
theorem cn_alike (c c' : Cn) : PySem.W.alike (toPy (cD c)) (toPy (cD c')) = true := by
  cases c <;> cases c' <;> simp [cD, dD, toPy, toPyL, PySem.W.alike, PySem.W.alikeAll]
theorem cn_depth (c : Cn) : (toPy (cD c)).depth ≤ 60 := by
  cases c with
  | v x => exact Nat.le_trans (p_tup (n := 0) (l := [.str x]) fun z hz => by simp at hz; subst hz; rw [p_str]; omega) (by decide)
  | d d => exact Nat.le_trans (DtOk.p d) (by decide)
theorem flatL_all : ∀ {l : List D}, (∀ d ∈ l, flatD d = true) → flatL l = true
  | [], _ => rfl
  | d :: l, h => by
    have h2 : flatL l = true := flatL_all fun e he => h e (by simp [he])
    simp only [flatL, h d (by simp), h2]
    rfl
theorem sort_cn {l : List Cn} (h : l.length ≤ 10000) : sortF [.lst (l.map cD)] = some (.lst ((l.map cD).mergeSort leT)) := by
  have hz : sizeLine = 16777216 := sizeLine_eq
  have hm : ∀ d ∈ l.map cD, ∃ c, d = cD c := fun d hd => by
    obtain ⟨c, _, rfl⟩ := List.mem_map.mp hd
    exact ⟨c, rfl⟩
  show (if (flatL (l.map cD) && alikeL (l.map cD) && ((l.map cD).all tup1 || (l.map cD).all notNT) && (l.map cD).all (fun d => decide ((toPy d).depth ≤ 60)) && decide ((l.map cD).length ≤ sizeLine)) = true then some (D.lst ((l.map cD).mergeSort leT)) else none) = _
  have h1 : flatL (l.map cD) = true := flatL_all fun d hd => by obtain ⟨c, rfl⟩ := hm d hd; exact cn_flat c
  have h2 : alikeL (l.map cD) = true := by
    unfold alikeL
    rw [List.all_eq_true]
    intro d hd
    rw [List.all_eq_true]
    intro e he
    obtain ⟨c, rfl⟩ := hm d hd
    obtain ⟨c', rfl⟩ := hm e he
    exact cn_alike c c'
  have h3 : (l.map cD).all tup1 = true := by
    rw [List.all_eq_true]
    intro d hd
    obtain ⟨c, rfl⟩ := hm d hd
    exact cn_tup c
  have h4 : (l.map cD).all (fun d => decide ((toPy d).depth ≤ 60)) = true := by
    rw [List.all_eq_true]
    intro d hd
    obtain ⟨c, rfl⟩ := hm d hd
    exact decide_eq_true (cn_depth c)
  rw [h1, h2, h3, h4, decide_eq_true (by simp; omega)]
  rfl
theorem sort_same {l m : List Cn} (h : List.Perm l m) : (l.map cD).mergeSort leT = (m.map cD).mergeSort leT := sort_perm (h.map cD) fun a ha b hb e => by
  obtain ⟨c, _, rfl⟩ := List.mem_map.mp ha
  obtain ⟨c', _, rfl⟩ := List.mem_map.mp hb
  rw [toks_inj e]
/-- sorted corners are corners -/
theorem sorted_cn (l : List Cn) : ∃ m : List Cn, List.Perm m l ∧ (l.map cD).mergeSort leT = m.map cD := by
  have hp := List.mergeSort_perm (l.map cD) leT
  have key : ∀ (q : List D) (l : List Cn), List.Perm q (l.map cD) → ∃ m : List Cn, List.Perm m l ∧ q = m.map cD := by
    intro q
    induction q with
    | nil =>
      intro l h
      have : l = [] := by simpa using h.symm.eq_nil
      subst this
      exact ⟨[], .refl _, rfl⟩
    | cons d q ih =>
      intro l h
      have hd : d ∈ l.map cD := h.mem_iff.mp (by simp)
      obtain ⟨c, hc, rfl⟩ := List.mem_map.mp hd
      obtain ⟨s, t, rfl⟩ := List.append_of_mem hc
      have h2 : List.Perm q ((s ++ t).map cD) := by
        have h3 : List.Perm (cD c :: q) (cD c :: (s ++ t).map cD) := h.trans (by
          rw [List.map_append, List.map_append, List.map_cons]
          exact List.perm_middle)
        exact h3.cons_inv
      obtain ⟨m, h4, rfl⟩ := ih _ h2
      exact ⟨c :: m, (h4.cons c).trans List.perm_middle.symm, rfl⟩
  exact key _ l hp
theorem fit_cn {c : Cn} (h : CnOk c) (n : Nat) : fitD (n + 1) (cD c) = true := by
  cases c with
  | v x =>
    have h : NmOk x := h
    show fitD (n + 1) (.tup [.str x]) = true
    rw [fit_tup_]
    simp [h.fit]
  | d d =>
    have h : DtOk d := h
    exact fit_dart h.1
theorem same_cn (c : Cn) : same (cD c) (cD c) = true := by
  cases c with
  | v x => simp [cD]
  | d d => unfold cD dD; simp
theorem ne_cn {c : Cn} (h : CnOk c) : neD (cD c) (cD c) = some false := by
  rw [neD_, fit_cn h, same_cn]; rfl
end Fx

/-! G: values beside a graph: no corners, lists of corners, what repr shows. -/
namespace Fx
open PySem PySem.Spec PyProof.Rows L2
open PySem.Builtin.Str (reprChar)
structure Sm (g : Gr) : Prop where
  ok : GrOk g
  d : (dartsOf g).length < 5000
  v : g.length < 5000
theorem Sm.init {g : Gr} (h : Sm g) : rotM (gD g) = .rt .non (rotT g) := rot_ok h.ok (by have := h.d; omega) (by have := h.v; omega)
theorem nxc_mem {g : Gr} {c c' : Cn} (ok : GrOk g) (h : NxC g c c') : c ∈ cnOf g ∧ c' ∈ cnOf g := by
  cases c with
  | v x =>
    obtain ⟨rfl, hx⟩ := h
    exact ⟨cn_v.mpr hx, cn_v.mpr hx⟩
  | d d =>
    obtain ⟨e, he, rfl⟩ := h
    exact ⟨cn_d.mpr he.mem.1, cn_d.mpr (opp_mem ok he.mem.2)⟩
theorem addLst {a b : List D} (h : a.length + b.length ≤ 100000) : addD (.lst a) (.lst b) = some (.lst (a ++ b)) := by
  have hz : sizeLine = 16777216 := sizeLine_eq
  exact if_pos (by omega)
theorem mul_b (d : D) (b : Bool) : ∃ z, intF [.bl b] = some z ∧ mulD (.lst [d]) z = some (.lst (if b then [d] else [])) := by
  have hz : sizeLine = 16777216 := sizeLine_eq
  cases b with
  | true =>
    refine ⟨.int 1, rfl, ?_⟩
    show (if (0 : Int) ≤ 1 ∧ (1 : Int) < 2 ^ 63 ∧ ([d] : List D).length * (1 : Int).toNat ≤ sizeLine then some (D.lst (List.replicate (1 : Int).toNat [d]).flatten) else none) = _
    rw [if_pos ⟨by decide, by decide, by simp; omega⟩]
    rfl
  | false =>
    refine ⟨.int 0, rfl, ?_⟩
    show (if (0 : Int) ≤ 0 ∧ (0 : Int) < 2 ^ 63 ∧ ([d] : List D).length * (0 : Int).toNat ≤ sizeLine then some (D.lst (List.replicate (0 : Int).toNat [d]).flatten) else none) = _
    rw [if_pos ⟨by decide, by decide, by simp⟩]
    rfl
theorem cn_len (g : Gr) : (cnOf g).length ≤ (dartsOf g).length + g.length := by
  induction g with
  | nil => simp [cnOf]
  | cons p g ih =>
    obtain ⟨x, r⟩ := p
    have e0 : dartsOf ((x, r) :: g) = r ++ dartsOf g := by unfold dartsOf; rw [List.flatMap_cons]
    have e1 : cnOf ((x, r) :: g) = (r.map .d ++ if r.isEmpty then [.v x] else []) ++ cnOf g := by unfold cnOf; rw [List.flatMap_cons]
    rw [e0, e1, List.length_append, List.length_append, List.length_append, List.length_cons, List.length_map]
    have : (if r.isEmpty then [Cn.v x] else []).length ≤ 1 := by cases r.isEmpty <;> simp
    omega
theorem sameL_cn2 : ∀ l : List Cn, sameL (l.map cD) (l.map cD) = true
  | [] => sameL_nil
  | c :: l => by rw [List.map_cons, sameL_cons, same_cn, sameL_cn2 l]; rfl
theorem pick_0 {α : Type} (a b : α) : pickF [a, b] (.int 0) = some a := rfl
theorem pick_1 {α : Type} (a b : α) : pickF [a, b] (.int 1) = some b := rfl
theorem nm_z : NmOk "zzzzzzzz" := ⟨by decide, by decide, by decide⟩
theorem dart2 {x : Str} (h : NmOk x) {e : D} (he : isIntM e (.int 0) (.int 1) = .rt (.bl false) ()) : isDartM (.tup [.str x, e]) = .rt (.bl false) () := by
  unfold isDartM
  have e1 : isiF [.tup [.str x, e], .raw (.ty "tuple")] = some (.bl true) := rfl
  have e2 : eqD (.int (([.str x, e] : List D).length : Nat)) (.int 2) = some true := rfl
  have e3 : ixD2 (.tup [.str x, e]) (.int 0) = some (.str x) := rfl
  have e4 : ixD2 (.tup [.str x, e]) (.int 1) = some e := rfl
  rw [e1, bindO_s]
  simp only [asB_bl, bindB_s, if_true, lenF_t, bindO_s]
  rw [e2]
  simp only [asB_bl, bindB_s, if_true, e3, e4, bindO_s, isName_ok h, he, val_rt]
theorem hasCorn_2 {g : Gr} {a b : D} (hd : isDartM (.tup [a, b]) = .rt (.bl false) ()) : hasCornM (rotT g) (.tup [a, b]) = .rt (.bl false) () := by
  have hh := hasDart_no (g := g) (.inl hd)
  unfold hasCornM
  have e1 : isiF [.tup [a, b], .raw (.ty "tuple")] = some (.bl true) := rfl
  have e0 : lenF [.tup [a, b]] = some (.int 2) := rfl
  have e2 : eqD (.int 2) (.int 1) = some false := rfl
  have e3 : isIns "Rotations" "has_dart" (rotT g) = true := rfl
  rw [e1, bindO_s, asB_bl, bindB_s, if_pos rfl, e0, bindO_s, e2, bindB_s, val_rt, asB_bl, bindB_s, if_neg (by decide), if_pos e3, hh, val_rt]
theorem cut_2 (r : List Dart) : cutD (rowD r) none (some 2) = some (rowD (r.take 2)) := by
  show some (D.lst (cutL (r.map dD) none (some 2))) = _
  have e : cutL (r.map dD) none (some 2) = (r.take 2).map dD := by
    unfold cutL
    have e1 : HT.sIx (r.map dD).length (r.map dD).length (some 2) = min 2 (r.map dD).length := HT.sIx_nat _ _ 2
    have e2 : HT.sIx (r.map dD).length 0 none = 0 := rfl
    rw [e1, e2, List.drop_zero, Nat.sub_zero, List.map_take, ← List.take_take, List.take_length]
  rw [e]; rfl
theorem asI_2 {τ : Type} (k : Option Int → O τ) : Fx.bindI (asI (.int 2)) k = k (some 2) := rfl
/-- a comprehension with a test -/
theorem cmpA_flt {α : Type} {f : D → D → Unit → O Unit} (enc : α → D) (p : α → Bool) (q : α → D) : ∀ (xs : List α), (∀ a ∈ xs, ∀ acc, f (.lst acc) (enc a) () = if p a then bindO (addL (.lst acc) (q a)) fun a2 => .rt a2 () else .rt (.lst acc) ()) → ∀ acc : List D, acc.length + xs.length ≤ sizeLine → cmpA f (xs.map enc) (.lst acc) () = .rt (.lst (acc ++ (xs.filter p).map q)) ()
  | [], _, acc, _ => by simp [cmpA]
  | a :: xs, h, acc, hl => by
    rw [List.length_cons] at hl
    rw [List.map_cons]
    unfold cmpA
    rw [h a (by simp)]
    cases hp : p a with
    | true =>
      rw [if_pos rfl]
      show O.val (bindO (if acc.length < sizeLine then some (D.lst (acc ++ [q a])) else none) _) _ _ = _
      rw [if_pos (by omega), bindO_s, val_rt, cmpA_flt enc p q xs (fun b hb => h b (by simp [hb])) _ (by simp; omega)]
      simp [hp]
    | false =>
      rw [if_neg (by decide), val_rt, cmpA_flt enc p q xs (fun b hb => h b (by simp [hb])) _ (by omega)]
      simp [hp]
theorem ne_row {r : List Dart} (h : ∀ d ∈ r, NmOk d.1) : neD (rowD r) (.lst []) = some (!r.isEmpty) := by
  rw [neD_, fit_row h]
  cases r with
  | nil => simp [rowD]
  | cons d r => simp [rowD]
theorem not_iso {g : Gr} (ok : GrOk g) {x : Str} {r : List Dart} (hp : (x, r) ∈ g) (hr : r ≠ []) : (x, []) ∉ g := fun h => by
  have key : ∀ g : Gr, (g.map (·.1)).Nodup → (x, r) ∈ g → (x, []) ∈ g → False := by
    intro g
    induction g with
    | nil => intro _ h _; cases h
    | cons p g ih =>
      intro hn h1 h2
      rw [List.map_cons, List.nodup_cons] at hn
      rcases List.mem_cons.mp h1 with e1 | k1
      · rcases List.mem_cons.mp h2 with e2 | k2
        · rw [← e1] at e2; cases e2; exact hr rfl
        · subst e1
          exact hn.1 (List.mem_map.mpr ⟨_, k2, rfl⟩)
      · rcases List.mem_cons.mp h2 with e2 | k2
        · subst e2
          exact hn.1 (List.mem_map.mpr ⟨_, k1, rfl⟩)
        · exact ih hn.2 k1 k2
  exact key g ok.vn hp h
theorem cnL_len {r : List Dart} {x : Str} : (r.map Cn.d ++ if r.isEmpty then [Cn.v x] else []).length ≤ r.length + 1 := by cases r.isEmpty <;> simp
/-! ### what repr shows, sign by sign -/
def shC (d : D) : List Nat := (toPy d).shown.cps.toList
theorem cps_app (x y : Str) : (x ++ y).cps.toList = x.cps.toList ++ y.cps.toList := Array.toList_append
theorem str_ext {x y : Str} (h : x.cps.toList = y.cps.toList) : x = y := by
  cases x; cases y
  simp at h
  rw [h]
theorem reprChar_az : ∀ c, 97 ≤ c → c ≤ 122 → reprChar 39 c = [c] := by
  have h : ((List.range 26).all fun i => reprChar 39 (97 + i) == [97 + i]) = true := by decide +kernel
  intro c h1 h2
  have h3 := List.all_eq_true.mp h (c - 97) (List.mem_range.mpr (by omega))
  rw [show 97 + (c - 97) = c by omega] at h3
  exact eq_of_beq h3
theorem repr_nm {x : Str} (h : ∀ c ∈ x.cps.toList, 97 ≤ c ∧ c ≤ 122) : (reprText x).cps.toList = 39 :: (x.cps.toList ++ [39]) := by
  have hq : reprQuote x = 39 := by
    unfold reprQuote
    have : x.cps.contains 39 = false := by
      rw [← Bool.not_eq_true, Array.contains_iff_mem]
      intro hm
      have := h 39 (by simpa using hm)
      omega
    rw [this]
    rfl
  have key : ∀ (l : List Nat) (acc : Array Nat), (∀ c ∈ l, 97 ≤ c ∧ c ≤ 122) → (l.foldl (fun out c => out ++ (reprChar 39 c).toArray) acc).toList = acc.toList ++ l := fun l => by
    induction l with
    | nil => intro acc _; simp
    | cons c l ih =>
      intro acc h1
      rw [List.foldl_cons, ih _ fun d hd => h1 d (by simp [hd]), reprChar_az c (h1 c (by simp)).1 (h1 c (by simp)).2]
      simp
  unfold reprText
  rw [hq]
  show (Array.push _ 39).toList = _
  rw [Array.toList_push, ← Array.foldl_toList, key _ _ h]
  simp
theorem sh_str {x : Str} (h : NmOk x) : shC (.str x) = 39 :: (x.cps.toList ++ [39]) := repr_nm h.az
theorem sh_tup1 (a : D) : shC (.tup [a]) = 40 :: (shC a ++ [44, 41]) := by
  show (("(" : Str) ++ (toPy a).shown ++ (",)" : Str)).cps.toList = _
  rw [cps_app, cps_app]
  rfl
theorem sh_tup2 (a b : D) : shC (.tup [a, b]) = 40 :: (shC a ++ 44 :: 32 :: (shC b ++ [41])) := by
  show (("(" : Str) ++ ((toPy a).shown ++ (", " : Str) ++ (toPy b).shown) ++ (")" : Str)).cps.toList = _
  rw [cps_app, cps_app, cps_app, cps_app]
  show [40] ++ (shC a ++ [44, 32] ++ shC b) ++ [41] = _
  simp
theorem sh_tup3 (a b c : D) : shC (.tup [a, b, c]) = 40 :: (shC a ++ 44 :: 32 :: (shC b ++ 44 :: 32 :: (shC c ++ [41]))) := by
  show (("(" : Str) ++ ((toPy a).shown ++ (", " : Str) ++ ((toPy b).shown ++ (", " : Str) ++ (toPy c).shown)) ++ (")" : Str)).cps.toList = _
  rw [cps_app, cps_app, cps_app, cps_app, cps_app, cps_app]
  show [40] ++ (shC a ++ [44, 32] ++ (shC b ++ [44, 32] ++ shC c)) ++ [41] = _
  simp
theorem textFrom_head : ∀ (ts : List Str) (k : Nat) (acc : Str), acc.cps.toList.head? = some 91 → (textFrom k acc ts).cps.toList.head? = some 91
  | [], _, _, h => h
  | t :: r, k, acc, h => by
    refine textFrom_head r (k + 1) _ ?_
    rw [cps_app, cps_app]
    cases e : acc.cps.toList with
    | nil => rw [e] at h; cases h
    | cons c l => rw [e] at h; simpa using h
theorem sh_lst (l : List D) : (shC (.lst l)).head? = some 91 := by
  show (textFrom 0 "[" (PyData.shownAll (toPyL l)) ++ ("]" : Str)).cps.toList.head? = some 91
  rw [cps_app]
  have := textFrom_head (PyData.shownAll (toPyL l)) 0 "[" rfl
  cases e : (textFrom 0 "[" (PyData.shownAll (toPyL l))).cps.toList with
  | nil => rw [e] at this; cases this
  | cons c l => rw [e] at this; simpa using this
def nmOf : Cn → Str
  | .v x => x
  | .d d => d.1
def rsOf : Cn → List Nat
  | .v _ => [44, 41]
  | .d d => if d.2 = 0 then [44, 32, 48, 41] else [44, 32, 49, 41]
theorem CnOk.nm {c : Cn} (h : CnOk c) : NmOk (nmOf c) := by
  cases c with
  | v x => exact h
  | d d => exact h.1
theorem sh_cn {c : Cn} (h : CnOk c) : shC (cD c) = 40 :: 39 :: ((nmOf c).cps.toList ++ 39 :: rsOf c) := by
  cases c with
  | v x =>
    show shC (.tup [.str x]) = _
    rw [sh_tup1, sh_str h]
    simp [nmOf, rsOf]
  | d d =>
    show shC (.tup [.str d.1, .int d.2]) = _
    have e : shC (.int d.2) = if d.2 = 0 then [48] else [49] := by
      rcases h.2 with e | e <;> rw [e] <;> rfl
    rw [sh_tup2, sh_str h.1, e]
    show _ = 40 :: 39 :: (d.1.cps.toList ++ 39 :: if d.2 = 0 then [44, 32, 48, 41] else [44, 32, 49, 41])
    split <;> simp
theorem az_split : ∀ {x y r s : List Nat}, (∀ c ∈ x, 97 ≤ c ∧ c ≤ 122) → (∀ c ∈ y, 97 ≤ c ∧ c ≤ 122) → x ++ 39 :: r = y ++ 39 :: s → x = y ∧ r = s
  | [], [], r, s, _, _, h => by simpa using h
  | [], c :: y, r, s, _, hy, h => by
    simp at h
    have := hy c (by simp)
    omega
  | c :: x, [], r, s, hx, _, h => by
    simp at h
    have := hx c (by simp)
    omega
  | c :: x, d :: y, r, s, hx, hy, h => by
    simp at h
    obtain ⟨h1, h2⟩ := az_split (fun a ha => hx a (by simp [ha])) (fun a ha => hy a (by simp [ha])) h.2
    exact ⟨by rw [h.1, h1], h2⟩
/-- the text tells the corner -/
theorem sh_inj {c c' : Cn} (h : CnOk c) (h' : CnOk c') (e : shC (cD c) = shC (cD c')) : c = c' := by
  rw [sh_cn h, sh_cn h'] at e
  simp only [List.cons.injEq, true_and] at e
  obtain ⟨e1, e2⟩ := az_split h.nm.az h'.nm.az e
  have e1 := str_ext e1
  cases c with
  | v x =>
    cases c' with
    | v y => exact congrArg Cn.v e1
    | d d => simp [rsOf] at e2; split at e2 <;> simp at e2
  | d d =>
    cases c' with
    | v y => simp [rsOf] at e2; split at e2 <;> simp at e2
    | d d' =>
      have h2 : d.2 = d'.2 := by
        rcases h.2 with q | q <;> rcases h'.2 with q' | q' <;> simp [rsOf, q, q'] at e2 <;> rw [q, q']
      exact congrArg Cn.d (Prod.ext e1 h2)
/-- shown as no corner -/
def NoSh (v : D) : Prop := ∀ c, CnOk c → shC (cD c) ≠ shC v
theorem nosh_h {v : D} (h : ¬ ∃ l, shC v = 40 :: 39 :: l) : NoSh v := fun c hc e => by
  rw [sh_cn hc] at e
  exact h ⟨_, e.symm⟩
theorem nosh_r {v : D} {y : Str} {s : List Nat} (hy : ∀ c ∈ y.cps.toList, 97 ≤ c ∧ c ≤ 122) (e : shC v = 40 :: 39 :: (y.cps.toList ++ 39 :: s)) (h : s ≠ [44, 41] ∧ s ≠ [44, 32, 48, 41] ∧ s ≠ [44, 32, 49, 41]) : NoSh v := fun c hc e2 => by
  rw [sh_cn hc, e] at e2
  simp only [List.cons.injEq, true_and] at e2
  obtain ⟨_, e3⟩ := az_split hc.nm.az hy e2
  cases c with
  | v x => exact h.1 e3.symm
  | d d =>
    simp only [rsOf] at e3
    split at e3
    · exact h.2.1 e3.symm
    · exact h.2.2 e3.symm
theorem nosh_l (l : List D) : NoSh (.lst l) := nosh_h fun ⟨r, e⟩ => by
  have := sh_lst l
  rw [e] at this
  cases this
theorem nosh_s {x : Str} (h : NmOk x) : NoSh (.str x) := nosh_h fun ⟨r, e⟩ => by
  rw [sh_str h] at e
  cases e
theorem nosh_2 {x : Str} (h : NmOk x) {e : D} (he : 44 :: 32 :: (shC e ++ [41]) ≠ [44, 41] ∧ 44 :: 32 :: (shC e ++ [41]) ≠ [44, 32, 48, 41] ∧ 44 :: 32 :: (shC e ++ [41]) ≠ [44, 32, 49, 41]) : NoSh (.tup [.str x, e]) :=
  nosh_r (y := x) h.az (by rw [sh_tup2, sh_str h]; simp) he
theorem nosh_3 {x : Str} (h : NmOk x) {a b : D} (he : 44 :: 32 :: (shC a ++ 44 :: 32 :: (shC b ++ [41])) ≠ [44, 41] ∧ 44 :: 32 :: (shC a ++ 44 :: 32 :: (shC b ++ [41])) ≠ [44, 32, 48, 41] ∧ 44 :: 32 :: (shC a ++ 44 :: 32 :: (shC b ++ [41])) ≠ [44, 32, 49, 41]) : NoSh (.tup [.str x, a, b]) :=
  nosh_r (y := x) h.az (by rw [sh_tup3, sh_str h]; simp) he
theorem nosh_1 (a b : D) : NoSh (.tup [.tup [a, b]]) := nosh_h fun ⟨r, e⟩ => by
  rw [sh_tup1, sh_tup2] at e
  cases e
end Fx

namespace K07
open PySem PySem.Spec PyProof.Rows L2 Fx
abbrev topS (i : Nat) : Stmt := PySem.Challenge.pw_handonwall_k07_corners.main.body.getD i (.Pass ⟨0, 0, 0, 0⟩)
def clsBody : Stmt → List Stmt
  | .ClassDef (body := b) .. => b
  | _ => []
/-! ### Rotations_corners -/
abbrev s_Rotations_corners : Stmt := (clsBody (topS 8)).getD 3 (.Pass ⟨0, 0, 0, 0⟩)
abbrev N_Rotations_corners : List Str := ["self", "vertex"]
theorem sc_Rotations_corners : FnScope N_Rotations_corners ["self"] (defScope s_Rotations_corners) := ⟨by rfl, by rfl, by rfl, by decide +kernel, by rfl, by decide +kernel, by decide +kernel⟩
def b_Rotations_corners : Ms := mRet (mBltN true 1 sortF (mCons (mOp2N false addD (mGc [.ro, .dd] [1] (.l (.v)) (.lst []) (mIt itK (mAttr "Rotations" "isolated" (mV 0))) (gN 1) mYes
    (bLst (.v) (mTup [.v] (mCons (mV 1) mNil)))) (mBltN false 1 listTF (mCons (mAttr "Rotations" "next_by" (mV 0)) mNil))) mNil))
abbrev pk_Rotations_corners : List Pk := [.v]
def m_Rotations_corners (self1 : D) : O Unit :=
  bindO (insF "Rotations" "isolated" self1) fun isolated2 =>
  bindL (itK isolated2) fun w3 =>
  O.val (σ := Unit) (cmpA (fun acc4 d5 s6 =>
  bindO (addL acc4 (.tup [d5])) fun acc7 =>
  .rt acc7 ()) w3 (.lst []) ()) (fun c8 s9 =>
  bindO (insF "Rotations" "next_by" self1) fun nextby10 =>
  bindO (asL false (listTF [nextby10])) fun z11 =>
  bindO (asL false (addD c8 z11)) fun z12 =>
  bindO (asL true (sortF [z12])) fun z13 =>
  .rt z13 ()) fun _ _ => .no
def mf_Rotations_corners : List D → O (St (nio pk_Rotations_corners)) := fun ds => match ds with
  | [self1] => m_Rotations_corners self1
  | _ => .no
theorem me_Rotations_corners : ∀ ds, ds.length = pk_Rotations_corners.length → mf_Rotations_corners ds = bodyF pk_Rotations_corners N_Rotations_corners.length (.l (.v)) b_Rotations_corners ds := fun ds h => match ds, h with
  | [_], _ => by kernel_rfl
theorem G_Rotations_corners {P : Program} {w : World} {K : PySem.W.Frag} {mg : Str → Option Value} {base : Heap} {f : Addr} {fd : FuncData} (F : Fun K "corners" "Rotations.corners" s_Rotations_corners f fd)
    (FX_Rotations_isolated : FldX K "Rotations" "isolated")
    (FX_Rotations_next_by : FldX K "Rotations" "next_by")
    (b_sorted : mg "sorted" = none)
    (b_list : mg "list" = none) : FnG P w K mg base 1 f fd ["self"] (spF K pk_Rotations_corners (.l (.v)) mf_Rotations_corners) :=
  fng_mirror (N := N_Rotations_corners) (body := b_Rotations_corners) F sc_Rotations_corners rfl me_Rotations_corners fun cd A outer s H E hr hg tk hp => by
  have nd := sc_Rotations_corners.nd
  have hu1 := hu1_of hr
  have hu64 := hu64_of hr
  have hu65 := hu65_of hr
  exact ss_one (sx_ret (gx_bltN true (call_sortF hu64) (by rfl) b_sorted bb_sorted (ga_cons (gx_op2N false op_addF (gx_gc [.ro, .dd] (.l (.v)) (.lst []) [1]
    (own := [("vertex", 1)]) ci_l1 (new_lO (.v)) rfl nd (gi_keys (gx_attr FX_Rotations_isolated (gx_v 0))) (blkOk_by (N := N_Rotations_corners) (sc :=
    defScope s_Rotations_corners) (by decide +kernel)) (fun _ _ _ _ _ => gc_name (i := 1) nd rfl (.inl rfl) (by decide) (.inr rfl)) (fun _ _ _ _ _ =>
    gts_nil) (gb_lst (fun _ _ _ _ _ => gx_tup [.v] (ga_cons (gx_v 1) ga_nil)))) (gx_btyN false (call_listTF rfl) (by rfl) b_list bb_list (ga_cons
    (gx_attr FX_Rotations_next_by (gx_v 0)) ga_nil))) ga_nil)))
/-! ### Rotations___init__ -/
abbrev s_Rotations___init__ : Stmt := (clsBody (topS 8)).getD 0 (.Pass ⟨0, 0, 0, 0⟩)
abbrev N_Rotations___init__ : List Str := ["self", "graph", "vertex", "rotation", "dart", "following"]
theorem sc_Rotations___init__ : FnScope N_Rotations___init__ ["self", "graph"] (defScope s_Rotations___init__) := ⟨by rfl, by rfl, by rfl, by decide +kernel, by rfl, by decide +kernel, by decide +kernel⟩
def b_Rotations___init__ : Ms := mSq (mSetF "Rotations" "vertex_by" (mFz (mGc [.ro, .ro, .dd, .dd, .dd] [2, 3, 4] (.d (.v)) (.dit []) (mIt itL (mV 1)) (gT 2 (gNC (gN 2) (gNC (gN 3)
    gN0))) mYes (bFor [.ro, .ro, .ro, .ro, .dd] [4] (mIt itL (mV 3)) (gN 4) mYes (bDic (.v) (mV 4) (mV 2))))) (mV 0)) (mSq (mSetF "Rotations" "next_by"
    (mDnew (.v) true) (mV 0)) (mSq (mSetF "Rotations" "previous_by" (mDnew (.v) true) (mV 0)) (mSq (mSetF "Rotations" "isolated" (mFz (mGc [.ro, .ro,
    .dd, .dd] [2, 3] (.d (.v)) (.dic []) (mIt itL (mV 1)) (gT 2 (gNC (gN 2) (gNC (gN 3) gN0))) (mCmp eqD (mV 3) (mLst (.v) 0 mNil)) (bDic (.v) (mV 2)
    (mC (.bl true))))) (mV 0)) (mFor ([.st (.i [("vertex_by", .v), ("next_by", .d (.v)), ("previous_by", .d (.v)), ("isolated", .v)]), .ro, .dd, .dd,
    .dd, .dd]) (mIt itL (mV 1)) (gT 2 (gNC (gN 2) (gNC (gN 3) gN0))) (mFor ([.st (.i [("vertex_by", .v), ("next_by", .d (.v)), ("previous_by", .d (.v)),
    ("isolated", .v)]), .ro, .ro, .ro, .dd, .dd]) (mItN 2 zipD (mCons (mV 3) (mCons (mOp2N false addD (mSlc false (mV 3) (mO1 (mC (.int 1))) mO0) (mSlc
    false (mV 3) mO0 (mO1 (mC (.int 1))))) mNil))) (gT 2 (gNC (gN 4) (gNC (gN 5) gN0))) (mSq (mSto (mV 5) (mAttr "Rotations" "next_by" (mV 0)) (mV 4))
    (mSto (mV 4) (mAttr "Rotations" "previous_by" (mV 0)) (mV 5))))))))
abbrev pk_Rotations___init__ : List Pk := [.v]
def L1_Rotations___init__ (d41 : D) (s40 : D) : O D :=
  bindL (unpk 2 d41) fun l42 =>
  bindO (insF "Rotations" "next_by" s40) fun nextby43 =>
  bindO (putDn false nextby43 (l42.headD .non) ((l42.tail).headD .non)) fun c44 =>
  bindO (setP s40 [.fd ("next_by")] c44) fun all45 =>
  bindO (insF "Rotations" "previous_by" all45) fun previousby46 =>
  bindO (putDn false previousby46 ((l42.tail).headD .non) (l42.headD .non)) fun c47 =>
  bindO (setP all45 [.fd ("previous_by")] c47) fun all48 =>
  .nx all48
def L2_Rotations___init__ (d32 : D) (s31 : D) : O D :=
  bindL (unpk 2 d32) fun l33 =>
  bindI (asI (.int 1)) fun o34 =>
  bindO (asL false (cutD ((l33.tail).headD .non) o34 none)) fun z35 =>
  bindI (asI (.int 1)) fun o36 =>
  bindO (asL false (cutD ((l33.tail).headD .non) none o36)) fun z37 =>
  bindO (asL false (addD z35 z37)) fun z38 =>
  bindL (zipD [(l33.tail).headD .non, z38]) fun w39 =>
  O.fin (σ := D) (loopF (fun _ => L1_Rotations___init__) 0 w39 s31) (fun s49 =>
  .nx s49)
  (fun r52 s50 => .rt r52 s50)
  fun x53 s51 => .ex x53 s51
def m_Rotations___init__ (graph2 : D) : O D :=
  bindL (itL graph2) fun w3 =>
  O.val (σ := Unit) (cmpA (fun acc4 d5 s6 =>
  bindL (unpk 2 d5) fun l7 =>
  bindL (itL ((l7.tail).headD .non)) fun w8 =>
  O.val (σ := Unit) (cmpA (fun acc9 d10 s11 =>
  bindO (putDn false acc9 d10 (l7.headD .non)) fun acc12 =>
  .rt acc12 ()) w8 acc4 ()) (fun acc13 s14 =>
  .rt acc13 ()) fun _ _ => .no) w3 (.dit []) ()) (fun c15 s16 =>
  bindO (setIns "Rotations" "vertex_by" c15 (.ins "Rotations" [])) fun obj17 =>
  bindO (setIns "Rotations" "next_by" (.dit []) obj17) fun obj18 =>
  bindO (setIns "Rotations" "previous_by" (.dit []) obj18) fun obj19 =>
  bindL (itL graph2) fun w20 =>
  O.val (σ := Unit) (cmpA (fun acc21 d22 s23 =>
  bindL (unpk 2 d22) fun l24 =>
  bindB (eqD ((l24.tail).headD .non) (.lst [])) fun b25 =>
  if b25 then
  bindO (putDn false acc21 (l24.headD .non) (.bl true)) fun acc26 =>
  .rt acc26 ()
  else .rt acc21 ()) w20 (.dic []) ()) (fun c27 s28 =>
  bindO (setIns "Rotations" "isolated" c27 obj19) fun obj29 =>
  bindL (itL graph2) fun w30 =>
  O.fin (σ := D) (loopF (fun _ => L2_Rotations___init__) 0 w30 obj29) (fun s54 =>
  .rt .non s54)
  (fun r57 s55 => rtN r57 (.rt .non s55))
  fun x58 s56 => .ex x58 .non) fun _ _ => .no) fun _ _ => .no
def mf_Rotations___init__ : List D → O D := fun ds => match ds with
  | [graph2] => m_Rotations___init__ graph2
  | _ => .no
theorem me_Rotations___init__ : ∀ ds, ds.length = pk_Rotations___init__.length → mf_Rotations___init__ ds = bodyC "Rotations" pk_Rotations___init__ N_Rotations___init__.length (.i [("vertex_by", .v), ("next_by", .d (.v)), ("previous_by", .d (.v)), ("isolated", .v)]) b_Rotations___init__ ds := fun ds h => match ds, h with
  | [_], _ => by kernel_rfl
theorem G_Rotations___init__ {P : Program} {w : World} {K : PySem.W.Frag} {mg : Str → Option Value} {base : Heap} {f : Addr} {fd : FuncData} (F : Fun K "__init__" "Rotations.__init__" s_Rotations___init__ f fd)
    (FX_Rotations_vertex_by : FldX K "Rotations" "vertex_by")
    (FX_Rotations_next_by : FldX K "Rotations" "next_by")
    (FX_Rotations_previous_by : FldX K "Rotations" "previous_by")
    (FX_Rotations_isolated : FldX K "Rotations" "isolated")
    (b_zip : mg "zip" = none) : FnG P w K mg base 1 f fd ["self", "graph"] (spC K "Rotations" pk_Rotations___init__ (.i [("vertex_by", .v), ("next_by", .d (.v)), ("previous_by", .d (.v)), ("isolated", .v)]) mf_Rotations___init__) :=
  fnc_mirror (N := N_Rotations___init__) (body := b_Rotations___init__) F sc_Rotations___init__ rfl me_Rotations___init__ fun cd A outer s H E hr hg tk hp => by
  have nd := sc_Rotations___init__.nd
  have hu1 := hu1_of hr
  have hu64 := hu64_of hr
  have hu65 := hu65_of hr
  exact ss_cons (sx_setF FX_Rotations_vertex_by (gx_fz (gx_gc [.ro, .ro, .dd, .dd, .dd] (.d (.v)) (.dit []) [2, 3] (own := [("vertex", 2), ("rotation", 3),
    ("dart", 4)]) ci_d2t (new_dtO (.v)) rfl nd (gi_list (gx_v 1)) (blkOk_by (N := N_Rotations___init__) (sc := defScope s_Rotations___init__) (by
    decide +kernel)) (fun _ _ _ _ _ => gc_tup (n := 2) rfl (gcs_cons (gc_name (i := 2) nd rfl (.inl rfl) (by decide) (.inr rfl)) (gcs_cons (gc_name (i
    := 3) nd rfl (.inl rfl) (by decide) (.inr rfl)) gcs_nil))) (fun _ _ _ _ _ => gts_nil) (gb_in [.ro, .ro, .ro, .ro, .dd] [4] [4] rfl turn_d21 start1_d
    den_d (fun _ _ _ => rfl) (fun _ _ _ _ _ => gi_list (gx_v 3)) (fun _ _ _ _ _ => gc_name (i := 4) nd rfl (.inl rfl) (by decide) (.inr rfl)) (fun _ _ _
    _ _ => gts_nil) (gb_dic hu1 (fun _ _ _ _ _ => gx_v 4) (fun _ _ _ _ _ => gx_v 2))))) (gx_v 0)) (ss_cons (sx_setF FX_Rotations_next_by (gx_dnewT (.v))
    (gx_v 0)) (ss_cons (sx_setF FX_Rotations_previous_by (gx_dnewT (.v)) (gx_v 0)) (ss_cons (sx_setF FX_Rotations_isolated (gx_fz (gx_gc [.ro, .ro, .dd,
    .dd] (.d (.v)) (.dic []) [2, 3] (own := [("vertex", 2), ("rotation", 3)]) ci_d1k (new_dkO (.v)) rfl nd (gi_list (gx_v 1)) (blkOk_by (N :=
    N_Rotations___init__) (sc := defScope s_Rotations___init__) (by decide +kernel)) (fun _ _ _ _ _ => gc_tup (n := 2) rfl (gcs_cons (gc_name (i := 2)
    nd rfl (.inl rfl) (by decide) (.inr rfl)) (gcs_cons (gc_name (i := 3) nd rfl (.inl rfl) (by decide) (.inr rfl)) gcs_nil))) (fun _ _ _ _ _ => gts_one
    (gq_cmp (op_eqF hu64) (gx_v 3) (gx_lst (.v) ga_nil) (nomark _))) (gb_dic hu1 (fun _ _ _ _ _ => gx_v 2) (fun _ _ _ _ _ => gx_bl)))) (gx_v 0)) (ss_one
    (sx_for [.st (.i [("vertex_by", .v), ("next_by", .d (.v)), ("previous_by", .d (.v)), ("isolated", .v)]), .ro, .dd, .dd, .dd, .dd] hp rfl (gi_list
    (gx_v 1)) (gg_tup (n := 2) rfl (ggs_cons (gg_name (i := 2) nd rfl (.inl rfl)) (ggs_cons (gg_name (i := 3) nd rfl (.inl rfl)) ggs_nil))) (ss_one
    (sx_for [.st (.i [("vertex_by", .v), ("next_by", .d (.v)), ("previous_by", .d (.v)), ("isolated", .v)]), .ro, .ro, .ro, .dd, .dd] hp rfl (gi_zip (by
    rfl) b_zip (ga_cons (gx_v 3) (ga_cons (gx_op2N false op_addF (gx_slc false (gx_v 3) (go_some gx_int) go_none) (gx_slc false (gx_v 3) go_none
    (go_some gx_int))) ga_nil))) (gg_tup (n := 2) rfl (ggs_cons (gg_name (i := 4) nd rfl (.inl rfl)) (ggs_cons (gg_name (i := 5) nd rfl (.inl rfl))
    ggs_nil))) (ss_cons (sx_sto hu1 (gx_v 5) (gx_attr FX_Rotations_next_by (gx_v 0)) (gx_v 4)) (ss_one (sx_sto hu1 (gx_v 4) (gx_attr
    FX_Rotations_previous_by (gx_v 0)) (gx_v 5)))))))))))
/-! ### corners -/
abbrev s_corners : Stmt := topS 10
abbrev N_corners : List Str := ["graph"]
theorem sc_corners : FnScope N_corners ["graph"] (defScope s_corners) := ⟨by rfl, by rfl, by rfl, by decide +kernel, by rfl, by decide +kernel, by decide +kernel⟩
def b_corners : Ms := mRet (mCall pk_Rotations_corners (.l (.v)) mf_Rotations_corners [] (mCons (mRecv "Rotations" "corners" (mFz (mMake pk_Rotations___init__ (.i
    [("vertex_by", .v), ("next_by", .d (.v)), ("previous_by", .d (.v)), ("isolated", .v)]) mf_Rotations___init__ (mCons (mV 0) mNil)))) mNil))
abbrev pk_corners : List Pk := [.v]
def m_corners (graph1 : D) : O Unit :=
  O.val (m_Rotations___init__ graph1) (fun _ obj2 =>
  if isIns "Rotations" "corners" obj2 then
  O.val (m_Rotations_corners obj2) (fun r4 _ =>
  .rt r4 ()) fun x5 _ =>
  .ex x5 ()
  else .no) fun x3 _ =>
  .ex x3 ()
def mf_corners : List D → O (St (nio pk_corners)) := fun ds => match ds with
  | [graph1] => m_corners graph1
  | _ => .no
theorem me_corners : ∀ ds, ds.length = pk_corners.length → mf_corners ds = bodyF pk_corners N_corners.length (.l (.v)) b_corners ds := fun ds h => match ds, h with
  | [_], _ => by kernel_rfl
theorem G_corners {P : Program} {w : World} {K : PySem.W.Frag} {mg : Str → Option Value} {base : Heap} {f : Addr} {fd : FuncData} (F : Fun K "corners" "corners" s_corners f fd)
    {f_Rotations_corners : Addr} {fd_Rotations_corners : FuncData} (G_Rotations_corners : FnG P w K mg base 1 f_Rotations_corners fd_Rotations_corners ["self"] (spF K pk_Rotations_corners (.l (.v)) mf_Rotations_corners)) (X_Rotations_corners : MetX K "Rotations" "corners" f_Rotations_corners) (B_Rotations_corners : Binds K fd_Rotations_corners ["self"] [])
    {C_Rotations f_Rotations___init__ : Addr} {fd_Rotations___init__ : FuncData} (G_Rotations___init__ : FnG P w K mg base 1 f_Rotations___init__ fd_Rotations___init__ ["self", "graph"] (spC K "Rotations" pk_Rotations___init__ (.i [("vertex_by", .v), ("next_by", .d (.v)), ("previous_by", .d (.v)), ("isolated", .v)]) mf_Rotations___init__)) (g_Rotations : mg "Rotations" = some (.ref C_Rotations)) (M_Rotations : MakX K "Rotations" C_Rotations f_Rotations___init__) (BC_Rotations : Binds K fd_Rotations___init__ ["self", "graph"] []) : FnG P w K mg base 3 f fd ["graph"] (spF K pk_corners (.l (.v)) mf_corners) :=
  fng_mirror (N := N_corners) (body := b_corners) F sc_corners rfl me_corners fun cd A outer s H E hr hg tk hp => by
  have nd := sc_corners.nd
  have hu1 := hu1_of hr
  have hu64 := hu64_of hr
  have hu65 := hu65_of hr
  exact ss_one (sx_ret (gx_meth0 (G_Rotations_corners.mono (by decide)) hr hg X_Rotations_corners B_Rotations_corners .nil (fun _ => .nil) tk (gx_fz (gx_make
    (G_Rotations___init__.mono (by decide)) hr hg (by rfl) g_Rotations M_Rotations BC_Rotations tk (ga_cons (gx_v 0) ga_nil)))))
/-! ### is_name -/
abbrev s_is_name : Stmt := topS 4
abbrev N_is_name : List Str := ["value", "sign"]
theorem sc_is_name : FnScope N_is_name ["value"] (defScope s_is_name) := ⟨by rfl, by rfl, by rfl, by decide +kernel, by rfl, by decide +kernel, by decide +kernel⟩
def b_is_name : Ms := mRet (mB (mAnd [.ro, .dd] (mTst (mBlt 2 isiF (mCons (mV 0) (mCons (mC (.raw (.ty "str"))) mNil)))) (mAnd [.ro, .dd] (mTst (mB (mChain [] leD leD (mC
    (.int 1)) (mBlt 1 lenF (mCons (mV 0) mNil)) (mC (.int 8))))) (mTst (mBlt 1 allF (mCons (mGc [.ro, .dd] [1] (.l (.v)) (.lst []) (mIt itS (mV 0)) (gN
    1) mYes (bLst (.v) (mB (mCmp inD2 (mV 1) (mC (.str "abcdefghijklmnopqrstuvwxyz")))))) mNil))))))
abbrev pk_is_name : List Pk := [.v]
def m_is_name (value1 : D) : O Unit :=
  bindO (isiF [value1, .raw (.ty "str")]) fun z2 =>
  bindB (asB z2) fun b3 =>
  O.val (σ := Unit) (if b3 then
  bindO (lenF [value1]) fun z6 =>
  bindB (leD (.int 1) z6) fun b7 =>
  O.val (σ := Unit) (if b7 then
  .rt (.int 8) ()
  else
  .rt .non ()) (fun h8 s9 =>
  bindB (if b7 then leD z6 h8 else some false) fun b12 =>
  bindB (asB (.bl b12)) fun b13 =>
  O.val (σ := Unit) (if b13 then
  bindL (itS value1) fun w16 =>
  O.val (σ := Unit) (cmpA (fun acc17 d18 s19 =>
  bindB (inD2 d18 (.str "abcdefghijklmnopqrstuvwxyz")) fun b21 =>
  bindO (addL acc17 (.bl b21)) fun acc20 =>
  .rt acc20 ()) w16 (.lst []) ()) (fun c22 s23 =>
  bindO (allF [c22]) fun z24 =>
  bindB (asB z24) fun b25 =>
  .rt (.bl b25) ()) fun _ _ => .no
  else
  .rt (.bl false) ()) (fun z26 s14 =>
  bindB (asB z26) fun b27 =>
  .rt (.bl b27) ()) fun x28 s15 =>
  .ex x28 ()) fun x11 s10 =>
  .ex x11 ()
  else
  .rt (.bl false) ()) (fun z29 s4 =>
  bindB (asB z29) fun b30 =>
  .rt (.bl b30) ()) fun x31 s5 =>
  .ex x31 ()
def mf_is_name : List D → O (St (nio pk_is_name)) := fun ds => match ds with
  | [value1] => m_is_name value1
  | _ => .no
theorem me_is_name : ∀ ds, ds.length = pk_is_name.length → mf_is_name ds = bodyF pk_is_name N_is_name.length (.v) b_is_name ds := fun ds h => match ds, h with
  | [_], _ => by kernel_rfl
theorem G_is_name {P : Program} {w : World} {K : PySem.W.Frag} {mg : Str → Option Value} {base : Heap} {f : Addr} {fd : FuncData} (F : Fun K "is_name" "is_name" s_is_name f fd)
    (b_isinstance : mg "isinstance" = none)
    (b_str : mg "str" = none)
    (b_len : mg "len" = none)
    (b_all : mg "all" = none)
    {t_MAX_LENGTH : _} (g_MAX_LENGTH : mg "MAX_LENGTH" = some (.int 8 t_MAX_LENGTH))
    {t_LETTERS : _} (g_LETTERS : mg "LETTERS" = some (.str "abcdefghijklmnopqrstuvwxyz" t_LETTERS)) : FnG P w K mg base 1 f fd ["value"] (spF K pk_is_name (.v) mf_is_name) :=
  fng_mirror (N := N_is_name) (body := b_is_name) F sc_is_name rfl me_is_name fun cd A outer s H E hr hg tk hp => by
  have nd := sc_is_name.nd
  have hu1 := hu1_of hr
  have hu64 := hu64_of hr
  have hu65 := hu65_of hr
  exact ss_one (sx_ret (gx_and [.ro, .dd] (gx_blt call_isiF sc_isiF (by rfl) b_isinstance bb_isinstance (ga_cons (gx_v 0) (ga_cons (gx_ty (by rfl) b_str
    bb_str) ga_nil))) (gx_and [.ro, .dd] (gx_chain [] op_leF op_leF gx_int (gx_blt call_lenF sc_lenF (by rfl) b_len bb_len (ga_cons (gx_v 0) ga_nil))
    (gx_glob (v := .int 8) (by rfl) g_MAX_LENGTH ⟨_, rfl⟩ (fun _ => .int _))) (gx_one (gx_blt (call_allF rfl) sc_allF (by rfl) b_all bb_all (ga_cons
    (gx_gc [.ro, .dd] (.l (.v)) (.lst []) [1] (own := [("sign", 1)]) ci_l1 (new_lO (.v)) rfl nd (gi_str (gx_v 0)) (blkOk_by (N := N_is_name) (sc :=
    defScope s_is_name) (by decide +kernel)) (fun _ _ _ _ _ => gc_name (i := 1) nd rfl (.inl rfl) (by decide) (.inr rfl)) (fun _ _ _ _ _ => gts_nil)
    (gb_lst (fun _ _ _ _ _ => gx_cmp (op_inF2 hu65) (gx_v 1) (gx_glob (v := .str ("abcdefghijklmnopqrstuvwxyz")) (by rfl) g_LETTERS ⟨_, rfl⟩ (fun _ =>
    .str _)) (by rfl)))) ga_nil))))))
/-! ### is_integer -/
abbrev s_is_integer : Stmt := topS 5
abbrev N_is_integer : List Str := ["value", "low", "high"]
theorem sc_is_integer : FnScope N_is_integer ["value", "low", "high"] (defScope s_is_integer) := ⟨by rfl, by rfl, by rfl, by decide +kernel, by rfl, by decide +kernel, by decide +kernel⟩
def b_is_integer : Ms := mRet (mB (mAnd [] (mTst (mBlt 2 isiF (mCons (mV 0) (mCons (mC (.raw (.ty "int"))) mNil)))) (mAnd [] (mTst (mB (mNot (mTst (mBlt 2 isiF (mCons (mV 0)
    (mCons (mC (.raw (.ty "bool"))) mNil))))))) (mTst (mB (mChain [] leD leD (mV 1) (mV 0) (mV 2)))))))
abbrev pk_is_integer : List Pk := [.v, .v, .v]
def m_is_integer (value1 : D) (low2 : D) (high3 : D) : O Unit :=
  bindO (isiF [value1, .raw (.ty "int")]) fun z4 =>
  bindB (asB z4) fun b5 =>
  O.val (σ := Unit) (if b5 then
  bindO (isiF [value1, .raw (.ty "bool")]) fun z8 =>
  bindB (asB z8) fun b9 =>
  bindB (asB (.bl (!b9))) fun b10 =>
  O.val (σ := Unit) (if b10 then
  bindB (leD low2 value1) fun b13 =>
  O.val (σ := Unit) (if b13 then
  .rt high3 ()
  else
  .rt .non ()) (fun h14 s15 =>
  bindB (if b13 then leD value1 h14 else some false) fun b18 =>
  bindB (asB (.bl b18)) fun b19 =>
  .rt (.bl b19) ()) fun x17 s16 =>
  .ex x17 ()
  else
  .rt (.bl false) ()) (fun z20 s11 =>
  bindB (asB z20) fun b21 =>
  .rt (.bl b21) ()) fun x22 s12 =>
  .ex x22 ()
  else
  .rt (.bl false) ()) (fun z23 s6 =>
  bindB (asB z23) fun b24 =>
  .rt (.bl b24) ()) fun x25 s7 =>
  .ex x25 ()
def mf_is_integer : List D → O (St (nio pk_is_integer)) := fun ds => match ds with
  | [value1, low2, high3] => m_is_integer value1 low2 high3
  | _ => .no
theorem me_is_integer : ∀ ds, ds.length = pk_is_integer.length → mf_is_integer ds = bodyF pk_is_integer N_is_integer.length (.v) b_is_integer ds := fun ds h => match ds, h with
  | [_, _, _], _ => by kernel_rfl
theorem G_is_integer {P : Program} {w : World} {K : PySem.W.Frag} {mg : Str → Option Value} {base : Heap} {f : Addr} {fd : FuncData} (F : Fun K "is_integer" "is_integer" s_is_integer f fd)
    (b_isinstance : mg "isinstance" = none)
    (b_int : mg "int" = none)
    (b_bool : mg "bool" = none) : FnG P w K mg base 1 f fd ["value", "low", "high"] (spF K pk_is_integer (.v) mf_is_integer) :=
  fng_mirror (N := N_is_integer) (body := b_is_integer) F sc_is_integer rfl me_is_integer fun cd A outer s H E hr hg tk hp => by
  have nd := sc_is_integer.nd
  have hu1 := hu1_of hr
  have hu64 := hu64_of hr
  have hu65 := hu65_of hr
  exact ss_one (sx_ret (gx_and [] (gx_blt call_isiF sc_isiF (by rfl) b_isinstance bb_isinstance (ga_cons (gx_v 0) (ga_cons (gx_ty (by rfl) b_int bb_int)
    ga_nil))) (gx_and [] (gx_not (gx_blt call_isiF sc_isiF (by rfl) b_isinstance bb_isinstance (ga_cons (gx_v 0) (ga_cons (gx_ty (by rfl) b_bool
    bb_bool) ga_nil)))) (gx_one (gx_chain [] op_leF op_leF (gx_v 1) (gx_v 0) (gx_v 2))))))
/-! ### is_dart -/
abbrev s_is_dart : Stmt := topS 6
abbrev N_is_dart : List Str := ["value"]
theorem sc_is_dart : FnScope N_is_dart ["value"] (defScope s_is_dart) := ⟨by rfl, by rfl, by rfl, by decide +kernel, by rfl, by decide +kernel, by decide +kernel⟩
def b_is_dart : Ms := mRet (mB (mAnd [] (mTst (mBlt 2 isiF (mCons (mV 0) (mCons (mC (.raw (.ty "tuple"))) mNil)))) (mAnd [] (mTst (mB (mCmp eqD (mBlt 1 lenF (mCons (mV 0)
    mNil)) (mC (.int 2))))) (mAnd [] (mTst (mCall pk_is_name (.v) mf_is_name [] (mCons (mOp2 ixD2 (mV 0) (mC (.int 0))) mNil))) (mTst (mCall
    pk_is_integer (.v) mf_is_integer [] (mCons (mOp2 ixD2 (mV 0) (mC (.int 1))) (mCons (mC (.int 0)) (mCons (mC (.int 1)) mNil)))))))))
abbrev pk_is_dart : List Pk := [.v]
def m_is_dart (value1 : D) : O Unit :=
  bindO (isiF [value1, .raw (.ty "tuple")]) fun z2 =>
  bindB (asB z2) fun b3 =>
  O.val (σ := Unit) (if b3 then
  bindO (lenF [value1]) fun z6 =>
  bindB (eqD z6 (.int 2)) fun b7 =>
  bindB (asB (.bl b7)) fun b8 =>
  O.val (σ := Unit) (if b8 then
  bindO (ixD2 value1 (.int 0)) fun z11 =>
  O.val (m_is_name z11) (fun r12 _ =>
  bindB (asB r12) fun b14 =>
  O.val (σ := Unit) (if b14 then
  bindO (ixD2 value1 (.int 1)) fun z17 =>
  O.val (m_is_integer z17 (.int 0) (.int 1)) (fun r18 _ =>
  bindB (asB r18) fun b20 =>
  .rt (.bl b20) ()) fun x19 _ =>
  .ex x19 ()
  else
  .rt (.bl false) ()) (fun z21 s15 =>
  bindB (asB z21) fun b22 =>
  .rt (.bl b22) ()) fun x23 s16 =>
  .ex x23 ()) fun x13 _ =>
  .ex x13 ()
  else
  .rt (.bl false) ()) (fun z24 s9 =>
  bindB (asB z24) fun b25 =>
  .rt (.bl b25) ()) fun x26 s10 =>
  .ex x26 ()
  else
  .rt (.bl false) ()) (fun z27 s4 =>
  bindB (asB z27) fun b28 =>
  .rt (.bl b28) ()) fun x29 s5 =>
  .ex x29 ()
def mf_is_dart : List D → O (St (nio pk_is_dart)) := fun ds => match ds with
  | [value1] => m_is_dart value1
  | _ => .no
theorem me_is_dart : ∀ ds, ds.length = pk_is_dart.length → mf_is_dart ds = bodyF pk_is_dart N_is_dart.length (.v) b_is_dart ds := fun ds h => match ds, h with
  | [_], _ => by kernel_rfl
theorem G_is_dart {P : Program} {w : World} {K : PySem.W.Frag} {mg : Str → Option Value} {base : Heap} {f : Addr} {fd : FuncData} (F : Fun K "is_dart" "is_dart" s_is_dart f fd)
    {f_is_name : Addr} {fd_is_name : FuncData} (G_is_name : FnG P w K mg base 1 f_is_name fd_is_name ["value"] (spF K pk_is_name (.v) mf_is_name)) (g_is_name : mg "is_name" = some (.ref f_is_name)) (k_is_name : PySem.W.keepIn K (.ref f_is_name) = true) (B_is_name : Binds K fd_is_name ["value"] [])
    {f_is_integer : Addr} {fd_is_integer : FuncData} (G_is_integer : FnG P w K mg base 1 f_is_integer fd_is_integer ["value", "low", "high"] (spF K pk_is_integer (.v) mf_is_integer)) (g_is_integer : mg "is_integer" = some (.ref f_is_integer)) (k_is_integer : PySem.W.keepIn K (.ref f_is_integer) = true) (B_is_integer : Binds K fd_is_integer ["value", "low", "high"] [])
    (b_isinstance : mg "isinstance" = none)
    (b_tuple : mg "tuple" = none)
    (b_len : mg "len" = none) : FnG P w K mg base 2 f fd ["value"] (spF K pk_is_dart (.v) mf_is_dart) :=
  fng_mirror (N := N_is_dart) (body := b_is_dart) F sc_is_dart rfl me_is_dart fun cd A outer s H E hr hg tk hp => by
  have nd := sc_is_dart.nd
  have hu1 := hu1_of hr
  have hu64 := hu64_of hr
  have hu65 := hu65_of hr
  exact ss_one (sx_ret (gx_and [] (gx_blt call_isiF sc_isiF (by rfl) b_isinstance bb_isinstance (ga_cons (gx_v 0) (ga_cons (gx_ty (by rfl) b_tuple bb_tuple)
    ga_nil))) (gx_and [] (gx_cmp (op_eqF hu64) (gx_blt call_lenF sc_lenF (by rfl) b_len bb_len (ga_cons (gx_v 0) ga_nil)) gx_int (nomark _)) (gx_and []
    (gx_call (G_is_name.mono (by decide)) hr hg (by rfl) g_is_name k_is_name B_is_name .nil (fun _ => .nil) tk (ga_cons (gx_ix hu1 (gx_v 0) gx_int)
    ga_nil)) (gx_one (gx_call (G_is_integer.mono (by decide)) hr hg (by rfl) g_is_integer k_is_integer B_is_integer .nil (fun _ => .nil) tk (ga_cons
    (gx_ix hu1 (gx_v 0) gx_int) (ga_cons gx_int (ga_cons gx_int ga_nil)))))))))
/-! ### Rotations_has_dart -/
abbrev s_Rotations_has_dart : Stmt := (clsBody (topS 8)).getD 1 (.Pass ⟨0, 0, 0, 0⟩)
abbrev N_Rotations_has_dart : List Str := ["self", "value"]
theorem sc_Rotations_has_dart : FnScope N_Rotations_has_dart ["self", "value"] (defScope s_Rotations_has_dart) := ⟨by rfl, by rfl, by rfl, by decide +kernel, by rfl, by decide +kernel, by decide +kernel⟩
def b_Rotations_has_dart : Ms := mRet (mB (mAnd [] (mTst (mCall pk_is_dart (.v) mf_is_dart [] (mCons (mV 1) mNil))) (mTst (mB (mCmp inD2 (mV 1) (mAttr "Rotations" "next_by" (mV
    0)))))))
abbrev pk_Rotations_has_dart : List Pk := [.v, .v]
def m_Rotations_has_dart (self1 : D) (value2 : D) : O Unit :=
  O.val (m_is_dart value2) (fun r3 _ =>
  bindB (asB r3) fun b5 =>
  O.val (σ := Unit) (if b5 then
  bindO (insF "Rotations" "next_by" self1) fun nextby8 =>
  bindB (inD2 value2 nextby8) fun b9 =>
  bindB (asB (.bl b9)) fun b10 =>
  .rt (.bl b10) ()
  else
  .rt (.bl false) ()) (fun z11 s6 =>
  bindB (asB z11) fun b12 =>
  .rt (.bl b12) ()) fun x13 s7 =>
  .ex x13 ()) fun x4 _ =>
  .ex x4 ()
def mf_Rotations_has_dart : List D → O (St (nio pk_Rotations_has_dart)) := fun ds => match ds with
  | [self1, value2] => m_Rotations_has_dart self1 value2
  | _ => .no
theorem me_Rotations_has_dart : ∀ ds, ds.length = pk_Rotations_has_dart.length → mf_Rotations_has_dart ds = bodyF pk_Rotations_has_dart N_Rotations_has_dart.length (.v) b_Rotations_has_dart ds := fun ds h => match ds, h with
  | [_, _], _ => by kernel_rfl
theorem G_Rotations_has_dart {P : Program} {w : World} {K : PySem.W.Frag} {mg : Str → Option Value} {base : Heap} {f : Addr} {fd : FuncData} (F : Fun K "has_dart" "Rotations.has_dart" s_Rotations_has_dart f fd)
    {f_is_dart : Addr} {fd_is_dart : FuncData} (G_is_dart : FnG P w K mg base 2 f_is_dart fd_is_dart ["value"] (spF K pk_is_dart (.v) mf_is_dart)) (g_is_dart : mg "is_dart" = some (.ref f_is_dart)) (k_is_dart : PySem.W.keepIn K (.ref f_is_dart) = true) (B_is_dart : Binds K fd_is_dart ["value"] [])
    (FX_Rotations_next_by : FldX K "Rotations" "next_by") : FnG P w K mg base 3 f fd ["self", "value"] (spF K pk_Rotations_has_dart (.v) mf_Rotations_has_dart) :=
  fng_mirror (N := N_Rotations_has_dart) (body := b_Rotations_has_dart) F sc_Rotations_has_dart rfl me_Rotations_has_dart fun cd A outer s H E hr hg tk hp => by
  have nd := sc_Rotations_has_dart.nd
  have hu1 := hu1_of hr
  have hu64 := hu64_of hr
  have hu65 := hu65_of hr
  exact ss_one (sx_ret (gx_and [] (gx_call (G_is_dart.mono (by decide)) hr hg (by rfl) g_is_dart k_is_dart B_is_dart .nil (fun _ => .nil) tk (ga_cons (gx_v 1)
    ga_nil)) (gx_one (gx_cmp (op_inF2 hu65) (gx_v 1) (gx_attr FX_Rotations_next_by (gx_v 0)) (by rfl)))))
/-! ### Rotations_has_corner -/
abbrev s_Rotations_has_corner : Stmt := (clsBody (topS 8)).getD 2 (.Pass ⟨0, 0, 0, 0⟩)
abbrev N_Rotations_has_corner : List Str := ["self", "value"]
theorem sc_Rotations_has_corner : FnScope N_Rotations_has_corner ["self", "value"] (defScope s_Rotations_has_corner) := ⟨by rfl, by rfl, by rfl, by decide +kernel, by rfl, by decide +kernel, by decide +kernel⟩
def b_Rotations_has_corner : Ms := mSq (mIfR (mAnd [] (mTst (mBlt 2 isiF (mCons (mV 1) (mCons (mC (.raw (.ty "tuple"))) mNil)))) (mCmp eqD (mBlt 1 lenF (mCons (mV 1) mNil)) (mC (.int
    1)))) (mRet (mB (mAnd [] (mTst (mCall pk_is_name (.v) mf_is_name [] (mCons (mOp2 ixD2 (mV 1) (mC (.int 0))) mNil))) (mTst (mB (mCmp inD2 (mOp2 ixD2
    (mV 1) (mC (.int 0))) (mAttr "Rotations" "isolated" (mV 0)))))))) mPass) (mRet (mCall pk_Rotations_has_dart (.v) mf_Rotations_has_dart [] (mCons
    (mRecv "Rotations" "has_dart" (mV 0)) (mCons (mV 1) mNil))))
abbrev pk_Rotations_has_corner : List Pk := [.v, .v]
def m_Rotations_has_corner (self1 : D) (value2 : D) : O Unit :=
  bindO (isiF [value2, .raw (.ty "tuple")]) fun z3 =>
  bindB (asB z3) fun b4 =>
  O.val (σ := Unit) (if b4 then
  bindO (lenF [value2]) fun z7 =>
  bindB (eqD z7 (.int 1)) fun b8 =>
  .rt (.bl b8) ()
  else
  .rt (.bl false) ()) (fun z9 s5 =>
  bindB (asB z9) fun b10 =>
  if b10 then
  bindO (ixD2 value2 (.int 0)) fun z12 =>
  O.val (m_is_name z12) (fun r13 _ =>
  bindB (asB r13) fun b15 =>
  O.val (σ := Unit) (if b15 then
  bindO (ixD2 value2 (.int 0)) fun z18 =>
  bindO (insF "Rotations" "isolated" self1) fun isolated19 =>
  bindB (inD2 z18 isolated19) fun b20 =>
  bindB (asB (.bl b20)) fun b21 =>
  .rt (.bl b21) ()
  else
  .rt (.bl false) ()) (fun z22 s16 =>
  bindB (asB z22) fun b23 =>
  .rt (.bl b23) ()) fun x24 s17 =>
  .ex x24 ()) fun x14 _ =>
  .ex x14 ()
  else
  if isIns "Rotations" "has_dart" self1 then
  O.val (m_Rotations_has_dart self1 value2) (fun r25 _ =>
  .rt r25 ()) fun x26 _ =>
  .ex x26 ()
  else .no) fun x11 s6 =>
  .ex x11 ()
def mf_Rotations_has_corner : List D → O (St (nio pk_Rotations_has_corner)) := fun ds => match ds with
  | [self1, value2] => m_Rotations_has_corner self1 value2
  | _ => .no
theorem me_Rotations_has_corner : ∀ ds, ds.length = pk_Rotations_has_corner.length → mf_Rotations_has_corner ds = bodyF pk_Rotations_has_corner N_Rotations_has_corner.length (.v) b_Rotations_has_corner ds := fun ds h => match ds, h with
  | [_, _], _ => by kernel_rfl
theorem G_Rotations_has_corner {P : Program} {w : World} {K : PySem.W.Frag} {mg : Str → Option Value} {base : Heap} {f : Addr} {fd : FuncData} (F : Fun K "has_corner" "Rotations.has_corner" s_Rotations_has_corner f fd)
    {f_is_name : Addr} {fd_is_name : FuncData} (G_is_name : FnG P w K mg base 1 f_is_name fd_is_name ["value"] (spF K pk_is_name (.v) mf_is_name)) (g_is_name : mg "is_name" = some (.ref f_is_name)) (k_is_name : PySem.W.keepIn K (.ref f_is_name) = true) (B_is_name : Binds K fd_is_name ["value"] [])
    {f_Rotations_has_dart : Addr} {fd_Rotations_has_dart : FuncData} (G_Rotations_has_dart : FnG P w K mg base 3 f_Rotations_has_dart fd_Rotations_has_dart ["self", "value"] (spF K pk_Rotations_has_dart (.v) mf_Rotations_has_dart)) (X_Rotations_has_dart : MetX K "Rotations" "has_dart" f_Rotations_has_dart) (B_Rotations_has_dart : Binds K fd_Rotations_has_dart ["self", "value"] [])
    (FX_Rotations_isolated : FldX K "Rotations" "isolated")
    (b_isinstance : mg "isinstance" = none)
    (b_tuple : mg "tuple" = none)
    (b_len : mg "len" = none) : FnG P w K mg base 4 f fd ["self", "value"] (spF K pk_Rotations_has_corner (.v) mf_Rotations_has_corner) :=
  fng_mirror (N := N_Rotations_has_corner) (body := b_Rotations_has_corner) F sc_Rotations_has_corner rfl me_Rotations_has_corner fun cd A outer s H E hr hg tk hp => by
  have nd := sc_Rotations_has_corner.nd
  have hu1 := hu1_of hr
  have hu64 := hu64_of hr
  have hu65 := hu65_of hr
  exact ss_cons (sx_ifR (gq_w (gw_and [] (gq_val (gx_blt call_isiF sc_isiF (by rfl) b_isinstance bb_isinstance (ga_cons (gx_v 1) (ga_cons (gx_ty (by rfl)
    b_tuple bb_tuple) ga_nil)))) (gw_and1 (gq_cmp (op_eqF hu64) (gx_blt call_lenF sc_lenF (by rfl) b_len bb_len (ga_cons (gx_v 1) ga_nil)) gx_int
    (nomark _))))) (ss_one (sx_ret (gx_and [] (gx_call (G_is_name.mono (by decide)) hr hg (by rfl) g_is_name k_is_name B_is_name .nil (fun _ => .nil) tk
    (ga_cons (gx_ix hu1 (gx_v 1) gx_int) ga_nil)) (gx_one (gx_cmp (op_inF2 hu65) (gx_ix hu1 (gx_v 1) gx_int) (gx_attr FX_Rotations_isolated (gx_v 0))
    (by rfl)))))) ss_nil) (ss_one (sx_ret (gx_meth (G_Rotations_has_dart.mono (by decide)) hr hg X_Rotations_has_dart B_Rotations_has_dart .nil (fun _
    => .nil) tk (gx_v 0) (ga_cons (gx_v 1) ga_nil))))
/-! ### is_corner -/
abbrev s_is_corner : Stmt := topS 11
abbrev N_is_corner : List Str := ["graph", "value"]
theorem sc_is_corner : FnScope N_is_corner ["graph", "value"] (defScope s_is_corner) := ⟨by rfl, by rfl, by rfl, by decide +kernel, by rfl, by decide +kernel, by decide +kernel⟩
def b_is_corner : Ms := mRet (mCall pk_Rotations_has_corner (.v) mf_Rotations_has_corner [] (mCons (mRecv "Rotations" "has_corner" (mFz (mMake pk_Rotations___init__ (.i
    [("vertex_by", .v), ("next_by", .d (.v)), ("previous_by", .d (.v)), ("isolated", .v)]) mf_Rotations___init__ (mCons (mV 0) mNil)))) (mCons (mV 1)
    mNil)))
abbrev pk_is_corner : List Pk := [.v, .v]
def m_is_corner (graph1 : D) (value2 : D) : O Unit :=
  O.val (m_Rotations___init__ graph1) (fun _ obj3 =>
  if isIns "Rotations" "has_corner" obj3 then
  O.val (m_Rotations_has_corner obj3 value2) (fun r5 _ =>
  .rt r5 ()) fun x6 _ =>
  .ex x6 ()
  else .no) fun x4 _ =>
  .ex x4 ()
def mf_is_corner : List D → O (St (nio pk_is_corner)) := fun ds => match ds with
  | [graph1, value2] => m_is_corner graph1 value2
  | _ => .no
theorem me_is_corner : ∀ ds, ds.length = pk_is_corner.length → mf_is_corner ds = bodyF pk_is_corner N_is_corner.length (.v) b_is_corner ds := fun ds h => match ds, h with
  | [_, _], _ => by kernel_rfl
theorem G_is_corner {P : Program} {w : World} {K : PySem.W.Frag} {mg : Str → Option Value} {base : Heap} {f : Addr} {fd : FuncData} (F : Fun K "is_corner" "is_corner" s_is_corner f fd)
    {f_Rotations_has_corner : Addr} {fd_Rotations_has_corner : FuncData} (G_Rotations_has_corner : FnG P w K mg base 4 f_Rotations_has_corner fd_Rotations_has_corner ["self", "value"] (spF K pk_Rotations_has_corner (.v) mf_Rotations_has_corner)) (X_Rotations_has_corner : MetX K "Rotations" "has_corner" f_Rotations_has_corner) (B_Rotations_has_corner : Binds K fd_Rotations_has_corner ["self", "value"] [])
    {C_Rotations f_Rotations___init__ : Addr} {fd_Rotations___init__ : FuncData} (G_Rotations___init__ : FnG P w K mg base 1 f_Rotations___init__ fd_Rotations___init__ ["self", "graph"] (spC K "Rotations" pk_Rotations___init__ (.i [("vertex_by", .v), ("next_by", .d (.v)), ("previous_by", .d (.v)), ("isolated", .v)]) mf_Rotations___init__)) (g_Rotations : mg "Rotations" = some (.ref C_Rotations)) (M_Rotations : MakX K "Rotations" C_Rotations f_Rotations___init__) (BC_Rotations : Binds K fd_Rotations___init__ ["self", "graph"] []) : FnG P w K mg base 5 f fd ["graph", "value"] (spF K pk_is_corner (.v) mf_is_corner) :=
  fng_mirror (N := N_is_corner) (body := b_is_corner) F sc_is_corner rfl me_is_corner fun cd A outer s H E hr hg tk hp => by
  have nd := sc_is_corner.nd
  have hu1 := hu1_of hr
  have hu64 := hu64_of hr
  have hu65 := hu65_of hr
  exact ss_one (sx_ret (gx_meth (G_Rotations_has_corner.mono (by decide)) hr hg X_Rotations_has_corner B_Rotations_has_corner .nil (fun _ => .nil) tk (gx_fz
    (gx_make (G_Rotations___init__.mono (by decide)) hr hg (by rfl) g_Rotations M_Rotations BC_Rotations tk (ga_cons (gx_v 0) ga_nil))) (ga_cons (gx_v
    1) ga_nil)))
/-! ### _law_source -/
abbrev s__law_source : Stmt := topS 13
abbrev N__law_source : List Str := ["_law_script", "_law_k", "_law_cell", "_law_size", "_law_mixed"]
theorem sc__law_source : FnScope N__law_source ["_law_script", "_law_k"] (defScope s__law_source) := ⟨by rfl, by rfl, by rfl, by decide +kernel, by rfl, by decide +kernel, by decide +kernel⟩
def b__law_source : Ms := mSq (mSet 2 (mOp2N false addD (mOp2N false mulD (mC (.int 7)) (mBlt 1 sumF (mCons (mSlc false (mV 0) mO0 (mO1 (mC (.int 63)))) mNil))) (mV 1))) (mSq
    (mIfF [.ro, .ro, .st (.v)] (mCmp ltD (mV 1) (mBlt 1 lenF (mCons (mV 0) mNil))) (mSet 2 (mOp2 ixD2 (mV 0) (mV 1))) mPass) (mSq (mSet 3 (mBlt 1 absF
    (mCons (mV 2) mNil))) (mSq (mSet 4 (mOp2 modD (mOp2N false mulD (mOp2N false addD (mOp2N false addD (mOp2N false addD (mOp2 modD (mV 3) (mC (.int
    2147483629))) (mOp2N false mulD (mOp2N false mulD (mC (.int 7919)) (mV 1)) (mV 1))) (mOp2N false mulD (mC (.int 31)) (mV 1))) (mC (.int 17))) (mC
    (.int 48271))) (mC (.int 2147483647)))) (mRet (mLst (.v) 2 (mCons (mOp2N false mulD (mV 3) (mBlt 1 intF (mCons (mB (mCmp geD (mV 3) (mOp2 powD (mC
    (.int 10)) (mC (.int 18))))) mNil))) (mCons (mOp2 modD (mOp2N false mulD (mV 4) (mV 4)) (mC (.int 2147483629))) mNil)))))))
abbrev pk__law_source : List Pk := [.v, .v]
def m__law_source (script1 : D) (k2 : D) : O Unit :=
  bindI (asI (.int 63)) fun o3 =>
  bindO (asL false (cutD script1 none o3)) fun z4 =>
  bindO (sumF [z4]) fun z5 =>
  bindO (asL false (mulD (.int 7) z5)) fun z6 =>
  bindO (asL false (addD z6 k2)) fun z7 =>
  bindO (lenF [script1]) fun z8 =>
  bindB (ltD k2 z8) fun b9 =>
  O.fin (σ := D) (if b9 then
  bindO (ixD2 script1 k2) fun z10 =>
  .nx z10
  else
  .nx z7) (fun s11 =>
  bindO (absF [s11]) fun z16 =>
  bindO (modD z16 (.int 2147483629)) fun z17 =>
  bindO (asL false (mulD (.int 7919) k2)) fun z18 =>
  bindO (asL false (mulD z18 k2)) fun z19 =>
  bindO (asL false (addD z17 z19)) fun z20 =>
  bindO (asL false (mulD (.int 31) k2)) fun z21 =>
  bindO (asL false (addD z20 z21)) fun z22 =>
  bindO (asL false (addD z22 (.int 17))) fun z23 =>
  bindO (asL false (mulD z23 (.int 48271))) fun z24 =>
  bindO (modD z24 (.int 2147483647)) fun z25 =>
  bindO (powD (.int 10) (.int 18)) fun z26 =>
  bindB (geD z16 z26) fun b27 =>
  bindO (intF [.bl b27]) fun z28 =>
  bindO (asL false (mulD z16 z28)) fun z29 =>
  bindO (asL false (mulD z25 z25)) fun z30 =>
  bindO (modD z30 (.int 2147483629)) fun z31 =>
  .rt (.lst [z29, z31]) ())
  (fun r14 s12 => .no)
  fun x15 s13 => .ex x15 ()
def mf__law_source : List D → O (St (nio pk__law_source)) := fun ds => match ds with
  | [script1, k2] => m__law_source script1 k2
  | _ => .no
theorem me__law_source : ∀ ds, ds.length = pk__law_source.length → mf__law_source ds = bodyF pk__law_source N__law_source.length (.l (.v)) b__law_source ds := fun ds h => match ds, h with
  | [_, _], _ => by kernel_rfl
theorem G__law_source {P : Program} {w : World} {K : PySem.W.Frag} {mg : Str → Option Value} {base : Heap} {f : Addr} {fd : FuncData} (F : Fun K "_law_source" "_law_source" s__law_source f fd)
    (b_sum : mg "sum" = none)
    (b_len : mg "len" = none)
    (b_abs : mg "abs" = none)
    (b_int : mg "int" = none) : FnG P w K mg base 1 f fd ["_law_script", "_law_k"] (spF K pk__law_source (.l (.v)) mf__law_source) :=
  fng_mirror (N := N__law_source) (body := b__law_source) F sc__law_source rfl me__law_source fun cd A outer s H E hr hg tk hp => by
  have nd := sc__law_source.nd
  have hu1 := hu1_of hr
  have hu64 := hu64_of hr
  have hu65 := hu65_of hr
  exact ss_cons (sx_set (i := 2) nd rfl (.inl rfl) (gx_op2N false op_addF (gx_op2N false op_mulF gx_int (gx_blt (call_sumF rfl) sc_sumF (by rfl) b_sum bb_sum
    (ga_cons (gx_slc false (gx_v 0) go_none (go_some gx_int)) ga_nil))) (gx_v 1))) (ss_cons (sx_ifF [.ro, .ro, .st (.v)] (gq_cmp op_ltF (gx_v 1) (gx_blt
    call_lenF sc_lenF (by rfl) b_len bb_len (ga_cons (gx_v 0) ga_nil)) (nomark _)) (ss_one (sx_set (i := 2) nd rfl (.inl rfl) (gx_ix hu1 (gx_v 0) (gx_v
    1)))) ss_nil) (ss_cons (sx_set (i := 3) nd rfl (.inl rfl) (gx_blt call_absF sc_absF (by rfl) b_abs bb_abs (ga_cons (gx_v 2) ga_nil))) (ss_cons
    (sx_set (i := 4) nd rfl (.inl rfl) (gx_op2 op_modF (gx_op2N false op_mulF (gx_op2N false op_addF (gx_op2N false op_addF (gx_op2N false op_addF
    (gx_op2 op_modF (gx_v 3) gx_int) (gx_op2N false op_mulF (gx_op2N false op_mulF gx_int (gx_v 1)) (gx_v 1))) (gx_op2N false op_mulF gx_int (gx_v 1)))
    gx_int) gx_int) gx_int)) (ss_one (sx_ret (gx_lst (.v) (ga_cons (gx_op2N false op_mulF (gx_v 3) (gx_bty call_intF sc_intF (by rfl) b_int bb_int
    (ga_cons (gx_cmp op_geF (gx_v 3) (gx_op2 op_powF gx_int gx_int) (nomark _)) ga_nil))) (ga_cons (gx_op2 op_modF (gx_op2N false op_mulF (gx_v 4) (gx_v
    4)) gx_int) ga_nil))))))))
/-! ### _law_draw -/
abbrev s__law_draw : Stmt := topS 14
abbrev N__law_draw : List Str := ["_law_source_here", "_law_many", "_law_result"]
theorem sc__law_draw : FnScope N__law_draw ["_law_source_here", "_law_many"] (defScope s__law_draw) := ⟨by rfl, by rfl, by rfl, by decide +kernel, by rfl, by decide +kernel, by decide +kernel⟩
def b__law_draw : Ms := mSq (mIfR (mCmp gtD (mOp2 ixD2 (mV 0) (mC (.int 0))) (mC (.int 0))) (mSq (mSet 2 (mOp2 modD (mOp2 ixD2 (mV 0) (mC (.int 0))) (mV 1))) (mSq (mSto (mOp2
    divD (mOp2 ixD2 (mV 0) (mC (.int 0))) (mV 1)) (mV 0) (mC (.int 0))) (mRet (mV 2)))) mPass) (mSq (mSto (mOp2 modD (mOp2N false addD (mOp2N false mulD
    (mOp2 ixD2 (mV 0) (mC (.int 1))) (mC (.int 48271))) (mC (.int 11))) (mC (.int 2147483647))) (mV 0) (mC (.int 1))) (mRet (mOp2 modD (mOp2 divD (mOp2
    modD (mOp2N false mulD (mOp2 ixD2 (mV 0) (mC (.int 1))) (mOp2 ixD2 (mV 0) (mC (.int 1)))) (mC (.int 2147483629))) (mC (.int 16))) (mV 1))))
abbrev pk__law_draw : List Pk := [.io (.l (.v)), .v]
def m__law_draw (sourcehere1 : D) (many2 : D) : O D :=
  bindO (ixD2 sourcehere1 (.int 0)) fun z3 =>
  bindB (gtD z3 (.int 0)) fun b4 =>
  if b4 then
  bindO (ixD2 sourcehere1 (.int 0)) fun z5 =>
  bindO (modD z5 many2) fun z6 =>
  bindO (ixD2 sourcehere1 (.int 0)) fun z7 =>
  bindO (divD z7 many2) fun z8 =>
  bindO (putI sourcehere1 (.int 0) z8) fun c9 =>
  .rt z6 c9
  else
  bindO (ixD2 sourcehere1 (.int 1)) fun z10 =>
  bindO (asL false (mulD z10 (.int 48271))) fun z11 =>
  bindO (asL false (addD z11 (.int 11))) fun z12 =>
  bindO (modD z12 (.int 2147483647)) fun z13 =>
  bindO (putI sourcehere1 (.int 1) z13) fun c14 =>
  bindO (ixD2 c14 (.int 1)) fun z15 =>
  bindO (ixD2 c14 (.int 1)) fun z16 =>
  bindO (asL false (mulD z15 z16)) fun z17 =>
  bindO (modD z17 (.int 2147483629)) fun z18 =>
  bindO (divD z18 (.int 16)) fun z19 =>
  bindO (modD z19 many2) fun z20 =>
  .rt z20 c14
def mf__law_draw : List D → O (St (nio pk__law_draw)) := fun ds => match ds with
  | [sourcehere1, many2] => m__law_draw sourcehere1 many2
  | _ => .no
theorem me__law_draw : ∀ ds, ds.length = pk__law_draw.length → mf__law_draw ds = bodyF pk__law_draw N__law_draw.length (.v) b__law_draw ds := fun ds h => match ds, h with
  | [_, _], _ => by kernel_rfl
theorem G__law_draw {P : Program} {w : World} {K : PySem.W.Frag} {mg : Str → Option Value} {base : Heap} {f : Addr} {fd : FuncData} (F : Fun K "_law_draw" "_law_draw" s__law_draw f fd)
     : FnG P w K mg base 1 f fd ["_law_source_here", "_law_many"] (spF K pk__law_draw (.v) mf__law_draw) :=
  fng_mirror (N := N__law_draw) (body := b__law_draw) F sc__law_draw rfl me__law_draw fun cd A outer s H E hr hg tk hp => by
  have nd := sc__law_draw.nd
  have hu1 := hu1_of hr
  have hu64 := hu64_of hr
  have hu65 := hu65_of hr
  exact ss_cons (sx_ifR (gq_cmp op_gtF (gx_ix hu1 (gx_v 0) gx_int) gx_int (nomark _)) (ss_cons (sx_set (i := 2) nd rfl (.inl rfl) (gx_op2 op_modF (gx_ix hu1
    (gx_v 0) gx_int) (gx_v 1))) (ss_cons (sx_sto hu1 (gx_op2 op_divF (gx_ix hu1 (gx_v 0) gx_int) (gx_v 1)) (gx_v 0) gx_int) (ss_one (sx_ret (gx_v 2)))))
    ss_nil) (ss_cons (sx_sto hu1 (gx_op2 op_modF (gx_op2N false op_addF (gx_op2N false op_mulF (gx_ix hu1 (gx_v 0) gx_int) gx_int) gx_int) gx_int) (gx_v
    0) gx_int) (ss_one (sx_ret (gx_op2 op_modF (gx_op2 op_divF (gx_op2 op_modF (gx_op2N false op_mulF (gx_ix hu1 (gx_v 0) gx_int) (gx_ix hu1 (gx_v 0)
    gx_int)) gx_int) gx_int) (gx_v 1)))))
/-! ### _law_names -/
abbrev s__law_names : Stmt := topS 15
abbrev N__law_names : List Str := ["_law_source_here", "_law_many", "_law_start", "_law_step", "_law_tail", "_law_result", "_law_k", "_law_letter"]
theorem sc__law_names : FnScope N__law_names ["_law_source_here", "_law_many"] (defScope s__law_names) := ⟨by rfl, by rfl, by rfl, by decide +kernel, by rfl, by decide +kernel, by decide +kernel⟩
def b__law_names : Ms := mSq (mSet 2 (mCall pk__law_draw (.v) mf__law_draw [] (mCons (mV 0) (mCons (mC (.int 26)) mNil)))) (mSq (mSet 3 (mOp2 ixD2 (mLst (.v) 12 (mCons (mC
    (.int 1)) (mCons (mC (.int 3)) (mCons (mC (.int 5)) (mCons (mC (.int 7)) (mCons (mC (.int 9)) (mCons (mC (.int 11)) (mCons (mC (.int 15)) (mCons (mC
    (.int 17)) (mCons (mC (.int 19)) (mCons (mC (.int 21)) (mCons (mC (.int 23)) (mCons (mC (.int 25)) mNil))))))))))))) (mCall pk__law_draw (.v)
    mf__law_draw [] (mCons (mV 0) (mCons (mC (.int 12)) mNil))))) (mSq (mSet 4 (mOp2 ixD2 (mLst (.v) 4 (mCons (mC (.str "")) (mCons (mC (.str ""))
    (mCons (mC (.str "q")) (mCons (mC (.str "abcd")) mNil))))) (mCall pk__law_draw (.v) mf__law_draw [] (mCons (mV 0) (mCons (mC (.int 4)) mNil)))))
    (mSq (mSet 5 (mLst (.v) 0 mNil)) (mSq (mFor [.ro, .ro, .ro, .ro, .ro, .st (.l (.v)), .dd, .dd] (mRg 1 rg1 (mCons (mV 1) mNil)) (gN 6) (mSq (mSet 7
    (mOp2 ixD2 (mC (.str "abcdefghijklmnopqrstuvwxyz")) (mOp2 modD (mOp2N false addD (mV 2) (mOp2N false mulD (mV 3) (mV 6))) (mC (.int 26))))) (mDrop
    (mApp (mV 5) (mOp2N false addD (mOp2N false mulD (mV 7) (mOp2N false addD (mC (.int 1)) (mOp2 divD (mV 6) (mC (.int 26))))) (mV 4)))))) (mRet (mFz
    (mMv (mV 5))))))))
abbrev pk__law_names : List Pk := [.io (.l (.v)), .v]
def L1__law_names (z11 : D) (r3 : D) (z16 : D) (d19 : D) (s18 : D) : O D :=
  bindO (asL false (mulD z11 d19)) fun z20 =>
  bindO (asL false (addD r3 z20)) fun z21 =>
  bindO (modD z21 (.int 26)) fun z22 =>
  bindO (ixD2 (.str "abcdefghijklmnopqrstuvwxyz") z22) fun z23 =>
  bindO (divD d19 (.int 26)) fun z24 =>
  bindO (asL false (addD (.int 1) z24)) fun z25 =>
  bindO (asL false (mulD z23 z25)) fun z26 =>
  bindO (asL false (addD z26 z16)) fun z27 =>
  bindL (lstD s18) fun l28 =>
  bindL (appD l28 z27) fun l29 =>
  .nx (.lst l29)
def m__law_names (sourcehere1 : D) (many2 : D) : O D :=
  O.val (m__law_draw sourcehere1 (.int 26)) (fun r3 s4 =>
  O.val (m__law_draw s4 (.int 12)) (fun r7 s8 =>
  bindO (ixD2 (.lst [.int 1, .int 3, .int 5, .int 7, .int 9, .int 11, .int 15, .int 17, .int 19, .int 21, .int 23, .int 25]) r7) fun z11 =>
  O.val (m__law_draw s8 (.int 4)) (fun r12 s13 =>
  bindO (ixD2 (.lst [.str "", .str "", .str "q", .str "abcd"]) r12) fun z16 =>
  bindL (rg1 [many2]) fun w17 =>
  O.fin (σ := D) (loopF (fun _ => L1__law_names z11 r3 z16) 0 w17 (.lst [])) (fun s30 =>
  .rt s30 s13)
  (fun r33 s31 => .rt r33 s13)
  fun x34 s32 => .ex x34 s13) fun x15 s14 =>
  .ex x15 s14) fun x10 s9 =>
  .ex x10 s9) fun x6 s5 =>
  .ex x6 s5
def mf__law_names : List D → O (St (nio pk__law_names)) := fun ds => match ds with
  | [sourcehere1, many2] => m__law_names sourcehere1 many2
  | _ => .no
theorem me__law_names : ∀ ds, ds.length = pk__law_names.length → mf__law_names ds = bodyF pk__law_names N__law_names.length (.v) b__law_names ds := fun ds h => match ds, h with
  | [_, _], _ => by kernel_rfl
theorem G__law_names {P : Program} {w : World} {K : PySem.W.Frag} {mg : Str → Option Value} {base : Heap} {f : Addr} {fd : FuncData} (F : Fun K "_law_names" "_law_names" s__law_names f fd)
    {f__law_draw : Addr} {fd__law_draw : FuncData} (G__law_draw : FnG P w K mg base 1 f__law_draw fd__law_draw ["_law_source_here", "_law_many"] (spF K pk__law_draw (.v) mf__law_draw)) (g__law_draw : mg "_law_draw" = some (.ref f__law_draw)) (k__law_draw : PySem.W.keepIn K (.ref f__law_draw) = true) (B__law_draw : Binds K fd__law_draw ["_law_source_here", "_law_many"] [])
    (b_range : mg "range" = none) : FnG P w K mg base 2 f fd ["_law_source_here", "_law_many"] (spF K pk__law_names (.v) mf__law_names) :=
  fng_mirror (N := N__law_names) (body := b__law_names) F sc__law_names rfl me__law_names fun cd A outer s H E hr hg tk hp => by
  have nd := sc__law_names.nd
  have hu1 := hu1_of hr
  have hu64 := hu64_of hr
  have hu65 := hu65_of hr
  exact ss_cons (sx_set (i := 2) nd rfl (.inl rfl) (gx_call (G__law_draw.mono (by decide)) hr hg (by rfl) g__law_draw k__law_draw B__law_draw .nil (fun _ =>
    .nil) tk (ga_cons (gx_v 0) (ga_cons gx_int ga_nil)))) (ss_cons (sx_set (i := 3) nd rfl (.inl rfl) (gx_ix hu1 (gx_lst (.v) (ga_cons gx_int (ga_cons
    gx_int (ga_cons gx_int (ga_cons gx_int (ga_cons gx_int (ga_cons gx_int (ga_cons gx_int (ga_cons gx_int (ga_cons gx_int (ga_cons gx_int (ga_cons
    gx_int (ga_cons gx_int ga_nil))))))))))))) (gx_call (G__law_draw.mono (by decide)) hr hg (by rfl) g__law_draw k__law_draw B__law_draw .nil (fun _ =>
    .nil) tk (ga_cons (gx_v 0) (ga_cons gx_int ga_nil))))) (ss_cons (sx_set (i := 4) nd rfl (.inl rfl) (gx_ix hu1 (gx_lst (.v) (ga_cons gx_str (ga_cons
    gx_str (ga_cons gx_str (ga_cons gx_str ga_nil))))) (gx_call (G__law_draw.mono (by decide)) hr hg (by rfl) g__law_draw k__law_draw B__law_draw .nil
    (fun _ => .nil) tk (ga_cons (gx_v 0) (ga_cons gx_int ga_nil))))) (ss_cons (sx_set (i := 5) nd rfl (.inl rfl) (gx_lst (.v) ga_nil)) (ss_cons (sx_for
    [.ro, .ro, .ro, .ro, .ro, .st (.l (.v)), .dd, .dd] hp rfl (gi_range1 (by rfl) b_range (ga_cons (gx_v 1) ga_nil)) (gg_name (i := 6) nd rfl (.inl
    rfl)) (ss_cons (sx_set (i := 7) nd rfl (.inl rfl) (gx_ix hu1 gx_str (gx_op2 op_modF (gx_op2N false op_addF (gx_v 2) (gx_op2N false op_mulF (gx_v 3)
    (gx_v 6))) gx_int))) (ss_one (sx_expr (gx_app (gx_v 5) (gx_op2N false op_addF (gx_op2N false op_mulF (gx_v 7) (gx_op2N false op_addF gx_int (gx_op2
    op_divF (gx_v 6) gx_int))) (gx_v 4))))))) (ss_one (sx_ret (gx_fz (gx_mv (gx_v 5)))))))))
/-! ### _law_graph -/
abbrev s__law_graph : Stmt := topS 16
abbrev N__law_graph : List Str := ["_law_source_here", "_law_vertices", "_law_many", "_law_rotations", "_law_name", "_law_side", "_law_rotation", "_law_k"]
theorem sc__law_graph : FnScope N__law_graph ["_law_source_here", "_law_vertices", "_law_many"] (defScope s__law_graph) := ⟨by rfl, by rfl, by rfl, by decide +kernel, by rfl, by decide +kernel, by decide +kernel⟩
def b__law_graph : Ms := mSq (mSet 3 (mGc [.ro, .ro, .ro, .ro, .ro, .ro, .ro, .dd] [7] (.l (.l (.v))) (.lst []) (mRg 1 rg1 (mCons (mV 1) mNil)) (gN 7) mYes (bLst (.l (.v))
    (mLst (.v) 0 mNil)))) (mSq (mFor [.st (.l (.v)), .ro, .ro, .st (.l (.l (.v))), .dd, .dd, .dd] (mIt itL (mCall pk__law_names (.v) mf__law_names []
    (mCons (mV 0) (mCons (mV 2) mNil)))) (gN 4) (mFor [.st (.l (.v)), .ro, .ro, .st (.l (.l (.v))), .ro, .dd, .dd] (mIt itL (mFz (mLst (.v) 2 (mCons (mC
    (.int 0)) (mCons (mC (.int 1)) mNil))))) (gN 5) (mSq (mSet 6 (mIxA (mV 3) (mCall pk__law_draw (.v) mf__law_draw [] (mCons (mV 0) (mCons (mV 1)
    mNil))))) (mDrop (mMutV 2 gIns (mV 6) (mCons (mCall pk__law_draw (.v) mf__law_draw [] (mCons (mV 0) (mCons (mOp2N false addD (mBlt 1 lenF (mCons (mV
    6) mNil)) (mC (.int 1))) mNil))) (mCons (mTup [.v, .v] (mCons (mV 4) (mCons (mV 5) mNil))) mNil))))))) (mRet (mFz (mGc [.ro, .ro, .ro, .ro, .dd,
    .ro, .dd] [4, 6] (.l (.v)) (.lst []) (mItN 2 zipD (mCons (mCall pk__law_names (.v) mf__law_names [] (mCons (mV 0) (mCons (mV 1) mNil))) (mCons (mFz
    (mMv (mV 3))) mNil))) (gT 2 (gNC (gN 4) (gNC (gN 6) gN0))) mYes (bLst (.v) (mTup [.v, .v] (mCons (mV 4) (mCons (mV 6) mNil))))))))
abbrev pk__law_graph : List Pk := [.io (.l (.v)), .v, .v]
def L1__law_graph (vertices2 : D) (d17 : D) (d20 : D) (s19 : D × D) : O (D × D) :=
  O.val (m__law_draw s19.1 vertices2) (fun r21 s22 =>
  bindN (ixNd s19.2 r21) fun n25 =>
  bindO (nthD s19.2 n25) fun row26 =>
  bindO (lenF [row26]) fun z27 =>
  bindO (asL false (addD z27 (.int 1))) fun z28 =>
  O.val (m__law_draw s22 z28) (fun r29 s30 =>
  bindL (lstD row26) fun l33 =>
  bindMu (gIns l33 [r29, .tup [d17, d20]]) fun l34 z35 =>
  bindO (setP s19.2 [.ix n25] (.lst l34)) fun all36 =>
  .nx (s30, all36)) fun x32 s31 =>
  .ex x32 (s31, s19.2)) fun x24 s23 =>
  .ex x24 (s23, s19.2)
def L2__law_graph (vertices2 : D) (d17 : D) (s16 : D × D) : O (D × D) :=
  bindL (itL (.lst [.int 0, .int 1])) fun w18 =>
  O.fin (σ := D × D) (loopF (fun _ => L1__law_graph vertices2 d17) 0 w18 (s16.1, s16.2)) (fun s37 =>
  .nx (s37.1, s37.2))
  (fun r40 s38 => .rt r40 (s38.1, s38.2))
  fun x41 s39 => .ex x41 (s39.1, s39.2)
def m__law_graph (sourcehere1 : D) (vertices2 : D) (many3 : D) : O D :=
  bindL (rg1 [vertices2]) fun w4 =>
  O.val (σ := Unit) (cmpA (fun acc5 d6 s7 =>
  bindO (addL acc5 (.lst [])) fun acc8 =>
  .rt acc8 ()) w4 (.lst []) ()) (fun c9 s10 =>
  O.val (m__law_names sourcehere1 many3) (fun r11 s12 =>
  bindL (itL r11) fun w15 =>
  O.fin (σ := D × D) (loopF (fun _ => L2__law_graph vertices2) 0 w15 (s12, c9)) (fun s42 =>
  O.val (m__law_names s42.1 vertices2) (fun r47 s48 =>
  bindL (zipD [r47, s42.2]) fun w51 =>
  O.val (σ := Unit) (cmpA (fun acc52 d53 s54 =>
  bindL (unpk 2 d53) fun l55 =>
  bindO (addL acc52 (.tup [l55.headD .non, (l55.tail).headD .non])) fun acc56 =>
  .rt acc56 ()) w51 (.lst []) ()) (fun c57 s58 =>
  .rt c57 s48) fun _ _ => .no) fun x50 s49 =>
  .ex x50 s49)
  (fun r45 s43 => .rt r45 s43.1)
  fun x46 s44 => .ex x46 s44.1) fun x14 s13 =>
  .ex x14 s13) fun _ _ => .no
def mf__law_graph : List D → O (St (nio pk__law_graph)) := fun ds => match ds with
  | [sourcehere1, vertices2, many3] => m__law_graph sourcehere1 vertices2 many3
  | _ => .no
theorem me__law_graph : ∀ ds, ds.length = pk__law_graph.length → mf__law_graph ds = bodyF pk__law_graph N__law_graph.length (.v) b__law_graph ds := fun ds h => match ds, h with
  | [_, _, _], _ => by kernel_rfl
theorem G__law_graph {P : Program} {w : World} {K : PySem.W.Frag} {mg : Str → Option Value} {base : Heap} {f : Addr} {fd : FuncData} (F : Fun K "_law_graph" "_law_graph" s__law_graph f fd)
    {f__law_names : Addr} {fd__law_names : FuncData} (G__law_names : FnG P w K mg base 2 f__law_names fd__law_names ["_law_source_here", "_law_many"] (spF K pk__law_names (.v) mf__law_names)) (g__law_names : mg "_law_names" = some (.ref f__law_names)) (k__law_names : PySem.W.keepIn K (.ref f__law_names) = true) (B__law_names : Binds K fd__law_names ["_law_source_here", "_law_many"] [])
    {f__law_draw : Addr} {fd__law_draw : FuncData} (G__law_draw : FnG P w K mg base 1 f__law_draw fd__law_draw ["_law_source_here", "_law_many"] (spF K pk__law_draw (.v) mf__law_draw)) (g__law_draw : mg "_law_draw" = some (.ref f__law_draw)) (k__law_draw : PySem.W.keepIn K (.ref f__law_draw) = true) (B__law_draw : Binds K fd__law_draw ["_law_source_here", "_law_many"] [])
    (b_range : mg "range" = none)
    (b_len : mg "len" = none)
    (b_zip : mg "zip" = none) : FnG P w K mg base 3 f fd ["_law_source_here", "_law_vertices", "_law_many"] (spF K pk__law_graph (.v) mf__law_graph) :=
  fng_mirror (N := N__law_graph) (body := b__law_graph) F sc__law_graph rfl me__law_graph fun cd A outer s H E hr hg tk hp => by
  have nd := sc__law_graph.nd
  have hu1 := hu1_of hr
  have hu64 := hu64_of hr
  have hu65 := hu65_of hr
  exact ss_cons (sx_setGc (i := 3) [.ro, .ro, .ro, .ro, .ro, .ro, .ro, .dd] (.l (.l (.v))) (.lst []) [7] (own := [("_law_k", 7)]) ci_l1 (new_lO (.l (.v))) rfl
    nd rfl rfl (sw_of rfl rfl (.inl ⟨_, _, _, rfl, by rfl⟩) (by rfl)) (gi_range1 (by rfl) b_range (ga_cons (gx_v 1) ga_nil)) (blkOk_by (N :=
    N__law_graph) (sc := defScope s__law_graph) (by decide +kernel)) (fun _ _ _ _ _ => gc_name (i := 7) nd rfl (.inl rfl) (by decide) (.inr rfl)) (fun _
    _ _ _ _ => gts_nil) (gb_lst (fun _ _ _ _ _ => gx_lst (.v) ga_nil))) (ss_cons (sx_for [.st (.l (.v)), .ro, .ro, .st (.l (.l (.v))), .dd, .dd, .dd] hp
    rfl (gi_list (gx_call (G__law_names.mono (by decide)) hr hg (by rfl) g__law_names k__law_names B__law_names .nil (fun _ => .nil) tk (ga_cons (gx_v
    0) (ga_cons (gx_v 2) ga_nil)))) (gg_name (i := 4) nd rfl (.inl rfl)) (ss_one (sx_for [.st (.l (.v)), .ro, .ro, .st (.l (.l (.v))), .ro, .dd, .dd] hp
    rfl (gi_list (gx_fz (gx_lst (.v) (ga_cons gx_int (ga_cons gx_int ga_nil))))) (gg_name (i := 5) nd rfl (.inl rfl)) (ss_cons (sx_set (i := 6) nd rfl
    (.inl rfl) (gx_ixA hu1 (gx_v 3) (gx_call (G__law_draw.mono (by decide)) hr hg (by rfl) g__law_draw k__law_draw B__law_draw .nil (fun _ => .nil) tk
    (ga_cons (gx_v 0) (ga_cons (gx_v 1) ga_nil))))) (ss_one (sx_expr (gx_mutV PySem.F.slot_list_insert rfl mt_insF (gx_v 6) (ga_cons (gx_call
    (G__law_draw.mono (by decide)) hr hg (by rfl) g__law_draw k__law_draw B__law_draw .nil (fun _ => .nil) tk (ga_cons (gx_v 0) (ga_cons (gx_op2N false
    op_addF (gx_blt call_lenF sc_lenF (by rfl) b_len bb_len (ga_cons (gx_v 6) ga_nil)) gx_int) ga_nil))) (ga_cons (gx_tup [.v, .v] (ga_cons (gx_v 4)
    (ga_cons (gx_v 5) ga_nil))) ga_nil))))))))) (ss_one (sx_ret (gx_fz (gx_gc [.ro, .ro, .ro, .ro, .dd, .ro, .dd] (.l (.v)) (.lst []) [4, 6] (own :=
    [("_law_name", 4), ("_law_rotation", 6)]) ci_l1 (new_lO (.v)) rfl nd (gi_zip (by rfl) b_zip (ga_cons (gx_call (G__law_names.mono (by decide)) hr hg
    (by rfl) g__law_names k__law_names B__law_names .nil (fun _ => .nil) tk (ga_cons (gx_v 0) (ga_cons (gx_v 1) ga_nil))) (ga_cons (gx_fz (gx_mv (gx_v
    3))) ga_nil))) (blkOk_by (N := N__law_graph) (sc := defScope s__law_graph) (by decide +kernel)) (fun _ _ _ _ _ => gc_tup (n := 2) rfl (gcs_cons
    (gc_name (i := 4) nd rfl (.inl rfl) (by decide) (.inr rfl)) (gcs_cons (gc_name (i := 6) nd rfl (.inl rfl) (by decide) (.inr rfl)) gcs_nil))) (fun _
    _ _ _ _ => gts_nil) (gb_lst (fun _ _ _ _ _ => gx_tup [.v, .v] (ga_cons (gx_v 4) (ga_cons (gx_v 6) ga_nil)))))))))
/-! ### _law_corners -/
abbrev s__law_corners : Stmt := topS 17
abbrev N__law_corners : List Str := ["_law_graph_here", "_law_result", "_law_vertex", "_law_rotation"]
theorem sc__law_corners : FnScope N__law_corners ["_law_graph_here"] (defScope s__law_corners) := ⟨by rfl, by rfl, by rfl, by decide +kernel, by rfl, by decide +kernel, by decide +kernel⟩
def b__law_corners : Ms := mSq (mSet 1 (mFz (mLst (.v) 0 mNil))) (mSq (mFor [.ro, .st (.v), .dd, .dd] (mIt itL (mV 0)) (gT 2 (gNC (gN 2) (gNC (gN 3) gN0))) (mSet 1 (mOp2N false
    addD (mOp2N false addD (mV 1) (mV 3)) (mOp2N false mulD (mLst (.v) 1 (mCons (mTup [.v] (mCons (mV 2) mNil)) mNil)) (mBlt 1 intF (mCons (mB (mCmp eqD
    (mV 3) (mLst (.v) 0 mNil))) mNil)))))) (mRet (mBltN false 1 sortF (mCons (mV 1) mNil))))
abbrev pk__law_corners : List Pk := [.v]
def L1__law_corners (d4 : D) (s3 : D) : O D :=
  bindL (unpk 2 d4) fun l5 =>
  bindO (asL false (addD s3 ((l5.tail).headD .non))) fun z6 =>
  bindB (eqD ((l5.tail).headD .non) (.lst [])) fun b7 =>
  bindO (intF [.bl b7]) fun z8 =>
  bindO (asL false (mulD (.lst [.tup [l5.headD .non]]) z8)) fun z9 =>
  bindO (asL false (addD z6 z9)) fun z10 =>
  .nx z10
def m__law_corners (graphhere1 : D) : O Unit :=
  bindL (itL graphhere1) fun w2 =>
  O.fin (σ := D) (loopF (fun _ => L1__law_corners) 0 w2 (.lst [])) (fun s11 =>
  bindO (asL false (sortF [s11])) fun z16 =>
  .rt z16 ())
  (fun r14 s12 => .rt r14 ())
  fun x15 s13 => .ex x15 ()
def mf__law_corners : List D → O (St (nio pk__law_corners)) := fun ds => match ds with
  | [graphhere1] => m__law_corners graphhere1
  | _ => .no
theorem me__law_corners : ∀ ds, ds.length = pk__law_corners.length → mf__law_corners ds = bodyF pk__law_corners N__law_corners.length (.v) b__law_corners ds := fun ds h => match ds, h with
  | [_], _ => by kernel_rfl
theorem G__law_corners {P : Program} {w : World} {K : PySem.W.Frag} {mg : Str → Option Value} {base : Heap} {f : Addr} {fd : FuncData} (F : Fun K "_law_corners" "_law_corners" s__law_corners f fd)
    (b_int : mg "int" = none)
    (b_sorted : mg "sorted" = none) : FnG P w K mg base 1 f fd ["_law_graph_here"] (spF K pk__law_corners (.v) mf__law_corners) :=
  fng_mirror (N := N__law_corners) (body := b__law_corners) F sc__law_corners rfl me__law_corners fun cd A outer s H E hr hg tk hp => by
  have nd := sc__law_corners.nd
  have hu1 := hu1_of hr
  have hu64 := hu64_of hr
  have hu65 := hu65_of hr
  exact ss_cons (sx_set (i := 1) nd rfl (.inl rfl) (gx_fz (gx_lst (.v) ga_nil))) (ss_cons (sx_for [.ro, .st (.v), .dd, .dd] hp rfl (gi_list (gx_v 0)) (gg_tup
    (n := 2) rfl (ggs_cons (gg_name (i := 2) nd rfl (.inl rfl)) (ggs_cons (gg_name (i := 3) nd rfl (.inl rfl)) ggs_nil))) (ss_one (sx_set (i := 1) nd
    rfl (.inl rfl) (gx_op2N false op_addF (gx_op2N false op_addF (gx_v 1) (gx_v 3)) (gx_op2N false op_mulF (gx_lst (.v) (ga_cons (gx_tup [.v] (ga_cons
    (gx_v 2) ga_nil)) ga_nil)) (gx_bty call_intF sc_intF (by rfl) b_int bb_int (ga_cons (gx_cmp (op_eqF hu64) (gx_v 3) (gx_lst (.v) ga_nil) (nomark _))
    ga_nil))))))) (ss_one (sx_ret (gx_bltN false (call_sortF hu64) (by rfl) b_sorted bb_sorted (ga_cons (gx_v 1) ga_nil)))))
/-! ### _law_invalid -/
abbrev s__law_invalid : Stmt := topS 18
abbrev N__law_invalid : List Str := ["_law_graph_here", "_law_result", "_law_vertex", "_law_rotation", "_law_name", "_law_side"]
theorem sc__law_invalid : FnScope N__law_invalid ["_law_graph_here"] (defScope s__law_invalid) := ⟨by rfl, by rfl, by rfl, by decide +kernel, by rfl, by decide +kernel, by decide +kernel⟩
def b__law_invalid : Ms := mSq (mSet 1 (mFz (mLst (.v) 12 (mCons (mC (.non)) (mCons (mC (.int 5)) (mCons (mC (.str "")) (mCons (mTup [] mNil) (mCons (mFz (mLst (.v) 0 mNil))
    (mCons (mFz (mDnew .v false)) (mCons (mTup [.v] (mCons (mC (.str "zzzzzzzz")) mNil)) (mCons (mTup [.v, .v] (mCons (mC (.str "zzzzzzzz")) (mCons (mC
    (.int 0)) mNil))) (mCons (mTup [.v] (mCons (mC (.str "A")) mNil)) (mCons (mTup [.v] (mCons (mC (.str "")) mNil)) (mCons (mTup [.v] (mCons (mC (.int
    5)) mNil)) (mCons (mTup [.v, .v] (mCons (mC (.non)) (mCons (mC (.int 0)) mNil))) mNil))))))))))))))) (mSq (mSet 1 (mOp2N false addD (mV 1) (mLst
    (.v) 2 (mCons (mTup [.v] (mCons (mFz (mLst (.v) 1 (mCons (mC (.str "a")) mNil))) mNil)) (mCons (mTup [.v, .v] (mCons (mC (.str "a")) (mCons (mC
    (.int 2)) mNil))) mNil))))) (mSq (mFor [.ro, .st (.v), .dd, .dd, .dd, .dd] (mIt itL (mV 0)) (gT 2 (gNC (gN 2) (gNC (gN 3) gN0))) (mSq (mSet 1 (mOp2N
    false addD (mV 1) (mLst (.v) 6 (mCons (mV 2) (mCons (mFz (mLst (.v) 1 (mCons (mV 2) mNil))) (mCons (mTup [.v, .v] (mCons (mV 2) (mCons (mOp1 negD
    (mC (.int 1))) mNil))) (mCons (mTup [.v, .v] (mCons (mV 2) (mCons (mC (.non)) mNil))) (mCons (mTup [.v, .v] (mCons (mV 2) (mCons (mC (.bl true))
    mNil))) (mCons (mTup [.v, .v, .v] (mCons (mV 2) (mCons (mC (.int 0)) (mCons (mC (.int 0)) mNil)))) mNil))))))))) (mSq (mSet 1 (mOp2N false addD (mV
    1) (mOp2N false mulD (mLst (.v) 1 (mCons (mTup [.v] (mCons (mV 2) mNil)) mNil)) (mBlt 1 intF (mCons (mB (mCmp neD (mV 3) (mLst (.v) 0 mNil)))
    mNil))))) (mFor [.ro, .st (.v), .ro, .ro, .dd, .dd] (mIt itL (mSlc false (mV 3) mO0 (mO1 (mC (.int 2))))) (gT 2 (gNC (gN 4) (gNC (gN 5) gN0))) (mSet
    1 (mOp2N false addD (mV 1) (mLst (.v) 5 (mCons (mV 4) (mCons (mFz (mLst (.v) 2 (mCons (mV 4) (mCons (mV 5) mNil)))) (mCons (mTup [.v, .v] (mCons (mV
    4) (mCons (mOp2N false addD (mV 5) (mC (.int 2))) mNil))) (mCons (mTup [.v, .v, .v] (mCons (mV 4) (mCons (mV 5) (mCons (mV 5) mNil)))) (mCons (mTup
    [.v] (mCons (mTup [.v, .v] (mCons (mV 4) (mCons (mV 5) mNil))) mNil)) mNil)))))))))))) (mRet (mV 1))))
abbrev pk__law_invalid : List Pk := [.v]
def L1__law_invalid (d17 : D) (s16 : D) : O D :=
  bindL (unpk 2 d17) fun l18 =>
  bindO (asL false (addD ((l18.tail).headD .non) (.int 2))) fun z19 =>
  bindO (asL false (addD s16 (.lst [l18.headD .non, .lst [l18.headD .non, (l18.tail).headD .non], .tup [l18.headD .non, z19], .tup [l18.headD .non, (l18.tail).headD .non, (l18.tail).headD .non], .tup [.tup [l18.headD .non, (l18.tail).headD .non]]]))) fun z20 =>
  .nx z20
def L2__law_invalid (d5 : D) (s4 : D) : O D :=
  bindL (unpk 2 d5) fun l6 =>
  bindO (negD (.int 1)) fun z7 =>
  bindO (asL false (addD s4 (.lst [l6.headD .non, .lst [l6.headD .non], .tup [l6.headD .non, z7], .tup [l6.headD .non, .non], .tup [l6.headD .non, .bl true], .tup [l6.headD .non, .int 0, .int 0]]))) fun z8 =>
  bindB (neD ((l6.tail).headD .non) (.lst [])) fun b9 =>
  bindO (intF [.bl b9]) fun z10 =>
  bindO (asL false (mulD (.lst [.tup [l6.headD .non]]) z10)) fun z11 =>
  bindO (asL false (addD z8 z11)) fun z12 =>
  bindI (asI (.int 2)) fun o13 =>
  bindO (asL false (cutD ((l6.tail).headD .non) none o13)) fun z14 =>
  bindL (itL z14) fun w15 =>
  O.fin (σ := D) (loopF (fun _ => L1__law_invalid) 0 w15 z12) (fun s21 =>
  .nx s21)
  (fun r24 s22 => .rt r24 s22)
  fun x25 s23 => .ex x25 s23
def m__law_invalid (graphhere1 : D) : O Unit :=
  bindO (asL false (addD (.lst [.non, .int 5, .str "", .tup [], .lst [], .dic [], .tup [.str "zzzzzzzz"], .tup [.str "zzzzzzzz", .int 0], .tup [.str "A"], .tup [.str ""], .tup [.int 5], .tup [.non, .int 0]]) (.lst [.tup [.lst [.str "a"]], .tup [.str "a", .int 2]]))) fun z2 =>
  bindL (itL graphhere1) fun w3 =>
  O.fin (σ := D) (loopF (fun _ => L2__law_invalid) 0 w3 z2) (fun s26 =>
  .rt s26 ())
  (fun r29 s27 => .rt r29 ())
  fun x30 s28 => .ex x30 ()
def mf__law_invalid : List D → O (St (nio pk__law_invalid)) := fun ds => match ds with
  | [graphhere1] => m__law_invalid graphhere1
  | _ => .no
theorem me__law_invalid : ∀ ds, ds.length = pk__law_invalid.length → mf__law_invalid ds = bodyF pk__law_invalid N__law_invalid.length (.v) b__law_invalid ds := fun ds h => match ds, h with
  | [_], _ => by kernel_rfl
theorem G__law_invalid {P : Program} {w : World} {K : PySem.W.Frag} {mg : Str → Option Value} {base : Heap} {f : Addr} {fd : FuncData} (F : Fun K "_law_invalid" "_law_invalid" s__law_invalid f fd)
    (b_int : mg "int" = none) : FnG P w K mg base 1 f fd ["_law_graph_here"] (spF K pk__law_invalid (.v) mf__law_invalid) :=
  fng_mirror (N := N__law_invalid) (body := b__law_invalid) F sc__law_invalid rfl me__law_invalid fun cd A outer s H E hr hg tk hp => by
  have nd := sc__law_invalid.nd
  have hu1 := hu1_of hr
  have hu64 := hu64_of hr
  have hu65 := hu65_of hr
  exact ss_cons (sx_set (i := 1) nd rfl (.inl rfl) (gx_fz (gx_lst (.v) (ga_cons gx_non (ga_cons gx_int (ga_cons gx_str (ga_cons (gx_tup [] ga_nil) (ga_cons
    (gx_fz (gx_lst (.v) ga_nil)) (ga_cons (gx_fz (gx_dnewK .v)) (ga_cons (gx_tup [.v] (ga_cons gx_str ga_nil)) (ga_cons (gx_tup [.v, .v] (ga_cons gx_str
    (ga_cons gx_int ga_nil))) (ga_cons (gx_tup [.v] (ga_cons gx_str ga_nil)) (ga_cons (gx_tup [.v] (ga_cons gx_str ga_nil)) (ga_cons (gx_tup [.v]
    (ga_cons gx_int ga_nil)) (ga_cons (gx_tup [.v, .v] (ga_cons gx_non (ga_cons gx_int ga_nil))) ga_nil))))))))))))))) (ss_cons (sx_set (i := 1) nd rfl
    (.inl rfl) (gx_op2N false op_addF (gx_v 1) (gx_lst (.v) (ga_cons (gx_tup [.v] (ga_cons (gx_fz (gx_lst (.v) (ga_cons gx_str ga_nil))) ga_nil))
    (ga_cons (gx_tup [.v, .v] (ga_cons gx_str (ga_cons gx_int ga_nil))) ga_nil))))) (ss_cons (sx_for [.ro, .st (.v), .dd, .dd, .dd, .dd] hp rfl (gi_list
    (gx_v 0)) (gg_tup (n := 2) rfl (ggs_cons (gg_name (i := 2) nd rfl (.inl rfl)) (ggs_cons (gg_name (i := 3) nd rfl (.inl rfl)) ggs_nil))) (ss_cons
    (sx_set (i := 1) nd rfl (.inl rfl) (gx_op2N false op_addF (gx_v 1) (gx_lst (.v) (ga_cons (gx_v 2) (ga_cons (gx_fz (gx_lst (.v) (ga_cons (gx_v 2)
    ga_nil))) (ga_cons (gx_tup [.v, .v] (ga_cons (gx_v 2) (ga_cons (gx_neg gx_int) ga_nil))) (ga_cons (gx_tup [.v, .v] (ga_cons (gx_v 2) (ga_cons gx_non
    ga_nil))) (ga_cons (gx_tup [.v, .v] (ga_cons (gx_v 2) (ga_cons gx_bl ga_nil))) (ga_cons (gx_tup [.v, .v, .v] (ga_cons (gx_v 2) (ga_cons gx_int
    (ga_cons gx_int ga_nil)))) ga_nil))))))))) (ss_cons (sx_set (i := 1) nd rfl (.inl rfl) (gx_op2N false op_addF (gx_v 1) (gx_op2N false op_mulF
    (gx_lst (.v) (ga_cons (gx_tup [.v] (ga_cons (gx_v 2) ga_nil)) ga_nil)) (gx_bty call_intF sc_intF (by rfl) b_int bb_int (ga_cons (gx_cmp (op_neF
    hu64) (gx_v 3) (gx_lst (.v) ga_nil) (nomark _)) ga_nil))))) (ss_one (sx_for [.ro, .st (.v), .ro, .ro, .dd, .dd] hp rfl (gi_list (gx_slc false (gx_v
    3) go_none (go_some gx_int))) (gg_tup (n := 2) rfl (ggs_cons (gg_name (i := 4) nd rfl (.inl rfl)) (ggs_cons (gg_name (i := 5) nd rfl (.inl rfl))
    ggs_nil))) (ss_one (sx_set (i := 1) nd rfl (.inl rfl) (gx_op2N false op_addF (gx_v 1) (gx_lst (.v) (ga_cons (gx_v 4) (ga_cons (gx_fz (gx_lst (.v)
    (ga_cons (gx_v 4) (ga_cons (gx_v 5) ga_nil)))) (ga_cons (gx_tup [.v, .v] (ga_cons (gx_v 4) (ga_cons (gx_op2N false op_addF (gx_v 5) gx_int)
    ga_nil))) (ga_cons (gx_tup [.v, .v, .v] (ga_cons (gx_v 4) (ga_cons (gx_v 5) (ga_cons (gx_v 5) ga_nil)))) (ga_cons (gx_tup [.v] (ga_cons (gx_tup [.v,
    .v] (ga_cons (gx_v 4) (ga_cons (gx_v 5) ga_nil))) ga_nil)) ga_nil)))))))))))))) (ss_one (sx_ret (gx_v 1)))))
/-! ### law -/
abbrev s_law : Stmt := topS 19
abbrev N_law : List Str := ["_law_script", "_law_k", "_law_source_here", "_law_graph_here", "_law_before", "_law_expected", "_law_result", "_law_names_here", "_law_odd", "_law_value", "_law_one", "_law_name"]
theorem sc_law : FnScope N_law ["_law_script"] (defScope s_law) := ⟨by rfl, by rfl, by rfl, by decide +kernel, by rfl, by decide +kernel, by decide +kernel⟩
def b_law : Ms := mSq (mIfR (mOr [] (mCmp neD (mCall pk_corners (.l (.v)) mf_corners [] (mCons (mFz (mLst (.v) 0 mNil)) mNil)) (mLst (.v) 0 mNil)) (mCmp isnD (mCall
    pk_is_corner (.v) mf_is_corner [] (mCons (mFz (mLst (.v) 0 mNil)) (mCons (mTup [.v] (mCons (mC (.str "a")) mNil)) mNil))) (mC (.bl false)))) (mRet
    (mC (.bl false))) mPass) (mSq (mFor [.ro, .dd, .dd, .dd, .dd, .dd, .dd, .dd, .dd, .dd, .dd, .dd] (mRg 1 rg1 (mCons (mBlt 2 max2F (mCons (mC (.int
    1)) (mCons (mBlt 2 min2F (mCons (mBlt 1 lenF (mCons (mV 0) mNil)) (mCons (mC (.int 8)) mNil))) mNil))) mNil)) (gN 1) (mSq (mSet 2 (mCall
    pk__law_source (.l (.v)) mf__law_source [] (mCons (mV 0) (mCons (mV 1) mNil)))) (mSq (mSet 3 (mCall pk__law_graph (.v) mf__law_graph [] (mCons (mV
    2) (mCons (mOp2N false addD (mC (.int 1)) (mCall pk__law_draw (.v) mf__law_draw [] (mCons (mV 2) (mCons (mC (.int 6)) mNil)))) (mCons (mCall
    pk__law_draw (.v) mf__law_draw [] (mCons (mV 2) (mCons (mC (.int 9)) mNil))) mNil))))) (mSq (mSet 4 (mBlt 1 rprF (mCons (mV 3) mNil))) (mSq (mSet 5
    (mCall pk__law_corners (.v) mf__law_corners [] (mCons (mV 3) mNil))) (mSq (mSet 6 (mCall pk_corners (.l (.v)) mf_corners [] (mCons (mV 3) mNil)))
    (mSq (mDrop (mApp (mV 6) (mC (.non)))) (mSq (mIfR (mOr [] (mCmp neD (mV 6) (mOp2N false addD (mV 5) (mLst (.v) 1 (mCons (mC (.non)) mNil)))) (mCmp
    neD (mCall pk_corners (.l (.v)) mf_corners [] (mCons (mV 3) mNil)) (mV 5))) (mRet (mC (.bl false))) mPass) (mSq (mIfR (mCmp neD (mGc [.ro, .ro, .ro,
    .ro, .ro, .ro, .ro, .ro, .ro, .ro, .dd] [10] (.l (.v)) (.lst []) (mIt itL (mV 5)) (gN 10) (mCmp isnD (mCall pk_is_corner (.v) mf_is_corner [] (mCons
    (mV 3) (mCons (mV 10) mNil))) (mC (.bl true))) (bLst (.v) (mV 10))) (mLst (.v) 0 mNil)) (mRet (mC (.bl false))) mPass) (mSq (mSet 7 (mGc [.ro, .ro,
    .ro, .ro, .ro, .ro, .ro, .ro, .ro, .ro, .dd] [10] (.l (.v)) (.lst []) (mIt itL (mV 5)) (gN 10) mYes (bLst (.v) (mOp2 ixD2 (mV 10) (mC (.int 0))))))
    (mSq (mSet 8 (mGc [.ro, .ro, .ro, .ro, .ro, .ro, .ro, .ro, .ro, .ro, .dd] [10] (.l (.v)) (.lst []) (mIt itL (mV 5)) (gN 10) (mCmp eqD (mBlt 1 lenF
    (mCons (mV 10) mNil)) (mC (.int 2))) (bLst (.v) (mTup [.v, .v] (mCons (mOp2 ixD2 (mV 10) (mC (.int 0))) (mCons (mB (mCmp eqD (mOp2 ixD2 (mV 10) (mC
    (.int 1))) (mC (.int 1)))) mNil)))))) (mSq (mFor [.ro, .ro, .ro, .ro, .ro, .ro, .ro, .ro, .ro, .dd, .dd] (mIt itL (mOp2N false addD (mOp2N false
    addD (mOp2N false addD (mCall pk__law_invalid (.v) mf__law_invalid [] (mCons (mV 3) mNil)) (mV 8)) (mGc [.ro, .ro, .ro, .ro, .ro, .ro, .ro, .ro,
    .ro, .ro, .ro, .dd] [11] (.l (.v)) (.lst []) (mIt itL (mFzS (mV 7))) (gN 11) mYes (bLst (.v) (mTup [.v] (mCons (mV 11) mNil))))) (mGc [.ro, .ro,
    .ro, .ro, .ro, .ro, .ro, .ro, .ro, .ro, .ro, .dd] [11] (.l (.v)) (.lst []) (mIt itL (mV 7)) (gN 11) mYes (bLst (.v) (mTup [.v, .v] (mCons (mV 11)
    (mCons (mC (.int 0)) mNil))))))) (gN 9) (mIfR (mCmp neD (mBlt 1 rprF (mCons (mCall pk_is_corner (.v) mf_is_corner [] (mCons (mV 3) (mCons (mV 9)
    mNil))) mNil)) (mBlt 1 rprF (mCons (mB (mCmp inD2 (mBlt 1 rprF (mCons (mV 9) mNil)) (mGc [.ro, .ro, .ro, .ro, .ro, .ro, .ro, .ro, .ro, .ro, .dd]
    [10] (.l (.v)) (.lst []) (mIt itL (mV 5)) (gN 10) mYes (bLst (.v) (mBlt 1 rprF (mCons (mV 10) mNil)))))) mNil))) (mRet (mC (.bl false))) mPass))
    (mIfR (mCmp neD (mBlt 1 rprF (mCons (mV 3) mNil)) (mV 4)) (mRet (mC (.bl false))) mPass))))))))))))) (mRet (mC (.bl true))))
abbrev pk_law : List Pk := [.v]
def L1_law (r30 : D) (r35 : D) (d103 : D) (s102 : Unit) : O Unit :=
  O.val (m_is_corner r30 d103) (fun r104 _ =>
  bindO (rprF [r104]) fun z106 =>
  bindO (rprF [d103]) fun z107 =>
  bindL (itL r35) fun w108 =>
  O.val (σ := Unit) (cmpA (fun acc109 d110 s111 =>
  bindO (rprF [d110]) fun z113 =>
  bindO (addL acc109 z113) fun acc112 =>
  .rt acc112 ()) w108 (.lst []) ()) (fun c114 s115 =>
  bindB (inD2 z107 c114) fun b116 =>
  bindO (rprF [.bl b116]) fun z117 =>
  bindB (neD z106 z117) fun b118 =>
  if b118 then
  .rt (.bl false) ()
  else
  .nx ()) fun _ _ => .no) fun x105 _ =>
  .ex x105 ()
def L2_law (script1 : D) (d18 : D) (s17 : Unit) : O Unit :=
  O.val (m__law_source script1 d18) (fun r19 _ =>
  O.val (m__law_draw r19 (.int 6)) (fun r21 s22 =>
  bindO (asL false (addD (.int 1) r21)) fun z25 =>
  O.val (m__law_draw s22 (.int 9)) (fun r26 s27 =>
  O.val (m__law_graph s27 z25 r26) (fun r30 s31 =>
  bindO (rprF [r30]) fun z34 =>
  O.val (m__law_corners r30) (fun r35 _ =>
  O.val (m_corners r30) (fun r37 _ =>
  bindL (lstD r37) fun l39 =>
  bindL (appD l39 (.non)) fun l40 =>
  bindO (asL false (addD r35 (.lst [.non]))) fun z41 =>
  bindB (neD (.lst l40) z41) fun b42 =>
  O.val (σ := Unit) (if b42 then
  .rt (.bl true) ()
  else
  O.val (m_corners r30) (fun r45 _ =>
  bindB (neD r45 r35) fun b47 =>
  .rt (.bl b47) ()) fun x46 _ =>
  .ex x46 ()) (fun z48 s43 =>
  bindB (asB z48) fun b49 =>
  if b49 then
  .rt (.bl false) ()
  else
  bindL (itL r35) fun w51 =>
  O.val (σ := Unit) (cmpA (fun acc52 d53 s54 =>
  O.val (m_is_corner r30 d53) (fun r55 _ =>
  bindB (isnD r55 (.bl true)) fun b57 =>
  if b57 then
  bindO (addL acc52 d53) fun acc58 =>
  .rt acc58 ()
  else .rt acc52 ()) fun x56 _ =>
  .no) w51 (.lst []) ()) (fun c59 s60 =>
  bindB (neD c59 (.lst [])) fun b61 =>
  if b61 then
  .rt (.bl false) ()
  else
  bindL (itL r35) fun w62 =>
  O.val (σ := Unit) (cmpA (fun acc63 d64 s65 =>
  bindO (ixD2 d64 (.int 0)) fun z67 =>
  bindO (addL acc63 z67) fun acc66 =>
  .rt acc66 ()) w62 (.lst []) ()) (fun c68 s69 =>
  bindL (itL r35) fun w70 =>
  O.val (σ := Unit) (cmpA (fun acc71 d72 s73 =>
  bindO (lenF [d72]) fun z74 =>
  bindB (eqD z74 (.int 2)) fun b75 =>
  if b75 then
  bindO (ixD2 d72 (.int 0)) fun z77 =>
  bindO (ixD2 d72 (.int 1)) fun z78 =>
  bindB (eqD z78 (.int 1)) fun b79 =>
  bindO (addL acc71 (.tup [z77, .bl b79])) fun acc76 =>
  .rt acc76 ()
  else .rt acc71 ()) w70 (.lst []) ()) (fun c80 s81 =>
  O.val (m__law_invalid r30) (fun r82 _ =>
  bindO (asL false (addD r82 c80)) fun z84 =>
  bindL (itL c68) fun w85 =>
  O.val (σ := Unit) (cmpA (fun acc86 d87 s88 =>
  bindO (addL acc86 (.tup [d87])) fun acc89 =>
  .rt acc89 ()) w85 (.lst []) ()) (fun c90 s91 =>
  bindO (asL false (addD z84 c90)) fun z92 =>
  bindL (itL c68) fun w93 =>
  O.val (σ := Unit) (cmpA (fun acc94 d95 s96 =>
  bindO (addL acc94 (.tup [d95, .int 0])) fun acc97 =>
  .rt acc97 ()) w93 (.lst []) ()) (fun c98 s99 =>
  bindO (asL false (addD z92 c98)) fun z100 =>
  bindL (itL z100) fun w101 =>
  O.fin (σ := Unit) (loopF (fun _ => L1_law r30 r35) 0 w101 ()) (fun _ =>
  bindO (rprF [r30]) fun z121 =>
  bindB (neD z121 z34) fun b122 =>
  if b122 then
  .rt (.bl false) ()
  else
  .nx ())
  (fun r119 _ => .rt r119 ())
  fun x120 _ => .ex x120 ()) fun _ _ => .no) fun _ _ => .no) fun x83 _ =>
  .ex x83 ()) fun _ _ => .no) fun _ _ => .no) fun _ _ => .no) fun x50 s44 =>
  .ex x50 ()) fun x38 _ =>
  .ex x38 ()) fun x36 _ =>
  .ex x36 ()) fun x33 s32 =>
  .ex x33 ()) fun x29 s28 =>
  .ex x29 ()) fun x24 s23 =>
  .ex x24 ()) fun x20 _ =>
  .ex x20 ()
def m_law (script1 : D) : O Unit :=
  O.val (m_corners (.lst [])) (fun r2 _ =>
  bindB (neD r2 (.lst [])) fun b4 =>
  O.val (σ := Unit) (if b4 then
  .rt (.bl true) ()
  else
  O.val (m_is_corner (.lst []) (.tup [.str "a"])) (fun r7 _ =>
  bindB (isnD r7 (.bl false)) fun b9 =>
  .rt (.bl b9) ()) fun x8 _ =>
  .ex x8 ()) (fun z10 s5 =>
  bindB (asB z10) fun b11 =>
  if b11 then
  .rt (.bl false) ()
  else
  bindO (lenF [script1]) fun z13 =>
  bindO (min2F [z13, .int 8]) fun z14 =>
  bindO (max2F [.int 1, z14]) fun z15 =>
  bindL (rg1 [z15]) fun w16 =>
  O.fin (σ := Unit) (loopF (fun _ => L2_law script1) 0 w16 ()) (fun _ =>
  .rt (.bl true) ())
  (fun r123 _ => .rt r123 ())
  fun x124 _ => .ex x124 ()) fun x12 s6 =>
  .ex x12 ()) fun x3 _ =>
  .ex x3 ()
def mf_law : List D → O (St (nio pk_law)) := fun ds => match ds with
  | [script1] => m_law script1
  | _ => .no
theorem me_law : ∀ ds, ds.length = pk_law.length → mf_law ds = bodyF pk_law N_law.length (.v) b_law ds := fun ds h => match ds, h with
  | [_], _ => by kernel_rfl
theorem G_law {P : Program} {w : World} {K : PySem.W.Frag} {mg : Str → Option Value} {base : Heap} {f : Addr} {fd : FuncData} (F : Fun K "law" "law" s_law f fd)
    {f_corners : Addr} {fd_corners : FuncData} (G_corners : FnG P w K mg base 3 f_corners fd_corners ["graph"] (spF K pk_corners (.l (.v)) mf_corners)) (g_corners : mg "corners" = some (.ref f_corners)) (k_corners : PySem.W.keepIn K (.ref f_corners) = true) (B_corners : Binds K fd_corners ["graph"] [])
    {f_is_corner : Addr} {fd_is_corner : FuncData} (G_is_corner : FnG P w K mg base 5 f_is_corner fd_is_corner ["graph", "value"] (spF K pk_is_corner (.v) mf_is_corner)) (g_is_corner : mg "is_corner" = some (.ref f_is_corner)) (k_is_corner : PySem.W.keepIn K (.ref f_is_corner) = true) (B_is_corner : Binds K fd_is_corner ["graph", "value"] [])
    {f__law_source : Addr} {fd__law_source : FuncData} (G__law_source : FnG P w K mg base 1 f__law_source fd__law_source ["_law_script", "_law_k"] (spF K pk__law_source (.l (.v)) mf__law_source)) (g__law_source : mg "_law_source" = some (.ref f__law_source)) (k__law_source : PySem.W.keepIn K (.ref f__law_source) = true) (B__law_source : Binds K fd__law_source ["_law_script", "_law_k"] [])
    {f__law_graph : Addr} {fd__law_graph : FuncData} (G__law_graph : FnG P w K mg base 3 f__law_graph fd__law_graph ["_law_source_here", "_law_vertices", "_law_many"] (spF K pk__law_graph (.v) mf__law_graph)) (g__law_graph : mg "_law_graph" = some (.ref f__law_graph)) (k__law_graph : PySem.W.keepIn K (.ref f__law_graph) = true) (B__law_graph : Binds K fd__law_graph ["_law_source_here", "_law_vertices", "_law_many"] [])
    {f__law_draw : Addr} {fd__law_draw : FuncData} (G__law_draw : FnG P w K mg base 1 f__law_draw fd__law_draw ["_law_source_here", "_law_many"] (spF K pk__law_draw (.v) mf__law_draw)) (g__law_draw : mg "_law_draw" = some (.ref f__law_draw)) (k__law_draw : PySem.W.keepIn K (.ref f__law_draw) = true) (B__law_draw : Binds K fd__law_draw ["_law_source_here", "_law_many"] [])
    {f__law_corners : Addr} {fd__law_corners : FuncData} (G__law_corners : FnG P w K mg base 1 f__law_corners fd__law_corners ["_law_graph_here"] (spF K pk__law_corners (.v) mf__law_corners)) (g__law_corners : mg "_law_corners" = some (.ref f__law_corners)) (k__law_corners : PySem.W.keepIn K (.ref f__law_corners) = true) (B__law_corners : Binds K fd__law_corners ["_law_graph_here"] [])
    {f__law_invalid : Addr} {fd__law_invalid : FuncData} (G__law_invalid : FnG P w K mg base 1 f__law_invalid fd__law_invalid ["_law_graph_here"] (spF K pk__law_invalid (.v) mf__law_invalid)) (g__law_invalid : mg "_law_invalid" = some (.ref f__law_invalid)) (k__law_invalid : PySem.W.keepIn K (.ref f__law_invalid) = true) (B__law_invalid : Binds K fd__law_invalid ["_law_graph_here"] [])
    (b_range : mg "range" = none)
    (b_max : mg "max" = none)
    (b_min : mg "min" = none)
    (b_len : mg "len" = none)
    (b_repr : mg "repr" = none) : FnG P w K mg base 6 f fd ["_law_script"] (spF K pk_law (.v) mf_law) :=
  fng_mirror (N := N_law) (body := b_law) F sc_law rfl me_law fun cd A outer s H E hr hg tk hp => by
  have nd := sc_law.nd
  have hu1 := hu1_of hr
  have hu64 := hu64_of hr
  have hu65 := hu65_of hr
  exact ss_cons (sx_ifR (gq_w (gw_or [] (gq_cmp (op_neF hu64) (gx_call (G_corners.mono (by decide)) hr hg (by rfl) g_corners k_corners B_corners .nil (fun _
    => .nil) tk (ga_cons (gx_fz (gx_lst (.v) ga_nil)) ga_nil)) (gx_lst (.v) ga_nil) (nomark _)) (gw_or1 (gq_cmp op_notF (gx_call (G_is_corner.mono (by
    decide)) hr hg (by rfl) g_is_corner k_is_corner B_is_corner .nil (fun _ => .nil) tk (ga_cons (gx_fz (gx_lst (.v) ga_nil)) (ga_cons (gx_tup [.v]
    (ga_cons gx_str ga_nil)) ga_nil))) gx_bl (by rfl))))) (ss_one (sx_ret gx_bl)) ss_nil) (ss_cons (sx_for [.ro, .dd, .dd, .dd, .dd, .dd, .dd, .dd, .dd,
    .dd, .dd, .dd] hp rfl (gi_range1 (by rfl) b_range (ga_cons (gx_blt (call_max2F rfl) sc_max2F (by rfl) b_max bb_max (ga_cons gx_int (ga_cons (gx_blt
    (call_min2F rfl) sc_min2F (by rfl) b_min bb_min (ga_cons (gx_blt call_lenF sc_lenF (by rfl) b_len bb_len (ga_cons (gx_v 0) ga_nil)) (ga_cons gx_int
    ga_nil))) ga_nil))) ga_nil)) (gg_name (i := 1) nd rfl (.inl rfl)) (ss_cons (sx_set (i := 2) nd rfl (.inl rfl) (gx_call (G__law_source.mono (by
    decide)) hr hg (by rfl) g__law_source k__law_source B__law_source .nil (fun _ => .nil) tk (ga_cons (gx_v 0) (ga_cons (gx_v 1) ga_nil)))) (ss_cons
    (sx_set (i := 3) nd rfl (.inr rfl) (gx_call (G__law_graph.mono (by decide)) hr hg (by rfl) g__law_graph k__law_graph B__law_graph .nil (fun _ =>
    .nil) tk (ga_cons (gx_v 2) (ga_cons (gx_op2N false op_addF gx_int (gx_call (G__law_draw.mono (by decide)) hr hg (by rfl) g__law_draw k__law_draw
    B__law_draw .nil (fun _ => .nil) tk (ga_cons (gx_v 2) (ga_cons gx_int ga_nil)))) (ga_cons (gx_call (G__law_draw.mono (by decide)) hr hg (by rfl)
    g__law_draw k__law_draw B__law_draw .nil (fun _ => .nil) tk (ga_cons (gx_v 2) (ga_cons gx_int ga_nil))) ga_nil))))) (ss_cons (sx_set (i := 4) nd rfl
    (.inl rfl) (gx_blt (call_reprF hg hu64) sc_rprF (by rfl) b_repr bb_repr (ga_cons (gx_v 3) ga_nil))) (ss_cons (sx_set (i := 5) nd rfl (.inl rfl)
    (gx_call (G__law_corners.mono (by decide)) hr hg (by rfl) g__law_corners k__law_corners B__law_corners .nil (fun _ => .nil) tk (ga_cons (gx_v 3)
    ga_nil))) (ss_cons (sx_set (i := 6) nd rfl (.inl rfl) (gx_call (G_corners.mono (by decide)) hr hg (by rfl) g_corners k_corners B_corners .nil (fun _
    => .nil) tk (ga_cons (gx_v 3) ga_nil))) (ss_cons (sx_expr (gx_app (gx_v 6) gx_non)) (ss_cons (sx_ifR (gq_w (gw_or [] (gq_cmp (op_neF hu64) (gx_v 6)
    (gx_op2N false op_addF (gx_v 5) (gx_lst (.v) (ga_cons gx_non ga_nil))) (nomark _)) (gw_or1 (gq_cmp (op_neF hu64) (gx_call (G_corners.mono (by
    decide)) hr hg (by rfl) g_corners k_corners B_corners .nil (fun _ => .nil) tk (ga_cons (gx_v 3) ga_nil)) (gx_v 5) (nomark _))))) (ss_one (sx_ret
    gx_bl)) ss_nil) (ss_cons (sx_ifR (gq_cmp (op_neF hu64) (gx_gc [.ro, .ro, .ro, .ro, .ro, .ro, .ro, .ro, .ro, .ro, .dd] (.l (.v)) (.lst []) [10] (own
    := [("_law_one", 10)]) ci_l1 (new_lO (.v)) rfl nd (gi_list (gx_v 5)) (blkOk_by (N := N_law) (sc := defScope s_law) (by decide +kernel)) (fun _ _ _ _
    _ => gc_name (i := 10) nd rfl (.inl rfl) (by decide) (.inr rfl)) (fun _ _ _ _ _ => gts_one (gq_cmp op_notF (gx_call (G_is_corner.mono (by decide))
    hr hg (by rfl) g_is_corner k_is_corner B_is_corner .nil (fun _ => .nil) Fx.takes0 (ga_cons (gx_v 3) (ga_cons (gx_v 10) ga_nil))) gx_bl (by rfl)))
    (gb_lst (fun _ _ _ _ _ => gx_v 10))) (gx_lst (.v) ga_nil) (nomark _)) (ss_one (sx_ret gx_bl)) ss_nil) (ss_cons (sx_setGc (i := 7) [.ro, .ro, .ro,
    .ro, .ro, .ro, .ro, .ro, .ro, .ro, .dd] (.l (.v)) (.lst []) [10] (own := [("_law_one", 10)]) ci_l1 (new_lO (.v)) rfl nd rfl rfl (sw_of rfl rfl (.inl
    ⟨_, _, _, rfl, by rfl⟩) (by rfl)) (gi_list (gx_v 5)) (blkOk_by (N := N_law) (sc := defScope s_law) (by decide +kernel)) (fun _ _ _ _ _ => gc_name (i
    := 10) nd rfl (.inl rfl) (by decide) (.inr rfl)) (fun _ _ _ _ _ => gts_nil) (gb_lst (fun _ _ _ _ _ => gx_ix hu1 (gx_v 10) gx_int))) (ss_cons
    (sx_setGc (i := 8) [.ro, .ro, .ro, .ro, .ro, .ro, .ro, .ro, .ro, .ro, .dd] (.l (.v)) (.lst []) [10] (own := [("_law_one", 10)]) ci_l1 (new_lO (.v))
    rfl nd rfl rfl (sw_of rfl rfl (.inl ⟨_, _, _, rfl, by rfl⟩) (by rfl)) (gi_list (gx_v 5)) (blkOk_by (N := N_law) (sc := defScope s_law) (by
    decide +kernel)) (fun _ _ _ _ _ => gc_name (i := 10) nd rfl (.inl rfl) (by decide) (.inr rfl)) (fun _ _ _ _ _ => gts_one (gq_cmp (op_eqF hu64)
    (gx_blt call_lenF sc_lenF (by rfl) b_len bb_len (ga_cons (gx_v 10) ga_nil)) gx_int (nomark _))) (gb_lst (fun _ _ _ _ _ => gx_tup [.v, .v] (ga_cons
    (gx_ix hu1 (gx_v 10) gx_int) (ga_cons (gx_cmp (op_eqF hu64) (gx_ix hu1 (gx_v 10) gx_int) gx_int (nomark _)) ga_nil))))) (ss_cons (sx_for [.ro, .ro,
    .ro, .ro, .ro, .ro, .ro, .ro, .ro, .dd, .dd] hp rfl (gi_list (gx_op2N false op_addF (gx_op2N false op_addF (gx_op2N false op_addF (gx_call
    (G__law_invalid.mono (by decide)) hr hg (by rfl) g__law_invalid k__law_invalid B__law_invalid .nil (fun _ => .nil) tk (ga_cons (gx_v 3) ga_nil))
    (gx_v 8)) (gx_gc [.ro, .ro, .ro, .ro, .ro, .ro, .ro, .ro, .ro, .ro, .ro, .dd] (.l (.v)) (.lst []) [11] (own := [("_law_name", 11)]) ci_l1 (new_lO
    (.v)) rfl nd (gi_list (gx_fzS (gx_v 7))) (blkOk_by (N := N_law) (sc := defScope s_law) (by decide +kernel)) (fun _ _ _ _ _ => gc_name (i := 11) nd
    rfl (.inl rfl) (by decide) (.inr rfl)) (fun _ _ _ _ _ => gts_nil) (gb_lst (fun _ _ _ _ _ => gx_tup [.v] (ga_cons (gx_v 11) ga_nil))))) (gx_gc [.ro,
    .ro, .ro, .ro, .ro, .ro, .ro, .ro, .ro, .ro, .ro, .dd] (.l (.v)) (.lst []) [11] (own := [("_law_name", 11)]) ci_l1 (new_lO (.v)) rfl nd (gi_list
    (gx_v 7)) (blkOk_by (N := N_law) (sc := defScope s_law) (by decide +kernel)) (fun _ _ _ _ _ => gc_name (i := 11) nd rfl (.inl rfl) (by decide) (.inr
    rfl)) (fun _ _ _ _ _ => gts_nil) (gb_lst (fun _ _ _ _ _ => gx_tup [.v, .v] (ga_cons (gx_v 11) (ga_cons gx_int ga_nil))))))) (gg_name (i := 9) nd rfl
    (.inl rfl)) (ss_one (sx_ifR (gq_cmp (op_neF hu64) (gx_blt (call_reprF hg hu64) sc_rprF (by rfl) b_repr bb_repr (ga_cons (gx_call (G_is_corner.mono
    (by decide)) hr hg (by rfl) g_is_corner k_is_corner B_is_corner .nil (fun _ => .nil) tk (ga_cons (gx_v 3) (ga_cons (gx_v 9) ga_nil))) ga_nil))
    (gx_blt (call_reprF hg hu64) sc_rprF (by rfl) b_repr bb_repr (ga_cons (gx_cmp (op_inF2 hu65) (gx_blt (call_reprF hg hu64) sc_rprF (by rfl) b_repr
    bb_repr (ga_cons (gx_v 9) ga_nil)) (gx_gc [.ro, .ro, .ro, .ro, .ro, .ro, .ro, .ro, .ro, .ro, .dd] (.l (.v)) (.lst []) [10] (own := [("_law_one",
    10)]) ci_l1 (new_lO (.v)) rfl nd (gi_list (gx_v 5)) (blkOk_by (N := N_law) (sc := defScope s_law) (by decide +kernel)) (fun _ _ _ _ _ => gc_name (i
    := 10) nd rfl (.inl rfl) (by decide) (.inr rfl)) (fun _ _ _ _ _ => gts_nil) (gb_lst (fun _ _ _ _ _ => gx_blt (call_reprF hg hu64) sc_rprF (by rfl)
    b_repr bb_repr (ga_cons (gx_v 10) ga_nil)))) (by rfl)) ga_nil)) (nomark _)) (ss_one (sx_ret gx_bl)) ss_nil))) (ss_one (sx_ifR (gq_cmp (op_neF hu64)
    (gx_blt (call_reprF hg hu64) sc_rprF (by rfl) b_repr bb_repr (ga_cons (gx_v 3) ga_nil)) (gx_v 4) (nomark _)) (ss_one (sx_ret gx_bl))
    ss_nil)))))))))))))) (ss_one (sx_ret gx_bl)))
end K07

namespace K07
open PySem PySem.Spec PyProof.Rows L2 Fx
theorem rot_eq : m_Rotations___init__ = rotM := rfl
theorem corn_eq : m_Rotations_has_corner = hasCornM := rfl
theorem init_ok {g : Gr} (h : Sm g) : m_Rotations___init__ (gD g) = .rt .non (rotT g) := by rw [rot_eq]; exact h.init
theorem is_corner_ok {g : Gr} (h : Sm g) {v : D} {b : Bool} (hv : hasCornM (rotT g) v = .rt (.bl b) ()) : m_is_corner (gD g) v = .rt (.bl b) () := by
  unfold m_is_corner
  have e : isIns "Rotations" "has_corner" (rotT g) = true := rfl
  rw [init_ok h, val_rt, if_pos e, corn_eq, hv, val_rt]
theorem list_m (m : DM) : listTF [mD m] = some (.lst (m.map fun p => dD p.1)) := by
  show some (D.lst ((m.map fun p => (kT p.1, p.2)).map fun e => ktD e.1)) = _
  rw [List.map_map]
  rfl
theorem keys_s (m : SM) : itK (sD m) = some (m.map fun p => .str p.1) := by
  show some ((m.map fun p => (Sum.inr p.1, p.2)).map fun e => _) = _
  rw [List.map_map]
  rfl
/-- the corners, as the class lists them -/
def cls (g : Gr) : List Cn := (g.filter fun p => p.2.isEmpty).map (fun p => .v p.1) ++ (dartsOf g).map .d
theorem cls_perm (g : Gr) : List.Perm (cls g) (cnOf g) := by
  induction g with
  | nil => exact .refl _
  | cons p g ih =>
    obtain ⟨x, r⟩ := p
    have e0 : dartsOf ((x, r) :: g) = r ++ dartsOf g := by unfold dartsOf; rw [List.flatMap_cons]
    have e1 : cnOf ((x, r) :: g) = (r.map .d ++ if r.isEmpty then [.v x] else []) ++ cnOf g := by unfold cnOf; rw [List.flatMap_cons]
    rw [e1]
    unfold cls at ih ⊢
    rw [e0]
    cases r with
    | nil => simpa using ih
    | cons d r =>
      have e2 : ((x, d :: r) :: g).filter (fun p => p.2.isEmpty) = g.filter fun p => p.2.isEmpty := by simp
      rw [e2, List.map_append]
      have e3 : (if (d :: r).isEmpty then [Cn.v x] else []) = [] := rfl
      rw [e3, List.append_nil, ← List.append_assoc]
      refine List.Perm.trans ?_ (ih.append_left ((d :: r).map Cn.d))
      rw [← List.append_assoc]
      exact List.perm_append_comm.append_right _
theorem iso_cn (g : Gr) : ((iso g).map fun p => D.tup [.str p.1]) = ((g.filter fun p => p.2.isEmpty).map fun p => Cn.v p.1).map cD := by
  unfold iso
  rw [List.map_map, List.map_map]
  rfl
theorem nby_cn (g : Gr) : ((nby g).map fun p => dD p.1) = ((dartsOf g).map Cn.d).map cD := by
  rw [List.map_map, ← nby_keys, List.map_map]
  rfl
theorem rcorn_ok {g : Gr} (h : Sm g) : m_Rotations_corners (rotT g) = .rt (.lst (((cnOf g).map cD).mergeSort leT)) () := by
  have hz : sizeLine = 16777216 := sizeLine_eq
  have hd := h.d
  have hv := h.v
  have hl : (iso g).length ≤ g.length := by unfold iso; rw [List.length_map]; exact List.length_filter_le _ _
  have e1 : insF "Rotations" "isolated" (rotT g) = some (sD (iso g)) := rfl
  have e2 : insF "Rotations" "next_by" (rotT g) = some (mD (nby g)) := rfl
  have c1 := cmpA_map (f := fun acc4 d5 (s6 : Unit) =>
    bindO (addL acc4 (.tup [d5])) fun acc7 =>
    .rt acc7 ()) (fun p : Str × D => .str p.1) (fun p => .tup [.str p.1]) (iso g) (fun p hp acc => rfl) [] (by simp; omega)
  have hn : (nby g).length = (dartsOf g).length := by rw [← nby_keys g, List.length_map]
  unfold m_Rotations_corners
  rw [e1, bindO_s, keys_s, bindL_s, c1, val_rt, e2, bindO_s, list_m, asL_f, bindO_s, List.nil_append, addLst (by simp; omega), asL_f, bindO_s, iso_cn, nby_cn, ← List.map_append]
  have q := sort_cn (l := cls g) (by have := (cls_perm g).length_eq; have := cn_len g; omega)
  have e3 : (List.map (fun p => Cn.v p.1) (List.filter (fun p => p.2.isEmpty) g) ++ List.map Cn.d (dartsOf g)) = cls g := rfl
  rw [e3, q, asL_t, bindO_s, sort_same (cls_perm g)]
theorem corners_ok {g : Gr} (h : Sm g) : m_corners (gD g) = .rt (.lst (((cnOf g).map cD).mergeSort leT)) () := by
  unfold m_corners
  have e : isIns "Rotations" "corners" (rotT g) = true := rfl
  rw [init_ok h, val_rt, if_pos e, rcorn_ok h, val_rt]
theorem corn_row {x : Str} {r : List Dart} (hr : ∀ d ∈ r, NmOk d.1) {l : List D} (hl : l.length + r.length < 50000) : L1__law_corners (vD (x, r)) (.lst l) = .nx (.lst (l ++ ((r.map Cn.d ++ if r.isEmpty then [Cn.v x] else []).map cD))) := by
  have e1 : unpk 2 (vD (x, r)) = some [.str x, rowD r] := rfl
  obtain ⟨z, e2, e3⟩ := mul_b (.tup [.str x]) r.isEmpty
  unfold L1__law_corners
  rw [e1, bindL_s]
  simp only [List.tail_cons, List.headD_cons]
  have ea : addD (.lst l) (rowD r) = some (.lst (l ++ r.map dD)) := addLst (by simp; omega)
  rw [ea, asL_f, bindO_s, eq_row hr, bindB_s, e2, bindO_s, e3, asL_f, bindO_s, addLst (by cases r.isEmpty <;> simp <;> omega), asL_f, bindO_s]
  have em : (r.map Cn.d).map cD = r.map dD := by rw [List.map_map]; rfl
  rw [List.map_append, em, List.append_assoc]
  cases r.isEmpty <;> rfl
theorem corn_rows : ∀ (g : Gr) (k : Nat) (l : List D), (∀ p ∈ g, ∀ d ∈ p.2, NmOk d.1) → l.length + (dartsOf g).length + g.length < 50000 → loopF (fun _ => L1__law_corners) k (g.map vD) (.lst l) = .nx (.lst (l ++ (cnOf g).map cD))
  | [], k, l, _, _ => by simp [loopF, cnOf]
  | (x, r) :: g, k, l, hr, hl => by
    have e0 : dartsOf ((x, r) :: g) = r ++ dartsOf g := by unfold dartsOf; rw [List.flatMap_cons]
    have e1 : cnOf ((x, r) :: g) = (r.map .d ++ if r.isEmpty then [.v x] else []) ++ cnOf g := by unfold cnOf; rw [List.flatMap_cons]
    rw [e0, List.length_append, List.length_cons] at hl
    rw [List.map_cons, loopF_cons, corn_row (x := x) (r := r) (hr (x, r) (by simp)) (by omega), lp_nx, corn_rows g _ _ (fun p hp => hr p (by simp [hp]))]
    · rw [e1]; simp
    · have := cnL_len (r := r) (x := x)
      simp only [List.length_append, List.length_map]
      rw [List.length_append, List.length_map] at this
      omega
theorem law_corners_ok {g : Gr} (h : Sm g) : m__law_corners (gD g) = .rt (.lst (((cnOf g).map cD).mergeSort leT)) () := by
  have q := corn_rows g 0 [] (fun p hp d hd => (h.ok.rows hp d hd).1) (by have := h.d; have := h.v; simp; omega)
  unfold m__law_corners
  show Fx.bindL (some (g.map vD)) _ = _
  rw [bindL_s, q, fin_nx, List.nil_append, sort_cn (by have := cn_len g; have := h.d; have := h.v; omega), asL_f, bindO_s]
end K07

namespace K07
open PySem PySem.Spec PyProof.Rows L2 Fx
/-- what is_corner answers is what the texts say -/
structure Val (g : Gr) (v : D) : Prop where
  an : ∃ b, hasCornM (rotT g) v = .rt (.bl b) () ∧ (b = true ↔ ∃ c ∈ cnOf g, shC (cD c) = shC v)
  sh : rprF [v] = some (.str (toPy v).shown) ∧ PyData.strOk (toPy v).shown = true
theorem sh_of {v : D} (h : rok v = true) (hp : pD v ≤ 5) (hw : wD v ≤ 1000) : rprF [v] = some (.str (toPy v).shown) ∧ PyData.strOk (toPy v).shown = true :=
  ⟨rpr_ok h (Nat.le_trans hp (by decide)) (Nat.le_trans hw (by decide)), asc_strOk (rok_asc h)⟩
theorem val_no {g : Gr} (ok : GrOk g) {v : D} (h : hasCornM (rotT g) v = .rt (.bl false) ()) (n : NoSh v) (s : rprF [v] = some (.str (toPy v).shown) ∧ PyData.strOk (toPy v).shown = true) : Val g v :=
  ⟨⟨false, h, by
    constructor
    · intro h; cases h
    · rintro ⟨c, hc, e⟩
      exact absurd e (n c (cn_ok ok hc))⟩, s⟩
theorem cn_sh {c : Cn} (h : CnOk c) : rprF [cD c] = some (.str (toPy (cD c)).shown) ∧ PyData.strOk (toPy (cD c)).shown = true := by
  cases c with
  | v x =>
    have h : NmOk x := h
    refine sh_of (v := .tup [.str x]) (rok_tup fun z hz => ?_) (Nat.le_trans (p_tup (n := 0) fun z hz => ?_) (by decide)) ?_
    · simp at hz; subst hz; exact h.rok
    · simp at hz; subst hz; rw [p_str]; omega
    · rw [w_tup, w_tup0, w_str]; have := h.hi; omega
  | d d =>
    have h : DtOk d := h
    exact sh_of (v := dD d) h.rok (Nat.le_trans (DtOk.p d) (by decide)) (Nat.le_trans h.w (by decide))
theorem val_cn {g : Gr} (ok : GrOk g) {c : Cn} (h : CnOk c) : Val g (cD c) := by
  refine ⟨?_, cn_sh h⟩
  have key : (∃ c' ∈ cnOf g, shC (cD c') = shC (cD c)) ↔ c ∈ cnOf g := by
    constructor
    · rintro ⟨c', h1, h2⟩
      rw [← sh_inj (cn_ok ok h1) h h2]; exact h1
    · exact fun h => ⟨c, h, rfl⟩
  by_cases hm : c ∈ cnOf g
  · exact ⟨true, hasCorn_yes ok hm, by rw [key]; simp [hm]⟩
  · refine ⟨false, ?_, by rw [key]; simp [hm]⟩
    cases c with
    | v x =>
      show hasCornM (rotT g) (.tup [.str x]) = _
      rw [hasCorn_v h, iso_none fun q => hm (cn_v.mpr q)]
      rfl
    | d d =>
      have h : DtOk d := h
      exact hasCorn_d false (hasDart_no (.inr ⟨isDart_ok h.1 h.2, d, rfl, fun q => hm (cn_d.mpr q)⟩))
theorem nosh_k {v : D} (h : ((shC v).take 2 == [40, 39]) = false) : NoSh v := nosh_h fun ⟨l, e⟩ => by
  rw [e] at h
  exact absurd h (by simp)
theorem nosh_c {v : D} (h : (match (shC v)[2]? with | some c => Nat.ble 97 c | none => false) = false) : NoSh v := fun c hc e => by
  rw [← e, sh_cn hc] at h
  have h1 := hc.nm.lo
  have h2 := hc.nm.az
  cases q : (nmOf c).cps.toList with
  | nil =>
    have : (nmOf c).cps.size = 0 := by
      have := congrArg List.length q
      simpa using this
    omega
  | cons a l =>
    rw [q] at h
    have h3 : Nat.ble 97 a = true := Nat.ble_eq.mpr (h2 a (by rw [q]; simp)).1
    simp [h3] at h
theorem turn_v {g : Gr} (h : Sm g) {m : List Cn} (hm : ∀ c, c ∈ m ↔ c ∈ cnOf g) (hl : m.length ≤ 10000) {v : D} (q : Val g v) : L1_law (gD g) (.lst (m.map cD)) v () = .nx () := by
  have hz : sizeLine = 16777216 := sizeLine_eq
  obtain ⟨b, h1, h2⟩ := q.an
  obtain ⟨t, e1, e2⟩ := rpr_same (d := .bl b) rfl (show pD (.bl b) ≤ 60 by rw [p_bl]; omega) (show wD (.bl b) ≤ 27000 by rw [w_bl]; omega)
  have c1 := cmpA_map (f := fun acc109 d110 (s111 : Unit) =>
    bindO (rprF [d110]) fun z113 =>
    bindO (addL acc109 z113) fun acc112 =>
    .rt acc112 ()) cD (fun c => .str (toPy (cD c)).shown) m (fun c hc acc => by rw [(cn_sh (cn_ok h.ok ((hm c).mp hc))).1, bindO_s]) [] (by simp; omega)
  have f1 : fitD (63 + 1) (.str (toPy v).shown) = true := by rw [fit_str]; exact q.sh.2
  have f2 : fitD (63 + 1) (.lst (m.map fun c => .str (toPy (cD c)).shown)) = true := by
    rw [fit_lst_, List.all_eq_true]
    intro d hd
    obtain ⟨c, hc, rfl⟩ := List.mem_map.mp hd
    rw [fit_str]
    exact (cn_sh (cn_ok h.ok ((hm c).mp hc))).2
  have hin : inD2 (.str (toPy v).shown) (.lst (m.map fun c => .str (toPy (cD c)).shown)) = some b := by
    show inD (.str (toPy v).shown) (.lst (m.map fun c => .str (toPy (cD c)).shown)) = _
    rw [in_lst, f1, f2]
    show some (List.any _ _) = _
    congr 1
    rw [Bool.eq_iff_iff, h2, List.any_eq_true]
    constructor
    · rintro ⟨z, hz, e⟩
      obtain ⟨c, hc, rfl⟩ := List.mem_map.mp hz
      simp at e
      exact ⟨c, (hm c).mp hc, by unfold shC; rw [e]⟩
    · rintro ⟨c, hc, e⟩
      refine ⟨_, List.mem_map.mpr ⟨c, (hm c).mpr hc, rfl⟩, ?_⟩
      rw [str_ext e]
      simp
  unfold L1_law
  rw [is_corner_ok h h1, val_rt, e1, bindO_s, q.sh.1, bindO_s, itL_lst, bindL_s, c1, val_rt, List.nil_append, hin, bindB_s, e1, bindO_s, ne_same e2, bindB_s, if_neg (by decide)]
/-! ### the values -/
theorem two_sh {a b : D} (ha : rok a = true) (hb : rok b = true) (pa : pD a ≤ 0) (pb : pD b ≤ 0) (wa : wD a ≤ 100) (wb : wD b ≤ 100) : rprF [.tup [a, b]] = some (.str (toPy (.tup [a, b])).shown) ∧ PyData.strOk (toPy (.tup [a, b])).shown = true := by
  refine sh_of (rok_tup fun z hz => ?_) (Nat.le_trans (p_tup (n := 0) fun z hz => ?_) (by decide)) ?_
  · simp at hz; rcases hz with rfl | rfl <;> assumption
  · simp at hz; rcases hz with rfl | rfl <;> assumption
  · rw [w_tup, w_tup, w_tup0]; omega
theorem three_sh {a b c : D} (ha : rok a = true) (hb : rok b = true) (hc : rok c = true) (pa : pD a ≤ 0) (pb : pD b ≤ 0) (pc : pD c ≤ 0) (wa : wD a ≤ 100) (wb : wD b ≤ 100) (wc : wD c ≤ 100) : rprF [.tup [a, b, c]] = some (.str (toPy (.tup [a, b, c])).shown) ∧ PyData.strOk (toPy (.tup [a, b, c])).shown = true := by
  refine sh_of (rok_tup fun z hz => ?_) (Nat.le_trans (p_tup (n := 0) fun z hz => ?_) (by decide)) ?_
  · simp at hz; rcases hz with rfl | rfl | rfl <;> assumption
  · simp at hz; rcases hz with rfl | rfl | rfl <;> assumption
  · rw [w_tup, w_tup, w_tup, w_tup0]; omega
theorem val_str {g : Gr} (ok : GrOk g) {x : Str} (h : NmOk x) : Val g (.str x) := val_no ok rfl (nosh_s h) (sh_of h.rok (by rw [p_str]; omega) (by rw [w_str]; have := h.hi; omega))
theorem val_lst {g : Gr} (ok : GrOk g) {l : List D} (h : ∀ z ∈ l, rok z = true ∧ pD z ≤ 0) (hw : wD (.lst l) ≤ 1000) : Val g (.lst l) :=
  val_no ok rfl (nosh_l l) (sh_of (rok_lst fun z hz => (h z hz).1) (Nat.le_trans (p_lst (n := 0) fun z hz => (h z hz).2) (by decide)) hw)
theorem val_2 {g : Gr} (ok : GrOk g) {x : Str} (h : NmOk x) {e : D} (he : isIntM e (.int 0) (.int 1) = .rt (.bl false) ()) (hr : rok e = true) (hp : pD e ≤ 0) (hw : wD e ≤ 100)
    (hs : 44 :: 32 :: (shC e ++ [41]) ≠ [44, 41] ∧ 44 :: 32 :: (shC e ++ [41]) ≠ [44, 32, 48, 41] ∧ 44 :: 32 :: (shC e ++ [41]) ≠ [44, 32, 49, 41]) : Val g (.tup [.str x, e]) :=
  val_no ok (hasCorn_2 (dart2 h he)) (nosh_2 h hs) (two_sh h.rok hr (by rw [p_str]; omega) hp (by rw [w_str]; have := h.hi; omega) hw)
theorem val_3 {g : Gr} (ok : GrOk g) {x : Str} (h : NmOk x) {s : Int} (hs : s = 0 ∨ s = 1) : Val g (.tup [.str x, .int s, .int s]) := by
  refine val_no ok (by kernel_rfl) (nosh_3 h ?_) (three_sh h.rok (rok_side hs) (rok_side hs) (by rw [p_str]; omega) (by rw [p_int]; omega) (by rw [p_int]; omega) (by rw [w_str]; have := h.hi; omega) (by have := w_side hs; omega) (by have := w_side hs; omega))
  rcases hs with rfl | rfl <;> decide +kernel
theorem val_dd {g : Gr} (ok : GrOk g) {d : Dart} (h : DtOk d) : Val g (.tup [dD d]) := by
  refine val_no ok (by kernel_rfl) (nosh_1 _ _) (sh_of (rok_tup fun z hz => ?_) (Nat.le_trans (p_tup (n := 1) fun z hz => ?_) (by decide)) ?_)
  · simp at hz; subst hz; exact h.rok
  · simp at hz; subst hz; exact DtOk.p d
  · rw [w_tup, w_tup0]; have := h.w; omega
theorem val_big {g : Gr} (ok : GrOk g) {x : Str} (h : NmOk x) {s : Int} (hs : s = 0 ∨ s = 1) : Val g (.tup [.str x, .int (s + 2)]) := by
  rcases hs with rfl | rfl
  · exact val_2 (e := .int 2) ok h rfl (by decide +kernel) (by decide +kernel) (by decide +kernel) (by decide +kernel)
  · exact val_2 (e := .int 3) ok h rfl (by decide +kernel) (by decide +kernel) (by decide +kernel) (by decide +kernel)
theorem val_b {g : Gr} (ok : GrOk g) {x : Str} (h : NmOk x) (b : Bool) : Val g (.tup [.str x, .bl b]) := by
  cases b
  · exact val_2 ok h rfl (by decide +kernel) (by decide +kernel) (by decide +kernel) (by decide +kernel)
  · exact val_2 ok h rfl (by decide +kernel) (by decide +kernel) (by decide +kernel) (by decide +kernel)
theorem inv_1 {g : Gr} (ok : GrOk g) : ∀ (r : List Dart) (k : Nat) (l : List D), (∀ d ∈ r, DtOk d) → (∀ v ∈ l, Val g v) → l.length + 5 * r.length ≤ 90000 → ∃ l', loopF (fun _ => L1__law_invalid) k (r.map dD) (.lst l) = .nx (.lst l') ∧ l'.length ≤ l.length + 5 * r.length ∧ ∀ v ∈ l', Val g v
  | [], k, l, _, hb, _ => ⟨l, rfl, by simp, hb⟩
  | d :: r, k, l, hr, hb, hl => by
    rw [List.length_cons] at hl
    have hd := hr d (by simp)
    have e1 : L1__law_invalid (dD d) (.lst l) = .nx (.lst (l ++ [.str d.1, .lst [.str d.1, .int d.2], .tup [.str d.1, .int (d.2 + 2)], .tup [.str d.1, .int d.2, .int d.2], .tup [dD d]])) := by
      have eu : unpk 2 (dD d) = some [.str d.1, .int d.2] := rfl
      unfold L1__law_invalid
      rw [eu, bindL_s]
      simp only [List.tail_cons, List.headD_cons]
      rw [addD_i, asL_f, bindO_s, addLst (by simp; omega), asL_f, bindO_s]
      rfl
    obtain ⟨l2, e2, h2, b2⟩ := inv_1 ok r (k + 1) (l ++ [.str d.1, .lst [.str d.1, .int d.2], .tup [.str d.1, .int (d.2 + 2)], .tup [.str d.1, .int d.2, .int d.2], .tup [dD d]]) (fun p hp => hr p (by simp [hp])) (fun v hv => by
      simp only [List.mem_append, List.mem_cons, List.mem_nil_iff, or_false] at hv
      rcases hv with hv | rfl | rfl | rfl | rfl | rfl
      · exact hb v hv
      · exact val_str ok hd.1
      · refine val_lst ok (fun z hz => ?_) ?_
        · simp at hz
          rcases hz with rfl | rfl
          · exact ⟨hd.1.rok, by rw [p_str]; omega⟩
          · exact ⟨rok_side hd.2, by rw [p_int]; omega⟩
        · rw [w_lst, w_lst, w_lst0, w_str]; have := w_side hd.2; have := hd.1.hi; omega
      · exact val_big ok hd.1 hd.2
      · exact val_3 ok hd.1 hd.2
      · exact val_dd ok hd) (by simp; omega)
    refine ⟨l2, by rw [List.map_cons, loopF_cons, e1, lp_nx, e2], ?_, b2⟩
    rw [List.length_cons]
    simp only [List.length_append, List.length_cons, List.length_nil] at h2
    omega
theorem inv_2 {g : Gr} (ok : GrOk g) {x : Str} {r : List Dart} (hx : NmOk x) (hr : ∀ d ∈ r, DtOk d) {l : List D} (hl : l.length + 20 ≤ 80000) (hb : ∀ v ∈ l, Val g v) : ∃ l', L2__law_invalid (vD (x, r)) (.lst l) = .nx (.lst l') ∧ l'.length ≤ l.length + 20 ∧ ∀ v ∈ l', Val g v := by
  have e1 : unpk 2 (vD (x, r)) = some [.str x, rowD r] := rfl
  obtain ⟨z, e2, e3⟩ := mul_b (.tup [.str x]) (!r.isEmpty)
  have en : negD (.int 1) = some (.int (-1)) := rfl
  have h2 : (r.take 2).length ≤ 2 := by simp; omega
  obtain ⟨l2, q1, q2, q3⟩ := inv_1 ok (r.take 2) 0 (l ++ [.str x, .lst [.str x], .tup [.str x, .int (-1)], .tup [.str x, .non], .tup [.str x, .bl true], .tup [.str x, .int 0, .int 0]] ++ (if (!r.isEmpty) = true then [.tup [.str x]] else [])) (fun d hd => hr d (List.mem_of_mem_take hd)) (fun v hv => by
      simp only [List.mem_append, List.mem_cons, List.mem_nil_iff, or_false] at hv
      rcases hv with (hv | rfl | rfl | rfl | rfl | rfl | rfl) | hv
      · exact hb v hv
      · exact val_str ok hx
      · refine val_lst ok (fun z hz => ?_) ?_
        · simp at hz; subst hz; exact ⟨hx.rok, by rw [p_str]; omega⟩
        · rw [w_lst, w_lst0, w_str]; have := hx.hi; omega
      · exact val_2 ok hx rfl (by decide +kernel) (by decide +kernel) (by decide +kernel) (by decide +kernel)
      · exact val_2 ok hx rfl (by decide +kernel) (by decide +kernel) (by decide +kernel) (by decide +kernel)
      · exact val_b ok hx true
      · exact val_3 ok hx (.inl rfl)
      · split at hv
        · simp at hv; subst hv; exact val_cn ok (c := .v x) hx
        · cases hv) (by cases r.isEmpty <;> simp <;> omega)
  refine ⟨l2, ?_, ?_, q3⟩
  · unfold L2__law_invalid
    rw [e1, bindL_s]
    simp only [List.tail_cons, List.headD_cons]
    rw [en, bindO_s, addLst (by simp; omega), asL_f, bindO_s, ne_row fun d hd => (hr d hd).1, bindB_s, e2, bindO_s, e3, asL_f, bindO_s, addLst (by cases r.isEmpty <;> simp <;> omega), asL_f, bindO_s, asI_2, cut_2, asL_f, bindO_s]
    show Fx.bindL (some ((r.take 2).map dD)) _ = _
    rw [bindL_s, q1, fin_nx]
  · refine Nat.le_trans q2 ?_
    have : (if (!r.isEmpty) = true then [D.tup [.str x]] else []).length ≤ 1 := by cases r.isEmpty <;> simp
    simp only [List.length_append, List.length_cons, List.length_nil]
    omega
theorem inv_3 {g : Gr} (ok : GrOk g) : ∀ (g' : Gr) (k : Nat) (l : List D), (∀ p ∈ g', NmOk p.1) → (∀ p ∈ g', ∀ d ∈ p.2, DtOk d) → (∀ v ∈ l, Val g v) → l.length + 20 * g'.length ≤ 70000 → ∃ l', loopF (fun _ => L2__law_invalid) k (g'.map vD) (.lst l) = .nx (.lst l') ∧ l'.length ≤ l.length + 20 * g'.length ∧ ∀ v ∈ l', Val g v
  | [], k, l, _, _, hb, _ => ⟨l, rfl, by simp, hb⟩
  | (x, r) :: g', k, l, hx, hr, hb, hl => by
    rw [List.length_cons] at hl
    obtain ⟨l1, e1, h1, b1⟩ := inv_2 ok (x := x) (r := r) (hx (x, r) (by simp)) (hr (x, r) (by simp)) (l := l) (by omega) hb
    obtain ⟨l2, e2, h2, b2⟩ := inv_3 ok g' (k + 1) l1 (fun p hp => hx p (by simp [hp])) (fun p hp => hr p (by simp [hp])) b1 (by omega)
    exact ⟨l2, by rw [List.map_cons, loopF_cons, e1, lp_nx, e2], by rw [List.length_cons]; omega, b2⟩
def cl1 : List D := [.non, .int 5, .str "", .tup [], .tup [.str "A"], .tup [.str ""], .tup [.int 5], .tup [.non, .int 0], .tup [.lst [.str "a"]]]
theorem sh_cl : ∀ v ∈ cl1, rprF [v] = some (.str (toPy v).shown) ∧ PyData.strOk (toPy v).shown = true := by
  intro v hv
  have h : (cl1.all fun v => rok v && Nat.ble (pD v) 5 && Nat.ble (wD v) 1000) = true := by decide +kernel
  have h := List.all_eq_true.mp h v hv
  rw [Bool.and_eq_true, Bool.and_eq_true, Nat.ble_eq, Nat.ble_eq] at h
  exact sh_of h.1.1 h.1.2 h.2
theorem nosh_cl : ∀ v ∈ cl1, NoSh v := by
  intro v hv
  have h : (cl1.all fun v => !((shC v).take 2 == [40, 39]) || !(match (shC v)[2]? with | some c => Nat.ble 97 c | none => false)) = true := by decide +kernel
  have h := List.all_eq_true.mp h v hv
  rw [Bool.or_eq_true] at h
  rcases h with h | h
  · exact nosh_k (by simpa using h)
  · exact nosh_c (by simpa using h)
theorem no_cl {g : Gr} : ∀ v ∈ cl1, hasCornM (rotT g) v = .rt (.bl false) () := by
  intro v hv
  unfold cl1 at hv
  simp only [List.mem_cons, List.mem_nil_iff, or_false] at hv
  rcases hv with rfl | rfl | rfl | rfl | rfl | rfl | rfl | rfl | rfl <;> kernel_rfl
theorem val_dic {g : Gr} (ok : GrOk g) : Val g (.dic []) := val_no ok (by kernel_rfl) (nosh_k (by decide +kernel)) ⟨by kernel_rfl, by decide +kernel⟩
theorem nm_a : NmOk "a" := ⟨by decide, by decide, by decide⟩
theorem invalid_ok {g : Gr} (h : Sm g) (hv : g.length ≤ 1000) : ∃ l, m__law_invalid (gD g) = .rt (.lst l) () ∧ l.length ≤ 20 * g.length + 14 ∧ ∀ v ∈ l, Val g v := by
  have ok := h.ok
  obtain ⟨l, e, hl, hb⟩ := inv_3 ok g 0 ([.non, .int 5, .str "", .tup [], .lst [], .dic [], .tup [.str "zzzzzzzz"], .tup [.str "zzzzzzzz", .int 0], .tup [.str "A"], .tup [.str ""], .tup [.int 5], .tup [.non, .int 0]] ++ [.tup [.lst [.str "a"]], .tup [.str "a", .int 2]]) ok.vo (fun p hp => ok.rows hp) (fun v hv => by
    have hc : ∀ v ∈ cl1, Val g v := fun v hv => val_no ok (no_cl v hv) (nosh_cl v hv) (sh_cl v hv)
    unfold cl1 at hc
    simp only [List.mem_append, List.mem_cons, List.mem_nil_iff, or_false] at hv
    rcases hv with (rfl | rfl | rfl | rfl | rfl | rfl | rfl | rfl | rfl | rfl | rfl | rfl) | rfl | rfl
    · exact hc _ (by simp)
    · exact hc _ (by simp)
    · exact hc _ (by simp)
    · exact hc _ (by simp)
    · exact val_lst ok (fun z hz => by cases hz) (by rw [w_lst0]; omega)
    · exact val_dic ok
    · exact val_cn ok (c := .v "zzzzzzzz") nm_z
    · exact val_cn ok (c := .d ("zzzzzzzz", 0)) ⟨nm_z, .inl rfl⟩
    · exact hc _ (by simp)
    · exact hc _ (by simp)
    · exact hc _ (by simp)
    · exact hc _ (by simp)
    · exact hc _ (by simp)
    · exact val_big ok nm_a (s := 0) (.inl rfl)) (by simp only [List.length_append, List.length_cons, List.length_nil]; omega)
  refine ⟨l, ?_, by simp only [List.length_append, List.length_cons, List.length_nil] at hl; omega, hb⟩
  unfold m__law_invalid
  rw [addLst (by simp), asL_f, bindO_s]
  show Fx.bindL (some (g.map vD)) _ = _
  rw [bindL_s, e, fin_nx]
end K07

namespace K07
open PySem PySem.Spec PyProof.Rows L2 Fx
theorem ne_list {l : List D} (h : ∀ d ∈ l, fitD 63 d = true ∧ same d d = true) : neD (.lst l) (.lst l) = some false := by
  have h1 : fitD (63 + 1) (.lst l) = true := by
    rw [fit_lst_, List.all_eq_true]
    exact fun d hd => (h d hd).1
  have h2 : ∀ l : List D, (∀ d ∈ l, same d d = true) → sameL l l = true := by
    intro l
    induction l with
    | nil => intro _; exact sameL_nil
    | cons d l ih => intro h; rw [sameL_cons, h d (by simp), ih fun e he => h e (by simp [he])]; rfl
  rw [neD_, h1, same_lst, h2 l fun d hd => (h d hd).2]
  rfl
theorem ix_cn (c : Cn) : ixD2 (cD c) (.int 0) = some (.str (nmOf c)) := by cases c <;> rfl
def isD2 : Cn → Bool
  | .v _ => false
  | .d _ => true
def oddD : Cn → D
  | .v x => .non
  | .d d => .tup [.str d.1, .bl (d.2 == 1)]
theorem turn_ok (ns : List Int) (k : Nat) (a b : Int) (hs : m__law_source (.lst (ns.map .int)) (.int (k : Nat)) = .rt (src a b) ()) : L2_law (.lst (ns.map .int)) (.int (k : Nat)) () = .nx () := by
  have hz : sizeLine = 16777216 := sizeLine_eq
  obtain ⟨r, a1, b1, d1, l1⟩ := draw_nat a b 6 (by decide) (by decide)
  obtain ⟨n, a2, b2, d2, l2⟩ := draw_nat a1 b1 9 (by decide) (by decide)
  obtain ⟨a3, b3, g, e3, hg, g1, g2, g3, g4⟩ := graph_ok a2 b2 (1 + r) n (by omega) (by omega) (by omega)
  have d1 : m__law_draw (src a b) (.int 6) = .rt (.int (r : Nat)) (src a1 b1) := d1
  have d2 : m__law_draw (src a1 b1) (.int 9) = .rt (.int (n : Nat)) (src a2 b2) := d2
  have ev : (1 : Int) + (r : Nat) = ((1 + r : Nat) : Int) := by omega
  have e3 : m__law_graph (src a2 b2) (.int ((1 + r : Nat) : Int)) (.int (n : Nat)) = .rt (gD g) (src a3 b3) := e3
  have sm : Sm g := ⟨hg, by omega, by omega⟩
  obtain ⟨t, et, ht⟩ := gr_rpr hg (by omega)
  obtain ⟨m, pm, em⟩ := sorted_cn (cnOf g)
  have hm : ∀ c, c ∈ m ↔ c ∈ cnOf g := fun c => pm.mem_iff
  have hmo : ∀ c ∈ m, CnOk c := fun c hc => cn_ok hg ((hm c).mp hc)
  have hml : m.length ≤ 100 := by rw [pm.length_eq]; have := cn_len g; omega
  have q1 := corners_ok sm
  have q2 := law_corners_ok sm
  rw [em] at q1 q2
  have hfit : ∀ d ∈ m.map cD, fitD 63 d = true ∧ same d d = true := fun d hd => by
    obtain ⟨c, hc, rfl⟩ := List.mem_map.mp hd
    exact ⟨fit_cn (hmo c hc) 62, same_cn c⟩
  have hn1 : neD (.lst (m.map cD ++ [.non])) (.lst (m.map cD ++ [.non])) = some false := ne_list fun d hd => by
    rcases List.mem_append.mp hd with hd | hd
    · exact hfit d hd
    · simp at hd; subst hd; exact ⟨rfl, same_non⟩
  have hn2 : neD (.lst (m.map cD)) (.lst (m.map cD)) = some false := ne_list hfit
  have hap : appD (m.map cD) .non = some (m.map cD ++ [.non]) := by
    show (if (m.map cD).length < sizeLine then some (m.map cD ++ [D.non]) else none) = _
    rw [if_pos (by simp; omega)]
  have c1 := cmpA_flt (f := fun acc52 d53 (s54 : Unit) =>
    O.val (m_is_corner (gD g) d53) (fun r55 _ =>
    Fx.bindB (isnD r55 (.bl true)) fun b57 =>
    if b57 then
    bindO (addL acc52 d53) fun acc58 =>
    .rt acc58 ()
    else .rt acc52 ()) fun x56 _ =>
    .no) cD (fun _ => false) cD m (fun c hc acc => by
      show O.val (m_is_corner (gD g) (cD c)) _ _ = _
      rw [is_corner_ok sm (hasCorn_yes hg ((hm c).mp hc)), val_rt]
      rfl) [] (by simp; omega)
  have c2 := cmpA_map (f := fun acc63 d64 (s65 : Unit) =>
    bindO (ixD2 d64 (.int 0)) fun z67 =>
    bindO (addL acc63 z67) fun acc66 =>
    .rt acc66 ()) cD (fun c => .str (nmOf c)) m (fun c hc acc => by rw [ix_cn, bindO_s]) [] (by simp; omega)
  have c3 := cmpA_flt (f := fun acc71 d72 (s73 : Unit) =>
    bindO (lenF [d72]) fun z74 =>
    Fx.bindB (eqD z74 (.int 2)) fun b75 =>
    if b75 then
    bindO (ixD2 d72 (.int 0)) fun z77 =>
    bindO (ixD2 d72 (.int 1)) fun z78 =>
    Fx.bindB (eqD z78 (.int 1)) fun b79 =>
    bindO (addL acc71 (.tup [z77, .bl b79])) fun acc76 =>
    .rt acc76 ()
    else .rt acc71 ()) cD isD2 oddD m (fun c hc acc => by
      cases c with
      | v x => rfl
      | d d =>
        have e : eqD (.int d.2) (.int 1) = some (d.2 == 1) := by rw [eqD_]; simp
        have ex : ixD2 (cD (.d d)) (.int 1) = some (.int d.2) := rfl
        have el : lenF [cD (.d d)] = some (.int 2) := rfl
        have e2 : eqD (.int 2) (.int 2) = some true := rfl
        rw [el, bindO_s, e2, bindB_s, if_pos rfl, ix_cn, bindO_s, ex, bindO_s, e, bindB_s]
        rfl) [] (by simp; omega)
  have ef : m.filter (fun _ => false) = [] := by simp
  have hlo : (m.filter isD2).length ≤ m.length := List.length_filter_le _ _
  obtain ⟨l, e4, h4, b4⟩ := invalid_ok sm (by omega)
  have c4 := cmpA_map (f := fun acc86 d87 (s88 : Unit) =>
    bindO (addL acc86 (.tup [d87])) fun acc89 =>
    .rt acc89 ()) (fun c : Cn => .str (nmOf c)) (fun c => .tup [.str (nmOf c)]) m (fun c hc acc => rfl) [] (by simp; omega)
  have c5 := cmpA_map (f := fun acc94 d95 (s96 : Unit) =>
    bindO (addL acc94 (.tup [d95, .int 0])) fun acc97 =>
    .rt acc97 ()) (fun c : Cn => .str (nmOf c)) (fun c => .tup [.str (nmOf c), .int 0]) m (fun c hc acc => rfl) [] (by simp; omega)
  obtain ⟨s6, e6, _⟩ := loop_all (f := L1_law (gD g) (.lst (m.map cD))) (fun _ => True) (l ++ (m.filter isD2).map oddD ++ (m.map fun c => .tup [.str (nmOf c)]) ++ (m.map fun c => .tup [.str (nmOf c), .int 0])) (fun v hv s _ => ⟨(), turn_v sm hm (by omega) (by
    simp only [List.mem_append, List.mem_map] at hv
    rcases hv with ((hv | ⟨c, hc, rfl⟩) | ⟨c, hc, rfl⟩) | ⟨c, hc, rfl⟩
    · exact b4 v hv
    · obtain ⟨h1, h2⟩ := List.mem_filter.mp hc
      cases c with
      | v x => cases h2
      | d d => exact val_b hg (hmo _ h1).1 _
    · exact val_cn hg (c := .v (nmOf c)) (hmo c hc).nm
    · exact val_cn hg (c := .d (nmOf c, 0)) ⟨(hmo c hc).nm, .inl rfl⟩), trivial⟩) 0 () trivial
  unfold L2_law
  rw [hs, val_rt, d1, val_rt, addD_i, asL_f, bindO_s, ev, d2, val_rt, e3, val_rt, et, bindO_s, q2, val_rt, q1, val_rt]
  show Fx.bindL (some (m.map cD)) _ = _
  rw [bindL_s, hap, bindL_s, addLst (by simp; omega), asL_f, bindO_s, hn1, bindB_s, if_neg (by decide), val_rt, hn2, bindB_s, val_rt, asB_bl, bindB_s, if_neg (by decide), itL_lst, bindL_s, c1, val_rt, ef]
  show Fx.bindB (some false) _ = _
  rw [bindB_s, if_neg (by decide), bindL_s, c2, val_rt, bindL_s, c3, val_rt, e4, val_rt, List.nil_append, List.nil_append, addLst (by simp; omega), asL_f, bindO_s, itL_lst, bindL_s, c4, val_rt, List.nil_append, addLst (by simp; omega), asL_f, bindO_s, bindL_s, c5, val_rt, List.nil_append, addLst (by simp; omega), asL_f, bindO_s, itL_lst, bindL_s, e6, fin_nx, bindO_s, ne_same ht, bindB_s, if_neg (by decide)]
theorem source_eq : m__law_source = sourceM := rfl
theorem sm0 : Sm [] := ⟨⟨by simp, by simp, by simp [dartsOf], by simp [dartsOf], by simp [dartsOf]⟩, by simp [dartsOf], by simp⟩
theorem main_law : ∀ ns : List Int, ns.length ≤ 63 → (∀ z ∈ ns, Builtin.Int.intBits z ≤ 1048576) → mf_law (argL ns) = .rt (.bl true) () := fun ns hn _ => by
  have q0 := corners_ok sm0
  have ec : ((cnOf []).map cD).mergeSort leT = [] := by simp [cnOf]
  rw [ec] at q0
  have q0 : m_corners (.lst []) = .rt (.lst []) () := q0
  have q1 : m_is_corner (.lst []) (.tup [.str "a"]) = .rt (.bl false) () := is_corner_ok (g := []) sm0 (by rw [hasCorn_v nm_a]; rfl)
  show m_law (.lst (ns.map .int)) = _
  unfold m_law
  have e0 : neD (.lst []) (.lst []) = some false := ne_list (l := []) fun d hd => by cases hd
  have e9 : isnD (.bl false) (.bl false) = some false := rfl
  rw [q0, val_rt, e0, bindB_s, if_neg (by decide), q1, val_rt, e9, bindB_s, val_rt, asB_bl, bindB_s, if_neg (by decide)]
  simp only [lenF_l, List.length_map, bindO_s, min2F_i, max2F_i, rg1_i]
  generalize hm : (if (if (8 : Int) < ns.length then (8 : Int) else (ns.length : Int)) > 1 then (if (8 : Int) < ns.length then (8 : Int) else (ns.length : Int)) else 1) = m
  have m1 : 0 ≤ m ∧ m ≤ 8 := by
    subst hm
    split <;> split <;> omega
  rw [if_pos (small62_ (by omega) (by omega)), bindL_s]
  obtain ⟨s, h1, _⟩ := loop_all (f := L2_law (.lst (ns.map .int))) (fun _ => True) (rngL 0 m) (fun d hd s _ => by
    obtain ⟨k, hk, rfl⟩ := rng_mem hd
    obtain ⟨a, b, e⟩ := source_ok ns k (by omega)
    exact ⟨(), turn_ok ns k a b e, trivial⟩) 0 () trivial
  rw [h1, fin_nx]
  rfl
end K07

namespace K07
open PySem PySem.Spec PyProof.Rows L2 Fx
theorem top_mk {P : Program} {w : World} {K : PySem.W.Frag} {h : Heap} {mg : Str → Option Value} {fa : Addr} (X : K.In h) (G : h.Ns mainGlobals mg) (hfa : mg "law" = some (.ref fa))
    {C_Rotations : Addr} (oa_Rotations : PySem.W.nsIn K mainGlobals "Rotations" = some (some (.ref C_Rotations)))
    (og_Rotations : PySem.W.plainGet K C_Rotations Str.empty = true)
    (oh_Rotations : PySem.W.hasDictIn K C_Rotations = true)
    (oo_Rotations : PySem.W.plainOver K C_Rotations = true)
    (os_Rotations : PySem.W.findIn K (.ref C_Rotations) "__setattr__" = some (some (.builtin "object.__setattr__")))
    (of_Rotations_isolated : PySem.W.findIn K (.ref C_Rotations) "isolated" = some none)
    (of_Rotations_next_by : PySem.W.findIn K (.ref C_Rotations) "next_by" = some none)
    (of_Rotations_vertex_by : PySem.W.findIn K (.ref C_Rotations) "vertex_by" = some none)
    (of_Rotations_previous_by : PySem.W.findIn K (.ref C_Rotations) "previous_by" = some none)
    (ok_Rotations : PySem.W.makesIn K C_Rotations = true)
    (oz_Rotations : PySem.W.keepIn K (.ref C_Rotations) = true)
    {f0 : Addr} {od0 an0 : Option Addr} {sl0 : Array (Option Value)} {oc0 kV0 dc0 pm0 cd0 ct0 : Value}
    (om0 : PySem.W.findIn K (.ref C_Rotations) "corners" = some (some (.ref f0)))
    (on0 : PySem.W.isFn K (.ref f0) = true)
    (l0 : K.lookup f0 = some ⟨oc0, od0, .func (PySem.W.fnOf "corners" "Rotations.corners" (defArgs s_Rotations_corners) (defBody s_Rotations_corners) (defScope s_Rotations_corners) .none kV0 dc0 pm0 an0 cd0 ct0), sl0⟩)
    (c0 : PySem.W.codeIn K cd0 "Rotations.corners" = true)
    (k0 : PySem.W.keepIn K (.ref f0) = true)
    {f1 : Addr} {od1 an1 : Option Addr} {sl1 : Array (Option Value)} {oc1 kV1 dc1 pm1 cd1 ct1 : Value}
    (om1 : PySem.W.findIn K (.ref C_Rotations) "__init__" = some (some (.ref f1)))
    (on1 : PySem.W.isFn K (.ref f1) = true)
    (l1 : K.lookup f1 = some ⟨oc1, od1, .func (PySem.W.fnOf "__init__" "Rotations.__init__" (defArgs s_Rotations___init__) (defBody s_Rotations___init__) (defScope s_Rotations___init__) .none kV1 dc1 pm1 an1 cd1 ct1), sl1⟩)
    (c1 : PySem.W.codeIn K cd1 "Rotations.__init__" = true)
    (k1 : PySem.W.keepIn K (.ref f1) = true)
    {f2 : Addr} {od2 an2 : Option Addr} {sl2 : Array (Option Value)} {oc2 kV2 dc2 pm2 cd2 ct2 : Value}
    (a2 : PySem.W.nsIn K mainGlobals "corners" = some (some (.ref f2)))
    (l2 : K.lookup f2 = some ⟨oc2, od2, .func (PySem.W.fnOf "corners" "corners" (defArgs s_corners) (defBody s_corners) (defScope s_corners) .none kV2 dc2 pm2 an2 cd2 ct2), sl2⟩)
    (c2 : PySem.W.codeIn K cd2 "corners" = true)
    (k2 : PySem.W.keepIn K (.ref f2) = true)
    {f3 : Addr} {od3 an3 : Option Addr} {sl3 : Array (Option Value)} {oc3 kV3 dc3 pm3 cd3 ct3 : Value}
    (a3 : PySem.W.nsIn K mainGlobals "is_name" = some (some (.ref f3)))
    (l3 : K.lookup f3 = some ⟨oc3, od3, .func (PySem.W.fnOf "is_name" "is_name" (defArgs s_is_name) (defBody s_is_name) (defScope s_is_name) .none kV3 dc3 pm3 an3 cd3 ct3), sl3⟩)
    (c3 : PySem.W.codeIn K cd3 "is_name" = true)
    (k3 : PySem.W.keepIn K (.ref f3) = true)
    {f4 : Addr} {od4 an4 : Option Addr} {sl4 : Array (Option Value)} {oc4 kV4 dc4 pm4 cd4 ct4 : Value}
    (a4 : PySem.W.nsIn K mainGlobals "is_integer" = some (some (.ref f4)))
    (l4 : K.lookup f4 = some ⟨oc4, od4, .func (PySem.W.fnOf "is_integer" "is_integer" (defArgs s_is_integer) (defBody s_is_integer) (defScope s_is_integer) .none kV4 dc4 pm4 an4 cd4 ct4), sl4⟩)
    (c4 : PySem.W.codeIn K cd4 "is_integer" = true)
    (k4 : PySem.W.keepIn K (.ref f4) = true)
    {f5 : Addr} {od5 an5 : Option Addr} {sl5 : Array (Option Value)} {oc5 kV5 dc5 pm5 cd5 ct5 : Value}
    (a5 : PySem.W.nsIn K mainGlobals "is_dart" = some (some (.ref f5)))
    (l5 : K.lookup f5 = some ⟨oc5, od5, .func (PySem.W.fnOf "is_dart" "is_dart" (defArgs s_is_dart) (defBody s_is_dart) (defScope s_is_dart) .none kV5 dc5 pm5 an5 cd5 ct5), sl5⟩)
    (c5 : PySem.W.codeIn K cd5 "is_dart" = true)
    (k5 : PySem.W.keepIn K (.ref f5) = true)
    {f6 : Addr} {od6 an6 : Option Addr} {sl6 : Array (Option Value)} {oc6 kV6 dc6 pm6 cd6 ct6 : Value}
    (om6 : PySem.W.findIn K (.ref C_Rotations) "has_dart" = some (some (.ref f6)))
    (on6 : PySem.W.isFn K (.ref f6) = true)
    (l6 : K.lookup f6 = some ⟨oc6, od6, .func (PySem.W.fnOf "has_dart" "Rotations.has_dart" (defArgs s_Rotations_has_dart) (defBody s_Rotations_has_dart) (defScope s_Rotations_has_dart) .none kV6 dc6 pm6 an6 cd6 ct6), sl6⟩)
    (c6 : PySem.W.codeIn K cd6 "Rotations.has_dart" = true)
    (k6 : PySem.W.keepIn K (.ref f6) = true)
    {f7 : Addr} {od7 an7 : Option Addr} {sl7 : Array (Option Value)} {oc7 kV7 dc7 pm7 cd7 ct7 : Value}
    (om7 : PySem.W.findIn K (.ref C_Rotations) "has_corner" = some (some (.ref f7)))
    (on7 : PySem.W.isFn K (.ref f7) = true)
    (l7 : K.lookup f7 = some ⟨oc7, od7, .func (PySem.W.fnOf "has_corner" "Rotations.has_corner" (defArgs s_Rotations_has_corner) (defBody s_Rotations_has_corner) (defScope s_Rotations_has_corner) .none kV7 dc7 pm7 an7 cd7 ct7), sl7⟩)
    (c7 : PySem.W.codeIn K cd7 "Rotations.has_corner" = true)
    (k7 : PySem.W.keepIn K (.ref f7) = true)
    {f8 : Addr} {od8 an8 : Option Addr} {sl8 : Array (Option Value)} {oc8 kV8 dc8 pm8 cd8 ct8 : Value}
    (a8 : PySem.W.nsIn K mainGlobals "is_corner" = some (some (.ref f8)))
    (l8 : K.lookup f8 = some ⟨oc8, od8, .func (PySem.W.fnOf "is_corner" "is_corner" (defArgs s_is_corner) (defBody s_is_corner) (defScope s_is_corner) .none kV8 dc8 pm8 an8 cd8 ct8), sl8⟩)
    (c8 : PySem.W.codeIn K cd8 "is_corner" = true)
    (k8 : PySem.W.keepIn K (.ref f8) = true)
    {f9 : Addr} {od9 an9 : Option Addr} {sl9 : Array (Option Value)} {oc9 kV9 dc9 pm9 cd9 ct9 : Value}
    (a9 : PySem.W.nsIn K mainGlobals "_law_source" = some (some (.ref f9)))
    (l9 : K.lookup f9 = some ⟨oc9, od9, .func (PySem.W.fnOf "_law_source" "_law_source" (defArgs s__law_source) (defBody s__law_source) (defScope s__law_source) .none kV9 dc9 pm9 an9 cd9 ct9), sl9⟩)
    (c9 : PySem.W.codeIn K cd9 "_law_source" = true)
    (k9 : PySem.W.keepIn K (.ref f9) = true)
    {f10 : Addr} {od10 an10 : Option Addr} {sl10 : Array (Option Value)} {oc10 kV10 dc10 pm10 cd10 ct10 : Value}
    (a10 : PySem.W.nsIn K mainGlobals "_law_draw" = some (some (.ref f10)))
    (l10 : K.lookup f10 = some ⟨oc10, od10, .func (PySem.W.fnOf "_law_draw" "_law_draw" (defArgs s__law_draw) (defBody s__law_draw) (defScope s__law_draw) .none kV10 dc10 pm10 an10 cd10 ct10), sl10⟩)
    (c10 : PySem.W.codeIn K cd10 "_law_draw" = true)
    (k10 : PySem.W.keepIn K (.ref f10) = true)
    {f11 : Addr} {od11 an11 : Option Addr} {sl11 : Array (Option Value)} {oc11 kV11 dc11 pm11 cd11 ct11 : Value}
    (a11 : PySem.W.nsIn K mainGlobals "_law_names" = some (some (.ref f11)))
    (l11 : K.lookup f11 = some ⟨oc11, od11, .func (PySem.W.fnOf "_law_names" "_law_names" (defArgs s__law_names) (defBody s__law_names) (defScope s__law_names) .none kV11 dc11 pm11 an11 cd11 ct11), sl11⟩)
    (c11 : PySem.W.codeIn K cd11 "_law_names" = true)
    (k11 : PySem.W.keepIn K (.ref f11) = true)
    {f12 : Addr} {od12 an12 : Option Addr} {sl12 : Array (Option Value)} {oc12 kV12 dc12 pm12 cd12 ct12 : Value}
    (a12 : PySem.W.nsIn K mainGlobals "_law_graph" = some (some (.ref f12)))
    (l12 : K.lookup f12 = some ⟨oc12, od12, .func (PySem.W.fnOf "_law_graph" "_law_graph" (defArgs s__law_graph) (defBody s__law_graph) (defScope s__law_graph) .none kV12 dc12 pm12 an12 cd12 ct12), sl12⟩)
    (c12 : PySem.W.codeIn K cd12 "_law_graph" = true)
    (k12 : PySem.W.keepIn K (.ref f12) = true)
    {f13 : Addr} {od13 an13 : Option Addr} {sl13 : Array (Option Value)} {oc13 kV13 dc13 pm13 cd13 ct13 : Value}
    (a13 : PySem.W.nsIn K mainGlobals "_law_corners" = some (some (.ref f13)))
    (l13 : K.lookup f13 = some ⟨oc13, od13, .func (PySem.W.fnOf "_law_corners" "_law_corners" (defArgs s__law_corners) (defBody s__law_corners) (defScope s__law_corners) .none kV13 dc13 pm13 an13 cd13 ct13), sl13⟩)
    (c13 : PySem.W.codeIn K cd13 "_law_corners" = true)
    (k13 : PySem.W.keepIn K (.ref f13) = true)
    {f14 : Addr} {od14 an14 : Option Addr} {sl14 : Array (Option Value)} {oc14 kV14 dc14 pm14 cd14 ct14 : Value}
    (a14 : PySem.W.nsIn K mainGlobals "_law_invalid" = some (some (.ref f14)))
    (l14 : K.lookup f14 = some ⟨oc14, od14, .func (PySem.W.fnOf "_law_invalid" "_law_invalid" (defArgs s__law_invalid) (defBody s__law_invalid) (defScope s__law_invalid) .none kV14 dc14 pm14 an14 cd14 ct14), sl14⟩)
    (c14 : PySem.W.codeIn K cd14 "_law_invalid" = true)
    (k14 : PySem.W.keepIn K (.ref f14) = true)
    {f15 : Addr} {od15 an15 : Option Addr} {sl15 : Array (Option Value)} {oc15 kV15 dc15 pm15 cd15 ct15 : Value}
    (a15 : PySem.W.nsIn K mainGlobals "law" = some (some (.ref f15)))
    (l15 : K.lookup f15 = some ⟨oc15, od15, .func (PySem.W.fnOf "law" "law" (defArgs s_law) (defBody s_law) (defScope s_law) .none kV15 dc15 pm15 an15 cd15 ct15), sl15⟩)
    (c15 : PySem.W.codeIn K cd15 "law" = true)
    (k15 : PySem.W.keepIn K (.ref f15) = true)
    (z_sorted : PySem.W.nsIn K mainGlobals "sorted" = some none)
    (z_list : PySem.W.nsIn K mainGlobals "list" = some none)
    (z_zip : PySem.W.nsIn K mainGlobals "zip" = some none)
    (z_isinstance : PySem.W.nsIn K mainGlobals "isinstance" = some none)
    (z_str : PySem.W.nsIn K mainGlobals "str" = some none)
    (z_len : PySem.W.nsIn K mainGlobals "len" = some none)
    (z_all : PySem.W.nsIn K mainGlobals "all" = some none)
    (z_int : PySem.W.nsIn K mainGlobals "int" = some none)
    (z_bool : PySem.W.nsIn K mainGlobals "bool" = some none)
    (z_tuple : PySem.W.nsIn K mainGlobals "tuple" = some none)
    (z_sum : PySem.W.nsIn K mainGlobals "sum" = some none)
    (z_abs : PySem.W.nsIn K mainGlobals "abs" = some none)
    (z_range : PySem.W.nsIn K mainGlobals "range" = some none)
    (z_max : PySem.W.nsIn K mainGlobals "max" = some none)
    (z_min : PySem.W.nsIn K mainGlobals "min" = some none)
    (z_repr : PySem.W.nsIn K mainGlobals "repr" = some none)
    {t_MAX_LENGTH : _} (y_MAX_LENGTH : PySem.W.nsIn K mainGlobals "MAX_LENGTH" = some (some (.int 8 t_MAX_LENGTH)))
    {t_LETTERS : _} (y_LETTERS : PySem.W.nsIn K mainGlobals "LETTERS" = some (some (.str "abcdefghijklmnopqrstuvwxyz" t_LETTERS)))
    : ∃ fd : FuncData, (∀ (s : Shared) (u : Value), BindsTo s fd ⟨[u], []⟩ [("_law_script", u)]) ∧ ∀ base : Heap, K.In base → base.Ns mainGlobals mg → FnG P w K mg base 6 fa fd ["_law_script"] (spF K [.v] .v mf_law) := by
  have e := hfa.symm.trans (PySem.W.mg_of X G a15)
  cases e
  have F_Rotations_corners := fun_mk (st := s_Rotations_corners) l0 c0 k0
  have B_Rotations_corners : Binds K _ ["self"] [] := F_Rotations_corners.binds (ps := ["self"]) fun _ _ _ _ _ _ us hl => match us, hl with | [_], _ => rfl
  have F_Rotations___init__ := fun_mk (st := s_Rotations___init__) l1 c1 k1
  have B_Rotations___init__ : Binds K _ ["self", "graph"] [] := F_Rotations___init__.binds (ps := ["self", "graph"]) fun _ _ _ _ _ _ us hl => match us, hl with | [_, _], _ => rfl
  have F_corners := fun_mk (st := s_corners) l2 c2 k2
  have g_corners := PySem.W.mg_of X G a2
  have B_corners : Binds K _ ["graph"] [] := F_corners.binds (ps := ["graph"]) fun _ _ _ _ _ _ us hl => match us, hl with | [_], _ => rfl
  have F_is_name := fun_mk (st := s_is_name) l3 c3 k3
  have g_is_name := PySem.W.mg_of X G a3
  have B_is_name : Binds K _ ["value"] [] := F_is_name.binds (ps := ["value"]) fun _ _ _ _ _ _ us hl => match us, hl with | [_], _ => rfl
  have F_is_integer := fun_mk (st := s_is_integer) l4 c4 k4
  have g_is_integer := PySem.W.mg_of X G a4
  have B_is_integer : Binds K _ ["value", "low", "high"] [] := F_is_integer.binds (ps := ["value", "low", "high"]) fun _ _ _ _ _ _ us hl => match us, hl with | [_, _, _], _ => rfl
  have F_is_dart := fun_mk (st := s_is_dart) l5 c5 k5
  have g_is_dart := PySem.W.mg_of X G a5
  have B_is_dart : Binds K _ ["value"] [] := F_is_dart.binds (ps := ["value"]) fun _ _ _ _ _ _ us hl => match us, hl with | [_], _ => rfl
  have F_Rotations_has_dart := fun_mk (st := s_Rotations_has_dart) l6 c6 k6
  have B_Rotations_has_dart : Binds K _ ["self", "value"] [] := F_Rotations_has_dart.binds (ps := ["self", "value"]) fun _ _ _ _ _ _ us hl => match us, hl with | [_, _], _ => rfl
  have F_Rotations_has_corner := fun_mk (st := s_Rotations_has_corner) l7 c7 k7
  have B_Rotations_has_corner : Binds K _ ["self", "value"] [] := F_Rotations_has_corner.binds (ps := ["self", "value"]) fun _ _ _ _ _ _ us hl => match us, hl with | [_, _], _ => rfl
  have F_is_corner := fun_mk (st := s_is_corner) l8 c8 k8
  have g_is_corner := PySem.W.mg_of X G a8
  have B_is_corner : Binds K _ ["graph", "value"] [] := F_is_corner.binds (ps := ["graph", "value"]) fun _ _ _ _ _ _ us hl => match us, hl with | [_, _], _ => rfl
  have F__law_source := fun_mk (st := s__law_source) l9 c9 k9
  have g__law_source := PySem.W.mg_of X G a9
  have B__law_source : Binds K _ ["_law_script", "_law_k"] [] := F__law_source.binds (ps := ["_law_script", "_law_k"]) fun _ _ _ _ _ _ us hl => match us, hl with | [_, _], _ => rfl
  have F__law_draw := fun_mk (st := s__law_draw) l10 c10 k10
  have g__law_draw := PySem.W.mg_of X G a10
  have B__law_draw : Binds K _ ["_law_source_here", "_law_many"] [] := F__law_draw.binds (ps := ["_law_source_here", "_law_many"]) fun _ _ _ _ _ _ us hl => match us, hl with | [_, _], _ => rfl
  have F__law_names := fun_mk (st := s__law_names) l11 c11 k11
  have g__law_names := PySem.W.mg_of X G a11
  have B__law_names : Binds K _ ["_law_source_here", "_law_many"] [] := F__law_names.binds (ps := ["_law_source_here", "_law_many"]) fun _ _ _ _ _ _ us hl => match us, hl with | [_, _], _ => rfl
  have F__law_graph := fun_mk (st := s__law_graph) l12 c12 k12
  have g__law_graph := PySem.W.mg_of X G a12
  have B__law_graph : Binds K _ ["_law_source_here", "_law_vertices", "_law_many"] [] := F__law_graph.binds (ps := ["_law_source_here", "_law_vertices", "_law_many"]) fun _ _ _ _ _ _ us hl => match us, hl with | [_, _, _], _ => rfl
  have F__law_corners := fun_mk (st := s__law_corners) l13 c13 k13
  have g__law_corners := PySem.W.mg_of X G a13
  have B__law_corners : Binds K _ ["_law_graph_here"] [] := F__law_corners.binds (ps := ["_law_graph_here"]) fun _ _ _ _ _ _ us hl => match us, hl with | [_], _ => rfl
  have F__law_invalid := fun_mk (st := s__law_invalid) l14 c14 k14
  have g__law_invalid := PySem.W.mg_of X G a14
  have B__law_invalid : Binds K _ ["_law_graph_here"] [] := F__law_invalid.binds (ps := ["_law_graph_here"]) fun _ _ _ _ _ _ us hl => match us, hl with | [_], _ => rfl
  have F_law := fun_mk (st := s_law) l15 c15 k15
  have g_law := PySem.W.mg_of X G a15
  have g_Rotations := PySem.W.mg_of X G oa_Rotations
  have v_Rotations : clsV K "Rotations" = .ref C_Rotations := clsV_of oa_Rotations
  have cl_Rotations : Cls K C_Rotations := ⟨og_Rotations, oh_Rotations, oo_Rotations, os_Rotations⟩
  have FX_Rotations_isolated : FldX K "Rotations" "isolated" := ⟨_, v_Rotations, cl_Rotations, of_Rotations_isolated⟩
  have FX_Rotations_next_by : FldX K "Rotations" "next_by" := ⟨_, v_Rotations, cl_Rotations, of_Rotations_next_by⟩
  have FX_Rotations_vertex_by : FldX K "Rotations" "vertex_by" := ⟨_, v_Rotations, cl_Rotations, of_Rotations_vertex_by⟩
  have FX_Rotations_previous_by : FldX K "Rotations" "previous_by" := ⟨_, v_Rotations, cl_Rotations, of_Rotations_previous_by⟩
  have X_Rotations_corners : MetX K "Rotations" "corners" f0 := ⟨_, v_Rotations, cl_Rotations, ⟨om0, on0, k0⟩⟩
  have M_Rotations : MakX K "Rotations" C_Rotations f1 := ⟨v_Rotations, ⟨ok_Rotations, om1, on1, oz_Rotations⟩⟩
  have X_Rotations_has_dart : MetX K "Rotations" "has_dart" f6 := ⟨_, v_Rotations, cl_Rotations, ⟨om6, on6, k6⟩⟩
  have X_Rotations_has_corner : MetX K "Rotations" "has_corner" f7 := ⟨_, v_Rotations, cl_Rotations, ⟨om7, on7, k7⟩⟩
  have b_sorted := PySem.W.mg_none_of X G z_sorted
  have b_list := PySem.W.mg_none_of X G z_list
  have b_zip := PySem.W.mg_none_of X G z_zip
  have b_isinstance := PySem.W.mg_none_of X G z_isinstance
  have b_str := PySem.W.mg_none_of X G z_str
  have b_len := PySem.W.mg_none_of X G z_len
  have b_all := PySem.W.mg_none_of X G z_all
  have b_int := PySem.W.mg_none_of X G z_int
  have b_bool := PySem.W.mg_none_of X G z_bool
  have b_tuple := PySem.W.mg_none_of X G z_tuple
  have b_sum := PySem.W.mg_none_of X G z_sum
  have b_abs := PySem.W.mg_none_of X G z_abs
  have b_range := PySem.W.mg_none_of X G z_range
  have b_max := PySem.W.mg_none_of X G z_max
  have b_min := PySem.W.mg_none_of X G z_min
  have b_repr := PySem.W.mg_none_of X G z_repr
  have g_MAX_LENGTH := PySem.W.mg_of X G y_MAX_LENGTH
  have g_LETTERS := PySem.W.mg_of X G y_LETTERS
  refine ⟨PySem.W.fnOf "law" "law" (defArgs s_law) (defBody s_law) (defScope s_law) .none kV15 dc15 pm15 an15 cd15 ct15, fun s u => .of_eq rfl, fun base _ _ => ?_⟩
  have G_Rotations_cornersh := G_Rotations_corners (P := P) (w := w) (K := K) (mg := mg) (base := base) F_Rotations_corners FX_Rotations_isolated FX_Rotations_next_by b_sorted b_list
  have G_Rotations___init__h := G_Rotations___init__ (P := P) (w := w) (K := K) (mg := mg) (base := base) F_Rotations___init__ FX_Rotations_vertex_by FX_Rotations_next_by FX_Rotations_previous_by FX_Rotations_isolated b_zip
  have G_cornersh := G_corners (P := P) (w := w) (K := K) (mg := mg) (base := base) F_corners G_Rotations_cornersh X_Rotations_corners B_Rotations_corners G_Rotations___init__h g_Rotations M_Rotations B_Rotations___init__
  have G_is_nameh := G_is_name (P := P) (w := w) (K := K) (mg := mg) (base := base) F_is_name b_isinstance b_str b_len b_all g_MAX_LENGTH g_LETTERS
  have G_is_integerh := G_is_integer (P := P) (w := w) (K := K) (mg := mg) (base := base) F_is_integer b_isinstance b_int b_bool
  have G_is_darth := G_is_dart (P := P) (w := w) (K := K) (mg := mg) (base := base) F_is_dart G_is_nameh g_is_name k3 B_is_name G_is_integerh g_is_integer k4 B_is_integer b_isinstance b_tuple b_len
  have G_Rotations_has_darth := G_Rotations_has_dart (P := P) (w := w) (K := K) (mg := mg) (base := base) F_Rotations_has_dart G_is_darth g_is_dart k5 B_is_dart FX_Rotations_next_by
  have G_Rotations_has_cornerh := G_Rotations_has_corner (P := P) (w := w) (K := K) (mg := mg) (base := base) F_Rotations_has_corner G_is_nameh g_is_name k3 B_is_name G_Rotations_has_darth X_Rotations_has_dart B_Rotations_has_dart FX_Rotations_isolated b_isinstance b_tuple b_len
  have G_is_cornerh := G_is_corner (P := P) (w := w) (K := K) (mg := mg) (base := base) F_is_corner G_Rotations_has_cornerh X_Rotations_has_corner B_Rotations_has_corner G_Rotations___init__h g_Rotations M_Rotations B_Rotations___init__
  have G__law_sourceh := G__law_source (P := P) (w := w) (K := K) (mg := mg) (base := base) F__law_source b_sum b_len b_abs b_int
  have G__law_drawh := G__law_draw (P := P) (w := w) (K := K) (mg := mg) (base := base) F__law_draw
  have G__law_namesh := G__law_names (P := P) (w := w) (K := K) (mg := mg) (base := base) F__law_names G__law_drawh g__law_draw k10 B__law_draw b_range
  have G__law_graphh := G__law_graph (P := P) (w := w) (K := K) (mg := mg) (base := base) F__law_graph G__law_namesh g__law_names k11 B__law_names G__law_drawh g__law_draw k10 B__law_draw b_range b_len b_zip
  have G__law_cornersh := G__law_corners (P := P) (w := w) (K := K) (mg := mg) (base := base) F__law_corners b_int b_sorted
  have G__law_invalidh := G__law_invalid (P := P) (w := w) (K := K) (mg := mg) (base := base) F__law_invalid b_int
  exact G_law (P := P) (w := w) (K := K) (mg := mg) (base := base) F_law G_cornersh g_corners k2 B_corners G_is_cornerh g_is_corner k8 B_is_corner G__law_sourceh g__law_source k9 B__law_source G__law_graphh g__law_graph k12 B__law_graph G__law_drawh g__law_draw k10 B__law_draw G__law_cornersh g__law_corners k13 B__law_corners G__law_invalidh g__law_invalid k14 B__law_invalid b_range b_max b_min b_len b_repr
end K07
open PySem PySem.W PyProof.Rows
set_option maxHeartbeats 0 in
theorem PySem.Challenge.cw_handonwall_k07_corners_holds : PySem.Challenge.rw_handonwall_k07_corners.Holds := by
  w_on; o_law; k_head; (case hw => w_witness2)
  k_fill
  refine Fx.walkG (l := PySem.Challenge.rw_handonwall_k07_corners) (n := 63) (k := 6) (x := "_law_script") (mf := K07.mf_law) rfl (by decide) rfl ⟨rfl, by decide, by decide⟩ (fun w h Y => PySem.W.kIn_of Y) ?F K07.main_law
  case F =>
    intro w mg fa h KX G hmg
    refine' K07.top_mk KX G hmg ?oa_Rotations ?og_Rotations ?oh_Rotations ?oo_Rotations ?os_Rotations ?of_Rotations_isolated ?of_Rotations_next_by ?of_Rotations_vertex_by ?of_Rotations_previous_by ?ok_Rotations ?oz_Rotations ?om0 ?on0 ?l0 ?c0 ?k0 ?om1 ?on1 ?l1 ?c1 ?k1 ?a2 ?l2 ?c2 ?k2 ?a3 ?l3 ?c3 ?k3 ?a4 ?l4 ?c4 ?k4 ?a5 ?l5 ?c5 ?k5 ?om6 ?on6 ?l6 ?c6 ?k6 ?om7 ?on7 ?l7 ?c7 ?k7 ?a8 ?l8 ?c8 ?k8 ?a9 ?l9 ?c9 ?k9 ?a10 ?l10 ?c10 ?k10 ?a11 ?l11 ?c11 ?k11 ?a12 ?l12 ?c12 ?k12 ?a13 ?l13 ?c13 ?k13 ?a14 ?l14 ?c14 ?k14 ?a15 ?l15 ?c15 ?k15 ?z_sorted ?z_list ?z_zip ?z_isinstance ?z_str ?z_len ?z_all ?z_int ?z_bool ?z_tuple ?z_sum ?z_abs ?z_range ?z_max ?z_min ?z_repr ?y_MAX_LENGTH ?y_LETTERS
    (case oa_Rotations => k_is); (case og_Rotations => k_is); (case oh_Rotations => k_is); (case oo_Rotations => k_is); (case os_Rotations => k_is); (case of_Rotations_isolated => k_is)
    (case of_Rotations_next_by => k_is); (case of_Rotations_vertex_by => k_is); (case of_Rotations_previous_by => k_is); (case ok_Rotations => k_is); (case oz_Rotations => k_is); (case om0 => k_is)
    (case on0 => k_is); (case l0 => k_is); (case c0 => k_is); (case k0 => k_is); (case om1 => k_is); (case on1 => k_is)
    (case l1 => k_is); (case c1 => k_is); (case k1 => k_is); (case a2 => k_is); (case l2 => k_is); (case c2 => k_is)
    (case k2 => k_is); (case a3 => k_is); (case l3 => k_is); (case c3 => k_is); (case k3 => k_is); (case a4 => k_is)
    (case l4 => k_is); (case c4 => k_is); (case k4 => k_is); (case a5 => k_is); (case l5 => k_is); (case c5 => k_is)
    (case k5 => k_is); (case om6 => k_is); (case on6 => k_is); (case l6 => k_is); (case c6 => k_is); (case k6 => k_is)
    (case om7 => k_is); (case on7 => k_is); (case l7 => k_is); (case c7 => k_is); (case k7 => k_is); (case a8 => k_is)
    (case l8 => k_is); (case c8 => k_is); (case k8 => k_is); (case a9 => k_is); (case l9 => k_is); (case c9 => k_is)
    (case k9 => k_is); (case a10 => k_is); (case l10 => k_is); (case c10 => k_is); (case k10 => k_is); (case a11 => k_is)
    (case l11 => k_is); (case c11 => k_is); (case k11 => k_is); (case a12 => k_is); (case l12 => k_is); (case c12 => k_is)
    (case k12 => k_is); (case a13 => k_is); (case l13 => k_is); (case c13 => k_is); (case k13 => k_is); (case a14 => k_is)
    (case l14 => k_is); (case c14 => k_is); (case k14 => k_is); (case a15 => k_is); (case l15 => k_is); (case c15 => k_is)
    (case k15 => k_is); (case z_sorted => k_is); (case z_list => k_is); (case z_zip => k_is); (case z_isinstance => k_is); (case z_str => k_is)
    (case z_len => k_is); (case z_all => k_is); (case z_int => k_is); (case z_bool => k_is); (case z_tuple => k_is); (case z_sum => k_is)
    (case z_abs => k_is); (case z_range => k_is); (case z_max => k_is); (case z_min => k_is); (case z_repr => k_is); (case y_MAX_LENGTH => k_is)
    (case y_LETTERS => k_is)
    all_goals exact none
