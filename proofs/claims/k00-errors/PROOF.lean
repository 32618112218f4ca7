import PyProof.Rows.All
import Wide.All
import OpenK.AllK
import Wide.FinOn
import PyProof.EqAt
import PyProof.EqKinds
import PyProof.TupleCall
import HandS.ForMost
import HandS.Exc
import HandS.Lambda
import HandS.ExcInit
import HandS.Wide
import HandS.WideBits
import HandS.Deep
import HandS.Style
import HandS.IsInst
import HandS.Codes
import HandS.TupLen
import HandS.Sort
import HandS.SortRule
import HandS.SortInts
import HandS.Small
import HandS.Text
import HandS.Walk
import HandS.Iter
import HandS.Zip
import PyProof.EnumMake
import PyProof.Draws
import HandS.Zip0
import HandS.Comp
import HandS.Defaults
import HandS.Dict
import HandS.DictComp
import KE.SortKeyHeap
import PyProof.StrOps
import KE.KDictList
import KE.KDictSum
import HandS.Conv
import KE.KStateDown
import HandS.Head0
import HandS.Head1
import HandS.Head2
import HandS.HeadEnd
import HandS.HeadHook1
import HandS.HeadHook2
import HandS.HeadHook3
import HandS.HeadHook4
import HandS.HeadWalk
import KE.KExcSuper
import HandS.ExcIs
import KE.KExcIs
import HandS.ExcOwn
import HandS.ExcValue
import HandS.TryMany
import HandS.ExcField
import HandS.TupLe
import HandS.ReplaceLit
import HandS.OwnEq
import HandS.More
import PyProof.ReprRoads
import OpenK.KMore
import PyProof.ReprLen
import PySem.Challenge.RW_leastjoined_k00_errors
set_option Elab.async false
set_option linter.all false
set_option maxRecDepth 100000
set_option maxHeartbeats 2000000
namespace VL
open PySem PySem.Spec L2

/-! ### values without a heap -/
inductive PV where
  | non | bl (b : Bool) | int (i : Int) | str (x : Str)
  | tup (xs : List PV) | lst (xs : List PV) | scr (ns : List Int)
  | dK (ks : List Key) (vs : List PV) | dT (ks : List (List Key)) (vs : List PV)
  | ins (c : Nat) (vs : List PV)
  | exc (c : Nat) (vs : List PV)
  deriving Inhabited

/-- what is fixed: the written part, where the classes stand, their fields in order, the fields' names -/
structure Ct where
  K : PySem.W.Frag
  ad : Nat → Addr
  L : Nat → List Nat
  nm : Nat → Str
  T : List (Addr × Str) := []
  ea : Nat → Addr := fun _ => 0
  eL : Nat → List Nat := fun _ => []
def Ct.fl (C : Ct) (c : Nat) : List Str := (C.L c).map C.nm
/-- the errors: where their classes stand, their fields -/
def Ct.el (C : Ct) (c : Nat) : List Str := (C.eL c).map C.nm

/-- the fields of an error, the last one first -/
def flds (fs : List Str) (ws : List V) (done : List (Str × V)) : List (Str × V) := (fs.zip ws).reverse ++ done
/-- an error of the class C stands at a, its fields in its dict -/
def EvR (C : Addr) (fs : List Str) (vs : List V) (a : Addr) (F : Hp) : Prop := vs.length = fs.length ∧ ((fs = [] ∧ F a = some (exo a C none)) ∨ ∃ dx, F a = some (exo a C (some dx)) ∧ F dx = some (exd dx (flds fs vs [])))
mutual
def R (C : Ct) (F : Hp) : PV → V → Prop
  | .non, v => v = .non
  | .bl b, v => v = .bl b
  | .int i, v => v = .int i
  | .str x, v => v = .str x
  | .tup xs, v => ∃ a vs, v = .ref a ∧ F a = some (.tup vs) ∧ Rs C F xs vs
  | .lst xs, v => ∃ a vs, v = .ref a ∧ F a = some (.lst vs) ∧ Rs C F xs vs
  | .scr ns, v => ∃ a, v = .ref a ∧ SqL C.K F a (ns.map V.int)
  | .dK ks xs, v => ∃ (a : Addr) (kvs : List (Key × V)), v = .ref a ∧ Rd F a (.dK kvs) ∧ kvs.map Prod.fst = ks ∧ Rs C F xs (kvs.map Prod.snd)
  | .dT ks xs, v => ∃ (a : Addr) (kvs : List (List Key × V)), v = .ref a ∧ Rd F a (.dT kvs) ∧ kvs.map Prod.fst = ks ∧ Rs C F xs (kvs.map Prod.snd)
  | .ins c xs, v => ∃ (a dx : Addr) (fs : List (Str × V)), v = .ref a ∧ F a = some (.ins (C.ad c) dx fs) ∧ fs.map Prod.fst = (C.fl c).take xs.length ∧ Rs C F xs (fs.map Prod.snd)
  | .exc c xs, v => ∃ (a : Addr) (vs : List V), v = .ref a ∧ EvR (C.ea c) (C.el c) vs a F ∧ Rs C F xs vs
def Rs (C : Ct) (F : Hp) : List PV → List V → Prop
  | [], vs => vs = []
  | x :: xs, vs => ∃ v r, vs = v :: r ∧ R C F x v ∧ Rs C F xs r
end

def Ex (F F' : Hp) : Prop := ∀ b o, F b = some o → F' b = some o
/-- stays, or a table that grows -/
def Kpt (o : HO) (x : Option HO) : Prop := x = some o ∨ ∃ ps ps', o = .tbl ps ∧ x = some (.tbl ps')
theorem Kpt.some {o : HO} {x : Option HO} (h : Kpt o x) : ∃ o', x = some o' := by
  rcases h with h | ⟨_, _, _, h⟩
  · exact ⟨_, h⟩
  · exact ⟨_, h⟩
theorem Kpt.eq {o : HO} {x : Option HO} (h : Kpt o x) (n : ∀ ps, o ≠ .tbl ps) : x = Option.some o := by
  rcases h with h | ⟨ps, _, e, _⟩
  · exact h
  · exact (n ps e).elim
theorem Kpt.trans {o : HO} {x y : Option HO} (h : Kpt o x) (k : ∀ o', x = Option.some o' → Kpt o' y) : Kpt o y := by
  rcases h with h | ⟨ps, ps', e, h⟩
  · exact k o h
  · rcases k _ h with z | ⟨_, ps2, e2, z⟩
    · exact .inr ⟨ps, ps', e, z⟩
    · exact .inr ⟨ps, ps2, e, z⟩
theorem Kpt.ex {o : HO} {b : Addr} {H H' : Hp} (h : Kpt o (H b)) (e : Ex H H') : Kpt o (H' b) := h.trans fun o' q => .inl (e b o' q)
theorem Kpt.no {o : HO} {x : Option HO} (h : Kpt o x) (n : x = none) : False := by
  obtain ⟨o', q⟩ := h.some
  rw [n] at q; cases q
/-- F's things stand in H (a dict of F's may be walked there, a table may have grown) -/
def Le (F H : Hp) : Prop := ∀ b o, F b = some o → Kpt o (H b) ∨ ((∃ kvs, o = .dK kvs) ∨ ∃ kvs, o = .dT kvs) ∧ ∃ ob, H b = some (.frz ob o)
theorem Ex.refl (F : Hp) : Ex F F := fun _ _ h => h
theorem Ex.trans {F F1 F2 : Hp} (a : Ex F F1) (b : Ex F1 F2) : Ex F F2 := fun x o h => b x o (a x o h)
theorem Ex.le {F F' : Hp} (h : Ex F F') : Le F F' := fun b o q => .inl (.inl (h b o q))
theorem Ex.new {F : Hp} {p : Addr} {o : HO} (h : F p = none) : Ex F (upd F p o) := fun b u q => by
  rw [upd_ne (ne_of_none q h)]; exact q
theorem Le.of_ex {F F' H : Hp} (a : Ex F F') (b : Le F' H) : Le F H := fun x o h => b x o (a x o h)
theorem Le.ex {F H H' : Hp} (a : Le F H) (b : Ex H H') : Le F H' := fun x o h => by
  rcases a x o h with q | ⟨k, ob, q⟩
  · exact .inl (q.ex b)
  · exact .inr ⟨k, ob, b _ _ q⟩
section
variable {C : Ct} {F H : Hp}
theorem Le.rd {a : Addr} {u : HO} (l : Le F H) (h : Rd F a u) (nt : ∀ ps, u ≠ .tbl ps := by intro ps e; cases e) : Rd H a u := by
  rcases h with h | ⟨o, h⟩
  · rcases l a u h with q | ⟨_, ob, q⟩
    · rcases q with q | ⟨ps, ps', e, q⟩
      · exact .inl q
      · exact (nt ps e).elim
    · exact .inr ⟨ob, q⟩
  · rcases l a _ h with q | ⟨k, ob, q⟩
    · exact .inr ⟨o, q.eq fun ps e => by cases e⟩
    · rcases k with ⟨_, k⟩ | ⟨_, k⟩ <;> cases k
theorem Le.sqT {K : PySem.W.Frag} {a : Addr} {xs : List V} (l : Le F H) (h : SqT K F a xs) : SqT K H a xs := by
  rcases h with h | h
  · exact .inl (l.rd h)
  · exact .inr h
theorem Le.sqL {K : PySem.W.Frag} {a : Addr} {xs : List V} (l : Le F H) (h : SqL K F a xs) : SqL K H a xs := by
  rcases h with h | h
  · exact .inl (l.rd h)
  · exact .inr h
theorem Le.lst {a : Addr} {xs : List V} (l : Le F H) (h : F a = some (.lst xs)) : H a = some (.lst xs) := by
  rcases l a _ h with q | ⟨k, _⟩
  · exact q.eq fun ps e => by cases e
  · rcases k with ⟨_, k⟩ | ⟨_, k⟩ <;> cases k
theorem Le.tup {a : Addr} {xs : List V} (l : Le F H) (h : F a = some (.tup xs)) : H a = some (.tup xs) := by
  rcases l a _ h with q | ⟨k, _⟩
  · exact q.eq fun ps e => by cases e
  · rcases k with ⟨_, k⟩ | ⟨_, k⟩ <;> cases k
theorem Le.ins {a D dx : Addr} {fs : List (Str × V)} (l : Le F H) (h : F a = some (.ins D dx fs)) : H a = some (.ins D dx fs) := by
  rcases l a _ h with q | ⟨k, _⟩
  · exact q.eq fun ps e => by cases e
  · rcases k with ⟨_, k⟩ | ⟨_, k⟩ <;> cases k
theorem Le.ext {a : Addr} {φ : Heap → Prop} (l : Le F H) (h : F a = some (.ext φ)) : H a = some (.ext φ) := by
  rcases l a _ h with q | ⟨k, _⟩
  · exact q.eq fun ps e => by cases e
  · rcases k with ⟨_, k⟩ | ⟨_, k⟩ <;> cases k
theorem Le.evr {D a : Addr} {fs : List Str} {vs : List V} (l : Le F H) (h : EvR D fs vs a F) : EvR D fs vs a H := by
  obtain ⟨h0, ⟨h1, h2⟩ | ⟨dx, h1, h2⟩⟩ := h
  · exact ⟨h0, .inl ⟨h1, l.ext h2⟩⟩
  · exact ⟨h0, .inr ⟨dx, l.ext h1, l.ext h2⟩⟩
mutual
theorem R.mono (l : Le F H) : ∀ {p : PV} {v : V}, R C F p v → R C H p v
  | .non, _, h => h
  | .bl _, _, h => h
  | .int _, _, h => h
  | .str _, _, h => h
  | .tup xs, v, h => by
    unfold R at h ⊢
    obtain ⟨a, vs, e, q, r⟩ := h
    exact ⟨a, vs, e, l.tup q, Rs.mono l r⟩
  | .lst xs, v, h => by
    unfold R at h ⊢
    obtain ⟨a, vs, e, q, r⟩ := h
    exact ⟨a, vs, e, l.lst q, Rs.mono l r⟩
  | .scr ns, v, h => by
    unfold R at h ⊢
    obtain ⟨a, e, q⟩ := h
    exact ⟨a, e, l.sqL q⟩
  | .dK ks xs, v, h => by
    unfold R at h ⊢
    obtain ⟨a, kvs, e, q, k, r⟩ := h
    exact ⟨a, kvs, e, l.rd q, k, Rs.mono l r⟩
  | .dT ks xs, v, h => by
    unfold R at h ⊢
    obtain ⟨a, kvs, e, q, k, r⟩ := h
    exact ⟨a, kvs, e, l.rd q, k, Rs.mono l r⟩
  | .ins c xs, v, h => by
    unfold R at h ⊢
    obtain ⟨a, dx, fs, e, q, k, r⟩ := h
    exact ⟨a, dx, fs, e, l.ins q, k, Rs.mono l r⟩
  | .exc c xs, v, h => by
    unfold R at h ⊢
    obtain ⟨a, vs, e, q, r⟩ := h
    exact ⟨a, vs, e, l.evr q, Rs.mono l r⟩
theorem Rs.mono (l : Le F H) : ∀ {p : List PV} {v : List V}, Rs C F p v → Rs C H p v
  | [], _, h => h
  | x :: xs, v, h => by
    unfold Rs at h ⊢
    obtain ⟨y, r, e, q, t⟩ := h
    exact ⟨y, r, e, R.mono l q, Rs.mono l t⟩
end
end
end VL

set_option maxRecDepth 100000
set_option maxHeartbeats 2000000
namespace VL
open PySem PySem.Spec L2
section
variable {C : Ct} {F H : Hp}
theorem Rs.nil : Rs C F [] [] := by unfold Rs; rfl
theorem Rs.cons {x : PV} {xs : List PV} {v : V} {vs : List V} (h : R C F x v) (t : Rs C F xs vs) : Rs C F (x :: xs) (v :: vs) := by
  unfold Rs; exact ⟨v, vs, rfl, h, t⟩
theorem Rs.nil_inv {vs : List V} (h : Rs C F [] vs) : vs = [] := by unfold Rs at h; exact h
theorem Rs.cons_inv {x : PV} {xs : List PV} {vs : List V} (h : Rs C F (x :: xs) vs) : ∃ v r, vs = v :: r ∧ R C F x v ∧ Rs C F xs r := by unfold Rs at h; exact h
theorem Rs.length : ∀ {xs : List PV} {vs : List V}, Rs C F xs vs → vs.length = xs.length
  | [], vs, h => by rw [h.nil_inv]; rfl
  | x :: xs, vs, h => by
    obtain ⟨v, r, rfl, _, t⟩ := h.cons_inv
    simp [Rs.length t]
theorem Rs.get : ∀ {xs : List PV} {vs : List V} {i : Nat} {x : PV}, Rs C F xs vs → xs[i]? = some x → ∃ v, vs[i]? = some v ∧ R C F x v
  | [], _, i, x, _, e => by simp at e
  | y :: xs, vs, 0, x, h, e => by
    obtain ⟨v, r, rfl, q, t⟩ := h.cons_inv
    simp at e; subst e
    exact ⟨v, rfl, q⟩
  | y :: xs, vs, i + 1, x, h, e => by
    obtain ⟨v, r, rfl, q, t⟩ := h.cons_inv
    obtain ⟨w, h1, h2⟩ := Rs.get (i := i) (x := x) t (by simpa using e)
    exact ⟨w, by simpa using h1, h2⟩
theorem Rs.getV : ∀ {xs : List PV} {vs : List V} {i : Nat} {v : V}, Rs C F xs vs → vs[i]? = some v → ∃ x, xs[i]? = some x ∧ R C F x v := fun {xs vs i v} h e => by
  obtain ⟨hi, _⟩ := List.getElem?_eq_some_iff.mp e
  have hi' : i < xs.length := by rw [← h.length]; exact hi
  obtain ⟨w, h1, h2⟩ := h.get (i := i) (x := xs[i]) (by simp [hi'])
  rw [e] at h1; cases h1
  exact ⟨xs[i], by simp [hi'], h2⟩
theorem Rs.append : ∀ {xs ys : List PV} {vs ws : List V}, Rs C F xs vs → Rs C F ys ws → Rs C F (xs ++ ys) (vs ++ ws)
  | [], ys, vs, ws, h, t => by rw [h.nil_inv]; exact t
  | x :: xs, ys, vs, ws, h, t => by
    obtain ⟨v, r, rfl, q, u⟩ := h.cons_inv
    exact Rs.cons q (Rs.append u t)
theorem Rs.take : ∀ {xs : List PV} {vs : List V} (n : Nat), Rs C F xs vs → Rs C F (xs.take n) (vs.take n)
  | _, _, 0, _ => by simp; exact Rs.nil
  | [], vs, n + 1, h => by rw [h.nil_inv]; simp; exact Rs.nil
  | x :: xs, vs, n + 1, h => by
    obtain ⟨v, r, rfl, q, u⟩ := h.cons_inv
    simp only [List.take_succ_cons]
    exact Rs.cons q (Rs.take n u)
theorem Rs.drop : ∀ {xs : List PV} {vs : List V} (n : Nat), Rs C F xs vs → Rs C F (xs.drop n) (vs.drop n)
  | _, _, 0, h => by simpa using h
  | [], vs, n + 1, h => by rw [h.nil_inv]; simp; exact Rs.nil
  | x :: xs, vs, n + 1, h => by
    obtain ⟨v, r, rfl, q, u⟩ := h.cons_inv
    simp only [List.drop_succ_cons]
    exact Rs.drop n u
theorem Rs.set : ∀ {xs : List PV} {vs : List V} (i : Nat) {x : PV} {v : V}, Rs C F xs vs → R C F x v → Rs C F (xs.set i x) (vs.set i v)
  | [], vs, _, _, _, h, _ => by rw [h.nil_inv]; simp; exact Rs.nil
  | y :: xs, vs, 0, x, v, h, q => by
    obtain ⟨w, r, rfl, q', u⟩ := h.cons_inv
    exact Rs.cons q u
  | y :: xs, vs, i + 1, x, v, h, q => by
    obtain ⟨w, r, rfl, q', u⟩ := h.cons_inv
    exact Rs.cons q' (Rs.set i u q)
theorem Rs.snoc {xs : List PV} {vs : List V} {x : PV} {v : V} (h : Rs C F xs vs) (q : R C F x v) : Rs C F (xs ++ [x]) (vs ++ [v]) := h.append (Rs.cons q Rs.nil)
theorem Rs.reverse : ∀ {xs : List PV} {vs : List V}, Rs C F xs vs → Rs C F xs.reverse vs.reverse
  | [], vs, h => by rw [h.nil_inv]; exact Rs.nil
  | x :: xs, vs, h => by
    obtain ⟨v, r, rfl, q, u⟩ := h.cons_inv
    simp only [List.reverse_cons]
    exact (Rs.reverse u).snoc q
theorem Rs.eraseIdx : ∀ {xs : List PV} {vs : List V} (i : Nat), Rs C F xs vs → Rs C F (xs.eraseIdx i) (vs.eraseIdx i)
  | [], vs, _, h => by rw [h.nil_inv]; simp; exact Rs.nil
  | x :: xs, vs, 0, h => by
    obtain ⟨v, r, rfl, q, u⟩ := h.cons_inv
    simpa using u
  | x :: xs, vs, i + 1, h => by
    obtain ⟨v, r, rfl, q, u⟩ := h.cons_inv
    simp only [List.eraseIdx_cons_succ]
    exact Rs.cons q (Rs.eraseIdx i u)
theorem Rs.ints_of : ∀ {ns : List Int} {vs : List V}, Rs C F (ns.map PV.int) vs → vs = ns.map V.int
  | [], vs, h => by rw [h.nil_inv]; rfl
  | n :: ns, vs, h => by
    obtain ⟨v, r, rfl, q, u⟩ := h.cons_inv
    unfold R at q
    subst q
    rw [Rs.ints_of u]; rfl
theorem Rs.of_ints : ∀ (ns : List Int), Rs C F (ns.map PV.int) (ns.map V.int)
  | [] => Rs.nil
  | n :: ns => Rs.cons (by unfold R; rfl) (Rs.of_ints ns)
theorem Rs.strs_of : ∀ {ns : List Str} {vs : List V}, Rs C F (ns.map PV.str) vs → vs = ns.map V.str
  | [], vs, h => by rw [h.nil_inv]; rfl
  | n :: ns, vs, h => by
    obtain ⟨v, r, rfl, q, u⟩ := h.cons_inv
    unfold R at q
    subst q
    rw [Rs.strs_of u]; rfl
theorem Rs.bls_of : ∀ {ns : List Bool} {vs : List V}, Rs C F (ns.map PV.bl) vs → vs = ns.map V.bl
  | [], vs, h => by rw [h.nil_inv]; rfl
  | n :: ns, vs, h => by
    obtain ⟨v, r, rfl, q, u⟩ := h.cons_inv
    unfold R at q
    subst q
    rw [Rs.bls_of u]; rfl
end

/-! ### slots, values that come of expressions -/
/-- a slot: nothing known; a value that stays; a container whose own cell only this slot holds (b: made here; else the caller's) -/
inductive Sl where
  | no | fz (p : PV) | ow (b : Bool) (p : PV)
  deriving Inhabited
abbrev Env' := List Sl
inductive Val where
  | fz (p : PV) | bor (i : Nat) | new (p : PV)
  deriving Inhabited
structure Exc' where
  c : Nat
  fs : List PV
  deriving Inhabited
inductive Res (α : Type) where
  | bad | ok (x : α) (e : Env') | err (x : Exc') (e : Env')
  deriving Inhabited
def Res.bind {α β : Type} (r : Res α) (f : α → Env' → Res β) : Res β := match r with
  | .bad => .bad
  | .ok x e => f x e
  | .err x e => .err x e

/-- a container's own cell in H, its parts in F -/
def R1 (C : Ct) (F H : Hp) : PV → Addr → Prop
  | .lst xs, a => ∃ vs, H a = some (.lst vs) ∧ Rs C F xs vs
  | .dK ks xs, a => ∃ kvs : List (Key × V), H a = some (.dK kvs) ∧ kvs.map Prod.fst = ks ∧ Rs C F xs (kvs.map Prod.snd)
  | .dT ks xs, a => ∃ kvs : List (List Key × V), H a = some (.dT kvs) ∧ kvs.map Prod.fst = ks ∧ Rs C F xs (kvs.map Prod.snd)
  | .ins c xs, a => ∃ (dx : Addr) (fs : List (Str × V)), H a = some (.ins (C.ad c) dx fs) ∧ fs.map Prod.fst = (C.fl c).take xs.length ∧ Rs C F xs (fs.map Prod.snd)
  | _, _ => False
theorem R1.mono {C : Ct} {F F' H H' : Hp} (l : Le F F') {p : PV} {a : Addr} (h : R1 C F H p a) (e : H' a = H a) : R1 C F' H' p a := by
  cases p <;> try exact h.elim
  all_goals simp only [R1] at h ⊢
  all_goals rw [e]
  · obtain ⟨vs, q, r⟩ := h; exact ⟨vs, q, r.mono l⟩
  · obtain ⟨vs, q, k, r⟩ := h; exact ⟨vs, q, k, r.mono l⟩
  · obtain ⟨vs, q, k, r⟩ := h; exact ⟨vs, q, k, r.mono l⟩
  · obtain ⟨dx, fs, q, k, r⟩ := h; exact ⟨dx, fs, q, k, r.mono l⟩
theorem R1.cell {C : Ct} {F H : Hp} {p : PV} {a : Addr} (h : R1 C F H p a) : ∃ o, H a = some o := by
  cases p <;> try exact h.elim
  all_goals simp only [R1] at h
  · obtain ⟨vs, q, r⟩ := h; exact ⟨_, q⟩
  · obtain ⟨vs, q, k, r⟩ := h; exact ⟨_, q⟩
  · obtain ⟨vs, q, k, r⟩ := h; exact ⟨_, q⟩
  · obtain ⟨dx, fs, q, k, r⟩ := h; exact ⟨_, q⟩
/-- frozen: F knows the cell now -/
theorem R1.frozen {C : Ct} {F H : Hp} {p : PV} {a : Addr} {o : HO} (h : R1 C F H p a) (ho : H a = some o) (hf : F a = none) : R C (upd F a o) p (.ref a) := by
  have l : Le F (upd F a o) := (Ex.new hf).le
  cases p <;> try exact h.elim
  all_goals simp only [R1] at h
  all_goals unfold R
  · obtain ⟨vs, q, r⟩ := h
    rw [ho] at q; cases q
    exact ⟨a, vs, rfl, upd_same, r.mono l⟩
  · obtain ⟨vs, q, k, r⟩ := h
    rw [ho] at q; cases q
    exact ⟨a, vs, rfl, .inl upd_same, k, r.mono l⟩
  · obtain ⟨vs, q, k, r⟩ := h
    rw [ho] at q; cases q
    exact ⟨a, vs, rfl, .inl upd_same, k, r.mono l⟩
  · obtain ⟨dx, fs, q, k, r⟩ := h
    rw [ho] at q; cases q
    exact ⟨a, dx, fs, rfl, upd_same, k, r.mono l⟩

/-- an own cell is no table, and nothing of one's own -/
def Pln (o : HO) : Prop := (∀ ps, o ≠ .tbl ps) ∧ ∀ φ, o ≠ .ext φ
theorem R1.pln {C : Ct} {F H : Hp} {p : PV} {a : Addr} {o : HO} (h : R1 C F H p a) (e : H a = some o) : Pln o := by
  cases p <;> try exact h.elim
  · obtain ⟨vs, q, _⟩ := h; rw [e] at q; cases q; exact ⟨fun _ z => (by cases z), fun _ z => (by cases z)⟩
  · obtain ⟨vs, q, _⟩ := h; rw [e] at q; cases q; exact ⟨fun _ z => (by cases z), fun _ z => (by cases z)⟩
  · obtain ⟨vs, q, _⟩ := h; rw [e] at q; cases q; exact ⟨fun _ z => (by cases z), fun _ z => (by cases z)⟩
  · obtain ⟨dx, fs, q, _⟩ := h; rw [e] at q; cases q; exact ⟨fun _ z => (by cases z), fun _ z => (by cases z)⟩
theorem tabs_upd {T : List (Addr × Str)} {H : Hp} {a : Addr} {o u : HO} (t : LamX.Tabs T H) (e : H a = some u) (n : Pln u) : LamX.Tabs T (upd H a o) := fun p hp => by
  obtain ⟨ps, h1, h2, h3⟩ := t p hp
  have n1 : p.1 ≠ a := fun z => by rw [z, e] at h1; cases h1; exact n.1 _ rfl
  refine ⟨ps, by rw [upd_ne n1]; exact h1, h2, fun pos cv hc => ?_⟩
  obtain ⟨c, e1, e2⟩ := h3 pos cv hc
  have n2 : c ≠ a := fun z => by rw [z, e] at e2; unfold LamX.CodeO at e2; cases e2; exact n.2 _ rfl
  exact ⟨c, e1, by rw [upd_ne n2]; exact e2⟩
/-- one activation: what stood at its entry, which cells it may write, what is wanted of an error -/
structure Gm where
  C : Ct
  F0 : Hp
  H0 : Hp
  P : Nat → Option Addr
  W : Exc' → Env' → St → Hp → Hp → Prop

/-- lent by the caller -/
def Gm.O (g : Gm) (a : Addr) : Prop := ∃ i, g.P i = some a
structure Stt (g : Gm) (F H : Hp) (σ : St) (env : Env') : Prop where
  len : σ.length = env.length
  frame : ∀ b o, g.H0 b = some o → ¬ g.O b → Kpt o (H b)
  live : ∀ b, g.O b → ∃ o, H b = some o
  ext : Ex g.F0 F
  fresh : ∀ b o, F b = some o → g.F0 b = some o ∨ g.H0 b = none
  sub : Le F H
  fz : ∀ (i : Nat) p, env[i]? = some (.fz p) → ∃ v, σ[i]? = some (some v) ∧ R g.C F p v
  ow : ∀ (i : Nat) b p, env[i]? = some (.ow b p) → ∃ a, σ[i]? = some (some (.ref a)) ∧ R1 g.C F H p a ∧ F a = none ∧ (if b = true then g.H0 a = none else g.P i = some a)
  inj : ∀ (i j : Nat) b c p q a, env[i]? = some (.ow b p) → env[j]? = some (.ow c q) → σ[i]? = some (some (.ref a)) → σ[j]? = some (some (.ref a)) → i = j
  tab : LamX.Tabs g.C.T H

def RV (g : Gm) (F H : Hp) (σ : St) (env : Env') : Val → V → Prop
  | .fz p, v => R g.C F p v
  | .bor i, v => σ[i]? = some (some v)
  | .new p, v => ∃ a, v = .ref a ∧ R1 g.C F H p a ∧ F a = none ∧ g.H0 a = none ∧ ∀ (i : Nat) b q, env[i]? = some (.ow b q) → σ[i]? ≠ some (some (.ref a))

section
variable {g : Gm} {F H : Hp} {σ : St} {env : Env'}
theorem Stt.new0 (S : Stt g F H σ env) {p : Addr} (hp : H p = none) : F p = none ∧ g.H0 p = none ∧ ¬ g.O p := by
  have ho : ¬ g.O p := fun z => by
    obtain ⟨o, e⟩ := S.live p z
    rw [hp] at e; cases e
  refine ⟨?_, ?_, ho⟩
  · cases q : F p with
    | none => rfl
    | some o =>
      rcases S.sub p o q with z | ⟨_, ob, z⟩
      · exact (z.no hp).elim
      · rw [hp] at z; cases z
  · cases q : g.H0 p with
    | none => rfl
    | some o =>
      exact ((S.frame p o q ho).no hp).elim
/-- the heap grows -/
theorem Stt.grow (S : Stt g F H σ env) {H' : Hp} (e : Ex H H') : Stt g F H' σ env where
  len := S.len
  frame := fun b o q n => (S.frame b o q n).ex e
  live := fun b hb => let ⟨o, q⟩ := S.live b hb; ⟨o, e b o q⟩
  ext := S.ext
  fresh := S.fresh
  sub := S.sub.ex e
  fz := S.fz
  ow := fun i b p q => by
    obtain ⟨a, h1, h2, h3⟩ := S.ow i b p q
    obtain ⟨o, ho⟩ := h2.cell
    exact ⟨a, h1, h2.mono (Ex.refl F).le ((e a o ho).trans ho.symm), h3⟩
  inj := S.inj
  tab := S.tab.ext e
/-- F knows more -/
theorem Stt.know (S : Stt g F H σ env) {a : Addr} {o : HO} (hf : F a = none) (ho : H a = some o) (h0 : g.H0 a = none) (ho' : ∀ (i : Nat) b q, env[i]? = some (.ow b q) → σ[i]? ≠ some (some (.ref a))) : Stt g (upd F a o) H σ env where
  len := S.len
  frame := S.frame
  live := S.live
  ext := S.ext.trans (Ex.new hf)
  fresh := fun b u q => by
    by_cases hb : b = a
    · subst hb; exact .inr h0
    · rw [upd_ne hb] at q; exact S.fresh b u q
  sub := fun b u q => by
    by_cases hb : b = a
    · subst hb; rw [upd_same] at q; cases q; exact .inl (.inl ho)
    · rw [upd_ne hb] at q; exact S.sub b u q
  fz := fun i p q => by
    obtain ⟨v, h1, h2⟩ := S.fz i p q
    exact ⟨v, h1, h2.mono (Ex.new hf).le⟩
  ow := fun i f p q => by
    obtain ⟨b, h1, h2, h3, h4⟩ := S.ow i f p q
    have hb : b ≠ a := fun z => ho' i f p q (by rw [h1, z])
    exact ⟨b, h1, h2.mono (Ex.new hf).le rfl, by rw [upd_ne hb]; exact h3, h4⟩
  inj := S.inj
  tab := S.tab
theorem getElem?_set_cases {α : Type} {l : List α} {i j : Nat} {x y : α} (h : (l.set i x)[j]? = some y) : (i = j ∧ x = y ∧ i < l.length) ∨ (i ≠ j ∧ l[j]? = some y) := by
  by_cases e : i = j
  · subst e
    by_cases hl : i < l.length
    · rw [List.getElem?_set_self hl] at h
      exact .inl ⟨rfl, Option.some.inj h, hl⟩
    · rw [List.getElem?_eq_none (by simpa using hl)] at h; cases h
  · rw [List.getElem?_set_ne e] at h
    exact .inr ⟨e, h⟩
/-- a slot's own container becomes one that stays -/
theorem Stt.freeze (S : Stt g F H σ env) {i : Nat} {p : PV} {a : Addr} {o : HO} (hi : env[i]? = some (.ow true p)) (ha : σ[i]? = some (some (.ref a))) (ho : H a = some o) :
    Stt g (upd F a o) H σ (env.set i (.fz p)) ∧ R g.C (upd F a o) p (.ref a) := by
  obtain ⟨b, h1, h2, h3, h4⟩ := S.ow i _ p hi
  rw [ha] at h1; cases h1
  have h0 : g.H0 a = none := by rw [if_pos rfl] at h4; exact h4
  have rr := h2.frozen ho h3
  have l : Le F (upd F a o) := (Ex.new h3).le
  refine ⟨⟨by simpa using S.len, S.frame, S.live, S.ext.trans (Ex.new h3), fun b u q => ?_, fun b u q => ?_, fun j q hq => ?_, fun j f q hq => ?_, fun j k f f' q r b hj hk e1 e2 => ?_, S.tab⟩, rr⟩
  · by_cases hb : b = a
    · subst hb; exact .inr h0
    · rw [upd_ne hb] at q; exact S.fresh b u q
  · by_cases hb : b = a
    · subst hb; rw [upd_same] at q; cases q; exact .inl (.inl ho)
    · rw [upd_ne hb] at q; exact S.sub b u q
  · rcases getElem?_set_cases hq with ⟨rfl, e, _⟩ | ⟨hne, e⟩
    · cases e; exact ⟨_, ha, rr⟩
    · obtain ⟨v, e1, e2⟩ := S.fz j q e
      exact ⟨v, e1, e2.mono l⟩
  · rcases getElem?_set_cases hq with ⟨rfl, e, _⟩ | ⟨hne, e⟩
    · cases e
    · obtain ⟨b, e1, e2, e3, e4⟩ := S.ow j f q e
      have hb : b ≠ a := fun z => hne (S.inj i j _ _ p q a hi e ha (by rw [e1, z]))
      exact ⟨b, e1, e2.mono l rfl, by rw [upd_ne hb]; exact e3, e4⟩
  · rcases getElem?_set_cases hj with ⟨_, e, _⟩ | ⟨_, hj'⟩
    · cases e
    · rcases getElem?_set_cases hk with ⟨_, e, _⟩ | ⟨_, hk'⟩
      · cases e
      · exact S.inj j k _ _ q r b hj' hk' e1 e2
/-- the container of slot i is written -/
theorem Stt.write (S : Stt g F H σ env) {i : Nat} {f : Bool} {p p' : PV} {a : Addr} {o : HO} (hi : env[i]? = some (.ow f p)) (ha : σ[i]? = some (some (.ref a))) (h' : R1 g.C F (upd H a o) p' a) : Stt g F (upd H a o) σ (env.set i (.ow f p')) := by
  obtain ⟨b, h1, h2, h3, h4⟩ := S.ow i f p hi
  rw [ha] at h1; cases h1
  refine ⟨by simpa using S.len, fun b u q n => ?_, fun b hb => ?_, S.ext, S.fresh, fun b u q => ?_, fun j q hq => ?_, fun j f' q hq => ?_, fun j k f' f'' q r b hj hk e1 e2 => ?_, (let ⟨_, hu⟩ := h2.cell; tabs_upd S.tab hu (h2.pln hu))⟩
  · have hb : b ≠ a := fun z => by
      subst z
      cases f with
      | true =>
        rw [if_pos rfl] at h4
        rw [q] at h4; cases h4
      | false =>
        rw [if_neg Bool.false_ne_true] at h4
        exact n ⟨i, h4⟩
    rw [upd_ne hb]; exact S.frame b u q n
  · by_cases e : b = a
    · subst e; exact ⟨o, upd_same⟩
    · obtain ⟨u, q⟩ := S.live b hb
      exact ⟨u, by rw [upd_ne e]; exact q⟩
  · have hb : b ≠ a := fun z => by rw [z, h3] at q; cases q
    rw [upd_ne hb]; exact S.sub b u q
  · rcases getElem?_set_cases hq with ⟨rfl, e, _⟩ | ⟨hne, e⟩
    · cases e
    · exact S.fz j q e
  · rcases getElem?_set_cases hq with ⟨rfl, e, _⟩ | ⟨hne, e⟩
    · cases e
      exact ⟨a, ha, h', h3, h4⟩
    · obtain ⟨b, e1, e2, e3, e4⟩ := S.ow j f' q e
      have hb : b ≠ a := fun z => hne (S.inj i j _ _ p q a hi e ha (by rw [e1, z]))
      exact ⟨b, e1, e2.mono (Ex.refl F).le (upd_ne hb), e3, e4⟩
  · rcases getElem?_set_cases hj with ⟨rfl, e, _⟩ | ⟨_, hj'⟩
    · rcases getElem?_set_cases hk with ⟨h, _, _⟩ | ⟨_, hk'⟩
      · exact h
      · exact S.inj _ k _ _ _ r b hi hk' e1 e2
    · rcases getElem?_set_cases hk with ⟨rfl, e, _⟩ | ⟨_, hk'⟩
      · exact S.inj j _ _ _ q _ b hj' hi e1 e2
      · exact S.inj j k _ _ q r b hj' hk' e1 e2
/-- a value that stays is stored in slot i -/
theorem Stt.setFz (S : Stt g F H σ env) {i : Nat} {p : PV} {v : V} (h : R g.C F p v) : Stt g F H (σ.set i (some v)) (env.set i (.fz p)) := by
  refine ⟨by simpa using S.len, S.frame, S.live, S.ext, S.fresh, S.sub, fun j q hq => ?_, fun j f q hq => ?_, fun j k f f' q r b hj hk e1 e2 => ?_, S.tab⟩
  · rcases getElem?_set_cases hq with ⟨rfl, e, hl⟩ | ⟨hne, e⟩
    · cases e
      exact ⟨v, by rw [List.getElem?_set_self (by rw [S.len]; exact hl)], h⟩
    · rw [List.getElem?_set_ne hne]; exact S.fz j q e
  · rcases getElem?_set_cases hq with ⟨rfl, e, _⟩ | ⟨hne, e⟩
    · cases e
    · rw [List.getElem?_set_ne hne]; exact S.ow j f q e
  · rcases getElem?_set_cases hj with ⟨_, e, _⟩ | ⟨n1, hj'⟩
    · cases e
    · rcases getElem?_set_cases hk with ⟨_, e, _⟩ | ⟨n2, hk'⟩
      · cases e
      · rw [List.getElem?_set_ne n1] at e1
        rw [List.getElem?_set_ne n2] at e2
        exact S.inj j k _ _ q r b hj' hk' e1 e2
/-- a new container is stored in slot i -/
theorem Stt.setOw (S : Stt g F H σ env) {i : Nat} {p : PV} {a : Addr} (h : R1 g.C F H p a) (hf : F a = none) (h0 : g.H0 a = none) (hn : ∀ (i : Nat) b q, env[i]? = some (.ow b q) → σ[i]? ≠ some (some (.ref a))) :
    Stt g F H (σ.set i (some (.ref a))) (env.set i (.ow true p)) := by
  refine ⟨by simpa using S.len, S.frame, S.live, S.ext, S.fresh, S.sub, fun j q hq => ?_, fun j f q hq => ?_, fun j k f f' q r b hj hk e1 e2 => ?_, S.tab⟩
  · rcases getElem?_set_cases hq with ⟨rfl, e, hl⟩ | ⟨hne, e⟩
    · cases e
    · rw [List.getElem?_set_ne hne]; exact S.fz j q e
  · rcases getElem?_set_cases hq with ⟨rfl, e, hl⟩ | ⟨hne, e⟩
    · cases e
      exact ⟨a, by rw [List.getElem?_set_self (by rw [S.len]; exact hl)], h, hf, by rw [if_pos rfl]; exact h0⟩
    · rw [List.getElem?_set_ne hne]; exact S.ow j f q e
  · rcases getElem?_set_cases hj with ⟨rfl, _, hl1⟩ | ⟨n1, hj'⟩
    · rcases getElem?_set_cases hk with ⟨h, _, _⟩ | ⟨n2, hk'⟩
      · exact h
      · rw [List.getElem?_set_self (by rw [S.len]; exact hl1)] at e1
        cases e1
        rw [List.getElem?_set_ne n2] at e2
        exact (hn k _ r hk' e2).elim
    · rw [List.getElem?_set_ne n1] at e1
      rcases getElem?_set_cases hk with ⟨rfl, _, hl2⟩ | ⟨n2, hk'⟩
      · rw [List.getElem?_set_self (by rw [S.len]; exact hl2)] at e2
        cases e2
        exact (hn j _ q hj' e1).elim
      · rw [List.getElem?_set_ne n2] at e2
        exact S.inj j k _ _ q r b hj' hk' e1 e2
/-- forgetting a slot -/
theorem Stt.drop (S : Stt g F H σ env) (i : Nat) : Stt g F H σ (env.set i .no) := by
  refine ⟨by simpa using S.len, S.frame, S.live, S.ext, S.fresh, S.sub, fun j q hq => ?_, fun j f q hq => ?_, fun j k f f' q r b hj hk e1 e2 => ?_, S.tab⟩
  · rcases getElem?_set_cases hq with ⟨_, e, hl⟩ | ⟨_, e⟩
    · cases e
    · exact S.fz j q e
  · rcases getElem?_set_cases hq with ⟨_, e, hl⟩ | ⟨_, e⟩
    · cases e
    · exact S.ow j f q e
  · rcases getElem?_set_cases hj with ⟨_, e, _⟩ | ⟨_, hj'⟩
    · cases e
    · rcases getElem?_set_cases hk with ⟨_, e, _⟩ | ⟨_, hk'⟩
      · cases e
      · exact S.inj j k _ _ q r b hj' hk' e1 e2
end

/-! ### what is to be shown -/
def Go {α : Type} (g : Gm) (F : Hp) (σ : St) (r : Res α) (K : α → Env' → Hp → Hp → Prop) : Prop := match r with
  | .bad => False
  | .err x e => ∀ F' H', Ex F F' → Stt g F' H' σ e → g.W x e σ F' H'
  | .ok x e => ∀ F' H', Ex F F' → Stt g F' H' σ e → K x e F' H'
theorem Go.bind {α β : Type} {g : Gm} {F : Hp} {σ : St} {r : Res α} {f : α → Env' → Res β} {K : β → Env' → Hp → Hp → Prop} (h : Go g F σ (r.bind f) K) : Go g F σ r (fun x e F' H' => Go g F' σ (f x e) K) := by
  cases r with
  | bad => exact h
  | err x e => exact h
  | ok x e =>
    intro F' H' e1 S
    have h' : Go g F σ (f x e) K := h
    cases q : f x e with
    | bad => rw [q] at h'; exact h'
    | err y e' => rw [q] at h'; exact fun F2 H2 e2 S2 => h' F2 H2 (e1.trans e2) S2
    | ok y e' => rw [q] at h'; exact fun F2 H2 e2 S2 => h' F2 H2 (e1.trans e2) S2
theorem Go.mono {α : Type} {g : Gm} {F : Hp} {σ : St} {r : Res α} {K K' : α → Env' → Hp → Hp → Prop} (h : Go g F σ r K) (k : ∀ x e F' H', Ex F F' → Stt g F' H' σ e → K x e F' H' → K' x e F' H') : Go g F σ r K' := by
  cases r with
  | bad => exact h
  | err x e => exact h
  | ok x e => exact fun F' H' a b => k x e F' H' a b (h F' H' a b)

/-- an expression's readings by what it gives -/
def tE (g : Gm) (d : Env' → Res Val) : TE := fun σ H Q => ∃ F env, Stt g F H σ env ∧ Go g F σ (d env) fun x env' F' H' => ∀ v, RV g F' H' σ env' x v → Q v H'
def tT (g : Gm) (d : Env' → Res Bool) : TT := fun σ H Q => ∃ F env, Stt g F H σ env ∧ Go g F σ (d env) fun b env' F' H' => Q b H'
def RVs (g : Gm) (F H : Hp) (σ : St) (env : Env') : List Val → List V → Prop
  | [], vs => vs = []
  | x :: xs, vs => ∃ v r, vs = v :: r ∧ RV g F H σ env x v ∧ RVs g F H σ env xs r
def tA (g : Gm) (d : Env' → Res (List Val)) : TA := fun σ H Q => ∃ F env, Stt g F H σ env ∧ Go g F σ (d env) fun xs env' F' H' => ∀ vs, RVs g F' H' σ env' xs vs → Q vs H'
theorem peImp {X : Cx} {e : Expr} {t t' : TE} (h : PE X e t) (k : ∀ σ H Q, t' σ H Q → t σ H Q) : PE X e t' := ⟨fun pins s σ H Q I q => h.run pins s σ H Q I (k σ H Q q)⟩
theorem ptImp {X : Cx} {e : Expr} {t t' : TT} (h : PT X e t) (k : ∀ σ H Q, t' σ H Q → t σ H Q) : PT X e t' := ⟨fun pins s σ H Q I q => h.run pins s σ H Q I (k σ H Q q)⟩
theorem paImp {X : Cx} {e : List Expr} {t t' : TA} (h : PA X e t) (k : ∀ σ H Q, t' σ H Q → t σ H Q) : PA X e t' := ⟨fun p pins s σ H Q I q => h.run p pins s σ H Q I (k σ H Q q)⟩
theorem psImp {X : Cx} {e : Stmt} {t t' : TS} (h : PS X e t) (k : ∀ D σ H, t' D σ H → t D σ H) : PS X e t' := ⟨fun pins s σ H D I q => h.run pins s σ H D I (k D σ H q)⟩
theorem pssImp {X : Cx} {e : List Stmt} {t t' : TS} (h : PSs X e t) (k : ∀ D σ H, t' D σ H → t D σ H) : PSs X e t' := ⟨fun pins s σ H D I q => h.run pins s σ H D I (k D σ H q)⟩
theorem peOr {X : Cx} {e : Expr} {t t' : TE} (h : PE X e t) (h' : PE X e t') : PE X e (fun σ H Q => t σ H Q ∨ t' σ H Q) := ⟨fun pins s σ H Q I q => q.elim (h.run pins s σ H Q I) (h'.run pins s σ H Q I)⟩
theorem psOr {X : Cx} {e : Stmt} {t t' : TS} (h : PS X e t) (h' : PS X e t') : PS X e (fun D σ H => t D σ H ∨ t' D σ H) := ⟨fun pins s σ H D I q => q.elim (h.run pins s σ H D I) (h'.run pins s σ H D I)⟩
end VL

set_option maxRecDepth 100000
set_option maxHeartbeats 2000000
namespace VL
open PySem PySem.Spec L2
open PyProof.Rows hiding St

def big : Nat := 16777216
theorem big_eq : sizeLine = big := by rw [sizeLine_eq]; rfl

/-! ### looking at a value's top -/
def peek (x : Val) (e : Env') : Option PV := match x with
  | .fz p => some p
  | .new p => some p
  | .bor i => match e[i]? with
    | some (.ow _ p) => some p
    | some (.fz p) => some p
    | _ => none
def peeks (e : Env') : List Val → Option (List PV)
  | [] => some []
  | x :: xs => match peek x e, peeks e xs with
    | some p, some ps => some (p :: ps)
    | _, _ => none

def Rt (C : Ct) (F H : Hp) : PV → V → Prop
  | .tup xs, v => ∃ a vs, v = .ref a ∧ H a = some (.tup vs) ∧ Rs C F xs vs ∧ F a = some (.tup vs)
  | .lst xs, v => ∃ a vs, v = .ref a ∧ H a = some (.lst vs) ∧ Rs C F xs vs
  | .dK ks xs, v => ∃ (a : Addr) (kvs : List (Key × V)), v = .ref a ∧ Rd H a (.dK kvs) ∧ kvs.map Prod.fst = ks ∧ Rs C F xs (kvs.map Prod.snd)
  | .dT ks xs, v => ∃ (a : Addr) (kvs : List (List Key × V)), v = .ref a ∧ Rd H a (.dT kvs) ∧ kvs.map Prod.fst = ks ∧ Rs C F xs (kvs.map Prod.snd)
  | .ins c xs, v => ∃ (a dx : Addr) (fs : List (Str × V)), v = .ref a ∧ H a = some (.ins (C.ad c) dx fs) ∧ fs.map Prod.fst = (C.fl c).take xs.length ∧ Rs C F xs (fs.map Prod.snd)
  | .exc c xs, v => ∃ (a : Addr) (vs : List V), v = .ref a ∧ EvR (C.ea c) (C.el c) vs a H ∧ Rs C F xs vs
  | .scr ns, v => ∃ a, v = .ref a ∧ SqL C.K H a (ns.map V.int)
  | .non, v => v = .non
  | .bl b, v => v = .bl b
  | .int i, v => v = .int i
  | .str x, v => v = .str x
theorem R.rt {C : Ct} {F H : Hp} {p : PV} {v : V} (h : R C F p v) (l : Le F H) : Rt C F H p v := by
  cases p <;> unfold R at h <;> simp only [Rt]
  · exact h
  · exact h
  · exact h
  · exact h
  · obtain ⟨a, vs, e, q, r⟩ := h; exact ⟨a, vs, e, l.tup q, r, q⟩
  · obtain ⟨a, vs, e, q, r⟩ := h; exact ⟨a, vs, e, l.lst q, r⟩
  · obtain ⟨a, e, q⟩ := h; exact ⟨a, e, l.sqL q⟩
  · obtain ⟨a, kvs, e, q, k, r⟩ := h; exact ⟨a, kvs, e, l.rd q, k, r⟩
  · obtain ⟨a, kvs, e, q, k, r⟩ := h; exact ⟨a, kvs, e, l.rd q, k, r⟩
  · obtain ⟨a, dx, fs, e, q, k, r⟩ := h; exact ⟨a, dx, fs, e, l.ins q, k, r⟩
  · obtain ⟨a, vs, e, q, r⟩ := h; exact ⟨a, vs, e, l.evr q, r⟩
theorem R1.rt {C : Ct} {F H : Hp} {p : PV} {a : Addr} (h : R1 C F H p a) : Rt C F H p (.ref a) := by
  cases p <;> try exact h.elim
  all_goals simp only [R1] at h
  all_goals simp only [Rt]
  · obtain ⟨vs, q, r⟩ := h; exact ⟨a, vs, rfl, q, r⟩
  · obtain ⟨kvs, q, k, r⟩ := h; exact ⟨a, kvs, rfl, .inl q, k, r⟩
  · obtain ⟨kvs, q, k, r⟩ := h; exact ⟨a, kvs, rfl, .inl q, k, r⟩
  · obtain ⟨dx, fs, q, k, r⟩ := h; exact ⟨a, dx, fs, rfl, q, k, r⟩
theorem Rt.r {C : Ct} {F H : Hp} {p : PV} {v : V} (h : Rt C F H p v) (l : Le F H) : R C H p v := by
  cases p <;> simp only [Rt] at h <;> unfold R
  · exact h
  · exact h
  · exact h
  · exact h
  · obtain ⟨a, vs, e, q, r, _⟩ := h; exact ⟨a, vs, e, q, r.mono l⟩
  · obtain ⟨a, vs, e, q, r⟩ := h; exact ⟨a, vs, e, q, r.mono l⟩
  · obtain ⟨a, e, q⟩ := h; exact ⟨a, e, q⟩
  · obtain ⟨a, kvs, e, q, k, r⟩ := h; exact ⟨a, kvs, e, q, k, r.mono l⟩
  · obtain ⟨a, kvs, e, q, k, r⟩ := h; exact ⟨a, kvs, e, q, k, r.mono l⟩
  · obtain ⟨a, dx, fs, e, q, k, r⟩ := h; exact ⟨a, dx, fs, e, q, k, r.mono l⟩
  · obtain ⟨a, vs, e, q, r⟩ := h; exact ⟨a, vs, e, q, r.mono l⟩

section
variable {g : Gm} {F H : Hp} {σ : St} {env : Env'}
theorem peek_ok (S : Stt g F H σ env) {x : Val} {v : V} {p : PV} (r : RV g F H σ env x v) (h : peek x env = some p) : Rt g.C F H p v := by
  cases x with
  | fz q =>
    simp only [peek, Option.some.injEq] at h; subst h
    exact R.rt r S.sub
  | new q =>
    simp only [peek, Option.some.injEq] at h; subst h
    obtain ⟨a, rfl, r1, _⟩ := r
    exact r1.rt
  | bor i =>
    simp only [peek] at h
    split at h
    · rename_i q e
      simp only [Option.some.injEq] at h; subst h
      obtain ⟨a, e1, e2, _⟩ := S.ow i _ _ e
      rw [r] at e1; cases e1
      exact e2.rt
    · rename_i q e
      simp only [Option.some.injEq] at h; subst h
      obtain ⟨w, e1, e2⟩ := S.fz i _ e
      rw [r] at e1; cases e1
      exact e2.rt S.sub
    · cases h
end
end VL

set_option maxRecDepth 100000
set_option maxHeartbeats 2000000
namespace VL
open PySem PySem.Spec L2
open PyProof.Rows hiding St

/-- a new container that is no longer written -/
def Val.stl : Val → Val
  | .new p => .fz p
  | x => x
def stl (d : Env' → Res Val) : Env' → Res Val := fun e => (d e).bind fun x e' => .ok x.stl e'
def Val.old : Val → Prop
  | .new _ => False
  | _ => True
theorem Val.stl_old (x : Val) : x.stl.old := by cases x <;> trivial

section
variable {X : Cx} {g : Gm} {pins : List (Addr × Obj)} {F H F' H' : Hp} {σ : St} {env env' : Env'} {s : Shared}
theorem RV.later {x : Val} {v : V} (o : x.old) (r : RV g F H σ env x v) (e : Ex F F') : RV g F' H' σ env' x v := by
  cases x with
  | fz p => exact R.mono e.le r
  | bor i => exact r
  | new p => exact o.elim
theorem Go.ok {α : Type} {x : α} {K : α → Env' → Hp → Hp → Prop} (h : Go g F σ (.ok x env) K) (S : Stt g F' H' σ env) (e : Ex F F') : K x env F' H' := h F' H' e S

/-- behind a value, the rest -/
def KV' {β : Type} (g : Gm) (F : Hp) (σ : St) (f : Val → Env' → Res β) (K : β → Env' → Hp → Hp → Prop) : V → Hp → Prop := fun v H1 =>
  ∃ F1 env1 x, Ex F F1 ∧ Stt g F1 H1 σ env1 ∧ x.old ∧ RV g F1 H1 σ env1 x v ∧ Go g F1 σ (f x env1) K
theorem settle {Q : VK} {x : Val} (S : Stt g F H σ env) {v : V} (r : RV g F H σ env x v) {P : Prop} (k : ∀ F', Ex F F' → Stt g F' H σ env → RV g F' H σ env x.stl v → P) : P := by
  cases x with
  | fz p => exact k F (Ex.refl F) S r
  | bor i => exact k F (Ex.refl F) S r
  | new p =>
    obtain ⟨a, rfl, r1, hf, h0, hn⟩ := r
    obtain ⟨o, ho⟩ := r1.cell
    exact k _ (Ex.new hf) (S.know hf ho h0 hn) (r1.frozen ho hf)
theorem tE_stl {d : Env' → Res Val} {Q : VK} (h : tE g (stl d) σ H Q) : tE g d σ H Q := by
  obtain ⟨F, env, S, go⟩ := h
  refine ⟨F, env, S, (Go.bind go).mono fun x e F' H' e1 S1 k v r => ?_⟩
  exact settle (Q := Q) S1 r fun F2 e2 S2 r2 => k F2 H' e2 S2 v r2
theorem peStl {e : Expr} {d : Env' → Res Val} (h : PE X e (tE g d)) : PE X e (tE g (stl d)) := peImp h fun _ _ _ => tE_stl
theorem stl_bind {β : Type} (d : Env' → Res Val) (f : Val → Env' → Res β) : (stl d env).bind f = (d env).bind fun x e => f x.stl e := by
  unfold stl
  cases d env <;> rfl
/-- a settled value, then the rest -/
theorem peGo {β : Type} {e : Expr} {d : Env' → Res Val} {f : Val → Env' → Res β} {K : β → Env' → Hp → Hp → Prop} (h : PE X e (tE g d)) (I : Inv X pins σ H s) (S : Stt g F H σ env) (go : Go g F σ ((stl d env).bind f) K) :
    wpAny (model X.prog X.w) X.A (eval e X.env) (EP X pins σ (KV' g F σ f K)) X.xe s := by
  refine h.run pins s σ H _ I ⟨F, env, S, ?_⟩
  rw [stl_bind] at go
  refine (Go.bind go).mono fun x e F' H' e1 S1 k v r => ?_
  exact settle (Q := fun _ _ => True) S1 r fun F2 e2 S2 r2 => ⟨F2, e, x.stl, e1.trans e2, S2, x.stl_old, r2, by
    cases hq : f x.stl e with
    | bad => rw [hq] at k; exact k
    | err y e' => rw [hq] at k; exact fun F3 H3 e3 S3 => k F3 H3 (e2.trans e3) S3
    | ok y e' => rw [hq] at k; exact fun F3 H3 e3 S3 => k F3 H3 (e2.trans e3) S3⟩

/-! ### operations on values -/
def toVal (o : Option Val) (e : Env') : Res Val := match o with
  | some x => .ok x e
  | none => .bad
/-- one on two values -/
def Op2 (X : Cx) (g : Gm) (f : Value → Value → Sem Value) (sem : PV → PV → Option Val) : Prop :=
  ∀ (pins : List (Addr × Obj)) (s : Shared) (σ : St) (F H : Hp) (env : Env') (p q : PV) (v u : V) (vv uu : Value) (r : Val) (Q : VK), Inv X pins σ H s → Stt g F H σ env → RelV v vv → RelV u uu → Rt g.C F H p v → Rt g.C F H q u → sem p q = some r →
    (∀ F' H' w, Ex F F' → Stt g F' H' σ env → RV g F' H' σ env r w → Q w H') → wpAny (model X.prog X.w) X.A (f vv uu) (EP X pins σ Q) X.xe s
def Op1 (X : Cx) (g : Gm) (f : Value → Sem Value) (sem : PV → Option Val) : Prop :=
  ∀ (pins : List (Addr × Obj)) (s : Shared) (σ : St) (F H : Hp) (env : Env') (p : PV) (v : V) (vv : Value) (r : Val) (Q : VK), Inv X pins σ H s → Stt g F H σ env → RelV v vv → Rt g.C F H p v → sem p = some r →
    (∀ F' H' w, Ex F F' → Stt g F' H' σ env → RV g F' H' σ env r w → Q w H') → wpAny (model X.prog X.w) X.A (f vv) (EP X pins σ Q) X.xe s
def Rts (C : Ct) (F H : Hp) : List PV → List V → Prop
  | [], vs => vs = []
  | p :: ps, vs => ∃ v r, vs = v :: r ∧ Rt C F H p v ∧ Rts C F H ps r
def OpN (X : Cx) (g : Gm) (f : List Value → Sem Value) (sem : List PV → Option Val) : Prop :=
  ∀ (pins : List (Addr × Obj)) (s : Shared) (σ : St) (F H : Hp) (env : Env') (ps : List PV) (vs : List V) (us : List Value) (r : Val) (Q : VK), Inv X pins σ H s → Stt g F H σ env → Vals vs us → Rts g.C F H ps vs → sem ps = some r →
    (∀ F' H' w, Ex F F' → Stt g F' H' σ env → RV g F' H' σ env r w → Q w H') → wpAny (model X.prog X.w) X.A (f us) (EP X pins σ Q) X.xe s
theorem Op2.or {f : Value → Value → Sem Value} {s1 s2 : PV → PV → Option Val} (h1 : Op2 X g f s1) (h2 : Op2 X g f s2) : Op2 X g f (fun p q => match s1 p q with | some r => some r | none => s2 p q) := by
  intro pins s σ F H env p q v u vv uu r Q I S r1 r2 t1 t2 e k
  cases h : s1 p q with
  | some r' =>
    simp only [h, Option.some.injEq] at e; subst e
    exact h1 pins s σ F H env p q v u vv uu r' Q I S r1 r2 t1 t2 h k
  | none =>
    simp only [h] at e
    exact h2 pins s σ F H env p q v u vv uu r Q I S r1 r2 t1 t2 e k
theorem OpN.or {f : List Value → Sem Value} {s1 s2 : List PV → Option Val} (h1 : OpN X g f s1) (h2 : OpN X g f s2) : OpN X g f (fun p => match s1 p with | some r => some r | none => s2 p) := by
  intro pins s σ F H env p v vv r Q I S r1 t1 e k
  cases h : s1 p with
  | some r' =>
    simp only [h, Option.some.injEq] at e; subst e
    exact h1 pins s σ F H env p v vv r' Q I S r1 t1 h k
  | none =>
    simp only [h] at e
    exact h2 pins s σ F H env p v vv r Q I S r1 t1 e k
/-- by a rule of the layer -/
theorem Op2.of {f : Value → Value → Sem Value} {r : R2} {sem : PV → PV → Option Val} (h : OpR X f r)
    (k : ∀ (σ : St) (F H : Hp) (env : Env') (p q : PV) (v u : V) (x : Val) (Q : VK), Stt g F H σ env → Rt g.C F H p v → Rt g.C F H q u → sem p q = some x → (∀ F' H' w, Ex F F' → Stt g F' H' σ env → RV g F' H' σ env x w → Q w H') → r v u H Q) : Op2 X g f sem :=
  fun pins s σ F H env p q v u vv uu x Q I S r1 r2 t1 t2 e kk => h pins s σ H v u vv uu Q I r1 r2 (k σ F H env p q v u x Q S t1 t2 e kk)
theorem OpN.of {f : Value} {r : List V → Hp → VK → Prop} {sem : List PV → Option Val} (h : CallR X f r)
    (k : ∀ (σ : St) (F H : Hp) (env : Env') (ps : List PV) (vs : List V) (x : Val) (Q : VK), Stt g F H σ env → Rts g.C F H ps vs → sem ps = some x → (∀ F' H' w, Ex F F' → Stt g F' H' σ env → RV g F' H' σ env x w → Q w H') → r vs H Q) : OpN X g (fun us => PySem.call f us) sem :=
  fun pins s σ F H env ps vs us x Q I S r1 t1 e kk => h pins s σ H vs us Q I r1 (k σ F H env ps vs x Q S t1 e kk)

/-- what comes of an operation, stored nowhere yet: a value that stays -/
theorem fin_fz {p : PV} {v : V} {Q : VK} (S : Stt g F H σ env) (r : R g.C F p v) (k : ∀ F' H' w, Ex F F' → Stt g F' H' σ env → RV g F' H' σ env (.fz p) w → Q w H') : Q v H := k F H v (Ex.refl F) S r
theorem fin_bl {b : Bool} {Q : VK} (S : Stt g F H σ env) (k : ∀ F' H' w, Ex F F' → Stt g F' H' σ env → RV g F' H' σ env (.fz (.bl b)) w → Q w H') : Q (.bl b) H := fin_fz S (by unfold R; rfl) k
theorem fin_int {i : Int} {Q : VK} (S : Stt g F H σ env) (k : ∀ F' H' w, Ex F F' → Stt g F' H' σ env → RV g F' H' σ env (.fz (.int i)) w → Q w H') : Q (.int i) H := fin_fz S (by unfold R; rfl) k
theorem fin_str {x : Str} {Q : VK} (S : Stt g F H σ env) (k : ∀ F' H' w, Ex F F' → Stt g F' H' σ env → RV g F' H' σ env (.fz (.str x)) w → Q w H') : Q (.str x) H := fin_fz S (by unfold R; rfl) k
theorem ex_alloc {p : Addr} {o : HO} (hp : H p = none) : Ex H (upd H p o) := Ex.new hp
/-- a new container, its own cell not known to F -/
theorem fin_new {p : PV} {a : Addr} {o : HO} {Q : VK} (S : Stt g F H σ env) (ha : H a = none) (r : R1 g.C F (upd H a o) p a) (k : ∀ F' H' w, Ex F F' → Stt g F' H' σ env → RV g F' H' σ env (.new p) w → Q w H') : Q (.ref a) (upd H a o) := by
  obtain ⟨n1, n2, n3⟩ := S.new0 ha
  refine k F _ (.ref a) (Ex.refl F) (S.grow (ex_alloc ha)) ⟨a, rfl, r, n1, n2, fun i f q e z => ?_⟩
  obtain ⟨b, e1, e2, _⟩ := S.ow i f q e
  rw [z] at e1; cases e1
  obtain ⟨o', ho⟩ := e2.cell
  rw [ha] at ho; cases ho
theorem fin_lst {xs : List PV} {vs : List V} {a : Addr} {Q : VK} (S : Stt g F H σ env) (ha : H a = none) (r : Rs g.C F xs vs) (k : ∀ F' H' w, Ex F F' → Stt g F' H' σ env → RV g F' H' σ env (.new (.lst xs)) w → Q w H') : Q (.ref a) (upd H a (.lst vs)) :=
  fin_new (p := .lst xs) S ha (by simp only [R1]; exact ⟨vs, upd_same, r⟩) k
/-- a new tuple -/
theorem fin_tup {xs : List PV} {vs : List V} {a : Addr} {Q : VK} (S : Stt g F H σ env) (ha : H a = none) (r : Rs g.C F xs vs) (k : ∀ F' H' w, Ex F F' → Stt g F' H' σ env → RV g F' H' σ env (.fz (.tup xs)) w → Q w H') : Q (.ref a) (upd H a (.tup vs)) := by
  obtain ⟨n1, n2, n3⟩ := S.new0 ha
  have S2 := S.grow (ex_alloc (o := .tup vs) ha)
  have hn : ∀ (i : Nat) f q, env[i]? = some (.ow f q) → σ[i]? ≠ some (some (.ref a)) := fun i f q e z => by
    obtain ⟨b, e1, e2, _⟩ := S.ow i f q e
    rw [z] at e1; cases e1
    obtain ⟨o', ho⟩ := e2.cell
    rw [ha] at ho; cases ho
  refine k _ _ (.ref a) (Ex.new n1) (S2.know n1 upd_same n2 hn) ?_
  show R g.C _ (.tup xs) (.ref a)
  unfold R
  exact ⟨a, vs, rfl, upd_same, r.mono (Ex.new n1).le⟩
end
end VL

set_option maxRecDepth 100000
set_option maxHeartbeats 2000000
namespace VL
open PySem PySem.Spec L2
open PyProof.Rows hiding St

section
variable {X : Cx} {g : Gm} {pins : List (Addr × Obj)} {F H : Hp} {σ : St} {env : Env'} {s : Shared} {a b c : Expr} {da db dc : Env' → Res Val} {pos : Pos}
/-! ### truth -/
def truthPV : PV → Option Bool
  | .non => some false
  | .bl b => some b
  | .int i => some (i != 0)
  | .str x => if x.length ≤ big then some ((x.length : Int) != 0) else none
  | .lst xs => some (!xs.isEmpty)
  | .tup xs => some (!xs.isEmpty)
  | .dK ks _ => some (!ks.isEmpty)
  | _ => none
theorem empty_eq {C : Ct} {F : Hp} {xs : List PV} {vs : List V} (h : Rs C F xs vs) : vs.isEmpty = xs.isEmpty := by
  cases xs with
  | nil => rw [h.nil_inv]; rfl
  | cons x xs => obtain ⟨v, r, rfl, _⟩ := h.cons_inv; rfl
theorem truth_ok {p : PV} {v : V} {vv : Value} {b : Bool} {E : Value → Shared → Prop} {Q : Bool → Shared → Prop} (hK : g.C.K = X.K) (I : Inv X pins σ H s) (r : RelV v vv) (t : Rt g.C F H p v) (h : truthPV p = some b)
    (k : ∀ s', Inv X pins σ H s' → Q b s') (hE : E = X.xe := by rfl) : wpAny (model X.prog X.w) X.A (truthy vv) Q E s := by
  subst hE
  have go : ∀ b', TruV X.K v H b' → b' = b → wpAny (model X.prog X.w) X.A (truthy vv) Q X.xe s := fun b' hb e => by
    subst e
    exact thn (tru_ok pins s σ H v vv (fun k H' => H' = H ∧ k = b') I r ⟨b', hb, rfl, rfl⟩) fun z s' ⟨H', I', e1, e2⟩ => by subst e1 e2; exact k s' I'
  cases p <;> simp only [truthPV] at h <;> simp only [Rt] at t
  · cases h; subst t; exact go false rfl rfl
  · cases h; subst t; exact go _ rfl rfl
  · cases h; subst t; exact go _ rfl rfl
  · split at h
    · rename_i hl
      cases h; subst t; exact go _ ⟨by rw [big_eq]; exact hl, rfl⟩ rfl
    · cases h
  · cases h
    obtain ⟨a, vs, rfl, q, rs, _⟩ := t
    exact go _ (.inr (.inl ⟨vs, SqT.of q, rfl⟩)) (by rw [empty_eq rs])
  · cases h
    obtain ⟨a, vs, rfl, q, rs⟩ := t
    exact go _ (.inl ⟨vs, SqL.of q, rfl⟩) (by rw [empty_eq rs])
  · cases h
  · cases h
    obtain ⟨a, kvs, rfl, q, k1, rs⟩ := t
    have e : (!kvs.isEmpty) = (!List.isEmpty (kvs.map Prod.fst)) := by cases kvs <;> rfl
    obtain rfl : vv = Value.ref a := r
    exact d_truth I q fun s' I' => by
      rw [e, k1]
      exact k s' I'
  · cases h
  · cases h
  · cases h

/-! ### constants, names -/
theorem se_int {i j pos} : PE X (.Constant (.int i) j pos) (tE g fun e => .ok (.fz (.int i)) e) := peImp pe_int fun σ H Q ⟨F, env, S, go⟩ => go F H (Ex.refl F) S _ (by show R _ _ _ _; unfold R; rfl)
theorem se_bl {b j pos} : PE X (.Constant (.bool b) j pos) (tE g fun e => .ok (.fz (.bl b)) e) := peImp pe_bl fun σ H Q ⟨F, env, S, go⟩ => go F H (Ex.refl F) S _ (by show R _ _ _ _; unfold R; rfl)
theorem se_non {j pos} : PE X (.Constant .none j pos) (tE g fun e => .ok (.fz .non) e) := peImp pe_non fun σ H Q ⟨F, env, S, go⟩ => go F H (Ex.refl F) S _ (by show R _ _ _ _; unfold R; rfl)
theorem se_str {x j pos} : PE X (.Constant (.str x) j pos) (tE g fun e => .ok (.fz (.str x)) e) := peImp pe_str fun σ H Q ⟨F, env, S, go⟩ => go F H (Ex.refl F) S _ (by show R _ _ _ _; unfold R; rfl)
def dVar (i : Nat) : Env' → Res Val := fun e => match e[i]? with
  | some (.fz p) => .ok (.fz p) e
  | some (.ow _ _) => .ok (.bor i) e
  | _ => .bad
theorem se_var {i : Nat} {x : Str} {pos : Pos} (hN : X.N[i]? = some x) (hv : Vis X.env.scope x) (hd : (x == ("__debug__" : Str)) = false) (hcd : (x == ("__classdict__" : Str)) = false) : PE X (.Name x pos) (tE g (dVar i)) :=
  peImp (pe_var hN hv hd hcd) fun σ H Q ⟨F, env, S, go⟩ => by
    unfold dVar at go
    cases e : env[i]? with
    | none => rw [e] at go; exact go.elim
    | some sl =>
      rw [e] at go
      cases sl with
      | no => exact go.elim
      | fz p =>
        obtain ⟨v, h1, h2⟩ := S.fz i p e
        exact ⟨v, h1, go F H (Ex.refl F) S v h2⟩
      | ow f p =>
        obtain ⟨a, h1, h2⟩ := S.ow i f p e
        exact ⟨.ref a, h1, go F H (Ex.refl F) S _ h1⟩
theorem se_glob {x : Str} {v : V} {u : Value} {p : PV} {pos : Pos} (hg : Gl X x) (hm : X.mg x = some u) (r : RelV v u) (hp : ∀ F, R g.C F p v) (hd : (x == ("__debug__" : Str)) = false) : PE X (.Name x pos) (tE g fun e => .ok (.fz p) e) :=
  peImp (pe_glob hg hm r hd) fun σ H Q ⟨F, env, S, go⟩ => go F H (Ex.refl F) S _ (hp F)

/-! ### two operands -/
def op2 (sem : PV → PV → Option Val) (x y : Val) (e : Env') : Res Val := match peek x e, peek y e with
  | some p, some q => toVal (sem p q) e
  | _, _ => .bad
def dBin (sem : PV → PV → Option Val) (da db : Env' → Res Val) : Env' → Res Val := fun e => (stl da e).bind fun x e1 => (stl db e1).bind fun y e2 => op2 sem x y e2
theorem op2_go {f : Value → Value → Sem Value} {sem : PV → PV → Option Val} {x y : Val} {v u : V} {vv uu : Value} {K : Val → Env' → Hp → Hp → Prop} (ho : Op2 X g f sem) (I : Inv X pins σ H s) (S : Stt g F H σ env) (r1 : RelV v vv) (r2 : RelV u uu)
    (t1 : RV g F H σ env x v) (t2 : RV g F H σ env y u) (go : Go g F σ (op2 sem x y env) K) :
    wpAny (model X.prog X.w) X.A (f vv uu) (EP X pins σ fun w H' => ∃ F' r, Ex F F' ∧ Stt g F' H' σ env ∧ RV g F' H' σ env r w ∧ K r env F' H') X.xe s := by
  unfold op2 at go
  cases e1 : peek x env with
  | none => simp only [e1] at go; exact go.elim
  | some p =>
    cases e2 : peek y env with
    | none => simp only [e1, e2] at go; exact go.elim
    | some q =>
      simp only [e1, e2] at go
      cases e3 : sem p q with
      | none => rw [e3] at go; exact go.elim
      | some r =>
        rw [e3] at go
        exact ho pins s σ F H env p q v u vv uu r _ I S r1 r2 (peek_ok S t1 e1) (peek_ok S t2 e2) e3 fun F' H' w ex S' rv => ⟨F', r, ex, S', rv, go F' H' ex S'⟩
theorem se_bin {op : Operator} {sem : PV → PV → Option Val} (ha : PE X a (tE g da)) (hb : PE X b (tE g db)) (ho : Op2 X g (binaryOp op) sem) : PE X (.BinOp a op b pos) (tE g (dBin sem da db)) := by
  refine ⟨fun pins s σ H Q I ⟨F, env, S, go⟩ => wpAny_BinOp (thn (peGo ha I S go) fun v s1 ⟨v', H1, I1, r1, F1, e1, x, x1, S1, o1, rv1, go1⟩ => ?_)⟩
  refine thn (peGo hb I1 S1 go1) fun u s2 ⟨u', H2, I2, r2, F2, e2, y, x2, S2, o2, rv2, go2⟩ => ?_
  refine thn (op2_go ho I2 S2 r1 r2 (rv1.later o1 x2) rv2 go2) fun w s3 ⟨w', H3, I3, r3, F3, r, ex, S3, rv, k⟩ => ⟨w', H3, I3, r3, k w' rv⟩
theorem se_cmp {op : CmpOp} {sem : PV → PV → Option Val} (ha : PE X a (tE g da)) (hb : PE X b (tE g db)) (ho : Op2 X g (compareOp op) sem) (hm : behindInMarks op b = false) : PE X (.Compare a [op] [b] pos) (tE g (dBin sem da db)) := by
  refine ⟨fun pins s σ H Q I ⟨F, env, S, go⟩ => wpAny_Compare1 (thn (peGo ha I S go) fun v s1 ⟨v', H1, I1, r1, F1, e1, x, x1, S1, o1, rv1, go1⟩ => ?_) hm⟩
  refine thn (peGo hb I1 S1 go1) fun u s2 ⟨u', H2, I2, r2, F2, e2, y, x2, S2, o2, rv2, go2⟩ => ?_
  refine thn (op2_go ho I2 S2 r1 r2 (rv1.later o1 x2) rv2 go2) fun w s3 ⟨w', H3, I3, r3, F3, r, ex, S3, rv, k⟩ => ⟨w', H3, I3, r3, k w' rv⟩
/-- what comes of a comparison, as a test -/
def asB (d : Env' → Res Val) : Env' → Res Bool := fun e => (d e).bind fun x e1 => match x with
  | .fz (.bl b) => .ok b e1
  | _ => .bad
theorem asB_k {x : Val} {w : V} {w' : Value} {Q : Bool → Shared → Prop} {QB : Bool → Hp → Prop} {ee : Env'} (I : Inv X pins σ H s) (S : Stt g F H σ ee) (r : RelV w w') (rv : RV g F H σ ee x w) (k : Go g F σ (match x with | .fz (.bl b) => Res.ok b ee | _ => .bad) fun b env' F' H' => QB b H')
    (q : ∀ b s', Inv X pins σ H s' → QB b H → Q b s') : wpAny (model X.prog X.w) X.A (truthy w') Q X.xe s := by
  cases x with
  | bor i => exact k.elim
  | new p => exact k.elim
  | fz p =>
    cases p <;> try exact k.elim
    rename_i b
    have e : w = .bl b := by
      have : R g.C F (.bl b) w := rv
      unfold R at this; exact this
    subst e
    cases r
    exact wpAny_truthy_bool (q b s I (k F H (Ex.refl F) S))
theorem st_cmp {op : CmpOp} {sem : PV → PV → Option Val} (ha : PE X a (tE g da)) (hb : PE X b (tE g db)) (ho : Op2 X g (compareOp op) sem) (hm : behindInMarks op b = false) : PT X (.Compare a [op] [b] pos) (tT g (asB (dBin sem da db))) := by
  refine ⟨fun pins s σ H Q I ⟨F, env, S, go⟩ => ?_⟩
  have go := Go.bind go
  refine wpAny_isTrue_Compare1 (thn (peGo ha I S go) fun v s1 ⟨v', H1, I1, r1, F1, e1, x, x1, S1, o1, rv1, go1⟩ => ?_) hm
  refine thn (peGo hb I1 S1 go1) fun u s2 ⟨u', H2, I2, r2, F2, e2, y, x2, S2, o2, rv2, go2⟩ => ?_
  refine thn (op2_go ho I2 S2 r1 r2 (rv1.later o1 x2) rv2 go2) fun w s3 ⟨w', H3, I3, r3, F3, r, ex, S3, rv, k⟩ => ?_
  exact asB_k I3 S3 r3 rv k fun b s' I' q => ⟨H3, I', q⟩
/-- a op b op' c -/
def dChain (sem sem' : PV → PV → Option Val) (da db dc : Env' → Res Val) : Env' → Res Val := fun e => (stl da e).bind fun x e1 => (stl db e1).bind fun y e2 => (op2 sem x y e2).bind fun r e3 => match r with
  | .fz (.bl true) => (stl dc e3).bind fun z e4 => op2 sem' y z e4
  | .fz (.bl false) => .ok (.fz (.bl false)) e3
  | _ => .bad
theorem se_chain {op op' : CmpOp} {sem sem' : PV → PV → Option Val} (ha : PE X a (tE g da)) (hb : PE X b (tE g db)) (hc : PE X c (tE g dc)) (ho : Op2 X g (compareOp op) sem) (ho' : Op2 X g (compareOp op') sem')
    (hm : lastMarks [op, op'] [b, c] = false) : PE X (.Compare a [op, op'] [b, c] pos) (tE g (dChain sem sem' da db dc)) := by
  refine ⟨fun pins s σ H Q I ⟨F, env, S, go⟩ => Compare_chain (thn (peGo ha I S go) fun v s1 ⟨v', H1, I1, r1, F1, e1, x, x1, S1, o1, rv1, go1⟩ => ?_) hm⟩
  refine chain_link (thn (peGo hb I1 S1 go1) fun u s2 ⟨u', H2, I2, r2, F2, e2, y, x2, S2, o2, rv2, go2⟩ => ?_)
  refine thn (op2_go ho I2 S2 r1 r2 (rv1.later o1 x2) rv2 (Go.bind go2)) fun w s3 ⟨w', H3, I3, r3, F3, r, ex, S3, rv, k⟩ => ?_
  cases r with
  | bor i => exact k.elim
  | new p => exact k.elim
  | fz p =>
    cases p <;> try exact k.elim
    rename_i bb
    have e : w' = .bl bb := by
      have : R g.C F3 (.bl bb) w' := rv
      unfold R at this; exact this
    subst e
    cases r3
    refine wpAny_truthy_bool ?_
    cases bb with
    | false => exact ite_ff ⟨.bl false, H3, I3, rfl, k F3 H3 (Ex.refl F3) S3 _ (by show R _ _ _ _; unfold R; rfl)⟩
    | true =>
      refine ite_tt (chain_last (thn (peGo hc I3 S3 k) fun z s4 ⟨z', H4, I4, r4, F4, e4, zz, x4, S4, o4, rv4, go4⟩ => ?_))
      refine thn (op2_go ho' I4 S4 r2 r4 (rv2.later o2 (ex.trans x4)) rv4 go4) fun w s5 ⟨w', H5, I5, r5, F5, r, ex, S5, rv, k⟩ => ⟨w', H5, I5, r5, k w' rv⟩
theorem st_chain {op op' : CmpOp} {sem sem' : PV → PV → Option Val} (ha : PE X a (tE g da)) (hb : PE X b (tE g db)) (hc : PE X c (tE g dc)) (ho : Op2 X g (compareOp op) sem) (ho' : Op2 X g (compareOp op') sem')
    (hm : lastMarks [op, op'] [b, c] = false) : PT X (.Compare a [op, op'] [b, c] pos) (tT g (asB (dChain sem sem' da db dc))) := by
  refine ⟨fun pins s σ H Q I ⟨F, env, S, go⟩ => ?_⟩
  have go := Go.bind go
  refine isTrue_chain (thn (peGo ha I S go) fun v s1 ⟨v', H1, I1, r1, F1, e1, x, x1, S1, o1, rv1, go1⟩ => ?_) hm
  refine test_link (thn (peGo hb I1 S1 go1) fun u s2 ⟨u', H2, I2, r2, F2, e2, y, x2, S2, o2, rv2, go2⟩ => ?_)
  refine thn (op2_go ho I2 S2 r1 r2 (rv1.later o1 x2) rv2 (Go.bind go2)) fun w s3 ⟨w', H3, I3, r3, F3, r, ex, S3, rv, k⟩ => ?_
  cases r with
  | bor i => exact k.elim
  | new p => exact k.elim
  | fz p =>
    cases p <;> try exact k.elim
    rename_i bb
    have e : w' = .bl bb := by
      have : R g.C F3 (.bl bb) w' := rv
      unfold R at this; exact this
    subst e
    cases r3
    refine wpAny_truthy_bool ?_
    cases bb with
    | false => exact ite_ff ⟨H3, I3, (k F3 H3 (Ex.refl F3) S3 : Go g F3 σ _ _) F3 H3 (Ex.refl F3) S3⟩
    | true =>
      refine ite_tt (test_last (thn (peGo hc I3 S3 k) fun z s4 ⟨z', H4, I4, r4, F4, e4, zz, x4, S4, o4, rv4, go4⟩ => ?_))
      refine thn (op2_go ho' I4 S4 r2 r4 (rv2.later o2 (ex.trans x4)) rv4 go4) fun w s5 ⟨w', H5, I5, r5, F5, r, ex, S5, rv, k⟩ => ?_
      exact asB_k I5 S5 r5 rv k fun b s' I' q => ⟨H5, I', q⟩
/-! ### one operand -/
def dUn (sem : PV → Option Val) (da : Env' → Res Val) : Env' → Res Val := fun e => (stl da e).bind fun x e1 => match peek x e1 with
  | some p => toVal (sem p) e1
  | none => .bad
def dNot (da : Env' → Res Val) : Env' → Res Val := dUn (fun p => (truthPV p).map fun b => .fz (.bl (!b))) da
theorem un_go {f : Value → Sem Value} {sem : PV → Option Val} {x : Val} {v : V} {vv : Value} {K : Val → Env' → Hp → Hp → Prop} (ho : Op1 X g f sem) (I : Inv X pins σ H s) (S : Stt g F H σ env) (r1 : RelV v vv)
    (t1 : RV g F H σ env x v) (go : Go g F σ (match peek x env with | some p => toVal (sem p) env | none => .bad) K) :
    wpAny (model X.prog X.w) X.A (f vv) (EP X pins σ fun w H' => ∃ F' r, Ex F F' ∧ Stt g F' H' σ env ∧ RV g F' H' σ env r w ∧ K r env F' H') X.xe s := by
  cases e1 : peek x env with
  | none => simp only [e1] at go; exact go.elim
  | some p =>
    simp only [e1] at go
    cases e3 : sem p with
    | none => rw [e3] at go; exact go.elim
    | some r =>
      rw [e3] at go
      exact ho pins s σ F H env p v vv r _ I S r1 (peek_ok S t1 e1) e3 fun F' H' w ex S' rv => ⟨F', r, ex, S', rv, go F' H' ex S'⟩
theorem se_un {op : UnaryOp} {sem : PV → Option Val} (ha : PE X a (tE g da)) (ho : Op1 X g (unaryOp op) sem) : PE X (.UnaryOp op a pos) (tE g (dUn sem da)) := by
  refine ⟨fun pins s σ H Q I ⟨F, env, S, go⟩ => UnaryOp_ (thn (peGo ha I S go) fun v s1 ⟨v', H1, I1, r1, F1, e1, x, x1, S1, o1, rv1, go1⟩ => ?_)⟩
  exact thn (un_go ho I1 S1 r1 rv1 go1) fun w s3 ⟨w', H3, I3, r3, F3, r, ex, S3, rv, k⟩ => ⟨w', H3, I3, r3, k w' rv⟩
theorem op_not (hK : g.C.K = X.K) : Op1 X g (unaryOp .Not) (fun p => (truthPV p).map fun b => .fz (.bl (!b))) := by
  intro pins s σ F H env p v vv r Q I S rv t e k
  cases h : truthPV p with
  | none => simp only [h, Option.map_none] at e; cases e
  | some b =>
    simp only [h, Option.map_some, Option.some.injEq] at e; subst e
    exact not_of (truth_ok hK I rv t h fun s' I' => ⟨.bl (!b), H, I', rfl, k F H _ (Ex.refl F) S (by show R _ _ _ _; unfold R; rfl)⟩)
/-! ### and, or, if .. else .. as values -/
def dBool (isAnd : Bool) (da dr : Env' → Res Val) : Env' → Res Val := fun e => (stl da e).bind fun x e1 => match (peek x e1).bind truthPV with
  | some t => if t = isAnd then dr e1 else .ok x e1
  | none => .bad
theorem se_one {op} (h : PE X a (tE g da)) : PE X (.BoolOp op [a] pos) (tE g da) := pe_one h
theorem se_and {rest : List Expr} {dr : Env' → Res Val} (hK : g.C.K = X.K) (ha : PE X a (tE g da)) (hb : PE X (.BoolOp .And (b :: rest) pos) (tE g dr)) : PE X (.BoolOp .And (a :: b :: rest) pos) (tE g (dBool true da dr)) := by
  refine ⟨fun pins s σ H Q I ⟨F, env, S, go⟩ => BoolOp_and (thn (peGo ha I S go) fun v s1 ⟨v', H1, I1, r1, F1, e1, x, x1, S1, o1, rv1, go1⟩ => ?_)⟩
  cases h : peek x e1 with
  | none => simp only [h, Option.bind_none] at go1; exact go1.elim
  | some p =>
    simp only [h, Option.bind_some] at go1
    cases h2 : truthPV p with
    | none => simp only [h2] at go1; exact go1.elim
    | some t =>
      simp only [h2] at go1
      refine truth_ok hK I1 r1 (peek_ok S1 rv1 h) h2 fun s2 I2 => ?_
      cases t with
      | true => exact hb.run pins s2 σ H1 Q I2 ⟨F1, e1, S1, go1⟩
      | false => exact ⟨v', H1, I2, r1, go1 F1 H1 (Ex.refl F1) S1 v' rv1⟩
theorem se_or {rest : List Expr} {dr : Env' → Res Val} (hK : g.C.K = X.K) (ha : PE X a (tE g da)) (hb : PE X (.BoolOp .Or (b :: rest) pos) (tE g dr)) : PE X (.BoolOp .Or (a :: b :: rest) pos) (tE g (dBool false da dr)) := by
  refine ⟨fun pins s σ H Q I ⟨F, env, S, go⟩ => BoolOp_or (thn (peGo ha I S go) fun v s1 ⟨v', H1, I1, r1, F1, e1, x, x1, S1, o1, rv1, go1⟩ => ?_)⟩
  cases h : peek x e1 with
  | none => simp only [h, Option.bind_none] at go1; exact go1.elim
  | some p =>
    simp only [h, Option.bind_some] at go1
    cases h2 : truthPV p with
    | none => simp only [h2] at go1; exact go1.elim
    | some t =>
      simp only [h2] at go1
      refine truth_ok hK I1 r1 (peek_ok S1 rv1 h) h2 fun s2 I2 => ?_
      cases t with
      | false => exact hb.run pins s2 σ H1 Q I2 ⟨F1, e1, S1, go1⟩
      | true => exact ⟨v', H1, I2, r1, go1 F1 H1 (Ex.refl F1) S1 v' rv1⟩
def dIf (dt : Env' → Res Bool) (da db : Env' → Res Val) : Env' → Res Val := fun e => (dt e).bind fun t e1 => if t = true then da e1 else db e1
theorem go_bind_val {β : Type} {dt : Res Bool} {f : Bool → Env' → Res β} {K : β → Env' → Hp → Hp → Prop} (go : Go g F σ (dt.bind f) K) : Go g F σ dt fun t e1 F1 H1 => Go g F1 σ (f t e1) K := Go.bind go
theorem se_if {t : Expr} {dt : Env' → Res Bool} (ht : PT X t (tT g dt)) (ha : PE X a (tE g da)) (hb : PE X b (tE g db)) : PE X (.IfExp t a b pos) (tE g (dIf dt da db)) := by
  refine peImp (pe_ifExp ht ha hb) fun σ H Q ⟨F, env, S, go⟩ => ⟨F, env, S, ?_⟩
  refine (Go.bind go).mono fun t e1 F1 H1 ex S1 k => ?_
  cases t with
  | true => exact ⟨F1, e1, S1, k⟩
  | false => exact ⟨F1, e1, S1, k⟩
/-! ### tests -/
def dTru (da : Env' → Res Val) : Env' → Res Bool := fun e => (stl da e).bind fun x e1 => match (peek x e1).bind truthPV with
  | some t => .ok t e1
  | none => .bad
theorem st_val (hK : g.C.K = X.K) (ha : PE X a (tE g da)) (he : ∀ whole, isTrue a X.env whole = (do let v ← whole; standAt a.pos; holding [v] (truthy v))) : PT X a (tT g (dTru da)) := by
  refine ⟨fun pins s σ H Q I ⟨F, env, S, go⟩ => isTrue_plain (thn (peGo ha I S go) fun v s1 ⟨v', H1, I1, r1, F1, e1, x, x1, S1, o1, rv1, go1⟩ => ?_) (he _)⟩
  cases h : peek x e1 with
  | none => simp only [h, Option.bind_none] at go1; exact go1.elim
  | some p =>
    simp only [h, Option.bind_some] at go1
    cases h2 : truthPV p with
    | none => simp only [h2] at go1; exact go1.elim
    | some t =>
      simp only [h2] at go1
      exact truth_ok hK I1 r1 (peek_ok S1 rv1 h) h2 fun s2 I2 => ⟨H1, I2, go1 F1 H1 (Ex.refl F1) S1⟩
def dNotT (da : Env' → Res Bool) : Env' → Res Bool := fun e => (da e).bind fun b e1 => .ok (!b) e1
def dAndT (da db : Env' → Res Bool) : Env' → Res Bool := fun e => (da e).bind fun b e1 => if b = true then db e1 else .ok false e1
def dOrT (da db : Env' → Res Bool) : Env' → Res Bool := fun e => (da e).bind fun b e1 => if b = true then .ok true e1 else db e1
variable {ta tb : Env' → Res Bool}
theorem st_not (ha : PT X a (tT g ta)) : PT X (.UnaryOp .Not a pos) (tT g (dNotT ta)) :=
  ptImp (pt_not ha) fun σ H Q ⟨F, env, S, go⟩ => ⟨F, env, S, (Go.bind go).mono fun t e1 F1 H1 ex S1 k => k F1 H1 (Ex.refl F1) S1⟩
theorem pwImp {e : Expr} {t t' : TT} (h : PW X e t) (k : ∀ σ H Q, t' σ H Q → t σ H Q) : PW X e t' := ⟨fun whole pins s σ H Q I q => h.run whole pins s σ H Q I (k σ H Q q)⟩
theorem sw_and1 (ha : PT X a (tT g ta)) : PW X (.BoolOp .And [a] pos) (tT g ta) := pw_and1 ha
theorem sw_or1 (ha : PT X a (tT g ta)) : PW X (.BoolOp .Or [a] pos) (tT g ta) := pw_or1 ha
theorem sw_and {rest : List Expr} (ha : PT X a (tT g ta)) (hb : PW X (.BoolOp .And (b :: rest) pos) (tT g tb)) : PW X (.BoolOp .And (a :: b :: rest) pos) (tT g (dAndT ta tb)) :=
  pwImp (pw_and ha hb) fun σ H Q ⟨F, env, S, go⟩ => ⟨F, env, S, (Go.bind go).mono fun t e1 F1 H1 ex S1 k => by
    cases t with
    | true => exact ⟨F1, e1, S1, k⟩
    | false => exact k F1 H1 (Ex.refl F1) S1⟩
theorem sw_or {rest : List Expr} (ha : PT X a (tT g ta)) (hb : PW X (.BoolOp .Or (b :: rest) pos) (tT g tb)) : PW X (.BoolOp .Or (a :: b :: rest) pos) (tT g (dOrT ta tb)) :=
  pwImp (pw_or ha hb) fun σ H Q ⟨F, env, S, go⟩ => ⟨F, env, S, (Go.bind go).mono fun t e1 F1 H1 ex S1 k => by
    cases t with
    | false => exact ⟨F1, e1, S1, k⟩
    | true => exact k F1 H1 (Ex.refl F1) S1⟩
end
end VL

set_option maxRecDepth 100000
set_option maxHeartbeats 2000000
namespace VL
open PySem PySem.Spec L2
open PyProof.Rows hiding St

/-! ### freezing -/
def frz (x : Val) (e : Env') : Res PV := match x with
  | .fz p => .ok p e
  | .new p => .ok p e
  | .bor i => match e[i]? with
    | some (.fz p) => .ok p e
    | some (.ow true p) => .ok p (e.set i (.fz p))
    | _ => .bad
def frzs : List Val → Env' → Res (List PV)
  | [], e => .ok [] e
  | x :: xs, e => (frz x e).bind fun p e1 => (frzs xs e1).bind fun ps e2 => .ok (p :: ps) e2
def dArgs : List (Env' → Res Val) → Env' → Res (List Val)
  | [], e => .ok [] e
  | d :: ds, e => (stl d e).bind fun x e1 => (dArgs ds e1).bind fun xs e2 => .ok (x :: xs) e2
def AllOld : List Val → Prop
  | [] => True
  | x :: xs => x.old ∧ AllOld xs
section
variable {X : Cx} {g : Gm} {pins : List (Addr × Obj)} {F H F' H' : Hp} {σ : St} {env env' : Env'} {s : Shared} {a b c : Expr} {da db dc : Env' → Res Val} {pos : Pos}
theorem Go.up {α : Type} {r : Res α} {K : α → Env' → Hp → Hp → Prop} (go : Go g F σ r K) (e : Ex F F') : Go g F' σ r K := by
  cases r with
  | bad => exact go
  | err x e' => exact fun F2 H2 e2 S2 => go F2 H2 (e.trans e2) S2
  | ok x e' => exact fun F2 H2 e2 S2 => go F2 H2 (e.trans e2) S2
theorem frz_go {α : Type} {x : Val} {v : V} {f : PV → Env' → Res α} {K : α → Env' → Hp → Hp → Prop} (S : Stt g F H σ env) (r : RV g F H σ env x v) (go : Go g F σ ((frz x env).bind f) K) :
    ∃ F' p env', Ex F F' ∧ Stt g F' H σ env' ∧ R g.C F' p v ∧ Go g F' σ (f p env') K := by
  cases x with
  | fz p => exact ⟨F, p, env, Ex.refl F, S, r, go⟩
  | new p =>
    obtain ⟨b, rfl, r1, hf, h0, hn⟩ := r
    obtain ⟨o, ho⟩ := r1.cell
    refine ⟨_, p, env, Ex.new hf, S.know hf ho h0 hn, r1.frozen ho hf, ?_⟩
    exact Go.up go (Ex.new hf)
  | bor i =>
    unfold frz at go
    dsimp only at go
    cases e : env[i]? with
    | none => rw [e] at go; exact go.elim
    | some sl =>
      rw [e] at go
      cases sl with
      | no => exact go.elim
      | fz p =>
        obtain ⟨w, h1, h2⟩ := S.fz i p e
        have r : σ[i]? = some (some v) := r
        rw [r] at h1; cases h1
        exact ⟨F, p, env, Ex.refl F, S, h2, go⟩
      | ow f p =>
        cases f with
        | false => exact go.elim
        | true =>
          obtain ⟨w, h1, h2, h3, h4⟩ := S.ow i _ p e
          have r : σ[i]? = some (some v) := r
          rw [r] at h1; cases h1
          obtain ⟨o, ho⟩ := h2.cell
          obtain ⟨S', rr⟩ := S.freeze e r ho
          exact ⟨_, p, _, Ex.new h3, S', rr, Go.up go (Ex.new h3)⟩
theorem RVs.later : ∀ {xs : List Val} {vs : List V}, AllOld xs → RVs g F H σ env xs vs → Ex F F' → RVs g F' H' σ env' xs vs
  | [], vs, _, r, _ => r
  | x :: xs, vs, o, r, e => by
    obtain ⟨v, t, e1, r1, r2⟩ := r
    exact ⟨v, t, e1, r1.later o.1 e, RVs.later o.2 r2 e⟩
theorem frzs_go {α : Type} : ∀ {xs : List Val} {vs : List V} {F H : Hp} {env : Env'} {f : List PV → Env' → Res α} {K : α → Env' → Hp → Hp → Prop}, AllOld xs → Stt g F H σ env → RVs g F H σ env xs vs → Go g F σ ((frzs xs env).bind f) K →
    ∃ F' ps env', Ex F F' ∧ Stt g F' H σ env' ∧ Rs g.C F' ps vs ∧ Go g F' σ (f ps env') K
  | [], vs, F, H, env, f, K, _, S, r, go => by
    have e : vs = [] := r
    subst e
    exact ⟨F, [], env, Ex.refl F, S, Rs.nil, go⟩
  | x :: xs, vs, F, H, env, f, K, o, S, r, go => by
    obtain ⟨v, t, rfl, r1, r2⟩ := r
    have go' : Go g F σ ((frz x env).bind fun p e1 => ((frzs xs e1).bind fun ps e2 => .ok (p :: ps) e2).bind f) K := by
      unfold frzs at go
      cases h : frz x env with
      | bad => rw [h] at go; exact go
      | err y e => rw [h] at go; exact go
      | ok p e1 => rw [h] at go; exact go
    obtain ⟨F1, p, e1, x1, S1, q1, go1⟩ := frz_go S r1 go'
    have go2 : Go g F1 σ ((frzs xs e1).bind fun ps e2 => f (p :: ps) e2) K := by
      cases h : frzs xs e1 with
      | bad => rw [h] at go1; exact go1
      | err y e => rw [h] at go1; exact go1
      | ok ps e2 => rw [h] at go1; exact go1
    obtain ⟨F2, ps, e2, x2, S2, q2, go3⟩ := frzs_go (f := fun ps e2 => f (p :: ps) e2) o.2 S1 (RVs.later o.2 r2 x1) go2
    exact ⟨F2, p :: ps, e2, x1.trans x2, S2, Rs.cons (q1.mono x2.le) q2, go3⟩

/-! ### arguments -/
/-- argument lists, settled -/
def tAs (g : Gm) (d : Env' → Res (List Val)) : TA := fun σ H Q => ∃ F env, Stt g F H σ env ∧ Go g F σ (d env) fun xs env' F' H' => ∀ vs, AllOld xs → RVs g F' H' σ env' xs vs → Q vs H'
theorem sa_nil : PA X [] (tAs g (dArgs [])) := paImp pa_nil fun σ H Q ⟨F, env, S, go⟩ => go F H (Ex.refl F) S [] True.intro rfl
theorem sa_cons {e : Expr} {es : List Expr} {d : Env' → Res Val} {ds : List (Env' → Res Val)} (ha : PE X e (tE g d)) (hr : PA X es (tAs g (dArgs ds))) (hs : starEach (e :: es) X.env = (false, eval e X.env) :: starEach es X.env) :
    PA X (e :: es) (tAs g (dArgs (d :: ds))) := by
  refine ⟨fun pos pins s σ H Q I ⟨F, env, S, go⟩ => ?_⟩
  rw [hs]
  show wpAny _ _ (spliced ((false, eval e X.env) :: backTo pos (starEach es X.env))) _ _ s
  refine Calls.spliced_cons (thn (peGo ha I S go) fun v s1 ⟨v', H1, I1, r1, F1, e1, x, x1, S1, o1, rv1, go1⟩ => ?_)
  refine thn (hr.run pos pins s1 σ H1 (fun vs H2 => Q (v' :: vs) H2) I1 ⟨F1, e1, S1, (Go.bind go1).mono fun xs e2 F2 H2 x2 S2 k vs o2 rv2 => ?_⟩) fun us s2 ⟨xs, H2, I2, r2, q2⟩ => ⟨v' :: xs, H2, I2, .cons r1 r2, q2⟩
  exact k F2 H2 (Ex.refl F2) S2 (v' :: vs) ⟨o1, o2⟩ ⟨v', vs, rfl, rv1.later o1 x2, rv2⟩
/-- an argument list, then the rest -/
theorem paGo {β : Type} {es : List Expr} {d : Env' → Res (List Val)} {f : List Val → Env' → Res β} {K : β → Env' → Hp → Hp → Prop} (h : PA X es (tAs g d)) (pos : Pos) (I : Inv X pins σ H s) (S : Stt g F H σ env) (go : Go g F σ ((d env).bind f) K) :
    wpAny (model X.prog X.w) X.A (spliced (backTo pos (starEach es X.env))) (AP X pins σ fun vs H1 => ∃ F1 env1 xs, Ex F F1 ∧ Stt g F1 H1 σ env1 ∧ AllOld xs ∧ RVs g F1 H1 σ env1 xs vs ∧ Go g F1 σ (f xs env1) K) X.xe s := by
  refine h.run pos pins s σ H _ I ⟨F, env, S, ?_⟩
  exact (Go.bind go).mono fun xs e F' H' e1 S1 k vs o r => ⟨F', e, xs, e1, S1, o, r, k⟩
theorem RVs.length : ∀ {xs : List Val} {vs : List V}, RVs g F H σ env xs vs → vs.length = xs.length
  | [], vs, r => by
    have e : vs = [] := r
    rw [e]; rfl
  | x :: xs, vs, r => by
    obtain ⟨v, t, e1, r1, r2⟩ := r
    rw [e1, List.length_cons, List.length_cons, RVs.length r2]
/-! ### displays -/
def dLst (ds : List (Env' → Res Val)) : Env' → Res Val := fun e => (dArgs ds e).bind fun xs e1 => (frzs xs e1).bind fun ps e2 => if ps.length ≤ big then .ok (.new (.lst ps)) e2 else .bad
def dTup (ds : List (Env' → Res Val)) : Env' → Res Val := fun e => (dArgs ds e).bind fun xs e1 => (frzs xs e1).bind fun ps e2 => if ps.length ≤ big then .ok (.fz (.tup ps)) e2 else .bad
theorem disp_go {xs : List Val} {vs : List V} {mk : List PV → Val} {K : Val → Env' → Hp → Hp → Prop} (o : AllOld xs) (S : Stt g F H σ env) (r : RVs g F H σ env xs vs) (go : Go g F σ ((frzs xs env).bind fun ps e2 => if ps.length ≤ big then .ok (mk ps) e2 else .bad) K) :
    ∃ F' ps env', Ex F F' ∧ Stt g F' H σ env' ∧ Rs g.C F' ps vs ∧ vs.length ≤ sizeLine ∧ ∀ F2 H2, Ex F' F2 → Stt g F2 H2 σ env' → K (mk ps) env' F2 H2 := by
  obtain ⟨F1, ps, e1, x1, S1, q1, go1⟩ := frzs_go o S r go
  by_cases h : ps.length ≤ big
  · rw [if_pos h] at go1
    exact ⟨F1, ps, e1, x1, S1, q1, by rw [big_eq, q1.length]; exact h, go1⟩
  · rw [if_neg h] at go1; exact go1.elim
theorem se_lst {es : List Expr} {ds : List (Env' → Res Val)} (h : PA X es (tAs g (dArgs ds))) : PE X (.List es pos) (tE g (dLst ds)) :=
  peImp (pe_lst h) fun σ H Q ⟨F, env, S, go⟩ => ⟨F, env, S, (Go.bind go).mono fun xs e1 F1 H1 x1 S1 k vs o rv => by
    obtain ⟨F2, ps, e2, x2, S2, q2, hl, k2⟩ := disp_go o S1 rv k
    exact ⟨hl, fun p hp => fin_lst S2 hp q2 fun F3 H3 w x3 S3 rw => k2 F3 H3 x3 S3 w rw⟩⟩
theorem se_tup {es : List Expr} {x1 : Nat} {ds : List (Env' → Res Val)} (h : PA X es (tAs g (dArgs ds))) : PE X (.Tuple es x1 pos) (tE g (dTup ds)) :=
  peImp (pe_tup h) fun σ H Q ⟨F, env, S, go⟩ => ⟨F, env, S, (Go.bind go).mono fun xs e1 F1 H1 x1 S1 k vs o rv => by
    obtain ⟨F2, ps, e2, x2, S2, q2, hl, k2⟩ := disp_go o S1 rv k
    exact ⟨hl, fun p hp => fin_tup S2 hp q2 fun F3 H3 w x3 S3 rw => k2 F3 H3 x3 S3 w rw⟩⟩

/-! ### builtins called -/
def opN (sem : List PV → Option Val) (xs : List Val) (e : Env') : Res Val := match peeks e xs with
  | some ps => toVal (sem ps) e
  | none => .bad
def dCall (sem : List PV → Option Val) (ds : List (Env' → Res Val)) : Env' → Res Val := fun e => (dArgs ds e).bind fun xs e1 => opN sem xs e1
theorem peeks_ok (S : Stt g F H σ env) : ∀ {xs : List Val} {vs : List V} {ps : List PV}, RVs g F H σ env xs vs → peeks env xs = some ps → Rts g.C F H ps vs
  | [], vs, ps, r, h => by
    simp only [peeks, Option.some.injEq] at h; subst h
    exact r
  | x :: xs, vs, ps, r, h => by
    obtain ⟨v, t, rfl, r1, r2⟩ := r
    simp only [peeks] at h
    cases h1 : peek x env with
    | none => simp only [h1] at h; cases h
    | some p =>
      cases h2 : peeks env xs with
      | none => simp only [h1, h2] at h; cases h
      | some qs =>
        simp only [h1, h2, Option.some.injEq] at h; subst h
        exact ⟨v, t, rfl, peek_ok S r1 h1, peeks_ok S r2 h2⟩
theorem opN_go {f : List Value → Sem Value} {sem : List PV → Option Val} {xs : List Val} {vs : List V} {us : List Value} {K : Val → Env' → Hp → Hp → Prop} (ho : OpN X g f sem) (I : Inv X pins σ H s) (S : Stt g F H σ env) (r : Vals vs us)
    (t : RVs g F H σ env xs vs) (go : Go g F σ (opN sem xs env) K) : wpAny (model X.prog X.w) X.A (f us) (EP X pins σ fun w H' => ∃ F' r, Ex F F' ∧ Stt g F' H' σ env ∧ RV g F' H' σ env r w ∧ K r env F' H') X.xe s := by
  unfold opN at go
  cases e1 : peeks env xs with
  | none => rw [e1] at go; exact go.elim
  | some ps =>
    simp only [e1] at go
    cases e3 : sem ps with
    | none => rw [e3] at go; exact go.elim
    | some r' =>
      rw [e3] at go
      exact ho pins s σ F H env ps vs us r' _ I S r (peeks_ok S t e1) e3 fun F' H' w ex S' rv => ⟨F', r', ex, S', rv, go F' H' ex S'⟩
section
variable {x : Str} {p : Pos} {e : Expr} {es : List Expr} {ds : List (Env' → Res Val)} {id T : String} {sem : List PV → Option Val}
theorem se_callB (ho : OpN X g (fun us => PySem.call (.builtin id) us) sem) (hg : Gl X x) (hm : X.mg x = none) (hv : bootBuiltins x = some (.builtin id)) (ha : PA X (e :: es) (tAs g (dArgs ds))) (hn : x ≠ "__name__") (hdb : (x == ("__debug__" : Str)) = false)
    (he : starEach (e :: es) X.env = (false, eval e X.env) :: starEach es X.env) (hpl : (backTo pos (starEach es X.env)).any (·.1) = false) : PE X (.Call (.Name x p) (e :: es) [] pos) (tE g (dCall sem ds)) := by
  refine ⟨fun pins s σ H Q I ⟨F, env, S, go⟩ => ?_⟩
  refine wpAny_Call_Name_kw (ld_blt I hg hm hv ?_ hn hdb)
  refine PyProof.Rows.callWith_builtin1 (thn (paGo ha pos I S go) fun us s1 ⟨vs, H1, I1, r1, F1, e1, xs, x1, S1, o1, rv1, go1⟩ => ?_) he hpl
  exact thn (opN_go ho I1 S1 r1 rv1 go1) fun w s3 ⟨w', H3, I3, r3, F3, r, ex, S3, rv, k⟩ => ⟨w', H3, I3, r3, k w' rv⟩
theorem se_callTy (ho : OpN X g (fun us => PySem.call (.type T) us) sem) (hg : Gl X x) (hm : X.mg x = none) (hv : bootBuiltins x = some (.type T)) (ha : PA X (e :: es) (tAs g (dArgs ds))) (hn : x ≠ "__name__") (hdb : (x == ("__debug__" : Str)) = false)
    (he : starEach (e :: es) X.env = (false, eval e X.env) :: starEach es X.env) (hpl : (backTo pos (starEach es X.env)).any (·.1) = false) : PE X (.Call (.Name x p) (e :: es) [] pos) (tE g (dCall sem ds)) := by
  refine ⟨fun pins s σ H Q I ⟨F, env, S, go⟩ => ?_⟩
  refine wpAny_Call_Name_kw (ld_blt I hg hm hv ?_ hn hdb)
  refine PyProof.Rows.callWith_type1 (thn (paGo ha pos I S go) fun us s1 ⟨vs, H1, I1, r1, F1, e1, xs, x1, S1, o1, rv1, go1⟩ => ?_) he hpl
  exact thn (opN_go ho I1 S1 r1 rv1 go1) fun w s3 ⟨w', H3, I3, r3, F3, r, ex, S3, rv, k⟩ => ⟨w', H3, I3, r3, k w' rv⟩
end

/-! ### subscripts -/
def OpIx (X : Cx) (g : Gm) (sem : PV → PV → Option Val) : Prop := ∀ value slice, (∀ v u, subscripted slice false v u = operate [v, u] (getItem v u)) → Op2 X g (subscriptTail value slice) sem
theorem OpIx.or {s1 s2 : PV → PV → Option Val} (h1 : OpIx X g s1) (h2 : OpIx X g s2) : OpIx X g (fun p q => match s1 p q with | some r => some r | none => s2 p q) := fun v sl hs => (h1 v sl hs).or (h2 v sl hs)
theorem se_ix {sem : PV → PV → Option Val} (ho : OpIx X g sem) (ha : PE X a (tE g da)) (hb : PE X b (tE g db)) (hs : PlainIx b) : PE X (.Subscript a b pos) (tE g (dBin sem da db)) := by
  refine ⟨fun pins s σ H Q I ⟨F, env, S, go⟩ => Subscript_ (thn (peGo ha I S go) fun v s1 ⟨v', H1, I1, r1, F1, e1, x, x1, S1, o1, rv1, go1⟩ => ?_)⟩
  refine thn (peGo hb I1 S1 go1) fun u s2 ⟨u', H2, I2, r2, F2, e2, y, x2, S2, o2, rv2, go2⟩ => ?_
  exact thn (op2_go (ho a b hs) I2 S2 r1 r2 (rv1.later o1 x2) rv2 go2) fun w s3 ⟨w', H3, I3, r3, F3, r, ex, S3, rv, k⟩ => ⟨w', H3, I3, r3, k w' rv⟩
end
end VL

set_option maxRecDepth 100000
set_option maxHeartbeats 2000000
namespace VL
open PySem PySem.Spec L2
open PyProof.Rows hiding St

/-! ### data -/
mutual
def toD : PV → Option PyData
  | .non => some .none
  | .bl b => some (.bool b)
  | .int i => some (.int i)
  | .str x => some (.str x)
  | .tup xs => (toDs xs).map .tuple
  | .lst xs => (toDs xs).map .list
  | _ => none
def toDs : List PV → Option (List PyData)
  | [] => some []
  | x :: xs => match toD x, toDs xs with
    | some d, some ds => some (d :: ds)
    | _, _ => none
end
mutual
theorem R.dp {C : Ct} {H : Hp} : ∀ {p : PV} {v : V} {d : PyData}, R C H p v → toD p = some d → Dp C.K H v d
  | .non, v, d, h, e => by
    unfold R at h; subst h; unfold toD at e; cases e; exact .non
  | .bl b, v, d, h, e => by
    unfold R at h; subst h; unfold toD at e; cases e; exact .bl b
  | .int b, v, d, h, e => by
    unfold R at h; subst h; unfold toD at e; cases e; exact .int b
  | .str b, v, d, h, e => by
    unfold R at h; subst h; unfold toD at e; cases e; exact .str b
  | .tup xs, v, d, h, e => by
    unfold R at h; unfold toD at e
    obtain ⟨a, vs, rfl, q, r⟩ := h
    cases h1 : toDs xs with
    | none => rw [h1] at e; cases e
    | some ds =>
      rw [h1] at e
      simp only [Option.map_some, Option.some.injEq] at e; subst e
      exact .tup (SqT.of q) (Rs.dps r h1)
  | .lst xs, v, d, h, e => by
    unfold R at h; unfold toD at e
    obtain ⟨a, vs, rfl, q, r⟩ := h
    cases h1 : toDs xs with
    | none => rw [h1] at e; cases e
    | some ds =>
      rw [h1] at e
      simp only [Option.map_some, Option.some.injEq] at e; subst e
      exact .lst (SqL.of q) (Rs.dps r h1)
  | .scr ns, v, d, h, e => by unfold toD at e; cases e
  | .dK _ _, v, d, h, e => by unfold toD at e; cases e
  | .dT _ _, v, d, h, e => by unfold toD at e; cases e
  | .ins _ _, v, d, h, e => by unfold toD at e; cases e
theorem Rs.dps {C : Ct} {H : Hp} : ∀ {p : List PV} {v : List V} {d : List PyData}, Rs C H p v → toDs p = some d → DpAll C.K H v d
  | [], v, d, h, e => by
    rw [h.nil_inv]; unfold toDs at e; cases e; exact .nil
  | x :: xs, v, d, h, e => by
    obtain ⟨w, r, rfl, q, t⟩ := h.cons_inv
    unfold toDs at e
    cases h1 : toD x with
    | none => simp only [h1] at e; cases e
    | some d1 =>
      cases h2 : toDs xs with
      | none => simp only [h1, h2] at e; cases e
      | some ds =>
        simp only [h1, h2, Option.some.injEq] at e; subst e
        exact .cons (R.dp q h1) (Rs.dps t h2)
end
/-- flat ones -/
def flatP : PV → Option V
  | .non => some .non
  | .bl b => some (.bl b)
  | .int i => some (.int i)
  | .str x => some (.str x)
  | _ => none
def flats : List PV → Option (List V)
  | [] => some []
  | x :: xs => match flatP x, flats xs with
    | some d, some ds => some (d :: ds)
    | _, _ => none
theorem flatP_r {C : Ct} {F : Hp} {p : PV} {v w : V} (h : R C F p v) (e : flatP p = some w) : v = w ∧ flatV w = true := by
  cases p <;> simp only [flatP] at e <;> cases e <;> unfold R at h <;> exact ⟨h, rfl⟩
theorem flatP_rt {C : Ct} {F H : Hp} {p : PV} {v w : V} (h : Rt C F H p v) (e : flatP p = some w) : v = w ∧ flatV w = true := by
  cases p <;> simp only [flatP] at e <;> cases e <;> simp only [Rt] at h <;> exact ⟨h, rfl⟩
theorem flats_r {C : Ct} {F : Hp} : ∀ {p : List PV} {v w : List V}, Rs C F p v → flats p = some w → v = w ∧ w.all flatV = true
  | [], v, w, h, e => by
    rw [h.nil_inv]; simp only [flats, Option.some.injEq] at e; subst e; exact ⟨rfl, rfl⟩
  | x :: xs, v, w, h, e => by
    obtain ⟨y, r, rfl, q, t⟩ := h.cons_inv
    simp only [flats] at e
    cases h1 : flatP x with
    | none => simp only [h1] at e; cases e
    | some d1 =>
      cases h2 : flats xs with
      | none => simp only [h1, h2] at e; cases e
      | some ds =>
        simp only [h1, h2, Option.some.injEq] at e; subst e
        obtain ⟨rfl, f1⟩ := flatP_r q h1
        obtain ⟨rfl, f2⟩ := flats_r t h2
        exact ⟨rfl, by rw [List.all_cons, f1, f2]; rfl⟩
/-! ### keys -/
def keyP : PV → Option Key
  | .int i => some (.inl i)
  | .str x => some (.inr x)
  | _ => none
def keysP : List PV → Option (List Key)
  | [] => some []
  | x :: xs => match keyP x, keysP xs with
    | some d, some ds => some (d :: ds)
    | _, _ => none
theorem keyP_r {C : Ct} {F : Hp} {p : PV} {v : V} {k : Key} (h : R C F p v) (e : keyP p = some k) : v = kV k := by
  cases p <;> simp only [keyP] at e <;> cases e <;> unfold R at h <;> exact h
theorem keyP_rt {C : Ct} {F H : Hp} {p : PV} {v : V} {k : Key} (h : Rt C F H p v) (e : keyP p = some k) : v = kV k := by
  cases p <;> simp only [keyP] at e <;> cases e <;> simp only [Rt] at h <;> exact h
theorem keysP_r {C : Ct} {F : Hp} : ∀ {p : List PV} {v : List V} {k : List Key}, Rs C F p v → keysP p = some k → v = k.map kV
  | [], v, w, h, e => by
    rw [h.nil_inv]; simp only [keysP, Option.some.injEq] at e; subst e; rfl
  | x :: xs, v, w, h, e => by
    obtain ⟨y, r, rfl, q, t⟩ := h.cons_inv
    simp only [keysP] at e
    cases h1 : keyP x with
    | none => simp only [h1] at e; cases e
    | some d1 =>
      cases h2 : keysP xs with
      | none => simp only [h1, h2] at e; cases e
      | some ds =>
        simp only [h1, h2, Option.some.injEq] at e; subst e
        rw [keyP_r q h1, keysP_r t h2]; rfl
def look {κ : Type} [DecidableEq κ] : List κ → List PV → κ → Option PV
  | k :: ks, v :: vs, j => if k = j then some v else look ks vs j
  | _, _, _ => none
theorem look_r {κ : Type} [DecidableEq κ] {C : Ct} {F : Hp} : ∀ {kvs : List (κ × V)} {xs : List PV} (j : κ), Rs C F xs (kvs.map Prod.snd) → (match look (kvs.map Prod.fst) xs j with | some p => ∃ v, valV kvs j = some v ∧ R C F p v | none => valV kvs j = none)
  | [], xs, j, h => by
    have : xs = [] := by
      cases xs with
      | nil => rfl
      | cons x xs => obtain ⟨v, r, e, _⟩ := h.cons_inv; cases e
    subst this
    exact rfl
  | (k, v) :: kvs, [], j, h => by
    have := h.nil_inv; cases this
  | (k, v) :: kvs, x :: xs, j, h => by
    obtain ⟨y, r, e, q, t⟩ := h.cons_inv
    simp only [List.map_cons, List.cons.injEq] at e
    obtain ⟨rfl, rfl⟩ := e
    simp only [List.map_cons, look]
    by_cases hk : k = j
    · rw [if_pos hk]
      exact ⟨v, valV_pos hk, q⟩
    · rw [if_neg hk]
      have ih := look_r (kvs := kvs) j t
      rw [valV_neg hk]
      exact ih
def putP {κ : Type} [DecidableEq κ] (ks : List κ) (vs : List PV) (k : κ) (v : PV) : List κ × List PV :=
  if k ∈ ks then (ks, List.zipWith (fun j x => if j = k then v else x) ks vs) else (ks ++ [k], vs ++ [v])
theorem putP_r {κ : Type} [DecidableEq κ] {C : Ct} {F : Hp} {kvs : List (κ × V)} {xs : List PV} {k : κ} {p : PV} {v : V} (h : Rs C F xs (kvs.map Prod.snd)) (r : R C F p v) :
    (putK kvs k v).map Prod.fst = (putP (kvs.map Prod.fst) xs k p).1 ∧ Rs C F (putP (kvs.map Prod.fst) xs k p).2 ((putK kvs k v).map Prod.snd) := by
  unfold putP putK
  have e : (kvs.any fun kv => decide (kv.1 = k)) = decide (k ∈ kvs.map Prod.fst) := by
    induction kvs generalizing xs with
    | nil => rfl
    | cons a l ih =>
      have hh : ∃ ys, Rs C F ys (l.map Prod.snd) := by
        cases xs with
        | nil => have := h.nil_inv; cases this
        | cons y ys => obtain ⟨w, t, e, q, u⟩ := h.cons_inv; simp only [List.map_cons, List.cons.injEq] at e; rw [← e.2] at u; exact ⟨ys, u⟩
      obtain ⟨ys, hy⟩ := hh
      rw [List.any_cons, ih hy, List.map_cons]
      by_cases hk : a.1 = k
      · simp [hk]
      · have hk' : ¬ k = a.1 := fun z => hk z.symm
        simp [hk, hk']
  rw [e]
  by_cases hk : k ∈ kvs.map Prod.fst
  · rw [if_pos hk, decide_eq_true hk]
    simp only [if_true]
    clear e hk
    induction kvs generalizing xs with
    | nil =>
      cases xs with
      | nil => exact ⟨by simp, by simpa using Rs.nil⟩
      | cons y ys => obtain ⟨w, t, e, _⟩ := h.cons_inv; cases e
    | cons a l ih =>
      cases xs with
      | nil => have := h.nil_inv; cases this
      | cons y ys =>
        obtain ⟨w, t, e, q, u⟩ := h.cons_inv
        simp only [List.map_cons, List.cons.injEq] at e
        obtain ⟨rfl, rfl⟩ := e
        obtain ⟨i1, i2⟩ := ih u
        simp only [List.map_cons, List.zipWith_cons_cons]
        refine ⟨?_, Rs.cons ?_ i2⟩
        · rw [i1]
          by_cases ha : a.1 = k <;> simp [ha]
        · by_cases ha : a.1 = k
          · simp only [ha, if_true]; exact r
          · simp only [ha, if_false]; exact q
  · rw [if_neg hk, decide_eq_false hk]
    simp only [Bool.false_eq_true, if_false, List.map_append, List.map_cons, List.map_nil]
    exact ⟨trivial, h.snoc r⟩
def dropP {κ : Type} [DecidableEq κ] : List κ → List PV → κ → List κ × List PV
  | k :: ks, v :: vs, j => if k = j then dropP ks vs j else (k :: (dropP ks vs j).1, v :: (dropP ks vs j).2)
  | _, _, _ => ([], [])
end VL

set_option maxRecDepth 100000
set_option maxHeartbeats 2000000
namespace VL
open PySem PySem.Spec L2
open PyProof.Rows hiding St
/-- what the rules of operations lean on -/
structure Ok (X : Cx) (g : Gm) : Prop where
  K : g.C.K = X.K
  u : X.A.units + 65 < cLine
  calm : X.calm = true
theorem Ok.u1 {X : Cx} {g : Gm} (h : Ok X g) : X.A.units + 1 < cLine := by have := h.u; omega
theorem Ok.u64 {X : Cx} {g : Gm} (h : Ok X g) : X.A.units + 64 < cLine := by have := h.u; omega
theorem Ok.u0 {X : Cx} {g : Gm} (h : Ok X g) : X.A.units < cLine := by have := h.u; omega
def I2 (f : Int → Int → Int) : PV → PV → Option Val
  | .int i, .int j => some (.fz (.int (f i j)))
  | _, _ => none
def semAdd : PV → PV → Option Val
  | .int i, .int j => some (.fz (.int (i + j)))
  | .str x, .str y => if x.length + y.length ≤ big then some (.fz (.str (x ++ y))) else none
  | .lst xs, .lst ys => if xs.length + ys.length ≤ big then some (.new (.lst (xs ++ ys))) else none
  | .tup xs, .tup ys => if xs ≠ [] ∧ ys ≠ [] ∧ xs.length + ys.length ≤ big then some (.fz (.tup (xs ++ ys))) else if xs ≠ [] ∧ ys = [] ∧ xs.length ≤ big then some (.fz (.tup xs)) else none
  | _, _ => none
def semSub : PV → PV → Option Val
  | .int i, .int j => some (.fz (.int (i - j)))
  | _, _ => none
/-- (this way the kernel never counts down from a great number) -/
instance (i j : Int) : Decidable (CMulX i j) := decidable_of_iff (Nat.ble (Builtin.Int.intBits i + Builtin.Int.intBits j) 134217728 = true) (by unfold CMulX; rw [Nat.ble_eq]; omega)
def r62 (j : Int) : Bool := Nat.ble j.natAbs 4611686018427387903
theorem r62_ok {j : Int} (h : r62 j = true) : -(2 ^ 62) ≤ j ∧ j < 2 ^ 62 := by
  unfold r62 at h
  rw [Nat.ble_eq] at h
  omega
theorem r62_of {j : Int} (h1 : -4611686018427387904 < j) (h2 : j < 4611686018427387904) : r62 j = true := by
  unfold r62
  rw [Nat.ble_eq]
  omega
instance (i j : Int) : Decidable (CPow i j) := by unfold CPow; infer_instance
instance (i j : Int) : Decidable (CDivW i j) := by unfold CDivW; infer_instance
def semMul : PV → PV → Option Val
  | .int i, .int j => if CMulX i j then some (.fz (.int (i * j))) else none
  | .lst xs, .int k => if -(2 ^ 63) ≤ k ∧ k < 2 ^ 63 ∧ xs.length * k.toNat ≤ big then some (.new (.lst (List.replicate k.toNat xs).flatten)) else none
  | _, _ => none
def semDiv : PV → PV → Option Val
  | .int i, .int j => if CDivW i j then some (.fz (.int (i / j))) else none
  | _, _ => none
def semMod : PV → PV → Option Val
  | .int i, .int j => if 0 < j then some (.fz (.int (i % j))) else none
  | _, _ => none
def semPow : PV → PV → Option Val
  | .int i, .int j => if CPow i j then some (.fz (.int (i ^ j.toNat))) else none
  | _, _ => none
def semShl : PV → PV → Option Val
  | .int i, .int j => if CPow i j then some (.fz (.int (i * 2 ^ j.toNat))) else none
  | _, _ => none
def semShr : PV → PV → Option Val
  | .int i, .int j => if 0 ≤ j then some (.fz (.int (i / 2 ^ j.toNat))) else none
  | _, _ => none
def semAnd : PV → PV → Option Val
  | .int i, .int j => some (.fz (.int (Builtin.bitAnd i j)))
  | _, _ => none
section
variable {X : Cx} {g : Gm}
theorem rt_int {C : Ct} {F H : Hp} {i : Int} {v : V} (h : Rt C F H (.int i) v) : v = .int i := h
theorem rt_str {C : Ct} {F H : Hp} {i : Str} {v : V} (h : Rt C F H (.str i) v) : v = .str i := h
theorem rt_bl {C : Ct} {F H : Hp} {i : Bool} {v : V} (h : Rt C F H (.bl i) v) : v = .bl i := h
theorem rep_rs {C : Ct} {F : Hp} {xs : List PV} {vs : List V} (h : Rs C F xs vs) : ∀ k : Nat, Rs C F (List.replicate k xs).flatten (List.replicate k vs).flatten
  | 0 => Rs.nil
  | k + 1 => by
    rw [List.replicate_succ, List.replicate_succ, List.flatten_cons, List.flatten_cons]
    exact h.append (rep_rs h k)
theorem o_add : Op2 X g (binaryOp .Add) semAdd := by
  intro pins s σ F H env p q v u vv uu r Q I S r1 r2 t1 t2 e k
  cases p <;> cases q <;> simp only [semAdd] at e <;> try (cases e; done)
  · cases e; cases rt_int t1; cases rt_int t2
    exact op_add pins s σ H _ _ vv uu Q I r1 r2 ⟨_, _, rfl, rfl, fin_int S k⟩
  · split at e
    · rename_i hl
      cases e; cases rt_str t1; cases rt_str t2
      exact op_add_str pins s σ H _ _ vv uu Q I r1 r2 ⟨_, _, rfl, rfl, by rw [big_eq]; exact hl, fin_str S k⟩
    · cases e
  · obtain ⟨a, vs, rfl, q1, s1, f1⟩ := t1
    obtain ⟨b, ws, rfl, q2, s2, f2⟩ := t2
    split at e
    · rename_i hl
      obtain ⟨h1, h2, h3⟩ := hl
      cases e
      refine op_catT pins s σ H _ _ vv uu Q I r1 r2 ⟨a, b, vs, ws, rfl, rfl, SqT.of q1, SqT.of q2, ?_, ?_, ?_, ?_⟩
      · intro z; apply h1; have := s1.length; rw [z] at this; exact List.eq_nil_of_length_eq_zero this.symm
      · rw [s1.length, s2.length, big_eq]; exact h3
      · intro z; exfalso; apply h2; have := s2.length; rw [z] at this; exact List.eq_nil_of_length_eq_zero this.symm
      · exact fun _ p hp => fin_tup S hp (s1.append s2) k
    · split at e
      · rename_i hl
        obtain ⟨h1, h2, h3⟩ := hl
        cases e
        refine op_catT pins s σ H _ _ vv uu Q I r1 r2 ⟨a, b, vs, ws, rfl, rfl, SqT.of q1, SqT.of q2, ?_, ?_, ?_, ?_⟩
        · intro z; apply h1; have := s1.length; rw [z] at this; exact List.eq_nil_of_length_eq_zero this.symm
        · rw [s1.length, s2.length, big_eq, h2]; exact h3
        · intro _
          exact k F H _ (Ex.refl F) S (by show R _ _ _ _; unfold R; exact ⟨a, vs, rfl, f1, s1⟩)
        · intro z; exfalso; apply z; subst h2; exact s2.nil_inv
      · cases e
  · obtain ⟨a, vs, rfl, q1, s1⟩ := t1
    obtain ⟨b, ws, rfl, q2, s2⟩ := t2
    split at e
    · rename_i hl
      cases e
      exact op_cat pins s σ H _ _ vv uu Q I r1 r2 ⟨a, b, vs, ws, rfl, rfl, q1, q2, by rw [s1.length, s2.length, big_eq]; exact hl, fun p hp => fin_lst S hp (s1.append s2) k⟩
    · cases e
theorem o_sub : Op2 X g (binaryOp .Sub) semSub := by
  intro pins s σ F H env p q v u vv uu r Q I S r1 r2 t1 t2 e k
  cases p <;> cases q <;> simp only [semSub] at e <;> try (cases e; done)
  cases e; cases rt_int t1; cases rt_int t2
  exact op_sub pins s σ H _ _ vv uu Q I r1 r2 ⟨_, _, rfl, rfl, fin_int S k⟩
theorem o_mul : Op2 X g (binaryOp .Mult) semMul := by
  intro pins s σ F H env p q v u vv uu r Q I S r1 r2 t1 t2 e k
  cases p <;> cases q <;> simp only [semMul] at e <;> try (cases e; done)
  · split at e
    · rename_i hc
      cases e; cases rt_int t1; cases rt_int t2
      exact op_mulX pins s σ H _ _ vv uu Q I r1 r2 ⟨_, _, rfl, rfl, hc, fin_int S k⟩
    · cases e
  · split at e
    · rename_i hc
      obtain ⟨h1, h2, h3⟩ := hc
      cases e; cases rt_int t2
      obtain ⟨a, vs, rfl, q1, s1⟩ := t1
      exact op_rep pins s σ H _ _ vv uu Q I r1 r2 ⟨a, _, vs, rfl, rfl, q1, h1, h2, by rw [s1.length, big_eq]; exact h3, fun p hp => fin_lst S hp (rep_rs s1 _) k⟩
    · cases e
theorem o_div : Op2 X g (binaryOp .FloorDiv) semDiv := by
  intro pins s σ F H env p q v u vv uu r Q I S r1 r2 t1 t2 e k
  cases p <;> cases q <;> simp only [semDiv] at e <;> try (cases e; done)
  split at e
  · rename_i hc
    cases e; cases rt_int t1; cases rt_int t2
    exact op_fdivW pins s σ H _ _ vv uu Q I r1 r2 ⟨_, _, rfl, rfl, hc, fin_int S k⟩
  · cases e
theorem o_mod : Op2 X g (binaryOp .Mod) semMod := by
  intro pins s σ F H env p q v u vv uu r Q I S r1 r2 t1 t2 e k
  cases p <;> cases q <;> simp only [semMod] at e <;> try (cases e; done)
  split at e
  · rename_i hc
    cases e; cases rt_int t1; cases rt_int t2
    exact op_mod pins s σ H _ _ vv uu Q I r1 r2 ⟨_, _, rfl, rfl, hc, fin_int S k⟩
  · cases e
theorem o_pow : Op2 X g (binaryOp .Pow) semPow := by
  intro pins s σ F H env p q v u vv uu r Q I S r1 r2 t1 t2 e k
  cases p <;> cases q <;> simp only [semPow] at e <;> try (cases e; done)
  split at e
  · rename_i hc
    cases e; cases rt_int t1; cases rt_int t2
    exact op_pow pins s σ H _ _ vv uu Q I r1 r2 ⟨_, _, rfl, rfl, hc, fin_int S k⟩
  · cases e
theorem o_shl : Op2 X g (binaryOp .LShift) semShl := by
  intro pins s σ F H env p q v u vv uu r Q I S r1 r2 t1 t2 e k
  cases p <;> cases q <;> simp only [semShl] at e <;> try (cases e; done)
  split at e
  · rename_i hc
    cases e; cases rt_int t1; cases rt_int t2
    exact op_shl pins s σ H _ _ vv uu Q I r1 r2 ⟨_, _, rfl, rfl, hc, fin_int S k⟩
  · cases e
theorem o_shr : Op2 X g (binaryOp .RShift) semShr := by
  intro pins s σ F H env p q v u vv uu r Q I S r1 r2 t1 t2 e k
  cases p <;> cases q <;> simp only [semShr] at e <;> try (cases e; done)
  split at e
  · rename_i hc
    cases e; cases rt_int t1; cases rt_int t2
    exact op_shr pins s σ H _ _ vv uu Q I r1 r2 ⟨_, _, rfl, rfl, hc, fin_int S k⟩
  · cases e
theorem o_and : Op2 X g (binaryOp .BitAnd) semAnd := by
  intro pins s σ F H env p q v u vv uu r Q I S r1 r2 t1 t2 e k
  cases p <;> cases q <;> simp only [semAnd] at e <;> try (cases e; done)
  cases e; cases rt_int t1; cases rt_int t2
  exact op_and pins s σ H _ _ vv uu Q I r1 r2 ⟨_, _, rfl, rfl, fin_int S k⟩
def semNeg : PV → Option Val
  | .int i => some (.fz (.int (-i)))
  | _ => none
theorem o_neg : Op1 X g (unaryOp .USub) semNeg := by
  intro pins s σ F H env p v vv r Q I S r1 t1 e k
  cases p <;> simp only [semNeg] at e <;> try (cases e; done)
  cases e; cases rt_int t1
  exact un_neg pins s σ H _ vv Q I r1 ⟨_, rfl, fin_int S k⟩
/-! ### comparisons -/
def semLt : PV → PV → Option Val
  | .int i, .int j => some (.fz (.bl (decide (i < j))))
  | .str x, .str y => some (.fz (.bl (decide (x.cps.toList < y.cps.toList))))
  | _, _ => none
def semLe : PV → PV → Option Val
  | .int i, .int j => some (.fz (.bl (decide (i ≤ j))))
  | _, _ => none
def semGt : PV → PV → Option Val
  | .int i, .int j => some (.fz (.bl (decide (j < i))))
  | _, _ => none
def semGe : PV → PV → Option Val
  | .int i, .int j => some (.fz (.bl (decide (j ≤ i))))
  | _, _ => none
def eqP (p q : PV) : Option Bool := match toD p, toD q with
  | some d, some e => if SeqAt.shaped d = true ∧ SeqAt.shaped e = true then some (PyData.eqv d e) else none
  | _, _ => none
def semEq (p q : PV) : Option Val := (eqP p q).map fun b => .fz (.bl b)
def semNe (p q : PV) : Option Val := (eqP p q).map fun b => .fz (.bl (!b))
def semIs : PV → PV → Option Val
  | .bl a, .bl b => some (.fz (.bl (decide (a = b))))
  | p, .non => match p with
    | .non => some (.fz (.bl true))
    | _ => some (.fz (.bl false))
  | _, _ => none
def semIsNot : PV → PV → Option Val
  | .bl a, .bl b => some (.fz (.bl (!decide (a = b))))
  | p, .non => match p with
    | .non => some (.fz (.bl false))
    | _ => some (.fz (.bl true))
  | _, _ => none
theorem o_lt : Op2 X g (compareOp .Lt) semLt := by
  intro pins s σ F H env p q v u vv uu r Q I S r1 r2 t1 t2 e k
  cases p <;> cases q <;> simp only [semLt] at e <;> try (cases e; done)
  · cases e; cases rt_int t1; cases rt_int t2
    exact op_lt pins s σ H _ _ vv uu Q I r1 r2 ⟨_, _, rfl, rfl, fin_bl S k⟩
  · cases e; cases rt_str t1; cases rt_str t2
    exact op_lt_str pins s σ H _ _ vv uu Q I r1 r2 ⟨_, _, rfl, rfl, fin_bl S k⟩
theorem o_le : Op2 X g (compareOp .LtE) semLe := by
  intro pins s σ F H env p q v u vv uu r Q I S r1 r2 t1 t2 e k
  cases p <;> cases q <;> simp only [semLe] at e <;> try (cases e; done)
  · cases e; cases rt_int t1; cases rt_int t2
    exact op_le pins s σ H _ _ vv uu Q I r1 r2 ⟨_, _, rfl, rfl, fin_bl S k⟩
theorem o_gt : Op2 X g (compareOp .Gt) semGt := by
  intro pins s σ F H env p q v u vv uu r Q I S r1 r2 t1 t2 e k
  cases p <;> cases q <;> simp only [semGt] at e <;> try (cases e; done)
  · cases e; cases rt_int t1; cases rt_int t2
    exact op_gt pins s σ H _ _ vv uu Q I r1 r2 ⟨_, _, rfl, rfl, fin_bl S k⟩
theorem o_ge : Op2 X g (compareOp .GtE) semGe := by
  intro pins s σ F H env p q v u vv uu r Q I S r1 r2 t1 t2 e k
  cases p <;> cases q <;> simp only [semGe] at e <;> try (cases e; done)
  · cases e; cases rt_int t1; cases rt_int t2
    exact op_ge pins s σ H _ _ vv uu Q I r1 r2 ⟨_, _, rfl, rfl, fin_bl S k⟩
theorem o_eq (ok : Ok X g) : Op2 X g (compareOp .Eq) semEq := by
  intro pins s σ F H env p q v u vv uu r Q I S r1 r2 t1 t2 e k
  unfold semEq eqP at e
  cases h1 : toD p with
  | none => simp only [h1] at e; cases e
  | some d1 =>
    cases h2 : toD q with
    | none => simp only [h1, h2] at e; cases e
    | some d2 =>
      simp only [h1, h2] at e
      split at e
      · rename_i hs
        cases e
        refine op_eqD ok.u64 pins s σ H _ _ vv uu Q I r1 r2 ⟨d1, d2, ?_, ?_, hs.1, hs.2, fin_bl S k⟩
        · rw [← ok.K]; exact R.dp (t1.r S.sub) h1
        · rw [← ok.K]; exact R.dp (t2.r S.sub) h2
      · cases e
theorem o_ne (ok : Ok X g) : Op2 X g (compareOp .NotEq) semNe := by
  intro pins s σ F H env p q v u vv uu r Q I S r1 r2 t1 t2 e k
  unfold semNe eqP at e
  cases h1 : toD p with
  | none => simp only [h1] at e; cases e
  | some d1 =>
    cases h2 : toD q with
    | none => simp only [h1, h2] at e; cases e
    | some d2 =>
      simp only [h1, h2] at e
      split at e
      · rename_i hs
        cases e
        refine op_neD ok.u64 pins s σ H _ _ vv uu Q I r1 r2 ⟨d1, d2, ?_, ?_, hs.1, hs.2, fin_bl S k⟩
        · rw [← ok.K]; exact R.dp (t1.r S.sub) h1
        · rw [← ok.K]; exact R.dp (t2.r S.sub) h2
      · cases e
theorem rt_non {C : Ct} {F H : Hp} {p : PV} {v : V} (h : Rt C F H p v) : decide (v = .non) = (match p with | .non => true | _ => false) := by
  cases p <;> simp only [Rt] at h
  · subst h; rfl
  · subst h; rfl
  · subst h; rfl
  · subst h; rfl
  all_goals
    obtain ⟨a, h⟩ := h
  · obtain ⟨vs, rfl, _⟩ := h; rfl
  · obtain ⟨vs, rfl, _⟩ := h; rfl
  · obtain ⟨rfl, _⟩ := h; rfl
  · obtain ⟨kvs, rfl, _⟩ := h; rfl
  · obtain ⟨kvs, rfl, _⟩ := h; rfl
  · obtain ⟨dx, fs, rfl, _⟩ := h; rfl
  · obtain ⟨vs, rfl, _⟩ := h; rfl
theorem o_is : Op2 X g (compareOp .Is) semIs := by
  intro pins s σ F H env p q v u vv uu r Q I S r1 r2 t1 t2 e k
  cases q <;> (try (cases p <;> simp only [semIs] at e <;> cases e; done))
  · have u' : u = .non := t2
    refine op_isN pins s σ H v u vv uu Q I r1 r2 ⟨u', ?_⟩
    rw [rt_non t1]
    cases p <;> simp only [semIs] at e <;> cases e <;> exact fin_bl S k
  · cases p <;> simp only [semIs] at e <;> cases e
    cases rt_bl t1; cases rt_bl t2
    exact op_isBl pins s σ H _ _ vv uu Q I r1 r2 ⟨_, _, rfl, rfl, fin_bl S k⟩
theorem o_isnot : Op2 X g (compareOp .IsNot) semIsNot := by
  intro pins s σ F H env p q v u vv uu r Q I S r1 r2 t1 t2 e k
  cases q <;> (try (cases p <;> simp only [semIsNot] at e <;> cases e; done))
  · have u' : u = .non := t2
    refine op_notN pins s σ H v u vv uu Q I r1 r2 ⟨u', ?_⟩
    rw [rt_non t1]
    cases p <;> simp only [semIsNot] at e <;> cases e <;> exact fin_bl S k
  · cases p <;> simp only [semIsNot] at e <;> cases e
    cases rt_bl t1; cases rt_bl t2
    exact op_notBl pins s σ H _ _ vv uu Q I r1 r2 ⟨_, _, rfl, rfl, fin_bl S k⟩
end
end VL

set_option maxRecDepth 100000
set_option maxHeartbeats 2000000
namespace VL
open PySem PySem.Spec L2
open PyProof.Rows hiding St

/-! ### in -/
def inP (p q : PV) : Option Bool := match q with
  | .dK ks vs => (keyP p).map fun k => (look ks vs k).isSome
  | .dT ks vs => match p with
    | .tup xs => (keysP xs).map fun k => (look ks vs k).isSome
    | _ => none
  | .lst xs => match flatP p, flats xs with
    | some x, some ys => some (inV x ys)
    | _, _ => match toD p, toDs xs with
      | some d, some ds => if SeqAt.shaped d = true ∧ SeqAt.shaped (.list ds) = true then some (ds.any fun z => PyData.eqv z d) else none
      | _, _ => none
  | .tup xs => match flatP p, flats xs with
    | some x, some ys => some (inV x ys)
    | _, _ => none
  | .str y => match p with
    | .str ⟨⟨[c]⟩⟩ => some (decide (c ∈ y.cps.toList))
    | _ => none
  | _ => none
def semIn (p q : PV) : Option Val := (inP p q).map fun b => .fz (.bl b)
def semNotIn (p q : PV) : Option Val := (inP p q).map fun b => .fz (.bl (!b))
section
variable {X : Cx} {g : Gm}
theorem rt_tup {C : Ct} {F H : Hp} {xs : List PV} {v : V} (h : Rt C F H (.tup xs) v) : ∃ a vs, v = .ref a ∧ H a = some (.tup vs) ∧ Rs C F xs vs := by
  obtain ⟨a, vs, h1, h2, h3, _⟩ := h; exact ⟨a, vs, h1, h2, h3⟩
theorem look_dget {C : Ct} {F H : Hp} {p : PV} {ks : List Key} {xs : List PV} {k : Key} {v u : V} (hd : Rt C F H (.dK ks xs) v) (hk : Rt C F H p u) (e : keyP p = some k) :
    ∃ a o, v = .ref a ∧ DGet H a u o ∧ (match look ks xs k with | some x => ∃ w, o = some w ∧ R C F x w | none => o = none) := by
  obtain ⟨a, kvs, rfl, q, rfl, r⟩ := hd
  exact ⟨a, valV kvs k, rfl, .inl ⟨kvs, k, q, keyP_rt hk e, rfl⟩, look_r k r⟩
theorem look_dgetT {C : Ct} {F H : Hp} {ps : List PV} {ks : List (List Key)} {xs : List PV} {k : List Key} {v u : V} (hd : Rt C F H (.dT ks xs) v) (hk : Rt C F H (.tup ps) u) (e : keysP ps = some k) :
    ∃ a o, v = .ref a ∧ DGet H a u o ∧ (match look ks xs k with | some x => ∃ w, o = some w ∧ R C F x w | none => o = none) := by
  obtain ⟨a, kvs, rfl, q, rfl, r⟩ := hd
  obtain ⟨b, us, rfl, q2, r2⟩ := rt_tup hk
  have e2 := keysP_r r2 e
  subst e2
  exact ⟨a, valV kvs k, rfl, .inr ⟨kvs, k, b, q, rfl, q2, rfl⟩, look_r k r⟩
theorem look_isSome {C : Ct} {F : Hp} {o : Option V} {l : Option PV} (h : match l with | some x => ∃ w, o = some w ∧ R C F x w | none => o = none) : o.isSome = l.isSome := by
  cases l with
  | none => simp only at h; subst h; rfl
  | some x => obtain ⟨w, rfl, _⟩ := h; rfl
theorem in_run (ok : Ok X g) (neg : Bool) {pins : List (Addr × Obj)} {s : Shared} {σ : St} {F H : Hp} {env : Env'} {p q : PV} {v u : V} {vv uu : Value} {b : Bool} {Q : VK} (I : Inv X pins σ H s) (S : Stt g F H σ env) (r1 : RelV v vv) (r2 : RelV u uu)
    (t1 : Rt g.C F H p v) (t2 : Rt g.C F H q u) (e : inP p q = some b) (k : Q (.bl (if neg then !b else b)) H) : wpAny (model X.prog X.w) X.A (compareOp (if neg then .NotIn else .In) vv uu) (EP X pins σ Q) X.xe s := by
  have seqc : ∀ {a : Addr} {xs : List PV} {vs : List V} {x : V} {ys : List V}, u = .ref a → (SqL X.K H a vs ∨ SqT X.K H a vs) → Rs g.C F xs vs → flatP p = some x → flats xs = some ys → b = inV x ys → wpAny (model X.prog X.w) X.A (compareOp (if neg then .NotIn else .In) vv uu) (EP X pins σ Q) X.xe s := by
    intro a xs vs x ys e1 hq hr h1 h2 e2
    obtain ⟨e3, f1⟩ := flatP_rt t1 h1
    obtain ⟨e4, f2⟩ := flats_r hr h2
    subst e3 e4 e2
    cases neg with
    | false => exact op_in_seq pins s σ H _ _ vv uu Q I r1 r2 ⟨a, _, e1, hq, f1, f2, k⟩
    | true => exact op_notIn_seq pins s σ H _ _ vv uu Q I r1 r2 ⟨a, _, e1, hq, f1, f2, k⟩
  cases q <;> simp only [inP] at e <;> try (cases e; done)
  · -- str
    split at e
    · rename_i c
      cases e
      cases rt_str t1; cases rt_str t2
      cases neg with
      | false => exact op_in_sign pins s σ H _ _ vv uu Q I r1 r2 ⟨c, _, rfl, rfl, k⟩
      | true => exact op_notIn_sign pins s σ H _ _ vv uu Q I r1 r2 ⟨c, _, rfl, rfl, k⟩
    · cases e
  · -- tup
    rename_i xs
    obtain ⟨a, vs, e1, h1, h2⟩ := rt_tup t2
    cases f1 : flatP p with
    | none => simp only [f1] at e; cases e
    | some x =>
      cases f2 : flats xs with
      | none => simp only [f1, f2] at e; cases e
      | some ys =>
        simp only [f1, f2, Option.some.injEq] at e
        exact seqc e1 (.inr (SqT.of h1)) h2 f1 f2 e.symm
  · -- lst
    rename_i xs
    obtain ⟨a, vs, e1, h1, h2⟩ := t2
    have deep : (match toD p, toDs xs with | some d, some ds => if SeqAt.shaped d = true ∧ SeqAt.shaped (.list ds) = true then some (ds.any fun z => PyData.eqv z d) else none | _, _ => none) = some b →
        wpAny (model X.prog X.w) X.A (compareOp (if neg then .NotIn else .In) vv uu) (EP X pins σ Q) X.xe s := by
      intro e
      cases g1 : toD p with
      | none => simp only [g1] at e; cases e
      | some d =>
        cases g2 : toDs xs with
        | none => simp only [g1, g2] at e; cases e
        | some ds =>
          simp only [g1, g2] at e
          split at e
          · rename_i hs
            cases e
            have d1 : Dp X.K H v d := by rw [← ok.K]; exact R.dp (t1.r S.sub) g1
            have d2 : Dp X.K H u (.list ds) := by
              rw [← ok.K, e1]
              exact .lst (SqL.of h1) (Rs.dps (h2.mono S.sub) g2)
            cases neg with
            | false => exact op_inD ok.u pins s σ H _ _ vv uu Q I r1 r2 ⟨d, ds, d1, d2, hs.1, hs.2, k⟩
            | true => exact op_notInD ok.u pins s σ H _ _ vv uu Q I r1 r2 ⟨d, ds, d1, d2, hs.1, hs.2, k⟩
          · cases e
    cases f1 : flatP p with
    | none => simp only [f1] at e; exact deep e
    | some x =>
      cases f2 : flats xs with
      | none => simp only [f1, f2] at e; exact deep e
      | some ys =>
        simp only [f1, f2, Option.some.injEq] at e
        exact seqc e1 (.inl (SqL.of h1)) h2 f1 f2 e.symm
  · -- dK
    cases f1 : keyP p with
    | none => rw [f1] at e; cases e
    | some kk =>
      rw [f1] at e
      simp only [Option.map_some, Option.some.injEq] at e
      obtain ⟨a, o, rfl, hg, hl⟩ := look_dget t2 t1 f1
      have hs := look_isSome hl
      obtain rfl : uu = Value.ref a := r2
      rw [← e, ← hs] at k
      cases neg with
      | false => exact d_in ok.u1 I hg r1 fun s' I' => ⟨.bl o.isSome, H, I', rfl, k⟩
      | true => exact d_notIn ok.u1 I hg r1 fun s' I' => ⟨.bl (!o.isSome), H, I', rfl, k⟩
  · -- dT
    cases p <;> simp only at e <;> try (cases e; done)
    rename_i ps
    cases f1 : keysP ps with
    | none => rw [f1] at e; cases e
    | some kk =>
      rw [f1] at e
      simp only [Option.map_some, Option.some.injEq] at e
      obtain ⟨a, o, rfl, hg, hl⟩ := look_dgetT t2 t1 f1
      have hs := look_isSome hl
      obtain rfl : uu = Value.ref a := r2
      rw [← e, ← hs] at k
      cases neg with
      | false => exact d_in ok.u1 I hg r1 fun s' I' => ⟨.bl o.isSome, H, I', rfl, k⟩
      | true => exact d_notIn ok.u1 I hg r1 fun s' I' => ⟨.bl (!o.isSome), H, I', rfl, k⟩
theorem o_in (ok : Ok X g) : Op2 X g (compareOp .In) semIn := by
  intro pins s σ F H env p q v u vv uu r Q I S r1 r2 t1 t2 e k
  unfold semIn at e
  cases h : inP p q with
  | none => rw [h] at e; cases e
  | some b =>
    rw [h] at e; cases e
    exact in_run ok false I S r1 r2 t1 t2 h (fin_bl S k)
theorem o_notIn (ok : Ok X g) : Op2 X g (compareOp .NotIn) semNotIn := by
  intro pins s σ F H env p q v u vv uu r Q I S r1 r2 t1 t2 e k
  unfold semNotIn at e
  cases h : inP p q with
  | none => rw [h] at e; cases e
  | some b =>
    rw [h] at e; cases e
    exact in_run ok true I S r1 r2 t1 t2 h (fin_bl S k)

/-! ### a[b] -/
def semIx : PV → PV → Option Val
  | .lst xs, .int i => (atI xs i).map .fz
  | .tup xs, .int i => (atI xs i).map .fz
  | .scr ns, .int i => (atI ns i).map fun n => .fz (.int n)
  | .str x, .int i => if x.length ≤ big then (atI x.cps.toList i).map fun c => .fz (.str ⟨#[c]⟩) else none
  | .dK ks vs, p => (keyP p).bind fun k => (look ks vs k).map .fz
  | .dT ks vs, .tup xs => (keysP xs).bind fun k => (look ks vs k).map .fz
  | _, _ => none
theorem Rs.at {C : Ct} {F : Hp} {xs : List PV} {vs : List V} {i : Int} {x : PV} (h : Rs C F xs vs) (e : atI xs i = some x) : ∃ v, atI vs i = some v ∧ R C F x v := by
  unfold atI at e ⊢
  rw [h.length]
  cases q : ixN xs.length i with
  | none => rw [q] at e; cases e
  | some j =>
    rw [q] at e
    simp only [Option.bind_some] at e ⊢
    exact h.get e
theorem dict_tail (ok : Ok X g) {pins : List (Addr × Obj)} {s : Shared} {σ : St} {H : Hp} {value slice : Expr} {a : Addr} {u w : V} {uu : Value} {Q : VK} (hs : ∀ v u, subscripted slice false v u = operate [v, u] (getItem v u)) (I : Inv X pins σ H s) (r2 : RelV u uu) (hg : DGet H a u (some w)) (k : Q w H) :
    wpAny (model X.prog X.w) X.A (subscriptTail value slice (.ref a) uu) (EP X pins σ Q) X.xe s :=
  tail_any (dict_typeIs I hg) PySem.F.slot_dict_getitem.lookup (d_getItem ok.u1 I hg r2 fun w' s' I' rw' => ⟨w, H, I', rw', k⟩) (hs _ _)
theorem o_ix (ok : Ok X g) : OpIx X g semIx := by
  intro value slice hs pins s σ F H env p q v u vv uu r Q I S r1 r2 t1 t2 e k
  have lk : ∀ {a : Addr} {o : Option V} {l : Option PV} {w : Val}, v = .ref a → DGet H a u o → (match l with | some x => ∃ w, o = some w ∧ R g.C F x w | none => o = none) → l.map Val.fz = some r → wpAny (model X.prog X.w) X.A (subscriptTail value slice vv uu) (EP X pins σ Q) X.xe s := by
    intro a o l w e1 hg hl e2
    subst e1
    obtain rfl : vv = Value.ref a := r1
    cases l with
    | none => cases e2
    | some x =>
      cases e2
      obtain ⟨w, rfl, rw'⟩ := hl
      exact dict_tail ok hs I r2 hg (fin_fz S rw' k)
  cases p <;> try (simp only [semIx] at e; cases e; done)
  · -- str
    cases q <;> simp only [semIx] at e <;> try (cases e; done)
    split at e
    · rename_i x i hl
      cases h : atI x.cps.toList i with
      | none => rw [h] at e; cases e
      | some c =>
        rw [h] at e; cases e
        cases rt_str t1; cases rt_int t2
        exact ix_str value slice pins s σ H _ _ vv uu Q I r1 r2 ⟨x, i, c, rfl, rfl, by rw [big_eq]; exact hl, h, fin_str S k⟩ (hs _ _)
    · cases e
  · -- tup
    cases q <;> simp only [semIx] at e <;> try (cases e; done)
    rename_i xs i
    cases h : atI xs i with
    | none => rw [h] at e; cases e
    | some x =>
      rw [h] at e; cases e
      obtain ⟨a, vs, rfl, h1, h2⟩ := rt_tup t1
      cases rt_int t2
      obtain ⟨w, h3, h4⟩ := h2.at h
      exact ix_tup value slice pins s σ H _ _ vv uu Q I r1 r2 ⟨a, vs, i, w, rfl, rfl, SqT.of h1, h3, fin_fz S h4 k⟩ (hs _ _)
  · -- lst
    cases q <;> simp only [semIx] at e <;> try (cases e; done)
    rename_i xs i
    cases h : atI xs i with
    | none => rw [h] at e; cases e
    | some x =>
      rw [h] at e; cases e
      obtain ⟨a, vs, rfl, h1, h2⟩ := t1
      cases rt_int t2
      obtain ⟨w, h3, h4⟩ := h2.at h
      exact ix_list value slice pins s σ H _ _ vv uu Q I r1 r2 ⟨a, vs, i, w, rfl, rfl, SqL.of h1, h3, fin_fz S h4 k⟩ (hs _ _)
  · -- scr
    cases q <;> simp only [semIx] at e <;> try (cases e; done)
    rename_i ns i
    cases h : atI ns i with
    | none => rw [h] at e; cases e
    | some n =>
      rw [h] at e; cases e
      obtain ⟨a, rfl, h1⟩ := t1
      cases rt_int t2
      have h3 : atI (ns.map V.int) i = some (.int n) := by
        unfold atI at h ⊢
        rw [List.length_map]
        cases q : ixN ns.length i with
        | none => rw [q] at h; cases h
        | some j =>
          rw [q] at h
          simp only [Option.bind_some] at h ⊢
          rw [List.getElem?_map, h]; rfl
      rw [ok.K] at h1
      exact ix_list value slice pins s σ H _ _ vv uu Q I r1 r2 ⟨a, _, i, _, rfl, rfl, h1, h3, fin_int S k⟩ (hs _ _)
  · -- dK
    rename_i ks xs
    simp only [semIx] at e
    cases f1 : keyP q with
    | none => rw [f1] at e; cases e
    | some kk =>
      rw [f1] at e
      obtain ⟨a, o, e1, hg, hl⟩ := look_dget t1 t2 f1
      exact lk (w := r) e1 hg hl e
  · -- dT
    rename_i ks xs
    cases q <;> simp only [semIx] at e <;> try (cases e; done)
    rename_i ps
    cases f1 : keysP ps with
    | none => rw [f1] at e; cases e
    | some kk =>
      rw [f1] at e
      obtain ⟨a, o, e1, hg, hl⟩ := look_dgetT t1 t2 f1
      exact lk (w := r) e1 hg hl e
end
end VL

set_option maxRecDepth 100000
set_option maxHeartbeats 2000000
namespace VL
open PySem PySem.Spec L2
open PyProof.Rows hiding St

/-- readings of settled values, for terms of the layer's readings -/
def tEo (g : Gm) (d : Env' → Res Val) : TE := fun σ H Q => ∃ F env, Stt g F H σ env ∧ Go g F σ (stl d env) fun x env' F' H' => ∀ v, x.old → RV g F' H' σ env' x v → Q v H'
section
variable {X : Cx} {g : Gm} {pins : List (Addr × Obj)} {F H : Hp} {σ : St} {env : Env'} {s : Shared} {a b c : Expr} {da db dc : Env' → Res Val} {pos : Pos}
theorem peo (h : PE X a (tE g da)) : PE X a (tEo g da) := by
  refine ⟨fun pins s σ H Q I ⟨F, env, S, go⟩ => h.run pins s σ H Q I ⟨F, env, S, ?_⟩⟩
  unfold stl at go
  refine (Go.bind go).mono fun x e F' H' e1 S1 k v r => ?_
  exact settle (Q := Q) S1 r fun F2 e2 S2 r2 => k F2 H' e2 S2 v x.stl_old r2

/-! ### slices -/
def cutL {α : Type} (xs : List α) (lo hi : Option Int) : List α := (xs.drop (HT.sIx xs.length 0 lo)).take (HT.sIx xs.length xs.length hi - HT.sIx xs.length 0 lo)
theorem cutL_r {C : Ct} {xs : List PV} {vs : List V} (h : Rs C F xs vs) (lo hi : Option Int) : Rs C F (cutL xs lo hi) (cutV vs lo hi) := by
  unfold cutL cutV
  rw [h.length]
  exact (h.drop _).take _
def semSl (p : PV) (lo hi : Option Int) : Option Val := match p with
  | .lst xs => some (.new (.lst (cutL xs lo hi)))
  | .scr ns => some (.new (.lst ((cutL ns lo hi).map .int)))
  | .tup xs => if ¬ (HT.sIx xs.length 0 lo = 0 ∧ HT.sIx xs.length xs.length hi = xs.length) then some (.fz (.tup (cutL xs lo hi))) else none
  | .str x => if x.length ≤ big then some (.fz (.str (Txt.slice x lo hi))) else none
  | _ => none
def partOf (d : Option (Env' → Res Val)) (e : Env') : Res (Option Int) := match d with
  | none => .ok none e
  | some d => (stl d e).bind fun x e1 => match x with
    | .fz (.int i) => .ok (some i) e1
    | _ => .bad
def dSl (da : Env' → Res Val) (lo hi : Option (Env' → Res Val)) : Env' → Res Val := fun e => (stl da e).bind fun x e1 => (partOf lo e1).bind fun l e2 => (partOf hi e2).bind fun h e3 => match peek x e3 with
  | some p => toVal (semSl p l h) e3
  | none => .bad
/-- a slice's part -/
def tPo (g : Gm) (d : Option (Env' → Res Val)) : TO := fun σ H Q => ∃ F env, Stt g F H σ env ∧ Go g F σ (partOf d env) fun l env' F' H' => Q l H'
theorem poImp {e : Option Expr} {t t' : TO} (h : PO X e t) (k : ∀ σ H Q, t' σ H Q → t σ H Q) : PO X e t' := ⟨fun pins s σ H Q I q => h.run pins s σ H Q I (k σ H Q q)⟩
theorem spo_none : PO X none (tPo g none) := poImp po_none fun σ H Q ⟨F, env, S, go⟩ => go F H (Ex.refl F) S
theorem spo_some (h : PE X a (tE g da)) : PO X (some a) (tPo g (some da)) := poImp (po_some (peo h)) fun σ H Q ⟨F, env, S, go⟩ => ⟨F, env, S, (Go.bind go).mono fun x e F1 H1 e1 S1 k v o r => by
  cases x with
  | bor i => exact k.elim
  | new p => exact k.elim
  | fz p =>
    cases p <;> try exact k.elim
    rename_i i
    have r' : R g.C F1 (.int i) v := r
    unfold R at r'
    exact ⟨i, r', k F1 H1 (Ex.refl F1) S1⟩⟩
def rSlAll (K : PySem.W.Frag) : V → Option Int → Option Int → Hp → VK → Prop := fun x lo hi H Q => rSlL K x lo hi H Q ∨ rSlT K x lo hi H Q ∨ C8.rSlX x lo hi H Q
theorem sl_all : SlR X (rSlAll X.K) := sl_list.or (sl_tup.or C8.sl_txt)
theorem semSl_ok (ok : Ok X g) {p : PV} {v : V} {lo hi : Option Int} {r : Val} {Q : VK} (S : Stt g F H σ env) (t : Rt g.C F H p v) (e : semSl p lo hi = some r)
    (k : ∀ F' H' w, Ex F F' → Stt g F' H' σ env → RV g F' H' σ env r w → Q w H') : rSlAll X.K v lo hi H Q := by
  cases p <;> simp only [semSl] at e <;> try (cases e; done)
  · split at e
    · rename_i hl
      cases e; cases rt_str t
      exact .inr (.inr ⟨_, rfl, by rw [big_eq]; exact hl, fin_str S k⟩)
    · cases e
  · rename_i xs
    split at e
    · rename_i hw'
      cases e
      obtain ⟨a, vs, rfl, h1, h2⟩ := rt_tup t
      refine .inr (.inl ⟨a, vs, rfl, SqT.of h1, by rw [h2.length]; exact hw', fun p hp => fin_tup S hp (cutL_r h2 lo hi) k⟩)
    · cases e
  · cases e
    obtain ⟨a, vs, rfl, h1, h2⟩ := t
    exact .inl ⟨a, vs, rfl, SqL.of h1, fun p hp => fin_lst S hp (cutL_r h2 lo hi) k⟩
  · rename_i ns
    cases e
    obtain ⟨a, rfl, h1⟩ := t
    rw [ok.K] at h1
    refine .inl ⟨a, _, rfl, h1, fun p hp => fin_lst S hp ?_ k⟩
    have e2 : cutV (ns.map V.int) lo hi = (cutL ns lo hi).map V.int := by
      unfold cutV cutL
      rw [List.length_map, List.map_take, List.map_drop]
    rw [e2]
    exact Rs.of_ints _

/-! ### calls on values -/
def intsP : List PV → Option (List Int)
  | [] => some []
  | .int i :: xs => (intsP xs).map (i :: ·)
  | _ => none
def boolsP : List PV → Option (List Bool)
  | [] => some []
  | .bl i :: xs => (boolsP xs).map (i :: ·)
  | _ => none
theorem ints_eq : ∀ {xs : List PV} {ns : List Int}, intsP xs = some ns → xs = ns.map PV.int
  | [], ns, h => by simp only [intsP, Option.some.injEq] at h; subst h; rfl
  | x :: xs, ns, h => by
    cases x <;> simp only [intsP] at h <;> try (cases h; done)
    cases h1 : intsP xs with
    | none => rw [h1] at h; cases h
    | some ms =>
      rw [h1] at h; cases h
      rw [ints_eq h1]; rfl
theorem bools_eq : ∀ {xs : List PV} {ns : List Bool}, boolsP xs = some ns → xs = ns.map PV.bl
  | [], ns, h => by simp only [boolsP, Option.some.injEq] at h; subst h; rfl
  | x :: xs, ns, h => by
    cases x <;> simp only [boolsP] at h <;> try (cases h; done)
    cases h1 : boolsP xs with
    | none => rw [h1] at h; cases h
    | some ms =>
      rw [h1] at h; cases h
      rw [bools_eq h1]; rfl
theorem ints_map (ns : List Int) : intsP (ns.map PV.int) = some ns := by
  induction ns with
  | nil => rfl
  | cons n ns ih => simp only [List.map_cons, intsP, ih, Option.map_some]
theorem bools_map (ns : List Bool) : boolsP (ns.map PV.bl) = some ns := by
  induction ns with
  | nil => rfl
  | cons n ns ih => simp only [List.map_cons, boolsP, ih, Option.map_some]
def maxL : List Int → Int
  | [] => 0
  | [x] => x
  | x :: xs => max x (maxL xs)
def minL : List Int → Int
  | [] => 0
  | [x] => x
  | x :: xs => min x (minL xs)
theorem maxL_mem : ∀ {xs : List Int}, xs ≠ [] → maxL xs ∈ xs ∧ ∀ y ∈ xs, y ≤ maxL xs
  | [], h => absurd rfl h
  | [x], _ => by simp [maxL]
  | x :: y :: r, _ => by
    obtain ⟨h1, h2⟩ := maxL_mem (xs := y :: r) (by simp)
    show max x (maxL (y :: r)) ∈ x :: y :: r ∧ ∀ z ∈ x :: y :: r, z ≤ max x (maxL (y :: r))
    refine ⟨?_, fun z hz => ?_⟩
    · by_cases h : x ≤ maxL (y :: r)
      · rw [Int.max_eq_right h]; exact List.mem_cons_of_mem _ h1
      · rw [Int.max_eq_left (by omega)]; exact List.mem_cons_self
    · rcases List.mem_cons.mp hz with rfl | hz
      · omega
      · have := h2 z hz; omega
theorem minL_mem : ∀ {xs : List Int}, xs ≠ [] → minL xs ∈ xs ∧ ∀ y ∈ xs, minL xs ≤ y
  | [], h => absurd rfl h
  | [x], _ => by simp [minL]
  | x :: y :: r, _ => by
    obtain ⟨h1, h2⟩ := minL_mem (xs := y :: r) (by simp)
    show min x (minL (y :: r)) ∈ x :: y :: r ∧ ∀ z ∈ x :: y :: r, min x (minL (y :: r)) ≤ z
    refine ⟨?_, fun z hz => ?_⟩
    · by_cases h : x ≤ minL (y :: r)
      · rw [Int.min_eq_left h]; exact List.mem_cons_self
      · rw [Int.min_eq_right (by omega)]; exact List.mem_cons_of_mem _ h1
    · rcases List.mem_cons.mp hz with rfl | hz
      · omega
      · have := h2 z hz; omega
def semLen : List PV → Option Val
  | [.lst xs] => some (.fz (.int xs.length))
  | [.tup xs] => some (.fz (.int xs.length))
  | [.scr xs] => some (.fz (.int xs.length))
  | [.dK ks _] => some (.fz (.int ks.length))
  | [.str x] => if x.length ≤ big then some (.fz (.int x.length)) else none
  | _ => none
def semInt : List PV → Option Val
  | [.int i] => some (.fz (.int i))
  | [.bl b] => some (.fz (.int (if b then 1 else 0)))
  | _ => none
def semStr : List PV → Option Val
  | [.int i] => if i.natAbs.log2 < 1920 then some (.fz (.str (toString i))) else none
  | _ => none
def semAbs : List PV → Option Val
  | [.int i] => some (.fz (.int (if i < 0 then -i else i)))
  | _ => none
def semMax : List PV → Option Val
  | [.int i, .int j] => some (.fz (.int (if j > i then j else i)))
  | [.lst xs] => match intsP xs with
    | some (n :: ns) => some (.fz (.int (maxL (n :: ns))))
    | _ => none
  | [.tup xs] => match intsP xs with
    | some (n :: ns) => some (.fz (.int (maxL (n :: ns))))
    | _ => none
  | _ => none
def semMin : List PV → Option Val
  | [.int i, .int j] => some (.fz (.int (if j < i then j else i)))
  | [.lst xs] => match intsP xs with
    | some (n :: ns) => some (.fz (.int (minL (n :: ns))))
    | _ => none
  | _ => none
def semSum : List PV → Option Val
  | [.lst xs] => (intsP xs).map fun ns => .fz (.int ns.sum)
  | _ => none
def semAll : List PV → Option Val
  | [.lst xs] => (boolsP xs).map fun ns => .fz (.bl (ns.all id))
  | _ => none
def semAny : List PV → Option Val
  | [.lst xs] => (boolsP xs).map fun ns => .fz (.bl (ns.any id))
  | _ => none
def semList : List PV → Option Val
  | [.lst xs] => some (.new (.lst xs))
  | [.tup xs] => some (.new (.lst xs))
  | [.scr ns] => some (.new (.lst (ns.map .int)))
  | _ => none
def semTuple : List PV → Option Val
  | [.lst xs] => some (.fz (.tup xs))
  | [.tup xs] => some (.fz (.tup xs))
  | _ => none
theorem rts1 {C : Ct} {p : PV} {vs : List V} (h : Rts C F H [p] vs) : ∃ v, vs = [v] ∧ Rt C F H p v := by
  obtain ⟨v, r, rfl, h1, h2⟩ := h
  have : r = [] := h2
  subst this
  exact ⟨v, rfl, h1⟩
theorem rts2 {C : Ct} {p q : PV} {vs : List V} (h : Rts C F H [p, q] vs) : ∃ v u, vs = [v, u] ∧ Rt C F H p v ∧ Rt C F H q u := by
  obtain ⟨v, r, rfl, h1, h2⟩ := h
  obtain ⟨u, rfl, h3⟩ := rts1 h2
  exact ⟨v, u, rfl, h1, h3⟩
theorem c_len (ok : Ok X g) : OpN X g (fun us => PySem.call (.builtin "len") us) semLen := by
  intro pins s σ F H env ps vs us r Q I S rv t e k
  unfold semLen at e
  split at e
  · cases e
    obtain ⟨v, rfl, h⟩ := rts1 t
    obtain ⟨a, ws, rfl, h1, h2⟩ := h
    exact call_len pins s σ H _ us Q I rv ⟨_, _, rfl, .inl ⟨ws, SqL.of h1, rfl⟩, by rw [h2.length]; exact fin_int S k⟩
  · cases e
    obtain ⟨v, rfl, h⟩ := rts1 t
    obtain ⟨a, ws, rfl, h1, h2⟩ := rt_tup h
    exact call_len pins s σ H _ us Q I rv ⟨_, _, rfl, .inr ⟨ws, SqT.of h1, rfl⟩, by rw [h2.length]; exact fin_int S k⟩
  · cases e
    obtain ⟨v, rfl, h⟩ := rts1 t
    obtain ⟨a, rfl, h1⟩ := h
    rw [ok.K] at h1
    exact call_len pins s σ H _ us Q I rv ⟨_, _, rfl, .inl ⟨_, h1, rfl⟩, by rw [List.length_map]; exact fin_int S k⟩
  · cases e
    obtain ⟨v, rfl, h⟩ := rts1 t
    obtain ⟨a, kvs, rfl, h1, rfl, h2⟩ := h
    rw [Vals.ref1 rv]
    exact d_len I h1 fun t' s' I' => ⟨.int kvs.length, H, I', ⟨_, rfl⟩, by rw [List.length_map] at k; exact fin_int S k⟩
  · split at e
    · rename_i hl
      cases e
      obtain ⟨v, rfl, h⟩ := rts1 t
      cases rt_str h
      exact call_len pins s σ H _ us Q I rv ⟨_, _, rfl, ⟨by rw [big_eq]; exact hl, rfl⟩, fin_int S k⟩
    · cases e
  · cases e
theorem c_int : OpN X g (fun us => PySem.call (.type "int") us) semInt := by
  intro pins s σ F H env ps vs us r Q I S rv t e k
  unfold semInt at e
  split at e
  · cases e
    obtain ⟨v, rfl, h⟩ := rts1 t
    cases rt_int h
    exact call_int1 pins s σ H _ us Q I rv (.inl ⟨_, rfl, fin_int S k⟩)
  · cases e
    obtain ⟨v, rfl, h⟩ := rts1 t
    cases rt_bl h
    exact call_int1 pins s σ H _ us Q I rv (.inr ⟨_, rfl, fin_int S k⟩)
  · cases e
theorem c_str : OpN X g (fun us => PySem.call (.type "str") us) semStr := by
  intro pins s σ F H env ps vs us r Q I S rv t e k
  unfold semStr at e
  split at e
  · split at e
    · rename_i hl
      cases e
      obtain ⟨v, rfl, h⟩ := rts1 t
      cases rt_int h
      exact call_str_int pins s σ H _ us Q I rv ⟨_, rfl, hl, fin_str S k⟩
    · cases e
  · cases e
theorem c_abs : OpN X g (fun us => PySem.call (.builtin "abs") us) semAbs := by
  intro pins s σ F H env ps vs us r Q I S rv t e k
  unfold semAbs at e
  split at e
  · cases e
    obtain ⟨v, rfl, h⟩ := rts1 t
    cases rt_int h
    exact call_abs pins s σ H _ us Q I rv ⟨_, rfl, fin_int S k⟩
  · cases e
theorem sqI {C : Ct} {xs : List PV} {ns : List Int} {v : V} (h : Rt C F H (.lst xs) v) (e : intsP xs = some ns) : ∃ a, v = .ref a ∧ H a = some (.lst (ns.map V.int)) := by
  obtain ⟨a, vs, rfl, h1, h2⟩ := h
  rw [ints_eq e] at h2
  rw [h2.ints_of] at h1
  exact ⟨a, rfl, h1⟩
theorem sqIT {C : Ct} {xs : List PV} {ns : List Int} {v : V} (h : Rt C F H (.tup xs) v) (e : intsP xs = some ns) : ∃ a, v = .ref a ∧ H a = some (.tup (ns.map V.int)) := by
  obtain ⟨a, vs, rfl, h1, h2⟩ := rt_tup h
  rw [ints_eq e] at h2
  rw [h2.ints_of] at h1
  exact ⟨a, rfl, h1⟩
theorem sqB {C : Ct} {xs : List PV} {ns : List Bool} {v : V} (h : Rt C F H (.lst xs) v) (e : boolsP xs = some ns) : ∃ a, v = .ref a ∧ H a = some (.lst (ns.map V.bl)) := by
  obtain ⟨a, vs, rfl, h1, h2⟩ := h
  rw [bools_eq e] at h2
  rw [h2.bls_of] at h1
  exact ⟨a, rfl, h1⟩
theorem c_sum (ok : Ok X g) : OpN X g (fun us => PySem.call (.builtin "sum") us) semSum := by
  intro pins s σ F H env ps vs us r Q I S rv t e k
  unfold semSum at e
  split at e
  · rename_i xs
    cases h1 : intsP xs with
    | none => rw [h1] at e; cases e
    | some ns =>
      rw [h1] at e; cases e
      obtain ⟨v, rfl, h⟩ := rts1 t
      obtain ⟨a, rfl, h2⟩ := sqI h h1
      exact cr_sum ok.calm pins s σ H _ us Q I rv ⟨a, ns, rfl, SqL.of h2, fin_int S k⟩
  · cases e
theorem c_all (ok : Ok X g) : OpN X g (fun us => PySem.call (.builtin "all") us) semAll := by
  intro pins s σ F H env ps vs us r Q I S rv t e k
  unfold semAll at e
  split at e
  · rename_i xs
    cases h1 : boolsP xs with
    | none => rw [h1] at e; cases e
    | some ns =>
      rw [h1] at e; cases e
      obtain ⟨v, rfl, h⟩ := rts1 t
      obtain ⟨a, rfl, h2⟩ := sqB h h1
      exact cr_all ok.calm pins s σ H _ us Q I rv ⟨a, ns, rfl, SqL.of h2, fin_bl S k⟩
  · cases e
theorem c_any (ok : Ok X g) : OpN X g (fun us => PySem.call (.builtin "any") us) semAny := by
  intro pins s σ F H env ps vs us r Q I S rv t e k
  unfold semAny at e
  split at e
  · rename_i xs
    cases h1 : boolsP xs with
    | none => rw [h1] at e; cases e
    | some ns =>
      rw [h1] at e; cases e
      obtain ⟨v, rfl, h⟩ := rts1 t
      obtain ⟨a, rfl, h2⟩ := sqB h h1
      exact cr_any ok.calm pins s σ H _ us Q I rv ⟨a, ns, rfl, SqL.of h2, fin_bl S k⟩
  · cases e
/-- max of a tuple of intsP -/
theorem iter_intTup {A : Around} {E : Value → Shared → Prop} {s : Shared} {l : Addr} {xs : Array (Int × Tok)} {Q : Value → Shared → Prop} (hl : s.heap.IsTuple l (intItems xs))
    (h : ∀ s₂ : Shared, s₂ = { s with heap := s.heap.push { cls := .type "tuple_iterator", data := .fields #[.ref l, .int 0 0] } } →
      (s₂.heap.IsTupleIter s.heap.objs.size l 0 ∧ s₂.heap.IsTuple l (intItems xs)) → (∀ b ∈ [s.heap.objs.size, l], b < s₂.heap.objs.size) → l ≠ s.heap.objs.size → Q (.ref s.heap.objs.size) s₂) :
    wpAny (model X.prog X.w) A (pyIter (.ref l)) Q E s := by
  have hlt : l < s.heap.objs.size := by obtain ⟨_, e, _⟩ := hl; exact Heap.lt_size e
  refine wpAny_pyIter_tuple hl (h _ rfl ⟨⟨_, Heap.get?_push_size _ rfl, rfl, rfl⟩, hl.push _⟩ (fun b hb => ?_) (Nat.ne_of_lt hlt))
  show b < (s.heap.push _).objs.size
  rw [Heap.size_push]
  rcases List.mem_cons.mp hb with rfl | hb
  · exact Nat.lt_succ_self _
  · rcases List.mem_cons.mp hb with rfl | hb
    · exact Nat.lt_succ_of_lt hlt
    · cases hb
theorem old_keptT {s : Shared} {l : Addr} {h' : Heap} (hk : ∀ b o, b ∉ [s.heap.objs.size] → (s.heap.push { cls := .type "tuple_iterator", data := .fields #[.ref l, .int 0 0] }).get? b = some o → h'.get? b = some o) :
    ∀ b o, s.heap.get? b = some o → h'.get? b = some o := fun b o e => by
  refine hk b o (fun hm => ?_) (Heap.get?_push_of_some _ e)
  rcases List.mem_cons.mp hm with e1 | hm
  · exact absurd (e1 ▸ Heap.lt_size e) (Nat.lt_irrefl _)
  · cases hm
theorem max_intTup {A : Around} {E : Value → Shared → Prop} {s : Shared} {l : Addr} {xs : Array (Int × Tok)} {Q : Value → Shared → Prop} (hh : A.handled = none) (hl : s.heap.IsTuple l (intItems xs)) (hne : 0 < xs.size)
    (h : ∀ v h' tk, (intItems xs)[argBest (fun i j => decide (numAt xs i > numAt xs j)) (xs.size - 1)]? = some v → (∀ b o, s.heap.get? b = some o → h'.get? b = some o) → Q v { s with heap := h', toks := tk }) :
    wpAny (model X.prog X.w) A (PySem.call (.builtin "max") [.ref l]) Q E s := by
  refine call_max_walk (iter_intTup hl fun s₂ e st hfp hlI => ?_)
  subst e
  refine ⟨_, _, _, _, _, _, _, rfl, Walks.tuple (A := A.in1) hh _ l hlI (intItems xs), st, hfp, by simpa [intItems] using hne, CmpOf.ints_gt (numAt xs) (fun _ _ => intItems_at), fun v h' tk hP hk => ?_⟩
  exact h v h' tk (by simpa [intItems] using hP) (old_keptT hk)
theorem max_rawT {A : Around} {E : Value → Shared → Prop} {s : Shared} {l : Addr} {its : List Value} {ns : List Int} {Q : Value → Shared → Prop} (hh : A.handled = none) (hl : s.heap.IsTuple l its.toArray) (hi : IntsAre its ns) (hne : 0 < ns.length)
    (h : ∀ h' tk M t', (∀ b o, s.heap.get? b = some o → h'.get? b = some o) → M ∈ ns → (∀ a, a ∈ ns → a ≤ M) → Q (.int M t') { s with heap := h', toks := tk }) : wpAny (model X.prog X.w) A (PySem.call (.builtin "max") [.ref l]) Q E s := by
  obtain ⟨xs, e⟩ := hi.allInts.items
  have hn : numsOf (intItems xs).toList = ns := by rw [← e]; exact hi.numsOf
  rw [nums_intItems] at hn
  subst hn
  rw [e] at hl
  have hsz : 0 < xs.size := by simpa using hne
  refine max_intTup hh hl hsz fun v h' tk hv hk => ?_
  obtain ⟨t, rfl⟩ := intItems_at hv
  obtain ⟨h1, h2⟩ := argBest_gt (numAt xs) (xs.size - 1)
  refine h h' tk _ t hk ?_ fun a ha => ?_
  · rw [numAt_eq]; exact PySem.getD_mem (by rw [List.length_map, Array.length_toList]; omega)
  · obtain ⟨j, hj, rfl⟩ := mem_getD ha
    rw [List.length_map, Array.length_toList] at hj
    rw [← numAt_eq]; exact h2 j (by omega)
theorem max_uniq {ns : List Int} {m : Int} (h1 : m ∈ ns) (h2 : ∀ y ∈ ns, y ≤ m) : m = maxL ns := by
  have hn : ns ≠ [] := fun z => by rw [z] at h1; cases h1
  obtain ⟨a, b⟩ := maxL_mem hn
  have c1 := h2 _ a
  have c2 := b _ h1
  omega
theorem min_uniq {ns : List Int} {m : Int} (h1 : m ∈ ns) (h2 : ∀ y ∈ ns, m ≤ y) : m = minL ns := by
  have hn : ns ≠ [] := fun z => by rw [z] at h1; cases h1
  obtain ⟨a, b⟩ := minL_mem hn
  have c1 := h2 _ a
  have c2 := b _ h1
  omega
theorem c_max (ok : Ok X g) : OpN X g (fun us => PySem.call (.builtin "max") us) semMax := by
  intro pins s σ F H env ps vs us r Q I S rv t e k
  unfold semMax at e
  split at e
  · cases e
    obtain ⟨v, u, rfl, h1, h2⟩ := rts2 t
    cases rt_int h1; cases rt_int h2
    exact call_max2 ok.calm pins s σ H _ us Q I rv ⟨_, _, rfl, fin_int S k⟩
  · rename_i xs
    split at e
    · rename_i n ns h1
      cases e
      obtain ⟨v, rfl, h⟩ := rts1 t
      obtain ⟨a, rfl, h2⟩ := sqI h h1
      exact cr_max ok.calm pins s σ H _ us Q I rv ⟨a, n :: ns, rfl, SqL.of h2, by simp, fun m m1 m2 => by rw [max_uniq m1 m2]; exact fin_int S k⟩
    · cases e
  · rename_i xs
    split at e
    · rename_i n ns h1
      cases e
      obtain ⟨v, rfl, h⟩ := rts1 t
      obtain ⟨a, rfl, h2⟩ := sqIT h h1
      obtain ⟨its, r1, p1, _⟩ := I.tuple (SqT.of h2)
      rw [Vals.ref1 rv]
      refine max_rawT (I.ok.hd ok.calm) p1 r1.ints (by simp) fun h' tk m t' hk m1 m2 => ⟨.int m, H, I.kept hk, ⟨_, rfl⟩, ?_⟩
      rw [max_uniq m1 m2]; exact fin_int S k
    · cases e
  · cases e
theorem c_min (ok : Ok X g) : OpN X g (fun us => PySem.call (.builtin "min") us) semMin := by
  intro pins s σ F H env ps vs us r Q I S rv t e k
  unfold semMin at e
  split at e
  · cases e
    obtain ⟨v, u, rfl, h1, h2⟩ := rts2 t
    cases rt_int h1; cases rt_int h2
    exact call_min2 ok.calm pins s σ H _ us Q I rv ⟨_, _, rfl, fin_int S k⟩
  · rename_i xs
    split at e
    · rename_i n ns h1
      cases e
      obtain ⟨v, rfl, h⟩ := rts1 t
      obtain ⟨a, rfl, h2⟩ := sqI h h1
      exact cr_min ok.calm pins s σ H _ us Q I rv ⟨a, n :: ns, rfl, SqL.of h2, by simp, fun m m1 m2 => by rw [min_uniq m1 m2]; exact fin_int S k⟩
    · cases e
  · cases e
theorem c_list (ok : Ok X g) : OpN X g (fun us => PySem.call (.type "list") us) semList := by
  intro pins s σ F H env ps vs us r Q I S rv t e k
  unfold semList at e
  split at e
  · cases e
    obtain ⟨v, rfl, h⟩ := rts1 t
    obtain ⟨a, ws, rfl, h1, h2⟩ := h
    exact call_list_of pins s σ H _ us Q I rv ⟨a, ws, rfl, .inl (SqL.of h1), fun l hl => fin_lst S hl h2 k⟩
  · cases e
    obtain ⟨v, rfl, h⟩ := rts1 t
    obtain ⟨a, ws, rfl, h1, h2⟩ := rt_tup h
    exact call_list_of pins s σ H _ us Q I rv ⟨a, ws, rfl, .inr (SqT.of h1), fun l hl => fin_lst S hl h2 k⟩
  · cases e
    obtain ⟨v, rfl, h⟩ := rts1 t
    obtain ⟨a, rfl, h1⟩ := h
    rw [ok.K] at h1
    exact call_list_of pins s σ H _ us Q I rv ⟨a, _, rfl, .inl h1, fun l hl => fin_lst S hl (Rs.of_ints _) k⟩
  · cases e
theorem c_tuple : OpN X g (fun us => PySem.call (.type "tuple") us) semTuple := by
  intro pins s σ F H env ps vs us r Q I S rv t e k
  unfold semTuple at e
  split at e
  · cases e
    obtain ⟨v, rfl, h⟩ := rts1 t
    obtain ⟨a, ws, rfl, h1, h2⟩ := h
    exact call_tuple_of pins s σ H _ us Q I rv ⟨a, ws, rfl, .inl ⟨SqL.of h1, fun l hl => fin_tup S hl h2 k⟩⟩
  · cases e
    obtain ⟨v, rfl, h⟩ := rts1 t
    obtain ⟨a, ws, rfl, h1, h2, h3⟩ := h
    exact call_tuple_of pins s σ H _ us Q I rv ⟨a, ws, rfl, .inr ⟨SqT.of h1, fin_fz S (by unfold R; exact ⟨a, ws, rfl, h3, h2⟩) k⟩⟩
  · cases e
end
end VL

set_option maxRecDepth 100000
set_option maxHeartbeats 2000000
namespace VL
open PySem PySem.Spec L2
open PyProof.Rows hiding St

section
variable {X : Cx} {g : Gm} {pins : List (Addr × Obj)} {F H F' H' : Hp} {σ : St} {env env' : Env'} {s : Shared} {a b c : Expr} {da db dc : Env' → Res Val} {pos : Pos}
theorem se_slice {lo hi : Option Expr} {p2 : Pos} {dl dh : Option (Env' → Res Val)} (ok : Ok X g) (ha : PE X a (tE g da)) (hl : PO X lo (tPo g dl)) (hh : PO X hi (tPo g dh)) : PE X (.Subscript a (.Slice lo hi none p2) pos) (tE g (dSl da dl dh)) :=
  peImp (pe_slice sl_all (peo ha) hl hh) fun σ H Q ⟨F, env, S, go⟩ => ⟨F, env, S, (Go.bind go).mono fun x e1 F1 H1 x1 S1 k v o r =>
    ⟨F1, e1, S1, (Go.bind k).mono fun l e2 F2 H2 x2 S2 k2 => ⟨F2, e2, S2, (Go.bind k2).mono fun h e3 F3 H3 x3 S3 k3 => by
      cases hp : peek x e3 with
      | none => simp only [hp] at k3; exact k3.elim
      | some p =>
        simp only [hp] at k3
        have rt := peek_ok S3 (r.later o (x2.trans x3)) hp
        cases hs : semSl p l h with
        | none => rw [hs] at k3; exact k3.elim
        | some w =>
          rw [hs] at k3
          exact semSl_ok ok S3 rt hs fun F4 H4 u x4 S4 ru => k3 F4 H4 x4 S4 u ru⟩⟩⟩
/-- x[::-1] of a list -/
def dRev (da : Env' → Res Val) : Env' → Res Val := fun e => (stl da e).bind fun x e1 => match peek x e1 with
  | some (.lst xs) => .ok (.new (.lst xs.reverse)) e1
  | _ => .bad
theorem se_rev {k : Nat} {p1 p2 p3 : Pos} (ha : PE X a (tE g da)) : PE X (.Subscript a (.Slice none none (some (.UnaryOp .USub (.Constant (.int 1) k p1) p2)) p3) pos) (tE g (dRev da)) :=
  peImp (pe_revL (peo ha)) fun σ H Q ⟨F, env, S, go⟩ => ⟨F, env, S, (Go.bind go).mono fun x e1 F1 H1 x1 S1 k v o r => by
    cases hp : peek x e1 with
    | none => simp only [hp] at k; exact k.elim
    | some p =>
      simp only [hp] at k
      cases p <;> try exact k.elim
      obtain ⟨a, vs, rfl, h1, h2⟩ := peek_ok S1 r hp
      exact ⟨a, vs, rfl, SqL.of h1, fun p hp => fin_lst S1 hp h2.reverse fun F4 H4 u x4 S4 ru => k F4 H4 x4 S4 u ru⟩⟩

/-! ### fields -/
/-- what a class must be -/
structure ClsOk (C : Ct) (c : Nat) : Prop where
  cls : Cls C.K (C.ad c)
  no : ∀ f ∈ C.L c, NoAttr C.K (C.ad c) (C.nm f)
  nd : (C.fl c).Nodup
def fldP (C : Ct) (c f : Nat) (xs : List PV) : Option PV := ((C.L c).idxOf? f).bind fun i => xs[i]?
theorem idx_name {C : Ct} {c f i : Nat} (h : (C.L c).idxOf? f = some i) : (C.fl c)[i]? = some (C.nm f) ∧ f ∈ C.L c := by
  have h' := List.findIdx?_eq_some_iff_getElem.mp h
  obtain ⟨hl, he, _⟩ := h'
  have e : (C.L c)[i] = f := by simpa using he
  refine ⟨?_, ?_⟩
  · unfold Ct.fl
    rw [List.getElem?_map, List.getElem?_eq_getElem hl, e]; rfl
  · rw [← e]; exact List.getElem_mem hl
theorem nodup_idx {l : List Str} (h : l.Nodup) {i j : Nat} {x : Str} (a : l[i]? = some x) (b : l[j]? = some x) : i = j := nodup_ix h a b
theorem lookup_at : ∀ {fs : List (Str × V)} {i : Nat} {n : Str} {v : V}, (fs.map Prod.fst).Nodup → fs[i]? = some (n, v) → fs.lookup n = some v
  | [], i, n, v, _, h => by simp at h
  | (m, w) :: fs, 0, n, v, _, h => by
    simp only [List.getElem?_cons_zero, Option.some.injEq, Prod.mk.injEq] at h
    obtain ⟨rfl, rfl⟩ := h
    simp [List.lookup]
  | (m, w) :: fs, i + 1, n, v, hn, h => by
    simp only [List.getElem?_cons_succ] at h
    simp only [List.map_cons, List.nodup_cons] at hn
    have hne : (n == m) = false := by
      rw [beq_eq_false_iff_ne]
      intro e
      apply hn.1
      rw [← e]
      exact List.mem_map.mpr ⟨(n, v), List.mem_of_getElem? h, rfl⟩
    show (match n == m with | true => some w | false => fs.lookup n) = some v
    rw [hne]
    exact lookup_at hn.2 h
theorem fld_look {C : Ct} {c f : Nat} {xs : List PV} {fs : List (Str × V)} {x : PV} (ok : ClsOk C c) (hk : fs.map Prod.fst = (C.fl c).take xs.length) (r : Rs C F xs (fs.map Prod.snd)) (h : fldP C c f xs = some x) :
    ∃ v, fs.lookup (C.nm f) = some v ∧ R C F x v ∧ f ∈ C.L c := by
  unfold fldP at h
  cases hi : (C.L c).idxOf? f with
  | none => rw [hi] at h; cases h
  | some i =>
    rw [hi] at h
    simp only [Option.bind_some] at h
    obtain ⟨h1, h2⟩ := idx_name hi
    obtain ⟨v, h3, h4⟩ := r.get h
    have hlt : i < xs.length := (List.getElem?_eq_some_iff.mp h).1
    have e1 : (fs.map Prod.fst)[i]? = some (C.nm f) := by
      rw [hk, List.getElem?_take_of_lt hlt]; exact h1
    have e2 : fs[i]? = some (C.nm f, v) := by
      rw [List.getElem?_map] at e1 h3
      cases q : fs[i]? with
      | none => rw [q] at e1; cases e1
      | some z =>
        rw [q] at e1 h3
        simp only [Option.map_some, Option.some.injEq] at e1 h3
        rw [← e1, ← h3]
    refine ⟨v, lookup_at ?_ e2, h4, h2⟩
    rw [hk]
    exact (List.take_sublist _ _).nodup ok.nd
def dFld (C : Ct) (f : Nat) (da : Env' → Res Val) : Env' → Res Val := fun e => (stl da e).bind fun x e1 => match peek x e1 with
  | some (.ins c xs) => match fldP C c f xs with
    | some p => .ok (.fz p) e1
    | none => .bad
  | _ => .bad
theorem se_fld {f : Nat} (ok : Ok X g) (co : ∀ c, ClsOk g.C c) (ha : PE X a (tE g da)) (hb : attributeBase a (g.C.nm f) X.env (eval a X.env) = eval a X.env) : PE X (.Attribute a (g.C.nm f) pos) (tE g (dFld g.C f da)) :=
  peImp (pe_fld (peo ha) hb) fun σ H Q ⟨F, env, S, go⟩ => ⟨F, env, S, (Go.bind go).mono fun x e1 F1 H1 x1 S1 k v o r => by
    cases hp : peek x e1 with
    | none => simp only [hp] at k; exact k.elim
    | some p =>
      simp only [hp] at k
      cases p <;> try exact k.elim
      rename_i c xs
      simp only at k
      cases hf : fldP g.C c f xs with
      | none => simp only [hf] at k; exact k.elim
      | some y =>
        simp only [hf] at k
        obtain ⟨a, dx, fs, rfl, h1, h2, h3⟩ := peek_ok S1 r hp
        obtain ⟨w, l1, l2, l3⟩ := fld_look (co c) h2 h3 hf
        refine ⟨a, g.C.ad c, dx, fs, w, rfl, h1, ?_, ?_, l1, k F1 H1 (Ex.refl F1) S1 w l2⟩
        · rw [← ok.K]; exact (co c).cls
        · rw [← ok.K]; exact (co c).no f l3⟩
/-! ### methods of built-in types -/
def kd : PV → String
  | .str _ => "str"
  | .lst _ => "list"
  | .dK _ _ => "dict"
  | .dT _ _ => "dict"
  | _ => ""
theorem kd_is (ok : Ok X g) {p : PV} {v : V} {vv : Value} {T : String} (I : Inv X pins σ H s) (r : RelV v vv) (t : Rt g.C F H p v) (e : kd p = T) (hT : T ≠ "") :
    s.TypeIs vv T ∧ ∀ a, vv = .ref a → ∃ ob, s.heap.get? a = some ob ∧ ob.dict = none := by
  subst e
  cases p <;> try (exact absurd rfl hT)
  · cases rt_str t
    exact tyV_is (T := "str") I r rfl
  · obtain ⟨a, vs, rfl, h1, h2⟩ := t
    exact tyV_is (T := "list") I r (.inl ⟨rfl, vs, SqL.of h1⟩)
  · obtain ⟨a, kvs, rfl, h1, _⟩ := t
    obtain rfl : vv = Value.ref a := r
    obtain ⟨h2, h3, _⟩ := isD_at I (.inl ⟨kvs, h1⟩)
    exact ⟨h2, h3⟩
  · obtain ⟨a, kvs, rfl, h1, _⟩ := t
    obtain rfl : vv = Value.ref a := r
    obtain ⟨h2, h3, _⟩ := isD_at I (.inr ⟨kvs, h1⟩)
    exact ⟨h2, h3⟩
/-- a method that reads -/
structure MRule (X : Cx) (g : Gm) (T : String) (name : Str) (sem : PV → List PV → Option Val) : Prop where
  ne : T ≠ ""
  ex : ∃ id, PlainAttrs T ∧ Slot T name id ∧ typeOf (.builtin id) = pure (.type "method_descriptor") ∧
    ∀ (pins : List (Addr × Obj)) (s : Shared) (σ : St) (F H : Hp) (env : Env') (p : PV) (ps : List PV) (v : V) (vs : List V) (vv : Value) (us : List Value) (r : Val) (Q : VK), Inv X pins σ H s → Stt g F H σ env → RelV v vv → Vals vs us → Rt g.C F H p v → Rts g.C F H ps vs → kd p = T → sem p ps = some r →
    (∀ F' H' w, Ex F F' → Stt g F' H' σ env → RV g F' H' σ env r w → Q w H') → wpAny (model X.prog X.w) X.A (PySem.call (.builtin id) (vv :: us)) (EP X pins σ Q) X.xe s
def dMeth (T : String) (sem : PV → List PV → Option Val) (da : Env' → Res Val) (ds : List (Env' → Res Val)) : Env' → Res Val := fun e => (stl da e).bind fun x e1 => if (peek x e1).map kd = some T then
    (dArgs ds e1).bind fun xs e2 => match peek x e2, peeks e2 xs with
      | some p, some ps => if kd p = T then toVal (sem p ps) e2 else .bad
      | _, _ => .bad
  else .bad
theorem meth_fin {T : String} {name : Str} {sem : PV → List PV → Option Val} {id : String} (run : ∀ (pins : List (Addr × Obj)) (s : Shared) (σ : St) (F H : Hp) (env : Env') (p : PV) (ps : List PV) (v : V) (vs : List V) (vv : Value) (us : List Value) (r : Val) (Q : VK), Inv X pins σ H s → Stt g F H σ env → RelV v vv → Vals vs us → Rt g.C F H p v → Rts g.C F H ps vs → kd p = T → sem p ps = some r →
    (∀ F' H' w, Ex F F' → Stt g F' H' σ env → RV g F' H' σ env r w → Q w H') → wpAny (model X.prog X.w) X.A (PySem.call (.builtin id) (vv :: us)) (EP X pins σ Q) X.xe s)
    {x : Val} {xs : List Val} {v : V} {vs : List V} {vv : Value} {us : List Value} {Q : VK} (I : Inv X pins σ H s) (S : Stt g F H σ env) (r1 : RelV v vv) (r2 : Vals vs us) (t1 : RV g F H σ env x v) (t2 : RVs g F H σ env xs vs)
    (go : Go g F σ (match peek x env, peeks env xs with | some p, some ps => if kd p = T then toVal (sem p ps) env else .bad | _, _ => .bad) fun x env' F' H' => ∀ v, RV g F' H' σ env' x v → Q v H') :
    wpAny (model X.prog X.w) X.A (PySem.call (.builtin id) (vv :: us)) (EP X pins σ Q) X.xe s := by
  cases e1 : peek x env with
  | none => simp only [e1] at go; exact go.elim
  | some p =>
    cases e2 : peeks env xs with
    | none => simp only [e1, e2] at go; exact go.elim
    | some ps =>
      simp only [e1, e2] at go
      split at go
      · rename_i hk
        cases e3 : sem p ps with
        | none => rw [e3] at go; exact go.elim
        | some r =>
          rw [e3] at go
          exact run pins s σ F H env p ps v vs vv us r Q I S r1 r2 (peek_ok S t1 e1) (peeks_ok S t2 e2) hk e3 fun F' H' w ex S' rv => go F' H' ex S' w rv
      · exact go.elim
section
variable {o e : Expr} {es : List Expr} {ds : List (Env' → Res Val)} {name : Str} {apos cpos : Pos} {T : String} {sem : PV → List PV → Option Val}
theorem se_meth (ok : Ok X g) (M : MRule X g T name sem) (ho : PE X o (tE g da)) (ha : PA X (e :: es) (tAs g (dArgs ds)))
    (hbase : attributeBase o name X.env (eval o X.env) = eval o X.env)
    (hfew : ((backTo cpos (starEach (e :: es) X.env)).all (fun x => !x.1) && (backToKw cpos (keywordEach [] X.env)).all (fun x => x.1.isSome)
      && decide ((e :: es).length + ([] : List Keyword).length + (if ([] : List Keyword).isEmpty then 0 else 1) < 30)) = true)
    (hline : (apos.endLine == cpos.line) = true) (hs : starEach (e :: es) X.env = (false, eval e X.env) :: starEach es X.env) (hplain : (backTo cpos (starEach es X.env)).any (·.1) = false) :
    PE X (.Call (.Attribute o name apos) (e :: es) [] cpos) (tE g (dMeth T sem da ds)) := by
  obtain ⟨id, pa, slot, hty, run⟩ := M.ex
  refine ⟨fun pins s σ H Q I ⟨F, env, S, go⟩ => ?_⟩
  refine wpAny_Call_method_late hbase hfew hline rfl (thn (peGo ho I S go) fun v s1 ⟨v', H1, I1, r1, F1, e1, x, x1, S1, o1, rv1, go1⟩ => ?_)
  dsimp only at go1
  split at go1
  · rename_i hk
    cases hp : peek x e1 with
    | none => rw [hp] at hk; cases hk
    | some p =>
      rw [hp] at hk
      simp only [Option.map_some, Option.some.injEq] at hk
      obtain ⟨h1, h2⟩ := kd_is ok I1 r1 (peek_ok S1 rv1 hp) hk M.ne
      refine ⟨T, id, pa, slot, hty, h1, h2, ?_⟩
      have hA := paGo ha cpos I1 S1 go1
      rw [hs] at hA ⊢
      refine Calls.callWith_builtin (by show (false || (backTo cpos (starEach es X.env)).any (·.1)) = false; rw [hplain] <;> rfl) (Calls.evalArgs_plain ?_)
      exact thn hA fun us s2 ⟨vs, H2, I2, r2, F2, e2, xs, x2, S2, o2, rv2, go2⟩ => meth_fin (name := name) run I2 S2 r1 r2 (rv1.later o1 x2) rv2 go2
  · exact go1.elim
theorem se_meth0 (ok : Ok X g) (M : MRule X g T name sem) (ho : PE X o (tE g da))
    (hbase : attributeBase o name X.env (eval o X.env) = eval o X.env) (hline : (apos.endLine == cpos.line) = true) : PE X (.Call (.Attribute o name apos) [] [] cpos) (tE g (dMeth T sem da [])) := by
  obtain ⟨id, pa, slot, hty, run⟩ := M.ex
  refine ⟨fun pins s σ H Q I ⟨F, env, S, go⟩ => ?_⟩
  refine wpAny_Call_method0_late hbase hline (thn (peGo ho I S go) fun v s1 ⟨v', H1, I1, r1, F1, e1, x, x1, S1, o1, rv1, go1⟩ => ?_)
  dsimp only at go1
  split at go1
  · rename_i hk
    cases hp : peek x e1 with
    | none => rw [hp] at hk; cases hk
    | some p =>
      rw [hp] at hk
      simp only [Option.map_some, Option.some.injEq] at hk
      obtain ⟨h1, h2⟩ := kd_is ok I1 r1 (peek_ok S1 rv1 hp) hk M.ne
      refine ⟨T, id, pa, slot, hty, h1, h2, Calls.callWith_builtin rfl (PySem.evalArgs_none ?_)⟩
      exact meth_fin (name := name) (xs := []) (vs := []) (us := []) run I1 S1 r1 .nil rv1 rfl go1
  · exact go1.elim
end
end
end VL

set_option maxRecDepth 100000
set_option maxHeartbeats 2000000
namespace VL
open PySem PySem.Spec L2
open PyProof.Rows hiding St

/-! ### statements -/
inductive Fl where
  | nx | bk | ct | rt (x : Val)
def GoS (g : Gm) (F : Hp) (r : Res Fl) (D : Ends) : Prop := match r with
  | .bad => False
  | .err x e => ∀ F' H' σ', Ex F F' → Stt g F' H' σ' e → g.W x e σ' F' H'
  | .ok .nx e => ∀ F' H' σ', Ex F F' → Stt g F' H' σ' e → D.nx σ' H'
  | .ok .bk e => ∀ F' H' σ', Ex F F' → Stt g F' H' σ' e → D.bk σ' H'
  | .ok .ct e => ∀ F' H' σ', Ex F F' → Stt g F' H' σ' e → D.ct σ' H'
  | .ok (.rt x) e => ∀ F' H' σ' v, Ex F F' → Stt g F' H' σ' e → RV g F' H' σ' e x v → D.rt v H'
def tS (g : Gm) (d : Env' → Res Fl) : TS := fun D σ H => ∃ F env, Stt g F H σ env ∧ GoS g F (d env) D

section
variable {X : Cx} {g : Gm} {pins : List (Addr × Obj)} {F H F' H' : Hp} {σ : St} {env env' : Env'} {s : Shared} {a b c : Expr} {da db dc : Env' → Res Val} {pos : Pos} {D : Ends} {d1 d2 : Env' → Res Fl}
theorem GoS.up {r : Res Fl} (go : GoS g F r D) (e : Ex F F') : GoS g F' r D := by
  cases r with
  | bad => exact go
  | err x e' => exact fun F2 H2 σ2 e2 S2 => go F2 H2 σ2 (e.trans e2) S2
  | ok x e' => cases x with
    | nx => exact fun F2 H2 σ2 e2 S2 => go F2 H2 σ2 (e.trans e2) S2
    | bk => exact fun F2 H2 σ2 e2 S2 => go F2 H2 σ2 (e.trans e2) S2
    | ct => exact fun F2 H2 σ2 e2 S2 => go F2 H2 σ2 (e.trans e2) S2
    | rt x => exact fun F2 H2 σ2 v e2 S2 => go F2 H2 σ2 v (e.trans e2) S2
/-- an expression ahead -/
theorem GoS.bindE {α : Type} {r : Res α} {f : α → Env' → Res Fl} (h : GoS g F (r.bind f) D) : Go g F σ r fun x e F' H' => GoS g F' (f x e) D := by
  cases r with
  | bad => exact h
  | err x e => exact fun F2 H2 e2 S2 => h F2 H2 σ e2 S2
  | ok x e => exact fun F2 H2 e2 S2 => GoS.up h e2
def dSeq (d1 d2 : Env' → Res Fl) : Env' → Res Fl := fun e => (d1 e).bind fun f e' => match f with
  | .nx => d2 e'
  | x => .ok x e'
theorem GoS.seq (h : GoS g F (dSeq d1 d2 env) D) : GoS g F (d1 env) { D with nx := tS g d2 D } := by
  unfold dSeq at h
  cases e : d1 env with
  | bad => rw [e] at h; exact h
  | err x e' => rw [e] at h; exact h
  | ok x e' =>
    rw [e] at h
    cases x with
    | nx => exact fun F2 H2 σ2 e2 S2 => ⟨F2, e', S2, GoS.up h e2⟩
    | bk => exact h
    | ct => exact h
    | rt x => exact h
theorem ss_nil : PSs X [] (tS g fun e => .ok .nx e) := pssImp pss_nil fun D σ H ⟨F, env, S, go⟩ => go F H σ (Ex.refl F) S
theorem ss_cons {st : Stmt} {r : List Stmt} (h1 : PS X st (tS g d1)) (h2 : PSs X r (tS g d2)) : PSs X (st :: r) (tS g (dSeq d1 d2)) :=
  pssImp (pss_cons h1 h2) fun D σ H ⟨F, env, S, go⟩ => ⟨F, env, S, go.seq⟩
theorem ss_one {st : Stmt} (h1 : PS X st (tS g d1)) : PSs X [st] (tS g d1) := pss_one h1
theorem ss_pass : PS X (.Pass pos) (tS g fun e => .ok .nx e) := psImp ps_pass fun D σ H ⟨F, env, S, go⟩ => go F H σ (Ex.refl F) S
theorem ss_break : PS X (.Break pos) (tS g fun e => .ok .bk e) := psImp ps_break fun D σ H ⟨F, env, S, go⟩ => go F H σ (Ex.refl F) S
theorem ss_continue : PS X (.Continue pos) (tS g fun e => .ok .ct e) := psImp ps_continue fun D σ H ⟨F, env, S, go⟩ => go F H σ (Ex.refl F) S
def dExpr (d : Env' → Res Val) : Env' → Res Fl := fun e => (d e).bind fun _ e' => .ok .nx e'
theorem ss_expr (he : PE X a (tE g da)) (hs : swapsWith a none pos.line X.env = pure false) : PS X (.Expr a pos) (tS g (dExpr da)) :=
  psImp (ps_expr he hs) fun D σ H ⟨F, env, S, go⟩ => ⟨F, env, S, (GoS.bindE (σ := σ) go).mono fun x e F' H' x1 S1 k v r => k F' H' σ (Ex.refl F') S1⟩
def dDoc : Env' → Res Fl := fun e => .ok .nx e
theorem ss_doc {x j pos pos'} : PS X (.Expr (.Constant (.str x) j pos) pos') (tS g dDoc) := psImp ps_doc fun D σ H ⟨F, env, S, go⟩ => go F H σ (Ex.refl F) S
/-- what a return gives -/
def retV (x : Val) (e : Env') : Res Fl := match x with
  | .bor i => match e[i]? with
    | some (.fz p) => .ok (.rt (.fz p)) e
    | some (.ow true p) => .ok (.rt (.new p)) (e.set i .no)
    | _ => .bad
  | x => .ok (.rt x) e
def dRet (d : Env' → Res Val) : Env' → Res Fl := fun e => (d e).bind retV
theorem retV_go {x : Val} {v : V} (S : Stt g F H σ env) (r : RV g F H σ env x v) (go : GoS g F (retV x env) D) : D.rt v H := by
  cases x with
  | fz p => exact go F H σ v (Ex.refl F) S r
  | new p => exact go F H σ v (Ex.refl F) S r
  | bor i =>
    unfold retV at go
    dsimp only at go
    cases e : env[i]? with
    | none => rw [e] at go; exact go.elim
    | some sl =>
      rw [e] at go
      have r : σ[i]? = some (some v) := r
      cases sl with
      | no => exact go.elim
      | fz p =>
        obtain ⟨w, h1, h2⟩ := S.fz i p e
        rw [r] at h1; cases h1
        exact go F H σ v (Ex.refl F) S h2
      | ow f p =>
        cases f with
        | false => exact go.elim
        | true =>
          obtain ⟨w, h1, h2, h3, h4⟩ := S.ow i _ p e
          rw [r] at h1; cases h1
          refine go F H σ _ (Ex.refl F) (S.drop i) ⟨w, rfl, h2, h3, by rw [if_pos rfl] at h4; exact h4, fun j b q hj hv => ?_⟩
          rcases getElem?_set_cases hj with ⟨_, z, _⟩ | ⟨hne, hj'⟩
          · cases z
          · exact hne (S.inj i j _ _ p q w e hj' r hv)
theorem ss_ret (he : PE X a (tE g da)) : PS X (.Return (some a) pos) (tS g (dRet da)) :=
  psImp (ps_ret he) fun D σ H ⟨F, env, S, go⟩ => ⟨F, env, S, (GoS.bindE (σ := σ) go).mono fun x e F' H' x1 S1 k v r => retV_go S1 r k⟩
theorem ss_retN : PS X (.Return none pos) (tS g fun e => .ok (.rt (.fz .non)) e) :=
  psImp ps_retN fun D σ H ⟨F, env, S, go⟩ => go F H σ .non (Ex.refl F) S (by show R _ _ _ _; unfold R; rfl)
def dIfS (dt : Env' → Res Bool) (d1 d2 : Env' → Res Fl) : Env' → Res Fl := fun e => (dt e).bind fun b e1 => if b = true then d1 e1 else d2 e1
theorem ss_if {dt : Env' → Res Bool} {p q : List Stmt} (ht : PT X c (tT g dt)) (h1 : PSs X p (tS g d1)) (h2 : PSs X q (tS g d2)) : PS X (.If c p q pos) (tS g (dIfS dt d1 d2)) :=
  psImp (ps_if ht h1 h2) fun D σ H ⟨F, env, S, go⟩ => ⟨F, env, S, (GoS.bindE (σ := σ) go).mono fun b e F' H' x1 S1 k => by
    by_cases hb : b = true
    · rw [if_pos hb] at k ⊢; exact ⟨F', e, S1, k⟩
    · rw [if_neg hb] at k ⊢; exact ⟨F', e, S1, k⟩⟩
/-! ### while -/
def dWhile (dt : Env' → Res Bool) (db : Env' → Res Fl) : Nat → Env' → Res Fl
  | 0, _ => .bad
  | n + 1, e => (dt e).bind fun b e1 => if b = true then (db e1).bind fun f e2 => (match f with
    | .nx => dWhile dt db n e2
    | .ct => dWhile dt db n e2
    | .bk => .ok .nx e2
    | x => .ok x e2) else .ok .nx e1
theorem ss_while {dt : Env' → Res Bool} {p : List Stmt} (n : Nat) (hp : PassesOwn (model X.prog X.w) X.A X.env X.xe) (ht : PT X c (tT g dt)) (h1 : PSs X p (tS g d1)) : PS X (.While c p [] pos) (tS g (dWhile dt d1 n)) := by
  refine psImp (ps_while hp ht h1) fun D σ H ⟨F, env, S, go⟩ => ?_
  refine ⟨fun m σ H => ∃ F env, Stt g F H σ env ∧ GoS g F (dWhile dt d1 m env) D, ⟨n, F, env, S, go⟩, ?_⟩
  rintro m σ1 H1 ⟨F1, e1, S1, go1⟩
  cases m with
  | zero => exact go1.elim
  | succ m =>
    refine ⟨F1, e1, S1, (GoS.bindE (σ := σ1) go1).mono fun b e F' H' x1 S2 k => ?_⟩
    by_cases hb : b = true
    · rw [if_pos hb] at k ⊢
      refine ⟨fun σ' H' => ∃ F env, Stt g F H' σ' env ∧ GoS g F (dWhile dt d1 m env) D, fun σ' H' w => ⟨m, Nat.lt_succ_self m, w⟩, F', e, S2, ?_⟩
      cases q : d1 e with
      | bad => rw [q] at k; exact k
      | err x e' => rw [q] at k; exact k
      | ok x e' =>
        rw [q] at k
        cases x with
        | nx => exact fun F2 H2 σ2 e2 S3 => ⟨F2, e', S3, GoS.up k e2⟩
        | bk => exact k
        | ct => exact fun F2 H2 σ2 e2 S3 => ⟨F2, e', S3, GoS.up k e2⟩
        | rt x => exact k
    · rw [if_neg hb] at k ⊢
      exact k F' H' σ1 (Ex.refl F') S2

/-! ### name = e -/
def store (i : Nat) (x : Val) (e : Env') : Res Fl := match x with
  | .fz p => .ok .nx (e.set i (.fz p))
  | .new p => .ok .nx (e.set i (.ow true p))
  | .bor j => match e[j]? with
    | some (.fz p) => .ok .nx (e.set i (.fz p))
    | some (.ow true p) => .ok .nx ((e.set j (.fz p)).set i (.fz p))
    | _ => .bad
def dSet (i : Nat) (d : Env' → Res Val) : Env' → Res Fl := fun e => (d e).bind (store i)
theorem store_go {i : Nat} {x : Val} {v : V} (S : Stt g F H σ env) (r : RV g F H σ env x v) (go : GoS g F (store i x env) D) : D.nx (σ.set i (some v)) H := by
  cases x with
  | fz p => exact go F H _ (Ex.refl F) (S.setFz r)
  | new p =>
    obtain ⟨w, rfl, r1, hf, h0, hn⟩ := r
    exact go F H _ (Ex.refl F) (S.setOw r1 hf h0 hn)
  | bor j =>
    unfold store at go
    dsimp only at go
    cases e : env[j]? with
    | none => rw [e] at go; exact go.elim
    | some sl =>
      rw [e] at go
      have r : σ[j]? = some (some v) := r
      cases sl with
      | no => exact go.elim
      | fz p =>
        obtain ⟨w, h1, h2⟩ := S.fz j p e
        rw [r] at h1; cases h1
        exact go F H _ (Ex.refl F) (S.setFz h2)
      | ow f p =>
        cases f with
        | false => exact go.elim
        | true =>
          obtain ⟨w, h1, h2, h3, h4⟩ := S.ow j _ p e
          rw [r] at h1; cases h1
          obtain ⟨o, ho⟩ := h2.cell
          obtain ⟨S', rr⟩ := S.freeze e r ho
          exact go _ H _ (Ex.new h3) (S'.setFz rr)
theorem ss_set {i : Nat} {x : Str} {pos' : Pos} (hN : X.N.Nodup) (hi : X.N[i]? = some x) (hx : Loc X.env.scope x) (he : PE X a (tE g da)) (hs : swapsWith a (some (.Name x pos')) pos.line X.env = pure false) (hf : X.fn x = true ∨ X.env.scope.names.lookup x = some .local) :
    PS X (.Assign [.Name x pos'] a pos) (tS g (dSet i da)) :=
  psImp (ps_set hN hi hx he hs hf) fun D σ H ⟨F, env, S, go⟩ => ⟨F, env, S, (GoS.bindE (σ := σ) go).mono fun x e F' H' x1 S1 k v r => store_go S1 r k⟩
/-! ### name op= e (numbers) -/
def dAug (i : Nat) (sem : Int → Int → Option Int) (d : Env' → Res Val) : Env' → Res Fl := fun e => match e[i]? with
  | some (.fz (.int k)) => (stl d e).bind fun x e1 => match x with
    | .fz (.int n) => match sem k n with
      | some m => .ok .nx (e1.set i (.fz (.int m)))
      | none => .bad
    | _ => .bad
  | _ => .bad
def ipO (sem : Int → Int → Option Int) : TIp := fun x y H Q => ∃ i j k, x = .int i ∧ y = .int j ∧ sem i j = some k ∧ Q (.int k) H
theorem ss_aug {i : Nat} {x : Str} {op : Operator} {sem : Int → Int → Option Int} {pos' : Pos} (hN : X.N.Nodup) (hi : X.N[i]? = some x) (hx : Loc X.env.scope x) (he : PE X a (tE g da)) (ho : PIp X op (ipO sem)) (hf : X.fn x = true ∨ X.env.scope.names.lookup x = some .local) :
    PS X (.AugAssign (.Name x pos') op a pos) (tS g (dAug i sem da)) := by
  refine psImp (ps_aug hN hi hx (peStl he) ho hf) fun D σ H ⟨F, env, S, go⟩ => ?_
  unfold dAug at go
  cases e : env[i]? with
  | none => rw [e] at go; exact go.elim
  | some sl =>
    rw [e] at go
    cases sl with
    | no => exact go.elim
    | ow f p => exact go.elim
    | fz p =>
      cases p with
      | int k =>
        obtain ⟨v, h1, h2⟩ := S.fz i _ e
        have h2 : v = V.int k := by unfold R at h2; exact h2
        subst h2
        refine ⟨_, h1, F, env, S, (GoS.bindE (σ := σ) go).mono fun x e F' H' x1 S1 k1 v r => ?_⟩
        cases x with
        | new p => exact k1.elim
        | bor p => exact k1.elim
        | fz p =>
          cases p with
          | int n =>
            have r : v = V.int n := by
              have r : R g.C F' (.int n) v := r
              unfold R at r; exact r
            subst r
            dsimp only at k1
            cases q : sem k n with
            | none => rw [q] at k1; exact k1.elim
            | some m =>
              rw [q] at k1
              exact ⟨k, n, m, rfl, rfl, q, k1 F' H' _ (Ex.refl F') (S1.setFz (by unfold R; rfl))⟩
          | _ => exact k1.elim
      | _ => exact go.elim
def aAdd (i j : Int) : Option Int := some (i + j)
def aSub (i j : Int) : Option Int := some (i - j)
def aMul (i j : Int) : Option Int := if CMulX i j then some (i * j) else none
theorem ip_addO : PIp X .Add (ipO aAdd) := fun pins s σ H x y v u Q I r1 r2 ⟨i, j, k, e1, e2, h, q⟩ => ip_add pins s σ H x y v u Q I r1 r2 ⟨i, j, e1, e2, by cases h; exact q⟩
theorem ip_subO : PIp X .Sub (ipO aSub) := fun pins s σ H x y v u Q I r1 r2 ⟨i, j, k, e1, e2, h, q⟩ => ip_sub pins s σ H x y v u Q I r1 r2 ⟨i, j, e1, e2, by cases h; exact q⟩
theorem ip_mulO : PIp X .Mult (ipO aMul) := by
  intro pins s σ H x y v u Q I r1 r2 h
  obtain ⟨i, j, k, e1, e2, h, q⟩ := h
  subst e1; subst e2
  obtain ⟨t, rfl⟩ := r1
  obtain ⟨t', rfl⟩ := r2
  unfold aMul at h
  split at h
  · rename_i hc
    cases h
    exact PyProof.Rows.imul_int ⟨.int _, H, I.tok _, ⟨_, rfl⟩, q⟩ hc.ok
  · cases h
end
end VL

set_option maxRecDepth 100000
set_option maxHeartbeats 2000000
namespace VL
open PySem PySem.Spec L2
open PyProof.Rows hiding St

/-! ### targets of several names -/
/-- what a target does with a value that stays -/
abbrev UG := PV → Env' → Option Env'
def tG (g : Gm) (u : UG) (js : List Nat) : TG := fun v σ H Q => ∃ F env p env', Stt g F H σ env ∧ R g.C F p v ∧ u p env = some env' ∧ ∀ σ', Stt g F H σ' env' → σ'.length = σ.length → (∀ (i : Nat), i ∉ js → σ'[i]? = σ[i]?) → Q σ' H
def tGs (g : Gm) (u : List PV → Env' → Option Env') (js : List Nat) : TGs := fun vs σ H Q => ∃ F env ps env', Stt g F H σ env ∧ Rs g.C F ps vs ∧ u ps env = some env' ∧ ∀ σ', Stt g F H σ' env' → σ'.length = σ.length → (∀ (i : Nat), i ∉ js → σ'[i]? = σ[i]?) → Q σ' H
def uNm (i : Nat) : UG := fun p e => some (e.set i (.fz p))
def uNil : List PV → Env' → Option Env' := fun ps e => if ps.isEmpty then some e else none
def uCons (u : UG) (us : List PV → Env' → Option Env') : List PV → Env' → Option Env' := fun ps e => match ps with
  | p :: ps => (u p e).bind (us ps)
  | [] => none
def uTup (n : Nat) (us : List PV → Env' → Option Env') : UG := fun p e => match p with
  | .tup ps => if ps.length = n then us ps e else none
  | _ => none
section
variable {X : Cx} {g : Gm} {pins : List (Addr × Obj)} {F H F' H' : Hp} {σ : St} {env env' : Env'} {s : Shared} {a b c : Expr} {da db dc : Env' → Res Val} {pos : Pos} {D : Ends} {d1 d2 : Env' → Res Fl}
theorem pgImp {e : Expr} {t t' : TG} (h : PG X e t) (k : ∀ v σ H Q, t' v σ H Q → t v σ H Q) : PG X e t' := ⟨fun pins s σ H v u Q I r q => h.run pins s σ H v u Q I r (k v σ H Q q)⟩
theorem pgsImp {e : List Expr} {t t' : TGs} (h : PGs X e t) (k : ∀ v σ H Q, t' v σ H Q → t v σ H Q) : PGs X e t' := ⟨fun pins s σ H v u Q I r q => h.run pins s σ H v u Q I r (k v σ H Q q)⟩
theorem sg_name {i : Nat} {x : Str} (hN : X.N.Nodup) (hi : X.N[i]? = some x) (hx : Loc X.env.scope x) (hf : X.fn x = true ∨ X.env.scope.names.lookup x = some .local) : PG X (.Name x pos) (tG g (uNm i) [i]) :=
  pgImp (pg_name hN hi hx hf) fun v σ H Q ⟨F, env, p, env', S, r, e, k⟩ => by
    cases e
    refine k _ (S.setFz r) (by simp) fun j hj => ?_
    rw [List.getElem?_set_ne (fun z => hj (by simp [z]))]
theorem sgs_nil : PGs X [] (tGs g uNil []) := pgsImp pgs_nil fun v σ H Q ⟨F, env, ps, env', S, r, e, k⟩ => by
  cases ps with
  | nil => cases e; exact ⟨r.nil_inv, k _ S rfl fun _ _ => rfl⟩
  | cons p ps => cases e
theorem sgs_cons {e : Expr} {es : List Expr} {u : UG} {us : List PV → Env' → Option Env'} {js ks : List Nat} (h1 : PG X e (tG g u js)) (h2 : PGs X es (tGs g us ks))
    (hs : (assignEach (e :: es) X.env).map (·.2) = assign e X.env :: (assignEach es X.env).map (·.2)) : PGs X (e :: es) (tGs g (uCons u us) (js ++ ks)) :=
  pgsImp (pgs_cons h1 h2 hs) fun v σ H Q ⟨F, env, ps, env', S, r, e, k⟩ => by
    cases ps with
    | nil => cases e
    | cons p ps =>
      obtain ⟨v1, r1, rfl, q1, q2⟩ := r.cons_inv
      unfold uCons at e
      dsimp only at e
      cases h : u p env with
      | none => rw [h] at e; cases e
      | some e1 =>
        rw [h] at e
        exact ⟨v1, r1, rfl, F, env, p, e1, S, q1, h, fun σ' S' l' h' => ⟨F, e1, ps, env', S', q2, e, fun σ2 S2 l2 h2 => k σ2 S2 (l2.trans l') fun i hi => (h2 i fun z => hi (List.mem_append_right _ z)).trans (h' i fun z => hi (List.mem_append_left _ z))⟩⟩
theorem sg_tup {es : List Expr} {j n : Nat} {us : List PV → Env' → Option Env'} {js : List Nat} (ok : Ok X g) (hc : X.calm = true) (h : PGs X es (tGs g us js))
    (hn : (assignEach es X.env).length = n) (hst : (assignEach es X.env).findIdx? (·.1) = none) : PG X (.Tuple es j pos) (tG g (uTup n us) js) :=
  pgImp (pg_tup hc h hn hst) fun v σ H Q ⟨F, env, p, env', S, r, e, k⟩ => by
    cases p with
    | tup ps =>
      unfold uTup at e
      dsimp only at e
      split at e
      · rename_i hl
        unfold R at r
        obtain ⟨a, vs, rfl, q, rs⟩ := r
        exact ⟨a, vs, rfl, .inl (.inl (S.sub.tup q)), by rw [rs.length]; exact hl, F, env, ps, env', S, rs, e, k⟩
      · cases e
    | _ => cases e
def dAsgT (d : Env' → Res Val) (u : UG) : Env' → Res Fl := fun e => (d e).bind fun x e1 => (frz x e1).bind fun p e2 => match u p e2 with
  | some e3 => .ok .nx e3
  | none => .bad
theorem frz_ok {x : Val} {v : V} {p : PV} (S : Stt g F H σ env) (r : RV g F H σ env x v) (h : frz x env = .ok p env') : ∃ F', Ex F F' ∧ Stt g F' H σ env' ∧ R g.C F' p v := by
  cases x with
  | fz p => cases h; exact ⟨F, Ex.refl F, S, r⟩
  | new p =>
    cases h
    obtain ⟨b, rfl, r1, hf, h0, hn⟩ := r
    obtain ⟨o, ho⟩ := r1.cell
    exact ⟨_, Ex.new hf, S.know hf ho h0 hn, r1.frozen ho hf⟩
  | bor i =>
    unfold frz at h
    dsimp only at h
    cases e : env[i]? with
    | none => rw [e] at h; cases h
    | some sl =>
      rw [e] at h
      have r : σ[i]? = some (some v) := r
      cases sl with
      | no => cases h
      | fz p =>
        cases h
        obtain ⟨w, h1, h2⟩ := S.fz i _ e
        rw [r] at h1; cases h1
        exact ⟨F, Ex.refl F, S, h2⟩
      | ow f p =>
        cases f with
        | false => cases h
        | true =>
          cases h
          obtain ⟨w, h1, h2, h3, h4⟩ := S.ow i _ _ e
          rw [r] at h1; cases h1
          obtain ⟨o, ho⟩ := h2.cell
          obtain ⟨S', rr⟩ := S.freeze e r ho
          exact ⟨_, Ex.new h3, S', rr⟩
theorem frz_noerr {x : Val} {y : Exc'} {e : Env'} : frz x env ≠ .err y e := by
  intro h
  cases x with
  | fz p => cases h
  | new p => cases h
  | bor i =>
    unfold frz at h
    dsimp only at h
    split at h <;> cases h
theorem GoS_frz {x : Val} {v : V} {f : PV → Env' → Res Fl} (S : Stt g F H σ env) (r : RV g F H σ env x v) (go : GoS g F ((frz x env).bind f) D) : ∃ F' p env', Ex F F' ∧ Stt g F' H σ env' ∧ R g.C F' p v ∧ GoS g F' (f p env') D := by
  cases h : frz x env with
  | bad => rw [h] at go; exact go.elim
  | err y e => exact (frz_noerr h).elim
  | ok p e =>
    rw [h] at go
    obtain ⟨F', x1, S', r'⟩ := frz_ok S r h
    exact ⟨F', p, e, x1, S', r', GoS.up go x1⟩
theorem ugo {x : Val} {v : V} {u : UG} {js : List Nat} (S : Stt g F H σ env) (r : RV g F H σ env x v) (go : GoS g F ((frz x env).bind fun p e2 => match u p e2 with | some e3 => .ok .nx e3 | none => .bad) D) : tG g u js v σ H D.nx := by
  obtain ⟨F', p, e, x1, S', r', go'⟩ := GoS_frz S r go
  cases h : u p e with
  | none => simp only [h] at go'; exact go'.elim
  | some e3 =>
    simp only [h] at go'
    exact ⟨F', e, p, e3, S', r', h, fun σ' S2 _ _ => go' F' H σ' (Ex.refl F') S2⟩
theorem ss_asgT {tg : Expr} {u : UG} {js : List Nat} (he : PE X a (tE g da)) (hg : PG X tg (tG g u js)) (hs : swapsWithSole [tg] a pos.line X.env = pure false) (hw : swappedStores [tg] a X.env = pure none)
    (h1 : (assignEach [tg] X.env).map (·.2) = [assign tg X.env]) : PS X (.Assign [tg] a pos) (tS g (dAsgT da u)) :=
  psImp (ps_asg he hg hs hw h1) fun D σ H ⟨F, env, S, go⟩ => ⟨F, env, S, (GoS.bindE (σ := σ) go).mono fun x e F' H' x1 S1 k v r => ugo S1 r k⟩

/-! ### o[i] = e, o[i] op= e, o a name -/
def semPut : PV → PV → PV → Option PV
  | .lst xs, .int k, v => (ixN xs.length k).map fun j => .lst (xs.set j v)
  | .dK ks vs, y, v => match keyP y with
    | some k => if ks.length < big then some (.dK (putP ks vs k v).1 (putP ks vs k v).2) else none
    | none => none
  | .dT ks vs, .tup ys, v => match keysP ys with
    | some k => if ks.length < big then some (.dT (putP ks vs k v).1 (putP ks vs k v).2) else none
    | none => none
  | _, _, _ => none
theorem put_go {i : Nat} {bb : Bool} {q q' kp p : PV} {o k v : V} {R1' : Hp → Prop} (S : Stt g F H σ env) (hi : env[i]? = some (.ow bb q)) (ho : σ[i]? = some (some o)) (rk : Rt g.C F H kp k) (r : R g.C F p v) (h : semPut q kp p = some q')
    (kk : ∀ H', Stt g F H' σ (env.set i (.ow bb q')) → R1' H') : rSetL o k v H R1' ∨ rSetD o k v H R1' := by
  obtain ⟨a, h1, h2, h3, h4⟩ := S.ow i bb q hi
  rw [ho] at h1; cases h1
  cases q with
  | lst xs =>
    cases kp with
    | int j =>
      simp only [semPut, Option.map_eq_some_iff] at h
      obtain ⟨n, hn, e⟩ := h
      subst e
      obtain ⟨vs, e1, e2⟩ := h2
      cases rt_int rk
      refine .inl ⟨a, vs, j, n, rfl, rfl, e1, by rw [e2.length]; exact hn, kk _ (S.write hi ho ?_)⟩
      simp only [R1]
      exact ⟨_, upd_same, e2.set n r⟩
    | _ => simp only [semPut] at h; cases h
  | dK ks vs =>
    obtain ⟨kvs, e1, e2, e3⟩ := h2
    have hk : ∃ kk, keyP kp = some kk ∧ ks.length < big ∧ q' = .dK (putP ks vs kk p).1 (putP ks vs kk p).2 := by
      simp only [semPut] at h
      split at h
      · rename_i j hj
        split at h
        · rename_i hl; cases h; exact ⟨j, hj, hl, rfl⟩
        · cases h
      · cases h
    obtain ⟨j, hj, hl, rfl⟩ := hk
    obtain rfl := keyP_rt rk hj
    refine .inr ⟨a, _, rfl, DPut.k e1 (by rw [← List.length_map (as := kvs) Prod.fst, e2, big_eq]; exact hl), kk _ (S.write hi ho ?_)⟩
    obtain ⟨z1, z2⟩ := putP_r (k := j) e3 r
    rw [e2] at z1 z2
    simp only [R1]
    exact ⟨_, upd_same, z1, z2⟩
  | dT ks vs =>
    obtain ⟨kvs, e1, e2, e3⟩ := h2
    cases kp with
    | tup ys =>
      have hk : ∃ kk, keysP ys = some kk ∧ ks.length < big ∧ q' = .dT (putP ks vs kk p).1 (putP ks vs kk p).2 := by
        simp only [semPut] at h
        split at h
        · rename_i j hj
          split at h
          · rename_i hl; cases h; exact ⟨j, hj, hl, rfl⟩
          · cases h
        · cases h
      obtain ⟨j, hj, hl, rfl⟩ := hk
      obtain ⟨b, us, rfl, f1, f2, f3⟩ := rk
      obtain rfl := keysP_r f2 hj
      refine .inr ⟨a, _, rfl, DPut.t e1 f1 (by rw [← List.length_map (as := kvs) Prod.fst, e2, big_eq]; exact hl), kk _ (S.write hi ho ?_)⟩
      obtain ⟨z1, z2⟩ := putP_r (k := j) e3 r
      rw [e2] at z1 z2
      simp only [R1]
      exact ⟨_, upd_same, z1, z2⟩
    | _ => simp only [semPut] at h; cases h
  | _ => simp only [semPut] at h; cases h
def semSet' : TSet := fun o i v H Q => rSetL o i v H Q ∨ rSetD o i v H Q
theorem set_both (ok : Ok X g) : PSet X semSet' := by
  intro pins s σ H o i v ov iv u Q I ro ri rv h
  rcases h with h | h
  · exact set_list pins s σ H o i v ov iv u Q I ro ri rv h
  · exact set_dict (by have := ok.u; omega) pins s σ H o i v ov iv u Q I ro ri rv h
def putS (i : Nat) (p : PV) (y : Val) (e : Env') : Res Fl := match e[i]?, peek y e with
  | some (.ow b q), some k => match semPut q k p with
    | some q' => .ok .nx (e.set i (.ow b q'))
    | none => .bad
  | _, _ => .bad
theorem putS_go {i : Nat} {p : PV} {y : Val} {o v k : V} (S : Stt g F H σ env) (ho : σ[i]? = some (some o)) (rk : RV g F H σ env y k) (r : R g.C F p v) (go : GoS g F (putS i p y env) D) : semSet' o k v H fun H' => D.nx σ H' := by
  unfold putS at go
  cases h1 : env[i]? with
  | none => simp only [h1] at go; exact go.elim
  | some sl =>
    cases h2 : peek y env with
    | none => cases sl <;> (simp only [h1, h2] at go; exact go.elim)
    | some kp =>
      cases sl with
      | no => simp only [h1, h2] at go; exact go.elim
      | fz q => simp only [h1, h2] at go; exact go.elim
      | ow b q =>
        simp only [h1, h2] at go
        cases h3 : semPut q kp p with
        | none => rw [h3] at go; exact go.elim
        | some q' =>
          rw [h3] at go
          exact put_go S h1 ho (peek_ok S rk h2) r h3 fun H' S' => go F H' σ (Ex.refl F) S'
def isOw (i : Nat) (e : Env') : Bool := match e[i]? with
  | some (.ow _ _) => true
  | _ => false
theorem isOw_at {i : Nat} (S : Stt g F H σ env) (h : isOw i env = true) : ∃ b q a, env[i]? = some (.ow b q) ∧ σ[i]? = some (some (.ref a)) ∧ R1 g.C F H q a := by
  unfold isOw at h
  cases e : env[i]? with
  | none => rw [e] at h; cases h
  | some sl =>
    rw [e] at h
    cases sl with
    | ow b q =>
      obtain ⟨a, h1, h2, h3⟩ := S.ow i b q e
      exact ⟨b, q, a, rfl, h1, h2⟩
    | _ => cases h
def dPut (i : Nat) (di dv : Env' → Res Val) : Env' → Res Fl := fun e => (dv e).bind fun x e1 => (frz x e1).bind fun p e2 => if isOw i e2 = true then (stl di e2).bind fun y e3 => putS i p y e3 else .bad
theorem ss_put {o ix : Expr} {i : Nat} {pos' : Pos} {di dv : Env' → Res Val} (ok : Ok X g) (ho : PE X o (tVar i)) (hi : PE X ix (tE g di)) (hv : PE X a (tE g dv))
    (hs : swapsWithSole [.Subscript o ix pos'] a pos.line X.env = pure false) (hw : swappedStores [.Subscript o ix pos'] a X.env = pure none) (h1 : (assignEach [.Subscript o ix pos'] X.env).map (·.2) = [assign (.Subscript o ix pos') X.env])
    (ha : ∀ v, assign (.Subscript o ix pos') X.env v = (do
      let ov ← holding [v] (eval o X.env)
      let iv ← holding [v, ov] (eval ix X.env)
      standAt pos'
      holding [v, ov, iv] (setItem ov iv v)
      release [v, ov, iv] [])) : PS X (.Assign [.Subscript o ix pos'] a pos) (tS g (dPut i di dv)) :=
  psImp (ps_asg hv (pg_sub ho (peStl hi) (set_both ok) ha) hs hw h1) fun D σ H ⟨F, env, S, go⟩ => ⟨F, env, S, (GoS.bindE (σ := σ) go).mono fun x e F' H' x1 S1 k v r => by
    obtain ⟨F2, p, e2, x2, S2, r2, go2⟩ := GoS_frz S1 r k
    split at go2
    · rename_i hw
      obtain ⟨b, q, ad, w1, w2, w3⟩ := isOw_at S2 hw
      exact ⟨_, w2, F2, e2, S2, (GoS.bindE (σ := σ) go2).mono fun y e3 F3 H3 x3 S3 k3 kv r3 => putS_go S3 w2 r3 (r2.mono x3.le) k3⟩
    · exact go2.elim⟩
/-! ### o[i] op= e -/
def semGet : PV → PV → Option PV
  | .lst xs, .int k => atI xs k
  | .dK ks vs, y => match keyP y with
    | some k => look ks vs k
    | none => none
  | .dT ks vs, .tup ys => match keysP ys with
    | some k => look ks vs k
    | none => none
  | _, _ => none
def rGetB (K : PySem.W.Frag) : V → V → Hp → VK → Prop := fun o i H Q => (∃ p xs k v, o = .ref p ∧ i = .int k ∧ SqL K H p xs ∧ atI xs k = some v ∧ Q v H) ∨ ∃ a v, o = .ref a ∧ DGet H a i (some v) ∧ Q v H
theorem get_both (ok : Ok X g) : PGet X (rGetB X.K) := by
  intro pins s σ H o i ov iv Q I ro ri h
  rcases h with h | h
  · obtain ⟨p, xs, k, z, rfl, rfl, hq, he, q⟩ := h
    cases ro
    obtain ⟨t, rfl⟩ := ri
    obtain ⟨its, r, pl, hz⟩ := I.list hq
    obtain ⟨j, h1, h2, h3, h4, h5⟩ := atI_get he
    obtain ⟨w, ew, rw'⟩ := r.get h2
    have hl := r.length
    have hn := line63
    have fin : EP X pins σ Q w s := ⟨z, H, I, rw', q⟩
    by_cases h0 : 0 ≤ k
    · have hj : k.toNat = j := by
        rw [seqIndex_of h0 h5] at h1
        exact Option.some.inj h1
      exact PySem.wpAny_getItem_list pl.isList h0 (by omega) (by rw [hj]; simpa using ew) fin
    · have hj : (k + (its.toArray.size : Int)).toNat = j := by
        rw [seqIndex_neg (by omega) h4] at h1
        rw [List.size_toArray, ← hl]
        exact Option.some.inj h1
      exact PySem.wpAny_getItem_list_neg pl.isList (by omega) (by rw [List.size_toArray] <;> omega) (by omega) (by rw [hj]; simpa using ew) fin
  · obtain ⟨a, v, rfl, gg, q⟩ := h
    cases ro
    exact d_getItem (by have := ok.u; omega) I gg ri fun w' s' I' r' => ⟨v, H, I', r', q⟩
theorem semGet_ok {q kp p : PV} {o k : V} {Q : VK} {C : Ct} {K : PySem.W.Frag} (r : Rt C F H q o) (rk : Rt C F H kp k) (h : semGet q kp = some p) (kk : ∀ v, R C F p v → Q v H) : rGetB K o k H Q := by
  cases q with
  | lst xs =>
    cases kp with
    | int j =>
      simp only [semGet] at h
      obtain ⟨a, vs, rfl, e1, e2⟩ := r
      cases rt_int rk
      obtain ⟨n, hn, hx⟩ : ∃ n, ixN xs.length j = some n ∧ xs[n]? = some p := by
        unfold atI at h
        cases hh : ixN xs.length j with
        | none => rw [hh] at h; cases h
        | some n => rw [hh] at h; exact ⟨n, rfl, h⟩
      obtain ⟨v, hv, rv⟩ := e2.get hx
      refine .inl ⟨a, vs, j, v, rfl, rfl, SqL.of e1, ?_, kk v rv⟩
      unfold atI
      rw [e2.length, hn]
      exact hv
    | _ => simp only [semGet] at h; cases h
  | dK ks vs =>
    obtain ⟨a, kvs, rfl, e1, e2, e3⟩ := r
    simp only [semGet] at h
    split at h
    · rename_i j hj
      obtain rfl := keyP_rt rk hj
      have := look_r (kvs := kvs) j e3
      rw [e2, h] at this
      obtain ⟨v, hv, rv⟩ := this
      exact .inr ⟨a, v, rfl, .inl ⟨kvs, j, e1, rfl, hv.symm⟩, kk v rv⟩
    · cases h
  | dT ks vs =>
    cases kp with
    | tup ys =>
      obtain ⟨a, kvs, rfl, e1, e2, e3⟩ := r
      simp only [semGet] at h
      split at h
      · rename_i j hj
        obtain ⟨b, us, rfl, f1, f2, f3⟩ := rk
        obtain rfl := keysP_r f2 hj
        have := look_r (kvs := kvs) j e3
        rw [e2, h] at this
        obtain ⟨v, hv, rv⟩ := this
        exact .inr ⟨a, v, rfl, .inr ⟨kvs, j, b, e1, rfl, f1, hv.symm⟩, kk v rv⟩
      · cases h
    | _ => simp only [semGet] at h; cases h
  | _ => simp only [semGet] at h; cases h
def augP (i : Nat) (sem : Int → Int → Option Int) (dv : Env' → Res Val) (y : Val) (e1 : Env') : Res Fl := match e1[i]?, peek y e1 with
  | some (.ow b q), some kp => match semGet q kp with
    | some (.int k) => (stl dv e1).bind fun x e2 => match x with
      | .fz (.int n) => match sem k n with
        | some m => putS i (.int m) y e2
        | none => .bad
      | _ => .bad
    | _ => .bad
  | _, _ => .bad
def dAugP (i : Nat) (sem : Int → Int → Option Int) (di dv : Env' → Res Val) : Env' → Res Fl := fun e => if isOw i e = true then (stl di e).bind fun y e1 => augP i sem dv y e1 else .bad
theorem ss_augP {o ix : Expr} {i : Nat} {tpos : Pos} {op : Operator} {sem : Int → Int → Option Int} {di dv : Env' → Res Val} (ok : Ok X g) (ho : PE X o (tVar i)) (hi : PE X ix (tE g di)) (hv : PE X a (tE g dv)) (hop : PIp X op (ipO sem))
    (ha : ∀ ov iv new, augStore ix ov iv new = (do holding [new, ov, iv] (setItem ov iv new); release [new, ov, iv] []; pure .next)) : PS X (.AugAssign (.Subscript o ix tpos) op a pos) (tS g (dAugP i sem di dv)) := by
  refine ⟨fun pins s σ H D I ⟨F, env, S, go⟩ => ?_⟩
  unfold dAugP at go
  split at go
  · rename_i hw
    obtain ⟨b, q, ad, w1, w2, w3⟩ := isOw_at S hw
    refine wpAny_AugAssign_SubscriptAny (thn (ho.run pins s σ H (fun v H1 => v = .ref ad ∧ H1 = H) I ⟨_, w2, rfl, rfl⟩) fun ov s1 ⟨x1, H1, I1, r1, e1, e2⟩ => ?_) ha
    subst e1 e2
    have go' : Go g F σ ((stl di env).bind fun y e1 => .ok y e1) fun y e1 F' H' => GoS g F' (augP i sem dv y e1) D := by
      have := GoS.bindE (σ := σ) go
      cases hd : stl di env with
      | bad => rw [hd] at this; exact this
      | err x e => rw [hd] at this; exact this
      | ok x e => rw [hd] at this; exact this
    refine thn (peGo hi I1 S go') fun iv s2 ⟨x2, H2, I2, r2, F2, env2, y, x2', S2, o2, rv2, go2⟩ => ?_
    have go2 := go2 F2 H2 (Ex.refl F2) S2
    unfold augP at go2
    cases h1 : env2[i]? with
    | none => simp only [h1] at go2; exact go2.elim
    | some sl =>
      cases h2 : peek y env2 with
      | none => cases sl <;> (simp only [h1, h2] at go2; exact go2.elim)
      | some kp =>
        cases sl with
        | no => simp only [h1, h2] at go2; exact go2.elim
        | fz q => simp only [h1, h2] at go2; exact go2.elim
        | ow b2 q2 =>
          simp only [h1, h2] at go2
          split at go2
          · rename_i k hk
            obtain ⟨ad', z1, z2, z3⟩ := S2.ow i _ _ h1
            rw [w2] at z1; cases z1
            refine thn (get_both ok pins s2 σ H2 (.ref ad) x2 ov iv (fun v H3 => v = .int k ∧ H3 = H2) I2 r1 r2 (semGet_ok (R1.rt z2) (peek_ok S2 rv2 h2) hk fun v rv => ⟨by unfold R at rv; exact rv, rfl⟩)) fun old s3 ⟨x3, H3, I3, r3, q3, q3'⟩ => ?_
            subst q3 q3'
            have go3 : Go g F2 σ ((stl dv env2).bind fun y e1 => .ok y e1) fun x e2 F' H' => GoS g F' (match x with | .fz (.int n) => (match sem k n with | some m => putS i (.int m) y e2 | none => .bad) | _ => .bad) D := by
              have := GoS.bindE (σ := σ) go2
              cases hd : stl dv env2 with
              | bad => rw [hd] at this; exact this
              | err x e => rw [hd] at this; exact this
              | ok x e => rw [hd] at this; exact this
            refine thn (peGo hv I3 S2 go3) fun v s4 ⟨x4, H4, I4, r4, F4, env4, x, x4', S4, o4, rv4, go4⟩ => ?_
            have go4 := go4 F4 H4 (Ex.refl F4) S4
            dsimp only at go4
            split at go4
            · rename_i n hgo
              split at go4
              · rename_i m hm
                have rv4 : R g.C F4 (.int n) x4 := rv4
                unfold R at rv4
                refine thn (hop pins s4 σ H4 (.int k) x4 old v (fun z H5 => z = .int m ∧ H5 = H4) I4 r3 r4 ⟨k, n, m, rfl, rv4, hm, rfl, rfl⟩) fun new s5 ⟨x5, H5, I5, r5, q5, q5'⟩ => ?_
                subst q5 q5'
                refine thn (set_both ok pins s5 σ H5 (.ref ad) x2 (.int m) ov iv new (fun H6 => D.nx σ H6) I5 r1 r2 r5 (putS_go S4 w2 (rv2.later o2 x4') (by unfold R; rfl) go4)) fun _ s6 ⟨H6, I6, q6⟩ => ⟨σ, H6, I6, q6⟩
              · exact go4.elim
            · exact go4.elim
          · exact go2.elim
  · exact go.elim
theorem peGoS {e : Expr} {d : Env' → Res Val} {f : Val → Env' → Res Fl} (h : PE X e (tE g d)) (I : Inv X pins σ H s) (S : Stt g F H σ env) (go : GoS g F ((stl d env).bind f) D) :
    wpAny (model X.prog X.w) X.A (eval e X.env) (EP X pins σ fun v H1 => ∃ F1 env1 x, Ex F F1 ∧ Stt g F1 H1 σ env1 ∧ x.old ∧ RV g F1 H1 σ env1 x v ∧ GoS g F1 (f x env1) D) X.xe s := by
  have go' : Go g F σ ((stl d env).bind fun y e1 => .ok y e1) fun y e1 F' H' => GoS g F' (f y e1) D := by
    have := GoS.bindE (σ := σ) go
    cases hd : stl d env with
    | bad => rw [hd] at this; exact this
    | err x e => rw [hd] at this; exact this
    | ok x e => rw [hd] at this; exact this
  exact thn (peGo h I S go') fun iv s2 ⟨x2, H2, I2, r2, F2, env2, y, x2', S2, o2, rv2, go2⟩ => ⟨x2, H2, I2, r2, F2, env2, y, x2', S2, o2, rv2, go2 F2 H2 (Ex.refl F2) S2⟩
theorem paGoS {es : List Expr} {d : Env' → Res (List Val)} {f : List Val → Env' → Res Fl} (h : PA X es (tAs g d)) (pos : Pos) (I : Inv X pins σ H s) (S : Stt g F H σ env) (go : GoS g F ((d env).bind f) D) :
    wpAny (model X.prog X.w) X.A (spliced (backTo pos (starEach es X.env))) (AP X pins σ fun vs H1 => ∃ F1 env1 xs, Ex F F1 ∧ Stt g F1 H1 σ env1 ∧ AllOld xs ∧ RVs g F1 H1 σ env1 xs vs ∧ GoS g F1 (f xs env1) D) X.xe s := by
  have go' : Go g F σ ((d env).bind fun y e1 => .ok y e1) fun y e1 F' H' => GoS g F' (f y e1) D := by
    have := GoS.bindE (σ := σ) go
    cases hd : d env with
    | bad => rw [hd] at this; exact this
    | err x e => rw [hd] at this; exact this
    | ok x e => rw [hd] at this; exact this
  exact thn (paGo h pos I S go') fun iv s2 ⟨x2, H2, I2, r2, F2, env2, y, x2', S2, o2, rv2, go2⟩ => ⟨x2, H2, I2, r2, F2, env2, y, x2', S2, o2, rv2, go2 F2 H2 (Ex.refl F2) S2⟩

/-! ### methods that write their receiver, the receiver a name -/
structure WRule (X : Cx) (g : Gm) (T : String) (name : Str) (sem : PV → List PV → Option (PV × PV)) : Prop where
  ne : T ≠ ""
  ex : ∃ id, PlainAttrs T ∧ Slot T name id ∧ typeOf (.builtin id) = pure (.type "method_descriptor") ∧
    ∀ (pins : List (Addr × Obj)) (s : Shared) (σ : St) (F H : Hp) (env : Env') (i : Nat) (b : Bool) (a : Addr) (q q' r : PV) (ps : List PV) (vs : List V) (us : List Value) (Q : VK), Inv X pins σ H s → Stt g F H σ env → env[i]? = some (.ow b q) → σ[i]? = some (some (.ref a)) → R1 g.C F H q a → Vals vs us → Rs g.C F ps vs → kd q = T → sem q ps = some (q', r) →
    (∀ F' H' w, Ex F F' → Stt g F' H' σ (env.set i (.ow b q')) → R g.C F' r w → Q w H') → wpAny (model X.prog X.w) X.A (PySem.call (.builtin id) (.ref a :: us)) (EP X pins σ Q) X.xe s
def kdAt (i : Nat) (e : Env') : String := match e[i]? with
  | some (.ow _ q) => kd q
  | _ => ""
def mutK (T : String) (sem : PV → List PV → Option (PV × PV)) (i : Nat) (ps : List PV) (e : Env') : Res Val := match e[i]? with
  | some (.ow b q) => if kd q = T then match sem q ps with
      | some (q', r) => .ok (.fz r) (e.set i (.ow b q'))
      | none => .bad
    else .bad
  | _ => .bad
def dMut (T : String) (sem : PV → List PV → Option (PV × PV)) (i : Nat) (ds : List (Env' → Res Val)) : Env' → Res Val := fun e => if kdAt i e = T then (dArgs ds e).bind fun xs e1 => (frzs xs e1).bind fun ps e2 => mutK T sem i ps e2 else .bad
theorem kdAt_is {i : Nat} {T : String} (hT : T ≠ "") (h : kdAt i env = T) : ∃ b q, env[i]? = some (.ow b q) ∧ kd q = T := by
  unfold kdAt at h
  split at h
  · rename_i b q e; exact ⟨b, q, e, h⟩
  · exact (hT h.symm).elim
theorem mut_fin {T : String} {name : Str} {id : String} {sem : PV → List PV → Option (PV × PV)} {i : Nat} {v : V} {vv : Value} {ps : List PV} {vs : List V} {us : List Value} {Q : VK}
    (run : ∀ (pins : List (Addr × Obj)) (s : Shared) (σ : St) (F H : Hp) (env : Env') (i : Nat) (b : Bool) (a : Addr) (q q' r : PV) (ps : List PV) (vs : List V) (us : List Value) (Q : VK), Inv X pins σ H s → Stt g F H σ env → env[i]? = some (.ow b q) → σ[i]? = some (some (.ref a)) → R1 g.C F H q a → Vals vs us → Rs g.C F ps vs → kd q = T → sem q ps = some (q', r) →
      (∀ F' H' w, Ex F F' → Stt g F' H' σ (env.set i (.ow b q')) → R g.C F' r w → Q w H') → wpAny (model X.prog X.w) X.A (PySem.call (.builtin id) (.ref a :: us)) (EP X pins σ Q) X.xe s)
    (I : Inv X pins σ H s) (S : Stt g F H σ env) (hv : σ[i]? = some (some v)) (r1 : RelV v vv) (r2 : Vals vs us) (t2 : Rs g.C F ps vs)
    (go : Go g F σ (mutK T sem i ps env) fun x env' F' H' => ∀ v, RV g F' H' σ env' x v → Q v H') : wpAny (model X.prog X.w) X.A (PySem.call (.builtin id) (vv :: us)) (EP X pins σ Q) X.xe s := by
  unfold mutK at go
  split at go
  · rename_i b q hi
    split at go
    · rename_i hk
      split at go
      · rename_i q' r hs
        obtain ⟨a, h1, h2, h3⟩ := S.ow i b q hi
        rw [hv] at h1; cases h1
        cases r1
        exact run pins s σ F H env i b a q q' r ps vs us Q I S hi hv h2 r2 t2 hk hs fun F' H' w x1 S' rr => go F' H' x1 S' w rr
      · exact go.elim
    · exact go.elim
  · exact go.elim
section
variable {o e : Expr} {es : List Expr} {ds : List (Env' → Res Val)} {name : Str} {apos cpos : Pos} {T : String} {sem : PV → List PV → Option (PV × PV)} {i : Nat}
theorem se_mut (ok : Ok X g) (M : WRule X g T name sem) (ho : PE X o (tVar i)) (ha : PA X (e :: es) (tAs g (dArgs ds)))
    (hbase : attributeBase o name X.env (eval o X.env) = eval o X.env)
    (hfew : ((backTo cpos (starEach (e :: es) X.env)).all (fun x => !x.1) && (backToKw cpos (keywordEach [] X.env)).all (fun x => x.1.isSome)
      && decide ((e :: es).length + ([] : List Keyword).length + (if ([] : List Keyword).isEmpty then 0 else 1) < 30)) = true)
    (hline : (apos.endLine == cpos.line) = true) (hs : starEach (e :: es) X.env = (false, eval e X.env) :: starEach es X.env) (hplain : (backTo cpos (starEach es X.env)).any (·.1) = false) :
    PE X (.Call (.Attribute o name apos) (e :: es) [] cpos) (tE g (dMut T sem i ds)) := by
  obtain ⟨id, pa, slot, hty, run⟩ := M.ex
  refine ⟨fun pins s σ H Q I ⟨F, env, S, go⟩ => ?_⟩
  unfold dMut at go
  split at go
  · rename_i hk
    obtain ⟨b, q, hi, hq⟩ := kdAt_is M.ne hk
    obtain ⟨ad, w1, w2, w3⟩ := S.ow i b q hi
    refine wpAny_Call_method_late hbase hfew hline rfl (thn (ho.run pins s σ H (fun v H1 => v = .ref ad ∧ H1 = H) I ⟨_, w1, rfl, rfl⟩) fun v s1 ⟨x1, H1, I1, r1, e1, e2⟩ => ?_)
    subst e1 e2
    obtain ⟨h1, h2⟩ := kd_is ok I1 r1 (R1.rt w2) hq M.ne
    refine ⟨T, id, pa, slot, hty, h1, h2, ?_⟩
    have hA := paGo ha cpos I1 S go
    rw [hs] at hA ⊢
    refine Calls.callWith_builtin (by show (false || (backTo cpos (starEach es X.env)).any (·.1)) = false; rw [hplain] <;> rfl) (Calls.evalArgs_plain ?_)
    refine thn hA fun us s2 ⟨vs, H2, I2, r2, F2, e2, xs, x2, S2, o2, rv2, go2⟩ => ?_
    obtain ⟨F3, ps, e3, x3, S3, q3, go3⟩ := frzs_go o2 S2 rv2 go2
    exact mut_fin (name := name) run I2 S3 w1 r1 r2 q3 go3
  · exact go.elim
theorem se_mut0 (ok : Ok X g) (M : WRule X g T name sem) (ho : PE X o (tVar i))
    (hbase : attributeBase o name X.env (eval o X.env) = eval o X.env) (hline : (apos.endLine == cpos.line) = true) : PE X (.Call (.Attribute o name apos) [] [] cpos) (tE g (dMut T sem i [])) := by
  obtain ⟨id, pa, slot, hty, run⟩ := M.ex
  refine ⟨fun pins s σ H Q I ⟨F, env, S, go⟩ => ?_⟩
  unfold dMut at go
  split at go
  · rename_i hk
    obtain ⟨b, q, hi, hq⟩ := kdAt_is M.ne hk
    obtain ⟨ad, w1, w2, w3⟩ := S.ow i b q hi
    refine wpAny_Call_method0_late hbase hline (thn (ho.run pins s σ H (fun v H1 => v = .ref ad ∧ H1 = H) I ⟨_, w1, rfl, rfl⟩) fun v s1 ⟨x1, H1, I1, r1, e1, e2⟩ => ?_)
    subst e1 e2
    obtain ⟨h1, h2⟩ := kd_is ok I1 r1 (R1.rt w2) hq M.ne
    refine ⟨T, id, pa, slot, hty, h1, h2, Calls.callWith_builtin rfl (PySem.evalArgs_none ?_)⟩
    exact mut_fin (name := name) (ps := []) (vs := []) (us := []) run I1 S w1 r1 .nil Rs.nil go
  · exact go.elim
/-! the list's -/
def semAppend : PV → List PV → Option (PV × PV)
  | .lst xs, [p] => if xs.length < big then some (.lst (xs ++ [p]), .non) else none
  | _, _ => none
def semExtend : PV → List PV → Option (PV × PV)
  | .lst xs, [.lst ys] => if xs.length + ys.length ≤ big then some (.lst (xs ++ ys), .non) else none
  | _, _ => none
def semPop : PV → List PV → Option (PV × PV)
  | .lst xs, [] => xs.getLast?.map fun y => (.lst xs.dropLast, y)
  | .lst xs, [.int i] => if r62 i = true then (ixN xs.length i).bind fun k => xs[k]?.map fun y => (.lst (xs.eraseIdx k), y) else none
  | _, _ => none
def semClear : PV → List PV → Option (PV × PV)
  | .lst _, [] => some (.lst [], .non)
  | _, _ => none
end
end
end VL

set_option maxRecDepth 100000
set_option maxHeartbeats 2000000
namespace VL
open PySem PySem.Spec L2
open PyProof.Rows hiding St
section
variable {X : Cx} {g : Gm} {pins : List (Addr × Obj)} {F H F' H' : Hp} {σ : St} {env env' : Env'} {s : Shared}
/-- a rule for a list -/
theorem w_list {name : Str} {id : String} {r : V → List V → Hp → VK → Prop} {sem : PV → List PV → Option (PV × PV)} (sl : Slot "list" name id) (ty : typeOf (.builtin id) = pure (.type "method_descriptor")) (hm : MtM X id r)
    (k : ∀ (F H : Hp) (a : Addr) (xs ps : List PV) (ws vs : List V) (q' p : PV) (Q : VK), H a = some (.lst ws) → Le F H → F a = none → Rs g.C F xs ws → Rs g.C F ps vs → sem (.lst xs) ps = some (q', p) →
      (∀ ws' xs' w, q' = .lst xs' → Rs g.C F xs' ws' → R g.C F p w → Q w (upd H a (.lst ws'))) → r (.ref a) vs H Q) : WRule X g "list" name sem := by
  refine ⟨by decide, id, PySem.F.plainAttrs_list, sl, ty, ?_⟩
  intro pins s σ F H env i b a q q' r' ps vs us Q I S hi hv r1 rv rs hk hs kk
  cases q <;> try (exact absurd hk (by simp only [kd]; decide))
  rename_i xs
  obtain ⟨ws, e1, e2⟩ := r1
  obtain ⟨ad, z1, z2, z3, _⟩ := S.ow i b _ hi
  rw [hv] at z1; cases z1
  refine hm pins s σ H (.ref a) vs (.ref a) us Q I rfl rv (k F H a xs ps ws vs q' r' Q e1 S.sub z3 e2 rs hs fun ws' xs' w eq rr rw' => ?_)
  subst eq
  refine kk F _ w (Ex.refl F) (S.write hi hv ?_) rw'
  simp only [R1]
  exact ⟨ws', upd_same, rr⟩
theorem semAppend_inv {q q' p : PV} {ps : List PV} (h : semAppend q ps = some (q', p)) : ∃ xs y, q = .lst xs ∧ ps = [y] ∧ xs.length < big ∧ q' = .lst (xs ++ [y]) ∧ p = .non := by
  unfold semAppend at h
  split at h
  · split at h
    · cases h; exact ⟨_, _, rfl, rfl, by assumption, rfl, rfl⟩
    · cases h
  · cases h
theorem w_append : WRule X g "list" "append" semAppend := w_list PySem.F.slot_list_append PySem.F.type_list_append mt_append fun F H a xs ps ws vs q' p Q e1 l nf r rs hs k => by
  obtain ⟨_, y, e, rfl, hl, rfl, rfl⟩ := semAppend_inv hs
  cases e
  obtain ⟨v, t, rfl, ry, rt⟩ := rs.cons_inv
  obtain rfl := rt.nil_inv
  exact ⟨a, ws, v, rfl, rfl, e1, by rw [r.length, big_eq]; exact hl, k _ _ _ rfl (r.snoc ry) (by unfold R; rfl)⟩
theorem semExtend_inv {q q' p : PV} {ps : List PV} (h : semExtend q ps = some (q', p)) : ∃ xs ys, q = .lst xs ∧ ps = [.lst ys] ∧ xs.length + ys.length ≤ big ∧ q' = .lst (xs ++ ys) ∧ p = .non := by
  unfold semExtend at h
  split at h
  · split at h
    · cases h; exact ⟨_, _, rfl, rfl, by assumption, rfl, rfl⟩
    · cases h
  · cases h
theorem w_extend : WRule X g "list" "extend" semExtend := w_list PySem.F.slot_list_extend PySem.F.type_list_extend mt_extend fun F H a xs ps ws vs q' p Q e1 l nf r rs hs k => by
  obtain ⟨_, ys, e, rfl, hl, rfl, rfl⟩ := semExtend_inv hs
  cases e
  obtain ⟨v, t, rfl, ry, rt⟩ := rs.cons_inv
  obtain rfl := rt.nil_inv
  unfold R at ry
  obtain ⟨b, us, rfl, e2, r2⟩ := ry
  exact ⟨a, b, ws, us, rfl, rfl, e1, l.lst e2, by rw [r.length, r2.length, big_eq]; exact hl, k _ _ _ rfl (r.append r2) (by unfold R; rfl)⟩
theorem Rs.dropLast {C : Ct} {F : Hp} {xs : List PV} {vs : List V} (h : Rs C F xs vs) : Rs C F xs.dropLast vs.dropLast := by
  rw [List.dropLast_eq_take, List.dropLast_eq_take, h.length]
  exact h.take _
theorem mtm_or {id : String} {r r' : V → List V → Hp → VK → Prop} (h : MtM X id r) (h' : MtM X id r') : MtM X id (fun x xs H Q => r x xs H Q ∨ r' x xs H Q) := by
  intro pins s σ H x xs v us Q I rx rs q
  rcases q with q | q
  · exact h pins s σ H x xs v us Q I rx rs q
  · exact h' pins s σ H x xs v us Q I rx rs q
theorem semPop_inv {q q' p : PV} {ps : List PV} (h : semPop q ps = some (q', p)) : (∃ xs, q = .lst xs ∧ ps = [] ∧ xs.getLast? = some p ∧ q' = .lst xs.dropLast) ∨ (∃ xs i k, q = .lst xs ∧ ps = [.int i] ∧ (-(2 ^ 63) ≤ i ∧ i < 2 ^ 63) ∧ ixN xs.length i = some k ∧ xs[k]? = some p ∧ q' = .lst (xs.eraseIdx k)) := by
  unfold semPop at h
  split at h
  · simp only [Option.map_eq_some_iff] at h
    obtain ⟨y, hy, e⟩ := h
    cases e
    exact .inl ⟨_, rfl, rfl, hy, rfl⟩
  · split at h
    · rename_i hl
      simp only [Option.bind_eq_some_iff, Option.map_eq_some_iff] at h
      obtain ⟨k, hk, y, hy, e⟩ := h
      cases e
      exact .inr ⟨_, _, k, rfl, rfl, (by have := r62_ok hl; omega), hk, hy, rfl⟩
    · cases h
  · cases h
theorem w_pop : WRule X g "list" "pop" semPop := w_list PySem.F.slot_list_pop PySem.F.type_list_pop (mtm_or mt_pop mt_popAt) fun F H a xs ps ws vs q' p Q e1 l nf r rs hs k => by
  rcases semPop_inv hs with ⟨_, e, rfl, hy, rfl⟩ | ⟨_, i, j, e, rfl, hl, hj, hy, rfl⟩
  · cases e
    obtain rfl := rs.nil_inv
    have hy' : xs[xs.length - 1]? = some p := by rw [← hy, List.getLast?_eq_getElem?]
    obtain ⟨v, hv, rv⟩ := r.get hy'
    exact .inl ⟨a, ws, v, rfl, rfl, e1, by rw [r.length]; exact hv, k _ _ _ rfl r.dropLast rv⟩
  · cases e
    obtain ⟨v, t, rfl, ry, rt⟩ := rs.cons_inv
    obtain rfl := rt.nil_inv
    unfold R at ry
    subst ry
    obtain ⟨u, hu, ru⟩ := r.get hy
    exact .inr ⟨a, ws, i, j, u, rfl, rfl, e1, hl.1, hl.2, by rw [r.length]; exact (ixN_seq hj).1, hu, k _ _ _ rfl (r.eraseIdx j) ru⟩
theorem semClear_inv {q q' p : PV} {ps : List PV} (h : semClear q ps = some (q', p)) : ∃ xs, q = .lst xs ∧ ps = [] ∧ q' = .lst [] ∧ p = .non := by
  unfold semClear at h
  split at h
  · cases h; exact ⟨_, rfl, rfl, rfl, rfl⟩
  · cases h
theorem w_clear : WRule X g "list" "clear" semClear := w_list PySem.F.slot_list_clear PySem.F.type_list_clear mt_clear fun F H a xs ps ws vs q' p Q e1 l nf r rs hs k => by
  obtain ⟨_, e, rfl, rfl, rfl⟩ := semClear_inv hs
  cases e
  obtain rfl := rs.nil_inv
  exact ⟨a, ws, rfl, rfl, e1, k _ _ _ rfl Rs.nil (by unfold R; rfl)⟩
end
end VL

set_option maxRecDepth 100000
set_option maxHeartbeats 2000000
namespace VL
open PySem PySem.Spec L2
open PyProof.Rows hiding St
/-- an iterator that yields what ps says while F1's things stand -/
structure WalkP (C : Ct) (J : It) (F1 : Hp) (ps : List PV) : Prop where
  goes : ∀ (g : Gm) (i : Nat) (F H : Hp) (σ : St) (env : Env'), g.C = C → i < ps.length → Ex F1 F → Stt g F H σ env → J.go i H
  stops : ∀ (g : Gm) (F H : Hp) (σ : St) (env : Env'), g.C = C → Ex F1 F → Stt g F H σ env → J.stop ps.length H
  ylds : ∀ (g : Gm) (i : Nat) (p : PV) (F H : Hp) (σ : St) (env : Env') (x : V) (H' : Hp), g.C = C → ps[i]? = some p → Ex F1 F → Stt g F H σ env → J.yld i H x H' → ∃ F', Ex F F' ∧ Stt g F' H' σ env ∧ R C F' p x
def tI (g : Gm) (di : Env' → Res (List PV)) : TI := fun σ H Rr => ∃ F env, Stt g F H σ env ∧ Go g F σ (di env) fun ps env' F' H' => ∀ J, WalkP g.C J F' ps → Rr J H'
def forL (u : UG) (db : Env' → Res Fl) : List PV → Env' → Res Fl
  | [], e => .ok .nx e
  | p :: ps, e => match u p e with
    | none => .bad
    | some e1 => (db e1).bind fun f e2 => match f with
      | .nx => forL u db ps e2
      | .ct => forL u db ps e2
      | .bk => .ok .nx e2
      | x => .ok x e2
def dFor (di : Env' → Res (List PV)) (u : UG) (db : Env' → Res Fl) : Env' → Res Fl := fun e => (di e).bind fun ps e1 => forL u db ps e1
section
variable {X : Cx} {g : Gm} {pins : List (Addr × Obj)} {F H F' H' : Hp} {σ : St} {env env' : Env'} {s : Shared} {a b c : Expr} {da db dc : Env' → Res Val} {pos : Pos} {D : Ends} {d1 d2 : Env' → Res Fl}
theorem ss_for {tg it : Expr} {body : List Stmt} {di : Env' → Res (List PV)} {u : UG} {js : List Nat} (hp : PassesOwn (model X.prog X.w) X.A X.env X.xe) (ok : Ok X g) (hi : PI X tg it (tI g di)) (hg : PG X tg (tG g u js)) (hb : PSs X body (tS g d1))
    (hs : ∀ x, foldedSetIterable it X.env x = pure x) : PS X (.For tg it body [] pos) (tS g (dFor di u d1)) := by
  refine psImp (ps_for hp ok.calm hi hg hb hs) fun D σ H ⟨F, env, S, go⟩ => ⟨F, env, S, (GoS.bindE (σ := σ) go).mono fun ps e1 F1 H1 x1 S1 k J w => ?_⟩
  refine ⟨fun i m σ H => ∃ F env, Ex F1 F ∧ Stt g F H σ env ∧ m = ps.length - i ∧ i ≤ ps.length ∧ GoS g F (forL u d1 (ps.drop i) env) D, ⟨ps.length, F1, e1, Ex.refl F1, S1, by omega, Nat.zero_le _, by rw [List.drop_zero]; exact k⟩, ?_⟩
  rintro i m σ2 H2 ⟨F2, e2, x2, S2, rfl, hle, go2⟩
  by_cases hlt : i < ps.length
  · right
    have hd : ps.drop i = ps[i] :: ps.drop (i + 1) := List.drop_eq_getElem_cons hlt
    rw [hd] at go2
    unfold forL at go2
    refine ⟨w.goes g i F2 H2 σ2 e2 rfl hlt x2 S2, fun σ' H' => ∃ F env, Ex F1 F ∧ Stt g F H' σ' env ∧ GoS g F (forL u d1 (ps.drop (i + 1)) env) D, fun σ' H' ⟨F3, e3, x3, S3, go3⟩ => ⟨ps.length - (i + 1), by omega, F3, e3, x3, S3, rfl, hlt, go3⟩, fun x H' y => ?_⟩
    obtain ⟨F3, x3, S3, r3⟩ := w.ylds g i ps[i] F2 H2 σ2 e2 x H' rfl (List.getElem?_eq_getElem hlt) x2 S2 y
    cases h : u ps[i] e2 with
    | none => rw [h] at go2; exact go2.elim
    | some e3 =>
      rw [h] at go2
      refine ⟨F3, e2, ps[i], e3, S3, r3, h, fun σ' S' _ _ => ⟨F3, e3, S', ?_⟩⟩
      have go3 := GoS.up go2 x3
      dsimp only at go3
      cases q : d1 e3 with
      | bad => rw [q] at go3; exact go3
      | err y e' => rw [q] at go3; exact go3
      | ok y e' =>
        rw [q] at go3
        cases y with
        | nx => exact fun F4 H4 σ4 x4 S4 => ⟨F4, e', (x2.trans x3).trans x4, S4, GoS.up go3 x4⟩
        | ct => exact fun F4 H4 σ4 x4 S4 => ⟨F4, e', (x2.trans x3).trans x4, S4, GoS.up go3 x4⟩
        | bk => exact go3
        | rt x => exact go3
  · left
    have e : i = ps.length := by omega
    subst e
    rw [List.drop_length] at go2
    exact ⟨w.stops g F2 H2 σ2 e2 rfl x2 S2, go2 F2 H2 σ2 (Ex.refl F2) S2⟩
/-! ### what is walked -/
theorem walkP_list {ps : List PV} {ad : Addr} {vs : List V} {C : Ct} (ha : F ad = some (.lst vs)) (rs : Rs C F ps vs) : WalkP C (Itl C.K ad) F ps where
  goes := fun g i F2 H2 σ2 e2 hC hi x2 S2 => by
    obtain ⟨v, hv, rv⟩ := rs.get (List.getElem?_eq_getElem hi)
    exact ⟨vs, v, SqL.of (S2.sub.lst (x2 _ _ ha)), hv⟩
  stops := fun g F2 H2 σ2 e2 hC x2 S2 => ⟨vs, SqL.of (S2.sub.lst (x2 _ _ ha)), by rw [rs.length]; exact Nat.le_refl _⟩
  ylds := fun g i p F2 H2 σ2 e2 x H' hC hi x2 S2 y => by
    obtain ⟨rfl, y⟩ := y
    obtain ⟨v, hv, rv⟩ := rs.get hi
    have := y vs (SqL.of (S2.sub.lst (x2 _ _ ha)))
    rw [hv] at this; cases this
    exact ⟨F2, Ex.refl F2, S2, rv.mono x2.le⟩
theorem walkP_tup {ps : List PV} {ad : Addr} {vs : List V} {C : Ct} (ha : F ad = some (.tup vs)) (rs : Rs C F ps vs) : WalkP C (Itt C.K ad) F ps where
  goes := fun g i F2 H2 σ2 e2 hC hi x2 S2 => by
    obtain ⟨v, hv, rv⟩ := rs.get (List.getElem?_eq_getElem hi)
    exact ⟨vs, v, .inl (.inl (S2.sub.tup (x2 _ _ ha))), hv⟩
  stops := fun g F2 H2 σ2 e2 hC x2 S2 => ⟨vs, .inl (.inl (S2.sub.tup (x2 _ _ ha))), by rw [rs.length]; exact Nat.le_refl _⟩
  ylds := fun g i p F2 H2 σ2 e2 x H' hC hi x2 S2 y => by
    obtain ⟨rfl, y⟩ := y
    obtain ⟨v, hv, rv⟩ := rs.get hi
    have := y vs (.inl (.inl (S2.sub.tup (x2 _ _ ha))))
    rw [hv] at this; cases this
    exact ⟨F2, Ex.refl F2, S2, rv.mono x2.le⟩
theorem walkP_scr {ns : List Int} {ad : Addr} {C : Ct} (ha : SqL C.K F ad (ns.map V.int)) : WalkP C (Itl C.K ad) F (ns.map PV.int) where
  goes := fun g i F2 H2 σ2 e2 hC hi x2 S2 => by
    obtain ⟨v, hv, rv⟩ := (Rs.of_ints (C := C) (F := F) ns).get (List.getElem?_eq_getElem hi)
    exact ⟨_, v, (Le.of_ex x2 S2.sub).sqL ha, hv⟩
  stops := fun g F2 H2 σ2 e2 hC x2 S2 => ⟨_, (Le.of_ex x2 S2.sub).sqL ha, by simp⟩
  ylds := fun g i p F2 H2 σ2 e2 x H' hC hi x2 S2 y => by
    obtain ⟨rfl, y⟩ := y
    obtain ⟨v, hv, rv⟩ := (Rs.of_ints (C := C) (F := F) ns).get hi
    have := y _ ((Le.of_ex x2 S2.sub).sqL ha)
    rw [hv] at this; cases this
    exact ⟨F2, Ex.refl F2, S2, rv.mono x2.le⟩
def chars (z : Str) : List PV := z.cps.toList.map fun c => .str ⟨#[c]⟩
theorem walkP_str {z : Str} {C : Ct} : WalkP C (Its z) F (chars z) where
  goes := fun g i F2 H2 σ2 e2 hC hi x2 S2 => by
    have : i < z.cps.size := by simpa [chars] using hi
    exact this
  stops := fun g F2 H2 σ2 e2 hC x2 S2 => by
    show z.cps.size ≤ (chars z).length
    simp [chars]
  ylds := fun g i p F2 H2 σ2 e2 x H' hC hi x2 S2 y => by
    obtain ⟨rfl, c, hc, rfl⟩ := y
    refine ⟨F2, Ex.refl F2, S2, ?_⟩
    have : p = .str ⟨#[c]⟩ := by
      unfold chars at hi
      rw [List.getElem?_map, Array.getElem?_toList, hc] at hi
      cases hi; rfl
    subst this
    unfold R; rfl
def rngP (lo : Int) (n : Nat) : List PV := (List.range n).map fun (i : Nat) => .int (lo + i)
theorem rngP_at {lo : Int} {n i : Nat} {p : PV} (h : (rngP lo n)[i]? = some p) : p = .int (lo + i) := by
  unfold rngP at h
  rw [List.getElem?_map] at h
  cases q : (List.range n)[i]? with
  | none => rw [q] at h; cases h
  | some j =>
    rw [q] at h; cases h
    rw [List.getElem?_range] at q
    · cases q; rfl
    · rw [List.getElem?_eq_some_iff] at q
      obtain ⟨q, _⟩ := q
      simpa using q
theorem walkP_rng {lo : Int} {n : Nat} {C : Ct} : WalkP C (Itr lo n) F (rngP lo n) where
  goes := fun g i F2 H2 σ2 e2 hC hi x2 S2 => by
    have : i < n := by simpa [rngP] using hi
    exact this
  stops := fun g F2 H2 σ2 e2 hC x2 S2 => by
    show n ≤ (rngP lo n).length
    simp [rngP]
  ylds := fun g i p F2 H2 σ2 e2 x H' hC hi x2 S2 y => by
    obtain ⟨rfl, rfl⟩ := y
    obtain rfl := rngP_at hi
    exact ⟨F2, Ex.refl F2, S2, by unfold R; rfl⟩
def rngC (lo c : Int) (n : Nat) : List PV := (List.range n).map fun (i : Nat) => .int (lo + i * c)
theorem walkP_rngC {lo c : Int} {n : Nat} {C : Ct} : WalkP C (Itc lo c n) F (rngC lo c n) where
  goes := fun g i F2 H2 σ2 e2 hC hi x2 S2 => by
    have : i < n := by simpa [rngC] using hi
    exact this
  stops := fun g F2 H2 σ2 e2 hC x2 S2 => by
    show n ≤ (rngC lo c n).length
    simp [rngC]
  ylds := fun g i p F2 H2 σ2 e2 x H' hC hi x2 S2 y => by
    obtain ⟨rfl, rfl⟩ := y
    have : p = .int (lo + i * c) := by
      unfold rngC at hi
      rw [List.getElem?_map] at hi
      cases q : (List.range n)[i]? with
      | none => rw [q] at hi; cases hi
      | some j =>
        rw [q] at hi; cases hi
        rw [List.getElem?_range] at q
        · cases q; rfl
        · rw [List.getElem?_eq_some_iff] at q
          obtain ⟨q, _⟩ := q
          simpa using q
    subst this
    exact ⟨F2, Ex.refl F2, S2, by unfold R; rfl⟩
theorem piImp {tg e : Expr} {t t' : TI} (h : PI X tg e t) (k : ∀ σ H Q, t' σ H Q → t σ H Q) : PI X tg e t' := ⟨fun pins s σ H Q I q => h.run pins s σ H Q I (k σ H Q q)⟩
/-- range -/
def dRng1 (d : Env' → Res Val) : Env' → Res (List PV) := fun e => (dArgs [d] e).bind fun xs e1 => match peeks e1 xs with
  | some [.int j] => if r62 j = true then .ok (rngP 0 j.toNat) e1 else .bad
  | _ => .bad
def dRng2 (d d' : Env' → Res Val) : Env' → Res (List PV) := fun e => (dArgs [d, d'] e).bind fun xs e1 => match peeks e1 xs with
  | some [.int i, .int j] => if r62 i = true ∧ r62 j = true then .ok (rngP i (j - i).toNat) e1 else .bad
  | _ => .bad
/-- the third one -1 -/
def dRng3 (d d' d'' : Env' → Res Val) : Env' → Res (List PV) := fun e => (dArgs [d, d', d''] e).bind fun xs e1 => match peeks e1 xs with
  | some [.int i, .int j, .int k] => if k = -1 ∧ r62 i = true ∧ r62 j = true then .ok (rngC i (-1) (i - j).toNat) e1 else .bad
  | _ => .bad
theorem si_range1 {tg e : Expr} {d : Env' → Res Val} {p pos : Pos} (hg : Gl X "range") (hm : X.mg "range" = none) (ha : PA X [e] (tAs g (dArgs [d]))) (hs : starEach [e] X.env = [(false, eval e X.env)]) :
    PI X tg (.Call (.Name "range" p) [e] [] pos) (tI g (dRng1 d)) :=
  piImp (pi_range1 hg hm ha hs) fun σ H Q ⟨F, env, S, go⟩ => ⟨F, env, S, (Go.bind go).mono fun xs e1 F1 H1 x1 S1 k vs o r => by
    split at k
    · rename_i j hp
      split at k
      · rename_i hb
        have t := peeks_ok S1 r hp
        obtain ⟨v, q, rfl, t1, t2⟩ := t
        cases rt_int t1
        cases (show q = [] from t2)
        exact ⟨j, rfl, (r62_ok hb).1, (r62_ok hb).2, k F1 H1 (Ex.refl F1) S1 _ walkP_rng⟩
      · exact k.elim
    · exact k.elim⟩
theorem si_range2 {tg e e' : Expr} {d d' : Env' → Res Val} {p pos : Pos} (hg : Gl X "range") (hm : X.mg "range" = none) (ha : PA X [e, e'] (tAs g (dArgs [d, d']))) (hs : starEach [e, e'] X.env = [(false, eval e X.env), (false, eval e' X.env)]) (hs2 : starEach [e'] X.env = [(false, eval e' X.env)]) :
    PI X tg (.Call (.Name "range" p) [e, e'] [] pos) (tI g (dRng2 d d')) :=
  piImp (pi_range2 hg hm ha hs hs2) fun σ H Q ⟨F, env, S, go⟩ => ⟨F, env, S, (Go.bind go).mono fun xs e1 F1 H1 x1 S1 k vs o r => by
    split at k
    · rename_i i j hp
      split at k
      · rename_i hb
        have t := peeks_ok S1 r hp
        obtain ⟨v, q, rfl, t1, v', q', rfl, t2, t3⟩ := t
        cases rt_int t1; cases rt_int t2
        cases (show q' = [] from t3)
        exact ⟨i, j, rfl, ⟨(r62_ok hb.1).1, (r62_ok hb.1).2, (r62_ok hb.2).1, (r62_ok hb.2).2⟩, k F1 H1 (Ex.refl F1) S1 _ walkP_rng⟩
      · exact k.elim
    · exact k.elim⟩
theorem si_range3 {tg e e' e'' : Expr} {d d' d'' : Env' → Res Val} {p pos : Pos} (hg : Gl X "range") (hm : X.mg "range" = none) (ha : PA X [e, e', e''] (tAs g (dArgs [d, d', d'']))) (hs : starEach [e, e', e''] X.env = (false, eval e X.env) :: starEach [e', e''] X.env) (hpl : (backTo pos (starEach [e', e''] X.env)).any (·.1) = false) :
    PI X tg (.Call (.Name "range" p) [e, e', e''] [] pos) (tI g (dRng3 d d' d'')) :=
  piImp (pi_range3 hg hm ha hs hpl) fun σ H Q ⟨F, env, S, go⟩ => ⟨F, env, S, (Go.bind go).mono fun xs e1 F1 H1 x1 S1 k vs o r => by
    split at k
    · rename_i i j l hp
      split at k
      · rename_i hb
        obtain ⟨rfl, g1, g2⟩ := hb
        obtain ⟨h1, h2⟩ := r62_ok g1
        obtain ⟨h3, h4⟩ := r62_ok g2
        have t := peeks_ok S1 r hp
        obtain ⟨v, q, rfl, t1, v', q', rfl, t2, v'', q'', rfl, t3, t4⟩ := t
        cases rt_int t1; cases rt_int t2; cases rt_int t3
        cases (show q'' = [] from t4)
        exact ⟨i, j, -1, (i - j).toNat, rfl, RgC.neg h1 h2 h3 h4, k F1 H1 (Ex.refl F1) S1 _ walkP_rngC⟩
      · exact k.elim
    · exact k.elim⟩
/-- a value walked: a list, a tuple, the script, a text -/
def itemsP : PV → Option (List PV)
  | .lst xs => some xs
  | .tup xs => some xs
  | .scr ns => some (ns.map PV.int)
  | .str z => some (chars z)
  | _ => none
def dItems (d : Env' → Res Val) : Env' → Res (List PV) := fun e => (stl d e).bind fun x e1 => (frz x e1).bind fun p e2 => match itemsP p with
  | some ps => .ok ps e2
  | none => .bad
theorem si_val {tg e : Expr} {d : Env' → Res Val} (hK : g.C.K = X.K) (he : PE X e (tE g d)) : PI X tg e (tI g (dItems d)) := by
  refine ⟨fun pins s σ H Rr I ⟨F, env, S, go⟩ => ?_⟩
  refine thn (peGo he I S go) fun v s1 ⟨x, H1, I1, r1, F1, e1, y, x1, S1, o1, rv1, go1⟩ => ?_
  obtain ⟨F2, p, e2, x2, S2, r2, go2⟩ := frz_go S1 rv1 go1
  cases hp : itemsP p with
  | none => simp only [hp] at go2; exact go2.elim
  | some ps =>
    simp only [hp] at go2
    have q := go2 F2 H1 (Ex.refl F2) S2
    cases p with
    | lst xs =>
      cases hp
      unfold R at r2
      obtain ⟨ad, vs, rfl, ha, rs⟩ := r2
      cases r1
      obtain ⟨its, rv, pl, hz⟩ := I1.list (SqL.of (K := X.K) (S2.sub.lst ha))
      exact wpAny_pyIter_list pl.isList (pi_one (tk := s1.toks) I1 _ (turn_list ad _) ⟨_, Heap.get?_push_size _ rfl, rfl, rfl⟩ (by rw [← hK]; exact q _ (walkP_list ha rs)))
    | tup xs =>
      cases hp
      unfold R at r2
      obtain ⟨ad, vs, rfl, ha, rs⟩ := r2
      cases r1
      obtain ⟨its, rv, pl, hz⟩ := I1.tuple (.inl (.inl (S2.sub.tup ha)))
      exact wpAny_pyIter_tuple (show s1.heap.IsTuple ad its.toArray from pl) (pi_one (tk := s1.toks) I1 _ (turn_tuple ad _) ⟨_, Heap.get?_push_size _ rfl, rfl, rfl⟩ (by rw [← hK]; exact q _ (walkP_tup ha rs)))
    | scr ns =>
      cases hp
      unfold R at r2
      obtain ⟨ad, rfl, ha⟩ := r2
      cases r1
      rw [hK] at ha
      obtain ⟨its, rv, pl, hz⟩ := I1.list (S2.sub.sqL ha)
      exact wpAny_pyIter_list pl.isList (pi_one (tk := s1.toks) I1 _ (turn_list ad _) ⟨_, Heap.get?_push_size _ rfl, rfl, rfl⟩ (by rw [← hK]; exact q _ (walkP_scr (by rw [hK]; exact ha))))
    | str z =>
      cases hp
      unfold R at r2
      subst r2
      obtain ⟨t, rfl⟩ := r1
      cases ha : z.cps.all (· < 128)
      · exact wpAny_pyIter_wide ha (pi_one (tk := s1.toks) I1 _ (turn_str _ z t "str_iterator" (.inr rfl)) ⟨_, Heap.get?_push_size _ rfl, rfl, rfl⟩ (q _ walkP_str))
      · exact wpAny_pyIter_ascii ha (pi_one (tk := s1.toks) I1 _ (turn_str _ z t "str_ascii_iterator" (.inl rfl)) ⟨_, Heap.get?_push_size _ rfl, rfl, rfl⟩ (q _ walkP_str))
    | _ => cases hp
end
end VL

set_option maxRecDepth 100000
set_option maxHeartbeats 2000000
namespace PySem
open Sem (wp)
open AutoSeq1 (wpAny_loadPart')
theorem vl_enumT (l : Addr) (items : Array Value) (n : Nat) (dct : Option Addr) (sl : Array (Option Value)) :
    Meets (Builtin.«enumerate.__new__» ⟨[.type "enumerate", .ref l], []⟩) (fun _ R s => s.heap.get? l = some { cls := .type "tuple", dict := dct, data := .seq items n, slots := sl } ∧
      R (.ok (.ret (.ref (s.heap.push { cls := .type "tuple_iterator", data := .fields #[.ref l, .int 0 0] }).objs.size)))
        { s with heap := (s.heap.push { cls := .type "tuple_iterator", data := .fields #[.ref l, .int 0 0] }).push { cls := .type "enumerate", data := .fields #[.none, .bool false, .ref s.heap.objs.size, rawInt 0, .none, .none] } }) :=
  .of_wp fun prog w A R s h => by
    obtain ⟨hp, g, d, tk, os⟩ := s; obtain ⟨hl, h⟩ := h
    have hsub := sub_enumerate
    have hL : Heap.IsTuple (Shared.heap ⟨hp, g, d, tk, os⟩) l items := ⟨_, hl, rfl, n, rfl⟩
    wp_walk using wpAny_loadPart' hl
    refine wpAny_stack_any fun st => wpAny_pure ?_
    split
    · rename_i c _ _ _ _ _
      cases (c == Value.type "enumerate")
      · wp_walk using wpAny_loadPart' hl, wpAny_pyIter_tuple hL
        exact ⟨_, rfl, h⟩
      · wp_walk using wpAny_loadPart' hl, wpAny_pyIter_tuple hL
        exact ⟨_, rfl, h⟩
    · wp_walk using wpAny_loadPart' hl, wpAny_pyIter_tuple hL
      exact ⟨_, rfl, h⟩
section
variable {prog : Program} {w : World} {A : Around} {E : Value → Shared → Prop} {s : Shared}
theorem vl_call_enumT {l : Addr} {items : Array Value} {Q : Value → Shared → Prop} (hL : s.heap.IsTuple l items)
    (h : ∀ h', IsEnum h' (s.heap.objs.size + 1) s.heap.objs.size 0 .none → h'.IsTupleIter s.heap.objs.size l 0 → h'.objs.size = s.heap.objs.size + 2 →
      (∀ b o, s.heap.get? b = some o → h'.get? b = some o) → Q (.ref (s.heap.objs.size + 1)) { s with heap := h' }) :
    wpAny (model prog w) A (call (.type "enumerate") [.ref l]) Q E s := by
  obtain ⟨⟨c, dct, dt, sl⟩, hl, hc, n, hd⟩ := hL
  replace hc : c = .type "tuple" := hc
  replace hd : dt = .seq items n := hd
  subst hc hd
  refine callType_new F.called_enumerate (by decide) (F.typeCall_enumerate_1 _) (F.newCall_enumerate_1 _) (fun obj => F.args_object_init_2 obj _) F.entry_enumerate_new
    (vl_enumT l items n dct sl) ⟨hl, ?_⟩
  have hz : (s.heap.push { cls := .type "tuple_iterator", data := .fields #[.ref l, .int 0 0] }).objs.size = s.heap.objs.size + 1 := Heap.size_push ..
  show _ ∧ _
  rw [hz]
  have he : IsEnum ((s.heap.push { cls := .type "tuple_iterator", data := .fields #[.ref l, .int 0 0] }).push
      { cls := .type "enumerate", data := .fields #[.none, .bool false, .ref s.heap.objs.size, rawInt 0, .none, .none] }) (s.heap.objs.size + 1) s.heap.objs.size 0 .none := by
    have := Heap.get?_push_size (s.heap.push { cls := .type "tuple_iterator", data := .fields #[.ref l, .int 0 0] })
      (o := { cls := .type "enumerate", data := .fields #[.none, .bool false, .ref s.heap.objs.size, rawInt 0, .none, .none] }) rfl
    rw [hz] at this; exact this
  refine ⟨⟨_, he, rfl⟩, h _ he ⟨_, Heap.get?_push_of_some _ (Heap.get?_push_size _ rfl), rfl, rfl⟩ (by rw [Heap.size_push, hz]) fun b o x => Heap.get?_push_of_some _ (Heap.get?_push_of_some _ x)⟩
end
theorem vl_draws_tuple {prog : Program} {w : World} {A : Around} (hh : A.handled = none) (it l : Addr) (hne : l ≠ it) (items : Array Value) :
    Draws prog w A it [it, l] items.size (fun i v => items[i]? = some v) (fun i h => h.IsTupleIter it l i ∧ h.IsTuple l items) where
  live := fun _ _ st => let ⟨o, ho, _⟩ := st.1; ⟨o, ho⟩
  frame := fun _ _ _ st hk => ⟨st.1.at fun o e => hk it (by simp) o e, let ⟨o, ho, r⟩ := st.2; ⟨o, hk l (by simp) o ho, r⟩⟩
  item := fun i s Q E hi st hQ => by
    refine RZ.nextOf_tuple_item st.1 st.2 (x := items[i]) (by simp [hi]) fun h' hit' hs' => ?_
    obtain ⟨o, ho, r⟩ := st.2
    exact hQ _ h' s.toks (by simp [hi]) ⟨hit', ⟨o, (hs'.2 l hne).trans ho, r⟩⟩ hs'
  done := fun s Q E st hE => RZ.nextOf_tuple_end hh st.1 st.2 (by simp) hE
end PySem
namespace VL
open PySem PySem.Spec L2
open PyProof.Rows hiding St
theorem ty_ne {a b : String} (h : a ≠ b) : Value.type a ≠ Value.type b := fun q => h (Value.type.inj q)
def IteT (K : PySem.W.Frag) (a : Addr) : It :=
  ⟨fun i H => ∃ (xs : List V) (x : V), SqT K H a xs ∧ xs[i]? = some x, fun i H v H' => ∃ T x, v = .ref T ∧ H T = none ∧ H' = upd H T (.tup [.int (i : Nat), x]) ∧ ∀ xs, SqT K H a xs → xs[i]? = some x, fun i H => ∃ xs : List V, SqT K H a xs ∧ xs.length = i⟩
theorem turn_enumT {P : Program} {w : World} {K : PySem.W.Frag} {elts : List Expr} {kk : Nat} {tpos : Pos} (a e it : Addr) :
    Turn P w K (.Tuple elts kk tpos) (IteT K a) [e, it] e (fun i h => (∃ old, IsEnum h e it ((i : Nat) : Int) old) ∧ h.IsTupleIter it a i ∧ e ≠ it) where
  mem := by simp
  obj := fun i h st b hb => by
    obtain ⟨⟨old, he⟩, ⟨o, ho, hc, hd⟩, _⟩ := st
    have e' : b = e ∨ b = it := by simpa using hb
    rcases e' with z | z
    · rw [z]; exact ⟨_, he, fun v q => nomatch q⟩
    · rw [z]; exact ⟨o, ho, fun v q => by rw [hd] at q; cases q⟩
  keep := fun i h h' st k => let ⟨⟨old, he⟩, hi, hne⟩ := st; ⟨⟨old, k e (by simp) _ he⟩, hi.at fun o q => k it (by simp) o q, hne⟩
  item := by
    intro X hP hw hK hc i pins s σ H E I hf st hg
    subst hP hw hK
    obtain ⟨⟨old, he⟩, hit, hne⟩ := st
    obtain ⟨xs, x, hq, hx⟩ := hg
    obtain ⟨its, rv, p, hz⟩ := I.tuple hq
    have p' : s.heap.IsTuple a its.toArray := p
    have hel : e < s.heap.objs.size := Heap.lt_size he
    have hil : it < s.heap.objs.size := by obtain ⟨_, q, _⟩ := hit; exact Heap.lt_size q
    have hai : a ≠ it := fun z => by
      obtain ⟨o, q1, q2, _⟩ := hit
      obtain ⟨o', q1', q2', _⟩ := p'
      rw [z, q1] at q1'; cases q1'
      exact absurd (q2.symm.trans q2') (ty_ne (by decide))
    have hae : e ≠ a := fun z => by
      obtain ⟨o', q1', q2', _⟩ := p'
      rw [← z, he] at q1'; cases q1'
      exact absurd q2' (ty_ne (by decide))
    have hlt : i < its.toArray.size := by
      have := rv.length
      have hh : i < xs.length := by rw [List.getElem?_eq_some_iff] at hx; exact hx.1
      rw [List.size_toArray]; omega
    refine wpAny_pyNext_enum_itemD (vl_draws_tuple (A := X.A.in1) (I.ok.hd hc) it a hai its.toArray) he ⟨hit, p'⟩ hlt hne (by simp [hne, hae]) fun u h' tk hPu ho hit' hT hsz hk => ?_
    obtain ⟨hit', _⟩ := hit'
    have hu : its[i]? = some u := by simpa using hPu
    have ru : RelV x u := by
      obtain ⟨u', hu', r⟩ := rv.get hx
      rw [hu] at hu'; cases hu'
      exact r
    refine ⟨_, rfl, wpAny_letOwnedTupleGo_enum (s := { s with heap := h', toks := tk + 1 }) ho fun h'' he' sb => ?_⟩
    have hT2 : h''.get? s.heap.objs.size = some { cls := .type "tuple", data := .seq #[.int i tk, u] } := (sb.2 _ (Nat.ne_of_gt hel)).trans hT
    have new : ObjOk X.prog X.w (upd H s.heap.objs.size (.tup [.int (i : Nat), x])) h'' s.heap.objs.size (.tup [.int (i : Nat), x]) :=
      ⟨by show 2 ≤ sizeLine; decide, [.int i tk, u], .cons ⟨_, rfl⟩ (.cons ru .nil), ⟨_, hT2, rfl, _, rfl⟩⟩
    have I1 : Inv X pins σ (upd H s.heap.objs.size (.tup [.int (i : Nat), x])) { s with heap := h'', toks := tk + 1 } :=
      I.turnedNew (ch := [e, it]) (fun b ob hb q => (sb.2 b (fun z => hb (by simp [z]))).trans (hk b ob (fun z => hb (by simp [z])) (fun z => hb (by simp [z])) q)) hf (Nat.le_refl _) new
    refine ⟨.ref s.heap.objs.size, _, I1, rfl, ⟨_, x, rfl, I.hok.fresh (Nat.le_refl _), rfl, fun ys hy => by rw [I.tuple_inj hy hq]; exact hx⟩, ⟨⟨u, ?_⟩, hit'.at fun o q => (sb.2 it (Ne.symm hne)).trans q, hne⟩, fun b hb => ?_⟩
    · have e1 : ((i + 1 : Nat) : Int) = (i : Int) + 1 := by omega
      rw [e1]; exact he'
    · have hb' : b < s.heap.objs.size := by
        have e' : b = e ∨ b = it := by simpa using hb
        rcases e' with z | z
        · rw [z]; exact hel
        · rw [z]; exact hil
      rw [upd_ne (Nat.ne_of_lt hb')]
      exact (hf b hb).1
  done := by
    intro X hP hw hK hc i pins s σ H E I hf st hg
    subst hP hw hK
    obtain ⟨⟨old, he⟩, hit, hne⟩ := st
    obtain ⟨xs, hq, hx⟩ := hg
    obtain ⟨its, rv, p, hz⟩ := I.tuple hq
    have p' : s.heap.IsTuple a its.toArray := p
    have hai : a ≠ it := fun z => by
      obtain ⟨o, q1, q2, _⟩ := hit
      obtain ⟨o', q1', q2', _⟩ := p'
      rw [z, q1] at q1'; cases q1'
      exact absurd (q2.symm.trans q2') (ty_ne (by decide))
    obtain ⟨f0, f1, f2, f3, f4, f5⟩ := hf it (by simp)
    have hl := rv.length
    have hi : i = its.toArray.size := by rw [List.size_toArray]; omega
    subst hi
    exact wpAny_pyNext_enum_endD (vl_draws_tuple (A := X.A.in1) (I.ok.hd hc) it a hai its.toArray) he ⟨hit, p'⟩ fun h' eb => ⟨rfl, I.turned (t' := s.toks) (fun b o hb q => eb b o hb q) f0 f1 f3 f4 f5⟩
  self := fun A i s Q E st h => let ⟨⟨_, he⟩, _⟩ := st; wpAny_pyIter_enum he h
def IteS (z : Str) : It :=
  ⟨fun i _ => i < z.cps.size, fun i H v H' => ∃ T c, v = .ref T ∧ H T = none ∧ H' = upd H T (.tup [.int (i : Nat), .str ⟨#[c]⟩]) ∧ z.cps[i]? = some c, fun i _ => z.cps.size = i⟩
theorem turn_enumS {P : Program} {w : World} {K : PySem.W.Frag} {elts : List Expr} {kk : Nat} {tpos : Pos} (e it : Addr) (x : Str) (t : Tok) :
    Turn P w K (.Tuple elts kk tpos) (IteS x) [e, it] e (fun i h => (∃ old, IsEnum h e it ((i : Nat) : Int) old) ∧ h.IsStrIter it (strIterType x) x t i ∧ e ≠ it) where
  mem := by simp
  obj := fun i h st b hb => by
    obtain ⟨⟨old, he⟩, ⟨o, ho, hc, hd⟩, _⟩ := st
    have e' : b = e ∨ b = it := by simpa using hb
    rcases e' with z | z
    · rw [z]; exact ⟨_, he, fun v q => nomatch q⟩
    · rw [z]; exact ⟨o, ho, fun v q => by rw [hd] at q; cases q⟩
  keep := fun i h h' st k => let ⟨⟨old, he⟩, ⟨o, ho, r⟩, hne⟩ := st; ⟨⟨old, k e (by simp) _ he⟩, ⟨o, k it (by simp) o ho, r⟩, hne⟩
  item := by
    intro X hP hw hK hc i pins s σ H E I hf st hg
    subst hP hw hK
    obtain ⟨⟨old, he⟩, hit, hne⟩ := st
    have hel : e < s.heap.objs.size := Heap.lt_size he
    have hil : it < s.heap.objs.size := by obtain ⟨_, q, _⟩ := hit; exact Heap.lt_size q
    have hlt : i < x.cps.size := hg
    have DD : Draws X.prog X.w X.A.in1 it [it] x.cps.size (fun i v => ∃ c u, x.cps[i]? = some c ∧ v = .str ⟨#[c]⟩ u) (fun i h => h.IsStrIter it (strIterType x) x t i) := by
      unfold strIterType
      split
      · exact Draws.strAscii (A := X.A.in1) (I.ok.hd hc) it x t
      · exact Draws.strWide (A := X.A.in1) (I.ok.hd hc) it x t
    refine wpAny_pyNext_enum_itemD DD he hit hlt hne (by simp [hne]) fun u h' tk hPu ho hit' hT hsz hk => ?_
    obtain ⟨c, ut, hcx, rfl⟩ := hPu
    refine ⟨_, rfl, wpAny_letOwnedTupleGo_enum (s := { s with heap := h', toks := tk + 1 }) ho fun h'' he' sb => ?_⟩
    have hT2 : h''.get? s.heap.objs.size = some { cls := .type "tuple", data := .seq #[.int i tk, .str ⟨#[c]⟩ ut] } := (sb.2 _ (Nat.ne_of_gt hel)).trans hT
    have new : ObjOk X.prog X.w (upd H s.heap.objs.size (.tup [.int (i : Nat), .str ⟨#[c]⟩])) h'' s.heap.objs.size (.tup [.int (i : Nat), .str ⟨#[c]⟩]) :=
      ⟨by show 2 ≤ sizeLine; decide, [.int i tk, .str ⟨#[c]⟩ ut], .cons ⟨_, rfl⟩ (.cons ⟨_, rfl⟩ .nil), ⟨_, hT2, rfl, _, rfl⟩⟩
    have I1 : Inv X pins σ (upd H s.heap.objs.size (.tup [.int (i : Nat), .str ⟨#[c]⟩])) { s with heap := h'', toks := tk + 1 } :=
      I.turnedNew (ch := [e, it]) (fun b ob hb q => (sb.2 b (fun z => hb (by simp [z]))).trans (hk b ob (fun z => hb (by simp [z])) (fun z => hb (by simp [z])) q)) hf (Nat.le_refl _) new
    refine ⟨.ref s.heap.objs.size, _, I1, rfl, ⟨_, c, rfl, I.hok.fresh (Nat.le_refl _), rfl, hcx⟩, ⟨⟨.str ⟨#[c]⟩ ut, ?_⟩, ?_, hne⟩, fun b hb => ?_⟩
    · have e1 : ((i + 1 : Nat) : Int) = (i : Int) + 1 := by omega
      rw [e1]; exact he'
    · obtain ⟨o, ho2, r⟩ := hit'
      exact ⟨o, (sb.2 it (Ne.symm hne)).trans ho2, r⟩
    · have hb' : b < s.heap.objs.size := by
        have e' : b = e ∨ b = it := by simpa using hb
        rcases e' with z | z
        · rw [z]; exact hel
        · rw [z]; exact hil
      rw [upd_ne (Nat.ne_of_lt hb')]
      exact (hf b hb).1
  done := by
    intro X hP hw hK hc i pins s σ H E I hf st hg
    subst hP hw hK
    obtain ⟨⟨old, he⟩, hit, hne⟩ := st
    obtain ⟨f0, f1, f2, f3, f4, f5⟩ := hf it (by simp)
    have hi : x.cps.size = i := hg
    subst hi
    have DD : Draws X.prog X.w X.A.in1 it [it] x.cps.size (fun i v => ∃ c u, x.cps[i]? = some c ∧ v = .str ⟨#[c]⟩ u) (fun i h => h.IsStrIter it (strIterType x) x t i) := by
      unfold strIterType
      split
      · exact Draws.strAscii (A := X.A.in1) (I.ok.hd hc) it x t
      · exact Draws.strWide (A := X.A.in1) (I.ok.hd hc) it x t
    exact wpAny_pyNext_enum_endD DD he hit fun h' eb => ⟨rfl, I.turned (t' := s.toks) (fun b o hb q => eb b o hb q) f0 f1 f3 f4 f5⟩
  self := fun A i s Q E st h => let ⟨⟨_, he⟩, _⟩ := st; wpAny_pyIter_enum he h

/-! ### enumerate, zip -/
def numL (ps : List PV) : List PV := ps.zipIdx.map fun x => .tup [.int (x.2 : Nat), x.1]
def zipL (ps qs : List PV) : List PV := List.zipWith (fun p q => .tup [p, q]) ps qs
section
variable {X : Cx} {g : Gm} {pins : List (Addr × Obj)} {F H F' H' : Hp} {σ : St} {env env' : Env'} {s : Shared} {a b c : Expr} {pos : Pos}
theorem numL_at {ps : List PV} {i : Nat} {p : PV} (h : (numL ps)[i]? = some p) : ∃ q, ps[i]? = some q ∧ p = .tup [.int (i : Nat), q] := by
  unfold numL at h
  rw [List.getElem?_map, List.getElem?_zipIdx] at h
  cases q : ps[i]? with
  | none => rw [q] at h; cases h
  | some y =>
    rw [q] at h
    simp at h
    exact ⟨y, rfl, h.symm⟩
theorem numL_len (ps : List PV) : (numL ps).length = ps.length := by simp [numL]
/-- a pair just made -/
theorem pair_new {C : Ct} {T : Addr} {x y : V} {p q : PV} (hC : g.C = C) (S : Stt g F H σ env) (hT : H T = none) (r1 : R C F p x) (r2 : R C F q y) : ∃ F', Ex F F' ∧ Stt g F' (upd H T (.tup [x, y])) σ env ∧ R C F' (.tup [p, q]) (.ref T) := by
  subst hC
  obtain ⟨n1, n2, n3⟩ := S.new0 hT
  have S2 := S.grow (ex_alloc (o := .tup [x, y]) hT)
  have hn : ∀ (i : Nat) f q, env[i]? = some (.ow f q) → σ[i]? ≠ some (some (.ref T)) := fun i f q e z => by
    obtain ⟨b, e1, e2, _⟩ := S.ow i f q e
    rw [z] at e1; cases e1
    obtain ⟨o', ho⟩ := e2.cell
    rw [hT] at ho; cases ho
  refine ⟨_, Ex.new n1, S2.know n1 upd_same n2 hn, ?_⟩
  unfold R
  exact ⟨T, [x, y], rfl, upd_same, Rs.cons (r1.mono (Ex.new n1).le) (Rs.cons (r2.mono (Ex.new n1).le) Rs.nil)⟩
theorem R.int' {C : Ct} {i : Int} : R C F (.int i) (.int i) := by unfold R; rfl
theorem walkP_enumL {ps : List PV} {ad : Addr} {vs : List V} {C : Ct} (ha : F ad = some (.lst vs)) (rs : Rs C F ps vs) : WalkP C (Ite C.K ad) F (numL ps) where
  goes := fun g i F2 H2 σ2 e2 hC hi x2 S2 => by
    rw [numL_len] at hi
    obtain ⟨v, hv, rv⟩ := rs.get (List.getElem?_eq_getElem hi)
    exact ⟨vs, v, SqL.of (S2.sub.lst (x2 _ _ ha)), hv⟩
  stops := fun g F2 H2 σ2 e2 hC x2 S2 => ⟨vs, SqL.of (S2.sub.lst (x2 _ _ ha)), by rw [numL_len, rs.length]; exact Nat.le_refl _⟩
  ylds := fun g i p F2 H2 σ2 e2 x H' hC hi x2 S2 y => by
    obtain ⟨q, hq, rfl⟩ := numL_at hi
    obtain ⟨T, x, rfl, hT, rfl, y⟩ := y
    obtain ⟨v, hv, rv⟩ := rs.get hq
    have := y vs (SqL.of (S2.sub.lst (x2 _ _ ha)))
    rw [hv] at this; cases this
    exact pair_new hC S2 hT R.int' (rv.mono x2.le)
theorem walkP_enumT {ps : List PV} {ad : Addr} {vs : List V} {C : Ct} (ha : F ad = some (.tup vs)) (rs : Rs C F ps vs) : WalkP C (IteT C.K ad) F (numL ps) where
  goes := fun g i F2 H2 σ2 e2 hC hi x2 S2 => by
    rw [numL_len] at hi
    obtain ⟨v, hv, rv⟩ := rs.get (List.getElem?_eq_getElem hi)
    exact ⟨vs, v, .inl (.inl (S2.sub.tup (x2 _ _ ha))), hv⟩
  stops := fun g F2 H2 σ2 e2 hC x2 S2 => ⟨vs, .inl (.inl (S2.sub.tup (x2 _ _ ha))), by rw [numL_len, rs.length]⟩
  ylds := fun g i p F2 H2 σ2 e2 x H' hC hi x2 S2 y => by
    obtain ⟨q, hq, rfl⟩ := numL_at hi
    obtain ⟨T, x, rfl, hT, rfl, y⟩ := y
    obtain ⟨v, hv, rv⟩ := rs.get hq
    have := y vs (.inl (.inl (S2.sub.tup (x2 _ _ ha))))
    rw [hv] at this; cases this
    exact pair_new hC S2 hT R.int' (rv.mono x2.le)
theorem walkP_enumS {z : Str} {C : Ct} : WalkP C (IteS z) F (numL (chars z)) where
  goes := fun g i F2 H2 σ2 e2 hC hi x2 S2 => by
    rw [numL_len] at hi
    have : i < z.cps.size := by simpa [chars] using hi
    exact this
  stops := fun g F2 H2 σ2 e2 hC x2 S2 => by
    show z.cps.size = (numL (chars z)).length
    rw [numL_len]; simp [chars]
  ylds := fun g i p F2 H2 σ2 e2 x H' hC hi x2 S2 y => by
    obtain ⟨q, hq, rfl⟩ := numL_at hi
    obtain ⟨T, c, rfl, hT, rfl, y⟩ := y
    have : q = .str ⟨#[c]⟩ := by
      unfold chars at hq
      rw [List.getElem?_map, Array.getElem?_toList, y] at hq
      cases hq; rfl
    subst this
    exact pair_new hC S2 hT R.int' (by unfold R; rfl)
def dEnum (d : Env' → Res Val) : Env' → Res (List PV) := fun e => (dArgs [d] e).bind fun xs e1 => (frzs xs e1).bind fun ps e2 => match ps with
  | [.lst xs] => .ok (numL xs) e2
  | [.tup xs] => .ok (numL xs) e2
  | [.str z] => .ok (numL (chars z)) e2
  | _ => .bad
theorem si_enum {e : Expr} {d : Env' → Res Val} {p tpos : Pos} {elts : List Expr} {kk : Nat} (hK : g.C.K = X.K) (hg : Gl X "enumerate") (hm : X.mg "enumerate" = none) (ha : PA X [e] (tAs g (dArgs [d]))) (hs : starEach [e] X.env = [(false, eval e X.env)]) :
    PI X (.Tuple elts kk tpos) (.Call (.Name "enumerate" p) [e] [] pos) (tI g (dEnum d)) := by
  refine ⟨fun pins s σ H Rr I ⟨F, env, S, go⟩ => ?_⟩
  refine Call_ (ld_blt I hg hm boot_enumerate (PyProof.Rows.callWith_type1 (thn (paGo ha pos I S go) fun us s1 ⟨vs, H1, I1, r1, F1, e1, xs, x1, S1, o1, rv1, go1⟩ => ?_) hs rfl))
  obtain ⟨F2, ps, e2, x2, S2, r2, go2⟩ := frzs_go o1 S1 rv1 go1
  split at go2
  · rename_i xs hgo
    have q := go2 F2 H1 (Ex.refl F2) S2
    obtain ⟨v, t, rfl, ry, rt⟩ := r2.cons_inv
    obtain rfl := rt.nil_inv
    unfold R at ry
    obtain ⟨ad, vs, rfl, ha, rs⟩ := ry
    obtain rfl := Vals.ref1 r1
    obtain ⟨its, rv, p', hz⟩ := I1.list (SqL.of (K := X.K) (S2.sub.lst ha))
    refine call_enumerate_list p'.isList fun h' he hit hsz hk => wpAny_pyIter_enum he ?_
    have I2 : Inv X pins σ H1 { s1 with heap := h' } := I1.kept (t' := s1.toks) hk
    refine ⟨s1.heap.objs.size + 1, [s1.heap.objs.size + 1, s1.heap.objs.size], _, _, H1, rfl, I2, turn_enum ad (s1.heap.objs.size + 1) s1.heap.objs.size, ⟨⟨.none, he⟩, hit, Nat.succ_ne_self _⟩, fun b hb => ?_, by rw [← hK]; exact q _ (walkP_enumL ha rs)⟩
    have e' : b = s1.heap.objs.size + 1 ∨ b = s1.heap.objs.size := by simpa using hb
    have hle : s1.heap.objs.size ≤ b := by
      rcases e' with z | z
      · rw [z]; exact Nat.le_add_right _ _
      · rw [z]; exact Nat.le_refl _
    exact I1.fpOk hle (I1.hok.fresh hle)
  · rename_i xs hgo
    have q := go2 F2 H1 (Ex.refl F2) S2
    obtain ⟨v, t, rfl, ry, rt⟩ := r2.cons_inv
    obtain rfl := rt.nil_inv
    unfold R at ry
    obtain ⟨ad, vs, rfl, ha, rs⟩ := ry
    obtain rfl := Vals.ref1 r1
    obtain ⟨its, rv, p', hz⟩ := I1.tuple (.inl (.inl (S2.sub.tup ha)))
    refine vl_call_enumT (show s1.heap.IsTuple ad its.toArray from p') fun h' he hit hsz hk => wpAny_pyIter_enum he ?_
    have I2 : Inv X pins σ H1 { s1 with heap := h' } := I1.kept (t' := s1.toks) hk
    refine ⟨s1.heap.objs.size + 1, [s1.heap.objs.size + 1, s1.heap.objs.size], _, _, H1, rfl, I2, turn_enumT ad (s1.heap.objs.size + 1) s1.heap.objs.size, ⟨⟨.none, he⟩, hit, Nat.succ_ne_self _⟩, fun b hb => ?_, by rw [← hK]; exact q _ (walkP_enumT ha rs)⟩
    have e' : b = s1.heap.objs.size + 1 ∨ b = s1.heap.objs.size := by simpa using hb
    have hle : s1.heap.objs.size ≤ b := by
      rcases e' with z | z
      · rw [z]; exact Nat.le_add_right _ _
      · rw [z]; exact Nat.le_refl _
    exact I1.fpOk hle (I1.hok.fresh hle)
  · rename_i hgo z
    have q := go2 F2 H1 (Ex.refl F2) S2
    obtain ⟨v, t, rfl, ry, rt⟩ := r2.cons_inv
    obtain rfl := rt.nil_inv
    unfold R at ry
    subst ry
    cases r1 with
    | cons r rr =>
    cases rr
    obtain ⟨tt, rfl⟩ := r
    refine call_enumerate_str fun h' he hit hsz hk => wpAny_pyIter_enum he ?_
    have I2 : Inv X pins σ H1 { s1 with heap := h' } := I1.kept (t' := s1.toks) hk
    refine ⟨s1.heap.objs.size + 1, [s1.heap.objs.size + 1, s1.heap.objs.size], _, _, H1, rfl, I2, turn_enumS (s1.heap.objs.size + 1) s1.heap.objs.size z tt, ⟨⟨.none, he⟩, hit, Nat.succ_ne_self _⟩, fun b hb => ?_, q _ walkP_enumS⟩
    have e' : b = s1.heap.objs.size + 1 ∨ b = s1.heap.objs.size := by simpa using hb
    have hle : s1.heap.objs.size ≤ b := by
      rcases e' with z | z
      · rw [z]; exact Nat.le_add_right _ _
      · rw [z]; exact Nat.le_refl _
    exact I1.fpOk hle (I1.hok.fresh hle)
  · exact go2.elim
theorem zipL_at {ps qs : List PV} {i : Nat} {p : PV} (h : (zipL ps qs)[i]? = some p) : ∃ x y, ps[i]? = some x ∧ qs[i]? = some y ∧ p = .tup [x, y] := by
  unfold zipL at h
  rw [List.getElem?_zipWith] at h
  cases e1 : ps[i]? with
  | none => rw [e1] at h; simp at h
  | some x =>
    cases e2 : qs[i]? with
    | none => rw [e1, e2] at h; simp at h
    | some y =>
      rw [e1, e2] at h
      simp at h
      exact ⟨x, y, rfl, rfl, h.symm⟩
theorem zipL_len (ps qs : List PV) : (zipL ps qs).length = min ps.length qs.length := by simp [zipL]
theorem walkP_zipL {ps qs : List PV} {ad bd : Addr} {vs ws : List V} {C : Ct} (ha : F ad = some (.lst vs)) (rs : Rs C F ps vs) (hb : F bd = some (.lst ws)) (rs' : Rs C F qs ws) : WalkP C (Itz C.K ad bd) F (zipL ps qs) where
  goes := fun g i F2 H2 σ2 e2 hC hi x2 S2 => by
    rw [zipL_len] at hi
    obtain ⟨v, hv, rv⟩ := rs.get (List.getElem?_eq_getElem (show i < ps.length by omega))
    obtain ⟨w, hw, rw'⟩ := rs'.get (List.getElem?_eq_getElem (show i < qs.length by omega))
    exact ⟨vs, ws, v, w, SqL.of (S2.sub.lst (x2 _ _ ha)), SqL.of (S2.sub.lst (x2 _ _ hb)), hv, hw⟩
  stops := fun g F2 H2 σ2 e2 hC x2 S2 => ⟨vs, ws, SqL.of (S2.sub.lst (x2 _ _ ha)), SqL.of (S2.sub.lst (x2 _ _ hb)), by rw [zipL_len, rs.length, rs'.length]; omega⟩
  ylds := fun g i p F2 H2 σ2 e2 x H' hC hi x2 S2 y => by
    obtain ⟨q, q', hq, hq', rfl⟩ := zipL_at hi
    obtain ⟨T, x, x', rfl, hT, rfl, y, y'⟩ := y
    obtain ⟨v, hv, rv⟩ := rs.get hq
    obtain ⟨w, hw, rw'⟩ := rs'.get hq'
    have h1 := y vs (SqL.of (S2.sub.lst (x2 _ _ ha)))
    rw [hv] at h1; cases h1
    have h2 := y' ws (SqL.of (S2.sub.lst (x2 _ _ hb)))
    rw [hw] at h2; cases h2
    exact pair_new hC S2 hT (rv.mono x2.le) (rw'.mono x2.le)
theorem walkP_zipT {ps qs : List PV} {ad bd : Addr} {vs ws : List V} {C : Ct} (ha : F ad = some (.tup vs)) (rs : Rs C F ps vs) (hb : F bd = some (.tup ws)) (rs' : Rs C F qs ws) : WalkP C (RZ.ItzT C.K ad bd) F (zipL ps qs) where
  goes := fun g i F2 H2 σ2 e2 hC hi x2 S2 => by
    rw [zipL_len] at hi
    obtain ⟨v, hv, rv⟩ := rs.get (List.getElem?_eq_getElem (show i < ps.length by omega))
    obtain ⟨w, hw, rw'⟩ := rs'.get (List.getElem?_eq_getElem (show i < qs.length by omega))
    exact ⟨vs, ws, v, w, .inl (.inl (S2.sub.tup (x2 _ _ ha))), .inl (.inl (S2.sub.tup (x2 _ _ hb))), hv, hw⟩
  stops := fun g F2 H2 σ2 e2 hC x2 S2 => ⟨vs, ws, .inl (.inl (S2.sub.tup (x2 _ _ ha))), .inl (.inl (S2.sub.tup (x2 _ _ hb))), by rw [zipL_len, rs.length, rs'.length]; omega⟩
  ylds := fun g i p F2 H2 σ2 e2 x H' hC hi x2 S2 y => by
    obtain ⟨q, q', hq, hq', rfl⟩ := zipL_at hi
    obtain ⟨T, x, x', rfl, hT, rfl, y, y'⟩ := y
    obtain ⟨v, hv, rv⟩ := rs.get hq
    obtain ⟨w, hw, rw'⟩ := rs'.get hq'
    have h1 := y vs (.inl (.inl (S2.sub.tup (x2 _ _ ha))))
    rw [hv] at h1; cases h1
    have h2 := y' ws (.inl (.inl (S2.sub.tup (x2 _ _ hb))))
    rw [hw] at h2; cases h2
    exact pair_new hC S2 hT (rv.mono x2.le) (rw'.mono x2.le)
def dZip (d d' : Env' → Res Val) : Env' → Res (List PV) := fun e => (dArgs [d, d'] e).bind fun xs e1 => (frzs xs e1).bind fun ps e2 => match ps with
  | [.lst xs, .lst ys] => .ok (zipL xs ys) e2
  | [.tup xs, .tup ys] => .ok (zipL xs ys) e2
  | _ => .bad
theorem si_zip {e e2 : Expr} {d d' : Env' → Res Val} {p tpos : Pos} {elts : List Expr} {kk : Nat} (hK : g.C.K = X.K) (hg : Gl X "zip") (hm : X.mg "zip" = none) (ha : PA X [e, e2] (tAs g (dArgs [d, d'])))
    (hs : starEach [e, e2] X.env = (false, eval e X.env) :: starEach [e2] X.env) (hpl : (backTo pos (starEach [e2] X.env)).any (·.1) = false) :
    PI X (.Tuple elts kk tpos) (.Call (.Name "zip" p) [e, e2] [] pos) (tI g (dZip d d')) := by
  have base : PA X [e, e2] (fun σ H Q => ∃ F env, Stt g F H σ env ∧ Go g F σ ((dArgs [d, d'] env).bind fun xs e1 => frzs xs e1) fun ps e2 F2 H2 => ∀ vs, Rs g.C F2 ps vs → Q vs H2) := ⟨fun pos pins s σ H Q I ⟨F, env, S, go⟩ => by
    refine thn (paGo ha pos I S go) fun us s1 ⟨vs, H1, I1, r1, F1, e1, xs, x1, S1, o1, rv1, go1⟩ => ?_
    have go1' : Go g F1 σ ((frzs xs e1).bind fun ps e2 => .ok ps e2) fun ps e2 F2 H2 => ∀ vs, Rs g.C F2 ps vs → Q vs H2 := by
      cases h : frzs xs e1 <;> (rw [h] at go1; exact go1)
    obtain ⟨F2, ps, e2, x2, S2, r2, go2⟩ := frzs_go o1 S1 rv1 go1'
    exact ⟨vs, H1, I1, r1, go2 F2 H1 (Ex.refl F2) S2 vs r2⟩⟩
  refine piImp (RZ.pi_zipA hg hm base hs hpl) fun σ H Q ⟨F, env, S, go⟩ => ⟨F, env, S, ?_⟩
  have go' : Go g F σ (((dArgs [d, d'] env).bind fun xs e1 => frzs xs e1).bind fun ps e2 => match ps with
      | [.lst xs, .lst ys] => .ok (zipL xs ys) e2
      | [.tup xs, .tup ys] => .ok (zipL xs ys) e2
      | _ => .bad) fun ps env' F' H' => ∀ J, WalkP g.C J F' ps → Q J H' := by
    unfold dZip at go
    cases h : dArgs [d, d'] env with
    | bad => rw [h] at go; exact go
    | err y e => rw [h] at go; exact go
    | ok xs e1 => rw [h] at go; exact go
  refine (Go.bind go').mono fun ps e2 F2 H2 x2 S2 k vs r => ?_
  split at k
  · have q := k F2 H2 (Ex.refl F2) S2
    obtain ⟨v, t, rfl, ry, rt⟩ := r.cons_inv
    obtain ⟨v', t', rfl, ry', rt'⟩ := rt.cons_inv
    obtain rfl := rt'.nil_inv
    unfold R at ry ry'
    obtain ⟨ad, vs, rfl, ha, rs⟩ := ry
    obtain ⟨bd, ws, rfl, hb, rs'⟩ := ry'
    refine ⟨ad, bd, vs, ws, rfl, .inl ⟨SqL.of (S2.sub.lst ha), SqL.of (S2.sub.lst hb), ?_⟩⟩
    rw [← hK]
    exact q _ (walkP_zipL ha rs hb rs')
  · have q := k F2 H2 (Ex.refl F2) S2
    obtain ⟨v, t, rfl, ry, rt⟩ := r.cons_inv
    obtain ⟨v', t', rfl, ry', rt'⟩ := rt.cons_inv
    obtain rfl := rt'.nil_inv
    unfold R at ry ry'
    obtain ⟨ad, vs, rfl, ha, rs⟩ := ry
    obtain ⟨bd, ws, rfl, hb, rs'⟩ := ry'
    refine ⟨ad, bd, vs, ws, rfl, .inr ⟨.inl (.inl (S2.sub.tup ha)), .inl (.inl (S2.sub.tup hb)), ?_⟩⟩
    rw [← hK]
    exact q _ (walkP_zipT ha rs hb rs')
  · exact k.elim
end
end VL

set_option maxRecDepth 100000
set_option maxHeartbeats 2000000
namespace VL
open PySem PySem.Spec L2
open PyProof.Rows hiding St
/-! ### a block within a def -/
def lendS : Sl → Sl
  | .ow _ p => .ow false p
  | s => s
def wipeE (e : Env') : List Nat → Env'
  | [] => e
  | i :: is => wipeE (e.set i .no) is
def blkE (vs : List Nat) (e : Env') : Env' := wipeE (e.map lendS) vs
def outS : Sl → Sl → Sl
  | .ow b _, .ow _ q => .ow b q
  | _, .ow _ _ => .no
  | _, s => s
def outE (vs : List Nat) (e e2 : Env') : Env' := (List.range e.length).map fun i => if i ∈ vs then e.getD i .no else outS (e.getD i .no) (e2.getD i .no)
/-- no slot of vs holds a container -/
def freeS (vs : List Nat) (e : Env') : Bool := vs.all fun i => match e[i]? with
  | some (.ow _ _) => false
  | _ => true
def subG (g : Gm) (F H : Hp) (σ : St) (env : Env') : Gm where
  C := g.C
  F0 := F
  H0 := H
  P := fun i => match env[i]?, σ[i]? with
    | some (.ow _ _), some (some (.ref a)) => some a
    | _, _ => none
  W := fun _ _ _ _ _ => True
section
variable {X : Cx} {g : Gm} {pins : List (Addr × Obj)} {F H F' H' F2 H2 : Hp} {σ σ2 : St} {env env' env2 : Env'} {s : Shared}
theorem wipeE_len : ∀ {vs : List Nat} {e : Env'}, (wipeE e vs).length = e.length
  | [], e => rfl
  | i :: is, e => by unfold wipeE; rw [wipeE_len]; simp
theorem wipeE_in : ∀ {vs : List Nat} {e : Env'} {i : Nat} {x : Sl}, (wipeE e vs)[i]? = some x → (x = .no ∨ e[i]? = some x)
  | [], e, i, x, h => .inr h
  | j :: is, e, i, x, h => by
    unfold wipeE at h
    rcases wipeE_in h with z | z
    · exact .inl z
    · rcases getElem?_set_cases z with ⟨_, q, _⟩ | ⟨_, q⟩
      · exact .inl q.symm
      · exact .inr q
theorem wipeE_out : ∀ {vs : List Nat} {e : Env'} {i : Nat}, i ∈ vs → (wipeE e vs)[i]? = none ∨ (wipeE e vs)[i]? = some .no
  | j :: is, e, i, h => by
    unfold wipeE
    by_cases hi : i ∈ is
    · exact wipeE_out hi
    · have e1 : i = j := by
        rcases List.mem_cons.mp h with z | z
        · exact z
        · exact absurd z hi
      subst e1
      have keep : ∀ {vs : List Nat} {e : Env'}, i ∉ vs → (wipeE e vs)[i]? = e[i]? := by
        intro vs
        induction vs with
        | nil => intro e _; rfl
        | cons k ks ih =>
          intro e hk
          unfold wipeE
          rw [ih fun z => hk (List.mem_cons_of_mem _ z), List.getElem?_set_ne fun z => hk (by rw [z]; exact List.mem_cons_self ..)]
      rw [keep hi]
      by_cases hl : i < e.length
      · right; rw [List.getElem?_set_self hl]
      · left; rw [List.getElem?_eq_none (by simpa using hl)]
theorem wipe_at {i : Nat} {x : Option V} : ∀ {vs : List Nat} {σ : St}, i ∉ vs → (wipe σ vs)[i]? = σ[i]? := fun {vs σ} h => wipe_out h
theorem blkE_at {vs : List Nat} {i : Nat} {x : Sl} (h : (blkE vs env)[i]? = some x) : x = .no ∨ (i ∉ vs ∧ ∃ y, env[i]? = some y ∧ x = lendS y) := by
  by_cases hi : i ∈ vs
  · rcases wipeE_out (e := env.map lendS) hi with z | z
    · unfold blkE at h; rw [z] at h; cases h
    · unfold blkE at h; rw [z] at h; cases h; exact .inl rfl
  · rcases wipeE_in h with z | z
    · exact .inl z
    · rw [List.getElem?_map] at z
      cases q : env[i]? with
      | none => rw [q] at z; cases z
      | some y => rw [q] at z; cases z; exact .inr ⟨hi, y, rfl, rfl⟩
theorem subG_O {a : Addr} (h : (subG g F H σ env).O a) : ∃ (i : Nat) (b : Bool) (p : PV), env[i]? = some (.ow b p) ∧ σ[i]? = some (some (.ref a)) := by
  obtain ⟨i, h⟩ := h
  unfold subG at h
  dsimp only at h
  split at h
  · rename_i b p a' h1 h2
    cases h
    exact ⟨i, b, p, h1, h2⟩
  · cases h
/-- into the block -/
theorem Stt.enter (S : Stt g F H σ env) (vs : List Nat) : Stt (subG g F H σ env) F H (wipe σ vs) (blkE vs env) where
  len := by rw [wipe_length, S.len]; unfold blkE; rw [wipeE_len, List.length_map]
  frame := fun b o q _ => .inl q
  live := fun b hb => by
    obtain ⟨i, f, p, h1, h2⟩ := subG_O hb
    obtain ⟨a, e1, e2, _⟩ := S.ow i f p h1
    rw [h2] at e1; cases e1
    exact e2.cell
  ext := Ex.refl F
  fresh := fun b o q => .inl q
  sub := S.sub
  fz := fun i p q => by
    rcases blkE_at q with z | ⟨hi, y, hy, z⟩
    · cases z
    · cases y <;> cases z
      rw [wipe_out hi]
      exact S.fz i _ hy
  ow := fun i b p q => by
    rcases blkE_at q with z | ⟨hi, y, hy, z⟩
    · cases z
    · cases y with
      | no => cases z
      | fz p => cases z
      | ow f r =>
        cases z
        obtain ⟨a, h1, h2, h3, _⟩ := S.ow i f _ hy
        refine ⟨a, by rw [wipe_out hi]; exact h1, h2, h3, ?_⟩
        rw [if_neg Bool.false_ne_true]
        show (match env[i]?, σ[i]? with | some (.ow _ _), some (some (.ref a)) => some a | _, _ => none) = some a
        rw [hy, h1]
  inj := fun i j b c p q a hi hj e1 e2 => by
    rcases blkE_at hi with z | ⟨ni, y, hy, z⟩
    · cases z
    · rcases blkE_at hj with z' | ⟨nj, y', hy', z'⟩
      · cases z'
      · cases y <;> cases z
        cases y' <;> cases z'
        rw [wipe_out ni] at e1
        rw [wipe_out nj] at e2
        exact S.inj i j _ _ _ _ a hy hy' e1 e2
  tab := S.tab
theorem outE_at {vs : List Nat} {i : Nat} {x : Sl} (h : (outE vs env env2)[i]? = some x) : i < env.length ∧ x = if i ∈ vs then env.getD i .no else outS (env.getD i .no) (env2.getD i .no) := by
  unfold outE at h
  rw [List.getElem?_map] at h
  by_cases hl : i < env.length
  · rw [List.getElem?_range hl] at h
    cases h; exact ⟨hl, rfl⟩
  · rw [List.getElem?_eq_none (by simpa using hl)] at h; cases h
theorem getD_at {e : Env'} {i : Nat} {x : Sl} (h : e.getD i .no = x) (hx : x ≠ .no) : e[i]? = some x := by
  rw [List.getD_eq_getElem?_getD] at h
  cases q : e[i]? with
  | none => rw [q] at h; exact absurd h.symm hx
  | some y => rw [q] at h; rw [← h]; rfl
theorem outS_ow {a b : Sl} {f : Bool} {q : PV} (h : outS a b = .ow f q) : ∃ p c, a = .ow f p ∧ b = .ow c q := by
  cases a <;> cases b <;> simp only [outS] at h <;> first | (cases h; done) | skip
  cases h; exact ⟨_, _, rfl, rfl⟩
theorem outS_fz {a b : Sl} {q : PV} (h : outS a b = .fz q) : b = .fz q := by
  cases a <;> cases b <;> simp only [outS] at h <;> first | (cases h; done) | exact h
theorem freeS_no {vs : List Nat} {i : Nat} {b : Bool} {p : PV} (h : freeS vs env = true) (hi : i ∈ vs) : env[i]? ≠ some (.ow b p) := fun z => by
  unfold freeS at h
  have := List.all_eq_true.mp h i hi
  rw [z] at this
  cases this
/-- what the def knew not to be its own stays so -/
theorem Stt.sub_new (S : Stt g F H σ env) {b : Addr} (h : H b = none) : g.H0 b = none := by
  cases q : g.H0 b with
  | none => rfl
  | some o =>
    by_cases ho : g.O b
    · obtain ⟨o', e⟩ := S.live b ho
      rw [h] at e; cases e
    · exact ((S.frame b o q ho).no h).elim
theorem Stt.leave {vs : List Nat} (S : Stt g F H σ env) (S2 : Stt (subG g F H σ env) F2 H2 σ2 env2) (hf : freeS vs env = true) (hσ : wipe σ2 vs = wipe σ vs) : Ex F F2 ∧ Stt g F2 H2 σ (outE vs env env2) := by
  have hat : ∀ {i : Nat}, i ∉ vs → σ2[i]? = σ[i]? := fun {i} hi => by rw [← wipe_out (σ := σ2) hi, ← wipe_out (σ := σ) hi, hσ]
  have hO : ∀ b o, g.H0 b = some o → ¬ g.O b → ¬ (subG g F H σ env).O b := fun b o q n z => by
    obtain ⟨i, f, p, h1, h2⟩ := subG_O z
    obtain ⟨a, e1, _, _, e4⟩ := S.ow i f p h1
    rw [h2] at e1; cases e1
    cases f with
    | true => rw [if_pos rfl, q] at e4; cases e4
    | false => rw [if_neg Bool.false_ne_true] at e4; exact n ⟨i, e4⟩
  refine ⟨S2.ext, by simp [outE, S.len], fun b o q n => (S.frame b o q n).trans fun o' q' => S2.frame b o' q' (hO b o q n), fun b hb => ?_, S.ext.trans S2.ext, fun b o q => ?_, S2.sub, fun i p q => ?_, fun i b p q => ?_, fun i j b c p q a hi hj e1 e2 => ?_, S2.tab⟩
  · by_cases hb' : (subG g F H σ env).O b
    · exact S2.live b hb'
    · obtain ⟨o, q⟩ := S.live b hb
      exact (S2.frame b o q hb').some
  · rcases S2.fresh b o q with z | z
    · exact S.fresh b o z
    · exact .inr (S.sub_new z)
  · obtain ⟨hl, e⟩ := outE_at q
    split at e
    · obtain ⟨v, h1, h2⟩ := S.fz i p (getD_at e.symm (by simp))
      exact ⟨v, h1, h2.mono S2.ext.le⟩
    · rename_i ni
      obtain ⟨v, h1, h2⟩ := S2.fz i p (getD_at (outS_fz e.symm) (by simp))
      exact ⟨v, by rw [← hat ni]; exact h1, h2⟩
  · obtain ⟨hl, e⟩ := outE_at q
    split at e
    · rename_i hi
      exact (freeS_no hf hi (getD_at e.symm (by simp))).elim
    · rename_i ni
      obtain ⟨p0, c, h1, h2⟩ := outS_ow e.symm
      obtain ⟨a, e1, e2, e3, _⟩ := S2.ow i c p (getD_at h2 (by simp))
      obtain ⟨a', f1, f2, f3, f4⟩ := S.ow i b p0 (getD_at h1 (by simp))
      rw [hat ni, f1] at e1; cases e1
      exact ⟨_, f1, e2, e3, f4⟩
  · obtain ⟨_, x1⟩ := outE_at hi
    obtain ⟨_, x2⟩ := outE_at hj
    split at x1
    · rename_i hi
      exact (freeS_no hf hi (getD_at x1.symm (by simp))).elim
    · split at x2
      · rename_i hj
        exact (freeS_no hf hj (getD_at x2.symm (by simp))).elim
      · obtain ⟨_, _, h1, _⟩ := outS_ow x1.symm
        obtain ⟨_, _, h2, _⟩ := outS_ow x2.symm
        exact S.inj i j _ _ _ _ a (getD_at h1 (by simp)) (getD_at h2 (by simp)) e1 e2
/-- a cell that nobody here knows is written -/
theorem Stt.poke (S : Stt g F H σ env) {D : Addr} {o u : HO} (hD : H D = some u) (np : Pln u) (hF : F D = none) (h0 : g.H0 D = none) (hO : ¬ g.O D) (hn : ∀ (i : Nat) b q, env[i]? = some (.ow b q) → σ[i]? ≠ some (some (.ref D))) : Stt g F (upd H D o) σ env where
  len := S.len
  frame := fun b u q n => by
    have : b ≠ D := fun z => by rw [z, h0] at q; cases q
    rw [upd_ne this]; exact S.frame b u q n
  live := fun b hb => by
    have : b ≠ D := fun z => hO (z ▸ hb)
    rw [upd_ne this]; exact S.live b hb
  ext := S.ext
  fresh := S.fresh
  sub := fun b u q => by
    have : b ≠ D := fun z => by rw [z, hF] at q; cases q
    rw [upd_ne this]; exact S.sub b u q
  fz := S.fz
  ow := fun i b p q => by
    obtain ⟨a, h1, h2, h3, h4⟩ := S.ow i b p q
    have : a ≠ D := fun z => hn i b p q (by rw [h1, z])
    exact ⟨a, h1, h2.mono (Ex.refl F).le (upd_ne this), h3, h4⟩
  inj := S.inj
  tab := tabs_upd S.tab hD np

/-! ### [e for t in i if c] -/
def dtO (dt : Option (Env' → Res Bool)) : Env' → Res Bool := fun e => match dt with
  | none => .ok true e
  | some dt => dt e
def lcL (vs : List Nat) (u : UG) (dt : Option (Env' → Res Bool)) (de : Env' → Res Val) : List PV → List PV → Env' → Res (List PV)
  | [], acc, e => .ok acc e
  | p :: ps, acc, e => if freeS vs e = true then match u p (blkE vs e) with
    | none => .bad
    | some e1 => match dtO dt e1 with
      | .ok false e2 => lcL vs u dt de ps acc (outE vs e e2)
      | .ok true e2 => match de e2 with
        | .ok x e3 => match frz x e3 with
          | .ok q e4 => if acc.length < big then lcL vs u dt de ps (acc ++ [q]) (outE vs e e4) else .bad
          | _ => .bad
        | _ => .bad
      | _ => .bad
    else .bad
def dLc (vs : List Nat) (di : Env' → Res (List PV)) (u : UG) (dt : Option (Env' → Res Bool)) (de : Env' → Res Val) : Env' → Res Val := fun e => (di e).bind fun ps e1 => (lcL vs u dt de ps [] e1).bind fun qs e2 => .ok (.new (.lst qs)) e2
/-- the new list within a turn -/
structure LcS (g : Gm) (F H : Hp) (σ : St) (env : Env') (D : Addr) (acc : List PV) : Prop where
  S : Stt g F H σ env
  cell : ∃ vs, H D = some (.lst vs) ∧ Rs g.C F acc vs
  hF : F D = none
  h0 : g.H0 D = none
  hO : ¬ g.O D
  hn : ∀ (i : Nat) b q, env[i]? = some (.ow b q) → σ[i]? ≠ some (some (.ref D))
theorem LcS.start (S : Stt g F H σ env) {D : Addr} (hD : H D = none) : LcS g F (upd H D (.lst [])) σ env D [] := by
  obtain ⟨n1, n2, n3⟩ := S.new0 hD
  refine ⟨S.grow (ex_alloc hD), ⟨[], upd_same, Rs.nil⟩, n1, n2, n3, fun i b q e z => ?_⟩
  obtain ⟨a, e1, e2, _⟩ := S.ow i b q e
  rw [z] at e1; cases e1
  obtain ⟨o, ho⟩ := e2.cell
  rw [hD] at ho; cases ho
theorem LcS.noO {D : Addr} {acc : List PV} (L : LcS g F H σ env D acc) : ¬ (subG g F H σ env).O D := fun z => by
  obtain ⟨i, b, p, h1, h2⟩ := subG_O z
  exact L.hn i b p h1 h2
/-- behind a turn -/
theorem LcS.turn {D : Addr} {acc : List PV} {vs : List Nat} (L : LcS g F H σ env D acc) (S2 : Stt (subG g F H σ env) F2 H2 σ2 env2) (hf : freeS vs env = true) (hσ : wipe σ2 vs = wipe σ vs) : Ex F F2 ∧ LcS g F2 H2 σ (outE vs env env2) D acc := by
  obtain ⟨x, S'⟩ := L.S.leave S2 hf hσ
  obtain ⟨ws, h1, h2⟩ := L.cell
  refine ⟨x, S', ⟨ws, (S2.frame D _ h1 L.noO).eq (fun _ z => by cases z), h2.mono x.le⟩, ?_, L.h0, L.hO, fun i b q e z => ?_⟩
  · cases q : F2 D with
    | none => rfl
    | some o =>
      rcases S2.fresh D o q with z | z
      · have z : F D = some o := z
        rw [L.hF] at z; cases z
      · have z : H D = none := z
        rw [h1] at z; cases z
  · obtain ⟨hl, e⟩ := outE_at e
    split at e
    · exact L.hn i b q (getD_at e.symm (by simp)) z
    · obtain ⟨p0, c, h1, h2⟩ := outS_ow e.symm
      exact L.hn i b p0 (getD_at h1 (by simp)) z
/-- .. with an item put in -/
theorem LcS.put {D : Addr} {acc : List PV} {y : V} {q : PV} {ws : List V} (L : LcS g F H σ env D acc) (hD : H D = some (.lst ws)) (r : R g.C F q y) : LcS g F (upd H D (.lst (ws ++ [y]))) σ env D (acc ++ [q]) := by
  obtain ⟨ws', h1, h2⟩ := L.cell
  rw [hD] at h1; cases h1
  exact ⟨L.S.poke hD ⟨fun _ z => (by cases z), fun _ z => (by cases z)⟩ L.hF L.h0 L.hO L.hn, ⟨_, upd_same, h2.snoc r⟩, L.hF, L.h0, L.hO, L.hn⟩
theorem LcS.done {D : Addr} {acc : List PV} (L : LcS g F H σ env D acc) : RV g F H σ env (.new (.lst acc)) (.ref D) := by
  obtain ⟨ws, h1, h2⟩ := L.cell
  exact ⟨D, rfl, by simp only [R1]; exact ⟨ws, h1, h2⟩, L.hF, L.h0, L.hn⟩
/-- the same σ outside vs -/
theorem wipe_agree {vs js : List Nat} (hl : σ2.length = σ.length) (hj : ∀ j ∈ js, j ∈ vs) (h : ∀ (i : Nat), i ∉ js → σ2[i]? = (wipe σ vs)[i]?) : wipe σ2 vs = wipe σ vs := by
  have wl : ∀ {τ : St} {vs : List Nat} {i : Nat}, i ∈ vs → i < τ.length → (wipe τ vs)[i]? = some none := by
    intro τ vs i hi hlt
    cases q : (wipe τ vs)[i]? with
    | none =>
      rw [List.getElem?_eq_none_iff, wipe_length] at q
      omega
    | some x =>
      cases x with
      | none => rfl
      | some v => exact absurd hi (wipe_some q).2
  apply List.ext_getElem?
  intro i
  by_cases hi : i ∈ vs
  · by_cases hlt : i < σ.length
    · rw [wl hi (by rw [hl]; exact hlt), wl hi hlt]
    · rw [List.getElem?_eq_none (by rw [wipe_length, hl]; omega), List.getElem?_eq_none (by rw [wipe_length]; omega)]
  · rw [wipe_out hi, h i fun z => hi (hj i z)]
theorem sts_nil : PTs X [] (tT g fun e => .ok true e) := ⟨fun pins s σ H Q I ⟨F, env, S, go⟩ => pts_nil.run pins s σ H Q I (go F H (Ex.refl F) S)⟩
/-- what a comprehension asks, from the state -/
theorem lc_turns {vs js : List Nat} {u : UG} {dt : Option (Env' → Res Bool)} {de : Env' → Res Val} {J : It} {ps : List PV} {F1 H1 : Hp} {env1 : Env'} {Q : VK} (hj : ∀ j ∈ js, j ∈ vs)
    (S1 : Stt g F1 H1 σ env1) (w : WalkP g.C J F1 ps) (go : Go g F1 σ ((lcL vs u dt de ps [] env1).bind fun qs e2 => .ok (.new (.lst qs)) e2) fun x env' F' H' => ∀ v, RV g F' H' σ env' x v → Q v H') :
    ∀ D, H1 D = none → ∃ W : Nat → Nat → Hp → Prop, (∃ m, W 0 m (upd H1 D (.lst []))) ∧ ∀ i m H, W i m H →
      (J.stop i H ∧ Q (.ref D) H) ∨ (J.go i H ∧ ∃ Nx : Hp → Prop, (∀ H', Nx H' → ∃ m', m' < m ∧ W (i + 1) m' H') ∧ ∀ x H', J.yld i H x H' → (∃ g' : Gm, g'.C = g.C ∧ tG g' u js x (wipe σ vs) H' fun σ2 H2 => wipe σ2 vs = wipe σ vs ∧ tT g' (dtO dt) σ2 H2 fun b H3 =>
        if b = true then tE g' de σ2 H3 fun y H4 => ∃ acc, H4 D = some (.lst acc) ∧ acc.length < sizeLine ∧ Nx (upd H4 D (.lst (acc ++ [y]))) else Nx H3)) := by
  intro D hD
  refine ⟨fun i m H => ∃ F env acc, Ex F1 F ∧ LcS g F H σ env D acc ∧ m = ps.length - i ∧ i ≤ ps.length ∧ Go g F σ ((lcL vs u dt de (ps.drop i) acc env).bind fun qs e2 => .ok (.new (.lst qs)) e2) fun x env' F' H' => ∀ v, RV g F' H' σ env' x v → Q v H',
    ⟨ps.length, F1, env1, [], Ex.refl F1, LcS.start S1 hD, by omega, Nat.zero_le _, by rw [List.drop_zero]; exact go⟩, ?_⟩
  rintro i m H ⟨F, env, acc, x1, L, rfl, hle, go1⟩
  by_cases hlt : i < ps.length
  · right
    have hd : ps.drop i = ps[i] :: ps.drop (i + 1) := List.drop_eq_getElem_cons hlt
    rw [hd] at go1
    unfold lcL at go1
    split at go1
    · rename_i hf
      have Se := L.S.enter vs
      refine ⟨w.goes (subG g F H σ env) i F H _ _ rfl hlt x1 Se, fun H' => ∃ F env acc, Ex F1 F ∧ LcS g F H' σ env D acc ∧ Go g F σ ((lcL vs u dt de (ps.drop (i + 1)) acc env).bind fun qs e2 => .ok (.new (.lst qs)) e2) fun x env' F' H' => ∀ v, RV g F' H' σ env' x v → Q v H', fun H' ⟨F, env, acc, x, L, q⟩ => ⟨ps.length - (i + 1), by omega, F, env, acc, x, L, rfl, hlt, q⟩, fun x H' y => ?_⟩
      refine ⟨subG g F H σ env, rfl, ?_⟩
      obtain ⟨F2, x2, S2, r2⟩ := w.ylds (subG g F H σ env) i ps[i] F H _ _ x H' rfl (List.getElem?_eq_getElem hlt) x1 Se y
      cases hu : u ps[i] (blkE vs env) with
      | none => simp only [hu] at go1; exact go1.elim
      | some e1 =>
        simp only [hu] at go1
        refine ⟨F2, _, ps[i], e1, S2, r2, hu, fun σ' S' ln ag => ?_⟩
        have hw : wipe σ' vs = wipe σ vs := wipe_agree (by rw [ln, wipe_length]) hj ag
        refine ⟨hw, F2, e1, S', ?_⟩
        cases ht : dtO dt e1 with
        | bad => simp only [ht] at go1; exact go1.elim
        | err y e' => simp only [ht] at go1; exact go1.elim
        | ok b e2 =>
          simp only [ht] at go1
          intro F3 H3 x3 S3
          cases b with
          | false =>
            obtain ⟨x4, L4⟩ := L.turn S3 hf hw
            exact ⟨F3, _, acc, x1.trans x4, L4, Go.up go1 x4⟩
          | true =>
            refine ⟨F3, e2, S3, ?_⟩
            dsimp only at go1
            cases hd : de e2 with
            | bad => simp only [hd] at go1; exact go1.elim
            | err y e' => simp only [hd] at go1; exact go1.elim
            | ok z e3 =>
              simp only [hd] at go1
              intro F4 H4 x4 S4 v rv
              cases hq : frz z e3 with
              | bad => simp only [hq] at go1; exact go1.elim
              | err y e' => simp only [hq] at go1; exact go1.elim
              | ok q e4 =>
                simp only [hq] at go1
                split at go1
                · rename_i hlen
                  obtain ⟨F5, x5, S5, r5⟩ := frz_ok S4 rv hq
                  obtain ⟨x6, L6⟩ := L.turn S5 hf hw
                  obtain ⟨ws, c1, c2⟩ := L6.cell
                  exact ⟨ws, c1, by rw [c2.length, big_eq]; exact hlen, F5, _, _, x1.trans x6, L6.put c1 r5, Go.up go1 x6⟩
                · exact go1.elim
    · exact go1.elim
  · left
    have e : i = ps.length := by omega
    subst e
    rw [List.drop_length] at go1
    unfold lcL at go1
    exact ⟨w.stops g F H σ env rfl x1 L.S, go1 F H (Ex.refl F) L.S _ L.done⟩
/-- readings that leave the activation open -/
def xG (C : Ct) (u : UG) (js : List Nat) : TG := fun v σ H Q => ∃ g' : Gm, g'.C = C ∧ tG g' u js v σ H Q
def xT (C : Ct) (d : Env' → Res Bool) : TT := fun σ H Q => ∃ g' : Gm, g'.C = C ∧ tT g' d σ H Q
def xE (C : Ct) (d : Env' → Res Val) : TE := fun σ H Q => ∃ g' : Gm, g'.C = C ∧ tE g' d σ H Q
theorem xG_of {C : Ct} {e : Expr} {u : UG} {js : List Nat} (h : ∀ g' : Gm, g'.C = C → PG X e (tG g' u js)) : PG X e (xG C u js) := ⟨fun pins s σ H v w Q I r ⟨g', hc, q⟩ => (h g' hc).run pins s σ H v w Q I r q⟩
theorem xT_of {C : Ct} {es : List Expr} {d : Env' → Res Bool} (h : ∀ g' : Gm, g'.C = C → PTs X es (tT g' d)) : PTs X es (xT C d) := ⟨fun pins s σ H Q I ⟨g', hc, q⟩ => (h g' hc).run pins s σ H Q I q⟩
theorem xE_of {C : Ct} {e : Expr} {d : Env' → Res Val} (h : ∀ g' : Gm, g'.C = C → PE X e (tE g' d)) : PE X e (xE C d) := ⟨fun pins s σ H Q I ⟨g', hc, q⟩ => (h g' hc).run pins s σ H Q I q⟩
theorem tG_mono {u : UG} {js : List Nat} {v : V} {Q Q' : St → Hp → Prop} (k : ∀ σ H, Q σ H → Q' σ H) (h : tG g u js v σ H Q) : tG g u js v σ H Q' := by
  obtain ⟨F, env, p, env', S, r, e, q⟩ := h
  exact ⟨F, env, p, env', S, r, e, fun σ' S' l a => k _ _ (q σ' S' l a)⟩
theorem tT_mono {d : Env' → Res Bool} {Q Q' : Bool → Hp → Prop} (k : ∀ b H, Q b H → Q' b H) (h : tT g d σ H Q) : tT g d σ H Q' := by
  obtain ⟨F, env, S, go⟩ := h
  exact ⟨F, env, S, go.mono fun b e F' H' _ _ q => k b H' q⟩
theorem tE_mono {d : Env' → Res Val} {Q Q' : VK} (k : ∀ b H, Q b H → Q' b H) (h : tE g d σ H Q) : tE g d σ H Q' := by
  obtain ⟨F, env, S, go⟩ := h
  exact ⟨F, env, S, go.mono fun b e F' H' _ _ q v r => k v H' (q v r)⟩
theorem tLc_of {vs js : List Nat} {di : Env' → Res (List PV)} {u : UG} {dt : Option (Env' → Res Bool)} {de : Env' → Res Val} (hj : ∀ j ∈ js, j ∈ vs) {Q : VK} (h : tE g (dLc vs di u dt de) σ H Q) :
    tLc (tI g di) (xG g.C u js) (xT g.C (dtO dt)) (xE g.C de) vs σ H Q := by
  obtain ⟨F, env, S, go⟩ := h
  refine ⟨F, env, S, (Go.bind go).mono fun ps e1 F1 H1 x1 S1 k J w => ?_⟩
  intro D hD
  obtain ⟨W, w0, turn⟩ := lc_turns hj S1 w k D hD
  refine ⟨W, w0, fun i m H hw => ?_⟩
  rcases turn i m H hw with z | ⟨go, Nx, hN, step⟩
  · exact .inl z
  · refine .inr ⟨go, Nx, hN, fun x H' y => ?_⟩
    obtain ⟨g', hC, q⟩ := step x H' y
    refine ⟨g', hC, tG_mono (fun σ2 H2 ⟨hw, q2⟩ => ⟨hw, g', hC, tT_mono (fun b H3 q3 => ?_) q2⟩) q⟩
    cases b with
    | false => exact q3
    | true => exact ⟨g', hC, q3⟩
theorem ok_blk {s : Shared} {H : Hp} {sc : Scope} {ce : Env} {fp : List Addr} {g' : Gm} (ok : Ok X g) (hC : g'.C = g.C) : Ok (X.blk s H sc ce fp) g' := ⟨by rw [hC]; exact ok.K, ok.u, ok.calm⟩
theorem se_lc {elt tg iter : Expr} {ifs : List Expr} {scope : Scope} {pos : Pos} {vs js : List Nat} {di : Env' → Res (List PV)} {u : UG} {dt : Option (Env' → Res Bool)} {de : Env' → Res Val} (own : List (Str × Nat)) (ok : Ok X g) (hN : X.N.Nodup)
    (hi : PI X tg iter (tI g di)) (bk : BlkOk X.N X.env.scope scope own) (hv : own.map (·.2) = vs) (hj : ∀ j ∈ js, j ∈ vs)
    (hg : ∀ (s : Shared) (H : Hp) (C : Addr) (cl : List (Str × Addr)) (fp : List Addr) (g' : Gm), g'.C = g.C → Ok (X.blk s H scope (compEnvC scope cl C X.env) fp) g' → PG (X.blk s H scope (compEnvC scope cl C X.env) fp) tg (tG g' u js))
    (ht : ∀ (s : Shared) (H : Hp) (C : Addr) (cl : List (Str × Addr)) (fp : List Addr) (g' : Gm), g'.C = g.C → Ok (X.blk s H scope (compEnvC scope cl C X.env) fp) g' → PTs (X.blk s H scope (compEnvC scope cl C X.env) fp) ifs (tT g' (dtO dt)))
    (he : ∀ (s : Shared) (H : Hp) (C : Addr) (cl : List (Str × Addr)) (fp : List Addr) (g' : Gm), g'.C = g.C → Ok (X.blk s H scope (compEnvC scope cl C X.env) fp) g' → PE (X.blk s H scope (compEnvC scope cl C X.env) fp) elt (tE g' de))
    (hs : ∀ x, foldedSetIterable iter X.env x = pure x) : PE X (.ListComp elt [⟨tg, iter, ifs, 0⟩] scope pos) (tE g (dLc vs di u dt de)) := by
  subst hv
  exact peImp (pe_lc ok.calm hN hi bk (fun s H C cl fp => xG_of fun g' hC => hg s H C cl fp g' hC (ok_blk ok hC)) (fun s H C cl fp => xT_of fun g' hC => ht s H C cl fp g' hC (ok_blk ok hC)) (fun s H C cl fp => xE_of fun g' hC => he s H C cl fp g' hC (ok_blk ok hC)) hs) fun σ H Q h => tLc_of hj h
/-- y = [..], y a local -/
theorem ss_setLc {i : Nat} {y : Str} {py spos : Pos} {elt tg iter : Expr} {ifs : List Expr} {scope : Scope} {pos : Pos} {vs js : List Nat} {di : Env' → Res (List PV)} {u : UG} {dt : Option (Env' → Res Bool)} {de : Env' → Res Val} (own : List (Str × Nat)) (ok : Ok X g) (hN : X.N.Nodup)
    (hy : X.N[i]? = some y) (hyl : X.env.scope.names.lookup y = some .local) (hsw : swapsWith (.ListComp elt [⟨tg, iter, ifs, 0⟩] scope pos) (some (.Name y py)) spos.line X.env = pure true)
    (hi : PI X tg iter (tI g di)) (bk : BlkOk X.N X.env.scope scope own) (hv : own.map (·.2) = vs) (hj : ∀ j ∈ js, j ∈ vs)
    (hg : ∀ (s : Shared) (H : Hp) (C : Addr) (cl : List (Str × Addr)) (fp : List Addr) (g' : Gm), g'.C = g.C → Ok (X.blk s H scope (compEnvC scope cl C X.env) fp) g' → PG (X.blk s H scope (compEnvC scope cl C X.env) fp) tg (tG g' u js))
    (ht : ∀ (s : Shared) (H : Hp) (C : Addr) (cl : List (Str × Addr)) (fp : List Addr) (g' : Gm), g'.C = g.C → Ok (X.blk s H scope (compEnvC scope cl C X.env) fp) g' → PTs (X.blk s H scope (compEnvC scope cl C X.env) fp) ifs (tT g' (dtO dt)))
    (he : ∀ (s : Shared) (H : Hp) (C : Addr) (cl : List (Str × Addr)) (fp : List Addr) (g' : Gm), g'.C = g.C → Ok (X.blk s H scope (compEnvC scope cl C X.env) fp) g' → PE (X.blk s H scope (compEnvC scope cl C X.env) fp) elt (tE g' de))
    (hs : ∀ x, foldedSetIterable iter X.env x = pure x) : PS X (.Assign [.Name y py] (.ListComp elt [⟨tg, iter, ifs, 0⟩] scope pos) spos) (tS g (dSet i (dLc vs di u dt de))) := by
  subst hv
  refine psImp (ps_setLc ok.calm hN hy hyl hsw hi bk (fun s H C cl fp => xG_of fun g' hC => hg s H C cl fp g' hC (ok_blk ok hC)) (fun s H C cl fp => xT_of fun g' hC => ht s H C cl fp g' hC (ok_blk ok hC)) (fun s H C cl fp => xE_of fun g' hC => he s H C cl fp g' hC (ok_blk ok hC)) hs) fun D σ H h => ?_
  obtain ⟨F, env, S, go⟩ := h
  exact tLc_of hj ⟨F, env, S, (GoS.bindE (σ := σ) go).mono fun x e F' H' x1 S1 k v r => store_go S1 r k⟩
end
end VL

set_option maxRecDepth 100000
set_option maxHeartbeats 2000000
namespace VL
open PySem PySem.Spec L2
open PyProof.Rows hiding St
/-! ### defs -/
inductive FR where
  | bad | ok (x : Val) (outs : List PV)
/-- true: a container that is lent -/
abbrev Md := List Bool
def ArgsOk (C : Ct) (F H : Hp) : Md → List PV → List V → Prop
  | [], ps, vs => ps = [] ∧ vs = []
  | m :: ms, ps, vs => ∃ p pr v vr, ps = p :: pr ∧ vs = v :: vr ∧ (if m = true then ∃ a, v = .ref a ∧ R1 C F H p a ∧ F a = none else R C F p v) ∧ ArgsOk C F H ms pr vr
/-- the lent cells -/
def lentV : Md → List V → List V
  | m :: ms, v :: vs => if m = true then v :: lentV ms vs else lentV ms vs
  | _, _ => []
def OutsOk (C : Ct) (F H : Hp) : List V → List PV → Prop
  | [], qs => qs = []
  | v :: vs, qs => ∃ q qr a, qs = q :: qr ∧ v = .ref a ∧ R1 C F H q a ∧ F a = none ∧ OutsOk C F H vs qr
/-- what a call gives: H the heap at the call -/
def RVc (C : Ct) (F' H H' : Hp) : Val → V → Prop
  | .fz p, v => R C F' p v
  | .bor _, _ => False
  | .new p, v => ∃ a, v = .ref a ∧ R1 C F' H' p a ∧ F' a = none ∧ H a = none
def SpV (C : Ct) (md : Md) (fn : List PV → FR) : Sp := fun vs H Q E => ∃ F args x outs, Le F H ∧ LamX.Tabs C.T H ∧ ArgsOk C F H md args vs ∧ (lentV md vs).Nodup ∧ fn args = .ok x outs ∧
  ∀ F' H' v, Ex F F' → (∀ b o, F' b = some o → F b = some o ∨ H b = none) → Le F' H' → LamX.Tabs C.T H' → (∀ b o, H b = some o → V.ref b ∉ lentV md vs → Kpt o (H' b)) → OutsOk C F' H' (lentV md vs) outs → RVc C F' H H' x v → Q v H'
def entryE : Md → List PV → Env'
  | m :: ms, p :: ps => (if m = true then .ow false p else .fz p) :: entryE ms ps
  | _, _ => []
def entry (n : Nat) (md : Md) (args : List PV) : Env' := entryE md args ++ List.replicate (n - args.length) .no
/-- what stands in the lent slots at the end -/
def outsAt : Nat → Md → Env' → Option (List PV)
  | _, [], _ => some []
  | i, m :: ms, e => if m = true then (match e[i]?, outsAt (i + 1) ms e with
    | some (.ow false q), some r => some (q :: r)
    | _, _ => none) else outsAt (i + 1) ms e
def callFn (n : Nat) (md : Md) (d : Env' → Res Fl) : List PV → FR := fun args => match d (entry n md args) with
  | .ok .nx e => match outsAt 0 md e with
    | some outs => .ok (.fz .non) outs
    | none => .bad
  | .ok (.rt (.fz p)) e => match outsAt 0 md e with
    | some outs => .ok (.fz p) outs
    | none => .bad
  | .ok (.rt (.new p)) e => match outsAt 0 md e with
    | some outs => .ok (.new p) outs
    | none => .bad
  | _ => .bad
/-- the callee's activation -/
def callG (C : Ct) (F H : Hp) (md : Md) (vs : List V) : Gm where
  C := C
  F0 := F
  H0 := H
  P := fun i => match md[i]?, vs[i]? with
    | some true, some (.ref a) => some a
    | _, _ => none
  W := fun _ _ _ _ _ => False
section
variable {C : Ct} {F H F' H' : Hp} {env : Env'}
theorem ArgsOk.len : ∀ {md : Md} {ps : List PV} {vs : List V}, ArgsOk C F H md ps vs → ps.length = md.length ∧ vs.length = md.length
  | [], ps, vs, h => by obtain ⟨rfl, rfl⟩ := h; exact ⟨rfl, rfl⟩
  | m :: ms, ps, vs, h => by
    obtain ⟨p, pr, v, vr, rfl, rfl, _, h⟩ := h
    obtain ⟨h1, h2⟩ := ArgsOk.len h
    exact ⟨congrArg Nat.succ h1, congrArg Nat.succ h2⟩
theorem ArgsOk.at : ∀ {md : Md} {ps : List PV} {vs : List V} {i : Nat} {x : Sl}, ArgsOk C F H md ps vs → (entryE md ps)[i]? = some x → ∃ m p v, md[i]? = some m ∧ vs[i]? = some v ∧ x = (if m = true then .ow false p else .fz p) ∧ (if m = true then ∃ a, v = .ref a ∧ R1 C F H p a ∧ F a = none else R C F p v)
  | [], ps, vs, i, x, h, e => by obtain ⟨rfl, rfl⟩ := h; simp [entryE] at e
  | m :: ms, ps, vs, i, x, h, e => by
    obtain ⟨p, pr, v, vr, rfl, rfl, hm, h⟩ := h
    cases i with
    | zero =>
      simp [entryE] at e
      exact ⟨m, p, v, rfl, rfl, e.symm, hm⟩
    | succ i =>
      simp only [entryE, List.getElem?_cons_succ] at e
      obtain ⟨m', p', v', h1, h2, h3⟩ := ArgsOk.at h e
      exact ⟨m', p', v', h1, h2, h3⟩
theorem ArgsOk.lent_at : ∀ {md : Md} {ps : List PV} {vs : List V} {i : Nat} {v : V}, ArgsOk C F H md ps vs → md[i]? = some true → vs[i]? = some v → v ∈ lentV md vs
  | [], ps, vs, i, v, h, e, _ => by simp at e
  | m :: ms, ps, vs, i, v, h, e, e2 => by
    obtain ⟨p, pr, w, vr, rfl, rfl, hm, h⟩ := h
    cases i with
    | zero =>
      simp at e e2; subst e; subst e2
      simp [lentV]
    | succ i =>
      have := ArgsOk.lent_at h (by simpa using e) (by simpa using e2)
      unfold lentV
      split
      · exact List.mem_cons_of_mem _ this
      · exact this
theorem lentV_inj : ∀ {md : Md} {vs : List V} {i j : Nat} {v : V}, (lentV md vs).Nodup → md[i]? = some true → md[j]? = some true → vs[i]? = some v → vs[j]? = some v → i = j
  | [], vs, i, j, v, _, e, _, _, _ => by simp at e
  | m :: ms, [], i, j, v, _, _, _, e, _ => by simp at e
  | m :: ms, w :: vs, i, j, v, nd, e1, e2, f1, f2 => by
    have mem : ∀ {ms : Md} {vs : List V} {i : Nat} {v : V}, ms[i]? = some true → vs[i]? = some v → v ∈ lentV ms vs := by
      intro ms
      induction ms with
      | nil => intro vs i v h; simp at h
      | cons m ms ih =>
        intro vs i v h h2
        cases vs with
        | nil => simp at h2
        | cons w vs =>
          cases i with
          | zero => simp at h h2; subst h; subst h2; simp [lentV]
          | succ i =>
            have := ih (by simpa using h) (by simpa using h2)
            unfold lentV
            split
            · exact List.mem_cons_of_mem _ this
            · exact this
    cases i with
    | zero =>
      cases j with
      | zero => rfl
      | succ j =>
        exfalso
        simp at e1 f1 e2 f2
        subst e1; subst f1
        unfold lentV at nd
        rw [if_pos rfl] at nd
        exact (List.nodup_cons.mp nd).1 (mem e2 f2)
    | succ i =>
      cases j with
      | zero =>
        exfalso
        simp at e1 f1 e2 f2
        subst e2; subst f2
        unfold lentV at nd
        rw [if_pos rfl] at nd
        exact (List.nodup_cons.mp nd).1 (mem e1 f1)
      | succ j =>
        have nd' : (lentV ms vs).Nodup := by
          unfold lentV at nd
          split at nd
          · exact (List.nodup_cons.mp nd).2
          · exact nd
        exact congrArg Nat.succ (lentV_inj (v := v) nd' (by simpa using e1) (by simpa using e2) (by simpa using f1) (by simpa using f2))
theorem lentV_of : ∀ {md : Md} {vs : List V} {v : V}, v ∈ lentV md vs → ∃ i : Nat, md[i]? = some true ∧ vs[i]? = some v
  | [], vs, v, h => by cases vs <;> simp [lentV] at h
  | m :: ms, [], v, h => by simp [lentV] at h
  | m :: ms, w :: vs, v, h => by
    unfold lentV at h
    split at h
    · rename_i hm
      rcases List.mem_cons.mp h with z | z
      · exact ⟨0, by simp [hm], by simp [z]⟩
      · obtain ⟨i, h1, h2⟩ := lentV_of z
        exact ⟨i + 1, by simpa using h1, by simpa using h2⟩
    · obtain ⟨i, h1, h2⟩ := lentV_of h
      exact ⟨i + 1, by simpa using h1, by simpa using h2⟩
theorem entryE_len : ∀ {md : Md} {ps : List PV}, ps.length = md.length → (entryE md ps).length = ps.length
  | [], ps, h => by
    have : ps = [] := List.eq_nil_of_length_eq_zero h
    subst this; rfl
  | m :: ms, [], h => by simp at h
  | m :: ms, p :: ps, h => by simp [entryE, entryE_len (by simpa using h : ps.length = ms.length)]
theorem entry_at {n : Nat} {md : Md} {ps : List PV} {i : Nat} {x : Sl} (hl : ps.length = md.length) (h : (entry n md ps)[i]? = some x) : x = .no ∨ (entryE md ps)[i]? = some x := by
  unfold entry at h
  by_cases hi : i < (entryE md ps).length
  · rw [List.getElem?_append_left hi] at h; exact .inr h
  · rw [List.getElem?_append_right (by omega)] at h
    rw [List.getElem?_replicate] at h
    split at h
    · cases h; exact .inl rfl
    · cases h
/-- a def's entry -/
theorem Stt.entry {N : List Str} {md : Md} {args : List PV} {vs : List V} (l : Le F H) (tb : LamX.Tabs C.T H) (a : ArgsOk C F H md args vs) (nd : (lentV md vs).Nodup) (hn : md.length ≤ N.length) : Stt (callG C F H md vs) F H (L2.start N vs) (entry N.length md args) := by
  obtain ⟨l1, l2⟩ := a.len
  have sat : ∀ {i : Nat} {v : V}, vs[i]? = some v → (L2.start N vs)[i]? = some (some v) := fun {i v} h => by
    unfold L2.start
    have hi : i < vs.length := (List.getElem?_eq_some_iff.mp h).1
    rw [List.getElem?_append_left (by simpa using hi), List.getElem?_map, h]; rfl
  refine ⟨?_, fun b o q _ => .inl q, fun b hb => ?_, Ex.refl F, fun b o q => .inl q, l, fun i p q => ?_, fun i b p q => ?_, fun i j b c p q x hi hj e1 e2 => ?_, tb⟩
  · unfold L2.start VL.entry
    rw [List.length_append, List.length_append, List.length_map, List.length_replicate, List.length_replicate, entryE_len l1]
    omega
  · obtain ⟨i, hi⟩ := hb
    unfold callG at hi
    dsimp only at hi
    split at hi
    · rename_i a' h1 h2
      cases hi
      have : i < (entryE md args).length := by
        rw [entryE_len l1, l1]
        exact (List.getElem?_eq_some_iff.mp h1).1
      obtain ⟨m, p, v, e1, e2, e3, e4⟩ := a.at (List.getElem?_eq_getElem this)
      rw [h1] at e1; cases e1
      rw [h2] at e2; cases e2
      rw [if_pos rfl] at e4
      obtain ⟨a'', z, r, _⟩ := e4
      cases z
      exact r.cell
    · cases hi
  · rcases entry_at l1 q with z | z
    · cases z
    · obtain ⟨m, p', v, e1, e2, e3, e4⟩ := a.at z
      cases m with
      | true => rw [if_pos rfl] at e3; cases e3
      | false =>
        rw [if_neg Bool.false_ne_true] at e3 e4
        cases e3
        exact ⟨v, sat e2, e4⟩
  · rcases entry_at l1 q with z | z
    · cases z
    · obtain ⟨m, p', v, e1, e2, e3, e4⟩ := a.at z
      cases m with
      | false => rw [if_neg Bool.false_ne_true] at e3; cases e3
      | true =>
        rw [if_pos rfl] at e3 e4
        cases e3
        obtain ⟨ad, rfl, r, hf⟩ := e4
        refine ⟨ad, sat e2, r, hf, ?_⟩
        rw [if_neg Bool.false_ne_true]
        show (match md[i]?, vs[i]? with | some true, some (.ref a) => some a | _, _ => none) = some ad
        rw [e1, e2]
  · rcases entry_at l1 hi with z | z
    · cases z
    · rcases entry_at l1 hj with z' | z'
      · cases z'
      · obtain ⟨m, p', v, f1, f2, f3, f4⟩ := a.at z
        obtain ⟨m', p'', v', g1, g2, g3, g4⟩ := a.at z'
        cases m with
        | false => rw [if_neg Bool.false_ne_true] at f3; cases f3
        | true =>
          cases m' with
          | false => rw [if_neg Bool.false_ne_true] at g3; cases g3
          | true =>
            have h1 := sat f2
            have h2 := sat g2
            rw [h1] at e1; cases e1
            rw [h2] at e2; cases e2
            exact lentV_inj nd f1 g1 f2 g2
theorem lentV_drop {md : Md} {vs : List V} : ∀ {i : Nat}, lentV (md.drop i) (vs.drop i) = match md[i]?, vs[i]? with
    | some m, some v => if m = true then v :: lentV (md.drop (i + 1)) (vs.drop (i + 1)) else lentV (md.drop (i + 1)) (vs.drop (i + 1))
    | _, _ => [] := by
  intro i
  cases h1 : md[i]? with
  | none =>
    rw [List.drop_eq_nil_of_le (List.getElem?_eq_none_iff.mp h1)]
    cases vs.drop i <;> rfl
  | some m =>
    cases h2 : vs[i]? with
    | none =>
      rw [List.drop_eq_nil_of_le (List.getElem?_eq_none_iff.mp h2)]
      cases md.drop i <;> rfl
    | some v =>
      obtain ⟨l1, rfl⟩ := List.getElem?_eq_some_iff.mp h1
      obtain ⟨l2, rfl⟩ := List.getElem?_eq_some_iff.mp h2
      rw [List.drop_eq_getElem_cons l1, List.drop_eq_getElem_cons l2]
      rfl
/-- the lent cells at the end -/
theorem outs_ok {md : Md} {vs : List V} {σ : St} {g : Gm} (hC : g.C = C) (hP : ∀ i a, g.P i = some a → vs[i]? = some (.ref a)) (hlen : vs.length = md.length) (S : Stt g F' H' σ env) : ∀ {i : Nat} {outs : List PV}, outsAt i (md.drop i) env = some outs → OutsOk C F' H' (lentV (md.drop i) (vs.drop i)) outs := by
  intro i
  generalize hr : md.length - i = r
  induction r generalizing i with
  | zero =>
    intro outs h
    have hd : md.drop i = [] := List.drop_eq_nil_of_le (by omega)
    rw [hd] at h ⊢
    cases h
    cases vs.drop i <;> rfl
  | succ r ih =>
    intro outs h
    have hi : i < md.length := by omega
    have e1 : md[i]? = some md[i] := List.getElem?_eq_getElem hi
    have e2 : vs[i]? = some vs[i] := List.getElem?_eq_getElem (by omega)
    rw [lentV_drop, e1, e2]
    dsimp only
    rw [List.drop_eq_getElem_cons hi] at h
    unfold outsAt at h
    split at h
    · rename_i hm
      rw [if_pos hm]
      split at h
      · rename_i q r' h1 h2
        cases h
        obtain ⟨a, z1, z2, z3, z4⟩ := S.ow i _ q h1
        rw [if_neg Bool.false_ne_true] at z4
        have := hP i a z4
        rw [e2] at this
        have this := Option.some.inj this
        exact ⟨q, r', a, rfl, this, by rw [← hC]; exact z2, z3, ih (i := i + 1) (by omega) h2⟩
      · cases h
    · rename_i hm
      rw [if_neg hm]
      exact ih (i := i + 1) (by omega) h
end
end VL

set_option maxRecDepth 100000
set_option maxHeartbeats 2000000
namespace VL
open PySem PySem.Spec L2
open PyProof.Rows hiding St
section
variable {C : Ct} {F H F' H' : Hp} {env : Env'}
theorem callG_P {md : Md} {vs : List V} : ∀ i a, (callG C F H md vs).P i = some a → vs[i]? = some (.ref a) := fun i a h => by
  unfold callG at h
  dsimp only at h
  split at h
  · rename_i a' h1 h2
    cases h; exact h2
  · cases h
/-- the end of a call, from the callee's state -/
theorem call_end {md : Md} {vs : List V} {σ : St} {x : Val} {v : V} {outs : List PV} {Q : VK} (hlen : vs.length = md.length) (S : Stt (callG C F H md vs) F' H' σ env) (rv : RV (callG C F H md vs) F' H' σ env x v) (hx : ∀ i, x ≠ .bor i) (ho : outsAt 0 md env = some outs)
    (k : ∀ F' H' v, Ex F F' → (∀ b o, F' b = some o → F b = some o ∨ H b = none) → Le F' H' → LamX.Tabs C.T H' → (∀ b o, H b = some o → V.ref b ∉ lentV md vs → Kpt o (H' b)) → OutsOk C F' H' (lentV md vs) outs → RVc C F' H H' x v → Q v H') : Q v H' := by
  refine k F' H' v S.ext S.fresh S.sub S.tab (fun b o q n => S.frame b o q fun ⟨i, z⟩ => n ?_) ?_ ?_
  · have h1 := callG_P i b z
    unfold callG at z
    dsimp only at z
    split at z
    · rename_i a' e1 e2
      cases z
      have hm : md[i]? = some true := e1
      have : ∀ {ms : Md} {vs : List V} {i : Nat} {v : V}, ms[i]? = some true → vs[i]? = some v → v ∈ lentV ms vs := by
        intro ms
        induction ms with
        | nil => intro vs i v h; simp at h
        | cons m ms ih =>
          intro vs i v h h2
          cases vs with
          | nil => simp at h2
          | cons w vs =>
            cases i with
            | zero => simp at h h2; subst h; subst h2; simp [lentV]
            | succ i =>
              have := ih (by simpa using h) (by simpa using h2)
              unfold lentV
              split
              · exact List.mem_cons_of_mem _ this
              · exact this
      exact this hm h1
    · cases z
  · have := outs_ok (C := C) (g := callG C F H md vs) rfl callG_P hlen S (i := 0) (outs := outs) (by simpa using ho)
    simpa using this
  · cases x with
    | fz p => exact rv
    | bor i => exact (hx i rfl).elim
    | new p =>
      obtain ⟨a, e1, e2, e3, e4, _⟩ := rv
      exact ⟨a, e1, e2, e3, e4⟩
/-- a body keeps the promise -/
theorem body_ok {N : List Str} {md : Md} {vs : List V} {d : Env' → Res Fl} {H : Hp} {Q : VK} {E : XK} (hn : md.length ≤ N.length) (h : SpV C md (callFn N.length md d) vs H Q E) :
    ∃ F, tS (callG C F H md vs) d { nx := fun _ H' => Q .non H', rt := Q } (L2.start N vs) H := by
  obtain ⟨F, args, x, outs, l, tb, a, nd, e, k⟩ := h
  obtain ⟨l1, l2⟩ := a.len
  refine ⟨F, F, _, Stt.entry l tb a nd hn, ?_⟩
  unfold callFn at e
  cases q : d (VL.entry N.length md args) with
  | bad => rw [q] at e; cases e
  | err y e' => rw [q] at e; cases e
  | ok f e' =>
    rw [q] at e
    cases f with
    | bk => cases e
    | ct => cases e
    | nx =>
      dsimp only at e
      split at e
      · rename_i outs' ho
        cases e
        exact fun F' H' σ' x1 S => call_end (x := .fz .non) (v := .non) l2 S (by show R _ _ _ _; unfold R; rfl) (fun i z => by cases z) ho k
      · cases e
    | rt y =>
      cases y with
      | bor i => cases e
      | fz p =>
        dsimp only at e
        split at e
        · rename_i outs' ho
          cases e
          exact fun F' H' σ' v x1 S rv => call_end l2 S rv (fun i z => by cases z) ho k
        · cases e
      | new p =>
        dsimp only at e
        split at e
        · rename_i outs' ho
          cases e
          exact fun F' H' σ' v x1 S rv => call_end l2 S rv (fun i z => by cases z) ho k
        · cases e
theorem SpV.len {md : Md} {fn : List PV → FR} : ∀ vs H Q E, SpV C md fn vs H Q E → vs.length = md.length := fun vs H Q E ⟨F, args, x, outs, l, _, a, _⟩ => a.len.2
/-- THE RULE: a def by its body -/
theorem fnV {P : Program} {w : World} {K : PySem.W.Frag} {mg : Str → Option Value} {base : Heap} {x qual : Str} {params : Arguments} {body : List Stmt} {scope : Scope} {dvs : List V} {kws : List (Str × V)} {f : Addr} {fd : FuncData} {N ps : List Str} {md : Md} {k : Nat} {d : Env' → Res Fl}
    (Fd : FunD K x qual params body scope dvs kws f fd) (S : FnScope N ps scope) (hmd : md.length = ps.length) (hn : md.length ≤ N.length) (hK : C.K = K)
    (hb : ∀ (cdv : Value) (A : Around) (outer : List Env) (s : Shared) (H : Hp) (E : XK) (g : Gm), g.C = C → Room k (cxOf C8.CX0 P w K mg base N qual scope f cdv A outer s H E).nox.A → Ok (cxOf C8.CX0 P w K mg base N qual scope f cdv A outer s H E).nox g →
      PSs (cxOf C8.CX0 P w K mg base N qual scope f cdv A outer s H E).nox body (tS g d)) : FnOk P w K mg base C8.CX0 (k + 1) f fd ps (SpV C md (callFn N.length md d)) := by
  refine Fd.ok S (fun vs H Q E h => by rw [SpV.len vs H Q E h, hmd]) fun cdv A outer s H vs Q E hr h => ?_
  obtain ⟨F, q⟩ := body_ok (E := E) hn h
  exact ⟨_, PSs.nox (hb cdv A outer s H E (callG C F H md vs) rfl hr ⟨hK, by have := hr.un; show A.units + 3 + 65 < cLine; have : (A.deeper (envOfC qual scope s.heap.objs.size f cdv)).units = A.units + 3 := rfl; omega, rfl⟩), q⟩
end

/-! ### the caller -/
def prep : Md → List Val → Env' → Res (List PV)
  | false :: ms, x :: xs, e => (frz x e).bind fun p e1 => (prep ms xs e1).bind fun ps e2 => .ok (p :: ps) e2
  | true :: ms, .bor i :: xs, e => (prep ms xs e).bind fun ps e2 => match e2[i]? with
    | some (.ow _ p) => .ok (p :: ps) e2
    | _ => .bad
  | [], [], e => .ok [] e
  | _, _, _ => .bad
/-- the lent slots -/
def lentI : Md → List Val → List Nat
  | true :: ms, .bor i :: xs => i :: lentI ms xs
  | _ :: ms, _ :: xs => lentI ms xs
  | _, _ => []
def putOuts : List Nat → List PV → Env' → Option Env'
  | [], [], e => some e
  | i :: is, q :: qs, e => match e[i]? with
    | some (.ow b _) => putOuts is qs (e.set i (.ow b q))
    | _ => none
  | _, _, _ => none
def callK (md : Md) (fn : List PV → FR) (xs : List Val) (e : Env') : Res Val := (prep md xs e).bind fun ps e2 => if (lentI md xs).Nodup then match fn ps with
  | .ok (.fz p) outs => (match putOuts (lentI md xs) outs e2 with
    | some e3 => .ok (.fz p) e3
    | none => .bad)
  | .ok (.new p) outs => (match putOuts (lentI md xs) outs e2 with
    | some e3 => .ok (.new p) e3
    | none => .bad)
  | _ => .bad else .bad
def dFn (md : Md) (fn : List PV → FR) (dps : List PV) (ds : List (Env' → Res Val)) : Env' → Res Val := fun e => (dArgs ds e).bind fun xs e1 => callK md fn (xs ++ dps.map Val.fz) e1
section
variable {X : Cx} {g : Gm} {pins : List (Addr × Obj)} {F H F' H' : Hp} {σ : St} {env env' : Env'} {s : Shared}
theorem prep_noerr : ∀ {md : Md} {xs : List Val} {env : Env'} {y : Exc'} {e : Env'}, prep md xs env ≠ .err y e
  | [], [], env, y, e, h => by unfold prep at h; cases h
  | [], x :: xs, env, y, e, h => by unfold prep at h; cases h
  | false :: ms, [], env, y, e, h => by unfold prep at h; cases h
  | true :: ms, [], env, y, e, h => by unfold prep at h; cases h
  | false :: ms, x :: xs, env, y, e, h => by
    unfold prep at h
    cases q : frz x env with
    | bad => rw [q] at h; cases h
    | err z e' => exact frz_noerr q
    | ok p e1 =>
      rw [q] at h
      cases q2 : prep ms xs e1 with
      | bad => simp only [Res.bind, q2] at h; cases h
      | err z e' => exact prep_noerr q2
      | ok ps e2 => simp only [Res.bind, q2] at h; cases h
  | true :: ms, .fz p :: xs, env, y, e, h => by unfold prep at h; cases h
  | true :: ms, .new p :: xs, env, y, e, h => by unfold prep at h; cases h
  | true :: ms, .bor i :: xs, env, y, e, h => by
    unfold prep at h
    cases q2 : prep ms xs env with
    | bad => rw [q2] at h; cases h
    | err z e' => exact prep_noerr q2
    | ok ps e2 =>
      rw [q2] at h
      simp only [Res.bind] at h
      split at h <;> cases h
/-- the arguments handed over -/
theorem prep_ok : ∀ {md : Md} {xs : List Val} {vs : List V} {F H : Hp} {env : Env'} {ps : List PV} {env' : Env'}, AllOld xs → Stt g F H σ env → RVs g F H σ env xs vs → prep md xs env = .ok ps env' →
    ∃ F', Ex F F' ∧ Stt g F' H σ env' ∧ ArgsOk g.C F' H md ps vs ∧ lentV md vs = (lentI md xs).map (fun i => match σ[i]? with | some (some v) => v | _ => .non) ∧ ∀ i ∈ lentI md xs, isOw i env' = true
  | [], [], vs, F, H, env, ps, env', o, S, r, h => by
    unfold prep at h; cases h
    cases (show vs = [] from r)
    exact ⟨F, Ex.refl F, S, ⟨rfl, rfl⟩, rfl, fun i hi => by cases hi⟩
  | [], x :: xs, vs, F, H, env, ps, env', o, S, r, h => by unfold prep at h; cases h
  | false :: ms, [], vs, F, H, env, ps, env', o, S, r, h => by unfold prep at h; cases h
  | true :: ms, [], vs, F, H, env, ps, env', o, S, r, h => by unfold prep at h; cases h
  | false :: ms, x :: xs, vs, F, H, env, ps, env', o, S, r, h => by
    unfold prep at h
    obtain ⟨v, t, rfl, r1, r2⟩ := r
    cases q : frz x env with
    | bad => rw [q] at h; cases h
    | err z e' => exact (frz_noerr q).elim
    | ok p e1 =>
      rw [q] at h
      cases q2 : prep ms xs e1 with
      | bad => simp only [Res.bind, q2] at h; cases h
      | err z e' => exact (prep_noerr q2).elim
      | ok ps' e2 =>
        simp only [Res.bind, q2] at h
        cases h
        obtain ⟨F1, x1, S1, rp⟩ := frz_ok S r1 q
        obtain ⟨F2, x2, S2, a, hl, hw⟩ := prep_ok o.2 S1 (RVs.later o.2 r2 x1) q2
        have hli : lentI (false :: ms) (x :: xs) = lentI ms xs := by cases x <;> rfl
        refine ⟨F2, x1.trans x2, S2, ⟨p, ps', v, t, rfl, rfl, ?_, a⟩, ?_, ?_⟩
        · rw [if_neg Bool.false_ne_true]; exact rp.mono x2.le
        · rw [hli]; unfold lentV; rw [if_neg Bool.false_ne_true]; exact hl
        · rw [hli]; exact hw
  | true :: ms, .fz p :: xs, vs, F, H, env, ps, env', o, S, r, h => by unfold prep at h; cases h
  | true :: ms, .new p :: xs, vs, F, H, env, ps, env', o, S, r, h => by unfold prep at h; cases h
  | true :: ms, .bor i :: xs, vs, F, H, env, ps, env', o, S, r, h => by
    unfold prep at h
    obtain ⟨v, t, rfl, r1, r2⟩ := r
    cases q2 : prep ms xs env with
    | bad => rw [q2] at h; cases h
    | err z e' => exact (prep_noerr q2).elim
    | ok ps' e2 =>
      rw [q2] at h
      simp only [Res.bind] at h
      split at h
      · rename_i b p hi
        cases h
        obtain ⟨F2, x2, S2, a, hl, hw⟩ := prep_ok o.2 S r2 q2
        obtain ⟨ad, e1, e2, e3, _⟩ := S2.ow i b p hi
        have r1 : σ[i]? = some (some v) := r1
        rw [r1] at e1; cases e1
        refine ⟨F2, x2, S2, ⟨p, ps', _, t, rfl, rfl, ?_, a⟩, ?_, fun j hj => ?_⟩
        · rw [if_pos rfl]; exact ⟨ad, rfl, e2, e3⟩
        · unfold lentV lentI
          rw [if_pos rfl, List.map_cons, r1, hl]
        · rcases List.mem_cons.mp hj with z | z
          · subst z; unfold isOw; rw [hi]
          · exact hw j z
      · cases h
theorem putOuts_at : ∀ {is : List Nat} {qs : List PV} {e e' : Env'}, putOuts is qs e = some e' → e'.length = e.length ∧ ∀ (j : Nat) (x : Sl), e'[j]? = some x → (j ∉ is ∧ e[j]? = some x) ∨ (j ∈ is ∧ ∃ b p q, e[j]? = some (.ow b p) ∧ x = .ow b q)
  | [], [], e, e', h => by
    unfold putOuts at h; cases h
    exact ⟨rfl, fun j x hx => .inl ⟨by simp, hx⟩⟩
  | [], q :: qs, e, e', h => by unfold putOuts at h; cases h
  | i :: is, [], e, e', h => by unfold putOuts at h; cases h
  | i :: is, q :: qs, e, e', h => by
    unfold putOuts at h
    split at h
    · rename_i b p hi
      obtain ⟨h1, h2⟩ := putOuts_at h
      refine ⟨by rw [h1]; simp, fun j x hx => ?_⟩
      rcases h2 j x hx with ⟨n, z⟩ | ⟨m, b', p', q', z, e2⟩
      · rcases getElem?_set_cases z with ⟨e1, e2, _⟩ | ⟨ne, z'⟩
        · subst e1
          exact .inr ⟨List.mem_cons_self .., b, p, q, hi, e2.symm⟩
        · refine .inl ⟨fun z2 => ?_, z'⟩
          rcases List.mem_cons.mp z2 with z3 | z3
          · exact ne z3.symm
          · exact n z3
      · rcases getElem?_set_cases z with ⟨e1, e3, _⟩ | ⟨ne, z'⟩
        · subst e1
          cases e3
          exact .inr ⟨List.mem_cons_self .., b, p, q', hi, e2⟩
        · exact .inr ⟨List.mem_cons_of_mem _ m, b', p', q', z', e2⟩
    · cases h
def vAt (σ : St) (i : Nat) : V := match σ[i]? with | some (some v) => v | _ => .non
theorem putOuts_r1 {C : Ct} : ∀ {is : List Nat} {qs : List PV} {e e' : Env'}, is.Nodup → putOuts is qs e = some e' → OutsOk C F' H' (is.map (vAt σ)) qs → ∀ j ∈ is, ∃ b p q a, e[j]? = some (.ow b p) ∧ e'[j]? = some (.ow b q) ∧ vAt σ j = .ref a ∧ R1 C F' H' q a ∧ F' a = none
  | [], qs, e, e', nd, h, o, j, hj => by cases hj
  | i :: is, [], e, e', nd, h, o, j, hj => by unfold putOuts at h; cases h
  | i :: is, q :: qs, e, e', nd, h, o, j, hj => by
    unfold putOuts at h
    obtain ⟨hn, nd'⟩ := List.nodup_cons.mp nd
    split at h
    · rename_i b p hi
      obtain ⟨q', qr, a, e1, e2, e3, e4, o'⟩ := o
      cases e1
      by_cases hji : j = i
      · subst hji
        obtain ⟨hl, hat⟩ := putOuts_at h
        have hlt : j < e.length := (List.getElem?_eq_some_iff.mp hi).1
        have hs : (e.set j (.ow b q))[j]? = some (.ow b q) := List.getElem?_set_self hlt
        have : e'[j]? = some (.ow b q) := by
          cases z : e'[j]? with
          | none =>
            rw [List.getElem?_eq_none_iff, hl] at z
            simp at z; omega
          | some y =>
            rcases hat j y z with ⟨_, w⟩ | ⟨w, _⟩
            · rw [hs] at w; exact w.symm
            · exact (hn w).elim
        exact ⟨b, p, q, a, hi, this, e2, e3, e4⟩
      · have hj' : j ∈ is := by
          rcases List.mem_cons.mp hj with z | z
          · exact absurd z hji
          · exact z
        obtain ⟨b', p', q', a', z1, z2, z3⟩ := putOuts_r1 nd' h o' j hj'
        rw [List.getElem?_set_ne (Ne.symm hji)] at z1
        exact ⟨b', p', q', a', z1, z2, z3⟩
    · cases h
/-- the state behind a call -/
theorem Stt.after {is : List Nat} {outs : List PV} {e3 : Env'} (S : Stt g F H σ env) (hw : ∀ i ∈ is, isOw i env = true) (nd : is.Nodup) (x1 : Ex F F') (fr : ∀ b o, F' b = some o → F b = some o ∨ H b = none) (l : Le F' H') (tb : LamX.Tabs g.C.T H')
    (keep : ∀ b o, H b = some o → V.ref b ∉ is.map (vAt σ) → Kpt o (H' b)) (oo : OutsOk g.C F' H' (is.map (vAt σ)) outs) (hp : putOuts is outs env = some e3) : Stt g F' H' σ e3 := by
  obtain ⟨hl, hat⟩ := putOuts_at hp
  have own : ∀ i ∈ is, ∃ b p a, env[i]? = some (.ow b p) ∧ σ[i]? = some (some (.ref a)) ∧ vAt σ i = .ref a ∧ (if b = true then g.H0 a = none else g.P i = some a) := fun i hi => by
    obtain ⟨b, q, a, e1, e2, e3⟩ := isOw_at S (hw i hi)
    obtain ⟨a', f1, f2, f3, f4⟩ := S.ow i b q e1
    rw [e2] at f1; cases f1
    exact ⟨b, q, a, e1, e2, by unfold vAt; rw [e2], f4⟩
  have notl : ∀ {b : Addr} {o : HO}, g.H0 b = some o → ¬ g.O b → V.ref b ∉ is.map (vAt σ) := fun {b o} q n z => by
    obtain ⟨i, hi, e⟩ := List.mem_map.mp z
    obtain ⟨f, p, a, e1, e2, e3, e4⟩ := own i hi
    rw [e3] at e; cases e
    cases f with
    | true => rw [if_pos rfl, q] at e4; cases e4
    | false => rw [if_neg Bool.false_ne_true] at e4; exact n ⟨i, e4⟩
  have r1 := putOuts_r1 (C := g.C) nd hp oo
  refine ⟨by rw [hl]; exact S.len, fun b o q n => (S.frame b o q n).trans fun o' q' => keep b o' q' (notl q n), fun b hb => ?_, S.ext.trans x1, fun b o q => ?_, l, fun i p q => ?_, fun i b p q => ?_, fun i j b c p q a hi hj e1 e2 => ?_, tb⟩
  · obtain ⟨o, q⟩ := S.live b hb
    by_cases z : V.ref b ∈ is.map (vAt σ)
    · obtain ⟨i, hi, e⟩ := List.mem_map.mp z
      obtain ⟨f, p, q', a, e1, e2, e3, e4, e5⟩ := r1 i hi
      rw [e3] at e; cases e
      exact e4.cell
    · exact (keep b o q z).some
  · rcases fr b o q with z | z
    · exact S.fresh b o z
    · exact .inr (S.sub_new z)
  · rcases hat i _ q with ⟨_, z⟩ | ⟨_, b, p', q', _, z⟩
    · obtain ⟨v, h1, h2⟩ := S.fz i p z
      exact ⟨v, h1, h2.mono x1.le⟩
    · cases z
  · rcases hat i _ q with ⟨ni, z⟩ | ⟨mi, b', p', q', z, z2⟩
    · obtain ⟨a, h1, h2, h3, h4⟩ := S.ow i b p z
      obtain ⟨o, ho⟩ := h2.cell
      have hn : V.ref a ∉ is.map (vAt σ) := fun w => by
        obtain ⟨j, hj, e⟩ := List.mem_map.mp w
        obtain ⟨f, p2, a2, e1, e2, e3, e4⟩ := own j hj
        rw [e3] at e; cases e
        have := S.inj i j _ _ _ _ a z e1 h1 e2
        exact ni (this ▸ hj)
      refine ⟨a, h1, h2.mono x1.le (((keep a o ho hn).eq (h2.pln ho).1).trans ho.symm), ?_, h4⟩
      cases w : F' a with
      | none => rfl
      | some o' =>
        rcases fr a o' w with z | z
        · rw [h3] at z; cases z
        · rw [ho] at z; cases z
    · cases z2
      obtain ⟨f, p2, q2, a2, e1, e2, e3, e4, e5⟩ := r1 i mi
      rw [q] at e2; cases e2
      obtain ⟨f', p3, a3, g1, g2, g3, g4⟩ := own i mi
      rw [e3] at g3; cases g3
      rw [e1] at g1; cases g1
      rw [z] at e1; cases e1
      exact ⟨_, g2, e4, e5, g4⟩
  · have back : ∀ {i : Nat} {b : Bool} {p : PV}, e3[i]? = some (.ow b p) → ∃ b p, env[i]? = some (.ow b p) := fun {i b p} h => by
      rcases hat i _ h with ⟨_, z⟩ | ⟨_, b, p', q', z, _⟩
      · exact ⟨_, _, z⟩
      · exact ⟨_, _, z⟩
    obtain ⟨_, _, h1⟩ := back hi
    obtain ⟨_, _, h2⟩ := back hj
    exact S.inj i j _ _ _ _ a h1 h2 e1 e2
theorem nodup_map {α β : Type} {f : α → β} : ∀ {l : List α}, (∀ i ∈ l, ∀ j ∈ l, f i = f j → i = j) → l.Nodup → (l.map f).Nodup
  | [], _, _ => List.nodup_nil
  | x :: l, h, nd => by
    obtain ⟨n1, n2⟩ := List.nodup_cons.mp nd
    rw [List.map_cons, List.nodup_cons]
    refine ⟨fun z => ?_, nodup_map (fun i hi j hj => h i (List.mem_cons_of_mem _ hi) j (List.mem_cons_of_mem _ hj)) n2⟩
    obtain ⟨y, hy, e⟩ := List.mem_map.mp z
    have := h y (List.mem_cons_of_mem _ hy) x (List.mem_cons_self ..) e
    exact n1 (this ▸ hy)
/-- a call, from the caller's state -/
theorem call_go {md : Md} {fn : List PV → FR} {xs : List Val} {vs : List V} {Q : VK} (o : AllOld xs) (S : Stt g F H σ env) (r : RVs g F H σ env xs vs) (go : Go g F σ (callK md fn xs env) fun x env' F' H' => ∀ v, RV g F' H' σ env' x v → Q v H') (E : XK) : SpV g.C md fn vs H Q E := by
  unfold callK at go
  cases hp : prep md xs env with
  | bad => rw [hp] at go; exact go.elim
  | err y e => exact (prep_noerr hp).elim
  | ok ps ee =>
    rw [hp] at go
    have go : Go g F σ (if (lentI md xs).Nodup then _ else _) _ := go
    split at go
    · rename_i nd
      obtain ⟨F1, x1, S1, a, hl, hw⟩ := prep_ok o S r hp
      have hl : lentV md vs = (lentI md xs).map (vAt σ) := hl
      have ndv : (lentV md vs).Nodup := by
        rw [hl]
        refine nodup_map (fun i hi j hj e => ?_) nd
        obtain ⟨b, q, ad, e1, e2, _⟩ := isOw_at S1 (hw i hi)
        obtain ⟨b', q', ad', f1, f2, _⟩ := isOw_at S1 (hw j hj)
        have h1 : vAt σ i = .ref ad := by unfold vAt; rw [e2]
        have h2 : vAt σ j = .ref ad' := by unfold vAt; rw [f2]
        rw [h1, h2] at e
        cases e
        exact S1.inj i j _ _ _ _ ad e1 f1 e2 f2
      cases hf : fn ps with
      | bad => rw [hf] at go; exact go.elim
      | ok x outs =>
        rw [hf] at go
        refine ⟨F1, ps, x, outs, S1.sub, S1.tab, a, ndv, hf, fun F' H' v x2 fr l tb keep oo rv => ?_⟩
        rw [hl] at keep oo
        cases x with
        | bor i => exact go.elim
        | fz p =>
          dsimp only at go
          split at go
          · rename_i e3 hp3
            exact go F' H' (x1.trans x2) (S1.after hw nd x2 fr l tb keep oo hp3) v rv
          · exact go.elim
        | new p =>
          dsimp only at go
          split at go
          · rename_i e3 hp3
            have S3 := S1.after hw nd x2 fr l tb keep oo hp3
            refine go F' H' (x1.trans x2) S3 v ?_
            obtain ⟨ad, e1, e2, e3', e4⟩ := rv
            refine ⟨ad, e1, e2, e3', S1.sub_new e4, fun i b q hi hv => ?_⟩
            have hb : ∃ b p, ee[i]? = some (.ow b p) := by
              obtain ⟨_, hat⟩ := putOuts_at hp3
              rcases hat i _ hi with ⟨_, z⟩ | ⟨_, b, p', q', z, _⟩
              · exact ⟨_, _, z⟩
              · exact ⟨_, _, z⟩
            obtain ⟨b', p', hb⟩ := hb
            obtain ⟨a2, f1, f2, _⟩ := S1.ow i b' p' hb
            rw [hv] at f1; cases f1
            obtain ⟨o', ho'⟩ := f2.cell
            rw [e4] at ho'; cases ho'
          · exact go.elim
    · exact go.elim
section
variable {k j : Nat} {x m : Str} {md : Md} {fn : List PV → FR} {dvs : List V} {dps : List PV} {p pos apos : Pos} {e o : Expr} {es : List Expr} {ds : List (Env' → Res Val)}
theorem dps_rvs : ∀ {dps : List PV} {dvs : List V}, (∀ F, Rs g.C F dps dvs) → RVs g F H σ env (dps.map Val.fz) dvs
  | [], dvs, h => (h F).nil_inv
  | d :: dps, dvs, h => by
    obtain ⟨v, r, rfl, _, _⟩ := (h F).cons_inv
    refine ⟨v, r, rfl, ?_, dps_rvs fun F => ?_⟩
    · obtain ⟨v', r', e, h1, _⟩ := (h F).cons_inv
      cases e; exact h1
    · obtain ⟨v', r', e, _, h2⟩ := (h F).cons_inv
      cases e; exact h2
theorem RVs.append : ∀ {xs ys : List Val} {vs ws : List V}, RVs g F H σ env xs vs → RVs g F H σ env ys ws → RVs g F H σ env (xs ++ ys) (vs ++ ws)
  | [], ys, vs, ws, h, t => by
    cases (show vs = [] from h); exact t
  | x :: xs, ys, vs, ws, h, t => by
    obtain ⟨v, r, rfl, h1, h2⟩ := h
    exact ⟨v, r ++ ws, rfl, h1, RVs.append h2 t⟩
theorem AllOld.append : ∀ {xs ys : List Val}, AllOld xs → AllOld ys → AllOld (xs ++ ys)
  | [], ys, _, t => t
  | x :: xs, ys, h, t => ⟨h.1, AllOld.append h.2 t⟩
theorem dps_old : ∀ {dps : List PV}, AllOld (dps.map Val.fz)
  | [] => trivial
  | d :: dps => ⟨trivial, dps_old⟩
/-- f(e, ..) -/
theorem se_fn (c : C8.Cal X.prog X.w X.K X.mg X.base k x (SpV g.C md fn) dvs) (hr : Room j X.A) (hk : k ≤ j) (hg : Gl X x) (hd : ∀ F, Rs g.C F dps dvs) (ha : PA X (e :: es) (tAs g (dArgs ds)))
    (hdb : (x == ("__debug__" : Str)) = false) (he : starEach (e :: es) X.env = (false, eval e X.env) :: starEach es X.env) (hpl : (backTo pos (starEach es X.env)).any (·.1) = false) :
    PE X (.Call (.Name x p) (e :: es) [] pos) (tE g (dFn md fn dps ds)) :=
  peImp (C8.pe_c c hr hk hg ha hdb he hpl) fun σ H Q ⟨F, env, S, go⟩ => ⟨F, env, S, (Go.bind go).mono fun xs e1 F1 H1 x1 S1 k vs o r =>
    call_go (AllOld.append o dps_old) S1 (RVs.append r (dps_rvs hd)) k C8.E0⟩
theorem se_fn0 (c : C8.Cal X.prog X.w X.K X.mg X.base k x (SpV g.C md fn) dvs) (hr : Room j X.A) (hk : k ≤ j) (hg : Gl X x) (hd : ∀ F, Rs g.C F dps dvs)
    (hdb : (x == ("__debug__" : Str)) = false) : PE X (.Call (.Name x p) [] [] pos) (tE g (dFn md fn dps [])) := by
  obtain ⟨f, fd, ps, ds, F, hm, kp, b, d⟩ := c.ex
  exact peImp (pe_call0 (E := C8.E0) F (hr.mono hk) hg hm kp b d C8.pass0 hdb) fun σ H Q ⟨F, env, S, go⟩ => by
    have := go
    unfold dFn dArgs at go
    exact call_go (vs := dvs) dps_old S (dps_rvs hd) (by simpa [Res.bind] using go) C8.E0
theorem Go.withEq {α : Type} {r : Res α} {K : α → Env' → Hp → Hp → Prop} (h : Go g F σ r K) : Go g F σ r fun x e F' H' => r = .ok x e ∧ K x e F' H' := by
  cases r with
  | bad => exact h
  | err y e => exact h
  | ok x e => exact fun F' H' a b => ⟨rfl, h F' H' a b⟩
theorem stl_ok {d : Env' → Res Val} {x : Val} {e : Env'} (h : stl d env = .ok x e) : x.old := by
  unfold stl at h
  cases q : d env with
  | bad => rw [q] at h; cases h
  | err y e => rw [q] at h; cases h
  | ok y e =>
    rw [q] at h
    cases h
    exact Val.stl_old y
/-- o.m(e, ..), o of the own class c -/
def insAt (c : Nat) (n : Nat) (x : Val) (e : Env') : Bool := match peek x e with
  | some (.ins c' vs) => decide (c' = c)
  | _ => false
def dMt (c : Nat) (md : Md) (fn : List PV → FR) (dps : List PV) (da : Env' → Res Val) (ds : List (Env' → Res Val)) : Env' → Res Val := fun e => (stl da e).bind fun x e1 => if insAt c 0 x e1 = true then (dArgs ds e1).bind fun xs e2 => callK md fn (x :: (xs ++ dps.map Val.fz)) e2 else .bad
theorem insAt_is {c : Nat} {x : Val} {v : V} (S : Stt g F H σ env) (r : RV g F H σ env x v) (h : insAt c 0 x env = true) : ∃ a dx fs vs, v = .ref a ∧ H a = some (.ins (g.C.ad c) dx fs) ∧ fs.map Prod.fst = (g.C.fl c).take vs := by
  unfold insAt at h
  cases e : peek x env with
  | none => rw [e] at h; cases h
  | some p =>
    rw [e] at h
    cases p with
    | ins c' vs =>
      have hc : c' = c := of_decide_eq_true h
      subst hc
      obtain ⟨a, dx, fs, h1, h2, h3, _⟩ := peek_ok S r e
      exact ⟨a, dx, fs, vs.length, h1, h2, h3⟩
    | _ => cases h
theorem no_lookup {fs : List (Str × V)} {m : Str} {l : List Str} {n : Nat} (h : fs.map Prod.fst = l.take n) (hm : m ∉ l) : fs.lookup m = none := by
  rw [List.lookup_eq_none_iff]
  intro y hy
  have : y.1 ∈ fs.map Prod.fst := List.mem_map_of_mem hy
  rw [h] at this
  have := List.mem_of_mem_take this
  simp
  exact fun z => hm (z ▸ this)
/-- o.m(e, ..), o of the own class c -/
theorem se_mt {pl : Sem Bool} {c : Nat} (cm : C8.Met X.prog X.w X.K X.mg X.base k (g.C.ad c) m (SpV g.C md fn) dvs) (hr : Room j X.A) (hk : k ≤ j) (hd : ∀ F, Rs g.C F dps dvs) (hmf : m ∉ g.C.fl c) (ho : PE X o (tE g da)) (ha : PA X (e :: es) (tAs g (dArgs ds)))
    (hst : starEach (e :: es) X.env = (false, eval e X.env) :: starEach es X.env) (hpl : (backTo pos (starEach es X.env)).any (·.1) = false)
    (ht : eval (.Call (.Attribute o m apos) (e :: es) [] pos) X.env = (do
      let ov ← eval o X.env
      standAt apos.atName
      let (f, first) ← holding [ov] (getMethod ov m pl)
      callWith pos f first (backTo pos (starEach (e :: es) X.env)) (backToKw pos (keywordEach [] X.env)))) :
    PE X (.Call (.Attribute o m apos) (e :: es) [] pos) (tE g (dMt c md fn dps da ds)) := by
  refine peImp (C8.pe_mt (pl := pl) cm hr hk (peStl ho) ha hst hpl ht) fun σ H Q ⟨F, env, S, go⟩ => ⟨F, env, S, (Go.withEq (Go.bind go)).mono fun x e1 F1 H1 x1 S1 k v r => ?_⟩
  obtain ⟨hxo, k⟩ := k
  have hxo := stl_ok hxo
  split at k
  · rename_i hi
    obtain ⟨a, dx, fs, n, rfl, h2, h3⟩ := insAt_is S1 r hi
    refine ⟨a, dx, fs, rfl, h2, no_lookup h3 hmf, F1, e1, S1, (Go.bind k).mono fun xs e2 F2 H2 x2 S2 k2 vs o2 r2 => ?_⟩
    exact call_go (xs := x :: (xs ++ dps.map Val.fz)) (vs := .ref a :: (vs ++ dvs)) ⟨hxo, AllOld.append o2 dps_old⟩ S2 ⟨_, _, rfl, r.later hxo x2, RVs.append r2 (dps_rvs hd)⟩ k2 C8.E0
  · exact k.elim
theorem se_mt0 {pl : Sem Bool} {c : Nat} (cm : C8.Met X.prog X.w X.K X.mg X.base k (g.C.ad c) m (SpV g.C md fn) dvs) (hr : Room j X.A) (hk : k ≤ j) (hd : ∀ F, Rs g.C F dps dvs) (hmf : m ∉ g.C.fl c) (ho : PE X o (tE g da))
    (ht : eval (.Call (.Attribute o m apos) [] [] pos) X.env = (do
      let ov ← eval o X.env
      standAt apos.atName
      let (f, first) ← holding [ov] (getMethod ov m pl)
      callWith pos f first (backTo pos (starEach [] X.env)) (backToKw pos (keywordEach [] X.env)))) :
    PE X (.Call (.Attribute o m apos) [] [] pos) (tE g (dMt c md fn dps da [])) := by
  refine peImp (C8.pe_mt0 (pl := pl) cm hr hk (peStl ho) ht) fun σ H Q ⟨F, env, S, go⟩ => ⟨F, env, S, (Go.withEq (Go.bind go)).mono fun x e1 F1 H1 x1 S1 k v r => ?_⟩
  obtain ⟨hxo, k⟩ := k
  have hxo := stl_ok hxo
  split at k
  · rename_i hi
    obtain ⟨a, dx, fs, n, rfl, h2, h3⟩ := insAt_is S1 r hi
    refine ⟨a, dx, fs, rfl, h2, no_lookup h3 hmf, ?_⟩
    exact call_go (xs := x :: ([] ++ dps.map Val.fz)) (vs := .ref a :: ([] ++ dvs)) ⟨hxo, dps_old⟩ S1 ⟨_, _, rfl, r, dps_rvs hd⟩ k C8.E0
  · exact k.elim
/-! ### a class made -/
def mkK (c : Nat) (md : Md) (fn : List PV → FR) (xs : List Val) (e : Env') : Res Val := (prep md xs e).bind fun ps e2 => if (lentI md xs).Nodup then match fn (.ins c [] :: ps) with
  | .ok (.fz .non) (q :: outs) => (match putOuts (lentI md xs) outs e2 with
    | some e3 => .ok (.new q) e3
    | none => .bad)
  | _ => .bad else .bad
/-- md: of what is written (self is lent) -/
def dMk (c : Nat) (md : Md) (fn : List PV → FR) (dps : List PV) (ds : List (Env' → Res Val)) : Env' → Res Val := fun e => (dArgs ds e).bind fun xs e1 => mkK c md fn (xs ++ dps.map Val.fz) e1
theorem ArgsOk.grow {C : Ct} {F H H' : Hp} (e : Ex H H') : ∀ {md : Md} {ps : List PV} {vs : List V}, ArgsOk C F H md ps vs → ArgsOk C F H' md ps vs
  | [], ps, vs, h => h
  | m :: ms, ps, vs, h => by
    obtain ⟨p, pr, v, vr, h1, h2, hm, h⟩ := h
    refine ⟨p, pr, v, vr, h1, h2, ?_, ArgsOk.grow e h⟩
    split
    · rename_i hh
      rw [if_pos hh] at hm
      obtain ⟨a, e1, e2, e3⟩ := hm
      obtain ⟨o, ho⟩ := e2.cell
      exact ⟨a, e1, e2.mono (Ex.refl F).le ((e a o ho).trans ho.symm), e3⟩
    · rename_i hh
      rw [if_neg hh] at hm
      exact hm
theorem make_go {c : Nat} {xs : List Val} {vs : List V} {Q : VK} (o : AllOld xs) (S : Stt g F H σ env) (r : RVs g F H σ env xs vs) (go : Go g F σ (mkK c md fn xs env) fun x env' F' H' => ∀ v, RV g F' H' σ env' x v → Q v H') (E : XK)
    {x dx : Addr} (hx : H x = none) (hdx : H dx = none) (hne : dx ≠ x) : SpV g.C (true :: md) fn (.ref x :: vs) (upd (upd H dx (.own x)) x (.ins (g.C.ad c) dx [])) (fun v H2 => v = .non ∧ Q (.ref x) H2) E := by
  have ex : Ex H (upd (upd H dx (.own x)) x (.ins (g.C.ad c) dx [])) := (Ex.new hdx).trans (Ex.new (by rw [upd_ne (Ne.symm hne)]; exact hx))
  unfold mkK at go
  cases hp : prep md xs env with
  | bad => rw [hp] at go; exact go.elim
  | err y e => exact (prep_noerr hp).elim
  | ok ps ee =>
    rw [hp] at go
    have go : Go g F σ (if (lentI md xs).Nodup then _ else _) _ := go
    split at go
    · rename_i nd
      obtain ⟨F1, x1, S1, a, hl, hw⟩ := prep_ok o S r hp
      have hl : lentV md vs = (lentI md xs).map (vAt σ) := hl
      have cellOf : ∀ i ∈ lentI md xs, ∃ ad, vAt σ i = .ref ad ∧ ∃ o, H ad = some o := fun i hi => by
        obtain ⟨b, q, ad, e1, e2, e3⟩ := isOw_at S1 (hw i hi)
        exact ⟨ad, by unfold vAt; rw [e2], e3.cell⟩
      have ndv : (lentV md vs).Nodup := by
        rw [hl]
        refine nodup_map (fun i hi j hj e => ?_) nd
        obtain ⟨b, q, ad, e1, e2, _⟩ := isOw_at S1 (hw i hi)
        obtain ⟨b', q', ad', f1, f2, _⟩ := isOw_at S1 (hw j hj)
        have h1 : vAt σ i = .ref ad := by unfold vAt; rw [e2]
        have h2 : vAt σ j = .ref ad' := by unfold vAt; rw [f2]
        rw [h1, h2] at e
        cases e
        exact S1.inj i j _ _ _ _ ad e1 f1 e2 f2
      have nx : V.ref x ∉ lentV md vs := fun z => by
        rw [hl] at z
        obtain ⟨i, hi, e⟩ := List.mem_map.mp z
        obtain ⟨ad, e1, o', e2⟩ := cellOf i hi
        rw [e1] at e; cases e
        rw [hx] at e2; cases e2
      obtain ⟨n1, n2, n3⟩ := S1.new0 hx
      have S2 := S1.grow ex
      split at go
      · rename_i q outs hf
        split at go
        · rename_i e3 hp3
          have hlv : lentV (true :: md) (.ref x :: vs) = .ref x :: lentV md vs := rfl
          refine ⟨F1, .ins c [] :: ps, .fz .non, q :: outs, S2.sub, S2.tab, ⟨_, _, _, _, rfl, rfl, ?_, a.grow ex⟩, by rw [hlv]; exact List.nodup_cons.mpr ⟨nx, ndv⟩, hf, fun F' H' v x2 fr l tb keep oo rv => ?_⟩
          · rw [if_pos rfl]
            exact ⟨x, rfl, by simp only [R1]; exact ⟨dx, [], upd_same, rfl, Rs.nil⟩, n1⟩
          · rw [hlv] at keep oo
            obtain ⟨q', qr, ad, e1, e2, e3, e4, oo⟩ := oo
            cases e1; cases e2
            have hH : ∀ b, (upd (upd H dx (.own x)) x (.ins (g.C.ad c) dx [])) b = none → H b = none := fun b hb => by
              cases z : H b with
              | none => rfl
              | some o => rw [ex b o z] at hb; cases hb
            rw [hl] at oo keep
            have S3 := S1.after (F' := F') (H' := H') hw nd x2 (fun b o z => (fr b o z).imp id (hH b)) l tb (fun b o z n => keep b o (ex b o z) (fun w => by
              rcases List.mem_cons.mp w with w | w
              · cases w; rw [hx] at z; cases z
              · exact n w)) oo hp3
            have rv : v = .non := by
              have rv : R g.C F' .non v := rv
              unfold R at rv; exact rv
            refine ⟨rv, go F' H' (x1.trans x2) S3 _ ⟨x, rfl, e3, e4, S1.sub_new hx, fun i b q hi hv => ?_⟩⟩
            have hb : ∃ b p, ee[i]? = some (.ow b p) := by
              obtain ⟨_, hat⟩ := putOuts_at hp3
              rcases hat i _ hi with ⟨_, z⟩ | ⟨_, b, p', q', z, _⟩
              · exact ⟨_, _, z⟩
              · exact ⟨_, _, z⟩
            obtain ⟨b', p', hb⟩ := hb
            obtain ⟨a2, f1, f2, _⟩ := S1.ow i b' p' hb
            rw [hv] at f1; cases f1
            obtain ⟨o', ho'⟩ := f2.cell
            rw [hx] at ho'; cases ho'
        · exact go.elim
      · exact go.elim
    · exact go.elim
/-- C(e, ..) -/
theorem se_mk {c : Nat} (cm : C8.Mak X.prog X.w X.K X.mg X.base k x (g.C.ad c) (SpV g.C (true :: md) fn) dvs) (hr : Room j X.A) (hk : k + 1 ≤ j) (hg : Gl X x) (hd : ∀ F, Rs g.C F dps dvs) (ha : PA X (e :: es) (tAs g (dArgs ds)))
    (hdb : (x == ("__debug__" : Str)) = false) (he : starEach (e :: es) X.env = (false, eval e X.env) :: starEach es X.env) (hpl : (backTo pos (starEach es X.env)).any (·.1) = false) :
    PE X (.Call (.Name x p) (e :: es) [] pos) (tE g (dMk c md fn dps ds)) :=
  peImp (C8.pe_mk cm hr hk hg ha hdb he hpl) fun σ H Q ⟨F, env, S, go⟩ => ⟨F, env, S, (Go.bind go).mono fun xs e1 F1 H1 x1 S1 k vs o r x dx hx hdx hne =>
    make_go (AllOld.append o dps_old) S1 (RVs.append r (dps_rvs hd)) k C8.E0 hx hdx hne⟩
end
end
end VL

set_option maxRecDepth 100000
set_option maxHeartbeats 2000000
namespace VL
open PySem PySem.Spec L2
open PyProof.Rows hiding St
/-! ### an expression that only reads the lists of some slots -/
mutual
def noLst : PV → Bool
  | .lst _ => false
  | .scr _ => false
  | .tup xs => noLsts xs
  | .dK _ xs => noLsts xs
  | .dT _ xs => noLsts xs
  | .ins _ xs => noLsts xs
  | .exc _ _ => false
  | _ => true
def noLsts : List PV → Bool
  | [] => true
  | x :: xs => noLst x && noLsts xs
end
def noLst1 : PV → Bool
  | .lst xs => noLsts xs
  | p => noLst p
def hideS : Sl → Sl
  | .ow _ _ => .no
  | s => s
def roE : List Nat → Env' → Option Env'
  | [], e => some (e.map hideS)
  | i :: is, e => match e[i]?, roE is e with
    | some (.ow _ (.lst xs)), some e' => some (e'.set i (.fz (.lst xs)))
    | _, _ => none
def dRo (is : List Nat) (d : Env' → Res Val) : Env' → Res Val := fun e => match roE is e with
  | some e' => match d e' with
    | .ok (.fz p) _ => if noLst p = true then .ok (.fz p) e else .bad
    | .ok (.new p) _ => if noLst1 p = true then .ok (.new p) e else .bad
    | _ => .bad
  | none => .bad
/-- what is known, without some lists -/
def cutF (F : Hp) (as : Addr → Prop) [DecidablePred as] : Hp := fun b => if as b then none else F b
section
variable {C : Ct} {F : Hp} {as : Addr → Prop} [DecidablePred as]
theorem cutF_at {b : Addr} {o : HO} (hl : ∀ a, as a → ∃ vs, F a = some (.lst vs)) (h : F b = some o) (ho : ∀ vs, o ≠ .lst vs) : cutF F as b = some o := by
  unfold cutF
  by_cases hb : as b
  · obtain ⟨vs, e⟩ := hl b hb
    rw [h] at e
    cases e
    exact absurd rfl (ho vs)
  · rw [if_neg hb]; exact h
theorem cutF_rd {b : Addr} {o : HO} (hl : ∀ a, as a → ∃ vs, F a = some (.lst vs)) (h : Rd F b o) (ho : ∀ vs, o ≠ .lst vs) : Rd (cutF F as) b o := by
  rcases h with h | ⟨ob, h⟩
  · exact .inl (cutF_at hl h ho)
  · exact .inr ⟨ob, cutF_at hl h fun vs z => by cases z⟩
mutual
theorem R.cut (hl : ∀ a, as a → ∃ vs, F a = some (.lst vs)) : ∀ {p : PV} {v : V}, noLst p = true → R C F p v → R C (cutF F as) p v
  | .non, v, _, h => by unfold R at h ⊢; exact h
  | .bl _, v, _, h => by unfold R at h ⊢; exact h
  | .int _, v, _, h => by unfold R at h ⊢; exact h
  | .str _, v, _, h => by unfold R at h ⊢; exact h
  | .lst _, v, n, h => by unfold noLst at n; cases n
  | .scr _, v, n, h => by unfold noLst at n; cases n
  | .exc _ _, v, n, h => by unfold noLst at n; cases n
  | .tup xs, v, n, h => by
    unfold noLst at n
    unfold R at h ⊢
    obtain ⟨a, vs, e, q, r⟩ := h
    exact ⟨a, vs, e, cutF_at hl q fun vs z => (by cases z), Rs.cut hl n r⟩
  | .dK ks xs, v, n, h => by
    unfold noLst at n
    unfold R at h ⊢
    obtain ⟨a, kvs, e, q, k, r⟩ := h
    exact ⟨a, kvs, e, cutF_rd hl q fun vs z => (by cases z), k, Rs.cut hl n r⟩
  | .dT ks xs, v, n, h => by
    unfold noLst at n
    unfold R at h ⊢
    obtain ⟨a, kvs, e, q, k, r⟩ := h
    exact ⟨a, kvs, e, cutF_rd hl q fun vs z => (by cases z), k, Rs.cut hl n r⟩
  | .ins c xs, v, n, h => by
    unfold noLst at n
    unfold R at h ⊢
    obtain ⟨a, dx, fs, e, q, k, r⟩ := h
    exact ⟨a, dx, fs, e, cutF_at hl q fun vs z => (by cases z), k, Rs.cut hl n r⟩
theorem Rs.cut (hl : ∀ a, as a → ∃ vs, F a = some (.lst vs)) : ∀ {p : List PV} {v : List V}, noLsts p = true → Rs C F p v → Rs C (cutF F as) p v
  | [], v, _, h => by unfold Rs at h ⊢; exact h
  | x :: xs, v, n, h => by
    unfold noLsts at n
    simp only [Bool.and_eq_true] at n
    unfold Rs at h ⊢
    obtain ⟨y, r, e, q, t⟩ := h
    exact ⟨y, r, e, R.cut hl n.1 q, Rs.cut hl n.2 t⟩
end
end
section
variable {X : Cx} {g : Gm} {pins : List (Addr × Obj)} {F H F' H' F2 H2 : Hp} {σ : St} {env env' e2 : Env'} {s : Shared}
def roG (C : Ct) (F H : Hp) : Gm := ⟨C, F, H, fun _ => none, fun _ _ _ _ _ => True⟩
/-- into it: the lists known -/
theorem ro_enter {g : Gm} {F H : Hp} {σ : St} {env : Env'} (S : Stt g F H σ env) : ∀ {is : List Nat} {env' : Env'}, roE is env = some env' → ∃ F1 : Hp, Ex F F1 ∧ (∀ b o, F1 b = some o → F b = some o ∨ (F b = none ∧ H b = some o ∧ ∃ vs, o = .lst vs)) ∧ Stt (roG g.C F1 H) F1 H σ env'
  | [], env', h => by
    unfold roE at h
    cases h
    refine ⟨F, Ex.refl F, fun b o q => .inl q, by rw [List.length_map]; exact S.len, fun b o q _ => .inl q, fun b ⟨i, z⟩ => (by cases z), Ex.refl F, fun b o q => .inl q, S.sub, fun i p q => ?_, fun i b p q => ?_, fun i j b c p q a hi hj e1 e2 => ?_, S.tab⟩
    · rw [List.getElem?_map] at q
      cases e : env[i]? with
      | none => rw [e] at q; cases q
      | some y =>
        rw [e] at q
        cases y <;> cases q
        exact S.fz i p e
    · rw [List.getElem?_map] at q
      cases e : env[i]? with
      | none => rw [e] at q; cases q
      | some y => rw [e] at q; cases y <;> cases q
    · rw [List.getElem?_map] at hi
      cases e : env[i]? with
      | none => rw [e] at hi; cases hi
      | some y => rw [e] at hi; cases y <;> cases hi
  | i :: is, env', h => by
    unfold roE at h
    split at h
    · rename_i b xs e1 h1 h2
      cases h
      obtain ⟨F1, x1, fr, S1⟩ := ro_enter S h2
      obtain ⟨a, z1, z2, z3, z4⟩ := S.ow i b _ h1
      obtain ⟨vs, z5, z6⟩ := z2
      have hF1 : F1 a = none ∨ F1 a = some (.lst vs) := by
        cases w : F1 a with
        | none => exact .inl rfl
        | some o =>
          rcases fr a o w with y | ⟨_, y, _⟩
          · rw [z3] at y; cases y
          · rw [z5] at y; cases y; exact .inr rfl
      have exF : Ex F1 (upd F1 a (.lst vs)) := fun c o q => by
        by_cases hc : c = a
        · subst hc
          rcases hF1 with w | w
          · rw [w] at q; cases q
          · rw [w] at q; cases q; exact upd_same
        · rw [upd_ne hc]; exact q
      have le1 : Le (upd F1 a (.lst vs)) H := fun c o q => by
        by_cases hc : c = a
        · subst hc; rw [upd_same] at q; cases q; exact .inl (.inl z5)
        · rw [upd_ne hc] at q; exact S1.sub c o q
      refine ⟨upd F1 a (.lst vs), x1.trans exF, fun c o q => ?_, ?_⟩
      · by_cases hc : c = a
        · subst hc; rw [upd_same] at q; cases q; exact .inr ⟨z3, z5, vs, rfl⟩
        · rw [upd_ne hc] at q; exact fr c o q
      · refine ⟨by rw [List.length_set]; exact S1.len, fun b o q _ => .inl q, fun b ⟨i, z⟩ => (by cases z), Ex.refl _, fun b o q => .inl q, le1, fun j p q => ?_, fun j f p q => ?_, fun j k f c p q x hj hk e1 e2 => ?_, S.tab⟩
        · rcases getElem?_set_cases q with ⟨rfl, e, hl⟩ | ⟨hne, e⟩
          · cases e
            refine ⟨_, z1, ?_⟩
            show R g.C _ (.lst xs) (.ref a)
            unfold R
            exact ⟨a, vs, rfl, upd_same, z6.mono (x1.trans exF).le⟩
          · obtain ⟨v, w1, w2⟩ := S1.fz j p e
            exact ⟨v, w1, R.mono exF.le w2⟩
        · rcases getElem?_set_cases q with ⟨rfl, e, hl⟩ | ⟨hne, e⟩
          · cases e
          · obtain ⟨_, _, _, _, w⟩ := S1.ow j f p e
            split at w
            · obtain ⟨x, y1, y2, y3, y4⟩ := S1.ow j f p e
              exfalso
              have : ∀ {is : List Nat} {e' : Env'}, roE is env = some e' → e'[j]? ≠ some (.ow f p) := by
                intro is
                induction is with
                | nil =>
                  intro e' h z
                  unfold roE at h; cases h
                  rw [List.getElem?_map] at z
                  cases w : env[j]? with
                  | none => rw [w] at z; cases z
                  | some y => rw [w] at z; cases y <;> cases z
                | cons k ks ih =>
                  intro e' h z
                  unfold roE at h
                  split at h
                  · rename_i h4 h5
                    cases h
                    rcases getElem?_set_cases z with ⟨_, w, _⟩ | ⟨_, w⟩
                    · cases w
                    · exact ih h5 w
                  · cases h
              exact this h2 e
            · cases w
        · rcases getElem?_set_cases hj with ⟨rfl, e, hl⟩ | ⟨hne, e⟩
          · cases e
          · rcases getElem?_set_cases hk with ⟨rfl, e', hl⟩ | ⟨hne', e'⟩
            · cases e'
            · exact S1.inj j k _ _ _ _ x e e' e1 e2
    · cases h
/-- out of it -/
theorem ro_leave {F1 : Hp} (S : Stt g F H σ env) (x1 : Ex F F1) (fr : ∀ b o, F1 b = some o → F b = some o ∨ (F b = none ∧ H b = some o ∧ ∃ vs, o = .lst vs)) (S2 : Stt (roG g.C F1 H) F2 H2 σ e2) :
    ∃ F3 : Hp, Ex F F3 ∧ Stt g F3 H2 σ env ∧ (∀ {p v}, noLst p = true → R g.C F2 p v → R g.C F3 p v) ∧ (∀ {ps vs}, noLsts ps = true → Rs g.C F2 ps vs → Rs g.C F3 ps vs) ∧ (∀ b, F2 b = none → F3 b = none) := by
  classical
  let as : Addr → Prop := fun b => F b = none ∧ ∃ o, F1 b = some o
  have hl : ∀ a, as a → ∃ vs, F2 a = some (.lst vs) := fun a ⟨h1, o, h2⟩ => by
    rcases fr a o h2 with y | ⟨_, _, vs, rfl⟩
    · rw [h1] at y; cases y
    · exact ⟨vs, S2.ext a _ h2⟩
  have ex : Ex F (cutF F2 as) := fun b o q => by
    unfold cutF
    rw [if_neg (fun ⟨z, _⟩ => by rw [q] at z; cases z)]
    exact S2.ext b o (x1 b o q)
  have keep : ∀ b o, H b = some o → Kpt o (H2 b) := fun b o q => S2.frame b o q fun ⟨i, z⟩ => (by cases z)
  have cut : ∀ {b o}, cutF F2 as b = some o → F2 b = some o ∧ ¬ as b := fun {b o} q => by
    unfold cutF at q
    by_cases hb : as b
    · rw [if_pos hb] at q; cases q
    · rw [if_neg hb] at q; exact ⟨q, hb⟩
  refine ⟨cutF F2 as, ex, ⟨S.len, fun b o q n => (S.frame b o q n).trans fun o' q' => keep b o' q', fun b hb => ?_, S.ext.trans ex, fun b o q => ?_, fun b o q => S2.sub b o (cut q).1, fun i p q => ?_, fun i b p q => ?_, S.inj, S2.tab⟩, fun n r => R.cut hl n r, fun n r => Rs.cut hl n r, fun b hb => ?_⟩
  · obtain ⟨o, q⟩ := S.live b hb
    exact (keep b o q).some
  · obtain ⟨q1, q2⟩ := cut q
    rcases S2.fresh b o q1 with z | z
    · have z : F1 b = some o := z
      rcases fr b o z with y | ⟨y, _⟩
      · exact S.fresh b o y
      · exact (q2 ⟨y, o, z⟩).elim
    · exact .inr (S.sub_new z)
  · obtain ⟨v, h1, h2⟩ := S.fz i p q
    exact ⟨v, h1, h2.mono ex.le⟩
  · obtain ⟨a, h1, h2, h3, h4⟩ := S.ow i b p q
    obtain ⟨o, ho⟩ := h2.cell
    refine ⟨a, h1, h2.mono ex.le (((keep a o ho).eq (h2.pln ho).1).trans ho.symm), ?_, h4⟩
    cases w : cutF F2 as a with
    | none => rfl
    | some o' =>
      obtain ⟨q1, q2⟩ := cut w
      rcases S2.fresh a o' q1 with z | z
      · have z : F1 a = some o' := z
        rcases fr a o' z with y | ⟨y, _⟩
        · rw [h3] at y; cases y
        · exact (q2 ⟨y, o', z⟩).elim
      · have z : H a = none := z
        rw [ho] at z; cases z
  · unfold cutF
    by_cases hb' : as b
    · rw [if_pos hb']
    · rw [if_neg hb']; exact hb
theorem se_ro {e : Expr} {is : List Nat} {d : Env' → Res Val} (h : ∀ g' : Gm, g'.C = g.C → PE X e (tE g' d)) : PE X e (tE g (dRo is d)) :=
  peImp (xE_of h) fun σ H Q ⟨F, env, S, go⟩ => by
    unfold dRo at go
    cases hr : roE is env with
    | none => simp only [hr] at go; exact go.elim
    | some e' =>
      simp only [hr] at go
      obtain ⟨F1, x1, fr, S1⟩ := ro_enter S hr
      refine ⟨roG g.C F1 H, rfl, F1, e', S1, ?_⟩
      cases hd : d e' with
      | bad => rw [hd] at go; exact go.elim
      | err y e2 => rw [hd] at go; exact go.elim
      | ok x e2 =>
        rw [hd] at go
        intro F2 H2 x2 S2 v rv
        obtain ⟨F3, x3, S3, k1, k2, k3⟩ := ro_leave S x1 fr S2
        cases x with
        | bor i => exact go.elim
        | fz p =>
          dsimp only at go
          split at go
          · rename_i hn
            exact go F3 H2 x3 S3 v (k1 hn rv)
          · exact go.elim
        | new p =>
          dsimp only at go
          split at go
          · rename_i hn
            obtain ⟨a, e1, e3, e4, e5, e6⟩ := rv
            have e5 : H a = none := e5
            refine go F3 H2 x3 S3 v ⟨a, e1, ?_, k3 a e4, S.sub_new e5, fun i b q hi hv => ?_⟩
            · cases p with
              | lst xs =>
                obtain ⟨vs, y1, y2⟩ := e3
                exact ⟨vs, y1, k2 hn y2⟩
              | dK ks xs =>
                obtain ⟨vs, y1, y2, y3⟩ := e3
                exact ⟨vs, y1, y2, k2 hn y3⟩
              | dT ks xs =>
                obtain ⟨vs, y1, y2, y3⟩ := e3
                exact ⟨vs, y1, y2, k2 hn y3⟩
              | ins c xs =>
                obtain ⟨dx, fs, y1, y2, y3⟩ := e3
                exact ⟨dx, fs, y1, y2, k2 hn y3⟩
              | _ => exact e3.elim
            · obtain ⟨a2, f1, f2, _⟩ := S.ow i b q hi
              rw [hv] at f1; cases f1
              obtain ⟨o', ho'⟩ := f2.cell
              rw [e5] at ho'; cases ho'
          · exact go.elim
end
end VL

set_option maxRecDepth 100000
set_option maxHeartbeats 2000000
namespace VL
open PySem PySem.Spec L2
open PyProof.Rows hiding St
/-! ### a, b = x, y: values kept side by side -/
def isNew : Val → Bool
  | .new _ => true
  | _ => false
def unb (x : Val) (e : Env') : Res Val := match x with
  | .bor _ => (frz x e).bind fun p e' => .ok (.fz p) e'
  | x => .ok x e
def parL : Bool → List (Env' → Res Val) → Env' → Res (List Val)
  | _, [], e => .ok [] e
  | false, d :: ds, e => (d e).bind fun x e1 => (unb x e1).bind fun y e2 => (parL (isNew y) ds e2).bind fun xs e3 => .ok (y :: xs) e3
  | true, d :: ds, e => match d (blkE [] e) with
    | .ok x e1 => (match x with
      | .bor _ => .bad
      | y => (parL true ds (outE [] e e1)).bind fun xs e3 => .ok (y :: xs) e3)
    | _ => .bad
def storeL : List Nat → List Val → Env' → Res Fl
  | [], [], e => .ok .nx e
  | i :: is, .fz p :: xs, e => storeL is xs (e.set i (.fz p))
  | i :: is, .new p :: xs, e => storeL is xs (e.set i (.ow true p))
  | _, _, _ => .bad
def dPar (is : List Nat) (ds : List (Env' → Res Val)) : Env' → Res Fl := fun e => (parL false ds e).bind fun xs e1 => storeL is xs e1
def tAx (C : Ct) : List (Env' → Res Val) → TA
  | [] => tNil
  | d :: ds => tCons (xE C d) (tAx C ds)
def newsOf : List Val → List V → List V
  | x :: xs, v :: vs => if isNew x = true then v :: newsOf xs vs else newsOf xs vs
  | _, _ => []
def noBor : List Val → Prop
  | [] => True
  | .bor _ :: _ => False
  | _ :: xs => noBor xs
structure Held (g : Gm) (F H : Hp) (σ : St) (env : Env') (xs : List Val) (vs : List V) : Prop where
  r : RVs g F H σ env xs vs
  nb : noBor xs
  nd : (newsOf xs vs).Nodup
section
variable {X : Cx} {g : Gm} {pins : List (Addr × Obj)} {F H F' H' F2 H2 : Hp} {σ : St} {env env' e2 : Env'} {s : Shared}
theorem newsOf_append : ∀ {xs : List Val} {vs : List V} {ys : List Val} {ws : List V}, vs.length = xs.length → newsOf (xs ++ ys) (vs ++ ws) = newsOf xs vs ++ newsOf ys ws
  | [], [], ys, ws, _ => by simp [newsOf]
  | x :: xs, v :: vs, ys, ws, h => by
    have ih := newsOf_append (ys := ys) (ws := ws) (show vs.length = xs.length by simpa using h)
    simp only [List.cons_append, newsOf]
    split
    · rw [ih]; rfl
    · exact ih
  | [], v :: vs, ys, ws, h => by simp at h
  | x :: xs, [], ys, ws, h => by simp at h
theorem noBor_append : ∀ {xs ys : List Val}, noBor xs → noBor ys → noBor (xs ++ ys)
  | [], ys, _, h => h
  | .fz p :: xs, ys, h, t => noBor_append (xs := xs) h t
  | .new p :: xs, ys, h, t => noBor_append (xs := xs) h t
  | .bor i :: xs, ys, h, t => h.elim
theorem newsOf_mem {v : V} : ∀ {xs : List Val} {vs : List V}, RVs g F H σ env xs vs → v ∈ newsOf xs vs → ∃ p a, v = .ref a ∧ R1 g.C F H p a ∧ F a = none ∧ g.H0 a = none ∧ ∀ (i : Nat) b q, env[i]? = some (.ow b q) → σ[i]? ≠ some (some (.ref a))
  | [], vs, r, h => by
    cases (show vs = [] from r)
    simp [newsOf] at h
  | x :: xs, vs, r, h => by
    obtain ⟨w, t, rfl, r1, r2⟩ := r
    unfold newsOf at h
    split at h
    · rename_i hx
      rcases List.mem_cons.mp h with z | z
      · subst z
        cases x with
        | new p => obtain ⟨a, e1, e2, e3, e4, e5⟩ := r1; exact ⟨p, a, e1, e2, e3, e4, e5⟩
        | fz p => cases hx
        | bor i => cases hx
      · exact newsOf_mem r2 z
    · exact newsOf_mem r2 h
/-- what is held, while only old things were touched -/
theorem RVs.sub {env2 : Env'} : ∀ {xs : List Val} {vs : List V}, noBor xs → Stt g F H σ env → Stt (subG g F H σ env) F2 H2 σ env2 → RVs g F H σ env xs vs → RVs g F2 H2 σ (outE [] env env2) xs vs
  | [], vs, _, _, _, r => r
  | x :: xs, vs, nb, S, S2, r => by
    obtain ⟨v, t, rfl, r1, r2⟩ := r
    have nb' : noBor xs := by
      cases x with
      | bor i => exact nb.elim
      | fz p => exact nb
      | new p => exact nb
    refine ⟨v, t, rfl, ?_, RVs.sub nb' S S2 r2⟩
    cases x with
    | bor i => exact nb.elim
    | fz p => exact R.mono S2.ext.le r1
    | new p =>
      obtain ⟨a, e1, e2, e3, e4, e5⟩ := r1
      obtain ⟨o, ho⟩ := e2.cell
      have hO : ¬ (subG g F H σ env).O a := fun z => by
        obtain ⟨i, b, p, h1, h2⟩ := subG_O z
        exact e5 i b p h1 h2
      have hH2 : H2 a = some o := (S2.frame a o ho hO).eq (e2.pln ho).1
      refine ⟨a, e1, e2.mono S2.ext.le (hH2.trans ho.symm), ?_, e4, fun i b q hi hv => ?_⟩
      · cases w : F2 a with
        | none => rfl
        | some o' =>
          rcases S2.fresh a o' w with z | z
          · have z : F a = some o' := z
            rw [e3] at z; cases z
          · have z : H a = none := z
            rw [ho] at z; cases z
      · obtain ⟨hl, e⟩ := outE_at hi
        rw [if_neg (by simp)] at e
        obtain ⟨p0, c, h1, h2⟩ := outS_ow e.symm
        exact e5 i b p0 (getD_at h1 (by simp)) hv
theorem RVs.oldF : ∀ {xs : List Val} {vs : List V}, noBor xs → newsOf xs vs = [] → RVs g F H σ env xs vs → Ex F F' → RVs g F' H' σ env' xs vs
  | [], vs, _, _, r, _ => r
  | x :: xs, vs, nb, hn, r, e => by
    obtain ⟨v, t, rfl, r1, r2⟩ := r
    unfold newsOf at hn
    cases x with
    | bor i => exact nb.elim
    | fz p => exact ⟨v, t, rfl, R.mono e.le r1, RVs.oldF nb hn r2 e⟩
    | new p => simp [isNew] at hn
theorem freeS_nil : freeS [] env = true := rfl
theorem parL_go {g : Gm} {σ : St} : ∀ {ds : List (Env' → Res Val)} {h : Bool} {F H : Hp} {env : Env'} {xs0 : List Val} {vs0 : List V} {Q : List V → Hp → Prop}, Stt g F H σ env → Held g F H σ env xs0 vs0 → (h = false → newsOf xs0 vs0 = []) →
    (Go g F σ (parL h ds env) fun xs env' F' H' => ∀ vs, Held g F' H' σ env' (xs0 ++ xs) (vs0 ++ vs) → Q vs H') → tAx g.C ds σ H Q
  | [], h, F, H, env, xs0, vs0, Q, S, hd, hn, go => by
    have e : parL h [] env = .ok [] env := by cases h <;> rfl
    rw [e] at go
    exact go F H (Ex.refl F) S [] (by rw [List.append_nil, List.append_nil]; exact hd)
  | d :: ds, false, F, H, env, xs0, vs0, Q, S, hd, hn, go => by
    refine ⟨g, rfl, F, env, S, ?_⟩
    unfold parL at go
    refine (Go.bind go).mono fun x e1 F1 H1 x1 S1 k v r => ?_
    have hu : ∃ F2 y e2, Ex F1 F2 ∧ Stt g F2 H1 σ e2 ∧ RV g F2 H1 σ e2 y v ∧ noBor [y] ∧ Go g F2 σ ((parL (isNew y) ds e2).bind fun xs e3 => .ok (y :: xs) e3) fun xs env' F' H' => ∀ vs, Held g F' H' σ env' (xs0 ++ xs) (vs0 ++ vs) → Q vs H' := by
      cases x with
      | fz p => exact ⟨F1, .fz p, e1, Ex.refl F1, S1, r, trivial, k⟩
      | new p => exact ⟨F1, .new p, e1, Ex.refl F1, S1, r, trivial, k⟩
      | bor i =>
        unfold unb at k
        dsimp only at k
        cases hf : frz (.bor i) e1 with
        | bad => rw [hf] at k; exact k.elim
        | err y e => exact (frz_noerr hf).elim
        | ok p e2 =>
          rw [hf] at k
          obtain ⟨F2, x2, S2, r2⟩ := frz_ok S1 r hf
          exact ⟨F2, .fz p, e2, x2, S2, r2, trivial, Go.up k x2⟩
    obtain ⟨F2, y, e2, x2, S2, r2, nb, k2⟩ := hu
    have hold := hd.r.oldF (F' := F2) (H' := H1) (env' := e2) hd.nb (hn rfl) (x1.trans x2)
    have hl := RVs.length hd.r
    have hd2 : Held g F2 H1 σ e2 (xs0 ++ [y]) (vs0 ++ [v]) := ⟨RVs.append hold ⟨v, [], rfl, r2, rfl⟩, noBor_append hd.nb nb, by
      rw [newsOf_append hl, hn rfl, List.nil_append]
      unfold newsOf
      cases isNew y <;> simp [newsOf]⟩
    show tAx g.C ds σ H1 fun vs H' => Q (v :: vs) H'
    refine parL_go S2 hd2 (h := isNew y) (fun hy => ?_) ((Go.bind k2).mono fun xs e3 F3 H3 x3 S3 k3 vs h3 => ?_)
    · rw [newsOf_append hl, hn rfl, List.nil_append]
      unfold newsOf
      rw [if_neg (by rw [hy]; exact Bool.false_ne_true)]
      rfl
    · exact k3 F3 H3 (Ex.refl F3) S3 (v :: vs) (by simpa using h3)
  | d :: ds, true, F, H, env, xs0, vs0, Q, S, hd, hn, go => by
    unfold parL at go
    cases hq : d (blkE [] env) with
    | bad => simp only [hq] at go; exact go.elim
    | err y e => simp only [hq] at go; exact go.elim
    | ok x e1 =>
      simp only [hq] at go
      refine ⟨subG g F H σ env, rfl, F, blkE [] env, S.enter [], ?_⟩
      rw [hq]
      intro F2 H2 x2 S2 v rv
      have S2 : Stt (subG g F H σ env) F2 H2 σ e1 := S2
      obtain ⟨x3, S3⟩ := S.leave S2 freeS_nil rfl
      have hl := RVs.length hd.r
      have hold := hd.r.sub hd.nb S S2
      have step : ∀ y, noBor [y] → RV g F2 H2 σ (outE [] env e1) y v → (isNew y = true → v ∉ newsOf xs0 vs0) → (Go g F σ ((parL true ds (outE [] env e1)).bind fun xs e3 => .ok (y :: xs) e3) fun xs env' F' H' => ∀ vs, Held g F' H' σ env' (xs0 ++ xs) (vs0 ++ vs) → Q vs H') → tAx g.C ds σ H2 fun vs H' => Q (v :: vs) H' := by
        intro y nb ry hy k
        have hd2 : Held g F2 H2 σ (outE [] env e1) (xs0 ++ [y]) (vs0 ++ [v]) := ⟨RVs.append hold ⟨v, [], rfl, ry, rfl⟩, noBor_append hd.nb nb, by
          rw [newsOf_append hl]
          cases hy' : isNew y with
          | false =>
            have : newsOf [y] [v] = [] := by unfold newsOf; rw [if_neg (by rw [hy']; exact Bool.false_ne_true)]; rfl
            rw [this, List.append_nil]; exact hd.nd
          | true =>
            have : newsOf [y] [v] = [v] := by unfold newsOf; rw [if_pos hy']; rfl
            rw [this, List.nodup_append]
            refine ⟨hd.nd, by simp, fun a ha b hb => ?_⟩
            have : b = v := by simpa using hb
            subst this
            exact fun z => hy hy' (z ▸ ha)⟩
        refine parL_go (h := true) S3 hd2 (fun z => by cases z) ((Go.bind (Go.up k x3)).mono fun xs e3 F3 H3 x4 S4 k3 vs h3 => ?_)
        exact k3 F3 H3 (Ex.refl F3) S4 (v :: vs) (by simpa using h3)
      cases x with
      | bor i => exact go.elim
      | fz p => exact step (.fz p) trivial rv (fun z => by cases z) go
      | new p =>
        obtain ⟨a, e1', e2', e3', e4', e5'⟩ := rv
        have e4' : H a = none := e4'
        refine step (.new p) trivial ⟨a, e1', e2', e3', S.sub_new e4', fun i b q hi hv => ?_⟩ (fun _ z => ?_) go
        · obtain ⟨hl, e⟩ := outE_at hi
          rw [if_neg (by simp)] at e
          obtain ⟨p0, c, h1, h2⟩ := outS_ow e.symm
          exact e5' i c q (getD_at h2 (by simp)) hv
        · obtain ⟨p', a', z1, z2, _⟩ := newsOf_mem hd.r z
          subst e1'
          cases z1
          obtain ⟨o, ho⟩ := z2.cell
          rw [e4'] at ho; cases ho
def setAll : List Nat → List V → St → St
  | i :: is, v :: vs, σ => setAll is vs (σ.set i (some v))
  | _, _, σ => σ
theorem Held.tail_fz {i : Nat} {p : PV} {v : V} {xs : List Val} {vs : List V} (r : RVs g F H σ env xs vs) (nb : noBor xs) (hl : σ.length = env.length) : RVs g F H (σ.set i (some v)) (env.set i (.fz p)) xs vs := by
  induction xs generalizing vs with
  | nil => exact r
  | cons x xs ih =>
    obtain ⟨w, t, rfl, r1, r2⟩ := r
    cases x with
    | bor k => exact nb.elim
    | fz q => exact ⟨w, t, rfl, r1, ih r2 nb⟩
    | new q =>
      refine ⟨w, t, rfl, ?_, ih r2 nb⟩
      obtain ⟨a, e1, e2, e3, e4, e5⟩ := r1
      refine ⟨a, e1, e2, e3, e4, fun k b q' hk hv => ?_⟩
      rcases getElem?_set_cases hk with ⟨_, z, _⟩ | ⟨hne, z⟩
      · cases z
      · rw [List.getElem?_set_ne hne] at hv
        exact e5 k b q' z hv
theorem Held.tail_ow {i : Nat} {p : PV} {a1 : Addr} {xs : List Val} {vs : List V} (r : RVs g F H σ env xs vs) (nb : noBor xs) (hl : σ.length = env.length) (hn : V.ref a1 ∉ newsOf xs vs) : RVs g F H (σ.set i (some (.ref a1))) (env.set i (.ow true p)) xs vs := by
  induction xs generalizing vs with
  | nil => exact r
  | cons x xs ih =>
    obtain ⟨w, t, rfl, r1, r2⟩ := r
    unfold newsOf at hn
    cases x with
    | bor k => exact nb.elim
    | fz q => exact ⟨w, t, rfl, r1, ih r2 nb (by simpa [isNew] using hn)⟩
    | new q =>
      rw [if_pos (by rfl)] at hn
      refine ⟨w, t, rfl, ?_, ih r2 nb fun z => hn (List.mem_cons_of_mem _ z)⟩
      obtain ⟨a, e1, e2, e3, e4, e5⟩ := r1
      refine ⟨a, e1, e2, e3, e4, fun k b q' hk hv => ?_⟩
      rcases getElem?_set_cases hk with ⟨ek, z, hlt⟩ | ⟨hne, z⟩
      · subst ek
        rw [List.getElem?_set_self (by rw [hl]; exact hlt)] at hv
        cases hv
        exact hn (by rw [e1]; exact List.mem_cons_self ..)
      · rw [List.getElem?_set_ne hne] at hv
        exact e5 k b q' z hv
theorem storeL_go {D : Ends} : ∀ {is : List Nat} {xs : List Val} {vs : List V} {σ : St} {env : Env'}, Stt g F H σ env → Held g F H σ env xs vs → GoS g F (storeL is xs env) D → vs.length = is.length ∧ D.nx (setAll is vs σ) H
  | [], [], vs, σ, env, S, hd, go => by
    cases (show vs = [] from hd.r)
    exact ⟨rfl, go F H σ (Ex.refl F) S⟩
  | [], x :: xs, vs, σ, env, S, hd, go => by
    unfold storeL at go; exact go.elim
  | i :: is, [], vs, σ, env, S, hd, go => by unfold storeL at go; exact go.elim
  | i :: is, .bor k :: xs, vs, σ, env, S, hd, go => by unfold storeL at go; exact go.elim
  | i :: is, .fz p :: xs, vs, σ, env, S, hd, go => by
    unfold storeL at go
    obtain ⟨v, t, rfl, r1, r2⟩ := hd.r
    have nd : (newsOf xs t).Nodup := hd.nd
    obtain ⟨h1, h2⟩ := storeL_go (S.setFz r1) ⟨Held.tail_fz r2 hd.nb S.len, hd.nb, nd⟩ go
    exact ⟨congrArg Nat.succ h1, h2⟩
  | i :: is, .new p :: xs, vs, σ, env, S, hd, go => by
    unfold storeL at go
    obtain ⟨v, t, rfl, r1, r2⟩ := hd.r
    have nd : (v :: newsOf xs t).Nodup := hd.nd
    obtain ⟨n1, n2⟩ := List.nodup_cons.mp nd
    obtain ⟨a, rfl, e2, e3, e4, e5⟩ := r1
    obtain ⟨h1, h2⟩ := storeL_go (S.setOw e2 e3 e4 e5) ⟨Held.tail_ow r2 hd.nb S.len n1, hd.nb, n2⟩ go
    exact ⟨congrArg Nat.succ h1, h2⟩
theorem tAx_mono {C : Ct} : ∀ {ds : List (Env' → Res Val)} {σ : St} {H : Hp} {Q Q' : List V → Hp → Prop}, (∀ vs H, Q vs H → Q' vs H) → tAx C ds σ H Q → tAx C ds σ H Q'
  | [], σ, H, Q, Q', k, h => k _ _ h
  | d :: ds, σ, H, Q, Q', k, h => by
    obtain ⟨g', hC, q⟩ := h
    exact ⟨g', hC, tE_mono (fun v H1 q1 => tAx_mono (fun vs H2 q2 => k _ _ q2) q1) q⟩
theorem Held.nil (S : Stt g F H σ env) : Held g F H σ env [] [] := ⟨rfl, trivial, List.nodup_nil⟩
/-- the readings of the sides -/
theorem par_go {is : List Nat} {ds : List (Env' → Res Val)} {D : Ends} (S : Stt g F H σ env) (go : GoS g F (dPar is ds env) D) : tAx g.C ds σ H fun vs H' => vs.length = is.length ∧ D.nx (setAll is vs σ) H' :=
  parL_go (h := false) S (Held.nil S) (fun _ => rfl) ((GoS.bindE (σ := σ) go).mono fun xs e1 F1 H1 x1 S1 k vs hd => storeL_go S1 (by simpa using hd) k)
theorem sax_nil : PA X [] (tAx g.C []) := pa_nil
theorem sax_cons {e : Expr} {es : List Expr} {d : Env' → Res Val} {ds : List (Env' → Res Val)} (h : ∀ g' : Gm, g'.C = g.C → PE X e (tE g' d)) (hr : PA X es (tAx g.C ds)) (hs : starEach (e :: es) X.env = (false, eval e X.env) :: starEach es X.env) : PA X (e :: es) (tAx g.C (d :: ds)) :=
  pa_cons (xE_of h) hr hs
theorem ss_par {i j : Nat} {x y : Str} {a b : Expr} {d1 d2 : Env' → Res Val} {px py pt pos : Pos} {kt k2 : Nat} {pt2 : Pos} (ok : Ok X g) (hN : X.N.Nodup) (hi : X.N[i]? = some x) (hj : X.N[j]? = some y) (hij : i ≠ j)
    (hx : X.env.scope.names.lookup x = some .local) (hy : X.env.scope.names.lookup y = some .local) (ha : PA X [a, b] (tAx g.C [d1, d2]))
    (hw : swappedStores [.Tuple [.Name x px, .Name y py] kt pt] (.Tuple [a, b] k2 pt2) X.env = pure (some [x, y]))
    (hs : swapsWithSole [.Tuple [.Name x px, .Name y py] kt pt] (.Tuple [a, b] k2 pt2) pos.line X.env = pure false) :
    PS X (.Assign [.Tuple [.Name x px, .Name y py] kt pt] (.Tuple [a, b] k2 pt2) pos) (tS g (dPar [i, j] [d1, d2])) :=
  psImp (ps_par ok.calm hN hi hj hij hx hy ha hw hs) fun D σ H ⟨F, env, S, go⟩ => by
    have q := par_go S go
    refine tAx_mono (fun vs H' h => ?_) q
    obtain ⟨h1, h2⟩ := h
    match vs, h1, h2 with
    | [v, w], _, h2 => exact ⟨v, w, rfl, h2⟩
theorem ss_par3 {i j l : Nat} {x y z : Str} {a b c : Expr} {d1 d2 d3 : Env' → Res Val} {px py pz pt pos : Pos} {kt k2 : Nat} {pt2 : Pos} (ok : Ok X g) (hN : X.N.Nodup) (hi : X.N[i]? = some x) (hj : X.N[j]? = some y) (hl : X.N[l]? = some z) (hij : i ≠ j) (hil : i ≠ l) (hjl : j ≠ l)
    (hx : X.env.scope.names.lookup x = some .local) (hy : X.env.scope.names.lookup y = some .local) (hz : X.env.scope.names.lookup z = some .local) (ha : PA X [a, b, c] (tAx g.C [d1, d2, d3]))
    (hw : swappedStores [.Tuple [.Name x px, .Name y py, .Name z pz] kt pt] (.Tuple [a, b, c] k2 pt2) X.env = pure (some [x, y, z]))
    (hs : swapsWithSole [.Tuple [.Name x px, .Name y py, .Name z pz] kt pt] (.Tuple [a, b, c] k2 pt2) pos.line X.env = pure false) :
    PS X (.Assign [.Tuple [.Name x px, .Name y py, .Name z pz] kt pt] (.Tuple [a, b, c] k2 pt2) pos) (tS g (dPar [i, j, l] [d1, d2, d3])) :=
  psImp (ps_par3 ok.calm hN hi hj hl hij hil hjl hx hy hz ha hw hs) fun D σ H ⟨F, env, S, go⟩ => by
    have q := par_go S go
    refine tAx_mono (fun vs H' h => ?_) q
    obtain ⟨h1, h2⟩ := h
    match vs, h1, h2 with
    | [v, w, u], _, h2 => exact ⟨v, w, u, rfl, h2⟩
/-! the same, stored from the left (a cell among the names, or constants) -/
def gNames : List Nat → TGs
  | [] => gNil
  | i :: is => gCons (gName i) (gNames is)
theorem gNames_of : ∀ {is : List Nat} {vs : List V} {σ : St} {H : Hp} {Q : St → Hp → Prop}, vs.length = is.length → Q (setAll is vs σ) H → gNames is vs σ H Q
  | [], [], σ, H, Q, _, q => ⟨rfl, q⟩
  | i :: is, v :: vs, σ, H, Q, h, q => ⟨v, vs, rfl, gNames_of (by simpa using h) q⟩
  | [], v :: vs, σ, H, Q, h, q => by simp at h
  | i :: is, [], σ, H, Q, h, q => by simp at h
theorem sgn_nil : PGs X [] (gNames []) := pgs_nil
theorem sgn_cons {i : Nat} {x : Str} {es : List Expr} {is : List Nat} {pos : Pos} (hN : X.N.Nodup) (hi : X.N[i]? = some x) (hx : Loc X.env.scope x) (hf : X.fn x = true ∨ X.env.scope.names.lookup x = some .local) (h2 : PGs X es (gNames is))
    (hs : (assignEach (.Name x pos :: es) X.env).map (·.2) = assign (.Name x pos) X.env :: (assignEach es X.env).map (·.2)) : PGs X (.Name x pos :: es) (gNames (i :: is)) := pgs_cons (pg_name hN hi hx hf) h2 hs
theorem GoS.grow1 {D : Ends} {is : List Nat} {xs : List Val} {vs : List V} {p : Addr} {o : HO} (S : Stt g F H σ env) (hd : Held g F H σ env xs vs) (hp : H p = none) : Stt g F (upd H p o) σ env ∧ Held g F (upd H p o) σ env xs vs := by
  have ex : Ex H (upd H p o) := Ex.new hp
  refine ⟨S.grow ex, ?_, hd.nb, hd.nd⟩
  have r := hd.r
  clear hd
  induction xs generalizing vs with
  | nil => exact r
  | cons x xs ih =>
    obtain ⟨v, t, rfl, r1, r2⟩ := r
    refine ⟨v, t, rfl, ?_, ih r2⟩
    cases x with
    | fz p => exact r1
    | bor i => exact r1
    | new q =>
      obtain ⟨a, e1, e2, e3⟩ := r1
      obtain ⟨o', ho⟩ := e2.cell
      exact ⟨a, e1, e2.mono (Ex.refl F).le ((ex a o' ho).trans ho.symm), e3⟩
theorem par_goT {is : List Nat} {ds : List (Env' → Res Val)} {D : Ends} (hsz : is.length ≤ big) (S : Stt g F H σ env) (go : GoS g F (dPar is ds env) D) : tAx g.C ds σ H fun vs H' => vs.length = is.length ∧ ∀ p, H' p = none → D.nx (setAll is vs σ) (upd H' p (.tup vs)) :=
  parL_go (h := false) S (Held.nil S) (fun _ => rfl) ((GoS.bindE (σ := σ) go).mono fun xs e1 F1 H1 x1 S1 k vs hd => by
    have hd : Held g F1 H1 σ e1 xs vs := by simpa using hd
    refine ⟨?_, fun p hp => ?_⟩
    · exact (storeL_go S1 hd k).1
    · obtain ⟨S2, hd2⟩ := GoS.grow1 (D := D) (is := is) (o := .tup vs) S1 hd hp
      exact (storeL_go S2 hd2 k).2)
theorem ss_parO {is : List Nat} {es ns : List Expr} {ds : List (Env' → Res Val)} {pt pos pt2 : Pos} {kt k2 : Nat} (ok : Ok X g) (hlen : ns.length = is.length) (hsz : is.length ≤ big) (hn : PGs X ns (gNames is)) (ha : PA X es (tAx g.C ds))
    (hn1 : (assignEach ns X.env).length = is.length) (hst : (assignEach ns X.env).findIdx? (·.1) = none)
    (hs : swapsWithSole [.Tuple ns kt pt] (.Tuple es k2 pt2) pos.line X.env = pure false) (hw : swappedStores [.Tuple ns kt pt] (.Tuple es k2 pt2) X.env = pure none)
    (h1 : (assignEach [.Tuple ns kt pt] X.env).map (·.2) = [assign (.Tuple ns kt pt) X.env]) : PS X (.Assign [.Tuple ns kt pt] (.Tuple es k2 pt2) pos) (tS g (dPar is ds)) :=
  psImp (ps_asg (pe_tup ha) (pg_tup ok.calm hn hn1 hst) hs hw h1) fun D σ H ⟨F, env, S, go⟩ => by
    refine tAx_mono (fun vs H' h => ?_) (par_goT hsz S go)
    obtain ⟨h1, h2⟩ := h
    refine ⟨by rw [h1, big_eq]; exact hsz, fun p hp => ⟨p, vs, rfl, .inl (.inl upd_same), h1, gNames_of h1 (h2 p hp)⟩⟩
/-! ### self.f = e -/
def semFldS (C : Ct) (f : Nat) : PV → PV → Option PV
  | .ins c xs, p => if (C.L c)[xs.length]? = some f ∧ xs.length < 999 then some (.ins c (xs ++ [p])) else none
  | _, _ => none
def dFldS (C : Ct) (f i : Nat) (d : Env' → Res Val) : Env' → Res Fl := fun e => (d e).bind fun x e1 => (frz x e1).bind fun p e2 => match e2[i]? with
  | some (.ow b q) => match semFldS C f q p with
    | some q' => .ok .nx (e2.set i (.ow b q'))
    | none => .bad
  | _ => .bad
end
end VL

set_option maxRecDepth 100000
set_option maxHeartbeats 2000000
namespace VL
open PySem PySem.Spec L2
open PyProof.Rows hiding St
/-! ### dict displays -/
def dNewK : Env' → Res Val := fun e => .ok (.new (.dK [] [])) e
def dNewT : Env' → Res Val := fun e => .ok (.new (.dT [] [])) e
def subV (d : Env' → Res Val) (e : Env') : Res PV := match d (blkE [] e) with
  | .ok x e1 => (match frz x e1 with
    | .ok p e2 => .ok p (outE [] e e2)
    | _ => .bad)
  | _ => .bad
def dDisp : List ((Env' → Res Val) × (Env' → Res Val)) → List Key → List PV → Env' → Res Val
  | [], ks, vs, e => .ok (.new (.dK ks vs)) e
  | (dk, dv) :: r, ks, vs, e => match subV dk e with
    | .ok kp e1 => (match keyP kp, subV dv e1 with
      | some k, .ok p e2 => dDisp r (putP ks vs k p).1 (putP ks vs k p).2 e2
      | _, _ => .bad)
    | _ => .bad
/-- a cell of ours that nobody else knows -/
structure PrS (g : Gm) (F H : Hp) (σ : St) (env : Env') (D : Addr) (o : HO) : Prop where
  S : Stt g F H σ env
  cell : H D = some o
  hF : F D = none
  h0 : g.H0 D = none
  hO : ¬ g.O D
  hn : ∀ (i : Nat) b q, env[i]? = some (.ow b q) → σ[i]? ≠ some (some (.ref D))
  np : Pln o
section
variable {X : Cx} {g : Gm} {pins : List (Addr × Obj)} {F H F' H' F2 H2 : Hp} {σ σ2 : St} {env env' env2 : Env'} {s : Shared}
theorem Go.later {α : Type} {r : Res α} {K : α → Env' → Hp → Hp → Prop} (h : Go g F σ r K) : Go g F σ r fun x e F' H' => ∀ F3 H3, Ex F' F3 → Stt g F3 H3 σ e → K x e F3 H3 := by
  cases r with
  | bad => exact h
  | err y e => exact h
  | ok x e => exact fun F' H' a _ F3 H3 b c => h F3 H3 (a.trans b) c
theorem se_dnewK {pos : Pos} : PE X (.Dict [] [] pos) (tE g dNewK) := peImp pe_dnewK fun σ H Q ⟨F, env, S, go⟩ p hp => fin_new (p := .dK [] []) S hp (by simp only [R1]; exact ⟨[], upd_same, rfl, Rs.nil⟩) fun F' H' w x S' r => go F' H' x S' w r
theorem se_dnewT {pos : Pos} : PE X (.Dict [] [] pos) (tE g dNewT) := peImp pe_dnewT fun σ H Q ⟨F, env, S, go⟩ p hp => fin_new (p := .dT [] []) S hp (by simp only [R1]; exact ⟨[], upd_same, rfl, Rs.nil⟩) fun F' H' w x S' r => go F' H' x S' w r
theorem PrS.start (S : Stt g F H σ env) {D : Addr} {o : HO} (np : Pln o) (hD : H D = none) : PrS g F (upd H D o) σ env D o := by
  obtain ⟨n1, n2, n3⟩ := S.new0 hD
  refine ⟨S.grow (ex_alloc hD), upd_same, n1, n2, n3, fun i b q e z => ?_, np⟩
  obtain ⟨a, e1, e2, _⟩ := S.ow i b q e
  rw [z] at e1; cases e1
  obtain ⟨o, ho⟩ := e2.cell
  rw [hD] at ho; cases ho
theorem PrS.turn {D : Addr} {o : HO} (L : PrS g F H σ env D o) (S2 : Stt (subG g F H σ env) F2 H2 σ env2) : Ex F F2 ∧ PrS g F2 H2 σ (outE [] env env2) D o := by
  obtain ⟨x, S'⟩ := L.S.leave (vs := []) S2 freeS_nil rfl
  have nO : ¬ (subG g F H σ env).O D := fun z => by
    obtain ⟨i, b, p, h1, h2⟩ := subG_O z
    exact L.hn i b p h1 h2
  refine ⟨x, S', (S2.frame D _ L.cell nO).eq L.np.1, ?_, L.h0, L.hO, fun i b q e z => ?_, L.np⟩
  · cases q : F2 D with
    | none => rfl
    | some o =>
      rcases S2.fresh D o q with z | z
      · have z : F D = some o := z
        rw [L.hF] at z; cases z
      · have z : H D = none := z
        rw [L.cell] at z; cases z
  · obtain ⟨hl, e⟩ := outE_at e
    rw [if_neg (by simp)] at e
    obtain ⟨p0, c, h1, h2⟩ := outS_ow e.symm
    exact L.hn i b p0 (getD_at h1 (by simp)) z
/-- a value in the block's reading -/
theorem subV_go {d : Env' → Res Val} {p : PV} {e1 : Env'} {D : Addr} {o : HO} {Q : VK} (L : PrS g F H σ env D o) (h : subV d env = .ok p e1)
    (k : ∀ F' H' v, Ex F F' → PrS g F' H' σ e1 D o → R g.C F' p v → Q v H') : xE g.C d σ H Q := by
  unfold subV at h
  refine ⟨subG g F H σ env, rfl, F, blkE [] env, L.S.enter [], ?_⟩
  cases hd : d (blkE [] env) with
  | bad => rw [hd] at h; cases h
  | err y e => rw [hd] at h; cases h
  | ok x e2 =>
    rw [hd] at h
    dsimp only at h
    intro F2 H2 x2 S2 v rv
    cases hf : frz x e2 with
    | bad => rw [hf] at h; cases h
    | err y e => rw [hf] at h; cases h
    | ok q e3 =>
      rw [hf] at h
      cases h
      obtain ⟨F3, x3, S3, r3⟩ := frz_ok S2 rv hf
      obtain ⟨x4, L4⟩ := L.turn (env2 := e3) S3
      exact k F3 H2 v x4 L4 r3
theorem disp_pairs {D : Addr} {K : Val → Env' → Hp → Hp → Prop} : ∀ {prs : List ((Env' → Res Val) × (Env' → Res Val))} {F H : Hp} {env : Env'} {kvs : List (Key × V)} {xs : List PV} {Q : List (V × V) → Hp → Prop}, PrS g F H σ env D (.dK []) → Rs g.C F xs (kvs.map Prod.snd) →
    (Go g F σ (dDisp prs (kvs.map Prod.fst) xs env) fun x env' F' H' => ∀ (more : List (Key × V)), PrS g F' H' σ env' D (.dK []) → (∃ ys, x = .new (.dK ((mergeK kvs more).map Prod.fst) ys) ∧ Rs g.C F' ys ((mergeK kvs more).map Prod.snd)) → more.length = prs.length → Q (more.map fun kv => (kV kv.1, kv.2)) H') →
    tPairs (prs.map fun p => (xE g.C p.1, xE g.C p.2)) σ H Q
  | [], F, H, env, kvs, xs, Q, L, r, go => by
    unfold dDisp at go
    exact go F H (Ex.refl F) L.S [] L ⟨xs, rfl, r⟩ rfl
  | (dk, dv) :: prs, F, H, env, kvs, xs, Q, L, r, go => by
    unfold dDisp at go
    cases h1 : subV dk env with
    | bad => rw [h1] at go; exact go.elim
    | err y e => rw [h1] at go; exact go.elim
    | ok kp e1 =>
      simp only [h1] at go
      cases h2 : keyP kp with
      | none => simp only [h2] at go; exact go.elim
      | some k =>
        cases h3 : subV dv e1 with
        | bad => simp only [h2, h3] at go; exact go.elim
        | err y e => simp only [h2, h3] at go; exact go.elim
        | ok p e2 =>
          simp only [h2, h3] at go
          refine subV_go L h1 fun F1 H1 kv x1 L1 r1 => ?_
          refine subV_go L1 h3 fun F2 H2 v x2 L2 r2 => ?_
          obtain rfl := keyP_r r1 h2
          obtain ⟨z1, z2⟩ := putP_r (k := k) (r.mono (x1.trans x2).le) r2
          rw [← z1] at go
          refine disp_pairs (K := K) L2 z2 ((Go.up go (x1.trans x2)).mono fun x e' F' H' x3 S3 kk more L' hx hl => ?_)
          exact kk ((k, v) :: more) L' hx (by simp [hl])
theorem se_disp {pos : Pos} {keys : List (Option Expr)} {values : List Expr} {prs : List ((Env' → Res Val) × (Env' → Res Val))} (h : PPs X pos keys values (prs.map fun p => (xE g.C p.1, xE g.C p.2))) (hall : keys.all (·.isSome) = true) (hl : keys.length = values.length) (h0 : keys ≠ [])
    (h15 : keys.length ≤ 15) (hp : prs.length ≤ 15) : PE X (.Dict keys values pos) (tE g (dDisp prs [] [])) :=
  peImp (pe_disp h hall hl h0 h15) fun σ H Q ⟨F, env, S, go⟩ D hD => by
    refine disp_pairs (kvs := []) (xs := []) (K := fun _ _ _ _ => True) (PrS.start S ⟨fun _ z => (by cases z), fun _ z => (by cases z)⟩ hD) Rs.nil (go.later.mono fun x e' F' H' x1 S1 k more L hx hlen => ?_)
    obtain ⟨ys, rfl, ry⟩ := hx
    refine ⟨L.cell, more, rfl, by omega, ?_⟩
    have S2 := L.S.poke (o := .dK (mergeK [] more)) L.cell L.np L.hF L.h0 L.hO L.hn
    exact k F' _ (Ex.refl F') S2 (.ref D) ⟨D, rfl, by simp only [R1]; exact ⟨_, upd_same, rfl, ry⟩, L.hF, L.h0, L.hn⟩
theorem spp_cons {pos : Pos} {k v : Expr} {ks : List (Option Expr)} {vs : List Expr} {dk dv : Env' → Res Val} {prs : List ((Env' → Res Val) × (Env' → Res Val))} (hk : ∀ g' : Gm, g'.C = g.C → PE X k (tE g' dk)) (hv : ∀ g' : Gm, g'.C = g.C → PE X v (tE g' dv)) (hr : PPs X pos ks vs (prs.map fun p => (xE g.C p.1, xE g.C p.2))) :
    PPs X pos (some k :: ks) (v :: vs) (((dk, dv) :: prs).map fun p => (xE g.C p.1, xE g.C p.2)) := pps_cons (xE_of hk) (xE_of hv) hr
/-! ### fields -/
theorem ss_fldS {f i : Nat} {n : Str} {L : Nat → List Nat} {o a : Expr} {d : Env' → Res Val} {pos pos' : Pos} (ok : Ok X g) (co : ∀ c, ClsOk g.C c) (hL : g.C.L = L) (hn : g.C.nm f = n) (ho : PE X o (tVar i)) (hv : PE X a (tE g d)) (hs : swapsWith a (some (.Attribute o n pos')) pos.line X.env = pure false) :
    PS X (.Assign [.Attribute o n pos'] a pos) (tS g (dFldS g.C f i d)) :=
  psImp (ps_fld ho hv hs) fun D σ H ⟨F, env, S, go⟩ => ⟨F, env, S, (GoS.bindE (σ := σ) go).mono fun x e F' H' x1 S1 k v r => by
    obtain ⟨F2, p, e2, x2, S2, r2, go2⟩ := GoS_frz S1 r k
    split at go2
    · rename_i b q hi
      split at go2
      · rename_i q' hq
        obtain ⟨ad, w1, w2, w3⟩ := S2.ow i b q hi
        cases q with
        | ins c xs =>
          simp only [semFldS] at hq
          by_cases hc : (g.C.L c)[xs.length]? = some f ∧ xs.length < 999
          · rw [if_pos hc] at hq
            cases hq
            obtain ⟨dx, fs, y1, y2, y3⟩ := w2
            have hlen : fs.length = xs.length := by
              have := y3.length
              rw [List.length_map] at this
              exact this
            have hfx : (g.C.fl c)[xs.length]? = some n := by
              unfold Ct.fl
              rw [List.getElem?_map, hc.1, ← hn]; rfl
            have hnot : n ∉ fs.map Prod.fst := fun z => by
              rw [y2] at z
              obtain ⟨j, hj, e⟩ := List.mem_iff_getElem.mp z
              rw [List.getElem_take] at e
              rw [List.length_take] at hj
              have h1 : (g.C.fl c)[j]? = some n := by rw [← e]; exact List.getElem?_eq_getElem (by omega)
              have := nodup_idx (co c).nd h1 hfx
              omega
            have hput : ∀ {l : List (Str × V)} {w : V}, n ∉ l.map Prod.fst → putF n w l = l ++ [(n, w)] := by
              intro l w
              induction l with
              | nil => intro _; rfl
              | cons z l ih =>
                intro h
                obtain ⟨z1, z2⟩ := z
                rw [List.map_cons, List.mem_cons, not_or] at h
                unfold putF
                rw [if_neg (fun q => h.1 q.symm), ih h.2]; rfl
            refine ⟨.ref ad, w1, ad, g.C.ad c, dx, fs, rfl, y1, by rw [← ok.K]; exact (co c).cls, ?_, by rw [hlen]; omega, ?_⟩
            · rw [← ok.K, ← hn]
              exact (co c).no f (List.mem_of_getElem? hc.1)
            · refine go2 F2 _ σ (Ex.refl F2) (S2.write hi w1 ?_)
              simp only [R1]
              refine ⟨dx, _, upd_same, ?_, ?_⟩
              · rw [hput hnot, List.map_append, y2, List.length_append, List.map_cons, List.map_nil, List.length_singleton]
                rw [List.take_succ, hfx]; rfl
              · rw [hput hnot, List.map_append]
                exact y3.snoc r2
          · rw [if_neg hc] at hq; cases hq
        | _ => simp only [semFldS] at hq; cases hq
      · exact go2.elim
    · exact go2.elim⟩
end
end VL

set_option maxRecDepth 100000
set_option maxHeartbeats 2000000
namespace VL
open PySem PySem.Spec L2
open PyProof.Rows hiding St
/-! ### code that is never come to -/
def dBad : Env' → Res Fl := fun _ => .bad
/-! ### isinstance -/
structure InsF (C : Ct) : Prop where
  ha : ∀ c, PySem.W.findIn C.K (.ref (C.ad c)) "__class__" = some (some (.builtin "object.__class__"))
  hn : PySem.W.specialIn C.K (.builtin "object.__class__") "__get__" = some (some (.builtin "getset_descriptor.__get__"))
  htk : PySem.W.takesIn C.K (.builtin "object.__class__") = some true
  hm : ∀ c, PySem.W.mroIn C.K (C.ad c) (.type "object") = some true
def tyP (C : Ct) : PV → Value
  | .non => .type "NoneType"
  | .bl _ => .type "bool"
  | .int _ => .type "int"
  | .str _ => .type "str"
  | .tup _ => .type "tuple"
  | .lst _ => .type "list"
  | .scr _ => .type "list"
  | .dK _ _ => .type "dict"
  | .dT _ _ => .type "dict"
  | .ins c _ => .ref (C.ad c)
  | .exc c _ => .ref (C.ad c)
def dIsi (ans : PV → Option Bool) (da : Env' → Res Val) : Env' → Res Val := fun e => (stl da e).bind fun x e1 => match (peek x e1).bind ans with
  | some b => .ok (.fz (.bl b)) e1
  | none => .bad
/-- a built-in type asked -/
def ansB (T : String) : PV → Option Bool
  | .non => some false
  | .bl _ => some (T == "bool" || T == "int")
  | .int _ => some (T == "int")
  | .str _ => some (T == "str")
  | .tup _ => some (T == "tuple")
  | .lst _ => some (T == "list")
  | .scr _ => some (T == "list")
  | .dK _ _ => some (T == "dict")
  | .dT _ _ => none
  | .ins _ _ => some false
  | .exc _ _ => none
section
variable {X : Cx} {g : Gm} {pins : List (Addr × Obj)} {F H F' H' F2 H2 : Hp} {σ σ2 : St} {env env' env2 : Env'} {s : Shared} {pos : Pos} {da : Env' → Res Val} {C : Ct}
theorem ss_never {st : Stmt} : PS X st (tS g dBad) := psImp ps_never fun D σ H ⟨F, env, S, go⟩ => go
theorem tyP_ok {p : PV} {v : V} (ok : Ok X g) (co : ∀ c, ClsOk g.C c) (fi : InsF g.C) (r : Rt g.C F H p v) (hd : ∀ ks xs, p ≠ .dT ks xs) (hx : ∀ c xs, p ≠ .exc c xs) : TyX X.K H v (tyP g.C p) := by
  cases p with
  | non => cases r; exact .base .non
  | bl b => cases r; exact .base (.bl b)
  | int i => cases r; exact .base (.int i)
  | str x => cases r; exact .base (.str x)
  | tup xs => obtain ⟨a, vs, rfl, h, _⟩ := r; exact .base (.tup h)
  | lst xs => obtain ⟨a, vs, rfl, h, _⟩ := r; exact .base (.lst h)
  | scr ns =>
    obtain ⟨a, rfl, h⟩ := r
    rw [ok.K] at h
    rcases h with (h | ⟨o, h⟩) | ⟨o, h⟩
    · exact .base (.lst h)
    · exact .base (.frz h)
    · obtain ⟨us, n, h1, h2, _⟩ := h
      exact .kList h1 h2
  | dK ks xs =>
    obtain ⟨a, kvs, rfl, h, _⟩ := r
    rcases h with h | ⟨o, h⟩
    · exact .base (.dK h)
    · exact .fDict h
  | dT ks xs => exact (hd _ _ rfl).elim
  | exc c xs => exact (hx _ _ rfl).elim
  | ins c xs =>
    obtain ⟨a, dx, fs, rfl, h, _⟩ := r
    have cl := (co c).cls
    have h1 := fi.ha c
    have h2 := fi.hn
    have h3 := fi.htk
    have h4 := fi.hm c
    rw [ok.K] at cl h1 h2 h3 h4
    exact .base (.ins h cl h1 h2 h3 h4)
theorem se_isi {c : V} {u : Value} {ans : PV → Option Bool} {e ce : Expr} {p : Pos} (ok : Ok X g) (co : ∀ c, ClsOk g.C c) (fi : InsF g.C) (hans : ∀ p b, ans p = some b → PySem.W.kitOne g.C.K (tyP g.C p) u = some b) (hno : ∀ ks xs, ans (.dT ks xs) = none) (hnx : ∀ c xs, ans (.exc c xs) = none)
    (hm : X.mg "isinstance" = none) (hg : Gl X "isinstance") (ha : PE X e (tE g da)) (hc : PE X ce (tC c)) (hu : ClsV c u) (hs : starEach [e, ce] X.env = (false, eval e X.env) :: starEach [ce] X.env) (hs2 : starEach [ce] X.env = (false, eval ce X.env) :: starEach [] X.env) (hpl : (backTo pos (starEach [ce] X.env)).any (·.1) = false) :
    PE X (.Call (.Name "isinstance" p) [e, ce] [] pos) (tE g (dIsi ans da)) :=
  peImp (pe_callB (call_isi) hg hm boot_isinstance (pa_cons (peo ha) (pa_cons hc pa_nil hs2) hs) (by decide) (by decide) hs hpl) fun σ H Q ⟨F, env, S, go⟩ => ⟨F, env, S, (Go.bind go).mono fun x e1 F1 H1 x1 S1 k v o r => by
    cases hp : peek x e1 with
    | none => simp only [hp] at k; exact k.elim
    | some q =>
      cases hq : ans q with
      | none => simp only [hp, hq, Option.bind] at k; exact k.elim
      | some b =>
        simp only [hp, hq, Option.bind] at k
        exact ⟨v, c, tyP g.C q, u, b, rfl, hu, tyP_ok ok co fi (peek_ok S1 r hp) (fun ks xs z => by rw [z, hno] at hq; cases hq) (fun c xs z => by rw [z, hnx] at hq; cases hq), by rw [← ok.K]; exact hans q b hq, k F1 H1 (Ex.refl F1) S1 _ (by show R _ _ _ _; unfold R; rfl)⟩⟩
end
end VL

set_option maxRecDepth 100000
set_option maxHeartbeats 2000000
namespace VL
open PySem PySem.Spec L2
open PyProof.Rows hiding St
/-! ### sorted -/
theorem srt_uniq {α : Type} [DecidableEq α] {lt : α → α → Bool} (O : SrtO.Swo lt) (anti : ∀ x y, lt x y = false → lt y x = false → x = y) {l m : List α} (p : l.Perm m) (hl : SrtO.Srtd lt l) (hm : SrtO.Srtd lt m) : l = m := by
  refine SrtO.stb_uniq O hl hm ⟨p, fun x => ?_⟩
  have rep : ∀ l : List α, l.filter (SrtO.eqv lt x) = List.replicate (l.filter (SrtO.eqv lt x)).length x := fun l => by
    rw [List.eq_replicate_iff]
    refine ⟨rfl, fun y hy => ?_⟩
    have := (List.mem_filter.mp hy).2
    obtain ⟨h1, h2⟩ := SrtO.eqv_iff.mp this
    first | exact anti y x h1 h2 | exact anti y x h2 h1
  rw [rep l, rep m, (p.filter (SrtO.eqv lt x)).length_eq]
def ltI (x y : Int) : Bool := decide (x < y)
theorem swo_ltI : SrtO.Swo ltI := ⟨fun x y h => by simp only [ltI, decide_eq_true_eq, decide_eq_false_iff_not] at *; omega, fun x y z h1 h2 => by simp only [ltI, decide_eq_false_iff_not] at *; omega⟩
def sortI (ns : List Int) : List Int := ns.mergeSort fun x y => !ltI y x
theorem sortI_perm (ns : List Int) : (sortI ns).Perm ns := List.mergeSort_perm _ _
theorem sortI_srt (ns : List Int) : (sortI ns).Pairwise (· ≤ ·) := by
  have := List.pairwise_mergeSort (le := fun x y => !ltI y x) (fun a b c h1 h2 => by simp only [ltI, Bool.not_eq_true', decide_eq_false_iff_not] at *; omega) (fun a b => by simp only [ltI, Bool.or_eq_true, Bool.not_eq_true', decide_eq_false_iff_not]; omega) ns
  exact this.imp fun h => by simp only [ltI, Bool.not_eq_true', decide_eq_false_iff_not] at h; omega
theorem sortI_uniq {ns ns' : List Int} (p : ns'.Perm ns) (h : ns'.Pairwise (· ≤ ·)) : ns' = sortI ns := by
  refine srt_uniq swo_ltI (fun x y h1 h2 => by simp only [ltI, decide_eq_false_iff_not] at *; omega) (p.trans (sortI_perm ns).symm) (h.imp fun q => ?_) ((sortI_srt ns).imp fun q => ?_)
  all_goals (simp only [ltI, decide_eq_false_iff_not]; omega)
def sortP (ps : List (Int × Int)) : List (Int × Int) := ps.mergeSort fun x y => !SrtO.lexB y x
theorem swo_lexP : SrtO.Swo SrtO.lexB := by
  refine ⟨fun x y h => ?_, fun x y z h1 h2 => ?_⟩
  · have a := SrtO.lexB_iff.mp h
    refine SrtO.lexB_no.mpr ?_
    omega
  · have a := SrtO.lexB_no.mp h1
    have b := SrtO.lexB_no.mp h2
    refine SrtO.lexB_no.mpr ?_
    omega
theorem sortP_perm (ps : List (Int × Int)) : (sortP ps).Perm ps := List.mergeSort_perm _ _
theorem sortP_srt (ps : List (Int × Int)) : SrtO.Srtd SrtO.lexB (sortP ps) := by
  have := List.pairwise_mergeSort (le := fun x y => !SrtO.lexB y x) (fun a b c h1 h2 => by
    simp only [Bool.not_eq_true'] at *
    exact swo_lexP.tr _ _ _ h1 h2) (fun a b => by
    simp only [Bool.or_eq_true, Bool.not_eq_true']
    rcases SrtO.bcase (SrtO.lexB b a) with h | h
    · exact .inr (swo_lexP.asym _ _ h)
    · exact .inl h) ps
  exact this.imp fun h => by simpa using h
theorem sortP_uniq {ps qs : List (Int × Int)} (p : qs.Perm ps) (h : SrtO.Srtd SrtO.lexB qs) : qs = sortP ps :=
  srt_uniq swo_lexP (fun x y h1 h2 => by
    have a := SrtO.lexB_no.mp h1
    have b := SrtO.lexB_no.mp h2
    obtain ⟨x1, x2⟩ := x
    obtain ⟨y1, y2⟩ := y
    simp only at a b
    have e1 : x1 = y1 := by omega
    have e2 : x2 = y2 := by omega
    rw [e1, e2]) (p.trans (sortP_perm ps).symm) h (sortP_srt ps)
def pairP : PV → Option (Int × Int)
  | .tup [.int i, .int j] => some (i, j)
  | _ => none
def pairsP : List PV → Option (List (Int × Int))
  | [] => some []
  | p :: ps => match pairP p, pairsP ps with
    | some a, some r => some (a :: r)
    | _, _ => none
def ofPair (p : Int × Int) : PV := .tup [.int p.1, .int p.2]
theorem pairP_is {p : PV} {a : Int × Int} (h : pairP p = some a) : p = ofPair a := by
  unfold pairP at h
  split at h
  · cases h; rfl
  · cases h
theorem pairsP_is : ∀ {ps : List PV} {l : List (Int × Int)}, pairsP ps = some l → ps = l.map ofPair
  | [], l, h => by cases h; rfl
  | p :: ps, l, h => by
    unfold pairsP at h
    cases h1 : pairP p with
    | none => simp only [h1] at h; cases h
    | some a =>
      cases h2 : pairsP ps with
      | none => simp only [h1, h2] at h; cases h
      | some r =>
        simp only [h1, h2, Option.some.injEq] at h
        subst h
        rw [pairP_is h1, pairsP_is h2]; rfl
def semSorted : List PV → Option Val
  | [.lst xs] => match intsP xs with
    | some ns => some (.new (.lst ((sortI ns).map PV.int)))
    | none => match pairsP xs with
      | some ps => some (.new (.lst ((sortP ps).map ofPair)))
      | none => none
  | _ => none
section
variable {X : Cx} {g : Gm} {pins : List (Addr × Obj)} {F H F' H' F2 H2 : Hp} {σ σ2 : St} {env env' env2 : Env'} {s : Shared} {pos : Pos} {da : Env' → Res Val} {C : Ct}
def keyOf (F : Hp) (v : V) : Int × Int := match v with
  | .ref a => match F a with
    | some (.tup [.int i, .int j]) => (i, j)
    | _ => (0, 0)
  | _ => (0, 0)
theorem pair_r {p : Int × Int} {v : V} (h : R C F (ofPair p) v) : ∃ t, v = .ref t ∧ F t = some (.tup [.int p.1, .int p.2]) ∧ keyOf F v = p := by
  unfold ofPair at h
  unfold R at h
  obtain ⟨a, vs, rfl, h1, h2⟩ := h
  obtain ⟨x, r, rfl, h3, h4⟩ := h2.cons_inv
  obtain ⟨y, r', rfl, h5, h6⟩ := h4.cons_inv
  obtain rfl := h6.nil_inv
  unfold R at h3 h5
  subst h3; subst h5
  refine ⟨a, rfl, h1, ?_⟩
  unfold keyOf
  simp only [h1]
theorem pairs_keys : ∀ {ps : List (Int × Int)} {vs : List V}, Rs C F (ps.map ofPair) vs → vs.map (keyOf F) = ps ∧ ∀ v ∈ vs, R C F (ofPair (keyOf F v)) v
  | [], vs, h => by
    rw [h.nil_inv]
    exact ⟨rfl, fun v hv => by cases hv⟩
  | p :: ps, vs, h => by
    obtain ⟨v, r, rfl, h1, h2⟩ := h.cons_inv
    obtain ⟨i1, i2⟩ := pairs_keys h2
    obtain ⟨t, e1, e2, e3⟩ := pair_r h1
    refine ⟨by rw [List.map_cons, i1, e3], fun u hu => ?_⟩
    rcases List.mem_cons.mp hu with z | z
    · subst z; rw [e3]; exact h1
    · exact i2 u z
theorem rs_of_all {f : V → PV} : ∀ {vs : List V}, (∀ v ∈ vs, R C F (f v) v) → Rs C F (vs.map f) vs
  | [], _ => Rs.nil
  | v :: vs, h => Rs.cons (h v (List.mem_cons_self ..)) (rs_of_all fun u hu => h u (List.mem_cons_of_mem _ hu))
theorem c_sorted (ok : Ok X g) : OpN X g (fun us => PySem.call (.builtin "sorted") us) semSorted := by
  intro pins s σ F H env ps vs us r Q I S rv t e k
  unfold semSorted at e
  split at e
  · rename_i xs
    obtain ⟨v, rfl, h⟩ := rts1 t
    obtain ⟨a, ws, rfl, h1, h2⟩ := h
    cases hi : intsP xs with
    | some ns =>
      rw [hi] at e; cases e
      obtain ⟨b, hb, h2'⟩ := sqI (show Rt g.C F H (.lst xs) (.ref a) from ⟨a, ws, rfl, h1, h2⟩) hi
      cases hb
      refine cr_sortedI pins s σ H _ us Q I rv ⟨a, ns, rfl, SqL.of h2', fun ns' p hp hs hn => ?_⟩
      rw [sortI_uniq hp hs]
      exact fin_lst S hn (Rs.of_ints _) k
    | none =>
      rw [hi] at e
      cases hq : pairsP xs with
      | none => rw [hq] at e; cases e
      | some prs =>
        rw [hq] at e; cases e
        obtain rfl := pairsP_is hq
        obtain ⟨k1, k2⟩ := pairs_keys h2
        refine cr_sortedPO pins s σ H _ us Q I rv ⟨a, ws, keyOf F, rfl, SqL.of h1, fun x hx => ?_, fun ys p hs hb hn => ?_⟩
        · obtain ⟨t', e1, e2, e3⟩ := pair_r (k2 x hx)
          exact ⟨t', e1, S.sub.tup e2⟩
        · have hall : ∀ v ∈ ys, R g.C F (ofPair (keyOf F v)) v := fun v hv => k2 v (hb.perm.mem_iff.mp hv)
          have hk : ys.map (keyOf F) = sortP prs := by
            refine sortP_uniq ?_ (List.pairwise_map.mpr hs)
            rw [← k1]
            exact hb.perm.map _
          have := rs_of_all (f := fun v => ofPair (keyOf F v)) hall
          have e3 : ys.map (fun v => ofPair (keyOf F v)) = (sortP prs).map ofPair := by rw [← hk, List.map_map]; rfl
          rw [e3] at this
          exact fin_lst S hn this k
  · cases e
/-! ### methods that read -/
def semStarts : PV → List PV → Option Val
  | .str a, [.str b] => some (.fz (.bl (Txt.startswith a b)))
  | _, _ => none
theorem semStarts_inv {p : PV} {ps : List PV} {r : Val} (h : semStarts p ps = some r) : ∃ a b, p = .str a ∧ ps = [.str b] ∧ r = .fz (.bl (Txt.startswith a b)) := by
  unfold semStarts at h
  split at h
  · cases h; exact ⟨_, _, rfl, rfl, rfl⟩
  · cases h
theorem m_starts : MRule X g "str" "startswith" semStarts := by
  refine ⟨by decide, "str.startswith", PySem.F.plainAttrs_str, PySem.F.slot_str_startswith, PySem.F.type_str_startswith, ?_⟩
  intro pins s σ F H env p ps v vs vv us r Q I S r1 r2 t1 t2 hk hs k
  obtain ⟨a, b, rfl, rfl, rfl⟩ := semStarts_inv hs
  cases rt_str t1
  obtain ⟨w, rfl, h⟩ := rts1 t2
  cases rt_str h
  exact mt_startswith pins s σ H _ _ vv us Q I r1 r2 ⟨a, b, rfl, rfl, fin_bl S k⟩
def strsP : List PV → Option (List Str)
  | [] => some []
  | .str x :: ps => (strsP ps).map (x :: ·)
  | _ => none
theorem strsP_is : ∀ {ps : List PV} {l : List Str}, strsP ps = some l → ps = l.map PV.str
  | [], l, h => by cases h; rfl
  | p :: ps, l, h => by
    cases p with
    | str x =>
      simp only [strsP, Option.map_eq_some_iff] at h
      obtain ⟨r, h1, rfl⟩ := h
      rw [strsP_is h1]; rfl
    | _ => simp only [strsP] at h; cases h
def joinOk (a : Str) (ys : List Str) : Bool := decide ((ys.map (·.length)).sum + ys.length * a.length ≤ 16777216)
def semJoin : PV → List PV → Option Val
  | .str a, [.lst xs] => (strsP xs).bind fun ys => if joinOk a ys = true then some (.fz (.str (Txt.join a ys))) else none
  | _, _ => none
theorem semJoin_inv {p : PV} {ps : List PV} {r : Val} (h : semJoin p ps = some r) : ∃ a ys, p = .str a ∧ ps = [.lst (ys.map PV.str)] ∧ joinOk a ys = true ∧ r = .fz (.str (Txt.join a ys)) := by
  unfold semJoin at h
  split at h
  · simp only [Option.bind_eq_some_iff] at h
    obtain ⟨ys, h1, h2⟩ := h
    split at h2
    · cases h2
      exact ⟨_, ys, rfl, by rw [strsP_is h1], by assumption, rfl⟩
    · cases h2
  · cases h
theorem m_join (ok : Ok X g) : MRule X g "str" "join" semJoin := by
  refine ⟨by decide, "str.join", PySem.F.plainAttrs_str, PySem.F.slot_str_join, PySem.F.type_str_join, ?_⟩
  intro pins s σ F H env p ps v vs vv us r Q I S r1 r2 t1 t2 hk hs k
  obtain ⟨a, ys, rfl, rfl, hj, rfl⟩ := semJoin_inv hs
  cases rt_str t1
  obtain ⟨w, rfl, h⟩ := rts1 t2
  obtain ⟨b, ws, rfl, h1, h2⟩ := h
  obtain rfl := h2.strs_of
  exact mt_join pins s σ H _ _ vv us Q I r1 r2 ⟨a, b, ys, rfl, rfl, .inl (SqL.of h1), of_decide_eq_true hj, fin_str S k⟩
/-- the first place of a text in a list of texts -/
def idxS (x : Str) : List Str → Nat → Option Nat
  | [], _ => none
  | y :: ys, n => if y = x then some n else idxS x ys (n + 1)
def semIndex : PV → List PV → Option Val
  | .lst xs, [.str x] => (strsP xs).bind fun ys => (ys.idxOf? x).map fun j => .fz (.int (j : Nat))
  | _, _ => none
theorem semIndex_inv {p : PV} {ps : List PV} {r : Val} (h : semIndex p ps = some r) : ∃ (ys : List Str) (x : Str) (j : Nat), p = .lst (ys.map PV.str) ∧ ps = [.str x] ∧ ys.idxOf? x = some j ∧ r = .fz (.int (j : Nat)) := by
  unfold semIndex at h
  split at h
  · simp only [Option.bind_eq_some_iff, Option.map_eq_some_iff] at h
    obtain ⟨ys, h1, j, h2, rfl⟩ := h
    exact ⟨ys, _, j, by rw [strsP_is h1], rfl, h2, rfl⟩
  · cases h
theorem m_index (ok : Ok X g) : MRule X g "list" "index" semIndex := by
  refine ⟨by decide, "list.index", PySem.F.plainAttrs_list, PySem.F.slot_list_index, PySem.F.type_list_index, ?_⟩
  intro pins s σ F H env p ps v vs vv us r Q I S r1 r2 t1 t2 hk hs k
  obtain ⟨ys, x, j, rfl, rfl, hj, rfl⟩ := semIndex_inv hs
  obtain ⟨a, ws, rfl, h1, h2⟩ := t1
  obtain rfl := h2.strs_of
  obtain ⟨w, rfl, h⟩ := rts1 t2
  cases rt_str h
  obtain ⟨hlt, he, hno⟩ := List.findIdx?_eq_some_iff_getElem.mp hj
  have ej : ys[j] = x := by simpa using he
  refine mt_index pins s σ H _ _ vv us Q I r1 r2 ⟨a, ys.map V.str, .str x, j, .str x, rfl, rfl, SqL.of h1, rfl, by simp [List.all_eq_true, flatV], by rw [List.getElem?_map, List.getElem?_eq_getElem hlt, ej]; rfl, by simp [eqV], fun m z' hm hz => ?_, fin_int S k⟩
  rw [List.getElem?_map] at hz
  have hml : m < ys.length := by omega
  rw [List.getElem?_eq_getElem hml] at hz
  cases hz
  have := hno m hm
  simpa [eqV] using this
end
end VL

set_option maxRecDepth 100000
set_option maxHeartbeats 2000000
namespace VL
open PySem PySem.Spec L2
open PyProof.Rows hiding St
def bTys : List String := ["int", "bool", "str", "tuple", "list", "dict"]
/-- what is known of the classes -/
structure CF (C : Ct) (L : Nat → List Nat) (nm : Nat → Str) : Prop where
  L : C.L = L
  nm : C.nm = nm
  cls : ∀ c, ClsOk C c
  ins : InsF C
  kb : ∀ c T, T ∈ bTys → PySem.W.kitOne C.K (.ref (C.ad c)) (.type T) = some false
theorem kitA {K : PySem.W.Frag} : ∀ T ∈ bTys, ∀ b, ∀ a ∈ ["NoneType", "bool", "int", "str", "tuple", "list", "dict"], kitB a T = some b → PySem.W.kitOne K (.type a) (.type T) = some b := fun T hT b a ha h => kit_ty h
theorem kit_table : (bTys.all fun T => (kitB "NoneType" T == some false) && (kitB "bool" T == some (T == "bool" || T == "int")) && (kitB "int" T == some (T == "int")) && (kitB "str" T == some (T == "str")) && (kitB "tuple" T == some (T == "tuple")) && (kitB "list" T == some (T == "list")) && (kitB "dict" T == some (T == "dict"))) = true := by decide +kernel
theorem ansB_ok {C : Ct} {L : Nat → List Nat} {nm : Nat → Str} (cf : CF C L nm) {T : String} (hT : T ∈ bTys) : ∀ p b, ansB T p = some b → PySem.W.kitOne C.K (tyP C p) (.type T) = some b := by
  intro p b h
  have q := List.all_eq_true.mp kit_table T hT
  simp only [Bool.and_eq_true, beq_iff_eq] at q
  obtain ⟨⟨⟨⟨⟨⟨q0, q1⟩, q2⟩, q3⟩, q4⟩, q5⟩, q6⟩ := q
  cases p <;> simp only [ansB] at h <;> try (cases h; done)
  · cases h; exact kit_ty q0
  · cases h; exact kit_ty q1
  · cases h; exact kit_ty q2
  · cases h; exact kit_ty q3
  · cases h; exact kit_ty q4
  · cases h; exact kit_ty q5
  · cases h; exact kit_ty q5
  · cases h; exact kit_ty q6
  · cases h; exact cf.kb _ T hT
theorem boot_ty : ∀ T ∈ bTys, bootBuiltins (Str.ofString T) = some (.type T) := by
  have : (bTys.all fun T => decide (bootBuiltins (Str.ofString T) = some (.type T))) = true := by decide +kernel
  intro T hT
  exact of_decide_eq_true (List.all_eq_true.mp this T hT)
def dFldL (L : Nat → List Nat) (f : Nat) (da : Env' → Res Val) : Env' → Res Val := fun e => (stl da e).bind fun x e1 => match peek x e1 with
  | some (.ins c xs) => match ((L c).idxOf? f).bind fun i => xs[i]? with
    | some p => .ok (.fz p) e1
    | none => .bad
  | _ => .bad
def dFldSL (L : Nat → List Nat) (f i : Nat) (d : Env' → Res Val) : Env' → Res Fl := fun e => (d e).bind fun x e1 => (frz x e1).bind fun p e2 => match e2[i]? with
  | some (.ow b (.ins c xs)) => if (L c)[xs.length]? = some f ∧ xs.length < 999 then .ok .nx (e2.set i (.ow b (.ins c (xs ++ [p])))) else .bad
  | _ => .bad
section
variable {X : Cx} {g : Gm} {da : Env' → Res Val} {C : Ct} {L : Nat → List Nat} {nm : Nat → Str} {k j : Nat} {x m : Str} {md : Md} {fn : List PV → FR} {dvs : List V} {dps : List PV} {p pos apos : Pos} {e o a : Expr} {es : List Expr} {ds : List (Env' → Res Val)}
theorem se_gint {i : Int} (hg : Gl X x) (h : ∃ u, X.mg x = some u ∧ RelV (.int i) u) (hd : (x == ("__debug__" : Str)) = false) : PE X (.Name x pos) (tE g fun e => .ok (.fz (.int i)) e) := by
  obtain ⟨u, h1, h2⟩ := h
  exact se_glob hg h1 h2 (fun F => by unfold R; rfl) hd
theorem se_gstr {i : Str} (hg : Gl X x) (h : ∃ u, X.mg x = some u ∧ RelV (.str i) u) (hd : (x == ("__debug__" : Str)) = false) : PE X (.Name x pos) (tE g fun e => .ok (.fz (.str i)) e) := by
  obtain ⟨u, h1, h2⟩ := h
  exact se_glob hg h1 h2 (fun F => by unfold R; rfl) hd
theorem se_fldC {f : Nat} {n : Str} (hC : g.C = C) (ok : Ok X g) (cf : CF C L nm) (hn : nm f = n) (ha : PE X a (tE g da)) (hb : attributeBase a n X.env (eval a X.env) = eval a X.env) : PE X (.Attribute a n pos) (tE g (dFldL L f da)) := by
  subst hC
  have e := cf.nm
  have e2 := cf.L
  subst e2
  subst hn
  rw [← e] at hb ⊢
  exact se_fld ok cf.cls ha hb
theorem ss_fldSC {f i : Nat} {n : Str} {pos' : Pos} (hC : g.C = C) (ok : Ok X g) (cf : CF C L nm) (hn : nm f = n) (ho : PE X o (tVar i)) (hv : PE X a (tE g da)) (hs : swapsWith a (some (.Attribute o n pos')) pos.line X.env = pure false) : PS X (.Assign [.Attribute o n pos'] a pos) (tS g (dFldSL L f i da)) := by
  subst hC
  have e2 := cf.L
  subst e2
  refine psImp (ss_fldS ok cf.cls rfl (by rw [cf.nm]; exact hn) ho hv hs) fun D σ H ⟨F, env, S, go⟩ => ⟨F, env, S, ?_⟩
  have : dFldSL g.C.L f i da env = dFldS g.C f i da env := by
    unfold dFldSL dFldS
    congr 1
    funext x e1
    congr 1
    funext p e2
    cases q : e2[i]? with
    | none => rfl
    | some sl =>
      cases sl with
      | no => rfl
      | fz z => rfl
      | ow b z =>
        cases z <;> simp only [semFldS] <;> first | rfl | skip
        split <;> rfl
  rw [← this]
  exact go
theorem se_isB {T : String} {ce : Pos} (hC : g.C = C) (ok : Ok X g) (cf : CF C L nm) (hT : T ∈ bTys) (hm : X.mg "isinstance" = none) (hg : Gl X "isinstance") (hmT : X.mg (Str.ofString T) = none) (hgT : Gl X (Str.ofString T)) (ha : PE X e (tE g da))
    (hn : (Str.ofString T) ≠ "__name__") (hd : ((Str.ofString T) == ("__debug__" : Str)) = false)
    (hs : starEach [e, .Name (Str.ofString T) ce] X.env = (false, eval e X.env) :: starEach [.Name (Str.ofString T) ce] X.env) (hs2 : starEach [.Name (Str.ofString T) ce] X.env = (false, eval (.Name (Str.ofString T) ce) X.env) :: starEach [] X.env) (hpl : (backTo pos (starEach [.Name (Str.ofString T) ce] X.env)).any (·.1) = false) :
    PE X (.Call (.Name "isinstance" p) [e, .Name (Str.ofString T) ce] [] pos) (tE g (dIsi (ansB T) da)) := by
  subst hC
  exact se_isi ok cf.cls cf.ins (ansB_ok cf hT) (fun _ _ => rfl) (fun _ _ => rfl) hm hg ha (pe_bltn hgT hmT (boot_ty T hT) (show RelV (.ty T) (.type T) from rfl) hn hd) (.ty T) hs hs2 hpl
theorem se_fnC (hC : g.C = C) (c : C8.Cal X.prog X.w X.K X.mg X.base k x (SpV C md fn) dvs) (hr : Room j X.A) (hk : k ≤ j) (hg : Gl X x) (hd : ∀ F, Rs g.C F dps dvs) (ha : PA X (e :: es) (tAs g (dArgs ds)))
    (hdb : (x == ("__debug__" : Str)) = false) (he : starEach (e :: es) X.env = (false, eval e X.env) :: starEach es X.env) (hpl : (backTo pos (starEach es X.env)).any (·.1) = false) :
    PE X (.Call (.Name x p) (e :: es) [] pos) (tE g (dFn md fn dps ds)) := by
  subst hC; exact se_fn c hr hk hg hd ha hdb he hpl
theorem se_mkC {c : Nat} {ca : Addr} (hC : g.C = C) (hca : C.ad c = ca) (cm : C8.Mak X.prog X.w X.K X.mg X.base k x ca (SpV C (true :: md) fn) dvs) (hr : Room j X.A) (hk : k + 1 ≤ j) (hg : Gl X x) (hd : ∀ F, Rs g.C F dps dvs) (ha : PA X (e :: es) (tAs g (dArgs ds)))
    (hdb : (x == ("__debug__" : Str)) = false) (he : starEach (e :: es) X.env = (false, eval e X.env) :: starEach es X.env) (hpl : (backTo pos (starEach es X.env)).any (·.1) = false) :
    PE X (.Call (.Name x p) (e :: es) [] pos) (tE g (dMk c md fn dps ds)) := by
  subst hC; subst hca; exact se_mk cm hr hk hg hd ha hdb he hpl
theorem rs_nil0 : ∀ F, Rs C F [] [] := fun _ => Rs.nil
theorem rs_non1 : ∀ F, Rs C F [.non] [.non] := fun _ => Rs.cons (by unfold R; rfl) Rs.nil
theorem rs_str1 {x : Str} : ∀ F, Rs C F [.str x] [.str x] := fun _ => Rs.cons (by unfold R; rfl) Rs.nil
theorem rs_int1 {x : Int} : ∀ F, Rs C F [.int x] [.int x] := fun _ => Rs.cons (by unfold R; rfl) Rs.nil
end
end VL

set_option maxRecDepth 100000
set_option maxHeartbeats 2000000
namespace VL
open PySem PySem.Spec L2
open PyProof.Rows hiding St
/-! ### {k: v for t in i if c} -/
def dcL (vs : List Nat) (u : UG) (dt : Option (Env' → Res Bool)) (dk dv : Env' → Res Val) : List PV → List Key → List PV → Env' → Res (List Key × List PV)
  | [], ks, xs, e => .ok (ks, xs) e
  | p :: ps, ks, xs, e => if freeS vs e = true then match u p (blkE vs e) with
    | none => .bad
    | some e1 => match dtO dt e1 with
      | .ok false e2 => dcL vs u dt dk dv ps ks xs (outE vs e e2)
      | .ok true e2 => match dk e2 with
        | .ok kx e3 => match frz kx e3 with
          | .ok kp e4 => match keyP kp with
            | some k => match dv e4 with
              | .ok x e5 => match frz x e5 with
                | .ok q e6 => if ks.length < big then dcL vs u dt dk dv ps (putP ks xs k q).1 (putP ks xs k q).2 (outE vs e e6) else .bad
                | _ => .bad
              | _ => .bad
            | none => .bad
          | _ => .bad
        | _ => .bad
      | _ => .bad
    else .bad
def dDc (vs : List Nat) (di : Env' → Res (List PV)) (u : UG) (dt : Option (Env' → Res Bool)) (dk dv : Env' → Res Val) : Env' → Res Val := fun e => (di e).bind fun ps e1 => (dcL vs u dt dk dv ps [] [] e1).bind fun qs e2 => .ok (.new (.dK qs.1 qs.2)) e2
structure DcS (g : Gm) (F H : Hp) (σ : St) (env : Env') (D : Addr) (ks : List Key) (xs : List PV) : Prop where
  S : Stt g F H σ env
  cell : ∃ kvs, H D = some (.dK kvs) ∧ kvs.map Prod.fst = ks ∧ Rs g.C F xs (kvs.map Prod.snd)
  hF : F D = none
  h0 : g.H0 D = none
  hO : ¬ g.O D
  hn : ∀ (i : Nat) b q, env[i]? = some (.ow b q) → σ[i]? ≠ some (some (.ref D))
section
variable {X : Cx} {g : Gm} {pins : List (Addr × Obj)} {F H F' H' F2 H2 : Hp} {σ σ2 : St} {env env' env2 : Env'} {s : Shared}
theorem DcS.start (S : Stt g F H σ env) {D : Addr} (hD : H D = none) : DcS g F (upd H D (.dK [])) σ env D [] [] := by
  obtain ⟨n1, n2, n3⟩ := S.new0 hD
  refine ⟨S.grow (ex_alloc hD), ⟨[], upd_same, rfl, Rs.nil⟩, n1, n2, n3, fun i b q e z => ?_⟩
  obtain ⟨a, e1, e2, _⟩ := S.ow i b q e
  rw [z] at e1; cases e1
  obtain ⟨o, ho⟩ := e2.cell
  rw [hD] at ho; cases ho
theorem DcS.noO {D : Addr} {ks : List Key} {xs : List PV} (L : DcS g F H σ env D ks xs) : ¬ (subG g F H σ env).O D := fun z => by
  obtain ⟨i, b, p, h1, h2⟩ := subG_O z
  exact L.hn i b p h1 h2
theorem DcS.turn {D : Addr} {ks : List Key} {xs : List PV} {vs : List Nat} (L : DcS g F H σ env D ks xs) (S2 : Stt (subG g F H σ env) F2 H2 σ2 env2) (hf : freeS vs env = true) (hσ : wipe σ2 vs = wipe σ vs) : Ex F F2 ∧ DcS g F2 H2 σ (outE vs env env2) D ks xs := by
  obtain ⟨x, S'⟩ := L.S.leave S2 hf hσ
  obtain ⟨ws, h1, h2, h3⟩ := L.cell
  refine ⟨x, S', ⟨ws, (S2.frame D _ h1 L.noO).eq (fun _ z => by cases z), h2, h3.mono x.le⟩, ?_, L.h0, L.hO, fun i b q e z => ?_⟩
  · cases q : F2 D with
    | none => rfl
    | some o =>
      rcases S2.fresh D o q with z | z
      · have z : F D = some o := z
        rw [L.hF] at z; cases z
      · have z : H D = none := z
        rw [h1] at z; cases z
  · obtain ⟨hl, e⟩ := outE_at e
    split at e
    · exact L.hn i b q (getD_at e.symm (by simp)) z
    · obtain ⟨p0, c, h1, h2⟩ := outS_ow e.symm
      exact L.hn i b p0 (getD_at h1 (by simp)) z
theorem DcS.put {D : Addr} {ks : List Key} {xs : List PV} {y : V} {q : PV} {k : Key} {kvs : List (Key × V)} (L : DcS g F H σ env D ks xs) (hD : H D = some (.dK kvs)) (r : R g.C F q y) : DcS g F (upd H D (.dK (putK kvs k y))) σ env D (putP ks xs k q).1 (putP ks xs k q).2 := by
  obtain ⟨ws', h1, h2, h3⟩ := L.cell
  rw [hD] at h1; cases h1
  obtain ⟨z1, z2⟩ := putP_r (k := k) h3 r
  subst h2
  exact ⟨L.S.poke hD ⟨fun _ z => (by cases z), fun _ z => (by cases z)⟩ L.hF L.h0 L.hO L.hn, ⟨_, upd_same, z1, z2⟩, L.hF, L.h0, L.hO, L.hn⟩
theorem DcS.done {D : Addr} {ks : List Key} {xs : List PV} (L : DcS g F H σ env D ks xs) : RV g F H σ env (.new (.dK ks xs)) (.ref D) := by
  obtain ⟨ws, h1, h2, h3⟩ := L.cell
  exact ⟨D, rfl, by simp only [R1]; exact ⟨ws, h1, h2, h3⟩, L.hF, L.h0, L.hn⟩
theorem dc_turns {vs js : List Nat} {u : UG} {dt : Option (Env' → Res Bool)} {dk dv : Env' → Res Val} {J : It} {ps : List PV} {F1 H1 : Hp} {env1 : Env'} {Q : VK} (hj : ∀ j ∈ js, j ∈ vs)
    (S1 : Stt g F1 H1 σ env1) (w : WalkP g.C J F1 ps) (go : Go g F1 σ ((dcL vs u dt dk dv ps [] [] env1).bind fun qs e2 => .ok (.new (.dK qs.1 qs.2)) e2) fun x env' F' H' => ∀ v, RV g F' H' σ env' x v → Q v H') :
    ∀ D, H1 D = none → ∃ W : Nat → Nat → Hp → Prop, (∃ m, W 0 m (upd H1 D (.dK []))) ∧ ∀ i m H, W i m H →
      (J.stop i H ∧ Q (.ref D) H) ∨ (J.go i H ∧ ∃ Nx : Hp → Prop, (∀ H', Nx H' → ∃ m', m' < m ∧ W (i + 1) m' H') ∧ ∀ x H', J.yld i H x H' → (∃ g' : Gm, g'.C = g.C ∧ tG g' u js x (wipe σ vs) H' fun σ2 H2 => wipe σ2 vs = wipe σ vs ∧ tT g' (dtO dt) σ2 H2 fun b H3 =>
        if b = true then tE g' dk σ2 H3 fun y H4 => tE g' dv σ2 H4 fun z H5 => ∃ kvs k, y = kV k ∧ H5 D = some (.dK kvs) ∧ kvs.length < sizeLine ∧ Nx (upd H5 D (.dK (putK kvs k z))) else Nx H3)) := by
  intro D hD
  refine ⟨fun i m H => ∃ F env ks xs, Ex F1 F ∧ DcS g F H σ env D ks xs ∧ m = ps.length - i ∧ i ≤ ps.length ∧ Go g F σ ((dcL vs u dt dk dv (ps.drop i) ks xs env).bind fun qs e2 => .ok (.new (.dK qs.1 qs.2)) e2) fun x env' F' H' => ∀ v, RV g F' H' σ env' x v → Q v H',
    ⟨ps.length, F1, env1, [], [], Ex.refl F1, DcS.start S1 hD, by omega, Nat.zero_le _, by rw [List.drop_zero]; exact go⟩, ?_⟩
  rintro i m H ⟨F, env, ks, xs, x1, L, rfl, hle, go1⟩
  by_cases hlt : i < ps.length
  · right
    have hd : ps.drop i = ps[i] :: ps.drop (i + 1) := List.drop_eq_getElem_cons hlt
    rw [hd] at go1
    unfold dcL at go1
    split at go1
    · rename_i hf
      have Se := L.S.enter vs
      refine ⟨w.goes (subG g F H σ env) i F H _ _ rfl hlt x1 Se, fun H' => ∃ F env ks xs, Ex F1 F ∧ DcS g F H' σ env D ks xs ∧ Go g F σ ((dcL vs u dt dk dv (ps.drop (i + 1)) ks xs env).bind fun qs e2 => .ok (.new (.dK qs.1 qs.2)) e2) fun x env' F' H' => ∀ v, RV g F' H' σ env' x v → Q v H', fun H' ⟨F, env, ks, xs, x, L, q⟩ => ⟨ps.length - (i + 1), by omega, F, env, ks, xs, x, L, rfl, hlt, q⟩, fun x H' y => ?_⟩
      refine ⟨subG g F H σ env, rfl, ?_⟩
      obtain ⟨F2, x2, S2, r2⟩ := w.ylds (subG g F H σ env) i ps[i] F H _ _ x H' rfl (List.getElem?_eq_getElem hlt) x1 Se y
      cases hu : u ps[i] (blkE vs env) with
      | none => simp only [hu] at go1; exact go1.elim
      | some e1 =>
        simp only [hu] at go1
        refine ⟨F2, _, ps[i], e1, S2, r2, hu, fun σ' S' ln ag => ?_⟩
        have hw : wipe σ' vs = wipe σ vs := wipe_agree (by rw [ln, wipe_length]) hj ag
        refine ⟨hw, F2, e1, S', ?_⟩
        cases ht : dtO dt e1 with
        | bad => simp only [ht] at go1; exact go1.elim
        | err y e' => simp only [ht] at go1; exact go1.elim
        | ok b e2 =>
          simp only [ht] at go1
          intro F3 H3 x3 S3
          cases b with
          | false =>
            obtain ⟨x4, L4⟩ := L.turn S3 hf hw
            exact ⟨F3, _, ks, xs, x1.trans x4, L4, Go.up go1 x4⟩
          | true =>
            refine ⟨F3, e2, S3, ?_⟩
            dsimp only at go1
            cases hd : dk e2 with
            | bad => simp only [hd] at go1; exact go1.elim
            | err y e' => simp only [hd] at go1; exact go1.elim
            | ok z e3 =>
              simp only [hd] at go1
              intro F4 H4 x4 S4 v rv
              cases hq : frz z e3 with
              | bad => simp only [hq] at go1; exact go1.elim
              | err y e' => simp only [hq] at go1; exact go1.elim
              | ok kp e4 =>
                simp only [hq] at go1
                obtain ⟨F5, x5, S5, r5⟩ := frz_ok S4 rv hq
                cases hk : keyP kp with
                | none => simp only [hk] at go1; exact go1.elim
                | some k =>
                  simp only [hk] at go1
                  obtain rfl := keyP_r r5 hk
                  refine ⟨F5, e4, S5, ?_⟩
                  cases hdv : dv e4 with
                  | bad => simp only [hdv] at go1; exact go1.elim
                  | err y e' => simp only [hdv] at go1; exact go1.elim
                  | ok z2 e5 =>
                    simp only [hdv] at go1
                    intro F6 H6 x6 S6 v2 rv2
                    cases hq2 : frz z2 e5 with
                    | bad => simp only [hq2] at go1; exact go1.elim
                    | err y e' => simp only [hq2] at go1; exact go1.elim
                    | ok q e6 =>
                      simp only [hq2] at go1
                      split at go1
                      · rename_i hlen
                        obtain ⟨F7, x7, S7, r7⟩ := frz_ok S6 rv2 hq2
                        obtain ⟨x8, L8⟩ := L.turn S7 hf hw
                        obtain ⟨kvs, c1, c2, c3⟩ := L8.cell
                        refine ⟨kvs, k, rfl, c1, ?_, F7, _, _, _, x1.trans x8, L8.put c1 r7, Go.up go1 x8⟩
                        rw [← c2, List.length_map] at hlen
                        rw [big_eq]; exact hlen
                      · exact go1.elim
    · exact go1.elim
  · left
    have e : i = ps.length := by omega
    subst e
    rw [List.drop_length] at go1
    unfold dcL at go1
    exact ⟨w.stops g F H σ env rfl x1 L.S, go1 F H (Ex.refl F) L.S _ L.done⟩
theorem tDc_of {vs js : List Nat} {di : Env' → Res (List PV)} {u : UG} {dt : Option (Env' → Res Bool)} {dk dv : Env' → Res Val} (hj : ∀ j ∈ js, j ∈ vs) {Q : VK} (h : tE g (dDc vs di u dt dk dv) σ H Q) :
    tDc (tI g di) (xG g.C u js) (xT g.C (dtO dt)) (xE g.C dk) (xE g.C dv) vs σ H Q := by
  obtain ⟨F, env, S, go⟩ := h
  refine ⟨F, env, S, (Go.bind go).mono fun ps e1 F1 H1 x1 S1 k J w => ?_⟩
  intro D hD
  obtain ⟨W, w0, turn⟩ := dc_turns hj S1 w k D hD
  refine ⟨W, w0, fun i m H hw => ?_⟩
  rcases turn i m H hw with z | ⟨go, Nx, hN, step⟩
  · exact .inl z
  · refine .inr ⟨go, Nx, hN, fun x H' y => ?_⟩
    obtain ⟨g', hC, q⟩ := step x H' y
    refine ⟨g', hC, tG_mono (fun σ2 H2 ⟨hw, q2⟩ => ⟨hw, g', hC, tT_mono (fun b H3 q3 => ?_) q2⟩) q⟩
    cases b with
    | false => exact q3
    | true => exact ⟨g', hC, tE_mono (fun y H4 q4 => ⟨g', hC, q4⟩) q3⟩
theorem se_dc {kx vx tg iter : Expr} {ifs : List Expr} {scope : Scope} {pos : Pos} {vs js : List Nat} {di : Env' → Res (List PV)} {u : UG} {dt : Option (Env' → Res Bool)} {dk dv : Env' → Res Val} (own : List (Str × Nat)) (ok : Ok X g) (hN : X.N.Nodup)
    (hi : PI X tg iter (tI g di)) (bk : BlkOk X.N X.env.scope scope own) (hv : own.map (·.2) = vs) (hj : ∀ j ∈ js, j ∈ vs)
    (hg : ∀ (s : Shared) (H : Hp) (C : Addr) (cl : List (Str × Addr)) (fp : List Addr) (g' : Gm), g'.C = g.C → Ok (X.blk s H scope (compEnvC scope cl C X.env) fp) g' → PG (X.blk s H scope (compEnvC scope cl C X.env) fp) tg (tG g' u js))
    (ht : ∀ (s : Shared) (H : Hp) (C : Addr) (cl : List (Str × Addr)) (fp : List Addr) (g' : Gm), g'.C = g.C → Ok (X.blk s H scope (compEnvC scope cl C X.env) fp) g' → PTs (X.blk s H scope (compEnvC scope cl C X.env) fp) ifs (tT g' (dtO dt)))
    (hk : ∀ (s : Shared) (H : Hp) (C : Addr) (cl : List (Str × Addr)) (fp : List Addr) (g' : Gm), g'.C = g.C → Ok (X.blk s H scope (compEnvC scope cl C X.env) fp) g' → PE (X.blk s H scope (compEnvC scope cl C X.env) fp) kx (tE g' dk))
    (he : ∀ (s : Shared) (H : Hp) (C : Addr) (cl : List (Str × Addr)) (fp : List Addr) (g' : Gm), g'.C = g.C → Ok (X.blk s H scope (compEnvC scope cl C X.env) fp) g' → PE (X.blk s H scope (compEnvC scope cl C X.env) fp) vx (tE g' dv))
    (hs : ∀ x, foldedSetIterable iter X.env x = pure x) : PE X (.DictComp kx vx [⟨tg, iter, ifs, 0⟩] scope pos) (tE g (dDc vs di u dt dk dv)) := by
  subst hv
  exact peImp (pe_dc ok.calm hN hi bk (fun s H C cl fp => xG_of fun g' hC => hg s H C cl fp g' hC (ok_blk ok hC)) (fun s H C cl fp => xT_of fun g' hC => ht s H C cl fp g' hC (ok_blk ok hC)) (fun s H C cl fp => xE_of fun g' hC => hk s H C cl fp g' hC (ok_blk ok hC)) (fun s H C cl fp => xE_of fun g' hC => he s H C cl fp g' hC (ok_blk ok hC)) hs) fun σ H Q h => tDc_of hj h
end
end VL

set_option maxRecDepth 100000
set_option maxHeartbeats 2000000
namespace VL
open PySem PySem.Spec L2
open PyProof.Rows hiding St
/-! ### a comprehension's clauses, one rule for each of them -/
/-- the code of one turn of a clause: rest is what is done with the item stored, and the next turn -/
def turnOf (it : Value) (env : Env) (p : Pos) (t : Expr) (rest : Sem PySem.Fin) : Sem PySem.Fin := do
  standAt p
  match ← pyNext it with
  | none => pure (.done .next)
  | some v =>
    letOwnedTupleGo t it v
    assign t env v
    rest
/-- the tests of a clause, then something, then the next turn -/
def restOf (cs : List Expr) (env : Env) (act : Sem Unit) (c : Code) : Sem PySem.Fin := do
  let mut ok := true
  for e in cs do
    if ok then ok ← isTrue e env (eval e env)
  if ok then
    act
  again c
section
variable {Y : Cx} {tg : Expr} {fp : List Addr} {it : Addr} {tn : Nat → Heap → Prop} {J : It} {g : TG} {pins : List (Addr × Obj)} {E : Expr} {l : Nat} {acc : Value} {p : Pos} {rest : Sem PySem.Fin} {R : Result → Shared → Prop} {σ : L2.St}
/-- what stands at the beginning of a turn -/
def AtTurn (Y : Cx) (pins : List (Addr × Obj)) (fp : List Addr) (tn : Nat → Heap → Prop) (σ : L2.St) (W : Nat → Nat → Hp → Prop) (m : Nat) (s : Shared) : Prop :=
  ∃ i H, Inv Y pins σ H s ∧ tn i s.heap ∧ (∀ b ∈ fp, H b = none) ∧ W i m H
/-- slots that know what σ knows -/
def Knows (σ τ : L2.St) : Prop := σ.length = τ.length ∧ ∀ (j : Nat) v, σ[j]? = some (some v) → τ[j]? = some (some v)
/-- ONE CLAUSE: the turns go by W, which falls; each turn's rest comes back to the clause's code with the next W -/
theorem one_clause (hx : ∀ e s, ¬ Y.xe e s) (hc : Y.calm = true) (T : Turn Y.prog Y.w Y.K tg J fp it tn) (pg : PG Y tg g) (hE : compTurn E l (.ref it) acc Y.env = turnOf (.ref it) Y.env p tg rest) (hl : (Code.compLoop E l (.ref it) acc Y.env).quiet = true)
    (hden : (model Y.prog Y.w).den (.compLoop E l (.ref it) acc Y.env) = (compTurn E l (.ref it) acc Y.env).onRaise (fun x => do noteFrame x Y.env; theTreesLotGoes x)) (hu : Y.A.under (.compLoop E l (.ref it) acc Y.env) = Y.A)
    {W : Nat → Nat → Hp → Prop} {Z : Hp → Prop} (hfp : ∀ {H : Hp} {s : Shared}, Inv Y pins σ H s → (∀ b ∈ fp, H b = none) → ∀ b ∈ fp, FpOk Y pins H b)
    (turn : ∀ i m H, W i m H → (J.stop i H ∧ Z H) ∨ (J.go i H ∧ ∃ Nx : Hp → Prop, (∀ H', Nx H' → ∃ m', m' < m ∧ W (i + 1) m' H') ∧ ∀ x H1, J.yld i H x H1 → ∃ Φ, g x σ H1 Φ ∧ ∀ σ2 H2, Φ σ2 H2 → ∀ (more : List (Addr × Obj)) (s : Shared), Inv Y (pins ++ more) σ2 H2 s →
      wpAny (model Y.prog Y.w) Y.A rest (fun f s' => f = .again (.compLoop E l (.ref it) acc Y.env) ∧ ∃ σ3 H3, Inv Y (pins ++ more) σ3 H3 s' ∧ Knows σ σ3 ∧ Nx H3) (fun _ _ => False) s))
    (out : ∀ H s, Inv Y pins σ H s → Z H → R (.ok .next) s) {m : Nat} {s : Shared} (h : AtTurn Y pins fp tn σ W m s) : codeAny (model Y.prog Y.w) Y.A (.compLoop E l (.ref it) acc Y.env) R s := by
  refine codeAny_loop hl (AtTurn Y pins fp tn σ W) (fun m s ⟨i, H, I, st, no, w⟩ => ?_) m h
  rw [hu, hden, hE]
  refine wpAny_noted (wpAny_bind (wpAny_standAt (wpAny_bind ?_)))
  cases turn i m H w with
  | inl q =>
    refine thnF (T.done Y rfl rfl rfl hc i pins s σ H _ I (hfp I no) st q.1) ?_
    rintro r s1 ⟨rfl, I1⟩
    exact wpAny_pure (out H s1 I1 q.2)
  | inr q =>
    obtain ⟨go, Nx, fall, step⟩ := q
    refine thnF (T.item Y rfl rfl rfl hc i pins s σ H _ I (hfp I no) st go) ?_
    rintro r s1 ⟨u, rfl, hu1⟩
    refine wpAny_bind (thnF hu1 ?_)
    rintro _ s2 ⟨x, H2, I2, ru, y2, st2, no2⟩
    have P2 := I2.pinned (hfp I2 no2) (T.obj _ _ st2)
    obtain ⟨Φ, hΦ, k⟩ := step x H2 y2
    refine wpAny_bind (wpAny_mono (pg.run _ s2 σ H2 x u _ P2 ru hΦ) ?_ fun e s' z => (hx e s' z).elim)
    rintro _ s3 ⟨σ3, H3, I3, kΦ⟩
    refine thnF (k σ3 H3 kΦ _ s3 I3) ?_
    rintro f s4 ⟨rfl, σ4, H4, I4, ⟨len, kn⟩, nx⟩
    obtain ⟨m', lt, w'⟩ := fall H4 nx
    have pin : ∀ b ∈ fp, ∀ o, s2.heap.get? b = some o → s4.heap.get? b = some o ∧ H4 b = none := fun b hb o e => by
      have z := I4.pin (b, o) (List.mem_append_right _ (List.mem_append_right _ (mem_pinsAt hb e)))
      exact ⟨z.1, z.2.1⟩
    refine ⟨rfl, m', lt, i + 1, H4, I4.unpinned.weak len kn, T.keep _ _ _ st2 fun b hb o e => (pin b hb o e).1, fun b hb => ?_, w'⟩
    obtain ⟨o, e, _⟩ := T.obj _ _ st2 b hb
    exact (pin b hb o e).2
/-- the rest of a turn: tests, then an act, then the next turn -/
theorem rest_ok {cs : List Expr} {tt : TT} {act : Sem Unit} {c : Code} {σ2 : L2.St} {H2 : Hp} {s : Shared} {P : PySem.Fin → Shared → Prop} (hx : ∀ e s, ¬ Y.xe e s) (pt : PTs Y cs tt) (I : Inv Y pins σ2 H2 s) {Φ : Bool → Hp → Prop} (ht : tt σ2 H2 Φ) (h : ∀ b H3, Φ b H3 → ∀ s', Inv Y pins σ2 H3 s' →
      if b = true then wpAny (model Y.prog Y.w) Y.A act (fun _ s'' => P (.again c) s'') (fun _ _ => False) s' else P (.again c) s') :
    wpAny (model Y.prog Y.w) Y.A (restOf cs Y.env act c) P (fun _ _ => False) s := by
  refine wpAny_bind (wpAny_mono (pt.run pins s σ2 H2 _ I ht) ?_ fun e s' z => (hx e s' z).elim)
  rintro b s1 ⟨H3, I3, q⟩
  have q := h b H3 q s1 I3
  cases b with
  | false =>
    rw [if_neg Bool.false_ne_true] at q
    exact wpAny_pure q
  | true =>
    rw [if_pos rfl] at q
    exact wpAny_bind (wpAny_mono q (fun _ _ z => wpAny_pure z) fun _ _ z => z)
end
/-! ### {k: v for t0 in i0 if .. for t1 in i1 if ..} -/
abbrev dc2X (kx vx t0 i0 t1 i1 : Expr) (c0 c1 : List Expr) (sc : Scope) (pos : Pos) : Expr := .DictComp kx vx [⟨t0, i0, c0, 0⟩, ⟨t1, i1, c1, 0⟩] sc pos
/-- the first clause's rest: tests, then the second clause is begun -/
def restOut (cs : List Expr) (E i1 : Expr) (acc : Value) (env : Env) (c : Code) : Sem PySem.Fin := do
  let mut ok := true
  for e in cs do
    if ok then ok ← isTrue e env (eval e env)
  if ok then
    let x ← eval i1 env
    standAt i1.pos
    let x ← foldedSetIterable i1 env x
    let _ ← runOwn (.compStart E 1 (← holding [x] (pyIter x)) acc env) env
  again c
/-- an entry is put in -/
def actIn (kx vx : Expr) (D : Addr) (env : Env) : Sem Unit := do
  let k ← eval kx env
  let v ← holding [k] (eval vx env)
  standAt { kx.pos with endLine := vx.pos.endLine, endCol := vx.pos.endCol }
  holding [k, v] (dictSet D k v)
section
variable {kx vx t0 i0 t1 i1 : Expr} {c0 c1 : List Expr} {sc : Scope} {pos : Pos} {it acc : Value} {env : Env} {D : Addr}
theorem turn_out : compTurn (dc2X kx vx t0 i0 t1 i1 c0 c1 sc pos) 0 it acc env = turnOf it env i0.pos t0 (restOut c0 (dc2X kx vx t0 i0 t1 i1 c0 c1 sc pos) i1 acc env (.compLoop (dc2X kx vx t0 i0 t1 i1 c0 c1 sc pos) 0 it acc env)) := by rfl
theorem turn_in : compTurn (dc2X kx vx t0 i0 t1 i1 c0 c1 sc pos) 1 it (.ref D) env = turnOf it env i1.pos t1 (restOf c1 env (actIn kx vx D env) (.compLoop (dc2X kx vx t0 i0 t1 i1 c0 c1 sc pos) 1 it (.ref D) env)) := by rfl
/-- the second clause's code, from its loop -/
theorem start_in {prog : Program} {w : World} {A : Around} {R : Result → Shared → Prop} {s : Shared} (h0 : codeAny (model prog w) A (.compLoop (dc2X kx vx t0 i0 t1 i1 c0 c1 sc pos) 1 it acc env) R s)
    (hi : ∀ (Q : Value → Shared → Prop) (E : Value → Shared → Prop), Q it s → wpAny (model prog w) A (pyIter it) Q E s) : codeAny (model prog w) A (.compStart (dc2X kx vx t0 i0 t1 i1 c0 c1 sc pos) 1 it acc env) R s := by
  refine codeAny_of_tree ?_
  show wpAny _ _ ((compStart (dc2X kx vx t0 i0 t1 i1 c0 c1 sc pos) 1 it acc env).onRaise fun x => do noteFrame x env; standAt theWindowsPlace) _ _ s
  refine wpAny_notedAt ?_
  unfold compStart
  refine wpAny_bind (m := ask) (wpAny_askSetting (wpAny_ite ?_))
  split
  · first | exact wpAny_pure ⟨rfl, h0⟩ | exact wpAny_bind (wpAny_pure (wpAny_pure ⟨rfl, h0⟩))
  · refine wpAny_bind (wpAny_rule ?_)
    show wpAny _ _ (standAt i1.pos >>= _) _ _ s
    exact wpAny_bind (wpAny_standAt (wpAny_bind (hi _ _ (wpAny_pure ⟨rfl, h0⟩))))
end
section
variable {Y : Cx} {E i1 : Expr} {acc : Value} {cs : List Expr} {tt : TT} {c : Code} {σ2 : L2.St} {H2 : Hp} {s : Shared} {P : PySem.Fin → Shared → Prop} {pins : List (Addr × Obj)} {tg1 : Expr} {wi1 : TI}
theorem restOut_ok (hx : ∀ e s, ¬ Y.xe e s) (pt : PTs Y cs tt) (pi : PI Y tg1 i1 wi1) (hs : ∀ x, foldedSetIterable i1 Y.env x = pure x) (I : Inv Y pins σ2 H2 s)
    {Φ : Bool → Hp → Prop} (ht : tt σ2 H2 Φ) (h : ∀ b H3, Φ b H3 → if b = true then ∃ Ψ, wi1 σ2 H3 Ψ ∧ ∀ J H4, Ψ J H4 → ∀ (it : Addr) (fp : List Addr) (tn : Nat → Heap → Prop) (s' : Shared), Inv Y pins σ2 H4 s' → Turn Y.prog Y.w Y.K tg1 J fp it tn → tn 0 s'.heap → (∀ b ∈ fp, FpOk Y pins H4 b) →
        codeAny (model Y.prog Y.w) Y.A (.compStart E 1 (.ref it) acc Y.env) (fun r s'' => (∃ f, r = .ok f) ∧ P (.again c) s'') s'
      else ∀ s', Inv Y pins σ2 H3 s' → P (.again c) s') :
    wpAny (model Y.prog Y.w) Y.A (restOut cs E i1 acc Y.env c) P (fun _ _ => False) s := by
  refine wpAny_bind (wpAny_mono (pt.run pins s σ2 H2 _ I ht) ?_ fun e s' z => (hx e s' z).elim)
  rintro b s1 ⟨H3, I3, q⟩
  have q := h b H3 q
  cases b with
  | false =>
    rw [if_neg Bool.false_ne_true] at q
    exact wpAny_pure (q s1 I3)
  | true =>
    rw [if_pos rfl] at q
    obtain ⟨Ψ, hΨ, k⟩ := q
    refine wpAny_bind (wpAny_mono (pi.run pins s1 σ2 H3 _ I3 hΨ) ?_ fun e s' z => (hx e s' z).elim)
    intro x s2 hit
    refine wpAny_bind (wpAny_standAt (wpAny_bind (wpAny_of_eq (hs x) (wpAny_bind (wpAny_holding (wpAny_mono hit ?_ fun e s' z => (hx e s' z).elim))))))
    rintro itv s3 ⟨it, fp, tn, J, H4, rfl, I4, T, st, f, kΨ⟩
    refine wpAny_bind (wpAny_runOwn ?_)
    rw [Around.mark_none]
    refine codeAny_mono (k J H4 kΨ it fp tn s3 I4 T st f) ?_
    rintro r s4 ⟨⟨f, rfl⟩, z⟩
    first | exact wpAny_pure z | exact wpAny_bind (wpAny_pure (wpAny_pure z))
end
/-- what a rule asks of a part of the block -/
abbrev InB (X : Cx) (sc : Scope) (P : Cx → Prop) : Prop := ∀ (s : Shared) (H : Hp) (C : Addr) (cl : List (Str × Addr)) (fp : List Addr), P (X.blk s H sc (compEnvC sc cl C X.env) fp)
section
variable {X : Cx}
/-- the readings: the first source's walk W, behind each store and test the second source's walk W1 -/
def tDc2 (wi : TI) (g : TG) (tt : TT) (wi1 : TI) (g1 : TG) (tt1 : TT) (tk tv : TE) (vs vs1 : List Nat) : TE := fun σ H Q => wi σ H fun J Ha => ∀ D, Ha D = none → ∃ W : Nat → Nat → Hp → Prop, (∃ m, W 0 m (upd Ha D (.dK []))) ∧ ∀ i m H, W i m H →
  (J.stop i H ∧ Q (.ref D) H) ∨ (J.go i H ∧ ∃ N : Hp → Prop, (∀ H', N H' → ∃ m', m' < m ∧ W (i + 1) m' H') ∧ ∀ x H', J.yld i H x H' → g x (wipe σ vs) H' fun τ Hb => wipe τ vs = wipe σ vs ∧ tt τ Hb fun b Hc =>
    if b = true then wi1 τ Hc fun J1 Hd => ∃ W1 : Nat → Nat → Hp → Prop, (∃ m, W1 0 m Hd) ∧ ∀ j k H, W1 j k H →
      (J1.stop j H ∧ N H) ∨ (J1.go j H ∧ ∃ N1 : Hp → Prop, (∀ H', N1 H' → ∃ k', k' < k ∧ W1 (j + 1) k' H') ∧ ∀ x H', J1.yld j H x H' → g1 x (wipe τ vs1) H' fun υ He => wipe υ vs1 = wipe τ vs1 ∧ tt1 υ He fun b Hf =>
        if b = true then tk υ Hf fun y Hg => tv υ Hg fun z Hh => ∃ kvs k, y = kV k ∧ Hh D = some (.dK kvs) ∧ kvs.length < sizeLine ∧ N1 (upd Hh D (.dK (putK kvs k z))) else N1 Hf)
    else N Hc)
theorem knows_wipe (σ : L2.St) (vs : List Nat) : Knows (wipe σ vs) σ := ⟨wipe_length _ _, fun j v e => (wipe_some e).1⟩
theorem knows_of {σ τ : L2.St} {vs : List Nat} (h : wipe τ vs = wipe σ vs) : Knows (wipe σ vs) τ := h ▸ knows_wipe τ vs
theorem knows_sub {σ τ : L2.St} {vs vs1 : List Nat} (hv : ∀ i ∈ vs1, i ∈ vs) (h : wipe τ vs = wipe σ vs) : Knows (wipe σ vs) (wipe τ vs1) := by
  refine ⟨?_, fun j v e => ?_⟩
  · rw [← h, wipe_length, wipe_length]
  · rw [← h] at e
    obtain ⟨e1, e2⟩ := wipe_some e
    rw [wipe_out fun z => e2 (hv j z)]
    exact e1
theorem Knows.trans {σ τ υ : L2.St} (h : Knows σ τ) (k : Knows τ υ) : Knows σ υ := ⟨h.1.trans k.1, fun j v e => k.2 j v (h.2 j v e)⟩
section
variable {pins : List (Addr × Obj)} {s : Shared} {σ : L2.St} {H : Hp} {kx vx tg iter tg1 iter1 : Expr} {ifs ifs1 : List Expr} {scope : Scope} {own : List (Str × Nat)} {vs1 : List Nat} {pos pos' : Pos} {wi wi1 : TI} {g g1 : TG} {tt tt1 : TT} {tk tv : TE}
/-- the block's frame, entered at s -/
abbrev blkEnv (X : Cx) (scope : Scope) (s : Shared) : Env := compEnvC scope (cellsFrom (s.heap.objs.size + 1) scope.names (cloFrom X.env.cells scope.names [])) s.heap.objs.size X.env
abbrev blkS (scope : Scope) (s : Shared) : Shared := { s with heap := pushCells (s.heap.push { cls := .type "dict", data := .dict #[] }) scope.names }
/-- both loops, from a state in which the new dict stands at D -/
theorem dc2_loops (hc : X.calm = true) (hN : X.N.Nodup) (I : Inv X pins σ H s) (ok : BlkOk X.N X.env.scope scope own) (hv : ∀ i ∈ vs1, i ∈ own.map (·.2)) (hg : InB X scope fun Y => PG Y tg g) (ht : InB X scope fun Y => PTs Y ifs tt)
    (hk : InB X scope fun Y => PE Y kx tk) (he : InB X scope fun Y => PE Y vx tv) (hi1 : InB X scope fun Y => PI Y tg1 iter1 wi1) (hg1 : InB X scope fun Y => PG Y tg1 g1) (ht1 : InB X scope fun Y => PTs Y ifs1 tt1) (hs1 : ∀ env x, foldedSetIterable iter1 env x = pure x)
    {it : Addr} {fp : List Addr} {tn : Nat → Heap → Prop} {J : It} (T : Turn X.prog X.w X.K tg J fp it tn) (st : tn 0 s.heap) (hf : ∀ b ∈ fp, FpOk X pins H b ∧ b < s.heap.objs.size) {D : Addr} {W : Nat → Nat → Hp → Prop} {Z : Hp → Prop} {m0 : Nat} (w0 : W 0 m0 H)
    (turn : ∀ i m H, W i m H → (J.stop i H ∧ Z H) ∨ (J.go i H ∧ ∃ N : Hp → Prop, (∀ H', N H' → ∃ m', m' < m ∧ W (i + 1) m' H') ∧ ∀ x H', J.yld i H x H' → g x (wipe σ (own.map (·.2))) H' fun τ Hb => wipe τ (own.map (·.2)) = wipe σ (own.map (·.2)) ∧ tt τ Hb fun b Hc =>
      if b = true then wi1 τ Hc fun J1 Hd => ∃ W1 : Nat → Nat → Hp → Prop, (∃ m, W1 0 m Hd) ∧ ∀ j k H, W1 j k H →
        (J1.stop j H ∧ N H) ∨ (J1.go j H ∧ ∃ N1 : Hp → Prop, (∀ H', N1 H' → ∃ k', k' < k ∧ W1 (j + 1) k' H') ∧ ∀ x H', J1.yld j H x H' → g1 x (wipe τ vs1) H' fun υ He => wipe υ vs1 = wipe τ vs1 ∧ tt1 υ He fun b Hf =>
          if b = true then tk υ Hf fun y Hg => tv υ Hg fun z Hh => ∃ kvs k, y = kV k ∧ Hh D = some (.dK kvs) ∧ kvs.length < sizeLine ∧ N1 (upd Hh D (.dK (putK kvs k z))) else N1 Hf)
      else N Hc))
    {R : Result → Shared → Prop} (out : ∀ s' m H', Inv X pins σ H' s' → Z H' → s'.heap.Ns s.heap.objs.size m → FpOk X pins H' s.heap.objs.size → R (.ok .next) s') :
    codeAny (model X.prog X.w) X.A (.compLoop (dc2X kx vx tg iter tg1 iter1 ifs ifs1 scope pos) 0 (.ref it) (.ref D) (blkEnv X scope s)) R (blkS scope s) := by
  have I4 := block_start I ok hN hf
  refine one_clause (Y := X.blk s H scope (blkEnv X scope s) fp) (pins := []) (σ := wipe σ (own.map (·.2))) (fun _ _ z => z) hc T (hg s H _ _ fp) turn_out rfl rfl rfl ?_ (W := W) (Z := Z) ?_ ?_
    ⟨0, H, I4, T.keep _ _ _ st fun b _ o e => pushCells_keeps _ _ _ _ (Heap.get?_push_of_some _ e), fun b hb => (hf b hb).1.1, w0⟩
  · intro H' s' I' no b hb
    exact ⟨no b hb, (I'.ok.exf b hb).1, I'.ok.exfs b hb, .inl hb, fun x c e => (I'.ok.exf b hb).2 x c e, fun p hp => absurd (show p ∈ ([] : List (Addr × Obj)) ++ [] from hp) (by simp)⟩
  · intro i m H5 w
    refine (turn i m H5 w).imp id ?_
    rintro ⟨go, N, fall, step⟩
    refine ⟨go, N, fall, fun x H6 y => ⟨_, step x H6 y, ?_⟩⟩
    rintro τ Hb ⟨hw, htt⟩ more s6 I6
    refine restOut_ok (fun _ _ z => z) (ht s H _ _ fp) (hi1 s H _ _ fp) (hs1 _) I6 htt ?_
    intro b Hc q
    cases b with
    | false => exact fun s7 I7 => ⟨rfl, τ, Hc, I7, knows_of hw, q⟩
    | true =>
      refine ⟨_, q, ?_⟩
      rintro J1 Hd ⟨W1, ⟨m1, w1⟩, turn1⟩ it1 fp1 tn1 s7 I7 T1 st1 f1
      refine start_in ?_ fun Q' E' hq => T1.self _ 0 _ _ _ st1 hq
      refine one_clause (Y := X.blk s H scope (blkEnv X scope s) fp) (pins := [] ++ more) (σ := wipe τ vs1) (fun _ _ z => z) hc T1 (hg1 s H _ _ fp) turn_in rfl rfl rfl (fun I' no b hb => ⟨no b hb, (f1 b hb).2⟩) (W := W1) (Z := N) ?_
        (fun H' s' I' z => ⟨⟨_, rfl⟩, rfl, wipe τ vs1, H', I', knows_sub hv hw, z⟩) ⟨0, Hd, I7.weak (wipe_length _ _) fun j v e => (wipe_some e).1, st1, fun b hb => (f1 b hb).1, w1⟩
      intro j k H8 w8
      refine (turn1 j k H8 w8).imp id ?_
      rintro ⟨go1, N1, fall1, step1⟩
      refine ⟨go1, N1, fall1, fun x1 H9 y1 => ⟨_, step1 x1 H9 y1, ?_⟩⟩
      rintro υ He ⟨hw1, htt1⟩ more1 s9 I9
      refine rest_ok (fun _ _ z => z) (ht1 s H _ _ fp) I9 htt1 ?_
      intro b Hf q1 s10 I10
      cases b with
      | false => exact ⟨rfl, υ, Hf, I10, knows_of hw1, q1⟩
      | true =>
        rw [if_pos rfl]
        rw [if_pos rfl] at q1
        refine wpAny_bind (wpAny_mono ((hk s H _ _ fp).run _ s10 υ Hf _ I10 q1) ?_ fun _ _ z => z.elim)
        rintro kv s11 ⟨yk, Hg, I11, rk, q2⟩
        refine wpAny_bind (wpAny_holding (wpAny_mono ((he s H _ _ fp).run _ s11 υ Hg _ I11 q2) ?_ fun _ _ z => z.elim))
        rintro vv s12 ⟨yv, Hh, I12, rv, kvs, ky, rfl, hD, hz, nx⟩
        exact wpAny_bind (wpAny_standAt (wpAny_holding (d_dictSet (X := X.blk s H scope (blkEnv X scope s) fp) I12 hD hz rk rv fun s13 I13 => ⟨rfl, υ, _, I13, knows_of hw1, nx⟩)))
  · intro H' s' I' z
    have Ix : Inv X pins σ H' s' := I.call' (ch := fp) I'.os I'.base I'.hok I'.bare fun b hb => ⟨(hf b hb).1.2.2.2.1, (hf b hb).1.2.1, (hf b hb).1.2.2.2.2.1, (hf b hb).1.2.2.2.2.2⟩
    have free : H' s.heap.objs.size = none := I'.free
    obtain ⟨m, hm, _⟩ := I'.loc
    exact out s' m H' Ix z hm (I.fpOk (Nat.le_refl _) free)
theorem dc2_core {Q : VK} {use : Option (Value → Sem Unit)} {Qf : Value → Shared → Prop} (hc : X.calm = true) (hN : X.N.Nodup) (I : Inv X pins σ H s) (hi : PI X tg iter wi) (ok : BlkOk X.N X.env.scope scope own) (hv : ∀ i ∈ vs1, i ∈ own.map (·.2)) (hg : InB X scope fun Y => PG Y tg g)
    (ht : InB X scope fun Y => PTs Y ifs tt) (hk : InB X scope fun Y => PE Y kx tk) (he : InB X scope fun Y => PE Y vx tv) (hs : ∀ x, foldedSetIterable iter X.env x = pure x) (hi1 : InB X scope fun Y => PI Y tg1 iter1 wi1) (hg1 : InB X scope fun Y => PG Y tg1 g1)
    (ht1 : InB X scope fun Y => PTs Y ifs1 tt1) (hs1 : ∀ env x, foldedSetIterable iter1 env x = pure x) (h : tDc2 wi g tt wi1 g1 tt1 tk tv (own.map (·.2)) vs1 σ H Q)
    (fin : ∀ D C s' m H', Inv X pins σ H' s' → Q (.ref D) H' → s'.heap.Ns C m → FpOk X pins H' C → compPost (model X.prog X.w) X.A X.xe use Qf (.ref D) C (.ok .next) s') :
    wpAny (model X.prog X.w) X.A (comprehension (dc2X kx vx tg iter tg1 iter1 ifs ifs1 scope pos) scope X.env pos' newDict false (eval iter X.env) use) Qf X.xe s := by
  have caps : ∀ y ∈ scope.names, y.2 = .free → ∃ c, X.env.cells.lookup y.1 = some c := fun y hy e => (ok.free y hy e).elim (fun k => I.ok.has _ (.inl k)) fun k => I.ok.has _ (.inr k)
  refine wpAny_comprehension_free (use := use) rfl hs (closure_ok caps) ok.kind (fun y hy e => by rw [ok.uniq y hy, e]) (thn (hi.run pins s σ H _ I h) fun _ s1 a => thn a ?_)
  rintro _ s2 ⟨it, fp, tn, J, H2, rfl, I2, T, st2, f2, q⟩
  refine wpAny_newObj_type (newEnv_comp ?_)
  obtain ⟨D, hD⟩ : ∃ D, D = s2.heap.objs.size := ⟨_, rfl⟩
  have dn : H2 D = none := I2.hok.fresh (Nat.le_of_eq hD.symm)
  obtain ⟨W, ⟨m0, w0⟩, turn⟩ := q D dn
  obtain ⟨s3, hs3⟩ : ∃ s3 : Shared, s3 = { s2 with heap := s2.heap.push { cls := .type "dict", data := .dict #[] } } := ⟨_, rfl⟩
  have keep : ∀ b o, s2.heap.get? b = some o → s3.heap.get? b = some o := fun b o e => by rw [hs3]; exact Heap.get?_push_of_some _ e
  have I3 : Inv X pins σ (upd H2 D (.dK [])) s3 := by
    rw [hs3, hD]
    exact I2.laid (t' := s2.toks) (fun b o e => Heap.get?_push_of_some _ e) (Nat.le_refl _) (dk_empty s2.heap I2.big)
  have lt : ∀ b ∈ fp, b < s2.heap.objs.size := fun b hb => let ⟨_, e, _⟩ := T.obj _ _ st2 b hb; Heap.lt_size e
  have f3 : ∀ b ∈ fp, FpOk X pins (upd H2 D (.dK [])) b ∧ b < s3.heap.objs.size := fun b hb => by
    have l := lt b hb
    refine ⟨⟨?_, (f2 b hb).2⟩, ?_⟩
    · rw [upd_ne (fun z => absurd l (by rw [z, hD]; exact Nat.lt_irrefl _))]
      exact (f2 b hb).1
    · rw [hs3, Heap.size_push]
      exact Nat.lt_succ_of_lt l
  have key := dc2_loops (pos := pos) (iter := iter) hc hN I3 ok hv hg ht hk he hi1 hg1 ht1 hs1 T (T.keep _ _ _ st2 fun b _ o e => keep b o e) f3 (D := D) (Z := fun H => Q (.ref D) H) w0 turn (R := compPost (model X.prog X.w) X.A X.xe use Qf (.ref D) s3.heap.objs.size) fun s' m H' I' z hn f => fin D _ s' m H' I' z hn f
  have st4 : tn 0 (blkS scope s3).heap := T.keep _ _ _ st2 fun b _ o e => pushCells_keeps _ _ _ _ (Heap.get?_push_of_some _ (keep b o e))
  have key2 := codeAny_compStart_dict key (T.self X.A 0 _ _ _ st4 key)
  rw [hs3] at key2
  rw [hD] at key2
  exact key2
/-- as a value -/
theorem pe_dc2 (hc : X.calm = true) (hN : X.N.Nodup) (hi : PI X tg iter wi) (ok : BlkOk X.N X.env.scope scope own) (hv : ∀ i ∈ vs1, i ∈ own.map (·.2)) (hg : InB X scope fun Y => PG Y tg g) (ht : InB X scope fun Y => PTs Y ifs tt) (hi1 : InB X scope fun Y => PI Y tg1 iter1 wi1)
    (hg1 : InB X scope fun Y => PG Y tg1 g1) (ht1 : InB X scope fun Y => PTs Y ifs1 tt1) (hk : InB X scope fun Y => PE Y kx tk) (he : InB X scope fun Y => PE Y vx tv) (hs : ∀ x, foldedSetIterable iter X.env x = pure x := by intro _; rfl) (hs1 : ∀ env x, foldedSetIterable iter1 env x = pure x := by intro _ _; rfl) :
    PE X (dc2X kx vx tg iter tg1 iter1 ifs ifs1 scope pos) (tDc2 wi g tt wi1 g1 tt1 tk tv (own.map (·.2)) vs1) := by
  refine ⟨fun pins s σ H Q I h => ?_⟩
  unfold dc2X
  rw [arm_eval_DictComp]
  refine dc2_core hc hN I hi ok hv hg ht hk he hs hi1 hg1 ht1 hs1 h ?_
  rintro D C s' m H' I' q hn ⟨f0, f1, f2, f3, f4, f5⟩
  exact ⟨m, hn, fun h2 sb => ⟨.ref D, H', I'.turned (t' := s'.toks) (fun b o hb e => (sb.2 b hb).trans e) f0 f1 f3 f4 f5, rfl, q⟩⟩
end
end
end VL

set_option maxRecDepth 100000
set_option maxHeartbeats 2000000
namespace VL
open PySem PySem.Spec L2
open PyProof.Rows hiding St
/-! ### comprehensions with two fors -/
/-- no container that the block itself has made -/
def lentB (e : Env') : Bool := e.all fun s => match s with
  | .ow true _ => false
  | _ => true
/-- an accumulating cell of ours -/
structure PrV (g : Gm) (F H : Hp) (σ : St) (env : Env') (D : Addr) (A : Hp → HO → Prop) : Prop where
  S : Stt g F H σ env
  cell : ∃ o, H D = some o ∧ A F o
  hF : F D = none
  h0 : g.H0 D = none
  hO : ¬ g.O D
  hn : ∀ (i : Nat) b q, env[i]? = some (.ow b q) → σ[i]? ≠ some (some (.ref D))
structure Acc (A : Hp → HO → Prop) : Prop where
  mono : ∀ F F' o, Ex F F' → A F o → A F' o
  pln : ∀ F o, A F o → Pln o
def aL (C : Ct) (acc : List PV) : Hp → HO → Prop := fun F o => ∃ vs, o = .lst vs ∧ Rs C F acc vs
def aD (C : Ct) (ks : List Key) (xs : List PV) : Hp → HO → Prop := fun F o => ∃ kvs, o = .dK kvs ∧ kvs.map Prod.fst = ks ∧ Rs C F xs (kvs.map Prod.snd)
theorem acc_l {C : Ct} {acc : List PV} : Acc (aL C acc) := ⟨fun F F' o x ⟨vs, e, r⟩ => ⟨vs, e, r.mono x.le⟩, fun F o ⟨vs, e, r⟩ => by subst e; exact ⟨fun _ z => (by cases z), fun _ z => (by cases z)⟩⟩
theorem acc_d {C : Ct} {ks : List Key} {xs : List PV} : Acc (aD C ks xs) := ⟨fun F F' o x ⟨vs, e, k, r⟩ => ⟨vs, e, k, r.mono x.le⟩, fun F o ⟨vs, e, k, r⟩ => by subst e; exact ⟨fun _ z => (by cases z), fun _ z => (by cases z)⟩⟩
section
variable {X : Cx} {g : Gm} {pins : List (Addr × Obj)} {F H F' H' F2 H2 F3 H3 : Hp} {σ σ2 σ3 : St} {env env' env2 b b3 : Env'} {s : Shared} {A A' : Hp → HO → Prop} {D : Addr} {vs vs1 : List Nat}
theorem lentB_no {i : Nat} {p : PV} (h : lentB env = true) : env[i]? ≠ some (.ow true p) := fun z => by
  unfold lentB at h
  have := List.all_eq_true.mp h _ (List.mem_of_getElem? z)
  cases this
theorem PrV.start (S : Stt g F H σ env) {o : HO} (hD : H D = none) (ha : A F o) : PrV g F (upd H D o) σ env D A := by
  obtain ⟨n1, n2, n3⟩ := S.new0 hD
  refine ⟨S.grow (ex_alloc hD), ⟨o, upd_same, ha⟩, n1, n2, n3, fun i b q e z => ?_⟩
  obtain ⟨a, e1, e2, _⟩ := S.ow i b q e
  rw [z] at e1; cases e1
  obtain ⟨o, ho⟩ := e2.cell
  rw [hD] at ho; cases ho
theorem PrV.noO (L : PrV g F H σ env D A) : ¬ (subG g F H σ env).O D := fun z => by
  obtain ⟨i, b, p, h1, h2⟩ := subG_O z
  exact L.hn i b p h1 h2
theorem PrV.turn (hA : Acc A) (L : PrV g F H σ env D A) (S2 : Stt (subG g F H σ env) F2 H2 σ2 env2) (hf : freeS vs env = true) (hσ : wipe σ2 vs = wipe σ vs) : Ex F F2 ∧ PrV g F2 H2 σ (outE vs env env2) D A := by
  obtain ⟨x, S'⟩ := L.S.leave S2 hf hσ
  obtain ⟨o, h1, h2⟩ := L.cell
  refine ⟨x, S', ⟨o, (S2.frame D _ h1 L.noO).eq (hA.pln _ _ h2).1, hA.mono _ _ _ x h2⟩, ?_, L.h0, L.hO, fun i b q e z => ?_⟩
  · cases q : F2 D with
    | none => rfl
    | some o =>
      rcases S2.fresh D o q with z | z
      · have z : F D = some o := z
        rw [L.hF] at z; cases z
      · have z : H D = none := z
        rw [h1] at z; cases z
  · obtain ⟨hl, e⟩ := outE_at e
    split at e
    · exact L.hn i b q (getD_at e.symm (by simp)) z
    · obtain ⟨p0, c, h1, h2⟩ := outS_ow e.symm
      exact L.hn i b p0 (getD_at h1 (by simp)) z
theorem PrV.put (hA : Acc A) {o u : HO} (L : PrV g F H σ env D A) (hD : H D = some u) (ha : A' F o) : PrV g F (upd H D o) σ env D A' := by
  obtain ⟨ws', h1, h2⟩ := L.cell
  rw [hD] at h1; cases h1
  exact ⟨L.S.poke hD (hA.pln _ _ h2) L.hF L.h0 L.hO L.hn, ⟨_, upd_same, ha⟩, L.hF, L.h0, L.hO, L.hn⟩
/-- the block's state on a new base -/
theorem Stt.rebase {F0 H0 : Hp} {env0 : Env'} (L : Stt g F H' σ env') (B : Stt (subG g F0 H0 σ env0) F H σ2 b) (hl : lentB b = true) (hH : ∀ a, a ≠ D → H' a = H a) (hn : ∀ (i : Nat) c q, env0[i]? = some (.ow c q) → σ[i]? ≠ some (some (.ref D)))
    (hE : ∀ (i : Nat) c q d r, b[i]? = some (.ow c q) → env0[i]? = some (.ow d r) → ∃ d r, env'[i]? = some (.ow d r)) : Stt (subG g F H' σ env') F H' σ2 b where
  len := B.len
  frame := fun b o q _ => .inl q
  live := fun b hb => by
    obtain ⟨i, f, p, h1, h2⟩ := subG_O hb
    obtain ⟨a, e1, e2, _⟩ := L.ow i f p h1
    rw [h2] at e1; cases e1
    exact e2.cell
  ext := Ex.refl F
  fresh := fun b o q => .inl q
  sub := L.sub
  fz := B.fz
  ow := fun i c p q => by
    obtain ⟨a, h1, h2, h3, h4⟩ := B.ow i c p q
    cases c with
    | true => exact (lentB_no hl q).elim
    | false =>
      rw [if_neg Bool.false_ne_true] at h4
      have ho : ∃ (d : Bool) (r : PV), env0[i]? = some (.ow d r) ∧ σ[i]? = some (some (.ref a)) := by
        unfold subG at h4
        dsimp only at h4
        split at h4
        · rename_i d r a' k1 k2
          cases h4
          exact ⟨d, r, k1, k2⟩
        · cases h4
      obtain ⟨d, r, k1, k2⟩ := ho
      have ne : a ≠ D := fun z => hn i d r k1 (z ▸ k2)
      obtain ⟨d', r', k3⟩ := hE i _ _ _ _ q k1
      refine ⟨a, h1, h2.mono (Ex.refl F).le (hH a ne), h3, ?_⟩
      rw [if_neg Bool.false_ne_true]
      show (match env'[i]?, σ[i]? with | some (.ow _ _), some (some (.ref a)) => some a | _, _ => none) = some a
      rw [k3, k2]
  inj := B.inj
  tab := L.tab
theorem outE_ow {i : Nat} {c d : Bool} {q r : PV} (hf : freeS vs env = true) (h2 : b[i]? = some (.ow c q)) (h1 : env[i]? = some (.ow d r)) : (outE vs env b)[i]? = some (.ow d q) := by
  have hl : i < env.length := by
    rcases Nat.lt_or_ge i env.length with z | z
    · exact z
    · rw [List.getElem?_eq_none z] at h1; cases h1
  unfold outE
  rw [List.getElem?_map, List.getElem?_range hl]
  have ni : i ∉ vs := fun z => freeS_no hf z h1
  simp only [Option.map_some, if_neg ni, List.getD_eq_getElem?_getD, h1, h2, Option.getD_some, outS]
theorem outE_in {i : Nat} {x : Sl} (hi : i ∈ vs) (h : (outE vs env b)[i]? = some x) : env[i]? = some x ∨ x = .no := by
  obtain ⟨hl, e⟩ := outE_at h
  rw [if_pos hi] at e
  by_cases hx : x = .no
  · exact .inr hx
  · exact .inl (getD_at e.symm hx)
theorem freeS_out (hf : freeS vs env = true) : freeS vs (outE vs env b) = true := by
  unfold freeS
  refine List.all_eq_true.mpr fun i hi => ?_
  cases q : (outE vs env b)[i]? with
  | none => rfl
  | some x =>
    cases x with
    | ow c p =>
      rcases outE_in hi q with z | z
      · exact (freeS_no hf hi z).elim
      · cases z
    | _ => rfl
theorem lentB_out (h1 : lentB b = true) (h2 : lentB b3 = true) : lentB (outE vs1 b b3) = true := by
  unfold lentB
  refine List.all_eq_true.mpr fun x hx => ?_
  obtain ⟨i, hi⟩ := List.getElem?_of_mem hx
  cases x with
  | ow c p =>
    cases c with
    | false => rfl
    | true =>
      obtain ⟨hl, e⟩ := outE_at hi
      split at e
      · exact (lentB_no h1 (getD_at e.symm (by simp))).elim
      · obtain ⟨p0, c, k1, k2⟩ := outS_ow e.symm
        exact (lentB_no h1 (getD_at k1 (by simp))).elim
  | _ => rfl
/-- names of the block forgotten -/
theorem Stt.wiped (S : Stt g F H σ env) (vs : List Nat) : Stt g F H (wipe σ vs) (wipeE env vs) := by
  have at1 : ∀ {i : Nat} {x : Sl}, (wipeE env vs)[i]? = some x → x ≠ .no → i ∉ vs ∧ env[i]? = some x := fun {i x} h hx => by
    by_cases hi : i ∈ vs
    · rcases wipeE_out (e := env) hi with z | z
      · rw [z] at h; cases h
      · rw [z] at h; cases h; exact (hx rfl).elim
    · rcases wipeE_in h with z | z
      · exact (hx z).elim
      · exact ⟨hi, z⟩
  refine ⟨by rw [wipe_length, wipeE_len, S.len], S.frame, S.live, S.ext, S.fresh, S.sub, fun i p q => ?_, fun i c p q => ?_, fun i j c d p q a hi hj e1 e2 => ?_, S.tab⟩
  · obtain ⟨ni, q⟩ := at1 q (by simp)
    rw [wipe_out ni]; exact S.fz i p q
  · obtain ⟨ni, q⟩ := at1 q (by simp)
    rw [wipe_out ni]; exact S.ow i c p q
  · obtain ⟨ni, hi⟩ := at1 hi (by simp)
    obtain ⟨nj, hj⟩ := at1 hj (by simp)
    rw [wipe_out ni] at e1
    rw [wipe_out nj] at e2
    exact S.inj i j c d p q a hi hj e1 e2
theorem Stt.back (S : Stt g F H σ2 b) (S3 : Stt g F3 H3 σ3 b3) (x : Ex F F3) (hw : wipe σ3 vs1 = wipe σ2 vs1) (hf : freeS vs1 b = true) (hl : lentB b = true) (hl3 : lentB b3 = true) : Stt g F3 H3 σ2 (outE vs1 b b3) := by
  have hat : ∀ {i : Nat}, i ∉ vs1 → σ3[i]? = σ2[i]? := fun {i} hi => by rw [← wipe_out (σ := σ3) hi, ← wipe_out (σ := σ2) hi, hw]
  refine ⟨by simp [outE, S.len], S3.frame, S3.live, S3.ext, S3.fresh, S3.sub, fun i p q => ?_, fun i c p q => ?_, fun i j c d p q a hi hj e1 e2 => ?_, S3.tab⟩
  · obtain ⟨hl, e⟩ := outE_at q
    split at e
    · obtain ⟨v, h1, h2⟩ := S.fz i p (getD_at e.symm (by simp))
      exact ⟨v, h1, h2.mono x.le⟩
    · rename_i ni
      obtain ⟨v, h1, h2⟩ := S3.fz i p (getD_at (outS_fz e.symm) (by simp))
      exact ⟨v, by rw [← hat ni]; exact h1, h2⟩
  · obtain ⟨_, e⟩ := outE_at q
    split at e
    · rename_i hi
      exact (freeS_no hf hi (getD_at e.symm (by simp))).elim
    · rename_i ni
      obtain ⟨p0, c', h1, h2⟩ := outS_ow e.symm
      have h1 := getD_at h1 (by simp)
      have h2 := getD_at h2 (by simp)
      cases c with
      | true => exact (lentB_no hl h1).elim
      | false =>
        cases c' with
        | true => exact (lentB_no hl3 h2).elim
        | false =>
          obtain ⟨a, e1, e2⟩ := S3.ow i false p h2
          exact ⟨a, by rw [← hat ni]; exact e1, e2⟩
  · obtain ⟨_, x1⟩ := outE_at hi
    obtain ⟨_, x2⟩ := outE_at hj
    split at x1
    · rename_i hi
      exact (freeS_no hf hi (getD_at x1.symm (by simp))).elim
    · split at x2
      · rename_i hj
        exact (freeS_no hf hj (getD_at x2.symm (by simp))).elim
      · rename_i ni nj
        obtain ⟨_, _, _, h1⟩ := outS_ow x1.symm
        obtain ⟨_, _, _, h2⟩ := outS_ow x2.symm
        exact S3.inj i j _ _ _ _ a (getD_at h1 (by simp)) (getD_at h2 (by simp)) (by rw [hat ni]; exact e1) (by rw [hat nj]; exact e2)
/-- within the inner loop -/
structure InS (g : Gm) (F H : Hp) (σ : St) (env : Env') (D : Addr) (A : Hp → HO → Prop) (vs : List Nat) (σ2 : St) (b : Env') : Prop where
  L : PrV g F H σ env D A
  B : Stt (subG g F H σ env) F H σ2 b
  hf : freeS vs env = true
  hσ : wipe σ2 vs = wipe σ vs
  hl : lentB b = true
theorem InS.start (hA : Acc A) (L : PrV g F H σ env D A) (S2 : Stt (subG g F H σ env) F2 H2 σ2 b) (hf : freeS vs env = true) (hσ : wipe σ2 vs = wipe σ vs) (hl : lentB b = true) : Ex F F2 ∧ InS g F2 H2 σ (outE vs env b) D A vs σ2 b := by
  obtain ⟨x, L2⟩ := L.turn hA S2 hf hσ
  exact ⟨x, L2, L2.S.rebase (D := D) S2 hl (fun a _ => rfl) L.hn (fun i c q d r h1 h2 => ⟨_, _, outE_ow hf h1 h2⟩), freeS_out hf, hσ, hl⟩
theorem InS.step (hA : Acc A) (I : InS g F H σ env D A vs σ2 b) (S3 : Stt (subG g F H σ env) F3 H3 σ3 b3) (x : Ex F F3) (hw : wipe σ3 vs1 = wipe σ2 vs1) (hf1 : freeS vs1 b = true) (hl3 : lentB b3 = true) :
    InS g F3 H3 σ (outE vs env (outE vs1 b b3)) D A vs σ2 (outE vs1 b b3) := (InS.start hA I.L (I.B.back S3 x hw hf1 I.hl hl3) I.hf I.hσ (lentB_out I.hl hl3)).2
theorem InS.put (hA : Acc A) {o u : HO} (I : InS g F H σ env D A vs σ2 b) (hD : H D = some u) (ha : A' F o) : InS g F (upd H D o) σ env D A' vs σ2 b :=
  have L := I.L.put (o := o) hA hD ha
  ⟨L, L.S.rebase (D := D) I.B I.hl (fun a ne => upd_ne ne) I.L.hn (fun i c q d r h1 h2 => ⟨_, _, h2⟩), I.hf, I.hσ, I.hl⟩
end
end VL

set_option maxRecDepth 100000
set_option maxHeartbeats 2000000
namespace VL
open PySem PySem.Spec L2
open PyProof.Rows hiding St
/-! ### {k: v for t in i if c for t1 in i1 if c1} -/
def dcIn (vs vs1 : List Nat) (u1 : UG) (dt1 : Option (Env' → Res Bool)) (dk dv : Env' → Res Val) : List PV → List Key → List PV → Env' → Env' → Option ((List Key × List PV) × Env' × Env')
  | [], ks, xs, e, b => some ((ks, xs), e, b)
  | p :: ps, ks, xs, e, b => if freeS vs1 b = true then match u1 p (wipeE b vs1) with
    | none => none
    | some e1 => match dtO dt1 e1 with
      | .ok false e2 => if lentB e2 = true then dcIn vs vs1 u1 dt1 dk dv ps ks xs (outE vs e (outE vs1 b e2)) (outE vs1 b e2) else none
      | .ok true e2 => match dk e2 with
        | .ok kx e3 => match frz kx e3 with
          | .ok kp e4 => match keyP kp with
            | some k => match dv e4 with
              | .ok x e5 => match frz x e5 with
                | .ok q e6 => if lentB e6 = true ∧ ks.length < big then dcIn vs vs1 u1 dt1 dk dv ps (putP ks xs k q).1 (putP ks xs k q).2 (outE vs e (outE vs1 b e6)) (outE vs1 b e6) else none
                | _ => none
              | _ => none
            | none => none
          | _ => none
        | _ => none
      | _ => none
    else none
def dcOut (vs vs1 : List Nat) (u : UG) (dt : Option (Env' → Res Bool)) (di1 : Env' → Res (List PV)) (u1 : UG) (dt1 : Option (Env' → Res Bool)) (dk dv : Env' → Res Val) : List PV → List Key → List PV → Env' → Res (List Key × List PV)
  | [], ks, xs, e => .ok (ks, xs) e
  | p :: ps, ks, xs, e => if freeS vs e = true then match u p (blkE vs e) with
    | none => .bad
    | some e1 => match dtO dt e1 with
      | .ok false e2 => dcOut vs vs1 u dt di1 u1 dt1 dk dv ps ks xs (outE vs e e2)
      | .ok true e2 => match di1 e2 with
        | .ok ps1 e3 => if lentB e3 = true then match dcIn vs vs1 u1 dt1 dk dv ps1 ks xs (outE vs e e3) e3 with
            | some (kx, e', _) => dcOut vs vs1 u dt di1 u1 dt1 dk dv ps kx.1 kx.2 e'
            | none => .bad
          else .bad
        | _ => .bad
      | _ => .bad
    else .bad
def dDc2 (vs vs1 : List Nat) (di : Env' → Res (List PV)) (u : UG) (dt : Option (Env' → Res Bool)) (di1 : Env' → Res (List PV)) (u1 : UG) (dt1 : Option (Env' → Res Bool)) (dk dv : Env' → Res Val) : Env' → Res Val :=
  fun e => (di e).bind fun ps e1 => (dcOut vs vs1 u dt di1 u1 dt1 dk dv ps [] [] e1).bind fun qs e2 => .ok (.new (.dK qs.1 qs.2)) e2
def xI (C : Ct) (di : Env' → Res (List PV)) : TI := fun σ H Rr => ∃ g' : Gm, g'.C = C ∧ tI g' di σ H Rr
section
variable {X : Cx} {g : Gm} {pins : List (Addr × Obj)} {F H F' H' F2 H2 F3 H3 : Hp} {σ σ2 σ3 : St} {env env' env2 b b' b3 : Env'} {s : Shared} {D : Addr} {vs vs1 js js1 : List Nat}
theorem xI_of {C : Ct} {t e : Expr} {d : Env' → Res (List PV)} (h : ∀ g' : Gm, g'.C = C → PI X t e (tI g' d)) : PI X t e (xI C d) := ⟨fun pins s σ H Q I ⟨g', hc, q⟩ => (h g' hc).run pins s σ H Q I q⟩
theorem aD_put {F : Hp} {C : Ct} {ks : List Key} {xs : List PV} {kvs : List (Key × V)} {k : Key} {y : V} {q : PV} (hk : kvs.map Prod.fst = ks) (r : Rs C F xs (kvs.map Prod.snd)) (rq : R C F q y) : aD C (putP ks xs k q).1 (putP ks xs k q).2 F (.dK (putK kvs k y)) := by
  obtain ⟨z1, z2⟩ := putP_r (k := k) r rq
  subst hk
  exact ⟨_, rfl, z1, z2⟩
theorem dc_in {u1 : UG} {dt1 : Option (Env' → Res Bool)} {dk dv : Env' → Res Val} {J : It} {ps : List PV} {ks ks' : List Key} {xs xs' : List PV} {Nx : Hp → Prop} (hj : ∀ j ∈ js1, j ∈ vs1)
    (I : InS g F2 H2 σ env D (aD g.C ks xs) vs σ2 b) (w : WalkP g.C J F2 ps) (hin : dcIn vs vs1 u1 dt1 dk dv ps ks xs env b = some ((ks', xs'), env', b')) (nx : ∀ F H, Ex F2 F → PrV g F H σ env' D (aD g.C ks' xs') → Nx H) :
    ∃ W1 : Nat → Nat → Hp → Prop, (∃ m, W1 0 m H2) ∧ ∀ j k H, W1 j k H →
      (J.stop j H ∧ Nx H) ∨ (J.go j H ∧ ∃ Nx1 : Hp → Prop, (∀ H', Nx1 H' → ∃ k', k' < k ∧ W1 (j + 1) k' H') ∧ ∀ x H', J.yld j H x H' → xG g.C u1 js1 x (wipe σ2 vs1) H' fun σ3 H5 => wipe σ3 vs1 = wipe σ2 vs1 ∧ xT g.C (dtO dt1) σ3 H5 fun b H6 =>
        if b = true then xE g.C dk σ3 H6 fun y H7 => xE g.C dv σ3 H7 fun z H8 => ∃ kvs k, y = kV k ∧ H8 D = some (.dK kvs) ∧ kvs.length < sizeLine ∧ Nx1 (upd H8 D (.dK (putK kvs k z))) else Nx1 H6) := by
  refine ⟨fun i m H => ∃ F env b ks xs, Ex F2 F ∧ InS g F H σ env D (aD g.C ks xs) vs σ2 b ∧ m = ps.length - i ∧ i ≤ ps.length ∧ dcIn vs vs1 u1 dt1 dk dv (ps.drop i) ks xs env b = some ((ks', xs'), env', b'), ⟨ps.length, F2, env, b, ks, xs, Ex.refl F2, I, by omega, Nat.zero_le _, by rw [List.drop_zero]; exact hin⟩, ?_⟩
  rintro i m H ⟨F, env, b, ks, xs, x1, I, rfl, hle, go1⟩
  by_cases hlt : i < ps.length
  · right
    have hd : ps.drop i = ps[i] :: ps.drop (i + 1) := List.drop_eq_getElem_cons hlt
    rw [hd] at go1
    unfold dcIn at go1
    split at go1
    · rename_i hf
      have Sw := I.B.wiped vs1
      refine ⟨w.goes (subG g F H σ env) i F H _ _ rfl hlt x1 Sw, fun H' => ∃ F env b ks xs, Ex F2 F ∧ InS g F H' σ env D (aD g.C ks xs) vs σ2 b ∧ dcIn vs vs1 u1 dt1 dk dv (ps.drop (i + 1)) ks xs env b = some ((ks', xs'), env', b'), fun H' ⟨F, env, b, ks, xs, x, I, q⟩ => ⟨ps.length - (i + 1), by omega, F, env, b, ks, xs, x, I, rfl, hlt, q⟩, fun x H' y => ?_⟩
      obtain ⟨F3, x3, S3, r3⟩ := w.ylds (subG g F H σ env) i ps[i] F H _ _ x H' rfl (List.getElem?_eq_getElem hlt) x1 Sw y
      cases hu : u1 ps[i] (wipeE b vs1) with
      | none => simp only [hu] at go1; cases go1
      | some e1 =>
        simp only [hu] at go1
        refine ⟨subG g F H σ env, rfl, F3, _, ps[i], e1, S3, r3, hu, fun σ' S' ln ag => ?_⟩
        have hw : wipe σ' vs1 = wipe σ2 vs1 := wipe_agree (by rw [ln, wipe_length]) hj ag
        refine ⟨hw, subG g F H σ env, rfl, F3, e1, S', ?_⟩
        cases ht : dtO dt1 e1 with
        | bad => simp only [ht] at go1; cases go1
        | err y e' => simp only [ht] at go1; cases go1
        | ok bb e2 =>
          simp only [ht] at go1
          intro F4 H4 x4 S4
          cases bb with
          | false =>
            dsimp only at go1
            split at go1
            · rename_i hl3
              rw [if_neg Bool.false_ne_true]
              exact ⟨F4, _, _, ks, xs, x1.trans (x3.trans x4), I.step acc_d S4 (x3.trans x4) hw hf hl3, go1⟩
            · cases go1
          | true =>
            rw [if_pos rfl]
            refine ⟨subG g F H σ env, rfl, F4, e2, S4, ?_⟩
            dsimp only at go1
            cases hd : dk e2 with
            | bad => simp only [hd] at go1; cases go1
            | err y e' => simp only [hd] at go1; cases go1
            | ok z e3 =>
              simp only [hd] at go1
              intro F5 H5 x5 S5 v rv
              cases hq : frz z e3 with
              | bad => simp only [hq] at go1; cases go1
              | err y e' => simp only [hq] at go1; cases go1
              | ok kp e4 =>
                simp only [hq] at go1
                obtain ⟨F6, x6, S6, r6⟩ := frz_ok S5 rv hq
                cases hk : keyP kp with
                | none => simp only [hk] at go1; cases go1
                | some k =>
                  simp only [hk] at go1
                  obtain rfl := keyP_r r6 hk
                  refine ⟨subG g F H σ env, rfl, F6, e4, S6, ?_⟩
                  cases hdv : dv e4 with
                  | bad => simp only [hdv] at go1; cases go1
                  | err y e' => simp only [hdv] at go1; cases go1
                  | ok z2 e5 =>
                    simp only [hdv] at go1
                    intro F7 H7 x7 S7 v2 rv2
                    cases hq2 : frz z2 e5 with
                    | bad => simp only [hq2] at go1; cases go1
                    | err y e' => simp only [hq2] at go1; cases go1
                    | ok q e6 =>
                      simp only [hq2] at go1
                      split at go1
                      · rename_i hc
                        obtain ⟨F8, x8, S8, r8⟩ := frz_ok S7 rv2 hq2
                        have xx : Ex F F8 := x3.trans (x4.trans (x5.trans (x6.trans (x7.trans x8))))
                        have I8 := I.step acc_d S8 xx hw hf hc.1
                        obtain ⟨o, c1, kvs, rfl, c2, c3⟩ := I8.L.cell
                        refine ⟨kvs, k, rfl, c1, ?_, F8, _, _, _, _, x1.trans xx, I8.put acc_d c1 (aD_put c2 c3 r8), go1⟩
                        have hlen := hc.2
                        rw [← c2, List.length_map] at hlen
                        rw [big_eq]; exact hlen
                      · cases go1
    · cases go1
  · left
    have e : i = ps.length := by omega
    subst e
    rw [List.drop_length] at go1
    unfold dcIn at go1
    cases go1
    exact ⟨w.stops (subG g F H σ env') F H _ _ rfl x1 I.B, nx F H x1 I.L⟩
theorem dc2_turns {u : UG} {dt : Option (Env' → Res Bool)} {di1 : Env' → Res (List PV)} {u1 : UG} {dt1 : Option (Env' → Res Bool)} {dk dv : Env' → Res Val} {J : It} {ps : List PV} {F1 H1 : Hp} {env1 : Env'} {Q : VK} (hj : ∀ j ∈ js, j ∈ vs) (hj1 : ∀ j ∈ js1, j ∈ vs1)
    (S1 : Stt g F1 H1 σ env1) (w : WalkP g.C J F1 ps) (go : Go g F1 σ ((dcOut vs vs1 u dt di1 u1 dt1 dk dv ps [] [] env1).bind fun qs e2 => .ok (.new (.dK qs.1 qs.2)) e2) fun x env' F' H' => ∀ v, RV g F' H' σ env' x v → Q v H') :
    ∀ D, H1 D = none → ∃ W : Nat → Nat → Hp → Prop, (∃ m, W 0 m (upd H1 D (.dK []))) ∧ ∀ i m H, W i m H →
      (J.stop i H ∧ Q (.ref D) H) ∨ (J.go i H ∧ ∃ Nx : Hp → Prop, (∀ H', Nx H' → ∃ m', m' < m ∧ W (i + 1) m' H') ∧ ∀ x H', J.yld i H x H' → xG g.C u js x (wipe σ vs) H' fun σ2 H2 => wipe σ2 vs = wipe σ vs ∧ xT g.C (dtO dt) σ2 H2 fun b H3 =>
        if b = true then xI g.C di1 σ2 H3 fun J1 H4 => ∃ W1 : Nat → Nat → Hp → Prop, (∃ m, W1 0 m H4) ∧ ∀ j k H, W1 j k H →
          (J1.stop j H ∧ Nx H) ∨ (J1.go j H ∧ ∃ Nx1 : Hp → Prop, (∀ H', Nx1 H' → ∃ k', k' < k ∧ W1 (j + 1) k' H') ∧ ∀ x H', J1.yld j H x H' → xG g.C u1 js1 x (wipe σ2 vs1) H' fun σ3 H5 => wipe σ3 vs1 = wipe σ2 vs1 ∧ xT g.C (dtO dt1) σ3 H5 fun b H6 =>
            if b = true then xE g.C dk σ3 H6 fun y H7 => xE g.C dv σ3 H7 fun z H8 => ∃ kvs k, y = kV k ∧ H8 D = some (.dK kvs) ∧ kvs.length < sizeLine ∧ Nx1 (upd H8 D (.dK (putK kvs k z))) else Nx1 H6)
        else Nx H3) := by
  intro D hD
  refine ⟨fun i m H => ∃ F env ks xs, Ex F1 F ∧ PrV g F H σ env D (aD g.C ks xs) ∧ m = ps.length - i ∧ i ≤ ps.length ∧ Go g F σ ((dcOut vs vs1 u dt di1 u1 dt1 dk dv (ps.drop i) ks xs env).bind fun qs e2 => .ok (.new (.dK qs.1 qs.2)) e2) fun x env' F' H' => ∀ v, RV g F' H' σ env' x v → Q v H',
    ⟨ps.length, F1, env1, [], [], Ex.refl F1, PrV.start S1 hD ⟨[], rfl, rfl, Rs.nil⟩, by omega, Nat.zero_le _, by rw [List.drop_zero]; exact go⟩, ?_⟩
  rintro i m H ⟨F, env, ks, xs, x1, L, rfl, hle, go1⟩
  by_cases hlt : i < ps.length
  · right
    have hd : ps.drop i = ps[i] :: ps.drop (i + 1) := List.drop_eq_getElem_cons hlt
    rw [hd] at go1
    unfold dcOut at go1
    split at go1
    · rename_i hf
      have Se := L.S.enter vs
      refine ⟨w.goes (subG g F H σ env) i F H _ _ rfl hlt x1 Se, fun H' => ∃ F env ks xs, Ex F1 F ∧ PrV g F H' σ env D (aD g.C ks xs) ∧ Go g F σ ((dcOut vs vs1 u dt di1 u1 dt1 dk dv (ps.drop (i + 1)) ks xs env).bind fun qs e2 => .ok (.new (.dK qs.1 qs.2)) e2) fun x env' F' H' => ∀ v, RV g F' H' σ env' x v → Q v H', fun H' ⟨F, env, ks, xs, x, L, q⟩ => ⟨ps.length - (i + 1), by omega, F, env, ks, xs, x, L, rfl, hlt, q⟩, fun x H' y => ?_⟩
      obtain ⟨F2, x2, S2, r2⟩ := w.ylds (subG g F H σ env) i ps[i] F H _ _ x H' rfl (List.getElem?_eq_getElem hlt) x1 Se y
      cases hu : u ps[i] (blkE vs env) with
      | none => simp only [hu] at go1; exact go1.elim
      | some e1 =>
        simp only [hu] at go1
        refine ⟨subG g F H σ env, rfl, F2, _, ps[i], e1, S2, r2, hu, fun σ' S' ln ag => ?_⟩
        have hw : wipe σ' vs = wipe σ vs := wipe_agree (by rw [ln, wipe_length]) hj ag
        refine ⟨hw, subG g F H σ env, rfl, F2, e1, S', ?_⟩
        cases ht : dtO dt e1 with
        | bad => simp only [ht] at go1; exact go1.elim
        | err y e' => simp only [ht] at go1; exact go1.elim
        | ok bb e2 =>
          simp only [ht] at go1
          intro F3 H3 x3 S3
          cases bb with
          | false =>
            rw [if_neg Bool.false_ne_true]
            obtain ⟨x4, L4⟩ := L.turn acc_d S3 hf hw
            exact ⟨F3, _, ks, xs, x1.trans x4, L4, Go.up go1 x4⟩
          | true =>
            rw [if_pos rfl]
            refine ⟨subG g F H σ env, rfl, F3, e2, S3, ?_⟩
            dsimp only at go1
            cases hd : di1 e2 with
            | bad => simp only [hd] at go1; exact go1.elim
            | err y e' => simp only [hd] at go1; exact go1.elim
            | ok ps1 e3 =>
              simp only [hd] at go1
              intro F4 H4 x4 S4 J1 w1
              split at go1
              · rename_i hl3
                cases hin : dcIn vs vs1 u1 dt1 dk dv ps1 ks xs (outE vs env e3) e3 with
                | none => simp only [hin] at go1; exact go1.elim
                | some r =>
                  obtain ⟨⟨ks', xs'⟩, e', b'⟩ := r
                  simp only [hin] at go1
                  obtain ⟨x5, I5⟩ := InS.start acc_d L S4 hf hw hl3
                  exact dc_in hj1 I5 w1 hin fun F6 H6 x6 L6 => ⟨F6, e', ks', xs', x1.trans (x5.trans x6), L6, Go.up go1 (x5.trans x6)⟩
              · exact go1.elim
    · exact go1.elim
  · left
    have e : i = ps.length := by omega
    subst e
    rw [List.drop_length] at go1
    unfold dcOut at go1
    refine ⟨w.stops g F H σ env rfl x1 L.S, go1 F H (Ex.refl F) L.S _ ?_⟩
    obtain ⟨o, c1, kvs, rfl, c2, c3⟩ := L.cell
    exact ⟨D, rfl, by simp only [R1]; exact ⟨kvs, c1, c2, c3⟩, L.hF, L.h0, L.hn⟩
theorem se_dc2 {kx vx tg iter tg1 iter1 : Expr} {ifs ifs1 : List Expr} {scope : Scope} {pos : Pos} {di : Env' → Res (List PV)} {u : UG} {dt : Option (Env' → Res Bool)} {di1 : Env' → Res (List PV)} {u1 : UG} {dt1 : Option (Env' → Res Bool)} {dk dv : Env' → Res Val} (own : List (Str × Nat)) (ok : Ok X g) (hN : X.N.Nodup)
    (hi : PI X tg iter (tI g di)) (bk : BlkOk X.N X.env.scope scope own) (hv : own.map (·.2) = vs) (hj : ∀ j ∈ js, j ∈ vs) (hj1 : ∀ j ∈ js1, j ∈ vs1) (hv1 : ∀ j ∈ vs1, j ∈ vs)
    (hg : ∀ (s : Shared) (H : Hp) (C : Addr) (cl : List (Str × Addr)) (fp : List Addr) (g' : Gm), g'.C = g.C → Ok (X.blk s H scope (compEnvC scope cl C X.env) fp) g' → PG (X.blk s H scope (compEnvC scope cl C X.env) fp) tg (tG g' u js))
    (ht : ∀ (s : Shared) (H : Hp) (C : Addr) (cl : List (Str × Addr)) (fp : List Addr) (g' : Gm), g'.C = g.C → Ok (X.blk s H scope (compEnvC scope cl C X.env) fp) g' → PTs (X.blk s H scope (compEnvC scope cl C X.env) fp) ifs (tT g' (dtO dt)))
    (hi1 : ∀ (s : Shared) (H : Hp) (C : Addr) (cl : List (Str × Addr)) (fp : List Addr) (g' : Gm), g'.C = g.C → Ok (X.blk s H scope (compEnvC scope cl C X.env) fp) g' → PI (X.blk s H scope (compEnvC scope cl C X.env) fp) tg1 iter1 (tI g' di1))
    (hg1 : ∀ (s : Shared) (H : Hp) (C : Addr) (cl : List (Str × Addr)) (fp : List Addr) (g' : Gm), g'.C = g.C → Ok (X.blk s H scope (compEnvC scope cl C X.env) fp) g' → PG (X.blk s H scope (compEnvC scope cl C X.env) fp) tg1 (tG g' u1 js1))
    (ht1 : ∀ (s : Shared) (H : Hp) (C : Addr) (cl : List (Str × Addr)) (fp : List Addr) (g' : Gm), g'.C = g.C → Ok (X.blk s H scope (compEnvC scope cl C X.env) fp) g' → PTs (X.blk s H scope (compEnvC scope cl C X.env) fp) ifs1 (tT g' (dtO dt1)))
    (hk : ∀ (s : Shared) (H : Hp) (C : Addr) (cl : List (Str × Addr)) (fp : List Addr) (g' : Gm), g'.C = g.C → Ok (X.blk s H scope (compEnvC scope cl C X.env) fp) g' → PE (X.blk s H scope (compEnvC scope cl C X.env) fp) kx (tE g' dk))
    (he : ∀ (s : Shared) (H : Hp) (C : Addr) (cl : List (Str × Addr)) (fp : List Addr) (g' : Gm), g'.C = g.C → Ok (X.blk s H scope (compEnvC scope cl C X.env) fp) g' → PE (X.blk s H scope (compEnvC scope cl C X.env) fp) vx (tE g' dv))
    (hs : ∀ x, foldedSetIterable iter X.env x = pure x) (hs1 : ∀ env x, foldedSetIterable iter1 env x = pure x) :
    PE X (.DictComp kx vx [⟨tg, iter, ifs, 0⟩, ⟨tg1, iter1, ifs1, 0⟩] scope pos) (tE g (dDc2 vs vs1 di u dt di1 u1 dt1 dk dv)) := by
  subst hv
  refine peImp (pe_dc2 ok.calm hN hi bk hv1 (fun s H C cl fp => xG_of fun g' hC => hg s H C cl fp g' hC (ok_blk ok hC)) (fun s H C cl fp => xT_of fun g' hC => ht s H C cl fp g' hC (ok_blk ok hC))
    (fun s H C cl fp => xI_of fun g' hC => hi1 s H C cl fp g' hC (ok_blk ok hC)) (fun s H C cl fp => xG_of fun g' hC => hg1 s H C cl fp g' hC (ok_blk ok hC)) (fun s H C cl fp => xT_of fun g' hC => ht1 s H C cl fp g' hC (ok_blk ok hC))
    (fun s H C cl fp => xE_of fun g' hC => hk s H C cl fp g' hC (ok_blk ok hC)) (fun s H C cl fp => xE_of fun g' hC => he s H C cl fp g' hC (ok_blk ok hC)) hs hs1) fun σ H Q h => ?_
  obtain ⟨F, env, S, go⟩ := h
  exact ⟨F, env, S, (Go.bind go).mono fun ps e1 F1 H1 x1 S1 k J w => dc2_turns hj hj1 S1 w k⟩
end
end VL

set_option maxRecDepth 100000
set_option maxHeartbeats 2000000
namespace VL
open PySem PySem.Spec L2
open PyProof.Rows hiding St
/-! ### sorted(x, key=lambda y: (len(y), y)): shorter texts first -/
/-- the texts to be sorted -/
def keysS : List Key → Option (List Str)
  | [] => some []
  | .inr x :: ks => (keysS ks).map (x :: ·)
  | _ => none
theorem keysS_is : ∀ {ks : List Key} {l : List Str}, keysS ks = some l → ks = l.map Sum.inr
  | [], l, h => by cases h; rfl
  | .inr x :: ks, l, h => by
    simp only [keysS, Option.map_eq_some_iff] at h
    obtain ⟨r, h1, rfl⟩ := h
    rw [keysS_is h1]; rfl
  | .inl i :: ks, l, h => by simp [keysS] at h
def txtsP : PV → Option (List Str)
  | .lst xs => strsP xs
  | .dK ks _ => keysS ks
  | _ => none
def lnK (x : Str) : PyData := .tuple [.int x.cps.size, .str x]
/-- the order of the kit's rule (sorted_key_data) at this key -/
def sortLn (xs : List Str) : List Str := xs.mergeSort (PySem.W.dataLe false lnK)
def semLn : PV → Option PV := fun p => (txtsP p).bind fun xs => if xs.all (fun x => decide (x.cps.size < 4611686018427387904)) = true then some (.lst ((sortLn xs).map PV.str)) else none
def dSortLn (d : Env' → Res Val) : Env' → Res Val := fun e => (d e).bind fun x e1 => match peek x e1 with
  | some p => match semLn p with
    | some q => .ok (.new q) e1
    | none => .bad
  | none => .bad
end VL

set_option maxRecDepth 100000
set_option maxHeartbeats 2000000
namespace VL
open PySem PySem.Spec L2
open PyProof.Rows hiding St
section
variable {X : Cx}
/-- the dict comprehension's run, when what comes out of it is used on the spot -/
abbrev dcRun (X : Cx) (y : Str) (py : Pos) (kx vx : Expr) (tg iter : Expr) (ifs : List Expr) (gs : List Comprehension) (scope : Scope) (pos : Pos) : Sem Value :=
  comprehension (.DictComp kx vx (⟨tg, iter, ifs, 0⟩ :: gs) scope pos) scope X.env (firstIterPos (⟨tg, iter, ifs, 0⟩ :: gs) pos) newDict false (eval iter X.env) (some (assign (.Name y py) X.env))
/-- y = {..}: from what the run needs, whatever the clauses -/
theorem ps_setRun {i : Nat} {y : Str} {py pos spos : Pos} {kx vx : Expr} {tg iter : Expr} {ifs : List Expr} {gs : List Comprehension} {scope : Scope} {t : TE} (hN : X.N.Nodup) (hy : X.N[i]? = some y) (hyl : X.env.scope.names.lookup y = some .local) (hsw : swapsWith (.DictComp kx vx (⟨tg, iter, ifs, 0⟩ :: gs) scope pos) (some (.Name y py)) spos.line X.env = pure true)
    (run : ∀ {pins : List (Addr × Obj)} {s : Shared} {σ : St} {H : Hp} {Q : VK} {Qf : Value → Shared → Prop}, Inv X pins σ H s → t σ H Q →
      (∀ L C s' m H', Inv X pins σ H' s' → Q (.ref L) H' → s'.heap.Ns C m → FpOk X pins H' C → compPost (model X.prog X.w) X.A X.xe (some (assign (.Name y py) X.env)) Qf (.ref L) C (.ok .next) s') →
      wpAny (model X.prog X.w) X.A (dcRun X y py kx vx tg iter ifs gs scope pos) Qf X.xe s) :
    PS X (.Assign [.Name y py] (.DictComp kx vx (⟨tg, iter, ifs, 0⟩ :: gs) scope pos) spos) (tAsg t (gName i)) := by
  constructor
  intro pins s σ H D I h
  rw [exec_Assign_Name_used _ _ _ _ hsw]
  refine wpAny_bind (wpAny_standAt (wpAny_bind ?_))
  show wpAny _ X.A (do let _ ← dcRun X y py kx vx tg iter ifs gs scope pos) _ _ s
  refine wpAny_bind (wpAny_mono (run (Qf := fun _ s1 => SP X pins D .next s1) I h ?_) (fun _ s1 hq => wpAny_pure (wpAny_pure hq)) fun _ _ z => z)
  intro L C s1 m H1 I1 q hn fo
  obtain ⟨g0, g1, g2, g3, g4, g5⟩ := fo
  show wpAny _ _ (assign (.Name y py) X.env (.ref L)) _ _ _
  apply wpAny_assign_Name
  apply store_ok2 (v := V.ref L) I1 hN hy (.inl hyl) rfl ?_ (.inr hyl)
  rintro s2 I2 ⟨a, sb, ha⟩
  refine ⟨m, hn.sameBut sb ?_, fun s3 sb3 => ⟨_, H1, I2.turned (t' := s2.toks) (fun b o hb e => (sb3.2 b hb).trans e) g0 g1 g3 g4 g5, q⟩⟩
  intro e
  cases ha with
  | inl z => exact g1 (e.trans z).symm.symm
  | inr z => exact g4 y a z e.symm
theorem ps_setDc {i : Nat} {y : Str} {py : Pos} {kx vx tg iter : Expr} {ifs : List Expr} {scope : Scope} {own : List (Str × Nat)} {pos spos : Pos} {wi : TI} {g : TG} {tt : TT} {tk tv : TE} (hc : X.calm = true) (hN : X.N.Nodup) (hy : X.N[i]? = some y) (hyl : X.env.scope.names.lookup y = some .local)
    (hsw : swapsWith (.DictComp kx vx [⟨tg, iter, ifs, 0⟩] scope pos) (some (.Name y py)) spos.line X.env = pure true) (hi : PI X tg iter wi) (ok : BlkOk X.N X.env.scope scope own)
    (hg : InB X scope fun Y => PG Y tg g) (ht : InB X scope fun Y => PTs Y ifs tt) (hk : InB X scope fun Y => PE Y kx tk) (he : InB X scope fun Y => PE Y vx tv) (hs : ∀ x, foldedSetIterable iter X.env x = pure x := by intro _; rfl) :
    PS X (.Assign [.Name y py] (.DictComp kx vx [⟨tg, iter, ifs, 0⟩] scope pos) spos) (tAsg (tDc wi g tt tk tv (own.map (·.2))) (gName i)) :=
  ps_setRun hN hy hyl hsw fun I h fin => dc_core hc hN I hi ok hg ht hk he hs h fin
theorem ps_setDc2 {i : Nat} {y : Str} {py : Pos} {kx vx tg iter tg1 iter1 : Expr} {ifs ifs1 : List Expr} {scope : Scope} {own : List (Str × Nat)} {vs1 : List Nat} {pos spos : Pos} {wi wi1 : TI} {g g1 : TG} {tt tt1 : TT} {tk tv : TE} (hc : X.calm = true) (hN : X.N.Nodup) (hy : X.N[i]? = some y) (hyl : X.env.scope.names.lookup y = some .local)
    (hsw : swapsWith (.DictComp kx vx [⟨tg, iter, ifs, 0⟩, ⟨tg1, iter1, ifs1, 0⟩] scope pos) (some (.Name y py)) spos.line X.env = pure true) (hi : PI X tg iter wi) (ok : BlkOk X.N X.env.scope scope own) (hv : ∀ i ∈ vs1, i ∈ own.map (·.2))
    (hg : InB X scope fun Y => PG Y tg g) (ht : InB X scope fun Y => PTs Y ifs tt) (hi1 : InB X scope fun Y => PI Y tg1 iter1 wi1) (hg1 : InB X scope fun Y => PG Y tg1 g1) (ht1 : InB X scope fun Y => PTs Y ifs1 tt1) (hk : InB X scope fun Y => PE Y kx tk) (he : InB X scope fun Y => PE Y vx tv)
    (hs : ∀ x, foldedSetIterable iter X.env x = pure x := by intro _; rfl) (hs1 : ∀ env x, foldedSetIterable iter1 env x = pure x := by intro _ _; rfl) :
    PS X (.Assign [.Name y py] (dc2X kx vx tg iter tg1 iter1 ifs ifs1 scope pos) spos) (tAsg (tDc2 wi g tt wi1 g1 tt1 tk tv (own.map (·.2)) vs1) (gName i)) :=
  ps_setRun hN hy hyl hsw fun I h fin => dc2_core hc hN I hi ok hv hg ht hk he hs hi1 hg1 ht1 hs1 h fin
/-- the statement's own line, a function's own name, not one of the block's names: the swap is taken -/
theorem sw_trueD {kx vx : Expr} {gs : List Comprehension} {scope : Scope} {pos py : Pos} {y : Str} {l : Nat} {env : Env} (hk : env.scope.kind = .function) (hy : env.scope.names.lookup y = some .local) (hl : (py.line == pos.line) = true)
    (ha : (scope.names.any fun (n, k) => n == y && (k == .local || k == .cell)) = false) : swapsWith (.DictComp kx vx gs scope pos) (some (.Name y py)) l env = pure true := by
  have ky : env.kindOf y = some .local := hy
  have hb : env.blockKind = .function := by unfold Env.blockKind; rw [hk]; rfl
  unfold swapsWith
  simp only [hb, ky, ha, Expr.pos, hl]
  rfl
end
section
variable {X : Cx} {g : Gm} {σ : St} {H : Hp} {vs vs1 js js1 : List Nat}
theorem tDc2_of {di di1 : Env' → Res (List PV)} {u u1 : UG} {dt dt1 : Option (Env' → Res Bool)} {dk dv : Env' → Res Val} (hj : ∀ j ∈ js, j ∈ vs) (hj1 : ∀ j ∈ js1, j ∈ vs1) {Q : VK} (h : tE g (dDc2 vs vs1 di u dt di1 u1 dt1 dk dv) σ H Q) :
    tDc2 (tI g di) (xG g.C u js) (xT g.C (dtO dt)) (xI g.C di1) (xG g.C u1 js1) (xT g.C (dtO dt1)) (xE g.C dk) (xE g.C dv) vs vs1 σ H Q := by
  obtain ⟨F, env, S, go⟩ := h
  exact ⟨F, env, S, (Go.bind go).mono fun ps e1 F1 H1 x1 S1 k J w => dc2_turns hj hj1 S1 w k⟩
theorem ss_setDc {i : Nat} {y : Str} {py spos : Pos} {kx vx tg iter : Expr} {ifs : List Expr} {scope : Scope} {pos : Pos} {di : Env' → Res (List PV)} {u : UG} {dt : Option (Env' → Res Bool)} {dk dv : Env' → Res Val} (own : List (Str × Nat)) (ok : Ok X g) (hN : X.N.Nodup)
    (hy : X.N[i]? = some y) (hyl : X.env.scope.names.lookup y = some .local) (hsw : swapsWith (.DictComp kx vx [⟨tg, iter, ifs, 0⟩] scope pos) (some (.Name y py)) spos.line X.env = pure true)
    (hi : PI X tg iter (tI g di)) (bk : BlkOk X.N X.env.scope scope own) (hv : own.map (·.2) = vs) (hj : ∀ j ∈ js, j ∈ vs)
    (hg : ∀ (s : Shared) (H : Hp) (C : Addr) (cl : List (Str × Addr)) (fp : List Addr) (g' : Gm), g'.C = g.C → Ok (X.blk s H scope (compEnvC scope cl C X.env) fp) g' → PG (X.blk s H scope (compEnvC scope cl C X.env) fp) tg (tG g' u js)) (ht : ∀ (s : Shared) (H : Hp) (C : Addr) (cl : List (Str × Addr)) (fp : List Addr) (g' : Gm), g'.C = g.C → Ok (X.blk s H scope (compEnvC scope cl C X.env) fp) g' → PTs (X.blk s H scope (compEnvC scope cl C X.env) fp) ifs (tT g' (dtO dt))) (hk : ∀ (s : Shared) (H : Hp) (C : Addr) (cl : List (Str × Addr)) (fp : List Addr) (g' : Gm), g'.C = g.C → Ok (X.blk s H scope (compEnvC scope cl C X.env) fp) g' → PE (X.blk s H scope (compEnvC scope cl C X.env) fp) kx (tE g' dk)) (he : ∀ (s : Shared) (H : Hp) (C : Addr) (cl : List (Str × Addr)) (fp : List Addr) (g' : Gm), g'.C = g.C → Ok (X.blk s H scope (compEnvC scope cl C X.env) fp) g' → PE (X.blk s H scope (compEnvC scope cl C X.env) fp) vx (tE g' dv))
    (hs : ∀ x, foldedSetIterable iter X.env x = pure x) : PS X (.Assign [.Name y py] (.DictComp kx vx [⟨tg, iter, ifs, 0⟩] scope pos) spos) (tS g (dSet i (dDc vs di u dt dk dv))) := by
  subst hv
  refine psImp (ps_setDc ok.calm hN hy hyl hsw hi bk (fun s H C cl fp => xG_of fun g' hC => hg s H C cl fp g' hC (ok_blk ok hC)) (fun s H C cl fp => xT_of fun g' hC => ht s H C cl fp g' hC (ok_blk ok hC)) (fun s H C cl fp => xE_of fun g' hC => hk s H C cl fp g' hC (ok_blk ok hC)) (fun s H C cl fp => xE_of fun g' hC => he s H C cl fp g' hC (ok_blk ok hC)) hs) fun D σ H h => ?_
  obtain ⟨F, env, S, go⟩ := h
  exact tDc_of hj ⟨F, env, S, (GoS.bindE (σ := σ) go).mono fun x e F' H' x1 S1 k v r => store_go S1 r k⟩
theorem ss_setDc2 {i : Nat} {y : Str} {py spos : Pos} {kx vx tg iter tg1 iter1 : Expr} {ifs ifs1 : List Expr} {scope : Scope} {pos : Pos} {di di1 : Env' → Res (List PV)} {u u1 : UG} {dt dt1 : Option (Env' → Res Bool)} {dk dv : Env' → Res Val} (own : List (Str × Nat)) (ok : Ok X g) (hN : X.N.Nodup)
    (hy : X.N[i]? = some y) (hyl : X.env.scope.names.lookup y = some .local) (hsw : swapsWith (.DictComp kx vx [⟨tg, iter, ifs, 0⟩, ⟨tg1, iter1, ifs1, 0⟩] scope pos) (some (.Name y py)) spos.line X.env = pure true)
    (hi : PI X tg iter (tI g di)) (bk : BlkOk X.N X.env.scope scope own) (hv : own.map (·.2) = vs) (hj : ∀ j ∈ js, j ∈ vs) (hj1 : ∀ j ∈ js1, j ∈ vs1) (hv1 : ∀ j ∈ vs1, j ∈ vs)
    (hg : ∀ (s : Shared) (H : Hp) (C : Addr) (cl : List (Str × Addr)) (fp : List Addr) (g' : Gm), g'.C = g.C → Ok (X.blk s H scope (compEnvC scope cl C X.env) fp) g' → PG (X.blk s H scope (compEnvC scope cl C X.env) fp) tg (tG g' u js)) (ht : ∀ (s : Shared) (H : Hp) (C : Addr) (cl : List (Str × Addr)) (fp : List Addr) (g' : Gm), g'.C = g.C → Ok (X.blk s H scope (compEnvC scope cl C X.env) fp) g' → PTs (X.blk s H scope (compEnvC scope cl C X.env) fp) ifs (tT g' (dtO dt))) (hi1 : ∀ (s : Shared) (H : Hp) (C : Addr) (cl : List (Str × Addr)) (fp : List Addr) (g' : Gm), g'.C = g.C → Ok (X.blk s H scope (compEnvC scope cl C X.env) fp) g' → PI (X.blk s H scope (compEnvC scope cl C X.env) fp) tg1 iter1 (tI g' di1)) (hg1 : ∀ (s : Shared) (H : Hp) (C : Addr) (cl : List (Str × Addr)) (fp : List Addr) (g' : Gm), g'.C = g.C → Ok (X.blk s H scope (compEnvC scope cl C X.env) fp) g' → PG (X.blk s H scope (compEnvC scope cl C X.env) fp) tg1 (tG g' u1 js1)) (ht1 : ∀ (s : Shared) (H : Hp) (C : Addr) (cl : List (Str × Addr)) (fp : List Addr) (g' : Gm), g'.C = g.C → Ok (X.blk s H scope (compEnvC scope cl C X.env) fp) g' → PTs (X.blk s H scope (compEnvC scope cl C X.env) fp) ifs1 (tT g' (dtO dt1))) (hk : ∀ (s : Shared) (H : Hp) (C : Addr) (cl : List (Str × Addr)) (fp : List Addr) (g' : Gm), g'.C = g.C → Ok (X.blk s H scope (compEnvC scope cl C X.env) fp) g' → PE (X.blk s H scope (compEnvC scope cl C X.env) fp) kx (tE g' dk)) (he : ∀ (s : Shared) (H : Hp) (C : Addr) (cl : List (Str × Addr)) (fp : List Addr) (g' : Gm), g'.C = g.C → Ok (X.blk s H scope (compEnvC scope cl C X.env) fp) g' → PE (X.blk s H scope (compEnvC scope cl C X.env) fp) vx (tE g' dv))
    (hs : ∀ x, foldedSetIterable iter X.env x = pure x) (hs1 : ∀ env x, foldedSetIterable iter1 env x = pure x) : PS X (.Assign [.Name y py] (.DictComp kx vx [⟨tg, iter, ifs, 0⟩, ⟨tg1, iter1, ifs1, 0⟩] scope pos) spos) (tS g (dSet i (dDc2 vs vs1 di u dt di1 u1 dt1 dk dv))) := by
  subst hv
  refine psImp (ps_setDc2 ok.calm hN hy hyl hsw hi bk hv1 (fun s H C cl fp => xG_of fun g' hC => hg s H C cl fp g' hC (ok_blk ok hC)) (fun s H C cl fp => xT_of fun g' hC => ht s H C cl fp g' hC (ok_blk ok hC))
    (fun s H C cl fp => xI_of fun g' hC => hi1 s H C cl fp g' hC (ok_blk ok hC)) (fun s H C cl fp => xG_of fun g' hC => hg1 s H C cl fp g' hC (ok_blk ok hC)) (fun s H C cl fp => xT_of fun g' hC => ht1 s H C cl fp g' hC (ok_blk ok hC))
    (fun s H C cl fp => xE_of fun g' hC => hk s H C cl fp g' hC (ok_blk ok hC)) (fun s H C cl fp => xE_of fun g' hC => he s H C cl fp g' hC (ok_blk ok hC)) hs hs1) fun D σ H h => ?_
  obtain ⟨F, env, S, go⟩ := h
  exact tDc2_of hj hj1 ⟨F, env, S, (GoS.bindE (σ := σ) go).mono fun x e F' H' x1 S1 k v r => store_go S1 r k⟩
end
end VL

set_option maxRecDepth 100000
set_option maxHeartbeats 2000000
namespace VL
open PySem PySem.Spec L2
open PyProof.Rows hiding St
/-! ### the lambda's body: (len(v), v) -/
theorem ln_body {prog : Program} {w : World} {A : Around} {E : Value → Shared → Prop} {s : Shared} {env : Env} {v : Str} {x : Str} {t : Tok} {m mg mb : Str → Option Value} {p1 p2 p3 p4 p5 : Pos} {k : Nat}
    (hk : env.scope.kind = .function) (hv : env.kindOf v = some .local) (hl : env.kindOf (Str.ofString "len") = some .globalImplicit) (hn : s.heap.Ns env.locals m) (hm : m v = some (.str x t))
    (hg : s.heap.Ns env.globals mg) (hmg : mg (Str.ofString "len") = none) (hb : s.heap.Ns env.builtins mb) (hmb : mb (Str.ofString "len") = some (.builtin "len")) (hx : x.cps.size < 2 ^ 62) (hd : (v == ("__debug__" : Str)) = false) :
    wpAny (model prog w) A (eval (.Tuple [.Call (.Name (Str.ofString "len") p1) [.Name v p2] [] p3, .Name v p4] k p5) env) (fun u s' => PySem.W.KeyPure (lnK x) s u s') E s := by
  refine wpAny_Tuple (wpAny_items_cons ?_)
  refine Call_Name1 (Calls.Name_function_global hk hl (Calls.loadGlobal_builtin hg hmg hb hmb ?_))
  refine Calls.callWith_builtin rfl (Calls.evalArgs_plain (Calls.spliced_cons (wpAny_Name (wpAny_loadName_local hk hv hn hm (Calls.spliced_nil ?_)) hd)))
  have hfit : ¬ ((x.length : Int) ≥ 2 ^ 63) := by
    have : x.length = x.cps.size := rfl
    omega
  refine len_str hfit ?_
  refine wpAny_items_cons (wpAny_Name (wpAny_loadName_local (s := { s with toks := s.toks + 1 + 1 }) hk hv hn hm (wpAny_items_nil ?_)) hd)
  refine ⟨by show 2 ≤ sizeLine; decide, _, _, rfl, fun b o e => Heap.get?_push_of_some _ e, ?_⟩
  refine Reads.tuple (as := []) (Heap.get?_push_size _ rfl) rfl rfl ?_
  exact ReadsAll.cons (Reads.int _ _) (ReadsAll.cons (Reads.str _ _) ReadsAll.nil)
/-- the lambda called: its key -/
theorem ln_call {prog : Program} {w : World} {A : Around} {E : Value → Shared → Prop} {s : Shared} {f c' : Addr} {q : Str} {params : Arguments} {scope : Scope} {pm ctv : Value} {v : Str} {x : Str} {t : Tok} {mg mb : Str → Option Value} {p1 p2 p3 p4 p5 : Pos} {k : Nat} {fd : FuncData}
    (hroom : A.depth < recursionLimit) (ofd : fd = PySem.W.kla_fn "<lambda>" q params (.Tuple [.Call (.Name (Str.ofString "len") p1) [.Name v p2] [] p3, .Name v p4] k p5) scope [] pm (.ref c') ctv)
    (of : s.heap.get? f = some { cls := .type "function", data := .func fd }) (hcd : s.heap.CodeRec (.ref c') q) (hlim : s.heap.NoLimit) (hbind : bindArgs fd ⟨[.str x t], []⟩ = pure [(v, .str x t)])
    (hk : scope.kind = .function) (hco : scope.isCoroutine = false) (hgen : scope.isGenerator = false) (hcell : ∀ y ∈ scope.names, y.2 ≠ .cell) (hv : scope.names.lookup v = some .local) (hl : scope.names.lookup (Str.ofString "len") = some .globalImplicit)
    (hg : s.heap.Ns fd.globals mg) (hmg : mg (Str.ofString "len") = none) (hb : s.heap.Ns fd.builtins mb) (hmb : mb (Str.ofString "len") = some (.builtin "len")) (hx : x.cps.size < 2 ^ 62) (hd : (v == ("__debug__" : Str)) = false) :
    wpAny (model prog w) A (call (.ref f) [.str x t]) (PySem.W.KeyPure (lnK x) s) E s := by
  subst ofd
  refine wpAny_call (PySem.W.kla_callFunE hroom of rfl hco hgen rfl hcd ?_)
  rw [hbind]
  refine wpAny_pure (wpAny_newFunctionEnv hcell (fun y hy => ?_) (fun h₁ hns hsb => ⟨hlim.keeps ?_, ?_⟩) hk)
  · rcases List.mem_singleton.mp hy with rfl
    exact hv
  · exact fun b o e => hsb.extBut b o (Nat.ne_of_lt (Heap.lt_size e)) (Heap.get?_push_of_some _ e)
  · have kp : ∀ b o, s.heap.get? b = some o → h₁.get? b = some o := fun b o e => hsb.extBut b o (Nat.ne_of_lt (Heap.lt_size e)) (Heap.get?_push_of_some _ e)
    refine PySem.W.kla_codeExpr (wpAny_mono (ln_body (x := x) (t := t) hk hv hl hns (by simp) (hg.keeps kp) hmg (hb.keeps kp) hmb hx hd) (fun u s' hq => ?_) fun e s' hq => hq)
    obtain ⟨h', tk, e, k1, r⟩ := hq
    subst e
    exact ⟨h', tk, rfl, fun b o q => k1 b o (kp b o q), r⟩
end VL

set_option maxRecDepth 100000
set_option maxHeartbeats 2000000
namespace VL
open PySem PySem.Spec L2 LamX
open PyProof.Rows hiding St
/-! ### a lambda is made: what stood stays, tables may grow -/
def KptN (H H' : Hp) : Prop := ∀ b o, H b = some o → Kpt o (H' b)
theorem KptN.refl (H : Hp) : KptN H H := fun _ _ h => .inl h
/-- one entry more in a table -/
def entryV (ps : Array Value) (pos : Pos) (d : Addr) : Array Value := ps ++ #[rawInt pos.line, rawInt pos.col, .ref d]
theorem entryV_list (ps : Array Value) (pos : Pos) (d : Addr) : (entryV ps pos d).toList = ps.toList ++ [rawInt pos.line, rawInt pos.col, .ref d] := by
  simp [entryV]
/-- the abstract heap behind it -/
def withCode (H : Hp) (P d : Addr) (ps : Array Value) (pos : Pos) (x : Str) : Hp := upd (upd H P (.tbl (entryV ps pos d))) d (CodeO d x)
section
variable {H : Hp} {P d : Addr} {ps : Array Value} {pos : Pos} {x : Str}
theorem withCode_new : withCode H P d ps pos x d = some (CodeO d x) := upd_same
theorem withCode_tab (hP : H P = some (.tbl ps)) (hd : H d = none) : withCode H P d ps pos x P = some (.tbl (entryV ps pos d)) := by
  unfold withCode
  rw [upd_ne (ne_of_none hP hd)]
  exact upd_same
theorem withCode_old {b : Addr} (h1 : b ≠ P) (h2 : b ≠ d) : withCode H P d ps pos x b = H b := by
  unfold withCode
  rw [upd_ne h2, upd_ne h1]
theorem kpt_withCode (hP : H P = some (.tbl ps)) (hd : H d = none) : KptN H (withCode H P d ps pos x) := by
  intro b o hb
  have h2 : b ≠ d := ne_of_none hb hd
  by_cases h1 : b = P
  · rw [h1, hP] at hb
    cases hb
    rw [h1, withCode_tab hP hd]
    exact .inr ⟨ps, _, rfl, rfl⟩
  · rw [withCode_old h1 h2]
    exact .inl hb
/-- a code object that was known is known still -/
theorem code_withCode {c : Addr} {y : Str} (hP : H P = some (.tbl ps)) (hd : H d = none) (h : H c = some (CodeO c y)) : withCode H P d ps pos x c = some (CodeO c y) := by
  rw [withCode_old (fun z => ?_) (ne_of_none h hd)]
  · exact h
  · rw [z, hP] at h
    unfold CodeO at h
    cases h
theorem tabs_withCode {T : List (Addr × Str)} (hT : Tabs T H) (hP : H P = some (.tbl ps)) (hd : H d = none) (hx : ∀ p ∈ T, p.1 = P → p.2 = x) : Tabs T (withCode H P d ps pos x) := by
  intro p hp
  obtain ⟨qs, hq, ok, kn⟩ := hT p hp
  by_cases e : p.1 = P
  · rw [e, hP] at hq
    cases hq
    rw [hx p hp e] at kn ⊢
    refine ⟨_, by rw [e]; exact withCode_tab hP hd, by rw [entryV_list]; exact PySem.TriplesOk_snoc _ _ _ _ ok, ?_⟩
    intro pos' cv hcv
    rw [entryV_list] at hcv
    rcases among_app _ ok hcv with old | rfl
    · obtain ⟨c, rfl, hc⟩ := kn pos' cv old
      exact ⟨c, rfl, code_withCode hP hd hc⟩
    · exact ⟨d, rfl, withCode_new⟩
  · refine ⟨qs, by rw [withCode_old e (ne_of_none hq hd)]; exact hq, ok, ?_⟩
    intro pos' cv hcv
    obtain ⟨c, rfl, hc⟩ := kn pos' cv hcv
    exact ⟨c, rfl, code_withCode hP hd hc⟩
end
section
variable {X : Cx} {pins : List (Addr × Obj)} {σ : L2.St} {H : Hp} {s : Shared}
/-- no frame that runs stands where something new is laid -/
theorem not_frame (I : Inv X pins σ H s) {f : Addr} (hf : s.heap.objs.size ≤ f) : f ∉ frs X.stack := by
  intro hm
  cases List.mem_cons.mp (I.stkSub _ hm) with
  | inl e => exact absurd (e ▸ I.lt) (Nat.not_lt.mpr hf)
  | inr e => exact I.nofs hf e
theorem lam_make3 {T : List (Addr × Str)} {c P : Addr} {params : Arguments} {body : Expr} {scope : Scope} {pos : Pos} {E Q : Value → Shared → Prop} (I : Inv X pins σ H s) (tb : TabB X.base X.mg c P) (hc : X.env.code = .ref c) (mem : (P, X.env.qual ++ "<lambda>") ∈ T)
    (uniq : ∀ p ∈ T, p.1 = P → p.2 = X.env.qual ++ "<lambda>") (hT : Tabs T H) (nod : defaultsOf params X.env = ([], [])) (fr : ∀ y ∈ scope.names, y.2 = .free → ∃ c, X.env.cells.lookup y.1 = some c)
    (k : ∀ (f d : Addr) (pm ct : Value) (H1 : Hp) (s1 : Shared), Inv X pins σ H1 s1 → KptN H H1 → Tabs T H1 → s1.heap.get? f = some (PySem.W.kla_obj "<lambda>" (X.env.qual ++ "<lambda>") params body scope (cloFrom X.env.cells scope.names []) pm d ct) → H1 f = none → f ∉ frs X.stack → H1 d = some (CodeO d (X.env.qual ++ "<lambda>")) → Q (.ref f) s1) :
    wpAny (model X.prog X.w) X.A (eval (.Lambda params body scope pos) X.env) Q E s := by
  obtain ⟨ps, hP, ok, kn⟩ := hT _ mem
  have atP : s.heap.get? P = some { cls := .none, data := .fields ps } := I.hok P _ hP
  have hd0 := tb.code.keeps I.bk
  have bm0 : s.heap.BuiltinsAt X.mg P := tb.bm.keeps I.bk
  have gl := I.mod.glob.keeps I.bk
  refine PySem.W.kla_eval nod ?_
  by_cases hit : ∃ cv, codeAmong pos ps.toList = some cv
  · obtain ⟨cv, hcv⟩ := hit
    obtain ⟨d, rfl, hd⟩ := kn pos cv hcv
    refine PySem.W.kla_makeFunctionHit (mg := X.mg) (P := P) (ps := ps) (closure_ok fr) I.ok.glob gl hc hd0 atP ok hcv bm0 fun ct g tk keep le => ?_
    refine k _ d _ ct H _ (I.kept (t' := tk) fun b o e => Heap.get?_push_of_some _ (keep b o e)) (KptN.refl H) hT (Heap.get?_push_size _ rfl) (I.hok.fresh le) (not_frame I le) hd
  · have none_ : codeAmong pos ps.toList = none := by
      cases q : codeAmong pos ps.toList with
      | none => rfl
      | some cv => exact absurd ⟨cv, q⟩ hit
    refine PySem.W.kla_makeFunction (mg := X.mg) (P := P) (ps := ps) (closure_ok fr) I.ok.glob gl hc hd0 atP ok none_ tb.gP bm0 fun d ct g tk ext dge dlt rec tabg => ?_
    obtain ⟨d', oc, vs, t, e, hoc, hdat, hname⟩ := rec
    cases e
    have dn : H d = none := I.hok.fresh dge
    have gge : s.heap.objs.size ≤ g.objs.size := by omega
    have fnew : withCode H P d ps pos (X.env.qual ++ "<lambda>") g.objs.size = none := by
      rw [withCode_old (Nat.ne_of_gt (Nat.lt_of_lt_of_le (Heap.lt_size atP) gge)) (Nat.ne_of_gt dlt)]
      exact I.hok.fresh gge
    refine k g.objs.size d _ ct (withCode H P d ps pos (X.env.qual ++ "<lambda>")) _ ?_ (kpt_withCode hP dn) (tabs_withCode hT hP dn uniq) (Heap.get?_push_size _ rfl) fnew (not_frame I gge) withCode_new
    refine inv_table (t' := tk) (more := #[rawInt pos.line, rawInt pos.col, .ref d]) I hP (fun b o hb e => ?_) (Heap.get?_push_of_some _ tabg) dge ⟨oc, vs, t, Heap.get?_push_of_some _ hoc, hdat, hname⟩
    exact Heap.get?_push_of_some _ (ext b o hb e)
end
section
variable {g : Gm} {F H H1 : Hp} {σ : L2.St} {env : Env'}
theorem Stt.lam (S : Stt g F H σ env) (k : KptN H H1) (T : LamX.Tabs g.C.T H1) : Stt g F H1 σ env where
  len := S.len
  frame := fun b o q n => (S.frame b o q n).trans fun o' q' => k b o' q'
  live := fun b hb => let ⟨o, q⟩ := S.live b hb; (k b o q).some
  ext := S.ext
  fresh := S.fresh
  sub := fun b o q => by
    rcases S.sub b o q with z | ⟨d, ob, z⟩
    · exact .inl (z.trans fun o' q' => k b o' q')
    · exact .inr ⟨d, ob, (k b _ z).eq fun ps e => by cases e⟩
  fz := S.fz
  ow := fun i b p q => by
    obtain ⟨a, h1, h2, h3, h4⟩ := S.ow i b p q
    obtain ⟨o, ho⟩ := h2.cell
    have e := (k a o ho).eq (h2.pln ho).1
    exact ⟨a, h1, h2.mono (Ex.refl F).le (by rw [e, ho]), h3, h4⟩
  inj := S.inj
  tab := T
end
end VL

set_option maxRecDepth 100000
set_option maxHeartbeats 2000000
namespace VL.Srt
open PySem PySem.Calls PySem.W PyProof.Rows
/-! ### sorted(u, key=f), u anything that is collected -/
abbrev IsS (v : Value) (x : Str) : Prop := ∃ t : Tok, v = .str x t
abbrev Keeps (h h' : Heap) : Prop := ∀ b o, h.get? b = some o → h'.get? b = some o
section
variable {prog : Program} {w : World} {A : Around} {E : Value → Shared → Prop} {s : Shared} {Q : Value → Shared → Prop}
theorem srt_ln {u : Value} {f : Addr} {xs : List Str} (hL : xs.length ≤ sizeLine) (hu : A.units + 3 < cLine)
    (hcol : ∀ (E' : Value → Shared → Prop) (Q' : List Value → Shared → Prop), (∀ h1 tk vs, Keeps s.heap h1 → EachIs IsS vs xs → Q' vs { s with heap := h1, toks := tk }) → wpAny (model prog w) A.in1 (collect u) Q' E' s)
    (turn : ∀ x, x ∈ xs → ∀ (t : Tok) (h : Heap) (tk : Nat), Keeps s.heap h → wpAny (model prog w) A.in1.in1 (call (.ref f) [.str x t]) (KeyPure (lnK x) { s with heap := h, toks := tk }) (fun _ _ => False) { s with heap := h, toks := tk })
    (h : ∀ out c h1 h' tk p, Keeps s.heap h1 → Keeps h1 h' → h1.objs.size ≤ p → h'.get? p = some (seqObj "list" (List.toArray out) c) → EachIs IsS out (xs.mergeSort (dataLe false lnK)) → Q (.ref p) { s with heap := h', toks := tk }) :
    wpAny (model prog w) A (call (.builtin "sorted") [u] [(Str.ofString "key", .ref f)]) Q E s := by
  refine call_function_entry_kw kind_sorted plain_sorted entry_sorted (ksk_s1 _ _) ?_
  unfold Builtin.«sorted»
  refine wpAny_bind (m := checkCount "sorted" 1 1 _) (wpAny_pure ?_)
  refine wpAny_bind (hcol _ _ fun h1 tk vs kp hr => ?_)
  have hlen : vs.length ≤ sizeLine := by rw [hr.length]; exact hL
  refine wpAny_bind (wpAny_newList ?_ hlen)
  have hat : (h1.push (seqObj "list" vs.toArray 0)).get? h1.objs.size = some (seqObj "list" vs.toArray 0) := Heap.get?_push_size _ rfl
  have kp2 : Keeps s.heap (h1.push (seqObj "list" vs.toArray 0)) := fun b o e => Heap.get?_push_of_some _ (kp b o e)
  have up : ∀ {g : Heap}, KeepsBut h1.objs.size (h1.push (seqObj "list" vs.toArray 0)) g → Keeps s.heap g := fun {g} k b o q =>
    k b o (Nat.ne_of_lt (Heap.lt_size (kp b o q))) (kp2 b o q)
  have up1 : ∀ {g : Heap}, KeepsBut h1.objs.size (h1.push (seqObj "list" vs.toArray 0)) g → Keeps h1 g := fun {g} k b o q =>
    k b o (Nat.ne_of_lt (Heap.lt_size q)) (Heap.get?_push_of_some _ q)
  refine wpAny_bind (wpAny_holding (wpAny_call_entry_kw slot_list_sort ⟨_, hat, rfl⟩ entry_list_sort ?body (ksk_l1 _ _)))
  case body =>
    rw [ksk_t1]
    have al : ∀ a b : Str, alike (lnK a) (lnK b) = true := fun a b => by simp [lnK, alike, alikeAll]
    refine wpAny_mono (keyH_tree (kz := xs.map lnK) (s := { s with heap := h1.push (seqObj "list" vs.toArray 0), toks := tk }) (P := fun fin s' => ∃ v, fin = .done (.ret v) ∧ Q (.ref h1.objs.size) s') hat (by rw [List.length_map]; exact hr.length.symm) hlen
      (AllAlike.of (bs := xs) fun a b => al a b) (Sortable.tuples fun x => ⟨_, _, rfl⟩) (fun d hd => ?_)
      (keyH_turns (k := lnK) (s := { s with heap := h1.push (seqObj "list" vs.toArray 0), toks := tk }) hr fun v x ⟨t, hv⟩ hx h tk k => by subst hv; exact turn x hx t h tk (up k)) fun h' tk out c k hD ko => ⟨.none, rfl, ?_⟩) (fun fin s' ⟨v, e, q⟩ => ?_) fun _ _ e => e
    · obtain ⟨x, _, rfl⟩ := List.mem_map.mp hd
      have : (lnK x).depth = 1 := by simp [lnK, PyData.depth, PyData.depthAll]
      show A.units + 2 + (lnK x).depth < cLine
      omega
    · exact h out c h1 h' tk _ kp (up1 k) (Nat.le_refl _) hD (keyedOut_each lnK ko hr)
    · exact ⟨v, e, wpAny_pure ⟨_, rfl, q⟩⟩
end
theorem each_get {α β : Type} {R : α → β → Prop} : ∀ {l : List α} {m : List β}, l.length = m.length → (∀ (j : Nat) (a : α) (b : β), l[j]? = some a → m[j]? = some b → R a b) → EachIs R l m
  | [], [], _, _ => .nil
  | [], _ :: _, h, _ => by simp at h
  | _ :: _, [], h, _ => by simp at h
  | a :: l, b :: m, h, k => .cons (k 0 a b rfl rfl) (each_get (by simpa using h) fun j x y e1 e2 => k (j + 1) x y (by simpa using e1) (by simpa using e2))
theorem collect_list_k {prog : Program} {w : World} {A : Around} {E : Value → Shared → Prop} {s : Shared} {l : Addr} {vs : List Value} {Q : List Value → Shared → Prop} (hl : s.heap.IsList l vs.toArray) (hz : vs.length ≤ sizeLine)
    (h : ∀ h1, Keeps s.heap h1 → Q vs { s with heap := h1 }) : wpAny (model prog w) A (collect (.ref l)) Q E s := by
  refine collect_list hl (h _ fun b o e => ?_) hz
  have hb : b ≠ s.heap.objs.size := Nat.ne_of_lt (Heap.lt_size e)
  rw [Heap.get?_update_ne _ _ _ _ hb]
  exact Heap.get?_push_of_some _ e
end VL.Srt
namespace VL
open PySem PySem.Spec L2
open PyProof.Rows hiding St
open PySem.W (EachIs)
theorem vals_each : ∀ {xs : List Str} {its : List Value}, Vals (xs.map V.str) its → EachIs Srt.IsS its xs
  | [], _, h => by cases h; exact .nil
  | x :: xs, _, h => by
    cases h with
    | cons r t => exact .cons r (vals_each t)
theorem each_vals : ∀ {xs : List Str} {its : List Value}, EachIs Srt.IsS its xs → Vals (xs.map V.str) its
  | _, _, .nil => .nil
  | _, _, .cons r t => .cons r (each_vals t)
theorem rs_strs {C : Ct} {F : Hp} : ∀ (xs : List Str), Rs C F (xs.map PV.str) (xs.map V.str)
  | [] => Rs.nil
  | x :: xs => Rs.cons (by unfold R; rfl) (rs_strs xs)
theorem RV.lam {g : Gm} {F H H1 : Hp} {σ : L2.St} {env : Env'} {x : Val} {v : V} (r : RV g F H σ env x v) (k : KptN H H1) : RV g F H1 σ env x v := by
  cases x with
  | fz p => exact r
  | bor i => exact r
  | new p =>
    obtain ⟨a, e, h, r2⟩ := r
    obtain ⟨o, ho⟩ := h.cell
    exact ⟨a, e, h.mono (Ex.refl F).le (((k a o ho).eq (h.pln ho).1).trans ho.symm), r2⟩
theorem lst_strs {ps : List PV} {xs : List Str} (h : txtsP (.lst ps) = some xs) : ps = xs.map PV.str := strsP_is h
theorem keys_strs {ks : List Key} {vs : List PV} {xs : List Str} (h : txtsP (.dK ks vs) = some xs) : ks = xs.map Sum.inr := keysS_is h
end VL

set_option maxRecDepth 100000
set_option maxHeartbeats 2000000
namespace VL
open PySem PySem.Spec L2 LamX
open PyProof.Rows hiding St
open PySem.W (EachIs)
/-- a lambda's scope: one parameter v, len a global -/
structure LnSc (scope : Scope) (v : Str) : Prop where
  kind : scope.kind = .function
  co : scope.isCoroutine = false
  gen : scope.isGenerator = false
  cell : ∀ y ∈ scope.names, y.2 ≠ .cell
  free : ∀ y ∈ scope.names, y.2 ≠ .free
  v : scope.names.lookup v = some .local
  len : scope.names.lookup (Str.ofString "len") = some .globalImplicit
theorem clo_nil {cells : List (Str × Addr)} : ∀ {names : List (Str × NameKind)} {acc : List (Str × Addr)}, (∀ y ∈ names, y.2 ≠ .free) → cloFrom cells names acc = acc
  | [], acc, _ => rfl
  | (n, k) :: r, acc, h => by
    unfold cloFrom
    have hk : (k == NameKind.free) = false := by
      have := h (n, k) (List.mem_cons_self ..)
      cases k <;> first | rfl | exact absurd rfl this
    rw [if_neg (by rw [hk]; exact Bool.false_ne_true)]
    exact clo_nil fun y hy => h y (List.mem_cons_of_mem _ hy)
theorem paired_at {α β : Type} {R : α → β → Prop} : ∀ {l : List α} {m : List β} {j : Nat} {a : α} {b : β}, Paired R l m → l[j]? = some a → m[j]? = some b → R a b
  | _, _, j, a, b, .nil, h, _ => by simp at h
  | _, _, 0, a, b, .cons r t, h, k => by simp at h k; subst h; subst k; exact r
  | _, _, j + 1, a, b, .cons r t, h, k => paired_at t (by simpa using h) (by simpa using k)
section
variable {X : Cx} {g : Gm} {pins : List (Addr × Obj)} {F H : Hp} {σ : L2.St} {env : Env'} {s : Shared} {d : Env' → Res Val}
/-- what is sorted is collected: its texts -/
theorem ln_coll {p : PV} {v : V} {u : Value} {xs : List Str} {A : Around} (hcalm : X.calm = true) (hK : g.C.K = X.K) (I : Inv X pins σ H s) (t : Rt g.C F H p v) (ru : RelV v u) (hp : txtsP p = some xs) (hA : A.handled = none) :
    xs.length ≤ sizeLine ∧ ∀ (E' : Value → Shared → Prop) (Q' : List Value → Shared → Prop), (∀ h1 tk vs, Srt.Keeps s.heap h1 → EachIs Srt.IsS vs xs → Q' vs { s with heap := h1, toks := tk }) → wpAny (model X.prog X.w) A (PySem.collect u) Q' E' s := by
  cases p with
  | lst ps =>
    obtain ⟨a, vs, rfl, h1, h2⟩ := t
    obtain rfl := lst_strs hp
    obtain rfl := h2.strs_of
    obtain rfl : u = Value.ref a := ru
    obtain ⟨its, rv, pl, hz⟩ := I.list (show SqL X.K H a _ from SqL.of h1)
    have hl : (xs.map V.str).length = xs.length := List.length_map _
    refine ⟨by omega, fun E' Q' k => Srt.collect_list_k pl.isList (by rw [← rv.length]; exact hz) fun h1 kp => k h1 s.toks its kp (vals_each rv)⟩
  | dK ks ps =>
    obtain ⟨a, kvs, rfl, h1, hk, h2⟩ := t
    obtain rfl := keys_strs hp
    obtain rfl : u = Value.ref a := ru
    obtain ⟨hz, hs, vs', kv, hd⟩ := (show ObjOk X.prog X.w H s.heap a (.dK kvs) from h1.ok I.hok)
    obtain ⟨ep, hda⟩ := hd.dictAt
    have lk : kvs.length = xs.length := by rw [← List.length_map (f := Prod.fst) (as := kvs), hk, List.length_map]
    have l2 : kvs.length = vs'.length := Paired.length kv
    refine ⟨by omega, fun E' Q' k => PySem.W.kdu_collect (PySem.W.kdl_dict hs) hA hda (by omega) fun h' tk acc kp it => k h' tk acc.toList kp ?_⟩
    refine Srt.each_get (by rw [Array.length_toList, it.1]; omega) fun j w x e1 e2 => ?_
    obtain ⟨key, val, e3, e4⟩ := it.2 j w (by rw [← Array.getElem?_toList]; exact e1)
    have e5 : (kvs.map Prod.fst)[j]? = some (Sum.inr x) := by rw [hk, List.getElem?_map, e2]; rfl
    rw [List.getElem?_map] at e5
    cases q : kvs[j]? with
    | none => rw [q] at e5; cases e5
    | some kv0 =>
      rw [q] at e5
      have e6 : kv0.1 = Sum.inr x := Option.some.inj e5
      have e7 : kv0.1 = key := (paired_at kv q e3).1
      rw [e6] at e7
      have e4 : keyIs key w = true := e4
      rcases keyIs_shape e4 with ⟨i, t, rfl, z⟩ | ⟨y, t, rfl, z⟩
      · cases e7
      · cases e7; exact ⟨t, z⟩
  | _ => cases hp
/-- THE RULE: sorted(x, key=lambda v: (len(v), v)) -/
theorem se_sortLn {x : Expr} {v : Str} {params : Arguments} {scope : Scope} {k j : Nat} {c P : Addr} {p1 p2 pos lp q1 q2 q3 q4 q5 : Pos} (ok : Ok X g) (TB : TabB X.base X.mg c P) (hcode : X.env.code = .ref c) (hm : (P, X.env.qual ++ "<lambda>") ∈ g.C.T) (hu : ∀ p ∈ g.C.T, p.1 = P → p.2 = X.env.qual ++ "<lambda>")
    (hdef : defaultsOf params X.env = ([], [])) (sc : LnSc scope v)
    (hbind : ∀ (q : Str) (pm cv ct u : Value), bindArgs (PySem.W.kla_fn "<lambda>" q params (.Tuple [.Call (.Name (Str.ofString "len") q1) [.Name v q2] [] q3, .Name v q4] k q5) scope [] pm cv ct) ⟨[u], []⟩ = pure [(v, u)])
    (hd : (v == ("__debug__" : Str)) = false) (hr : Room j X.A) (hgs : Gl X "sorted") (hms : X.mg "sorted" = none) (hml : X.mg "len" = none) (ha : PE X x (tE g d))
    (he : backTo pos (starEach [x] X.env) = (false, eval x X.env) :: backTo pos (starEach [] X.env)) (hpl : (backTo pos (starEach [x] X.env)).any (·.1) = false) :
    PE X (.Call (.Name "sorted" p1) [x] [⟨some "key", .Lambda params (.Tuple [.Call (.Name (Str.ofString "len") q1) [.Name v q2] [] q3, .Name v q4] k q5) scope lp, p2⟩] pos) (tE g (dSortLn d)) := by
  refine ⟨fun pins s σ H Q I ⟨F, env, S, go⟩ => ?_⟩
  refine wpAny_Call_Name_kw (ld_blt I hgs hms boot_sorted ?_)
  refine callWith_kw ?_ he hpl rfl rfl
  rw [he]
  refine Calls.spliced_cons (thn (ha.run pins s σ H (fun v H1 => ∃ F1 env1 y, Ex F F1 ∧ Stt g F1 H1 σ env1 ∧ RV g F1 H1 σ env1 y v ∧ Go g F1 σ (match peek y env1 with
    | some p => match semLn p with
      | some q => .ok (.new q) env1
      | none => .bad
    | none => .bad) fun x env' F' H' => ∀ v, RV g F' H' σ env' x v → Q v H') I ⟨F, env, S, (Go.bind go).mono fun y e F1 H1 x1 S1 k v r => ⟨F1, e, y, x1, S1, r, k⟩⟩) fun u s1 ⟨v1, H1, I1, r1, F1, env1, y, x1, S1, rv, go1⟩ => ?_)
  refine Calls.spliced_nil (kws_cons ?_)
  have hfree : ∀ y ∈ scope.names, y.2 = .free → ∃ c, X.env.cells.lookup y.1 = some c := fun y hy e => absurd e (sc.free y hy)
  refine lam_make3 I1 TB hcode hm hu S1.tab hdef hfree fun f c' pm ctv H2 s2 I2 kpt T2 of fn nofr hc' => ?_
  refine kws_nil ?_
  show wpAny _ _ (PySem.call (.builtin "sorted") [u] [(Str.ofString "key", .ref f)]) _ _ _
  have S2 := S1.lam kpt T2
  have rv2 := RV.lam rv kpt
  cases hp : peek y env1 with
  | none => rw [hp] at go1; exact go1.elim
  | some p =>
    have t := peek_ok S2 rv2 hp
    rw [hp] at go1
    cases hx : txtsP p with
    | none =>
      have : semLn p = none := by unfold semLn; rw [hx]; rfl
      simp only [this] at go1; exact go1.elim
    | some xs =>
      by_cases hall : xs.all (fun x => decide (x.cps.size < 4611686018427387904)) = true
      · have e : semLn p = some (.lst ((sortLn xs).map PV.str)) := by unfold semLn; rw [hx]; simp only [Option.bind_some, hall, if_true]
        simp only [e] at go1
        have hall' : ∀ x ∈ xs, x.cps.size < 2 ^ 62 := fun x hx => by
          have := of_decide_eq_true (List.all_eq_true.mp hall x hx)
          omega
        have rl : RelV v1 u := r1
        obtain ⟨hz, hcol⟩ := ln_coll (A := X.A.in1) ok.calm ok.K I2 t rl hx (I2.ok.hd ok.calm)
        have hdep : X.A.depth < recursionLimit := hr.depth
        have huu := ok.u
        obtain ⟨⟨oc, cvs, ct, hoc, hdc, hvc⟩, _, _⟩ := I2.hok c' _ hc'
        rw [clo_nil sc.free] at of
        obtain ⟨mb, hb1, hb2⟩ := I2.mod.blt
        refine Srt.srt_ln hz (by omega) hcol (fun x hx t h tk kp => ?_) fun out c0 h1 h' tk p k1 k2 hle hget each => ?_
        · refine ln_call (s := { s2 with heap := h, toks := tk }) (x := x) (t := t) (f := f) (c' := c') (mg := X.mg) (mb := mb) hdep rfl (kp _ _ of) ⟨c', oc, cvs, ct, rfl, kp _ _ hoc, hdc, hvc⟩ (I2.nolimit.keeps kp) (hbind _ _ _ _ _) sc.kind sc.co sc.gen sc.cell sc.v sc.len
            ((I2.mod.glob.keeps I2.bk).keeps kp) hml ((hb1.keeps I2.bk).keeps kp) ((hb2 _ (by decide)).trans boot_len) (hall' x hx) hd
        · have I3 := (I2.kept (t' := s2.toks) k1).laid (t' := tk) (a := p) (o := .lst ((sortLn xs).map V.str)) (h' := h') k2 hle ⟨by
            rw [List.length_map]
            unfold sortLn
            rw [List.length_mergeSort]; exact hz, out, c0, each_vals each, hget⟩
          refine ⟨.ref p, _, I3, rfl, ?_⟩
          exact fin_lst S2 (Inv.hok (I2.kept (t' := s2.toks) k1) |>.fresh hle) (rs_strs _) fun F' H' w x3 S3 r3 => go1 F' H' x3 S3 w r3
      · have : semLn p = none := by unfold semLn; rw [hx]; simp only [Option.bind_some]; rw [if_neg hall]
        simp only [this] at go1; exact go1.elim
end
/-- the name of a lambda made in the def x -/
def lamQ (x : Str) : Str := (x ++ ".<locals>.") ++ "<lambda>"
/-- what is known of a def x that makes a lambda: its code object at c, its table -/
structure LamF (base : Heap) (mg : Str → Option Value) (C : Ct) (x : Str) (c : Addr) : Prop where
  ex : ∃ P, TabB base mg c P ∧ (P, lamQ x) ∈ C.T ∧ ∀ p ∈ C.T, p.1 = P → p.2 = lamQ x
section
variable {C : Ct}
/-- a def whose code object is known, by its body -/
theorem fnVc {P : Program} {w : World} {K : PySem.W.Frag} {mg : Str → Option Value} {base : Heap} {x qual : Str} {params : Arguments} {body : List Stmt} {scope : Scope} {dvs : List V} {kws : List (Str × V)} {f c : Addr} {fd : FuncData} {N ps : List Str} {md : Md} {k : Nat} {d : Env' → Res Fl}
    (Fd : FunD K x qual params body scope dvs kws f fd) (hc : fd.code = .ref c) (S : FnScope N ps scope) (hmd : md.length = ps.length) (hn : md.length ≤ N.length) (hK : C.K = K)
    (hb : ∀ (A : Around) (outer : List Env) (s : Shared) (H : Hp) (E : XK) (g : Gm), g.C = C → Room k (cxOf C8.CX0 P w K mg base N qual scope f (.ref c) A outer s H E).nox.A → Ok (cxOf C8.CX0 P w K mg base N qual scope f (.ref c) A outer s H E).nox g →
      PSs (cxOf C8.CX0 P w K mg base N qual scope f (.ref c) A outer s H E).nox body (tS g d)) : FnOk P w K mg base C8.CX0 (k + 1) f fd ps (SpV C md (callFn N.length md d)) := by
  obtain ⟨oc, od, dV, kV, doc, pm, an, cdv, ct, osl, rfl, lk, hcd, _, _⟩ := Fd.ex
  obtain rfl : cdv = .ref c := hc
  refine fn_of lk hcd S (fun vs H Q E h => by rw [SpV.len vs H Q E h, hmd]) fun A outer s H vs Q E hr h => ?_
  obtain ⟨F, q⟩ := body_ok (E := E) hn h
  exact ⟨_, PSs.nox (hb A outer s H E (callG C F H md vs) rfl hr ⟨hK, by have := hr.un; show A.units + 3 + 65 < cLine; have : (A.deeper (envOfC qual scope s.heap.objs.size f (.ref c))).units = A.units + 3 := rfl; omega, rfl⟩), q⟩
end
end VL

set_option maxRecDepth 100000
set_option maxHeartbeats 2000000
namespace VL
open PySem PySem.Spec L2 LamX
open PyProof.Rows hiding St
/-! ### the law's own call -/
theorem spv_law {C : Ct} {fn : List PV → FR} {ns : List Int} {a : Addr} {H : Hp} (hS : SqL C.K H a (ns.map V.int)) (hT : Tabs C.T H) (hf : fn [.scr ns] = .ok (.fz (.bl true)) []) : SpV C [false] fn [.ref a] H (fun v _ => v = .bl true) fun _ _ _ => False := by
  have ha : (fun b => if b = a then H b else none : Hp) a = H a := if_pos rfl
  refine ⟨fun b => if b = a then H b else none, [.scr ns], .fz (.bl true), [], fun b o (e : (if b = a then H b else none) = some o) => ?_, hT, ⟨_, _, _, _, rfl, rfl, ?_, rfl, rfl⟩, List.nodup_nil, hf, fun F' H' v _ _ _ _ _ _ r => ?_⟩
  · by_cases hb : b = a
    · rw [if_pos hb] at e
      exact .inl (.inl e)
    · rw [if_neg hb] at e; cases e
  · rw [if_neg Bool.false_ne_true]
    unfold R
    refine ⟨a, rfl, ?_⟩
    rcases hS with h | h
    · rcases h with h | ⟨o, h⟩
      · exact .inl (.inl (ha.trans h))
      · exact .inl (.inr ⟨o, ha.trans h⟩)
    · exact .inr h
  · have r : R C F' (.bl true) v := r
    unfold R at r
    exact r
theorem tabs_nil {T : List (Addr × Str)} {H : Hp} (h : ∀ p ∈ T, H p.1 = some (.tbl #[])) : Tabs T H := fun p hp => TabS.nil (h p hp)
/-- a def that makes a lambda, from the head's facts -/
theorem code_at {K : PySem.W.Frag} {x qual : Str} {params : Arguments} {body : List Stmt} {scope : Scope} {dvs : List V} {kws : List (Str × V)} {p : Str × Option Str} {fd : FuncData} (F : FunD K x qual params body scope dvs kws (He.fAd K p) fd) : fd.code = .ref (He.cT K p).1 := by
  obtain ⟨oc, od, dV, kV, doc, pm, an, cdv, ct, osl, e, lk, hcd, _, _⟩ := F.ex
  obtain ⟨c, hc⟩ := He.codeIn_ref hcd
  have e1 : fd.code = .ref c := by rw [e]; exact hc
  rw [e1]
  exact congrArg Value.ref (He.codeOf_eq lk e1).symm
theorem rel_int {mg : Str → Option Value} {x : Str} {i : Int} (h : ∃ t, mg x = some (.int i t)) : ∃ u, mg x = some u ∧ RelV (.int i) u := let ⟨t, e⟩ := h; ⟨_, e, t, rfl⟩
theorem rel_str {mg : Str → Option Value} {x z : Str} (h : ∃ t, mg x = some (.str z t)) : ∃ u, mg x = some u ∧ RelV (.str z) u := let ⟨t, e⟩ := h; ⟨_, e, t, rfl⟩
end VL

set_option maxRecDepth 100000
set_option maxHeartbeats 2000000
namespace VL
open PySem PySem.Spec L2
open PyProof.Rows hiding St
/-! ### an own error's __init__ that begins with super().__init__(text) -/
/-- its names: the parameters, super, __class__ -/
structure SupScope (N ps : List Str) (sc : Scope) : Prop where
  kind : sc.kind = .function
  co : sc.isCoroutine = false
  gen : sc.isGenerator = false
  nd : N.Nodup
  pre : N.take ps.length = ps
  par : ∀ x ∈ ps, sc.names.lookup x = some .local
  nocell : ∀ x ∈ sc.names, x.2 ≠ .cell
  free : ∀ x ∈ sc.names, x.2 = .free → x.1 = "__class__"
  cls : sc.names.lookup ("__class__" : Str) = some .free
  sup : sc.names.lookup ("super" : Str) = some .globalImplicit
def supScopeB (N ps : List Str) (sc : Scope) : Bool :=
  decide (sc.kind = .function) && (!sc.isCoroutine && (!sc.isGenerator && (decide N.Nodup && (decide (N.take ps.length = ps) && (ps.all (fun x => decide (sc.names.lookup x = some .local)) && (sc.names.all (fun x => decide (x.2 ≠ .cell)) &&
    (sc.names.all (fun x => decide (x.2 = .free → x.1 = "__class__")) && (decide (sc.names.lookup ("__class__" : Str) = some .free) && decide (sc.names.lookup ("super" : Str) = some .globalImplicit)))))))))
theorem supScope_by {N ps : List Str} {sc : Scope} (h : supScopeB N ps sc = true) : SupScope N ps sc := by
  simp only [supScopeB, Bool.and_eq_true, decide_eq_true_eq, Bool.not_eq_true', List.all_eq_true] at h
  obtain ⟨h1, h2, h3, h4, h5, h6, h7, h8, h9, h10⟩ := h
  exact ⟨h1, h2, h3, h4, h5, h6, h7, h8, h9, h10⟩
abbrev supEnv (qual : Str) (scope : Scope) (L f : Addr) (cd : Value) (cc : Addr) : Env := PySem.W.ksEnv qual scope L f cd cc
/-- the context of such a body, at its entry -/
def cxSup (CX : CXT) (P : Program) (w : World) (K : PySem.W.Frag) (mg : Str → Option Value) (base : Heap) (N : List Str) (qual : Str) (scope : Scope) (f : Addr) (cd : Value) (cc : Addr) (A : Around) (outer : List Env) (s : Shared) (H : Hp) (E : XK) : Cx :=
  let env := supEnv qual scope s.heap.objs.size f cd cc
  { prog := P, w := w, K := K, mg := mg, base := base, A := A.deeper env, N := N, s_0 := s, H_0 := H, env := env, outer := outer, stack := env :: outer, ex := [], fn := fun x => x != "__class__", calm := true, pn := []
    xe := fun e s' => wpAny (model P w) (A.deeper env) (leaving env e) (fun _ s'' => CX outer H s E e s'') (fun e' s'' => CX outer H s E e' s'') s' }
theorem lookup_nodup {x : Str} {u : Value} : ∀ {l : List (Str × Value)}, (l.map Prod.fst).Nodup → (x, u) ∈ l → l.lookup x = some u
  | [], _, h => by cases h
  | (y, v) :: l, nd, h => by
    rw [List.lookup_cons]
    obtain ⟨n1, n2⟩ := List.nodup_cons.mp nd
    rcases List.mem_cons.mp h with h | h
    · cases h
      simp
    · have : x ≠ y := fun z => n1 (by rw [← z]; exact List.mem_map.mpr ⟨_, h, rfl⟩)
      rw [show (x == y) = false from by simpa using this]
      exact lookup_nodup n2 h
theorem zip_fst : ∀ {ps : List Str} {us : List Value}, us.length = ps.length → (ps.zip us).map Prod.fst = ps
  | [], us, _ => by simp
  | p :: ps, [], h => by simp at h
  | p :: ps, u :: us, h => by
    rw [List.zip_cons_cons, List.map_cons, zip_fst (by simpa using h)]
section
variable {CX : CXT} {P : Program} {w : World} {K : PySem.W.Frag} {mg : Str → Option Value} {base : Heap} {N ps : List Str} {qual : Str} {scope : Scope} {f cc C : Addr} {cd : Value} {A : Around} {outer : List Env} {s : Shared} {H : Hp} {E : XK} {us : List Value} {vs : List V}
theorem inv_sup {cl : Value} {cld : Option Addr} {csl : Array (Option Value)} {h₀ : Heap} {t : Nat} (S : SupScope N ps scope) (hd : A.handled = none) (e0 : Env0 P w K mg base A outer s H) (hl : vs.length = ps.length) (r : Vals vs us) (hcc : K.lookup cc = some ⟨cl, cld, .cell (some (.ref C)), csl⟩)
    (hns : h₀.Ns s.heap.objs.size fun x => (ps.zip us).reverse.lookup x) (hk : ∀ b o, s.heap.get? b = some o → h₀.get? b = some o) : Inv (cxSup CX P w K mg base N qual scope f cd cc A outer s H E) [] (start N vs) H { s with heap := h₀, toks := t } := by
  have hul : us.length = ps.length := by rw [← hl]; exact (Paired.length r).symm
  have hb := e0.mod.kin _ _ hcc
  have one : ∀ {x : Str} {c : Addr}, List.lookup x [(("__class__" : Str), cc)] = some c → x = "__class__" ∧ c = cc := fun {x c} h => by
    rw [List.lookup_cons] at h
    split at h
    · rename_i z
      cases h
      exact ⟨by simpa using z, rfl⟩
    · cases h
  have none' : ∀ b : Addr, b ∉ (cxSup CX P w K mg base N qual scope f cd cc A outer s H E).ex := fun b z => absurd (show b ∈ ([] : List Addr) from z) (by simp)
  constructor
  case ok =>
    constructor
    case mod => exact e0.mod
    case kind => exact S.kind
    case glob => rfl
    case blt => rfl
    case above => exact Nat.le_refl _
    case inj => exact fun x y c h1 h2 => (one h1).1.trans (one h2).1.symm
    case has =>
      intro x hx
      have hx : scope.names.lookup x = some .cell ∨ scope.names.lookup x = some .free := hx
      rcases hx with hx | hx
      · exact absurd rfl (S.nocell _ (PySem.mem_of_lookup hx))
      · have e : x = "__class__" := S.free _ (PySem.mem_of_lookup hx) rfl
        subst e
        exact ⟨cc, rfl⟩
    case cab =>
      intro x c hf h
      have e := (one h).1
      subst e
      exact absurd hf (by show ¬ ((("__class__" : Str) != "__class__") = true); simp)
    case hd => exact fun _ => hd
    case frames => exact Around.frames_deeper e0.frames
    case stk => exact .inr ⟨rfl, rfl⟩
    case exf => exact fun b z => absurd z (none' b)
    case bs => exact e0.bs
    case bsz => exact e0.bsz
    case noex => exact fun b _ _ => none' b
    case exfs => exact fun b z => absurd z (none' b)
    case funs => exact e0.funs
    case frf => exact e0.frf
  case os => rfl
  case bare => exact e0.bare
  case base => exact Un.kept hk
  case loc =>
    refine ⟨_, hns, fun i x v h1 h2 h3 => ?_⟩
    have h2 : (vs.map some ++ List.replicate (N.length - vs.length) none)[i]? = some (some v) := h2
    have hi : i < vs.length := by
      refine Nat.lt_of_not_le fun hi => ?_
      rw [List.getElem?_append_right (by rw [List.length_map]; exact hi), List.getElem?_replicate] at h2
      split at h2 <;> cases h2
    rw [List.getElem?_append_left (by rw [List.length_map]; exact hi), List.getElem?_map] at h2
    have hv : vs[i]? = some v := by
      cases e : vs[i]? with
      | none => rw [e] at h2; cases h2
      | some y => rw [e] at h2; cases h2; rfl
    obtain ⟨u, hu, rv⟩ := r.get hv
    have hp : ps[i]? = some x := by
      rw [← S.pre, List.getElem?_take_of_lt (by omega)]
      exact h1
    have ndp : ps.Nodup := by
      rw [← S.pre]
      exact S.nd.sublist (List.take_sublist _ _)
    refine ⟨u, rv, .inl ⟨S.par x (List.mem_of_getElem? hp), ?_⟩⟩
    refine lookup_nodup ?_ ?_
    · rw [List.map_reverse, zip_fst hul]
      exact List.pairwise_reverse.mpr (List.Pairwise.imp (fun h => Ne.symm h) ndp)
    · refine List.mem_reverse.mpr (List.mem_of_getElem? (i := i) ?_)
      rw [List.getElem?_zip_eq_some]
      exact ⟨hp, hu⟩
  case cell =>
    intro x c h
    obtain ⟨_, rfl⟩ := one h
    exact ⟨_, _, hk _ _ (e0.bs _ _ hb).1, rfl⟩
  case free => exact e0.hok.fresh (Nat.le_refl _)
  case freeC =>
    intro x c h
    obtain ⟨_, rfl⟩ := one h
    exact (e0.bs _ _ hb).2
  case pin => exact fun p hp => absurd (show p ∈ ([] : List (Addr × Obj)) from hp) (by simp)
  case hok => exact e0.hok.kept hk
  case len =>
    show (vs.map some ++ List.replicate (N.length - vs.length) none).length = N.length
    have : ps.length ≤ N.length := by
      have := congrArg List.length S.pre
      rw [List.length_take] at this
      omega
    rw [List.length_append, List.length_map, List.length_replicate]
    omega
/-- the class: one of the package's errors whose __init__ is looked up behind it in ValueError -/
structure SupC (K : PySem.W.Frag) (C : Addr) : Prop where
  o : OexC K C
  ve : PySem.W.ks_superIn K C C "__init__" = some (some (.builtin "ValueError.__init__"))
  sv : PySem.W.subIn K (.ref C) (.type "ValueError") = some true
  me : PySem.W.mroIn K C (.ref C) = some true
  tp : PySem.W.nsIn K cStatics "thirdparty.any" = some none
  nm : PySem.W.nsIn K mainGlobals "super" = some none
/-- super().__init__(text): the error's args are laid anew, of which nothing is told -/
theorem sup_line {cl ccl : Value} {cld cdd : Option Addr} {csl ccs : Array (Option Value)} {vs' : Array Value} {name : Str} {params : Arguments} {body : List Stmt} {dV kV doc pm ct oc : Value} {an od : Option Addr} {osl : Array (Option Value)} {cda a : Addr} {file : Str} {tf : Tok} {ar : Arg} {p0 p1 p2 p3 p4 p5 : Pos} {m : Str} {j : Nat} {σ : St} {X : Cx} {pl : Sem Bool}
    (hX : X = cxSup CX P w K mg base N qual scope f (.ref cda) cc A outer s H E) (S : SupScope N ps scope) (T : SupC K C) (lk : K.lookup f = some ⟨oc, od, .func (PySem.W.ksFn name qual params body scope dV kV doc pm an (.ref cda) ct cc), osl⟩)
    (hcc : K.lookup cc = some ⟨cl, cld, .cell (some (.ref C)), csl⟩) (hcda : K.lookup cda = some ⟨ccl, cdd, .fields vs', ccs⟩) (hvs : vs'[2]? = some (.str file tf)) (hfile : ((P.main.file : Str) == file) = true) (htop : (P.main.scope.names.lookup ("super" : Str)).isSome = false)
    (har : (params.posonlyargs ++ params.args).head? = some ar) (h0 : N[0]? = some ar.arg) (hps : ar.arg ∈ ps) (hσ : σ[0]? = some (some (.ref a))) (s1 : Shared) {H1 : Hp} (I : Inv X [] σ H1 s1) (ha : H1 a = some (exo a C none)) {Q : Flow → Shared → Prop} {E' : Value → Shared → Prop}
    (h : ∀ s2, Inv X [] σ H1 s2 → Q .next s2)
    (he : eval (.Call (.Attribute (.Call (.Name "super" p0) [] [] p1) "__init__" p2) [.Constant (.str m) j p3] [] p4) X.env = (do
      let ov ← attributeBase (.Call (.Name "super" p0) [] [] p1) "__init__" X.env (eval (.Call (.Name "super" p0) [] [] p1) X.env)
      standAt p2.atName
      let (f, first) ← holding [ov] (getMethod ov "__init__" pl)
      callWith p4 f first (backTo p4 (starEach [.Constant (.str m) j p3] X.env)) []) := by rfl)
    (hi : interactive X.env = false := by rfl) (hw : swapsWith (.Call (.Attribute (.Call (.Name "super" p0) [] [] p1) "__init__" p2) [.Constant (.str m) j p3] [] p4) none p5.line X.env = pure false := by rfl) :
    PySem.wpAt (model P w) X.A (.func body X.env) (exec (.Expr (.Call (.Attribute (.Call (.Name "super" p0) [] [] p1) "__init__" p2) [.Constant (.str m) j p3] [] p4) p5) X.env) Q E' s1 := by
  subst hX
  have KX : K.In s1.heap := I.kIn
  obtain ⟨nm, q, N', bs, bm, sn, sub, ab, col, dd, k0, k1, k2, k3, k5, hC, hbm⟩ := T.o.cls
  have hcl : PySem.W.clsIn K C = some { name := nm, bases := bs, mro := .ref C :: bm, ns := N', qualname := q, hasDict := true, slotNames := sn, subclasses := sub, abstract := ab, collection := col, hasDel := false } := by unfold PySem.W.clsIn; rw [hC] <;> rfl
  obtain ⟨t1, ho⟩ := exo_at I.hok ha
  obtain ⟨ml, hml, hlook⟩ := I.loc
  have hself : ml ar.arg = some (.ref a) := by
    obtain ⟨u, ru, hu⟩ := hlook 0 ar.arg (.ref a) h0 hσ (.inl (S.par _ hps))
    obtain rfl : u = Value.ref a := ru
    rcases hu with ⟨_, hu⟩ | ⟨hu, _⟩
    · exact hu
    · have hu : scope.names.lookup ar.arg = some .cell ∨ scope.names.lookup ar.arg = some .free := hu
      rw [S.par _ hps] at hu
      rcases hu with hu | hu <;> cases hu
  refine ks_wpAt_Expr_any (ks_wpAt_MethodCall (ks_wpAt_super_base (of := ⟨oc, od, .func (PySem.W.ksFn name qual params body scope dV kV doc pm an (.ref cda) ct cc), osl⟩) S.sup S.cls rfl rfl (KX _ _ lk) rfl har rfl (KX _ _ hcda) rfl hvs hfile htop ?_) he) hi hw
  obtain ⟨mb, hb1, hb2⟩ := I.mod.blt
  refine PySem.W.ks_loadName_global S.kind S.sup (Calls.loadGlobal_builtin (env := supEnv qual scope s.heap.objs.size f (.ref cda) cc) (I.mod.glob.keeps I.bk) (PySem.W.mg_none_of KX (I.mod.glob.keeps I.bk) T.nm) (hb1.keeps I.bk) ((hb2 _ (by decide +kernel)).trans PyProof.Rows.Boot.«super») ⟨rfl, ?_⟩)
  refine wpAny_loadName_free (env := supEnv qual scope s.heap.objs.size f (.ref cda) cc) S.kind S.cls rfl ⟨_, KX _ _ hcc, rfl⟩ ?_
  refine wpAny_loadName_local (env := supEnv qual scope s.heap.objs.size f (.ref cda) cc) S.kind (S.par _ hps) hml hself ?_
  have hD := KX _ _ hC
  refine ks_wpAny_isType_cls hD rfl ⟨rfl, ?_⟩
  obtain ⟨hp, g, d, t, os⟩ := s1
  refine ks_wpAny_call_super hD rfl ho rfl (fun c e => by cases e) (PySem.W.looks_mroIn KX T.me) fun h' eso k1 => ?_
  have I2 := I.kept (t' := t) k1
  have K2 : K.In h' := I2.kIn
  have ho2 := k1 _ _ ho
  have hne : a ≠ C := fun z => by
    rw [z] at ho
    rw [KX _ _ hC] at ho
    cases ho
  have hsup := T.ve
  unfold PySem.W.ks_superIn at hsup
  rw [hcl] at hsup
  refine PySem.W.kxs_getMethod PySem.W.kxs_ValueError eso (PySem.W.looks_opaque K2 T.tp) (l₀ := .ref C :: bm) (fun A Q E s k q => wpAny_bind ((PySem.W.looks_clsIn K2 hcl) A _ E s k (wpAny_pure q))) rfl K2 hsup
    ((PySem.W.InstAt.type (od := none) ⟨ho2, rfl, rfl, trivial⟩).andThen (PySem.W.looks_subIn K2 T.sv)) hne (by decide) ?_
  obtain ⟨h2, eh2⟩ : ∃ h2, h2 = h'.push (PySem.W.kxs_mw "ValueError.__init__" a) := ⟨_, rfl⟩
  have k2 : ∀ b o, h'.get? b = some o → h2.get? b = some o := fun b o e => by rw [eh2]; exact Heap.get?_push_of_some _ e
  have hu : h2.get? h'.objs.size = some (PySem.W.kxs_mw "ValueError.__init__" a) := by rw [eh2]; exact Heap.get?_push_size _ rfl
  rw [← eh2]
  show wpAny _ _ (callWith p4 (.ref h'.objs.size) [] (backTo p4 (starEach [.Constant (.str m) j p3] (supEnv qual scope s.heap.objs.size f (.ref cda) cc))) []) _ _ _
  refine PySem.W.kxs_callWith (i := "ValueError.__init__") (x := a) rfl (Calls.evalArgs_plain (Calls.spliced_cons ?_))
  rw [if_neg Bool.false_ne_true]
  refine Calls.Constant_str (Calls.spliced_nil ⟨hu, ?_⟩)
  have I3 := I.kept (t' := t) fun b o e => k2 b o (k1 b o e)
  have FB := F.excBase_ValueError
  refine wpAny_call (codeAny_of_tree ?_)
  show wpAny _ _ (callAny (.ref h'.objs.size) ⟨[.str m (t + 1)], []⟩) _ _ _
  unfold callAny
  refine wpAny_bind (wpAny_load hu ?_)
  refine PySem.W.KFB.if_so (by show (Value.type "method-wrapper" == Value.type "method" || Value.type "method-wrapper" == Value.type "builtin_function_or_method" || Value.type "method-wrapper" == Value.type "method-wrapper") = true; decide) ?_
  refine wpAny_bind (PySem.W.check_bound_init FB.toExcCallFacts (k2 _ _ (k1 _ _ hD)) (k2 _ _ ho2) rfl ?_)
  refine wpAny_bind (wpAny_pure (wpAny_pure ⟨plainId_quiet FB.init.plain _, codeAny_builtin FB.initEntry ?_⟩))
  refine PySem.W.exc_init_tree (k2 _ _ ho2) (by show 1 ≤ sizeLine; decide) fun h3 k3 e3 _ => ?_
  have J := I3.write (t' := t + 1 + 1) (x := a) (e := a) (o := exo a C none) (h' := h3) (by rw [ha]; exact True.intro) (.inl rfl) k3 ⟨_, e3⟩ (exo_ok e3)
  have eu : upd H1 a (exo a C none) = H1 := by
    funext b
    by_cases hb : b = a
    · rw [hb, upd_same, ha]
    · rw [upd_ne hb]
  rw [eu] at J
  exact h _ J
end
end VL

set_option maxRecDepth 100000
set_option maxHeartbeats 2000000
namespace VL
open PySem PySem.Spec L2
open PyProof.Rows hiding St
/-! ### self.f1 = x1, self.f2 = x2, .. behind it -/
/-- the rest of such a body: the parameters from the k-th on are kept under the names fs -/
inductive ErrRest (ps : List Str) (self : Str) : List Stmt → List Str → Nat → Prop where
  | nil (k : Nat) : ErrRest ps self [] [] k
  | cons {k : Nat} {y f : Str} {p1 p2 p3 p4 : Pos} {rest : List Stmt} {fs : List Str} (h1 : ps[k]? = some y) (h2 : (y == ("__debug__" : Str)) = false) (h3 : (y == ("__classdict__" : Str)) = false) (h : ErrRest ps self rest fs (k + 1)) :
    ErrRest ps self (.Assign [.Attribute (.Name self p1) f p2] (.Name y p3) p4 :: rest) (f :: fs) k
theorem flds_cons (f : Str) (w : V) (fs : List Str) (ws : List V) (done : List (Str × V)) : flds (f :: fs) (w :: ws) done = flds fs ws ((f, w) :: done) := by
  unfold flds
  rw [List.zip_cons_cons, List.reverse_cons, List.append_assoc]
  rfl
section
variable {X : Cx} {ps : List Str} {self : Str} {C : Addr}
/-- some fields stand already -/
def tErr2 (C : Addr) (fs : List Str) (k : Nat) : TS := fun D σ H => ∃ (a dx : Addr) (ws : List V) (done : List (Str × V)), σ[0]? = some (some (.ref a)) ∧ H a = some (exo a C (some dx)) ∧ H dx = some (exd dx done) ∧ a ≠ dx ∧ done.length + fs.length ≤ 900 ∧ ws.length = fs.length ∧
  (∀ i w, ws[i]? = some w → σ[k + i]? = some (some w)) ∧ ∀ H', H' dx = some (exd dx (flds fs ws done)) → (∀ b, b ≠ dx → H' b = H b) → D.nx σ H'
/-- none stands yet -/
def tErr1 (C : Addr) (fs : List Str) (k : Nat) : TS := fun D σ H => ∃ (a : Addr) (ws : List V), σ[0]? = some (some (.ref a)) ∧ H a = some (exo a C none) ∧ fs.length ≤ 900 ∧ ws.length = fs.length ∧ (∀ i w, ws[i]? = some w → σ[k + i]? = some (some w)) ∧
  (fs = [] → D.nx σ H) ∧ ∀ dx H', H dx = none → dx ≠ a → H' a = some (exo a C (some dx)) → H' dx = some (exd dx (flds fs ws [])) → (∀ b, b ≠ a → b ≠ dx → H' b = H b) → D.nx σ H'
theorem pssImp' {st : List Stmt} {t u : TS} (h : PSs X st t) (k : ∀ D σ H, u D σ H → t D σ H) : PSs X st u := ⟨fun pins s σ H D I q => h.run pins s σ H D I (k D σ H q)⟩
theorem err_rest2 (hp : ∀ (k : Nat) y, ps[k]? = some y → X.N[k]? = some y ∧ Vis X.env.scope y) (T : OexC X.K C) (h0 : ps[0]? = some self) (d0 : (self == ("__debug__" : Str)) = false) (d1 : (self == ("__classdict__" : Str)) = false) :
    ∀ {rest : List Stmt} {fs : List Str} {k : Nat}, ErrRest ps self rest fs k → (∀ f ∈ fs, PySem.W.findIn X.K (.ref C) f = some none) → PSs X rest (tErr2 C fs k) := by
  intro rest fs k h
  induction h with
  | nil k =>
    intro _
    refine pssImp' pss_nil fun D σ H ⟨a, dx, ws, done, _, _, e, _, _, hl, _, q⟩ => q H ?_ fun b _ => rfl
    have : ws = [] := List.length_eq_zero_iff.mp hl
    subst this
    exact e
  | @cons k y f p1 p2 p3 p4 rest fs h1 h2 h3 h ih =>
    intro hno
    refine pssImp' (pss_cons (ps_ost (pe_var (hp 0 _ h0).1 (hp 0 _ h0).2 d0 d1) (pe_var (hp k _ h1).1 (hp k _ h1).2 h2 h3)) (ih fun g hg => hno g (List.mem_cons_of_mem _ hg))) fun D σ H ⟨a, dx, ws, done, e0, ea, ed, hne, hz, hl, hw, q⟩ => ?_
    cases ws with
    | nil => cases hl
    | cons w ws =>
      refine ⟨w, hw 0 w rfl, .ref a, e0, a, C, rfl, T, hno f (List.mem_cons_self ..), .inr ⟨dx, done, ea, ed, ?_, ?_⟩⟩
      · have : done.length + (fs.length + 1) ≤ 900 := hz
        omega
      · refine ⟨a, dx, ws, (f, w) :: done, e0, by rw [upd_ne hne]; exact ea, upd_same, hne, ?_, by simpa using hl, fun i v hv => ?_, fun H' e1 e2 => ?_⟩
        · have : done.length + (fs.length + 1) ≤ 900 := hz
          show done.length + 1 + fs.length ≤ 900
          omega
        · have := hw (i + 1) v hv
          rw [show k + (i + 1) = k + 1 + i by omega] at this
          exact this
        · refine q H' (by rw [flds_cons]; exact e1) fun b hb => ?_
          rw [e2 b hb, upd_ne hb]
theorem err_rest1 (hp : ∀ (k : Nat) y, ps[k]? = some y → X.N[k]? = some y ∧ Vis X.env.scope y) (T : OexC X.K C) (h0 : ps[0]? = some self) (d0 : (self == ("__debug__" : Str)) = false) (d1 : (self == ("__classdict__" : Str)) = false)
    {rest : List Stmt} {fs : List Str} {k : Nat} (h : ErrRest ps self rest fs k) (hno : ∀ f ∈ fs, PySem.W.findIn X.K (.ref C) f = some none) : PSs X rest (tErr1 C fs k) := by
  cases h with
  | nil => exact pssImp' pss_nil fun D σ H ⟨a, ws, _, _, _, _, _, q, _⟩ => q rfl
  | cons h1 h2 h3 h =>
    rename_i y f p1 p2 p3 p4 rest fs
    refine pssImp' (pss_cons (ps_ost (pe_var (hp 0 _ h0).1 (hp 0 _ h0).2 d0 d1) (pe_var (hp k _ h1).1 (hp k _ h1).2 h2 h3)) (err_rest2 hp T h0 d0 d1 h fun g hg => hno g (List.mem_cons_of_mem _ hg))) fun D σ H ⟨a, ws, e0, ea, hz, hl, hw, _, q⟩ => ?_
    cases ws with
    | nil => cases hl
    | cons w ws =>
      refine ⟨w, hw 0 w rfl, .ref a, e0, a, C, rfl, T, hno f (List.mem_cons_self ..), .inl ⟨ea, fun dx hd hne => ?_⟩⟩
      refine ⟨a, dx, ws, [(f, w)], e0, upd_same, by rw [upd_ne hne, upd_same], Ne.symm hne, ?_, by simpa using hl, fun i v hv => ?_, fun H' e1 e2 => ?_⟩
      · have : fs.length + 1 ≤ 900 := hz
        show 1 + fs.length ≤ 900
        omega
      · have := hw (i + 1) v hv
        rw [show k + (i + 1) = k + 1 + i by omega] at this
        exact this
      · refine q dx H' hd hne ?_ (by rw [flds_cons]; exact e1) fun b ha hb => ?_
        · rw [e2 a (Ne.symm hne), upd_same]
        · rw [e2 b hb, upd_ne ha, upd_ne hb]
end
/-! ### the whole of it -/
/-- what C's __init__ promises: its values stand under their names -/
def spErr (C : Addr) (fs : List Str) : Sp := fun vs H Q _ => ∃ (a : Addr) (ws : List V), vs = .ref a :: ws ∧ ws.length = fs.length ∧ H a = some (exo a C none) ∧ (fs = [] → Q .non H) ∧
  ∀ dx H', H dx = none → dx ≠ a → H' a = some (exo a C (some dx)) → H' dx = some (exd dx (flds fs ws [])) → (∀ b, b ≠ a → b ≠ dx → H' b = H b) → Q .non H'
section
variable {CX : CXT} {P : Program} {w : World} {K : PySem.W.Frag} {mg : Str → Option Value} {base : Heap} {N ps : List Str} {qual : Str} {scope : Scope} {f cc C : Addr}
theorem fn_err {cl ccl : Value} {cld cdd : Option Addr} {csl ccs : Array (Option Value)} {vs' : Array Value} {name : Str} {params : Arguments} {dV kV doc pm ct oc : Value} {an od : Option Addr} {osl : Array (Option Value)} {cda : Addr} {file : Str} {tf : Tok} {self : Str} {ar : Arg} {p0 p1 p2 p3 p4 p5 : Pos} {m : Str} {j : Nat} {k : Nat}
    {rest : List Stmt} {fs : List Str} {pl : Sem Bool} (T : SupC K C)
    (lk : K.lookup f = some ⟨oc, od, .func (PySem.W.ksFn name qual params (.Expr (.Call (.Attribute (.Call (.Name "super" p0) [] [] p1) "__init__" p2) [.Constant (.str m) j p3] [] p4) p5 :: rest) scope dV kV doc pm an (.ref cda) ct cc), osl⟩)
    (hcd : PySem.W.codeIn K (.ref cda) qual = true) (S : SupScope N ps scope) (hcc : K.lookup cc = some ⟨cl, cld, .cell (some (.ref C)), csl⟩) (hcda : K.lookup cda = some ⟨ccl, cdd, .fields vs', ccs⟩) (hvs : vs'[2]? = some (.str file tf)) (hfile : ((P.main.file : Str) == file) = true)
    (htop : (P.main.scope.names.lookup ("super" : Str)).isSome = false) (har : (params.posonlyargs ++ params.args).head? = some ar) (hself : ar.arg = self) (h0 : ps[0]? = some self) (d0 : (self == ("__debug__" : Str)) = false) (d1 : (self == ("__classdict__" : Str)) = false)
    (hps : ps.length = fs.length + 1) (hz : fs.length ≤ 900) (hr : ErrRest ps self rest fs 1) (hno : ∀ f ∈ fs, PySem.W.findIn K (.ref C) f = some none)
    (he : ∀ env, eval (.Call (.Attribute (.Call (.Name "super" p0) [] [] p1) "__init__" p2) [.Constant (.str m) j p3] [] p4) env = (do
      let ov ← attributeBase (.Call (.Name "super" p0) [] [] p1) "__init__" env (eval (.Call (.Name "super" p0) [] [] p1) env)
      standAt p2.atName
      let (f, first) ← holding [ov] (getMethod ov "__init__" pl)
      callWith p4 f first (backTo p4 (starEach [.Constant (.str m) j p3] env)) []) := by intro _; rfl) :
    FnOk P w K mg base CX (k + 1) f (PySem.W.ksFn name qual params (.Expr (.Call (.Attribute (.Call (.Name "super" p0) [] [] p1) "__init__" p2) [.Constant (.str m) j p3] [] p4) p5 :: rest) scope dV kV doc pm an (.ref cda) ct cc) ps (spErr C fs) := by
  have len : ∀ vs H Q E, spErr C fs vs H Q E → vs.length = ps.length := by
    rintro vs H Q E ⟨a, ws, rfl, hl, _⟩
    show ws.length + 1 = _
    rw [hps, hl]
  refine ⟨len, fun A outer s H args us vs Q E hrm e0 hb r hsp => ?_⟩
  have hl := len _ _ _ _ hsp
  have KX : K.In s.heap := e0.mod.kin.keeps fun b o e => (e0.bs b o e).1
  have lim : s.heap.NoLimit := e0.mod.nolimit.keeps fun b o e => (e0.bs b o e).1
  have h0N : ∀ (i : Nat) y, ps[i]? = some y → N[i]? = some y := fun i y hy => by
    rw [← S.pre, List.getElem?_take] at hy
    split at hy
    · exact hy
    · cases hy
  refine PySem.ks_codeAny_call_defAt hrm.depth (KX _ _ lk) rfl lim (PySem.W.codeRec_of KX hcd) rfl hb S.nocell (fun x hx => S.par _ (List.of_mem_zip hx).1) (fun h₀ hns hk => ?_) S.co S.gen S.kind
  have I := inv_sup (CX := CX) (qual := qual) (f := f) (cd := .ref cda) (E := E) (t := s.toks + (ps.zip us).length) S hrm.hd e0 hl r hcc hns hk
  obtain ⟨a, ws, rfl, hw, ha, q0, q⟩ := hsp
  have hσ : (start N (.ref a :: ws))[0]? = some (some (.ref a)) := rfl
  have hat : ∀ i v, ws[i]? = some v → (start N (.ref a :: ws))[1 + i]? = some (some v) := fun i v hv => by
    show ((V.ref a :: ws).map some ++ _)[1 + i]? = _
    have hi : i < ws.length := (List.getElem?_eq_some_iff.mp hv).1
    rw [List.getElem?_append_left (by rw [List.length_map]; show 1 + i < ws.length + 1; omega), List.getElem?_map, Nat.add_comm, List.getElem?_cons_succ, hv]
    rfl
  have hself' : ar.arg ∈ ps := by rw [hself]; exact List.mem_of_getElem? h0
  refine PySem.ks_wpAt_execs_cons (sup_line (X := cxSup CX P w K mg base N qual scope f (.ref cda) cc A outer s H E) rfl S T lk hcc hcda hvs hfile htop har (by rw [hself]; exact h0N _ _ h0) hself' hσ _ I ha (fun s2 I2 => ?_) (he _) (by show interactive (supEnv qual scope s.heap.objs.size f (.ref cda) cc) = false; unfold interactive; rw [show (supEnv qual scope s.heap.objs.size f (.ref cda) cc).scope.kind = .function from S.kind]; rfl) (by rfl))
  refine PySem.wpAt_of_wpAny (wpAny_mono ((err_rest1 (X := cxSup CX P w K mg base N qual scope f (.ref cda) cc A outer s H E) (fun i y hy => ⟨h0N i y hy, .inl (S.par _ (List.mem_of_getElem? hy))⟩) T.o h0 d0 d1 hr hno).run [] s2 _ H { nx := fun _ H' => Q .non H', rt := Q } I2 ?_) (fun fl s' hs => ?_) fun e s' hs => hs)
  · exact ⟨a, ws, hσ, ha, hz, hw, hat, q0, q⟩
  · have fin : ∀ {σ' : L2.St} {H' : Hp} {v : V} {u : Value}, Inv (cxSup CX P w K mg base N qual scope f (.ref cda) cc A outer s H E) [] σ' H' s' → RelV v u → Q v H' → CE outer P w H s Q u s' :=
      fun {σ' H' v u} J rv q => ⟨v, H', J.os, J.bare, J.base, J.hok, rv, q⟩
    cases fl with
    | ret u =>
      obtain ⟨v, σ', H', J, rv, q⟩ := hs
      exact fin J rv q
    | next =>
      obtain ⟨σ', H', J, q⟩ := hs
      exact fin (v := V.non) (u := Value.none) J rfl q
    | brk =>
      obtain ⟨_, _, _, q⟩ := hs
      exact False.elim q
    | cont =>
      obtain ⟨_, _, _, q⟩ := hs
      exact False.elim q
end
end VL

set_option maxRecDepth 100000
set_option maxHeartbeats 2000000
namespace VL
open PySem PySem.Spec L2
open PyProof.Rows hiding St
/-! ### an own error made, as a value -/
/-- H' is H and a new error at a -/
def MadeE (C : Addr) (fs : List Str) (vs : List V) (a : Addr) (H H' : Hp) : Prop := H a = none ∧ ((fs = [] ∧ H' = upd H a (exo a C none)) ∨
  ∃ dx, H dx = none ∧ dx ≠ a ∧ H' a = some (exo a C (some dx)) ∧ H' dx = some (exd dx (flds fs vs [])) ∧ ∀ b, b ≠ a → b ≠ dx → H' b = H b)
def tMke (C : Addr) (fs : List Str) (ta : TA) : TE := fun σ H Q => ta σ H fun vs H1 => vs.length = fs.length ∧ ∀ a H2, MadeE C fs vs a H1 H2 → Q (.ref a) H2
section
variable {X : Cx} {CX : CXT} {x : Str} {C fI : Addr} {k : Nat} {fd : FuncData} {ps fs : List Str} {p pos : Pos} {e : Expr} {es : List Expr} {ta : TA}
/-- what the making rules ask of the class x -/
structure MkE (X : Cx) (CX : CXT) (k : Nat) (x : Str) (C fI : Addr) (fd : FuncData) (ps fs : List Str) : Prop where
  c : SupC X.K C
  ini : PySem.W.findIn X.K (.ref C) "__init__" = some (some (.ref fI))
  typ : PySem.W.typeIn X.K (.ref fI) = some (.type "function")
  fn : FnOk X.prog X.w X.K X.mg X.base CX k fI fd ps (spErr C fs)
  bnd : Binds X.K fd ps []
  pas : Passes CX X (fun _ _ _ => False)
  few : fs.length ≤ 900
  nam : X.mg x = some (.ref C)
  dbg : (x == ("__debug__" : Str)) = false
theorem run_mke {pins : List (Addr × Obj)} {s : Shared} {σ : L2.St} {H : Hp} {us : List Value} {vs : List V} {Q : VK} (M : MkE X CX k x C fI fd ps fs) (hr : Room (k + 1) X.A) (I : Inv X pins σ H s) (r : Vals vs us) (hl : vs.length = fs.length) (q : ∀ a H', MadeE C fs vs a H H' → Q (.ref a) H') :
    wpAny (model X.prog X.w) X.A (call (.ref C) us) (EP X pins σ Q) X.xe s := by
  obtain ⟨nm, qn, N, bs, bm, sn, sub, ab, col, dd, k0, k1, k2, k3, k5, hC, hbm⟩ := M.c.o.cls
  obtain ⟨hp, g, dr, tk, os⟩ := s
  obtain ⟨e, he⟩ : ∃ e, e = hp.objs.size + 1 := ⟨_, rfl⟩
  obtain ⟨h1, eh1⟩ : ∃ h1, h1 = (hp.push (PySem.W.kdv_tup us)).push (PySem.HandSPX.excO C hp.objs.size) := ⟨_, rfl⟩
  have hsz : hp.objs.size ≤ e := by rw [he]; exact Nat.le_succ _
  have hn : H e = none := I.hok.fresh hsz
  have kk : ∀ b o, hp.get? b = some o → h1.get? b = some o := fun b o z => by rw [eh1]; exact Heap.get?_push_of_some _ (Heap.get?_push_of_some _ z)
  have hget : h1.get? e = some (PySem.HandSPX.excO C hp.objs.size) := by rw [eh1, he]; heap_get
  have I2 : Inv X pins σ (upd H e (exo e C none)) ⟨h1, g, dr, tk, os⟩ := I.laid (t' := tk) kk hsz (exo_ok hget)
  have r2 : Vals (V.ref e :: vs) (Value.ref e :: us) := .cons rfl r
  have few := M.few
  have hul : us.length = fs.length := by rw [← hl]; exact (Paired.length r).symm
  have hus : us.length ≤ sizeLine := by rw [sizeLine_eq, hul]; omega
  have sp : spErr C fs (.ref e :: vs) (upd H e (exo e C none)) (fun v H2 => v = .non ∧ Q (.ref e) H2) (fun _ _ _ => False) := by
    refine ⟨e, vs, rfl, hl, upd_same, fun z => ⟨rfl, q _ _ ⟨hn, .inl ⟨z, rfl⟩⟩⟩, fun dx H' h1 h2 h3 h4 h5 => ⟨rfl, q _ _ ⟨hn, .inr ⟨dx, ?_, h2, h3, h4, fun b b1 b2 => ?_⟩⟩⟩⟩
    · rw [upd_ne h2] at h1
      exact h1
    · rw [h5 b b1 b2, upd_ne b1]
  have hps : (Value.ref e :: us).length = ps.length := by
    have z := M.fn.len _ _ _ _ sp
    rw [← z]
    exact r2.length.symm
  have run := M.fn.run _ X.stack _ _ ⟨Value.ref e :: us, []⟩ (Value.ref e :: us) _ _ (fun _ _ _ => False) (hr.make C us []) (I2.env0.make C us []) (by simpa using M.bnd _ (Value.ref e :: us) I2.kIn (by simpa using hps)) r2 sp
  rw [eh1] at run
  refine wpAny_call (PySem.HandSPX.call_own F.excBase_ValueError (fun Y => PySem.HandSPX.refsVE_contains Y bm hbm) (I.kIn _ _ hC) (PySem.W.looks_findIn I.kIn M.ini) (fun self => PySem.W.bind_fn I.kIn self M.typ) hus (codeAny_mono (by rw [he] at run; exact run) fun r s' hq' => ?_))
  rw [← he, ← eh1] at hq'
  cases r with
  | error er => exact M.pas pins σ _ _ er s' I2 hq'
  | ok fl =>
    cases fl with
    | ret u =>
      obtain ⟨v, H2, os2, bare2, un2, hok2, rv, ev, q2⟩ := hq'
      subst ev
      obtain rfl : u = Value.none := rv
      refine ⟨rfl, ?_⟩
      rw [← he]
      exact ⟨.ref e, H2, I2.call' (ch := []) os2 un2 hok2 bare2 (fun b z => absurd z (by simp)), rfl, q2⟩
    | next => exact False.elim hq'
    | brk => exact False.elim hq'
    | cont => exact False.elim hq'
/-- C(e, ..) -/
theorem pe_mke (M : MkE X CX k x C fI fd ps fs) (hr : Room (k + 1) X.A) (hg : Gl X x) (ha : PA X (e :: es) ta) (he : starEach (e :: es) X.env = (false, eval e X.env) :: starEach es X.env := by rfl) (hpl : (backTo pos (starEach es X.env)).any (·.1) = false := by rfl) :
    PE X (.Call (.Name x p) (e :: es) [] pos) (tMke C fs ta) := by
  refine ⟨fun pins s σ H Q I h => ?_⟩
  refine wpAny_Call_Name_kw (ld_glob I hg M.nam ?_ M.dbg)
  exact PySem.W.callWith_K (h₀ := X.base) I.ok.mod.kin M.c.o.kC (thn (ha.run pos pins s σ H _ I h) fun us s1 ⟨vs, H1, I1, r, hl, q⟩ => ⟨I1.kIn, run_mke M hr I1 r hl q⟩) he hpl
/-- C() -/
theorem pe_mke0 (M : MkE X CX k x C fI fd ps fs) (hr : Room (k + 1) X.A) (hg : Gl X x) : PE X (.Call (.Name x p) [] [] pos) (tMke C fs tNil) := by
  refine ⟨fun pins s σ H Q I h => ?_⟩
  refine wpAny_Call_Name_kw (ld_glob I hg M.nam ?_ M.dbg)
  exact PySem.W.callWith_K0 I.kIn M.c.o.kC (run_mke (us := []) M hr I .nil h.1 h.2)
end
end VL

set_option maxRecDepth 100000
set_option maxHeartbeats 2000000
namespace VL
open PySem PySem.Spec L2
open PyProof.Rows hiding St
/-! ### own errors as values: made, their fields, isinstance -/
/-- C(..): the class c, its number of fields -/
def dMkE (c n : Nat) (ds : List (Env' → Res Val)) : Env' → Res Val := fun e => (dArgs ds e).bind fun xs e1 => (frzs xs e1).bind fun ps e2 => if ps.length = n then .ok (.fz (.exc c ps)) e2 else .bad
section
variable {X : Cx} {g : Gm} {F H H' : Hp} {σ : St} {env : Env'}
theorem Stt.not_own (S : Stt g F H σ env) {a : Addr} (h : H a = none) : ∀ (i : Nat) b q, env[i]? = some (.ow b q) → σ[i]? ≠ some (some (.ref a)) := fun i b q e z => by
  obtain ⟨c, e1, e2, _⟩ := S.ow i b q e
  rw [z] at e1
  cases e1
  obtain ⟨o, ho⟩ := e2.cell
  rw [h] at ho
  cases ho
theorem made_new {D a : Addr} {fs : List Str} {vs : List V} (S : Stt g F H σ env) (m : MadeE D fs vs a H H') (hl : vs.length = fs.length) : ∃ F', Ex F F' ∧ Stt g F' H' σ env ∧ EvR D fs vs a F' := by
  obtain ⟨hn, ⟨rfl, rfl⟩ | ⟨dx, h1, h2, h3, h4, h5⟩⟩ := m
  · obtain ⟨n1, n2, n3⟩ := S.new0 hn
    exact ⟨_, Ex.new n1, (S.grow (Ex.new hn)).know n1 upd_same n2 (S.not_own hn), hl, .inl ⟨rfl, upd_same⟩⟩
  · obtain ⟨n1, n2, n3⟩ := S.new0 hn
    obtain ⟨m1, m2, m3⟩ := S.new0 h1
    have ex : Ex H H' := fun b o e => by
      rw [h5 b (ne_of_none e hn) (ne_of_none e h1)]
      exact e
    have S2 := (S.grow ex).know n1 h3 n2 (S.not_own hn)
    have f2 : upd F a (exo a D (some dx)) dx = none := by rw [upd_ne h2]; exact m1
    refine ⟨_, (Ex.new n1).trans (Ex.new f2), S2.know f2 h4 m2 (S.not_own h1), hl, .inr ⟨dx, ?_, upd_same⟩⟩
    rw [upd_ne (Ne.symm h2), upd_same]
theorem mke_go {c n : Nat} {xs : List Val} {vs : List V} {Q : VK} {fs : List Str} (o : AllOld xs) (S : Stt g F H σ env) (r : RVs g F H σ env xs vs) (hn : (g.C.el c).length = n)
    (go : Go g F σ ((frzs xs env).bind fun ps e2 => if ps.length = n then Res.ok (Val.fz (.exc c ps)) e2 else .bad) fun x env' F' H' => ∀ v, RV g F' H' σ env' x v → Q v H') :
    vs.length = (g.C.el c).length ∧ ∀ a H2, MadeE (g.C.ea c) (g.C.el c) vs a H H2 → Q (.ref a) H2 := by
  obtain ⟨F2, ps, e2, x2, S2, r2, go2⟩ := frzs_go o S r go
  split at go2
  · rename_i hp
    have hl : vs.length = (g.C.el c).length := by rw [r2.length, hp, hn]
    refine ⟨hl, fun a H2 m => ?_⟩
    obtain ⟨F3, x3, S3, ev⟩ := made_new S2 m hl
    refine go2 F3 H2 x3 S3 (.ref a) ?_
    show R g.C F3 (.exc c ps) (.ref a)
    unfold R
    exact ⟨a, vs, rfl, ev, r2.mono x3.le⟩
  · exact go2.elim
variable {CX : CXT} {x : Str} {fI : Addr} {k : Nat} {fd : FuncData} {ps : List Str} {p pos : Pos} {e : Expr} {es : List Expr} {ds : List (Env' → Res Val)} {c n : Nat}
theorem se_mkE (M : MkE X CX k x (g.C.ea c) fI fd ps (g.C.el c)) (hn : (g.C.el c).length = n) (hr : Room (k + 1) X.A) (hg : Gl X x) (ha : PA X (e :: es) (tAs g (dArgs ds))) (he : starEach (e :: es) X.env = (false, eval e X.env) :: starEach es X.env)
    (hpl : (backTo pos (starEach es X.env)).any (·.1) = false) : PE X (.Call (.Name x p) (e :: es) [] pos) (tE g (dMkE c n ds)) :=
  peImp (pe_mke M hr hg ha he hpl) fun σ H Q ⟨F, env, S, go⟩ => ⟨F, env, S, (Go.bind go).mono fun xs e1 F1 H1 x1 S1 k vs o r => mke_go (fs := []) o S1 r hn k⟩
theorem se_mkE0 (M : MkE X CX k x (g.C.ea c) fI fd ps (g.C.el c)) (hn : (g.C.el c).length = 0) (hr : Room (k + 1) X.A) (hg : Gl X x) : PE X (.Call (.Name x p) [] [] pos) (tE g (dMkE c 0 [])) :=
  peImp (pe_mke0 M hr hg) fun σ H Q ⟨F, env, S, go⟩ => mke_go (fs := []) (xs := []) (vs := []) True.intro S rfl hn go
/-! ### their fields, isinstance -/
/-- what the error class c must say -/
structure ErrC (C : Ct) (c : Nat) : Prop where
  exc : ExcC C.K (C.ea c)
  no : ∀ f ∈ C.eL c, PySem.W.findIn C.K (.ref (C.ea c)) (C.nm f) = some none
  nd : (C.el c).Nodup
def tErF (K : PySem.W.Frag) (f : Str) (te : TE) : TE := fun σ H Q => te σ H fun x H1 => ∃ (a D dx : Addr) (fl : List (Str × V)) (v : V), x = .ref a ∧ ExcC K D ∧ PySem.W.findIn K (.ref D) f = some none ∧ H1 a = some (exo a D (some dx)) ∧ H1 dx = some (exd dx fl) ∧ fl.lookup f = some v ∧ Q v H1
theorem pe_erf {te : TE} {n : Str} (he : PE X e te) (hb : attributeBase e n X.env (eval e X.env) = eval e X.env) : PE X (.Attribute e n pos) (tErF X.K n te) := by
  refine ⟨fun pins s σ H Q I h => attr_of hb (thn (he.run pins s σ H _ I h) ?_)⟩
  rintro u s1 ⟨x, H1, I1, rx, a, D, dx, fl, v, rfl, T, hno, ea, ed, hl, q⟩
  obtain rfl : u = Value.ref a := rx
  obtain ⟨t1, ho⟩ := exo_at I1.hok ea
  obtain ⟨mA, hns, rel⟩ := exd_at I1.hok ed
  obtain ⟨od, hod, hlk⟩ := lookIn_ns hns
  obtain ⟨u, hu, ru⟩ := RelO.some_of (v := v) (o := mA n) (by rw [← hl]; exact rel n)
  exact HandSPX.exc_get I1.kIn (ox := { cls := .ref D, dict := some dx, data := .fields #[.ref t1, .none, .none, .none, .bool false, .none] }) (od := some od) ⟨ho, rfl, rfl, hod⟩ T.hg T.hk T.hs (PySem.W.findObj_own T.hd hno rfl (by rw [hlk, hu])) (handed_of ru) ⟨v, H1, I1.tok _, ru, q⟩
theorem flds_at : ∀ {fs : List Str} {vs : List V} {i : Nat} {f : Str} {v : V}, fs.Nodup → fs[i]? = some f → vs[i]? = some v → (f, v) ∈ fs.zip vs
  | [], _, _, _, _, _, h, _ => by simp at h
  | _ :: _, [], _, _, _, _, _, h => by simp at h
  | g :: fs, w :: vs, 0, f, v, nd, h1, h2 => by
    simp at h1 h2
    subst h1 h2
    simp
  | g :: fs, w :: vs, i + 1, f, v, nd, h1, h2 => by
    rw [List.zip_cons_cons]
    exact List.mem_cons_of_mem _ (flds_at (List.nodup_cons.mp nd).2 (by simpa using h1) (by simpa using h2))
theorem lookup_ndV {x : Str} {u : V} : ∀ {l : List (Str × V)}, (l.map Prod.fst).Nodup → (x, u) ∈ l → l.lookup x = some u
  | [], _, h => by cases h
  | (y, v) :: l, nd, h => by
    rw [List.lookup_cons]
    obtain ⟨n1, n2⟩ := List.nodup_cons.mp nd
    rcases List.mem_cons.mp h with h | h
    · cases h
      simp
    · have : x ≠ y := fun z => n1 (by rw [← z]; exact List.mem_map.mpr ⟨_, h, rfl⟩)
      rw [show (x == y) = false from by simpa using this]
      exact lookup_ndV n2 h
theorem zip_fstV : ∀ {ps : List Str} {us : List V}, us.length = ps.length → (ps.zip us).map Prod.fst = ps
  | [], us, _ => by simp
  | p :: ps, [], h => by simp at h
  | p :: ps, u :: us, h => by
    rw [List.zip_cons_cons, List.map_cons, zip_fstV (by simpa using h)]
theorem flds_look {fs : List Str} {vs : List V} {i : Nat} {f : Str} {v : V} (nd : fs.Nodup) (hl : vs.length = fs.length) (h1 : fs[i]? = some f) (h2 : vs[i]? = some v) : (flds fs vs []).lookup f = some v := by
  unfold flds
  rw [List.append_nil]
  refine lookup_ndV ?_ (List.mem_reverse.mpr (flds_at nd h1 h2))
  rw [List.map_reverse, zip_fstV hl]
  exact List.pairwise_reverse.mpr (List.Pairwise.imp (fun h => Ne.symm h) nd)
/-- x.f, x an error -/
def dErF (L : Nat → List Nat) (f : Nat) (da : Env' → Res Val) : Env' → Res Val := fun e => (stl da e).bind fun x e1 => match peek x e1 with
  | some (.exc c xs) => match ((L c).idxOf? f).bind fun i => xs[i]? with
    | some p => .ok (.fz p) e1
    | none => .bad
  | _ => .bad
theorem se_erf {da : Env' → Res Val} {L : Nat → List Nat} {f : Nat} {n : Str} (ok : Ok X g) (hL : g.C.eL = L) (co : ∀ c, ErrC g.C c) (hn : g.C.nm f = n) (ha : PE X e (tE g da)) (hb : attributeBase e n X.env (eval e X.env) = eval e X.env) : PE X (.Attribute e n pos) (tE g (dErF L f da)) := by
  subst hL hn
  refine peImp (pe_erf (peo ha) hb) fun σ H Q ⟨F, env, S, go⟩ => ⟨F, env, S, (Go.bind go).mono fun x e1 F1 H1 x1 S1 k v o r => ?_⟩
  cases hp : peek x e1 with
  | none => simp only [hp] at k; exact k.elim
  | some p =>
    simp only [hp] at k
    cases p <;> try exact k.elim
    rename_i c xs
    simp only at k
    cases hf : ((g.C.eL c).idxOf? f).bind fun i => xs[i]? with
    | none => simp only [hf] at k; exact k.elim
    | some y =>
      simp only [hf] at k
      obtain ⟨a, vs, rfl, ⟨hl, ev⟩, rs⟩ := peek_ok S1 r hp
      cases hi : (g.C.eL c).idxOf? f with
      | none => rw [hi] at hf; cases hf
      | some i =>
        rw [hi] at hf
        have hf : xs[i]? = some y := hf
        obtain ⟨hlt, he, _⟩ := List.findIdx?_eq_some_iff_getElem.mp hi
        have ef : (g.C.eL c)[i] = f := by simpa using he
        have hfn : (g.C.el c)[i]? = some (g.C.nm f) := by
          unfold Ct.el
          rw [List.getElem?_map, List.getElem?_eq_getElem hlt, ef]
          rfl
        obtain ⟨w, hw, rw'⟩ := rs.get hf
        rcases ev with ⟨e0, _⟩ | ⟨dx, h1, h2⟩
        · rw [e0] at hfn
          cases hfn
        · refine ⟨a, g.C.ea c, dx, _, w, rfl, ?_, ?_, h1, h2, flds_look (co c).nd hl hfn hw, k F1 H1 (Ex.refl F1) S1 w rw'⟩
          · rw [← ok.K]
            exact (co c).exc
          · rw [← ok.K]
            exact (co c).no f (by rw [← ef]; exact List.getElem_mem hlt)
end
end VL

set_option maxRecDepth 100000
set_option maxHeartbeats 2000000
namespace VL
open PySem PySem.Spec L2
open PyProof.Rows hiding St
/-! ### isinstance(x, c), x an own error -/
/-- an error stands at a -/
def ExAt (H : Hp) (a D : Addr) : Prop := H a = some (exo a D none) ∨ ∃ dx fl, H a = some (exo a D (some dx)) ∧ H dx = some (exd dx fl)
theorem EvR.at {H : Hp} {a D : Addr} {fs : List Str} {vs : List V} (h : EvR D fs vs a H) : ExAt H a D := by
  obtain ⟨_, ⟨_, h⟩ | ⟨dx, h1, h2⟩⟩ := h
  · exact .inl h
  · exact .inr ⟨dx, _, h1, h2⟩
def rIsX (K : PySem.W.Frag) : List V → Hp → VK → Prop := fun xs H Q => ∃ (a D : Addr) (c : V) (cv : Value) (b : Bool), xs = [.ref a, c] ∧ ExcC K D ∧ ExAt H a D ∧ (∀ u, RelV c u → u = cv) ∧ PySem.W.kitOne K (.ref D) cv = some b ∧ Q (.bl b) H
section
variable {X : Cx} {g : Gm} {da : Env' → Res Val} {e ce : Expr} {p : Pos}
theorem call_isX : CallR X (.builtin "isinstance") (rIsX X.K) := by
  rintro pins s σ H xs us Q I r ⟨a, D, c, cv, b, rfl, C, at', hcv, hk, q⟩
  cases r with
  | cons rx rr =>
    cases rr with
    | cons rt rr =>
      cases rr
      cases rx
      rw [hcv _ rt]
      have go : ∀ {ox : Obj} {od : Option Obj}, PySem.W.InstAt s.heap a ox D od → wpAny (model X.prog X.w) X.A (call (.builtin "isinstance") [.ref a, cv]) (EP X pins σ Q) X.xe s := fun {ox od} J => by
        refine PySem.W.kia_one (PySem.W.kitx_exc (by obtain ⟨cd, hc, _⟩ := PySem.W.any_some C.hd; rw [hc]; rfl) C.hg C.hk C.hs C.ha C.hn C.ht C.hm) I.kIn J hk (fun z => nomatch z) fun tk => ⟨.bl b, H, I.kept (t' := tk) fun _ _ z => z, rfl, q⟩
      rcases at' with h | ⟨dx, fl, h1, h2⟩
      · obtain ⟨t1, ho⟩ := exo_at I.hok h
        exact go (od := none) ⟨ho, rfl, rfl, trivial⟩
      · obtain ⟨t1, ho⟩ := exo_at I.hok h1
        obtain ⟨mA, ⟨od, _, _, hod, _⟩, _⟩ := exd_at I.hok h2
        exact go (od := some od) ⟨ho, rfl, rfl, hod⟩
/-- ans: what is answered for an error of the class c -/
def dIsX (ans : Nat → Option Bool) (da : Env' → Res Val) : Env' → Res Val := fun e => (stl da e).bind fun x e1 => match peek x e1 with
  | some (.exc c _) => match ans c with
    | some b => .ok (.fz (.bl b)) e1
    | none => .bad
  | _ => .bad
theorem se_isX {c : V} {u : Value} {ans : Nat → Option Bool} (ok : Ok X g) (co : ∀ c, ErrC g.C c) (hans : ∀ c b, ans c = some b → PySem.W.kitOne g.C.K (.ref (g.C.ea c)) u = some b) (hm : X.mg "isinstance" = none) (hg : Gl X "isinstance") (ha : PE X e (tE g da)) (hc : PE X ce (tC c))
    (hu : ∀ u', RelV c u' → u' = u) (hs : starEach [e, ce] X.env = (false, eval e X.env) :: starEach [ce] X.env) (hs2 : starEach [ce] X.env = (false, eval ce X.env) :: starEach [] X.env) (hpl : (backTo pos (starEach [ce] X.env)).any (·.1) = false) :
    PE X (.Call (.Name "isinstance" p) [e, ce] [] pos) (tE g (dIsX ans da)) := by
  refine peImp (pe_callB call_isX hg hm boot_isinstance (pa_cons (peo ha) (pa_cons hc pa_nil hs2) hs) (by decide) (by decide) hs hpl) fun σ H Q ⟨F, env, S, go⟩ => ⟨F, env, S, (Go.bind go).mono fun x e1 F1 H1 x1 S1 k v o r => ?_⟩
  cases hp : peek x e1 with
  | none => simp only [hp] at k; exact k.elim
  | some q =>
    simp only [hp] at k
    cases q <;> try exact k.elim
    rename_i n xs
    simp only at k
    cases hq : ans n with
    | none => simp only [hq] at k; exact k.elim
    | some b =>
      simp only [hq] at k
      obtain ⟨a, vs, rfl, ev, rs⟩ := peek_ok S1 r hp
      refine ⟨a, g.C.ea n, c, u, b, rfl, ?_, ev.at, hu, ?_, k F1 H1 (Ex.refl F1) S1 _ (by show R _ _ _ _; unfold R; rfl)⟩
      · rw [← ok.K]
        exact (co n).exc
      · rw [← ok.K]
        exact hans n b hq
end
end VL

set_option maxRecDepth 100000
set_option maxHeartbeats 2000000
namespace VL
open PySem PySem.Spec L2
open PyProof.Rows hiding St
/-! ### contracts of defs that may raise an own error -/
inductive FX where
  | bad | ok (x : Val) (outs : List PV) | err (x : Exc')
def callFnX (n : Nat) (md : Md) (d : Env' → Res Fl) : List PV → FX := fun args => match d (entry n md args) with
  | .err x _ => .err x
  | _ => match callFn n md d args with
    | .ok x o => .ok x o
    | .bad => .bad
/-- the error x flies, its dict d; H2 is H1 and that dict -/
def ErrD (C : Ct) (F : Hp) (x : Exc') (d : Option Addr) (H1 H2 : Hp) : Prop := ∃ vs : List V, Rs C F x.fs vs ∧ vs.length = (C.el x.c).length ∧
  ((C.el x.c = [] ∧ d = none ∧ H2 = H1) ∨ ∃ dd, d = some dd ∧ H1 dd = none ∧ H2 = upd H1 dd (.xd (flds (C.el x.c) vs [])))
def SpVX (C : Ct) (md : Md) (fn : List PV → FX) : Sp := fun vs H Q E => ∃ F args, Le F H ∧ LamX.Tabs C.T H ∧ ArgsOk C F H md args vs ∧ (lentV md vs).Nodup ∧ match fn args with
  | .bad => False
  | .ok x outs => ∀ F' H' v, Ex F F' → (∀ b o, F' b = some o → F b = some o ∨ H b = none) → Le F' H' → LamX.Tabs C.T H' → (∀ b o, H b = some o → V.ref b ∉ lentV md vs → Kpt o (H' b)) → OutsOk C F' H' (lentV md vs) outs → RVc C F' H H' x v → Q v H'
  | .err x => ∀ F' H1 d H2, Ex F F' → (∀ b o, F' b = some o → F b = some o ∨ H b = none) → Le F' H1 → LamX.Tabs C.T H1 → (∀ b o, H b = some o → V.ref b ∉ lentV md vs → Kpt o (H1 b)) → (∀ b, V.ref b ∈ lentV md vs → ∃ o, H1 b = some o) →
    ErrD C F' x d H1 H2 → E (.ref (C.ea x.c)) d H2
/-- the callee's activation -/
def callGX (C : Ct) (F H : Hp) (md : Md) (vs : List V) (E : XK) : Gm := { callG C F H md vs with W := fun x _ _ F' H1 => ∀ d H2, ErrD C F' x d H1 H2 → E (.ref (C.ea x.c)) d H2 }
/-- an error may leave X's code as g tells -/
def ErX (X : Cx) (g : Gm) : Prop := ∃ W : WX, Takes X W ∧ ∀ x e σ F H1 d H2, g.W x e σ F H1 → Stt g F H1 σ e → ErrD g.C F x d H1 H2 → W (.ref (g.C.ea x.c)) d σ H2
section
variable {C : Ct} {F H F' H' : Hp} {env : Env'} {σ : St}
theorem Stt.callG {md : Md} {vs : List V} {E : XK} (S : Stt (callGX C F H md vs E) F' H' σ env) : Stt (callG C F H md vs) F' H' σ env := ⟨S.len, S.frame, S.live, S.ext, S.fresh, S.sub, S.fz, S.ow, S.inj, S.tab⟩
theorem Stt.callGX {md : Md} {vs : List V} {E : XK} (S : Stt (VL.callG C F H md vs) F' H' σ env) : Stt (VL.callGX C F H md vs E) F' H' σ env := ⟨S.len, S.frame, S.live, S.ext, S.fresh, S.sub, S.fz, S.ow, S.inj, S.tab⟩
theorem RV.callG {md : Md} {vs : List V} {E : XK} {x : Val} {v : V} (r : RV (VL.callGX C F H md vs E) F' H' σ env x v) : RV (VL.callG C F H md vs) F' H' σ env x v := by
  cases x <;> exact r
theorem lent_idx {md : Md} {vs : List V} {b : Addr} (h : V.ref b ∈ lentV md vs) : (VL.callG C F H md vs).O b := by
  obtain ⟨i, h1, h2⟩ := lentV_of h
  refine ⟨i, ?_⟩
  show (match md[i]?, vs[i]? with | some true, some (.ref a) => some a | _, _ => none) = some b
  rw [h1, h2]
theorem idx_lent {md : Md} {vs : List V} {b : Addr} (h : (VL.callG C F H md vs).O b) : V.ref b ∈ lentV md vs := by
  obtain ⟨i, h⟩ := h
  have h : (match md[i]?, vs[i]? with | some true, some (.ref a) => some a | _, _ => none) = some b := h
  split at h
  · rename_i a e1 e2
    cases h
    have : ∀ {ms : Md} {vs : List V} {i : Nat} {v : V}, ms[i]? = some true → vs[i]? = some v → v ∈ lentV ms vs := by
      intro ms
      induction ms with
      | nil => intro vs i v h; simp at h
      | cons m ms ih =>
        intro vs i v h h2
        cases vs with
        | nil => simp at h2
        | cons w vs =>
          cases i with
          | zero => simp at h h2; subst h; subst h2; simp [lentV]
          | succ i =>
            have := ih (by simpa using h) (by simpa using h2)
            unfold lentV
            split
            · exact List.mem_cons_of_mem _ this
            · exact this
    exact this e1 e2
  · cases h
theorem body_okX {N : List Str} {md : Md} {vs : List V} {d : Env' → Res Fl} {H : Hp} {Q : VK} {E : XK} (hn : md.length ≤ N.length) (h : SpVX C md (callFnX N.length md d) vs H Q E) :
    ∃ F, tS (VL.callGX C F H md vs E) d { nx := fun _ H' => Q .non H', rt := Q } (L2.start N vs) H := by
  obtain ⟨F, args, l, tb, a, nd, k⟩ := h
  obtain ⟨l1, l2⟩ := a.len
  refine ⟨F, F, _, (Stt.entry l tb a nd hn).callGX, ?_⟩
  unfold callFnX at k
  cases q : d (VL.entry N.length md args) with
  | bad =>
    rw [q] at k
    have : callFn N.length md d args = .bad := by unfold callFn; rw [q]
    rw [this] at k
    exact k.elim
  | err y e' =>
    rw [q] at k
    exact fun F' H1 σ' x1 S d' H2 ed => k F' H1 d' H2 S.ext S.fresh S.sub S.tab (fun b o e n => S.frame b o e fun z => n (idx_lent (C := C) (F := F) (H := H) z)) (fun b hb => S.live b (lent_idx (F := F) (H := H) (C := C) hb)) ed
  | ok f e' =>
    rw [q] at k
    dsimp only at k
    cases c : callFn N.length md d args with
    | bad => rw [c] at k; exact k.elim
    | ok x outs =>
      rw [c] at k
      have sp : SpV C md (callFn N.length md d) vs H Q E := ⟨F, args, x, outs, l, tb, a, nd, c, k⟩
      unfold callFn at c
      rw [q] at c
      cases f with
      | bk => cases c
      | ct => cases c
      | nx =>
        dsimp only at c
        split at c
        · rename_i outs' ho
          cases c
          exact fun F' H' σ' x1 S => call_end (x := .fz .non) (v := .non) l2 S.callG (by show R _ _ _ _; unfold R; rfl) (fun i z => by cases z) ho k
        · cases c
      | rt y =>
        cases y with
        | bor i => cases c
        | fz p =>
          dsimp only at c
          split at c
          · rename_i outs' ho
            cases c
            exact fun F' H' σ' v x1 S rv => call_end l2 S.callG rv.callG (fun i z => by cases z) ho k
          · cases c
        | new p =>
          dsimp only at c
          split at c
          · rename_i outs' ho
            cases c
            exact fun F' H' σ' v x1 S rv => call_end l2 S.callG rv.callG (fun i z => by cases z) ho k
          · cases c
theorem SpVX.len {md : Md} {fn : List PV → FX} : ∀ vs H Q E, SpVX C md fn vs H Q E → vs.length = md.length := fun vs H Q E ⟨F, args, l, _, a, _⟩ => a.len.2
/-- THE RULE: a def that may raise, by its body -/
theorem fnVX {P : Program} {w : World} {K : PySem.W.Frag} {mg : Str → Option Value} {base : Heap} {x qual : Str} {params : Arguments} {body : List Stmt} {scope : Scope} {dvs : List V} {kws : List (Str × V)} {f : Addr} {fd : FuncData} {N ps : List Str} {md : Md} {k : Nat} {d : Env' → Res Fl}
    (Fd : FunD K x qual params body scope dvs kws f fd) (S : FnScope N ps scope) (hmd : md.length = ps.length) (hn : md.length ≤ N.length) (hK : C.K = K)
    (hb : ∀ (cdv : Value) (A : Around) (outer : List Env) (s : Shared) (H : Hp) (E : XK) (g : Gm), g.C = C → Room k (cxOf (L2.CX P w) P w K mg base N qual scope f cdv A outer s H E).A → Ok (cxOf (L2.CX P w) P w K mg base N qual scope f cdv A outer s H E) g →
      ErX (cxOf (L2.CX P w) P w K mg base N qual scope f cdv A outer s H E) g → PSs (cxOf (L2.CX P w) P w K mg base N qual scope f cdv A outer s H E) body (tS g d)) : FnOk P w K mg base (L2.CX P w) (k + 1) f fd ps (SpVX C md (callFnX N.length md d)) := by
  refine Fd.ok S (fun vs H Q E h => by rw [SpVX.len vs H Q E h, hmd]) fun cdv A outer s H vs Q E hr h => ?_
  obtain ⟨F, q⟩ := body_okX (E := E) hn h
  refine ⟨_, hb cdv A outer s H E (VL.callGX C F H md vs E) rfl hr ⟨hK, ?_, rfl⟩ ⟨_, takes_of rfl rfl rfl rfl, fun x e σ F' H1 d' H2 w S ed => w d' H2 ed⟩, q⟩
  have := hr.un
  show A.units + 3 + 65 < cLine
  have : (A.deeper (envOfC qual scope s.heap.objs.size f cdv)).units = A.units + 3 := rfl
  omega
end
/-! ### raise C(..) -/
def dRaise (c n : Nat) (ds : List (Env' → Res Val)) : Env' → Res Fl := fun e => (dArgs ds e).bind fun xs e1 => (frzs xs e1).bind fun ps e2 => if ps.length = n then .err ⟨c, ps⟩ e2 else .bad
/-- what flies -/
def FlyE (fs : List Str) (vs : List V) (d : Option Addr) (H1 H2 : Hp) : Prop := (fs = [] ∧ d = none ∧ H2 = H1) ∨ ∃ dd, d = some dd ∧ H1 dd = none ∧ H2 = upd H1 dd (.xd (flds fs vs []))
def tMkX (C : Addr) (fs : List Str) (ta : TA) : L2.St → Hp → XK → Prop := fun σ H Q => ta σ H fun vs H1 => vs.length = fs.length ∧ ∀ d H2, FlyE fs vs d H1 H2 → Q (.ref C) d H2
section
variable {X : Cx} {CX : CXT} {x : Str} {C fI : Addr} {k : Nat} {fd : FuncData} {ps fs : List Str} {p pos rpos : Pos} {e : Expr} {es : List Expr} {ta : TA}
/-- without fields: the error is let go, what was before stands -/
theorem mk_fly0 {pins : List (Addr × Obj)} {σ : L2.St} {H : Hp} {Q : XK} {s s1 s' : Shared} {a : Addr} (hr : Raises X (.ref C)) (I : Inv X pins σ H s) (ha : s.heap.objs.size ≤ a) (k : ∀ b o, s.heap.get? b = some o → s1.heap.get? b = some o) (un : Un (frs X.stack) [] (upd H a (exo a C none)) (upd H a (exo a C none)) s1.heap s'.heap)
    (hok : HOk X.prog X.w (upd H a (exo a C none)) s'.heap) (ho : s'.os = s.os) (hb : AllBare s'.gens) (q : Q (.ref C) none H) : MkP X pins σ Q (.ref a) s' := by
  have hn : H a = none := I.hok.fresh ha
  obtain ⟨t0, hoe⟩ := exo_at hok upd_same
  obtain ⟨G, in', out⟩ := restrict s'.heap fun b => decide (b ≠ a)
  have gk : ∀ {b}, b ≠ a → G.get? b = s'.heap.get? b := fun {b} hb => in' b (decide_eq_true hb)
  have ga : G.get? a = none := out a (by simp)
  have old : ∀ {b : Addr} {o : Obj}, s.heap.get? b = some o → b ≠ a := fun {b o} z => Nat.ne_of_lt (Nat.lt_of_lt_of_le (Heap.lt_size z) ha)
  have up : ∀ {b : Addr}, b ≠ a → H b = none → upd H a (exo a C none) b = none := fun {b} h n => by rw [upd_ne h]; exact n
  have U : Un (frs X.stack) [] H H s.heap G := by
    constructor
    case keep => exact fun b o z n hf hx => by rw [gk (old z)]; exact un.keep b o (k b o z) (up (old z) n) hf hx
    case slot => exact fun b o z n hf hx => by rw [gk (old z)]; exact un.slot b o (k b o z) (up (old z) n) hf hx
    case free => exact fun b o z n hx => n
    case there => exact fun b o z hx => by rw [gk (old z)]; exact un.there b o (k b o z) hx
    case tups => exact fun b xs z => z
    case frzs => exact fun b o v z => z
    case tbls => exact fun b ps z => ⟨#[], by rw [z]; simp⟩
  have hok3 : HOk X.prog X.w H G := fun b o z => by
    have hba : b ≠ a := ne_of_none z hn
    refine (hok b o (by rw [upd_ne hba]; exact z)).stay (fun c v hc y => ?_) (fun c hc => ?_) fun c xs hc => ?_
    · have hca : c ≠ a := by
        rcases hc with hc | hc
        · rw [hc]
          exact hba
        · exact fun e => by
            rw [e, upd_same] at hc
            exact exo_own (Option.some.inj hc)
      rw [gk hca]
      exact y
    · have hca : c ≠ a := fun e => by
        rw [e, upd_same] at hc
        exact exo_own (Option.some.inj hc)
      rw [upd_ne hca] at hc
      exact hc
    · have hca : c ≠ a := fun e => by
        rw [e, upd_same] at hc
        exact exo_tup (Option.some.inj hc)
      rw [upd_ne hca] at hc
      exact hc
  obtain ⟨h', g', d', t', os'⟩ := s'
  have J : Inv X pins σ H ⟨G, g', d', t', os'⟩ := I.call' (ch := []) ho U hok3 hb (fun b z => absurd z (by simp))
  refine ⟨a, _, _, ⟨G, g', d', t', os'⟩, H, .ref C, none, rfl, J, fun b o z => ?_, ga, hoe, ⟨rfl, rfl⟩, rfl, rfl, hn, rfl, hb, hr, q⟩
  by_cases e : b = a
  · rw [e, ga] at z
    cases z
  · exact (gk e).symm.trans z
theorem run_fly {pins : List (Addr × Obj)} {s : Shared} {σ : L2.St} {H : Hp} {us : List Value} {vs : List V} {Q : XK} (M : MkE X CX k x C fI fd ps fs) (hr : Room (k + 1) X.A) (I : Inv X pins σ H s) (r : Vals vs us) (hl : vs.length = fs.length) (q : ∀ d H2, FlyE fs vs d H H2 → Q (.ref C) d H2) :
    wpAny (model X.prog X.w) X.A (call (.ref C) us) (MkP X pins σ Q) X.xe s := by
  obtain ⟨nm, qn, N, bs, bm, sn, sub, ab, col, dd, k0, k1, k2, k3, k5, hC, hbm⟩ := M.c.o.cls
  obtain ⟨hp, g, dr, tk, os⟩ := s
  obtain ⟨e, he⟩ : ∃ e, e = hp.objs.size + 1 := ⟨_, rfl⟩
  obtain ⟨h1, eh1⟩ : ∃ h1, h1 = (hp.push (PySem.W.kdv_tup us)).push (PySem.HandSPX.excO C hp.objs.size) := ⟨_, rfl⟩
  have hsz : hp.objs.size ≤ e := by rw [he]; exact Nat.le_succ _
  have hn : H e = none := I.hok.fresh hsz
  have kk : ∀ b o, hp.get? b = some o → h1.get? b = some o := fun b o z => by rw [eh1]; exact Heap.get?_push_of_some _ (Heap.get?_push_of_some _ z)
  have hget : h1.get? e = some (PySem.HandSPX.excO C hp.objs.size) := by rw [eh1, he]; heap_get
  have I2 : Inv X pins σ (upd H e (exo e C none)) ⟨h1, g, dr, tk, os⟩ := I.laid (t' := tk) kk hsz (exo_ok hget)
  have r2 : Vals (V.ref e :: vs) (Value.ref e :: us) := .cons rfl r
  have few := M.few
  have hul : us.length = fs.length := by rw [← hl]; exact (Paired.length r).symm
  have hus : us.length ≤ sizeLine := by rw [sizeLine_eq, hul]; omega
  have sp : spErr C fs (.ref e :: vs) (upd H e (exo e C none)) (fun v H2 => v = .non ∧ MadeE C fs vs e H H2) (fun _ _ _ => False) := by
    refine ⟨e, vs, rfl, hl, upd_same, fun z => ⟨rfl, hn, .inl ⟨z, rfl⟩⟩, fun dx H' h1 h2 h3 h4 h5 => ⟨rfl, hn, .inr ⟨dx, ?_, h2, h3, h4, fun b b1 b2 => ?_⟩⟩⟩
    · rw [upd_ne h2] at h1
      exact h1
    · rw [h5 b b1 b2, upd_ne b1]
  have hps : (Value.ref e :: us).length = ps.length := by
    have z := M.fn.len _ _ _ _ sp
    rw [← z]
    exact r2.length.symm
  have run := M.fn.run _ X.stack _ _ ⟨Value.ref e :: us, []⟩ (Value.ref e :: us) _ _ (fun _ _ _ => False) (hr.make C us []) (I2.env0.make C us []) (by simpa using M.bnd _ (Value.ref e :: us) I2.kIn (by simpa using hps)) r2 sp
  rw [eh1] at run
  refine wpAny_call (PySem.HandSPX.call_own F.excBase_ValueError (fun Y => PySem.HandSPX.refsVE_contains Y bm hbm) (I.kIn _ _ hC) (PySem.W.looks_findIn I.kIn M.ini) (fun self => PySem.W.bind_fn I.kIn self M.typ) hus (codeAny_mono (by rw [he] at run; exact run) fun r s' hq' => ?_))
  rw [← he, ← eh1] at hq'
  cases r with
  | error er => exact M.pas pins σ _ _ er s' I2 hq'
  | ok fl =>
    cases fl with
    | ret u =>
      obtain ⟨v, H2, os2, bare2, un2, hok2, rv, ev, m⟩ := hq'
      subst ev
      obtain rfl : u = Value.none := rv
      refine ⟨rfl, ?_⟩
      rw [← he]
      have rs : Raises X (.ref C) := raises_own M.c.o.exC M.c.o.tyC
      obtain ⟨_, ⟨z, rfl⟩ | ⟨dx, m1, m2, m3, m4, m5⟩⟩ := m
      · exact mk_fly0 (s1 := ⟨h1, g, dr, tk, os⟩) rs I hsz kk un2 hok2 os2 bare2 (q none H (.inl ⟨z, rfl, rfl⟩))
      · obtain ⟨h2, g2, d2, t2, os'⟩ := s'
        refine mk_end rs I hsz kk un2 hok2 os2 bare2 m3 m4 m1 (q _ _ (.inr ⟨dx, rfl, m1, ?_⟩))
        funext b
        by_cases e1 : b = dx
        · rw [e1, upd_same, upd_same]
        · rw [upd_ne e1, upd_ne e1]
          by_cases e2 : b = e
          · rw [e2, hn]
            exact L2.del_same
          · rw [L2.del_ne e2]
            exact m5 b e2 e1
    | next => exact False.elim hq'
    | brk => exact False.elim hq'
    | cont => exact False.elim hq'
theorem pmk_fly (M : MkE X CX k x C fI fd ps fs) (hr : Room (k + 1) X.A) (hg : Gl X x) (ha : PA X (e :: es) ta) (he : starEach (e :: es) X.env = (false, eval e X.env) :: starEach es X.env := by rfl) (hpl : (backTo pos (starEach es X.env)).any (·.1) = false := by rfl) :
    PMk X (.Call (.Name x p) (e :: es) [] pos) (tMkX C fs ta) := by
  intro pins s σ H Q I h
  refine wpAny_Call_Name_kw (ld_glob I hg M.nam ?_ M.dbg)
  exact PySem.W.callWith_K (h₀ := X.base) I.ok.mod.kin M.c.o.kC (thn (ha.run pos pins s σ H _ I h) fun us s1 ⟨vs, H1, I1, r, hl, q⟩ => ⟨I1.kIn, run_fly M hr I1 r hl q⟩) he hpl
theorem pmk_fly0 (M : MkE X CX k x C fI fd ps fs) (hr : Room (k + 1) X.A) (hg : Gl X x) : PMk X (.Call (.Name x p) [] [] pos) (tMkX C fs tNil) := by
  intro pins s σ H Q I h
  refine wpAny_Call_Name_kw (ld_glob I hg M.nam ?_ M.dbg)
  exact PySem.W.callWith_K0 I.kIn M.c.o.kC (run_fly (us := []) M hr I .nil h.1 h.2)
variable {g : Gm} {c n : Nat} {ds : List (Env' → Res Val)}
theorem fly_go {F H : Hp} {σ : L2.St} {env : Env'} {xs : List Val} {vs : List V} {D : Ends} {W : WX} (hW : ∀ x e σ F H1 d H2, g.W x e σ F H1 → Stt g F H1 σ e → ErrD g.C F x d H1 H2 → W (.ref (g.C.ea x.c)) d σ H2) (o : AllOld xs) (S : Stt g F H σ env) (r : RVs g F H σ env xs vs) (hn : (g.C.el c).length = n)
    (go : GoS g F ((frzs xs env).bind fun ps e2 => if ps.length = n then Res.err ⟨c, ps⟩ e2 else .bad) D) : vs.length = (g.C.el c).length ∧ ∀ d H2, FlyE (g.C.el c) vs d H H2 → W (.ref (g.C.ea c)) d σ H2 := by
  have same : (frzs xs env).bind (fun ps e => Res.ok ps e) = frzs xs env := by cases frzs xs env <;> rfl
  obtain ⟨F2, ps, e2, x2, S2, r2, go2⟩ := frzs_go (f := fun ps e => Res.ok ps e) o S r (by rw [same]; exact GoS.bindE (σ := σ) go)
  have go3 := go2 F2 H (Ex.refl F2) S2
  dsimp only at go3
  split at go3
  · rename_i hp
    have hl : vs.length = (g.C.el c).length := by rw [r2.length, hp, hn]
    exact ⟨hl, fun d H2 fl => hW ⟨c, ps⟩ e2 σ F2 H d H2 (go3 F2 H σ (Ex.refl F2) S2) S2 ⟨vs, r2, hl, fl⟩⟩
  · exact go3.elim
/-- raise C(e, ..) -/
theorem ss_raise (ok : Ok X g) (ex : ErX X g) (M : MkE X CX k x (g.C.ea c) fI fd ps (g.C.el c)) (hn : (g.C.el c).length = n) (hr : Room (k + 1) X.A) (hg : Gl X x) (ha : PA X (e :: es) (tAs g (dArgs ds))) (he : starEach (e :: es) X.env = (false, eval e X.env) :: starEach es X.env)
    (hpl : (backTo pos (starEach es X.env)).any (·.1) = false) : PS X (.Raise (some (.Call (.Name x p) (e :: es) [] pos)) none rpos) (tS g (dRaise c n ds)) := by
  obtain ⟨W, tk, hW⟩ := ex
  exact psImp (ps_raise ok.calm tk (pmk_fly M hr hg ha he hpl)) fun D σ H ⟨F, env, S, go⟩ => ⟨F, env, S, (GoS.bindE (σ := σ) go).mono fun xs e1 F1 H1 x1 S1 k vs o r => fly_go hW o S1 r hn k⟩
/-- raise C() -/
theorem ss_raise0 (ok : Ok X g) (ex : ErX X g) (M : MkE X CX k x (g.C.ea c) fI fd ps (g.C.el c)) (hn : (g.C.el c).length = 0) (hr : Room (k + 1) X.A) (hg : Gl X x) : PS X (.Raise (some (.Call (.Name x p) [] [] pos)) none rpos) (tS g (dRaise c 0 [])) := by
  obtain ⟨W, tk, hW⟩ := ex
  exact psImp (ps_raise ok.calm tk (pmk_fly0 M hr hg)) fun D σ H ⟨F, env, S, go⟩ => fly_go (xs := []) (vs := []) hW True.intro S rfl hn go
end
end VL

set_option maxRecDepth 100000
set_option maxHeartbeats 2000000
namespace VL
open PySem PySem.Spec L2
open PyProof.Rows hiding St
/-! ### the call of a def that may raise -/
/-- these slots are not known any more -/
def noS (is : List Nat) (e : Env') : Env' := e.mapIdx fun i x => if i ∈ is then .no else x
theorem noS_at {is : List Nat} {e : Env'} {i : Nat} {x : Sl} (h : (noS is e)[i]? = some x) : (i ∉ is ∧ e[i]? = some x) ∨ x = .no := by
  unfold noS at h
  rw [List.getElem?_mapIdx] at h
  cases q : e[i]? with
  | none => rw [q] at h; cases h
  | some y =>
    rw [q] at h
    simp only [Option.map_some, Option.some.injEq] at h
    by_cases hi : i ∈ is
    · rw [if_pos hi] at h
      exact .inr h.symm
    · rw [if_neg hi] at h
      exact .inl ⟨hi, by rw [h]⟩
def callKX (md : Md) (fn : List PV → FX) (xs : List Val) (e : Env') : Res Val := (prep md xs e).bind fun ps e2 => if (lentI md xs).Nodup then match fn ps with
  | .ok (.fz p) outs => (match putOuts (lentI md xs) outs e2 with
    | some e3 => .ok (.fz p) e3
    | none => .bad)
  | .ok (.new p) outs => (match putOuts (lentI md xs) outs e2 with
    | some e3 => .ok (.new p) e3
    | none => .bad)
  | .err x => .err x (noS (lentI md xs) e2)
  | _ => .bad else .bad
def dFnX (md : Md) (fn : List PV → FX) (dps : List PV) (ds : List (Env' → Res Val)) : Env' → Res Val := fun e => (dArgs ds e).bind fun xs e1 => callKX md fn (xs ++ dps.map Val.fz) e1
section
variable {X : Cx} {g : Gm} {F H F' H' : Hp} {σ : St} {env : Env'}
theorem Stt.afterE {is : List Nat} (S : Stt g F H σ env) (hw : ∀ i ∈ is, isOw i env = true) (x1 : Ex F F') (fr : ∀ b o, F' b = some o → F b = some o ∨ H b = none) (l : Le F' H') (tb : LamX.Tabs g.C.T H') (keep : ∀ b o, H b = some o → V.ref b ∉ is.map (vAt σ) → Kpt o (H' b))
    (live : ∀ b, V.ref b ∈ is.map (vAt σ) → ∃ o, H' b = some o) : Stt g F' H' σ (noS is env) := by
  have own : ∀ i ∈ is, ∃ b p a, env[i]? = some (.ow b p) ∧ σ[i]? = some (some (.ref a)) ∧ vAt σ i = .ref a ∧ (if b = true then g.H0 a = none else g.P i = some a) := fun i hi => by
    obtain ⟨b, q, a, e1, e2, e3⟩ := isOw_at S (hw i hi)
    obtain ⟨a', f1, f2, f3, f4⟩ := S.ow i b q e1
    rw [e2] at f1
    cases f1
    exact ⟨b, q, a, e1, e2, by unfold vAt; rw [e2], f4⟩
  have notl : ∀ {b : Addr} {o : HO}, g.H0 b = some o → ¬ g.O b → V.ref b ∉ is.map (vAt σ) := fun {b o} q n z => by
    obtain ⟨i, hi, e⟩ := List.mem_map.mp z
    obtain ⟨f, p, a, e1, e2, e3, e4⟩ := own i hi
    rw [e3] at e
    cases e
    cases f with
    | true => rw [if_pos rfl, q] at e4; cases e4
    | false => rw [if_neg Bool.false_ne_true] at e4; exact n ⟨i, e4⟩
  constructor
  case len => unfold noS; rw [List.length_mapIdx]; exact S.len
  case frame => exact fun b o q n => (S.frame b o q n).trans fun o' q' => keep b o' q' (notl q n)
  case live =>
    intro b hb
    obtain ⟨o, q⟩ := S.live b hb
    by_cases z : V.ref b ∈ is.map (vAt σ)
    · exact live b z
    · exact (keep b o q z).some
  case ext => exact S.ext.trans x1
  case fresh =>
    intro b o q
    rcases fr b o q with z | z
    · exact S.fresh b o z
    · exact .inr (S.sub_new z)
  case sub => exact l
  case fz =>
    intro i p q
    rcases noS_at q with ⟨_, z⟩ | z
    · obtain ⟨v, h1, h2⟩ := S.fz i p z
      exact ⟨v, h1, h2.mono x1.le⟩
    · cases z
  case ow =>
    intro i b p q
    rcases noS_at q with ⟨ni, z⟩ | z
    · obtain ⟨a, h1, h2, h3, h4⟩ := S.ow i b p z
      obtain ⟨o, ho⟩ := h2.cell
      have hn : V.ref a ∉ is.map (vAt σ) := fun w => by
        obtain ⟨j, hj, e⟩ := List.mem_map.mp w
        obtain ⟨f, p2, a2, e1, e2, e3, e4⟩ := own j hj
        rw [e3] at e
        cases e
        have := S.inj i j _ _ _ _ a z e1 h1 e2
        exact ni (this ▸ hj)
      refine ⟨a, h1, h2.mono x1.le (((keep a o ho hn).eq (h2.pln ho).1).trans ho.symm), ?_, h4⟩
      cases w : F' a with
      | none => rfl
      | some o' =>
        rcases fr a o' w with z | z
        · rw [h3] at z; cases z
        · rw [ho] at z; cases z
    · cases z
  case inj =>
    intro i j b c p q a hi hj e1 e2
    rcases noS_at hi with ⟨_, h1⟩ | z
    · rcases noS_at hj with ⟨_, h2⟩ | z
      · exact S.inj i j _ _ _ _ a h1 h2 e1 e2
      · cases z
    · cases z
  case tab => exact tb
/-- a call, from the caller's state -/
theorem call_goX {md : Md} {fn : List PV → FX} {xs : List Val} {vs : List V} {Q : VK} {W : WX} (hW : ∀ x e σ F H1 d H2, g.W x e σ F H1 → Stt g F H1 σ e → ErrD g.C F x d H1 H2 → W (.ref (g.C.ea x.c)) d σ H2) (o : AllOld xs) (S : Stt g F H σ env) (r : RVs g F H σ env xs vs)
    (go : Go g F σ (callKX md fn xs env) fun x env' F' H' => ∀ v, RV g F' H' σ env' x v → Q v H') : SpVX g.C md fn vs H Q (WE W σ) := by
  unfold callKX at go
  cases hp : prep md xs env with
  | bad => rw [hp] at go; exact go.elim
  | err y e => exact (prep_noerr hp).elim
  | ok ps ee =>
    rw [hp] at go
    have go : Go g F σ (if (lentI md xs).Nodup then _ else _) _ := go
    split at go
    · rename_i nd
      obtain ⟨F1, x1, S1, a, hl, hw⟩ := prep_ok o S r hp
      have hl : lentV md vs = (lentI md xs).map (vAt σ) := hl
      have ndv : (lentV md vs).Nodup := by
        rw [hl]
        refine nodup_map (fun i hi j hj e => ?_) nd
        obtain ⟨b, q, ad, e1, e2, _⟩ := isOw_at S1 (hw i hi)
        obtain ⟨b', q', ad', f1, f2, _⟩ := isOw_at S1 (hw j hj)
        have h1 : vAt σ i = .ref ad := by unfold vAt; rw [e2]
        have h2 : vAt σ j = .ref ad' := by unfold vAt; rw [f2]
        rw [h1, h2] at e
        cases e
        exact S1.inj i j _ _ _ _ ad e1 f1 e2 f2
      refine ⟨F1, ps, S1.sub, S1.tab, a, ndv, ?_⟩
      cases hf : fn ps with
      | bad => rw [hf] at go; exact go.elim
      | err y =>
        rw [hf] at go
        intro F' H1 d H2 x2 fr l tb keep live ed
        rw [hl] at keep live
        have S3 := S1.afterE hw x2 fr l tb keep live
        exact hW y _ σ F' H1 d H2 (go F' H1 (x1.trans x2) S3) S3 ed
      | ok x outs =>
        rw [hf] at go
        intro F' H' v x2 fr l tb keep oo rv
        rw [hl] at keep oo
        cases x with
        | bor i => exact go.elim
        | fz p =>
          dsimp only at go
          split at go
          · rename_i e3 hp3
            exact go F' H' (x1.trans x2) (S1.after hw nd x2 fr l tb keep oo hp3) v rv
          · exact go.elim
        | new p =>
          dsimp only at go
          split at go
          · rename_i e3 hp3
            have S3 := S1.after hw nd x2 fr l tb keep oo hp3
            refine go F' H' (x1.trans x2) S3 v ?_
            obtain ⟨ad, e1, e2, e3', e4⟩ := rv
            refine ⟨ad, e1, e2, e3', S1.sub_new e4, fun i b q hi hv => ?_⟩
            have hb : ∃ b p, ee[i]? = some (.ow b p) := by
              obtain ⟨_, hat⟩ := putOuts_at hp3
              rcases hat i _ hi with ⟨_, z⟩ | ⟨_, b, p', q', z, _⟩
              · exact ⟨_, _, z⟩
              · exact ⟨_, _, z⟩
            obtain ⟨b', p', hb⟩ := hb
            obtain ⟨a2, f1, f2, _⟩ := S1.ow i b' p' hb
            rw [hv] at f1
            cases f1
            obtain ⟨o', ho'⟩ := f2.cell
            rw [e4] at ho'
            cases ho'
          · exact go.elim
    · exact go.elim
/-- such a def, by its name -/
structure CalX (P : Program) (w : World) (K : PySem.W.Frag) (mg : Str → Option Value) (base : Heap) (k : Nat) (x : Str) (sp : Sp) (dvs : List V) : Prop where
  ex : ∃ (f : Addr) (fd : FuncData) (ps : List Str) (ds : List Value), FnOk P w K mg base (L2.CX P w) k f fd ps sp ∧ mg x = some (.ref f) ∧ PySem.W.keepIn K (.ref f) = true ∧ Binds K fd ps ds ∧ Vals dvs ds
section
variable {k j : Nat} {x : Str} {md : Md} {fn : List PV → FX} {dvs : List V} {dps : List PV} {p pos : Pos} {e : Expr} {es : List Expr} {ds : List (Env' → Res Val)} {f : Addr} {fd : FuncData} {ps : List Str} {vds : List Value} {sp : Sp} {W : WX}
theorem run_fnX {pins : List (Addr × Obj)} {s : Shared} {Q : VK} {us : List Value} {vs : List V} (Fn : FnOk X.prog X.w X.K X.mg X.base (L2.CX X.prog X.w) k f fd ps sp) (hr : Room k X.A) (hb : Binds X.K fd ps vds) (hd : Vals dvs vds) (tk : Takes X W) (I : Inv X pins σ H s) (r : Vals vs us) (h : sp (vs ++ dvs) H Q (WE W σ)) :
    wpAny (model X.prog X.w) X.A (call (.ref f) us) (EP X pins σ Q) X.xe s := by
  have rr := r.append hd
  have hl : (us ++ vds).length = ps.length := by rw [← rr.length]; exact Fn.len _ _ _ _ h
  refine wpAny_call (codeAny_mono (Fn.run X.A X.stack s H ⟨us, []⟩ (us ++ vds) (vs ++ dvs) Q (WE W σ) hr I.env0 (hb s us I.kIn hl) rr h) fun r s' hq => ?_)
  cases r with
  | error e => exact passAt tk σ pins H s e s' I hq
  | ok fl =>
    cases fl with
    | ret u => exact I.after hq
    | next => exact False.elim hq
    | brk => exact False.elim hq
    | cont => exact False.elim hq
/-- f(e, ..) -/
theorem se_fnX (ex : ErX X g) (c : CalX X.prog X.w X.K X.mg X.base k x (SpVX g.C md fn) dvs) (hr : Room j X.A) (hk : k ≤ j) (hg : Gl X x) (hd : ∀ F, Rs g.C F dps dvs) (ha : PA X (e :: es) (tAs g (dArgs ds))) (hdb : (x == ("__debug__" : Str)) = false)
    (he : starEach (e :: es) X.env = (false, eval e X.env) :: starEach es X.env) (hpl : (backTo pos (starEach es X.env)).any (·.1) = false) : PE X (.Call (.Name x p) (e :: es) [] pos) (tE g (dFnX md fn dps ds)) := by
  obtain ⟨W, tk, hW⟩ := ex
  obtain ⟨f, fd, ps, vds, Fn, hm, kp, b, d⟩ := c.ex
  refine ⟨fun pins s σ H Q I ⟨F, env, S, go⟩ => ?_⟩
  refine wpAny_Call_Name_kw (ld_glob I hg hm ?_ hdb)
  refine PySem.W.callWith_K (h₀ := X.base) I.ok.mod.kin kp (thn (paGo ha pos I S go) fun us s1 ⟨vs, H1, I1, r, F1, e1, xs, x1, S1, o1, rv1, go1⟩ => ⟨I1.kIn, ?_⟩) he hpl
  exact run_fnX Fn (hr.mono hk) b d tk I1 r (call_goX hW (AllOld.append o1 dps_old) S1 (RVs.append rv1 (dps_rvs hd)) go1)
end
end
end VL

set_option maxRecDepth 100000
set_option maxHeartbeats 2000000
namespace VL
open PySem PySem.Spec L2
open PyProof.Rows hiding St
/-! ### try with several clauses `except C as e` -/
/-- a clause: the class, e's slot, what its suite does with the error -/
structure Cla where
  c : Value
  i : Nat
  ts : Addr → Value → Option Addr → TS
/-- the clause's name goes with its end -/
def lessE (i : Nat) (D : Ends) : Ends := { nx := fun σ H => D.nx (σ.set i none) H, bk := fun σ H => D.bk (σ.set i none) H, ct := fun σ H => D.ct (σ.set i none) H, rt := D.rt }
/-- what an error of the body must find -/
def wCla (K : PySem.W.Frag) (Wout : WX) (D : Ends) : List Cla → WX
  | [] => Wout
  | l :: ls => fun cls d σ H => ∃ b, PySem.W.exmOne K cls l.c = some b ∧ if b = true then ∀ a, H a = none → l.ts a cls d (lessE l.i D) (σ.set l.i (some (.ref a))) H else wCla K Wout D ls cls d σ H
inductive ClaOk (X : Cx) : List ExceptHandler → List Cla → Prop where
  | nil : ClaOk X [] []
  | cons {x n : Str} {l : Cla} {b : Stmt} {bs : List Stmt} {np hp : Pos} {hs : List ExceptHandler} {ls : List Cla} (hc : Names X x l.c) (hi : X.N[l.i]? = some n) (hn : X.env.kindOf n = some .local)
      (su : ∀ (a : Addr) (oe : Obj) (cls : Value) (d : Option Addr) (pn : List (Addr × Obj)), Zc cls d oe → (∃ vs, oe.data = .fields vs) → PSs (X.suite a ((a, oe) :: pn)) (b :: bs) (l.ts a cls d)) (r : ClaOk X hs ls) :
      ClaOk X (.ExceptHandler (some (.Name x np)) (some n) (b :: bs) hp :: hs) (l :: ls)
/-- an error that was caught: it lies at a, with what Y stands for behind it -/
structure Caught (X : Cx) (pins : List (Addr × Obj)) (σ : L2.St) (H : Hp) (cls : Value) (d : Option Addr) (a : Addr) (B : Heap) (sI s' : Shared) (h3 : Heap) : Prop where
  J : Inv X pins σ H sI
  nb : ∀ b o, sI.heap.get? b = some o → b ∉ frs X.stack → B.get? b = some o
  up : sI.heap.UpToSlots s'.heap
  na : H a = none
  os : s'.os = sI.os
  ag : AllBare s'.gens
  fl : HandSPX.FlyingZ B (X.env :: X.outer) a (Zc cls d) h3
  up3 : s'.heap.UpToSlots h3
section
variable {X : Cx} {pins : List (Addr × Obj)} {σ : L2.St} {H : Hp} {cls : Value} {d : Option Addr} {a : Addr} {B h3 : Heap} {sI s' : Shared} {D : Ends} {Wout : WX}
theorem Caught.inv (K : Caught X pins σ H cls d a B sI s' h3) {h4 : Heap} (fl : HandSPX.FlyingZ B (X.env :: X.outer) a (Zc cls d) h4) (up : h3.UpToSlots h4) : Inv X pins σ H { s' with heap := h4 } := K.J.landed K.nb fl.1 ((K.up.trans K.up3).trans up) K.os K.ag
/-- the suite's state -/
theorem Caught.suite (K : Caught X pins σ H cls d a B sI s' h3) (hf : X.env.frame = some X.env.locals) {h4 : Heap} (fl : HandSPX.FlyingZ B (X.env :: X.outer) a (Zc cls d) h4) (J : Inv X pins σ H { s' with heap := h4 }) :
    ∃ oe vs, Zc cls d oe ∧ oe.data = .fields vs ∧ h4.get? a = some oe ∧ Inv (X.suite a ((a, oe) :: (X.pn ++ pins))) [] σ H { s' with heap := h4 } := by
  obtain ⟨oe, vs, he, hz, hd⟩ := fl.there
  have off : a ∉ frs (X.env :: X.outer) := fun hm => by
    obtain ⟨_, o', e', no⟩ := fl.2.2.1.mem hm
    rw [he] at e'
    cases e'
    exact no _ hd
  refine ⟨oe, vs, hz, hd, he, J.suite he hd K.na (fun z => off ?_) fun hm => off ?_⟩
  · exact List.mem_filterMap.mpr ⟨X.env, List.mem_cons_self, by rw [hf, z]⟩
  · obtain ⟨e, m, q⟩ := List.mem_filterMap.mp hm
    exact List.mem_filterMap.mpr ⟨e, List.mem_cons_of_mem _ m, q⟩
/-- no clause is left: it goes on -/
theorem caught_out (K : Caught X pins σ H cls d a B sI s' h3) (hs : X.stack = X.env :: X.outer) (hf : X.env.frame = some X.env.locals) (tk : Takes X Wout) (w : Wout cls d σ H) : wpAny (model X.prog X.w) X.A (handleBy (.ref a) X.env []) (SP X pins D) X.xe { s' with heap := h3 } := by
  refine wpAny_handleBy_nil ?_
  obtain ⟨_, _, _, oe, vs, T, oT, ts', he, hz, hd, h1, hr⟩ := id K.fl
  unfold PySem.passOn
  refine wpAny_bind (wpAny_field he hd h1 ?_)
  rw [if_neg (show ¬ ((Value.ref T == Value.none) = true) from by simp)]
  have fin : wpAny (model X.prog X.w) X.A (setFlight (.ref a) X.env.frame) (fun _ s4 => wpAny (model X.prog X.w) X.A (throw (.ref a) : Sem Flow) (SP X pins D) X.xe s4) X.xe { s' with heap := h3 } := by
    rw [hf]
    exact HandSPX.setFlight_upZ K.fl fun h4 hh4 up4 => wpAny_throw (tk _ _ ⟨a, B, sI, pins, σ, H, cls, d, rfl, K.J, K.nb, (K.up.trans K.up3).trans up4, .inr (.inr (by rw [hs]; exact hh4)), K.na, K.os, K.ag, w⟩)
  first
    | exact wpAny_bind (wpAny_pure (wpAny_bind fin))
    | exact wpAny_bind fin
/-- the clauses, one after the other -/
theorem caught_by (K : Caught X pins σ H cls d a B sI s' h3) (hs : X.stack = X.env :: X.outer) (hf : X.env.frame = some X.env.locals) (hN : X.N.Nodup) (tk : Takes X Wout) {hds : List ExceptHandler} {ls : List Cla} (ok : ClaOk X hds ls) (w : wCla X.K Wout D ls cls d σ H) :
    wpAny (model X.prog X.w) X.A (handleBy (.ref a) X.env hds) (SP X pins D) X.xe { s' with heap := h3 } := by
  induction ok with
  | nil => exact caught_out K hs hf tk w
  | @cons x n l b0 bs np hp hs' ls' hc hi hn su r ih =>
    obtain ⟨b, hb, w⟩ := w
    have J3 := K.inv K.fl (Heap.UpToSlots.refl _)
    obtain ⟨oe3, vs3, hz3, hd3, he3, S3⟩ := K.suite hf K.fl J3
    refine wpAny_handleBy_cons (codeAny_handlers_test ?_) (by intro q; cases q)
    have LT : PySem.W.Looks (model X.prog X.w) h3 (typeOf (.ref a)) cls := fun A Q E s k q => wpAny_typeOf_ref (k _ _ he3) (by rw [hz3.1]; exact q)
    have LM := PySem.W.exm_one (M := model X.prog X.w) J3.kIn LT hb
    have test : ∀ {Q : Value → Shared → Prop} {E : Value → Shared → Prop}, Q l.c { s' with heap := h3 } → wpAny (model X.prog X.w) (X.A.mark (some (.ref a))) (eval (.Name x np) X.env) Q E { s' with heap := h3 } := fun {Q E} q => by
      obtain ⟨hg, hdbg, hm | ⟨hm, hv, hnn⟩⟩ := hc
      · exact ld_glob (X := X.suite a ((a, oe3) :: (X.pn ++ pins))) S3 hg hm q hdbg
      · exact ld_blt (X := X.suite a ((a, oe3) :: (X.pn ++ pins))) S3 hg hm hv q hnn hdbg
    refine test (LM.here ?_)
    cases b with
    | false =>
      rw [if_neg Bool.false_ne_true] at w
      exact ih w
    | true =>
      rw [if_pos rfl] at w
      refine codeAny_handlers_suite_as (HandSPX.lands_againZ K.fl fun h4 fl4 up4 => ?_)
      obtain ⟨oe, vs, hz, hd, he, S4⟩ := K.suite hf fl4 (K.inv fl4 up4)
      refine store_ok (X := X.suite a ((a, oe) :: (X.pn ++ pins))) (v := .ref a) S4 hN hi (.inl hn) rfl (fun s5 S5 => ?_) (.inr hn)
      refine wpAny_mono ((su a oe cls d (X.pn ++ pins) hz ⟨_, hd⟩).run [] s5 _ H _ S5 (w a K.na)) (fun f s6 q => ?_) fun _ _ z => z.elim
      have end_ : ∀ {σ6 : L2.St} {H6 : Hp} {Q : Shared → Prop}, Inv (X.suite a ((a, oe) :: (X.pn ++ pins))) [] σ6 H6 s6 → (∀ s7, Inv X pins (σ6.set l.i none) H6 s7 → Q s7) →
          wpAny (model X.prog X.w) X.A (do bindName X.env n .none; unbindBehindTheSuite X.env n hp) (fun _ s7 => Q s7) X.xe s6 := fun {σ6 H6 Q} S6 hq => gone_ok (S6.unsuite K.J.ok) hN hi hn hq
      cases f with
      | next =>
        obtain ⟨σ6, H6, S6, q6⟩ := q
        exact end_ S6 fun s7 J7 => ⟨_, _, J7, q6⟩
      | brk =>
        obtain ⟨σ6, H6, S6, q6⟩ := q
        exact end_ S6 fun s7 J7 => ⟨_, _, J7, q6⟩
      | cont =>
        obtain ⟨σ6, H6, S6, q6⟩ := q
        exact end_ S6 fun s7 J7 => ⟨_, _, J7, q6⟩
      | ret u =>
        obtain ⟨v6, σ6, H6, S6, r6, q6⟩ := q
        exact end_ S6 fun s7 J7 => ⟨_, _, _, J7, r6, q6⟩
variable {body : List Stmt} {hd₀ : ExceptHandler} {hds : List ExceptHandler} {ls : List Cla} {pos : Pos} {tb : WX → TS}
/-- THE RULE -/
theorem ps_tryAs (hs : X.stack = X.env :: X.outer) (hf : X.env.frame = some X.env.locals) (hN : X.N.Nodup) (tk : Takes X Wout) (ok : ClaOk X (hd₀ :: hds) ls)
    (hb : ∀ (W : WX) (pn : List (Addr × Obj)) (xe : Value → Shared → Prop), Takes (X.tr pn xe) W → PassesOwn (model X.prog X.w) X.A X.env xe → PSs (X.tr pn xe) body (tb W)) : PS X (.Try body (hd₀ :: hds) [] [] pos) (fun D σ H => tb (wCla X.K Wout D ls) D σ H) := by
  refine ⟨fun pins s σ H D I h => ?_⟩
  have hfr : X.A.frames = some (X.env :: X.outer) := by rw [I.ok.frames, hs]
  obtain ⟨catch_, ec⟩ : ∃ f : Value → Shared → Prop, f = fun e s₁ => wpAny (model X.prog X.w) X.A (noteFrame e X.env) (fun _ s₂ => wpAny (model X.prog X.w) X.A (setFlight e none) (fun _ s₃ => wpAny (model X.prog X.w) X.A (handleBy e X.env (hd₀ :: hds)) (SP X pins D) X.xe s₃) X.xe s₂) X.xe s₁ := ⟨_, rfl⟩
  have tk' : Takes (X.tr (X.pn ++ pins) catch_) (wCla X.K Wout D ls) := by
    rintro u s' ⟨a, B, sI, pins', σ', H', cls, d, rfl, J', nb, up, sky, na, os, ag, w⟩
    show catch_ _ _
    rw [ec]
    have sky' : Sky B (X.env :: X.outer) a (Zc cls d) X.env.locals s'.heap := by rw [← hs]; exact sky
    exact Sky.land Zc.steady hfr hf sky' fun h3 fl3 up3 => caught_by ⟨J'.ofTry I.ok, nb, up, na, os, ag, fl3, up3⟩ hs hf hN tk ok w
  refine wpAny_Try_except ?_
  refine wpAny_mono ((hb _ (X.pn ++ pins) catch_ tk' (by rw [ec]; exact PassesOwn.looking)).run [] s σ H D (I.toTry _) h) (fun f s1 q => ?_) (fun e s1 he => by rw [ec] at he; exact he)
  cases f with
  | next =>
    obtain ⟨σ', H', J', q⟩ := q
    exact wpAny_execs_nil ⟨σ', H', J'.ofTry I.ok, q⟩
  | brk =>
    obtain ⟨σ', H', J', q⟩ := q
    exact ⟨σ', H', J'.ofTry I.ok, q⟩
  | cont =>
    obtain ⟨σ', H', J', q⟩ := q
    exact ⟨σ', H', J'.ofTry I.ok, q⟩
  | ret u =>
    obtain ⟨v, σ', H', J', r, q⟩ := q
    exact ⟨v, σ', H', J'.ofTry I.ok, r, q⟩
end
end VL

set_option maxRecDepth 100000
set_option maxHeartbeats 2000000
namespace VL
open PySem PySem.Spec L2
open PyProof.Rows hiding St
/-! ### what a clause's suite tells of its error: a tuple of texts, fields, isinstance -/
inductive CIt where
  | str (m : Str) | fld (f : Str) | isi (c : Addr)
/-- the error's fields stand in H -/
def XdAt (H : Hp) (d : Option Addr) : Prop := d = none ∨ ∃ dd fs, d = some dd ∧ H dd = some (.xd fs)
/-- an item's value, D the error's class, d its dict -/
def itV (K : PySem.W.Frag) (H : Hp) (D : Addr) (d : Option Addr) : CIt → V → Prop
  | .str m, v => v = .str m
  | .fld f, v => PySem.W.findIn K (.ref D) f = some none ∧ ∃ (dd : Addr) (fs : List (Str × V)), d = some dd ∧ H dd = some (.xd fs) ∧ fs.lookup f = some v
  | .isi c, v => XdAt H d ∧ ∃ b, PySem.W.kitOne K (.ref D) (.ref c) = some b ∧ v = .bl b
def itVs (K : PySem.W.Frag) (H : Hp) (D : Addr) (d : Option Addr) : List CIt → List V → Prop
  | [], vs => vs = []
  | i :: is, vs => ∃ v ws, vs = v :: ws ∧ itV K H D d i v ∧ itVs K H D d is ws
section
variable {X : Cx} {a D : Addr} {oe : Obj} {d : Option Addr} {pn : List (Addr × Obj)} {n : Str} {i : Nat}
theorem peN {e : Expr} {t t' : TE} (h : PE X e t) (k : ∀ σ H Q, σ.length = X.N.length → t' σ H Q → t σ H Q) : PE X e t' := ⟨fun pins s σ H Q I q => h.run pins s σ H Q I (k σ H Q I.len q)⟩
/-- the slot i, if there is one, holds the error -/
def Hld (σ : L2.St) (i : Nat) (a : Addr) : Prop := i < σ.length → σ[i]? = some (some (.ref a))
theorem Hld.get {σ : L2.St} (h : Hld σ i a) (hi : X.N[i]? = some n) (hl : σ.length = X.N.length) : σ[i]? = some (some (.ref a)) := h (by rw [hl]; exact (List.getElem?_eq_some_iff.mp hi).1)
/-- the item e -/
def tIt (K : PySem.W.Frag) (D a : Addr) (d : Option Addr) (i : Nat) (it : CIt) : TE := fun σ H Q => Hld σ i a ∧ ∃ v, itV K H D d it v ∧ Q v H
theorem it_str {m : Str} {j : Nat} {p : Pos} : PE (X.suite a ((a, oe) :: pn)) (.Constant (.str m) j p) (tIt X.K D a d i (.str m)) := peImp pe_str fun σ H Q ⟨_, v, e, q⟩ => by
  subst e
  exact q
theorem it_fld {f : Str} {p1 p2 : Pos} (T : XfC X.K D) (hz : Zc (.ref D) d oe) (hd : ∃ vs, oe.data = .fields vs) (hi : X.N[i]? = some n) (hv : X.env.kindOf n = some .local) (d0 : (n == ("__debug__" : Str)) = false) (d1 : (n == ("__classdict__" : Str)) = false)
    (hno : PySem.W.findIn X.K (.ref D) f = some none) (hb : attributeBase (.Name n p1) f X.env (eval (.Name n p1) X.env) = eval (.Name n p1) X.env) : PE (X.suite a ((a, oe) :: pn)) (.Attribute (.Name n p1) f p2) (tIt X.K D a d i (.fld f)) :=
  peN (pe_xf T hno hz hd (pe_var (X := X.suite a ((a, oe) :: pn)) hi (.inl hv) d0 d1) hb) fun σ H Q hl ⟨e', v, ⟨_, dd, fs, e1, e2, e3⟩, q⟩ => let e := Hld.get (X := X) e' hi hl; ⟨.ref a, e, rfl, rfl, dd, fs, v, e1, e2, e3, q⟩
/-- isinstance(e, c) in the suite, with fields or without -/
def rIsS (K : PySem.W.Frag) (D a : Addr) (d : Option Addr) (c : Addr) : List V → Hp → VK → Prop := fun xs H Q => xs = [.ref a, .ref c] ∧ XdAt H d ∧ ∃ b, PySem.W.kitOne K (.ref D) (.ref c) = some b ∧ Q (.bl b) H
theorem call_isS {c : Addr} (C : ExcC X.K D) (hz : Zc (.ref D) d oe) (hf : ∃ vs, oe.data = .fields vs) : CallR (X.suite a ((a, oe) :: pn)) (.builtin "isinstance") (rIsS X.K D a d c) := by
  rintro pins s σ H xs us Q I r ⟨rfl, xd, b, e, q⟩
  cases r with
  | cons rx rr =>
    cases rr with
    | cons rt rr =>
      cases rr
      cases rx
      cases rt
      obtain ⟨hget, _⟩ := I.pin (a, oe) (List.mem_append.mpr (.inl List.mem_cons_self))
      obtain ⟨vs, hv⟩ := hf
      have J : ∃ od, PySem.W.InstAt s.heap a oe D od := by
        obtain ⟨oc, odd, oda, osl⟩ := oe
        obtain ⟨h1, h2⟩ := hz
        dsimp only at h1 h2 hv
        subst h1 h2 hv
        rcases xd with rfl | ⟨dd, fs, rfl, hd⟩
        · exact ⟨none, hget, rfl, rfl, trivial⟩
        · have hx : ObjOk X.prog X.w H s.heap dd (.xd fs) := I.hok dd _ hd
          obtain ⟨mA, ⟨o, _, _, ho, _⟩, _⟩ := hx
          exact ⟨some o, hget, rfl, rfl, ho⟩
      obtain ⟨od, J⟩ := J
      exact PySem.W.kia_one (PySem.W.kitx_exc (by obtain ⟨cd, hc, _⟩ := PySem.W.any_some C.hd; rw [hc]; rfl) C.hg C.hk C.hs C.ha C.hn C.ht C.hm) I.kIn J e (fun z => nomatch z) fun tk => ⟨.bl b, H, I.kept (t' := tk) fun _ _ z => z, rfl, q⟩
theorem it_isi {x : Str} {c : Addr} {p1 p2 p3 p4 : Pos} (C : ExcC X.K D) (hz : Zc (.ref D) d oe) (hd : ∃ vs, oe.data = .fields vs) (hi : X.N[i]? = some n) (hv : X.env.kindOf n = some .local) (d0 : (n == ("__debug__" : Str)) = false) (d1 : (n == ("__classdict__" : Str)) = false)
    (hg : Gl X "isinstance") (hm : X.mg "isinstance" = none) (hgx : Gl X x) (hmx : X.mg x = some (.ref c)) (dx : (x == ("__debug__" : Str)) = false) (hs : starEach [.Name n p2, .Name x p3] X.env = (false, eval (.Name n p2) X.env) :: starEach [.Name x p3] X.env)
    (hs2 : starEach [.Name x p3] X.env = (false, eval (.Name x p3) X.env) :: starEach [] X.env) (hpl : (backTo p4 (starEach [.Name x p3] X.env)).any (·.1) = false) : PE (X.suite a ((a, oe) :: pn)) (.Call (.Name "isinstance" p1) [.Name n p2, .Name x p3] [] p4) (tIt X.K D a d i (.isi c)) :=
  peN (pe_callB (call_isS C hz hd) hg hm boot_isinstance (pa_cons (pe_var (X := X.suite a ((a, oe) :: pn)) hi (.inl hv) d0 d1) (pa_cons (pe_glob (v := .ref c) hgx hmx rfl dx) pa_nil hs2) hs) (by decide) (by decide) hs hpl)
    fun σ H Q hl ⟨e', v, ⟨xd, b, hb, ev⟩, q⟩ => let e := Hld.get (X := X) e' hi hl; ⟨.ref a, e, rfl, xd, b, hb, by subst ev; exact q⟩
/-- the items -/
def tIts (K : PySem.W.Frag) (D a : Addr) (d : Option Addr) (i : Nat) (its : List CIt) : TA := fun σ H Q => Hld σ i a ∧ ∃ vs, itVs K H D d its vs ∧ Q vs H
theorem its_nil : PA (X.suite a ((a, oe) :: pn)) [] (tIts X.K D a d i []) := paImp pa_nil fun σ H Q ⟨_, vs, e, q⟩ => by
  have e : vs = [] := e
  subst e
  exact q
theorem its_cons {e : Expr} {es : List Expr} {it : CIt} {its : List CIt} (h : PE (X.suite a ((a, oe) :: pn)) e (tIt X.K D a d i it)) (hr : PA (X.suite a ((a, oe) :: pn)) es (tIts X.K D a d i its)) (hs : starEach (e :: es) X.env = (false, eval e X.env) :: starEach es X.env) :
    PA (X.suite a ((a, oe) :: pn)) (e :: es) (tIts X.K D a d i (it :: its)) :=
  paImp (pa_cons h hr hs) fun σ H Q ⟨e0, vs, ⟨v, ws, ev, h1, h2⟩, q⟩ => ⟨e0, v, h1, e0, ws, h2, by subst ev; exact q⟩
/-- y = (items) -/
def tSu (K : PySem.W.Frag) (D a : Addr) (d : Option Addr) (i y : Nat) (its : List CIt) : TS := fun E σ H => Hld σ i a ∧ ∃ vs, itVs K H D d its vs ∧ vs.length ≤ sizeLine ∧ ∀ p, H p = none → E.nx (σ.set y (some (.ref p))) (upd H p (.tup vs))
theorem su_set {y : Nat} {m : Str} {es : List Expr} {its : List CIt} {x1 : Nat} {p1 p2 p3 : Pos} (hN : X.N.Nodup) (hy : X.N[y]? = some m) (hl : X.env.kindOf m = some .local) (ha : PA (X.suite a ((a, oe) :: pn)) es (tIts X.K D a d i its)) :
    PSs (X.suite a ((a, oe) :: pn)) [.Assign [.Name m p1] (.Tuple es x1 p2) p3] (tSu X.K D a d i y its) :=
  pssImp' (pss_cons (ps_set (X := X.suite a ((a, oe) :: pn)) hN hy (.inl hl) (pe_tup ha) (by rfl) (.inr hl)) pss_nil) fun E σ H ⟨e0, vs, h1, hz, q⟩ => ⟨e0, vs, h1, hz, fun p hp => q p hp⟩
/-- return (items) -/
def tRe (K : PySem.W.Frag) (D a : Addr) (d : Option Addr) (i : Nat) (its : List CIt) : TS := fun E σ H => Hld σ i a ∧ ∃ vs, itVs K H D d its vs ∧ vs.length ≤ sizeLine ∧ ∀ p, H p = none → E.rt (.ref p) (upd H p (.tup vs))
theorem su_ret {es : List Expr} {its : List CIt} {x1 : Nat} {p2 p3 : Pos} (ha : PA (X.suite a ((a, oe) :: pn)) es (tIts X.K D a d i its)) : PSs (X.suite a ((a, oe) :: pn)) [.Return (some (.Tuple es x1 p2)) p3] (tRe X.K D a d i its) :=
  pssImp' (pss_cons (ps_ret (X := X.suite a ((a, oe) :: pn)) (pe_tup ha)) pss_nil) fun E σ H ⟨e0, vs, h1, hz, q⟩ => ⟨e0, vs, h1, hz, fun p hp => q p hp⟩
end
end VL

set_option maxRecDepth 100000
set_option maxHeartbeats 2000000
namespace VL
open PySem PySem.Spec L2
open PyProof.Rows hiding St
/-! ### try, over values without a heap -/
inductive CItD where
  | str (m : Str) | fld (f : Nat) | isi (ans : Nat → Option Bool) (c : Nat)
/-- a clause: which classes it takes, the slot of its name, where its tuple goes (none: it is given back), the tuple -/
structure ClD where
  ans : Nat → Option Bool
  i : Nat
  y : Option Nat
  its : List CItD
def itP (L : Nat → List Nat) (x : Exc') : CItD → Option PV
  | .str m => some (.str m)
  | .fld f => ((L x.c).idxOf? f).bind fun i => x.fs[i]?
  | .isi ans _ => (ans x.c).map .bl
def itPs (L : Nat → List Nat) (x : Exc') : List CItD → Option (List PV)
  | [] => some []
  | i :: is => match itP L x i, itPs L x is with
    | some p, some ps => some (p :: ps)
    | _, _ => none
def clRun (L : Nat → List Nat) (c : ClD) (x : Exc') (e : Env') : Res Fl := match itPs L x c.its with
  | some ps => if ps.length ≤ 100 then (match c.y with
    | some y => .ok .nx (((e.set c.i .no).set y (.fz (.tup ps))).set c.i .no)
    | none => .ok (.rt (.fz (.tup ps))) (e.set c.i .no)) else .bad
  | none => .bad
def clsRun (L : Nat → List Nat) : List ClD → Exc' → Env' → Res Fl
  | [], x, e => .err x e
  | c :: cs, x, e => match c.ans x.c with
    | some true => clRun L c x e
    | some false => clsRun L cs x e
    | none => .bad
def dTry (L : Nat → List Nat) (d : Env' → Res Fl) (cs : List ClD) : Env' → Res Fl := fun e => match d e with
  | .err x e1 => clsRun L cs x e1
  | r => r
def CItD.it (C : Ct) : CItD → CIt
  | .str m => .str m
  | .fld f => .fld (C.nm f)
  | .isi _ c => .isi (C.ea c)
section
variable {X : Cx} {g : Gm} {F F' H H' : Hp} {σ : L2.St} {env : Env'}
/-- a slot is given up -/
theorem Stt.give (S : Stt g F H σ env) (i : Nat) (o : Option V) : Stt g F H (σ.set i o) (env.set i .no) := by
  have at' : ∀ {j : Nat} {x : Sl}, (env.set i .no)[j]? = some x → x = .no ∨ (i ≠ j ∧ env[j]? = some x) := fun {j x} h => by
    rcases getElem?_set_cases h with ⟨_, z, _⟩ | ⟨n, z⟩
    · exact .inl z.symm
    · exact .inr ⟨n, z⟩
  constructor
  case len => rw [List.length_set, List.length_set]; exact S.len
  case frame => exact S.frame
  case live => exact S.live
  case ext => exact S.ext
  case fresh => exact S.fresh
  case sub => exact S.sub
  case tab => exact S.tab
  case fz =>
    intro j p h
    rcases at' h with z | ⟨n, z⟩
    · cases z
    · rw [List.getElem?_set_ne n]
      exact S.fz j p z
  case ow =>
    intro j b p h
    rcases at' h with z | ⟨n, z⟩
    · cases z
    · rw [List.getElem?_set_ne n]
      exact S.ow j b p z
  case inj =>
    intro j k b c p q a h1 h2 e1 e2
    rcases at' h1 with z | ⟨n1, z1⟩
    · cases z
    · rcases at' h2 with z | ⟨n2, z2⟩
      · cases z
      · rw [List.getElem?_set_ne n1] at e1
        rw [List.getElem?_set_ne n2] at e2
        exact S.inj j k _ _ _ _ a z1 z2 e1 e2
theorem Stt.reW {W : Exc' → Env' → L2.St → Hp → Hp → Prop} (S : Stt g F H σ env) : Stt { g with W := W } F H σ env := ⟨S.len, S.frame, S.live, S.ext, S.fresh, S.sub, S.fz, S.ow, S.inj, S.tab⟩
theorem Stt.unW {W : Exc' → Env' → L2.St → Hp → Hp → Prop} (S : Stt { g with W := W } F H σ env) : Stt g F H σ env := ⟨S.len, S.frame, S.live, S.ext, S.fresh, S.sub, S.fz, S.ow, S.inj, S.tab⟩
/-- what the items' words must say -/
structure ItR (X : Cx) (g : Gm) (it : CItD) : Prop where
  is_ : ∀ ans c, it = .isi ans c → ∀ n b, ans n = some b → PySem.W.kitOne X.K (.ref (g.C.ea n)) (.ref (g.C.ea c)) = some b
/-- the items' values -/
theorem it_ok {x : Exc'} {vs : List V} {d : Option Addr} (ok : Ok X g) (co : ∀ c, ErrC g.C c) (hl : vs.length = (g.C.el x.c).length) (rs : Rs g.C F x.fs vs) (fl : FlyE (g.C.el x.c) vs d H H') {it : CItD} (hi : ItR X g it) {p : PV} (h : itP g.C.eL x it = some p) :
    ∃ v, itV X.K H' (g.C.ea x.c) d (it.it g.C) v ∧ R g.C F p v := by
  cases it with
  | str m =>
    cases h
    exact ⟨.str m, rfl, by unfold R; rfl⟩
  | fld f =>
    have h : (((g.C.eL x.c).idxOf? f).bind fun i => x.fs[i]?) = some p := h
    cases hx : (g.C.eL x.c).idxOf? f with
    | none => rw [hx] at h; cases h
    | some i =>
      rw [hx] at h
      have h : x.fs[i]? = some p := h
      obtain ⟨hlt, he, _⟩ := List.findIdx?_eq_some_iff_getElem.mp hx
      have ef : (g.C.eL x.c)[i] = f := by simpa using he
      have hfn : (g.C.el x.c)[i]? = some (g.C.nm f) := by
        unfold Ct.el
        rw [List.getElem?_map, List.getElem?_eq_getElem hlt, ef]
        rfl
      obtain ⟨w, hw, rw'⟩ := rs.get h
      rcases fl with ⟨e0, _⟩ | ⟨dd, e1, e2, e3⟩
      · rw [e0] at hfn
        cases hfn
      · refine ⟨w, ⟨?_, dd, _, e1, by rw [e3, upd_same], flds_look (co x.c).nd hl hfn hw⟩, rw'⟩
        rw [← ok.K]
        exact (co x.c).no f (by rw [← ef]; exact List.getElem_mem hlt)
  | isi ans c =>
    have h : (ans x.c).map PV.bl = some p := h
    cases ha : ans x.c with
    | none => rw [ha] at h; cases h
    | some b =>
      rw [ha] at h
      cases h
      refine ⟨.bl b, ⟨?_, b, hi.is_ ans c rfl x.c b ha, rfl⟩, by unfold R; rfl⟩
      rcases fl with ⟨_, e1, _⟩ | ⟨dd, e1, e2, e3⟩
      · exact .inl e1
      · exact .inr ⟨dd, _, e1, by rw [e3, upd_same]⟩
theorem its_ok {x : Exc'} {vs : List V} {d : Option Addr} (ok : Ok X g) (co : ∀ c, ErrC g.C c) (hl : vs.length = (g.C.el x.c).length) (rs : Rs g.C F x.fs vs) (fl : FlyE (g.C.el x.c) vs d H H') : ∀ {its : List CItD} {ps : List PV}, (∀ it ∈ its, ItR X g it) → itPs g.C.eL x its = some ps →
    ∃ ws, itVs X.K H' (g.C.ea x.c) d (its.map (CItD.it g.C)) ws ∧ Rs g.C F ps ws
  | [], ps, _, h => by
    cases h
    exact ⟨[], rfl, Rs.nil⟩
  | it :: its, ps, hi, h => by
    unfold itPs at h
    split at h
    · rename_i p ps' h1 h2
      cases h
      obtain ⟨v, v1, v2⟩ := it_ok ok co hl rs fl (hi it (List.mem_cons_self ..)) h1
      obtain ⟨ws, w1, w2⟩ := its_ok ok co hl rs fl (fun j hj => hi j (List.mem_cons_of_mem _ hj)) h2
      exact ⟨v :: ws, ⟨v, ws, rfl, v1, w1⟩, Rs.cons v2 w2⟩
    · cases h
/-- what a clause's suite does, for whatever error: its tuple, put into a slot or given back -/
def tsOf (K : PySem.W.Frag) (C : Ct) (c : ClD) (a : Addr) (cls : Value) (d : Option Addr) : TS := fun E σ H => ∃ D, cls = .ref D ∧ ExcC K D ∧ (∀ f, CIt.fld f ∈ c.its.map (CItD.it C) → PySem.W.findIn K (.ref D) f = some none) ∧
  match c.y with
  | some y => tSu K D a d c.i y (c.its.map (CItD.it C)) E σ H
  | none => tRe K D a d c.i (c.its.map (CItD.it C)) E σ H
theorem FlyE.ex {fs : List Str} {vs : List V} {d : Option Addr} (fl : FlyE fs vs d H H') : Ex H H' := by
  rcases fl with ⟨_, _, rfl⟩ | ⟨dd, _, h1, rfl⟩
  · exact Ex.refl _
  · exact Ex.new h1
theorem its_no (ok : Ok X g) (co : ∀ c, ErrC g.C c) {x : Exc'} : ∀ {its : List CItD} {ps : List PV}, itPs g.C.eL x its = some ps → ∀ f, CIt.fld f ∈ its.map (CItD.it g.C) → PySem.W.findIn X.K (.ref (g.C.ea x.c)) f = some none
  | [], _, _, f, h => by cases h
  | it :: its, ps, h, f, hf => by
    unfold itPs at h
    split at h
    · rename_i p ps' h1 h2
      rw [List.map_cons] at hf
      rcases List.mem_cons.mp hf with z | z
      · cases it with
        | str m => cases z
        | isi a c => cases z
        | fld k =>
          cases z
          have h1 : (((g.C.eL x.c).idxOf? k).bind fun i => x.fs[i]?) = some p := h1
          cases hx : (g.C.eL x.c).idxOf? k with
          | none => rw [hx] at h1; cases h1
          | some i =>
            obtain ⟨hlt, he, _⟩ := List.findIdx?_eq_some_iff_getElem.mp hx
            have ef : (g.C.eL x.c)[i] = k := by simpa using he
            rw [← ok.K]
            exact (co x.c).no k (by rw [← ef]; exact List.getElem_mem hlt)
      · exact its_no ok co h2 f z
    · cases h
theorem clause_go {c : ClD} {x : Exc'} {d : Option Addr} {D : Ends} {a : Addr} (ok : Ok X g) (co : ∀ c, ErrC g.C c) (hi : ∀ it ∈ c.its, ItR X g it) (S : Stt g F H σ env) (ed : ErrD g.C F x d H H') (ha : H' a = none) (go : GoS g F (clRun g.C.eL c x env) D) :
    tsOf X.K g.C c a (.ref (g.C.ea x.c)) d (lessE c.i D) (σ.set c.i (some (.ref a))) H' := by
  obtain ⟨vs, rs, hl, fl⟩ := ed
  unfold clRun at go
  split at go
  · rename_i ps hps
    split at go
    · rename_i hz
      have exC : ExcC X.K (g.C.ea x.c) := by rw [← ok.K]; exact (co x.c).exc
      refine ⟨_, rfl, exC, its_no ok co hps, ?_⟩
      obtain ⟨ws, w1, w2⟩ := its_ok ok co hl rs fl hi hps
      have slot : Hld (σ.set c.i (some (V.ref a))) c.i a := fun h => List.getElem?_set_self (by simpa using h)
      have wz : ws.length ≤ sizeLine := by rw [w2.length, sizeLine_eq]; omega
      have S2 : Stt g F H' (σ.set c.i (some (.ref a))) (env.set c.i .no) := (S.grow (FlyE.ex fl)).give c.i _
      have new : ∀ p, H' p = none → ∃ F3, Ex F F3 ∧ Stt g F3 (upd H' p (.tup ws)) (σ.set c.i (some (.ref a))) (env.set c.i .no) ∧ R g.C F3 (.tup ps) (.ref p) := fun p hp => by
        obtain ⟨n1, n2, n3⟩ := S2.new0 hp
        refine ⟨_, Ex.new n1, (S2.grow (Ex.new hp)).know n1 upd_same n2 (S2.not_own hp), ?_⟩
        unfold R
        exact ⟨p, ws, rfl, upd_same, w2.mono (Ex.new n1).le⟩
      cases hy : c.y with
      | some y =>
        rw [hy] at go
        refine ⟨slot, ws, w1, wz, fun p hp => ?_⟩
        obtain ⟨F3, x3, S3, r3⟩ := new p hp
        exact go F3 _ _ x3 ((S3.setFz (i := y) r3).give c.i none)
      | none =>
        rw [hy] at go
        refine ⟨slot, ws, w1, wz, fun p hp => ?_⟩
        obtain ⟨F3, x3, S3, r3⟩ := new p hp
        exact go F3 _ _ _ x3 S3 r3
    · exact go.elim
  · exact go.elim
end
end VL

set_option maxRecDepth 100000
set_option maxHeartbeats 2000000
namespace VL
open PySem PySem.Spec L2
open PyProof.Rows hiding St
/-! ### try .. except C1 as e: .. except C2 as e: .. -/
/-- the clauses as the rule sees them, and as values see them -/
inductive ClRel (X : Cx) (g : Gm) : List Cla → List ClD → Prop where
  | nil : ClRel X g [] []
  | cons {v : Value} {c : ClD} {ls : List Cla} {cs : List ClD} (ans : ∀ n b, c.ans n = some b → PySem.W.exmOne X.K (.ref (g.C.ea n)) v = some b) (its : ∀ it ∈ c.its, ItR X g it) (r : ClRel X g ls cs) : ClRel X g (⟨v, c.i, tsOf X.K g.C c⟩ :: ls) (c :: cs)
section
variable {X : Cx} {g : Gm} {F F' H H' : Hp} {σ : L2.St} {env : Env'} {D : Ends} {W : WX}
theorem cla_go {x : Exc'} {d : Option Addr} (ok : Ok X g) (co : ∀ c, ErrC g.C c) (hW : ∀ x e σ F H1 d H2, g.W x e σ F H1 → Stt g F H1 σ e → ErrD g.C F x d H1 H2 → W (.ref (g.C.ea x.c)) d σ H2) (S : Stt g F H σ env) (ed : ErrD g.C F x d H H') {ls : List Cla} {cs : List ClD} (r : ClRel X g ls cs)
    (go : GoS g F (clsRun g.C.eL cs x env) D) : wCla X.K W D ls (.ref (g.C.ea x.c)) d σ H' := by
  induction r with
  | nil => exact hW x env σ F H d H' (go F H σ (Ex.refl F) S) S ed
  | @cons v c ls cs ans its r ih =>
    unfold clsRun at go
    cases ha : c.ans x.c with
    | none => rw [ha] at go; exact go.elim
    | some b =>
      rw [ha] at go
      refine ⟨b, ans _ _ ha, ?_⟩
      cases b with
      | true =>
        rw [if_pos rfl]
        exact fun a ha => clause_go ok co its S ed ha go
      | false =>
        rw [if_neg Bool.false_ne_true]
        exact ih go
/-- THE RULE -/
theorem ss_try {body : List Stmt} {h₀ : ExceptHandler} {hds : List ExceptHandler} {ls : List Cla} {cs : List ClD} {pos : Pos} {d : Env' → Res Fl} {L : Nat → List Nat} (ok : Ok X g) (ex : ErX X g) (hL : g.C.eL = L) (co : ∀ c, ErrC g.C c) (hs : X.stack = X.env :: X.outer) (hf : X.env.frame = some X.env.locals) (hN : X.N.Nodup)
    (cl : ClaOk X (h₀ :: hds) ls) (rel : ClRel X g ls cs) (hb : ∀ (pn : List (Addr × Obj)) (xe : Value → Shared → Prop) (g' : Gm), g'.C = g.C → Ok (X.tr pn xe) g' → ErX (X.tr pn xe) g' → PSs (X.tr pn xe) body (tS g' d)) : PS X (.Try body (h₀ :: hds) [] [] pos) (tS g (dTry L d cs)) := by
  subst hL
  obtain ⟨W, tk, hW⟩ := ex
  obtain ⟨gT, egT⟩ : ∃ gT : WX → Gm, gT = fun W' => { g with W := fun x _ σ F H1 => ∀ d H2, ErrD g.C F x d H1 H2 → W' (.ref (g.C.ea x.c)) d σ H2 } := ⟨_, rfl⟩
  refine psImp (ps_tryAs (tb := fun W' => tS (gT W') d) hs hf hN tk cl fun W' pn xe tk' _ => ?_) fun D σ H ⟨F, env, S, go⟩ => ?_
  · subst egT
    exact hb pn xe _ rfl ⟨ok.K, ok.u, ok.calm⟩ ⟨W', tk', fun x e σ F H1 d H2 w S ed => w d H2 ed⟩
  · subst egT
    refine ⟨F, env, S.reW, ?_⟩
    unfold dTry at go
    cases q : d env with
    | bad => rw [q] at go; exact go.elim
    | err x e1 =>
      rw [q] at go
      exact fun F' H1 σ' x1 S1 d' H2 ed => cla_go ok co hW S1.unW ed rel (go.up x1)
    | ok f e1 =>
      rw [q] at go
      cases f with
      | nx => exact fun F' H' σ' x1 S1 => go F' H' σ' x1 S1.unW
      | bk => exact fun F' H' σ' x1 S1 => go F' H' σ' x1 S1.unW
      | ct => exact fun F' H' σ' x1 S1 => go F' H' σ' x1 S1.unW
      | rt y => exact fun F' H' σ' v x1 S1 rv => go F' H' σ' v x1 S1.unW (by cases y <;> exact rv)
end
end VL

set_option maxRecDepth 100000
set_option maxHeartbeats 2000000
namespace VL
open PySem PySem.Spec L2
open PyProof.Rows hiding St
/-! ### C(..), an own class whose __init__ may raise -/
def mkKX (c : Nat) (md : Md) (fn : List PV → FX) (xs : List Val) (e : Env') : Res Val := (prep md xs e).bind fun ps e2 => if (lentI md xs).Nodup then match fn (.ins c [] :: ps) with
  | .ok (.fz .non) (q :: outs) => (match putOuts (lentI md xs) outs e2 with
    | some e3 => .ok (.new q) e3
    | none => .bad)
  | .err x => .err x (noS (lentI md xs) e2)
  | _ => .bad else .bad
def dMkX (c : Nat) (md : Md) (fn : List PV → FX) (dps : List PV) (ds : List (Env' → Res Val)) : Env' → Res Val := fun e => (dArgs ds e).bind fun xs e1 => mkKX c md fn (xs ++ dps.map Val.fz) e1
section
variable {X : Cx} {g : Gm} {F H : Hp} {σ : St} {env : Env'} {md : Md} {fn : List PV → FX} {W : WX}
theorem make_goX {c : Nat} {xs : List Val} {vs : List V} {Q : VK} (hW : ∀ x e σ F H1 d H2, g.W x e σ F H1 → Stt g F H1 σ e → ErrD g.C F x d H1 H2 → W (.ref (g.C.ea x.c)) d σ H2) (o : AllOld xs) (S : Stt g F H σ env) (r : RVs g F H σ env xs vs)
    (go : Go g F σ (mkKX c md fn xs env) fun x env' F' H' => ∀ v, RV g F' H' σ env' x v → Q v H') {x dx : Addr} (hx : H x = none) (hdx : H dx = none) (hne : dx ≠ x) :
    SpVX g.C (true :: md) fn (.ref x :: vs) (upd (upd H dx (.own x)) x (.ins (g.C.ad c) dx [])) (fun v H2 => v = .non ∧ Q (.ref x) H2) (WE W σ) := by
  have ex : Ex H (upd (upd H dx (.own x)) x (.ins (g.C.ad c) dx [])) := (Ex.new hdx).trans (Ex.new (by rw [upd_ne (Ne.symm hne)]; exact hx))
  unfold mkKX at go
  cases hp : prep md xs env with
  | bad => rw [hp] at go; exact go.elim
  | err y e => exact (prep_noerr hp).elim
  | ok ps ee =>
    rw [hp] at go
    have go : Go g F σ (if (lentI md xs).Nodup then _ else _) _ := go
    split at go
    · rename_i nd
      obtain ⟨F1, x1, S1, a, hl, hw⟩ := prep_ok o S r hp
      have hl : lentV md vs = (lentI md xs).map (vAt σ) := hl
      have cellOf : ∀ i ∈ lentI md xs, ∃ ad, vAt σ i = .ref ad ∧ ∃ o, H ad = some o := fun i hi => by
        obtain ⟨b, q, ad, e1, e2, e3⟩ := isOw_at S1 (hw i hi)
        exact ⟨ad, by unfold vAt; rw [e2], e3.cell⟩
      have ndv : (lentV md vs).Nodup := by
        rw [hl]
        refine nodup_map (fun i hi j hj e => ?_) nd
        obtain ⟨b, q, ad, e1, e2, _⟩ := isOw_at S1 (hw i hi)
        obtain ⟨b', q', ad', f1, f2, _⟩ := isOw_at S1 (hw j hj)
        have h1 : vAt σ i = .ref ad := by unfold vAt; rw [e2]
        have h2 : vAt σ j = .ref ad' := by unfold vAt; rw [f2]
        rw [h1, h2] at e
        cases e
        exact S1.inj i j _ _ _ _ ad e1 f1 e2 f2
      have nx : V.ref x ∉ lentV md vs := fun z => by
        rw [hl] at z
        obtain ⟨i, hi, e⟩ := List.mem_map.mp z
        obtain ⟨ad, e1, o', e2⟩ := cellOf i hi
        rw [e1] at e
        cases e
        rw [hx] at e2
        cases e2
      obtain ⟨n1, n2, n3⟩ := S1.new0 hx
      have S2 := S1.grow ex
      have hlv : lentV (true :: md) (.ref x :: vs) = .ref x :: lentV md vs := rfl
      have hH : ∀ b, (upd (upd H dx (.own x)) x (.ins (g.C.ad c) dx [])) b = none → H b = none := fun b hb => by
        cases z : H b with
        | none => rfl
        | some o => rw [ex b o z] at hb; cases hb
      have off : ∀ {b : Addr} {o : HO}, H b = some o → V.ref b ∉ (lentI md xs).map (vAt σ) → V.ref b ∉ V.ref x :: (lentI md xs).map (vAt σ) := fun {b o} z n w => by
        rcases List.mem_cons.mp w with w | w
        · cases w
          rw [hx] at z
          cases z
        · exact n w
      refine ⟨F1, .ins c [] :: ps, S2.sub, S2.tab, ⟨_, _, _, _, rfl, rfl, ?_, a.grow ex⟩, by rw [hlv]; exact List.nodup_cons.mpr ⟨nx, ndv⟩, ?_⟩
      · rw [if_pos rfl]
        exact ⟨x, rfl, by simp only [R1]; exact ⟨dx, [], upd_same, rfl, Rs.nil⟩, n1⟩
      · rw [hlv, hl]
        split at go
        · rename_i q outs hf
          rw [hf]
          split at go
          · rename_i e3 hp3
            intro F' H' v x2 fr l tb keep oo rv
            obtain ⟨q', qr, ad, e1, e2, e3, e4, oo⟩ := oo
            cases e1
            cases e2
            have S3 := S1.after (F' := F') (H' := H') hw nd x2 (fun b o z => (fr b o z).imp id (hH b)) l tb (fun b o z n => keep b o (ex b o z) (off z n)) oo hp3
            have rv : v = .non := by
              have rv : R g.C F' .non v := rv
              unfold R at rv
              exact rv
            refine ⟨rv, go F' H' (x1.trans x2) S3 _ ⟨x, rfl, e3, e4, S1.sub_new hx, fun i b q hi hv => ?_⟩⟩
            have hb : ∃ b p, ee[i]? = some (.ow b p) := by
              obtain ⟨_, hat⟩ := putOuts_at hp3
              rcases hat i _ hi with ⟨_, z⟩ | ⟨_, b, p', q', z, _⟩
              · exact ⟨_, _, z⟩
              · exact ⟨_, _, z⟩
            obtain ⟨b', p', hb⟩ := hb
            obtain ⟨a2, f1, f2, _⟩ := S1.ow i b' p' hb
            rw [hv] at f1
            cases f1
            obtain ⟨o', ho'⟩ := f2.cell
            rw [hx] at ho'
            cases ho'
          · exact go.elim
        · rename_i y hf
          rw [hf]
          intro F' H1 d H2 x2 fr l tb keep live ed
          have S3 := S1.afterE hw x2 (fun b o z => (fr b o z).imp id (hH b)) l tb (fun b o z n => keep b o (ex b o z) (off z n)) fun b hb => live b (List.mem_cons_of_mem _ hb)
          exact hW y _ σ F' H1 d H2 (go F' H1 (x1.trans x2) S3) S3 ed
        · exact go.elim
    · exact go.elim
/-- such a class, by its name -/
structure MakX (P : Program) (w : World) (K : PySem.W.Frag) (mg : Str → Option Value) (base : Heap) (k : Nat) (x : Str) (C : Addr) (sp : Sp) (dvs : List V) : Prop where
  ex : ∃ (f : Addr) (fd : FuncData) (ps : List Str) (ds : List Value), Mk K C f ∧ FnOk P w K mg base (L2.CX P w) k f fd ps sp ∧ mg x = some (.ref C) ∧ Binds K fd ps ds ∧ Vals dvs ds
section
variable {k j : Nat} {x : Str} {dvs : List V} {dps : List PV} {p pos : Pos} {e : Expr} {es : List Expr} {ds : List (Env' → Res Val)} {f C : Addr} {fd : FuncData} {ps : List Str} {vds : List Value} {sp : Sp}
theorem run_makeX {pins : List (Addr × Obj)} {s : Shared} {Q : VK} {us : List Value} {vs : List V} (M : Mk X.K C f) (Fn : FnOk X.prog X.w X.K X.mg X.base (L2.CX X.prog X.w) k f fd ps sp) (hr : Room (k + 1) X.A) (hb : Binds X.K fd ps vds) (hd : Vals dvs vds) (tk : Takes X W) (I : Inv X pins σ H s) (r : Vals vs us)
    (h : ∀ x dx, H x = none → H dx = none → dx ≠ x → sp (.ref x :: (vs ++ dvs)) (upd (upd H dx (.own x)) x (.ins C dx [])) (fun v H2 => v = .non ∧ Q (.ref x) H2) (WE W σ)) : wpAny (model X.prog X.w) X.A (call (.ref C) us) (EP X pins σ Q) X.xe s := by
  obtain ⟨a, ea⟩ : ∃ a, a = s.heap.objs.size + 1 := ⟨_, rfl⟩
  have hq := h (s.heap.objs.size + 1) s.heap.objs.size (I.hok.fresh (Nat.le_succ _)) (I.hok.fresh (Nat.le_refl _)) (Nat.ne_of_lt (Nat.lt_succ_self _))
  have I2 := Inv.made (C := C) I
  have r2 : Vals (V.ref (s.heap.objs.size + 1) :: (vs ++ dvs)) (Value.ref (s.heap.objs.size + 1) :: (us ++ vds)) := .cons rfl (r.append hd)
  have hl : (Value.ref (s.heap.objs.size + 1) :: us ++ vds).length = ps.length := (r2.length.symm).trans (Fn.len _ _ _ _ hq)
  refine wpAny_call (make_map (f := f) I.kIn M.makes M.init (beq_iff_eq.mp M.fn) (codeAny_mono (Fn.run _ X.stack _ _ ⟨Value.ref (s.heap.objs.size + 1) :: us, []⟩ (Value.ref (s.heap.objs.size + 1) :: (us ++ vds)) _ _ (WE W σ) (hr.make C us []) (I2.env0.make C us [])
    (hb _ (Value.ref (s.heap.objs.size + 1) :: us) I2.kIn hl) r2 hq) fun r s' hq' => ?_))
  cases r with
  | error e => exact passAt tk σ pins _ _ e s' I2 hq'
  | ok fl =>
    cases fl with
    | ret u =>
      obtain ⟨v, H', I3, rv, ev, q3⟩ := I2.after hq'
      subst ev
      exact ⟨rv, ⟨V.ref (s.heap.objs.size + 1), H', I3, rfl, q3⟩⟩
    | next => exact False.elim hq'
    | brk => exact False.elim hq'
    | cont => exact False.elim hq'
/-- C(e, ..) -/
theorem se_mkX {c : Nat} (ex : ErX X g) (cm : MakX X.prog X.w X.K X.mg X.base k x (g.C.ad c) (SpVX g.C (true :: md) fn) dvs) (hr : Room j X.A) (hk : k + 1 ≤ j) (hg : Gl X x) (hd : ∀ F, Rs g.C F dps dvs) (ha : PA X (e :: es) (tAs g (dArgs ds))) (hdb : (x == ("__debug__" : Str)) = false)
    (he : starEach (e :: es) X.env = (false, eval e X.env) :: starEach es X.env) (hpl : (backTo pos (starEach es X.env)).any (·.1) = false) : PE X (.Call (.Name x p) (e :: es) [] pos) (tE g (dMkX c md fn dps ds)) := by
  obtain ⟨W, tk, hW⟩ := ex
  obtain ⟨f, fd, ps, vds, M, Fn, hm, b, d⟩ := cm.ex
  refine ⟨fun pins s σ H Q I ⟨F, env, S, go⟩ => ?_⟩
  refine wpAny_Call_Name_kw (ld_glob I hg hm ?_ hdb)
  refine PySem.W.callWith_K (h₀ := X.base) I.ok.mod.kin M.kp (thn (paGo ha pos I S go) fun us s1 ⟨vs, H1, I1, r, F1, e1, xs, x1, S1, o1, rv1, go1⟩ => ⟨I1.kIn, ?_⟩) he hpl
  exact run_makeX M Fn (hr.mono hk) b d tk I1 r fun y dy h1 h2 h3 => make_goX hW (AllOld.append o1 dps_old) S1 (RVs.append rv1 (dps_rvs hd)) go1 h1 h2 h3
end
end
end VL

set_option maxRecDepth 100000
set_option maxHeartbeats 2000000
namespace VL
open PySem PySem.Spec L2 LamX
open PyProof.Rows hiding St
/-! ### a def that calls what it got and gives back a tuple for each error: try: a() except C as e: return (..) .. / return None -/
/-- the clauses: the class that each names, its item list -/
def clas (K : PySem.W.Frag) (C : Ct) (cs : List (Value × ClD)) : List Cla := cs.map fun p => ⟨p.1, p.2.i, tsOf K C p.2⟩
/-- what an error of the call must find, Q at the tuple -/
def wMet (K : PySem.W.Frag) (C : Ct) (Q : VK) : List (Value × ClD) → XK
  | [] => fun _ _ _ => False
  | p :: r => fun cls d H => ∃ b, PySem.W.exmOne K cls p.1 = some b ∧ if b = true then ∃ D, cls = .ref D ∧ ExcC K D ∧ (∀ f, CIt.fld f ∈ p.2.its.map (CItD.it C) → PySem.W.findIn K (.ref D) f = some none) ∧
    ∃ vs, itVs K H D d (p.2.its.map (CItD.it C)) vs ∧ vs.length ≤ sizeLine ∧ ∀ q, H q = none → Q (.ref q) (upd H q (.tup vs)) else wMet K C Q r cls d H
theorem wMet_cla {K : PySem.W.Frag} {C : Ct} {D : Ends} {cls : Value} {d : Option Addr} {H : Hp} {σ : L2.St} : ∀ {cs : List (Value × ClD)}, (∀ p ∈ cs, p.2.y = none) → wMet K C D.rt cs cls d H → wCla K (fun _ _ _ _ => False) D (clas K C cs) cls d σ H
  | [], _, w => w
  | p :: r, hy, ⟨b, hb, w⟩ => by
    refine ⟨b, hb, ?_⟩
    cases b with
    | false =>
      rw [if_neg Bool.false_ne_true] at w ⊢
      exact wMet_cla (fun q hq => hy q (List.mem_cons_of_mem _ hq)) w
    | true =>
      rw [if_pos rfl] at w ⊢
      obtain ⟨D', e1, e2, e3, vs, w1, w2, w3⟩ := w
      intro a ha
      refine ⟨D', e1, e2, e3, ?_⟩
      rw [hy p (List.mem_cons_self ..)]
      exact ⟨fun h => List.getElem?_set_self (by simpa using h), vs, w1, w2, w3⟩
/-- the def's promise -/
def TTmet (K : PySem.W.Frag) (C : Ct) (cs : List (Value × ClD)) : (XK → Hp → VK → Prop) → Hp → VK → Prop := fun tl H Q => tl (wMet K C Q cs) H (fun _ H' => Q .non H')
theorem met_gives {X : Cx} {C : Ct} {cs : List (Value × ClD)} {Ng : List Str} {x a q : Str} {sg : Scope} {g : Addr} {cdg : Value} {h₀ : ExceptHandler} {hds : List ExceptHandler} {j : Nat} {p1 p2 p3 p4 p5 p6 : Pos} (hy : ∀ p ∈ cs, p.2.y = none) (hN : Ng.Nodup) (h0 : ∀ f : Addr, (L2.start Ng [V.ref f])[0]? = some (some (V.ref f)))
    (hcl : ∀ (s : Shared) (H : Hp), ClaOk (cxOf C8.CX0 X.prog X.w X.K X.mg X.base Ng x sg g cdg X.A X.stack s H C8.E0).nox (h₀ :: hds) (clas X.K C cs)) (hsg : sg.kind = .function) :
    GivesTo X Ng x sg g cdg [.Try [.Expr (.Call (.Name a p1) [] [] p2) p3] (h₀ :: hds) [] [] p4, .Return (some (.Constant .none j p5)) p6] a q (TTmet X.K C cs) := by
  intro f c' s H Q tl act hc h
  refine ⟨_, pss_cons (ps_tryAs (X := (cxOf C8.CX0 X.prog X.w X.K X.mg X.base Ng x sg g cdg X.A X.stack s H C8.E0).nox) (ls := clas X.K C cs)
      (tb := fun W D σ H => ∃ Ech : XK, (∀ cls d σ' H', Ech cls d H' → W cls d σ' H') ∧ σ[0]? = some (some (.ref f)) ∧ H c' = some (CodeO c' q) ∧ tl Ech H (fun _ H' => D.nx σ H')) rfl rfl hN takes0 (hcl s H) fun W pn xe tk _ => ?_) (pss_one (ps_ret pe_non)), ?_⟩
  · refine ⟨fun pins s' σ H' D I h' => ?_⟩
    obtain ⟨Ech, hW, h1, h2, h3⟩ := h'
    have hp := act W pn xe Ech p1 p2 tk hW
    exact (pss_one (ps_expr (pos := p3) hp)).run pins s' σ H' D I ⟨h1, h2, h3⟩
  · exact ⟨wMet X.K C Q cs, fun cls d σ' H' w => wMet_cla hy w, h0 f, hc, h⟩
end VL

set_option maxRecDepth 100000
set_option maxHeartbeats 2000000
namespace VL
open PySem PySem.Spec L2 LamX
open PyProof.Rows hiding St
/-! ### x(lambda: body), x a def that calls it and gives back a tuple for each error -/
def tLamK (T : List (Addr × Str)) (TT : (XK → Hp → VK → Prop) → Hp → VK → Prop) (t : XK → TE) : TE := fun σ H Q => Tabs T H ∧ ∀ H1, KptN H H1 → Tabs T H1 → TT (fun E H' Q' => t E σ H' Q') H1 Q
section
variable {X : Cx}
/-- (LamX.pe_lamcall's way; here the tables are known to stay or to grow) -/
theorem pe_lamcallK {T : List (Addr × Str)} {TT : (XK → Hp → VK → Prop) → Hp → VK → Prop} {x a : Str} {g c P : Addr} {k : Nat} {pg : Arguments} {bg : List Stmt} {sg : Scope} {dV kV doc pm cdv ct oc : Value} {an od : Option Addr} {osl : Array (Option Value)} {Ng : List Str} {params : Arguments} {body : Expr} {scope : Scope} {t : XK → TE} {p lpos pos : Pos}
    (hg : Gl X x) (hm : X.mg x = some (.ref g)) (hk : PySem.W.keepIn X.K (.ref g) = true) (lk : X.K.lookup g = some ⟨oc, od, .func (PySem.W.fnOf x x pg bg sg dV kV doc pm an cdv ct), osl⟩) (hcg : PySem.W.codeIn X.K cdv x = true) (hb : L2.Binds X.K (PySem.W.fnOf x x pg bg sg dV kV doc pm an cdv ct) [a] [])
    (Sg : FnScope Ng [a] sg) (hNg : Ng[0]? = some a) (hva : Vis sg a) (hG : GivesTo X Ng x sg g cdv bg a (X.env.qual ++ "<lambda>") TT) (TB : TabB X.base X.mg c P) (hcode : X.env.code = .ref c) (hmT : (P, X.env.qual ++ "<lambda>") ∈ T) (hu : ∀ p ∈ T, p.1 = P → p.2 = X.env.qual ++ "<lambda>") (hr : Room (k + 2) X.A)
    (L : LamS X.env.scope scope) (hdef : defaultsOf params X.env = ([], [])) (hbind : ∀ (q : Str) (cl : List (Str × Addr)) (pm cv ctv : Value), bindArgs (PySem.W.kla_fn "<lambda>" q params body scope cl pm cv ctv) ⟨[], []⟩ = pure [])
    (hbody : ∀ (A : Around) (outer : List Env) (s : Shared) (H : Hp) (E : XK) (f c' : Addr), Room k (A.deeper (lamEnv X scope s.heap.objs.size f c')) → PE (lamCx X A outer s H E scope f c') body (t E)) (hdb : (x == ("__debug__" : Str)) = false) (hd : (a == ("__debug__" : Str)) = false) (hcd : (a == ("__classdict__" : Str)) = false) :
    PE X (.Call (.Name x p) [.Lambda params body scope lpos] [] pos) (tLamK T TT t) := by
  constructor
  rintro pins s σ H Q I ⟨hT, h⟩
  refine wpAny_Call_Name_kw (ld_glob I hg hm (PySem.W.callWith_K (h₀ := X.base) I.ok.mod.kin hk ?_ (by rfl) (by rfl)) hdb)
  show wpAny _ _ (spliced ((false, eval (.Lambda params body scope lpos) X.env) :: backTo pos (starEach [] X.env))) _ _ s
  refine Calls.spliced_cons (lam_make3 I TB hcode hmT hu hT hdef (L.has I.ok) fun f c' pm' ctv H1 s1 I1 kept T1 hf hfn hfr hco => Calls.spliced_nil ⟨I1.kIn, ?_⟩)
  refine wpAny_call (codeAny_mono (run_ofS (N := Ng) (ps := [a]) (us := [.ref f]) (vs := [.ref f]) (CX := C8.CX0) (E := C8.E0) (Q := Q) lk hcg Sg hr I1.env0 (hb s1 [.ref f] I1.kIn rfl) (.cons rfl .nil) rfl fun hr1 => ?_) fun r s2 hq => ?_)
  · obtain ⟨t1, h1, h2⟩ := hG f c' s1 H1 Q (fun E H' Q' => t E σ H' Q') (fun W pn xe E p1 p2 tk hW => pe_act (i := 0) I1 L hf hfn hfr (hbind _ _ _ _ _) tk hW hr1 (fun A outer s H hr2 => hbody A outer s H E f c' hr2) hNg hva hd hcd) hco (h H1 kept T1)
    exact ⟨t1, h1.nox, h2⟩
  · cases r with
    | error e => exact (show False from hq).elim
    | ok fl =>
      cases fl with
      | ret u => exact I1.after hq
      | next => exact False.elim hq
      | brk => exact False.elim hq
      | cont => exact False.elim hq
end
/-! ### over values -/
def metRun (L : Nat → List Nat) : List ClD → Exc' → Env' → Res Val
  | [], _, _ => .bad
  | c :: cs, x, e => match c.ans x.c with
    | some true => (match itPs L x c.its with
      | some ps => if ps.length ≤ 100 then .ok (.fz (.tup ps)) e else .bad
      | none => .bad)
    | some false => metRun L cs x e
    | none => .bad
def dMet (L : Nat → List Nat) (cs : List ClD) (db : Env' → Res Val) : Env' → Res Val := fun e => match db e with
  | .ok _ e1 => .ok (.fz .non) e1
  | .err x e1 => metRun L cs x e1
  | .bad => .bad
/-- g for the lambda's body: an error finds E -/
def lamG (g : Gm) (E : XK) : Gm := { g with W := fun x _ _ F H1 => ∀ d H2, ErrD g.C F x d H1 H2 → E (.ref (g.C.ea x.c)) d H2 }
section
variable {X : Cx} {g : Gm} {F F' H H' : Hp} {σ : L2.St} {env : Env'}
theorem met_go {x : Exc'} {d : Option Addr} {Q : VK} (ok : Ok X g) (co : ∀ c, ErrC g.C c) (S : Stt g F H σ env) (ed : ErrD g.C F x d H H') : ∀ {cs : List (Value × ClD)}, (∀ p ∈ cs, (∀ n b, p.2.ans n = some b → PySem.W.exmOne X.K (.ref (g.C.ea n)) p.1 = some b) ∧ ∀ it ∈ p.2.its, ItR X g it) →
    Go g F σ (metRun g.C.eL (cs.map Prod.snd) x env) (fun x env' F' H' => ∀ v, RV g F' H' σ env' x v → Q v H') → wMet X.K g.C Q cs (.ref (g.C.ea x.c)) d H'
  | [], _, go => go.elim
  | p :: cs, hc, go => by
    rw [List.map_cons] at go
    unfold metRun at go
    obtain ⟨ans, its⟩ := hc p (List.mem_cons_self ..)
    cases ha : p.2.ans x.c with
    | none => rw [ha] at go; exact go.elim
    | some b =>
      rw [ha] at go
      refine ⟨b, ans _ _ ha, ?_⟩
      cases b with
      | false =>
        rw [if_neg Bool.false_ne_true]
        exact met_go ok co S ed (fun q hq => hc q (List.mem_cons_of_mem _ hq)) go
      | true =>
        rw [if_pos rfl]
        dsimp only at go
        split at go
        · rename_i ps hps
          split at go
          · rename_i hz
            obtain ⟨vs, rs, hl, fl⟩ := ed
            obtain ⟨ws, w1, w2⟩ := its_ok ok co hl rs fl its hps
            refine ⟨_, rfl, by rw [← ok.K]; exact (co x.c).exc, its_no ok co hps, ws, w1, by rw [w2.length, sizeLine_eq]; omega, fun q hq => ?_⟩
            have S2 := S.grow (FlyE.ex fl)
            obtain ⟨n1, n2, n3⟩ := S2.new0 hq
            refine go _ _ (Ex.new n1) ((S2.grow (Ex.new hq)).know n1 upd_same n2 (S2.not_own hq)) _ ?_
            show R g.C _ (.tup ps) (.ref q)
            unfold R
            exact ⟨q, ws, rfl, upd_same, w2.mono (Ex.new n1).le⟩
          · exact go.elim
        · exact go.elim
/-- the readings of the lambda's call -/
theorem met_lam {Q : VK} {db : Env' → Res Val} {cs : List (Value × ClD)} (ok : Ok X g) (co : ∀ c, ErrC g.C c) (hc : ∀ p ∈ cs, (∀ n b, p.2.ans n = some b → PySem.W.exmOne X.K (.ref (g.C.ea n)) p.1 = some b) ∧ ∀ it ∈ p.2.its, ItR X g it)
    (h : tE g (dMet g.C.eL (cs.map Prod.snd) db) σ H Q) : tLamK g.C.T (TTmet X.K g.C cs) (fun E => tE (lamG g E) db) σ H Q := by
  obtain ⟨F, env, S, go⟩ := h
  refine ⟨S.tab, fun H1 kp T1 => ?_⟩
  refine ⟨F, env, (S.lam kp T1).reW, ?_⟩
  unfold dMet at go
  cases q : db env with
  | bad => rw [q] at go; exact go.elim
  | ok y e1 =>
    rw [q] at go
    exact fun F' H' x1 S1 v rv => go F' H' x1 S1.unW .non (by show R _ _ _ _; unfold R; rfl)
  | err x e1 =>
    rw [q] at go
    exact fun F' H' x1 S1 d H2 ed => met_go ok co S1.unW ed hc (go.up x1)
/-- an error may leave the lambda's body as lamG tells -/
theorem er_lam {A : Around} {outer : List Env} {s : Shared} {E : XK} {scope : Scope} {f c' : Addr} : ErX (lamCx X A outer s H E scope f c') (lamG g E) := ⟨fun cls d _ H => E cls d H, takes_of rfl rfl rfl rfl, fun x e σ F H1 d H2 w S ed => w d H2 ed⟩
/-- x(lambda: body) -/
theorem se_met {x a : Str} {gf c P : Addr} {k : Nat} {pg : Arguments} {sg : Scope} {dV kV doc pm cdv ct oc : Value} {an od : Option Addr} {osl : Array (Option Value)} {Ng : List Str} {params : Arguments} {body : Expr} {scope : Scope} {p lpos pos : Pos} {h₀ : ExceptHandler} {hds' : List ExceptHandler} {j : Nat} {p1 p2 p3 p4 p5 p6 : Pos}
    {cs : List (Value × ClD)} {db : Env' → Res Val} {L : Nat → List Nat} {ds : List ClD} (ok : Ok X g) (co : ∀ c, ErrC g.C c) (hL : g.C.eL = L) (hds : cs.map Prod.snd = ds) (hc : ∀ p ∈ cs, (∀ n b, p.2.ans n = some b → PySem.W.exmOne X.K (.ref (g.C.ea n)) p.1 = some b) ∧ ∀ it ∈ p.2.its, ItR X g it) (hy : ∀ p ∈ cs, p.2.y = none)
    (hg : Gl X x) (hm : X.mg x = some (.ref gf)) (hk : PySem.W.keepIn X.K (.ref gf) = true)
    (lk : X.K.lookup gf = some ⟨oc, od, .func (PySem.W.fnOf x x pg [.Try [.Expr (.Call (.Name a p1) [] [] p2) p3] (h₀ :: hds') [] [] p4, .Return (some (.Constant .none j p5)) p6] sg dV kV doc pm an cdv ct), osl⟩) (hcg : PySem.W.codeIn X.K cdv x = true)
    (hb : L2.Binds X.K (PySem.W.fnOf x x pg [.Try [.Expr (.Call (.Name a p1) [] [] p2) p3] (h₀ :: hds') [] [] p4, .Return (some (.Constant .none j p5)) p6] sg dV kV doc pm an cdv ct) [a] []) (Sg : FnScope Ng [a] sg) (hNg : Ng[0]? = some a) (hva : Vis sg a)
    (hcl : ∀ (s : Shared) (H : Hp), ClaOk (cxOf C8.CX0 X.prog X.w X.K X.mg X.base Ng x sg gf cdv X.A X.stack s H C8.E0).nox (h₀ :: hds') (clas X.K g.C cs)) (h0 : ∀ f : Addr, (L2.start Ng [V.ref f])[0]? = some (some (V.ref f)))
    (TB : TabB X.base X.mg c P) (hcode : X.env.code = .ref c) (hmT : (P, X.env.qual ++ "<lambda>") ∈ g.C.T) (hu : ∀ p ∈ g.C.T, p.1 = P → p.2 = X.env.qual ++ "<lambda>") (hr : Room (k + 2) X.A) (Ls : LamS X.env.scope scope) (hdef : defaultsOf params X.env = ([], []))
    (hbind : ∀ (q : Str) (cl : List (Str × Addr)) (pm cv ctv : Value), bindArgs (PySem.W.kla_fn "<lambda>" q params body scope cl pm cv ctv) ⟨[], []⟩ = pure [])
    (hbody : ∀ (A : Around) (outer : List Env) (s : Shared) (H : Hp) (E : XK) (f c' : Addr), Room k (A.deeper (lamEnv X scope s.heap.objs.size f c')) → ErX (lamCx X A outer s H E scope f c') (lamG g E) → PE (lamCx X A outer s H E scope f c') body (tE (lamG g E) db))
    (hdb : (x == ("__debug__" : Str)) = false) (hd : (a == ("__debug__" : Str)) = false) (hcd : (a == ("__classdict__" : Str)) = false) : PE X (.Call (.Name x p) [.Lambda params body scope lpos] [] pos) (tE g (dMet L ds db)) := by
  subst hL hds
  exact peImp (pe_lamcallK (TT := TTmet X.K g.C cs) (t := fun E => tE (lamG g E) db) hg hm hk lk hcg hb Sg hNg hva (met_gives hy Sg.nd h0 hcl Sg.kind) TB hcode hmT hu hr Ls hdef hbind (fun A outer s H E f c' hr' => hbody A outer s H E f c' hr' er_lam) hdb hd hcd) fun σ H Q h => met_lam ok co hc h
end
end VL

set_option maxRecDepth 100000
set_option maxHeartbeats 2000000
namespace VL
open PySem PySem.Spec L2 LamX
open PyProof.Rows hiding St
/-! ### the other shape: told = () / try: a() except C as e: told = (..) .. / return told -/
def Holds (σ : L2.St) (y : Nat) (v : V) : Prop := y < σ.length → σ[y]? = some (some v)
def tVarL (y : Nat) : TE := fun σ H Q => ∃ v, Holds σ y v ∧ Q v H
theorem pe_varL {X : Cx} {y : Nat} {m : Str} {p : Pos} (hy : X.N[y]? = some m) (hv : Vis X.env.scope m) (d0 : (m == ("__debug__" : Str)) = false) (d1 : (m == ("__classdict__" : Str)) = false) : PE X (.Name m p) (tVarL y) :=
  peN (pe_var hy hv d0 d1) fun σ H Q hl ⟨v, h, q⟩ => ⟨v, h (by rw [hl]; exact (List.getElem?_eq_some_iff.mp hy).1), q⟩
theorem peMono {X : Cx} {e : Expr} {t : TE} (h : PE X e t) : PE X e (fun σ H Q => ∃ Q2 : VK, (∀ v H', Q2 v H' → Q v H') ∧ t σ H Q2) :=
  ⟨fun pins s σ H Q I ⟨Q2, k, q⟩ => thn (h.run pins s σ H Q2 I q) fun u s' ⟨v, H', I', r, z⟩ => ⟨v, H', I', r, k v H' z⟩⟩
theorem wMet_claA {K : PySem.W.Frag} {C : Ct} {D : Ends} {Q : VK} {cls : Value} {d : Option Addr} {H : Hp} {σ : L2.St} {y : Nat} (hD : ∀ σ' H', (∃ v, Holds σ' y v ∧ Q v H') → D.nx σ' H') : ∀ {cs : List (Value × ClD)}, (∀ p ∈ cs, p.2.y = some y ∧ p.2.i ≠ y) → wMet K C Q cs cls d H →
    wCla K (fun _ _ _ _ => False) D (clas K C cs) cls d σ H
  | [], _, w => w
  | p :: r, hy, ⟨b, hb, w⟩ => by
    refine ⟨b, hb, ?_⟩
    cases b with
    | false =>
      rw [if_neg Bool.false_ne_true] at w ⊢
      exact wMet_claA hD (fun q hq => hy q (List.mem_cons_of_mem _ hq)) w
    | true =>
      rw [if_pos rfl] at w ⊢
      obtain ⟨D', e1, e2, e3, vs, w1, w2, w3⟩ := w
      obtain ⟨y1, y2⟩ := hy p (List.mem_cons_self ..)
      intro a ha
      refine ⟨D', e1, e2, e3, ?_⟩
      rw [y1]
      refine ⟨fun h => List.getElem?_set_self (by simpa using h), vs, w1, w2, fun q hq => hD _ _ ⟨.ref q, fun h => ?_, w3 q hq⟩⟩
      rw [List.getElem?_set_ne y2]
      exact List.getElem?_set_self (by simpa using h)
def TTref (K : PySem.W.Frag) (C : Ct) (cs : List (Value × ClD)) : (XK → Hp → VK → Prop) → Hp → VK → Prop := fun tl H Q => ∀ p, H p = none → tl (wMet K C Q cs) (upd H p (.tup [])) (fun _ H' => Q (.ref p) H')
theorem ref_gives {X : Cx} {C : Ct} {cs : List (Value × ClD)} {Ng : List Str} {x a q told : Str} {y : Nat} {sg : Scope} {g : Addr} {cdg : Value} {h₀ : ExceptHandler} {hds : List ExceptHandler} {x1 : Nat} {p1 p2 p3 p4 p5 p6 p7 p8 p9 : Pos} (hy : ∀ p ∈ cs, p.2.y = some y ∧ p.2.i ≠ y) (hN : Ng.Nodup) (hNy : Ng[y]? = some told) (y0 : y ≠ 0)
    (hlt : sg.names.lookup told = some .local) (d0 : (told == ("__debug__" : Str)) = false) (d1 : (told == ("__classdict__" : Str)) = false) (h0 : ∀ f : Addr, (L2.start Ng [V.ref f])[0]? = some (some (V.ref f))) (hl : ∀ f : Addr, (L2.start Ng [V.ref f]).length = Ng.length)
    (hcl : ∀ (s : Shared) (H : Hp), ClaOk (cxOf C8.CX0 X.prog X.w X.K X.mg X.base Ng x sg g cdg X.A X.stack s H C8.E0).nox (h₀ :: hds) (clas X.K C cs)) :
    GivesTo X Ng x sg g cdg [.Assign [.Name told p7] (.Tuple [] x1 p8) p9, .Try [.Expr (.Call (.Name a p1) [] [] p2) p3] (h₀ :: hds) [] [] p4, .Return (some (.Name told p5)) p6] a q (TTref X.K C cs) := by
  intro f c' s H Q tl act hc h
  refine ⟨_, pss_cons (ps_set (X := (cxOf C8.CX0 X.prog X.w X.K X.mg X.base Ng x sg g cdg X.A X.stack s H C8.E0).nox) hN hNy (.inl hlt) (pe_tup pa_nil) (by rfl) (.inr hlt)) (pss_cons (ps_tryAs (X := (cxOf C8.CX0 X.prog X.w X.K X.mg X.base Ng x sg g cdg X.A X.stack s H C8.E0).nox) (ls := clas X.K C cs)
      (tb := fun W D σ H => ∃ Ech : XK, (∀ cls d σ' H', Ech cls d H' → W cls d σ' H') ∧ σ[0]? = some (some (.ref f)) ∧ H c' = some (CodeO c' q) ∧ ∃ Q2 : VK, (∀ v H', Q2 v H' → D.nx σ H') ∧ tl Ech H Q2) rfl rfl hN takes0 (hcl s H) fun W pn xe tk _ => ?_)
      (pss_one (ps_ret (pe_varL (X := (cxOf C8.CX0 X.prog X.w X.K X.mg X.base Ng x sg g cdg X.A X.stack s H C8.E0).nox) hNy (.inl hlt) d0 d1)))), ?_⟩
  · refine ⟨fun pins s' σ H' D I h' => ?_⟩
    obtain ⟨Ech, hW, h1, h2, Q2, h4, h3⟩ := h'
    have hp := act W pn xe Ech p1 p2 tk hW
    exact (pss_one (ps_expr (pos := p3) (peMono hp))).run pins s' σ H' D I ⟨Q2, h4, h1, h2, h3⟩
  · refine ⟨by show 0 ≤ sizeLine; exact Nat.zero_le _, fun p hp => ?_⟩
    refine ⟨wMet X.K C Q cs, fun cls d σ' H' w => wMet_claA (fun σ2 H2 z => z) hy w, ?_, ?_, ?_⟩
    · rw [List.getElem?_set_ne y0]
      exact h0 f
    · rw [upd_ne (ne_of_none hc hp)]
      exact hc
    · have hset : Holds ((L2.start Ng [V.ref f]).set y (some (V.ref p))) y (.ref p) := fun h => List.getElem?_set_self (by simpa using h)
      exact ⟨_, fun v H' z => ⟨.ref p, hset, z⟩, h p hp⟩
/-! ### over values -/
def dRef (L : Nat → List Nat) (cs : List ClD) (db : Env' → Res Val) : Env' → Res Val := fun e => match db e with
  | .ok _ e1 => .ok (.fz (.tup [])) e1
  | .err x e1 => metRun L cs x e1
  | .bad => .bad
section
variable {X : Cx} {g : Gm} {F F' H H' : Hp} {σ : L2.St} {env : Env'}
theorem ref_lam {Q : VK} {db : Env' → Res Val} {cs : List (Value × ClD)} (ok : Ok X g) (co : ∀ c, ErrC g.C c) (hc : ∀ p ∈ cs, (∀ n b, p.2.ans n = some b → PySem.W.exmOne X.K (.ref (g.C.ea n)) p.1 = some b) ∧ ∀ it ∈ p.2.its, ItR X g it)
    (h : tE g (dRef g.C.eL (cs.map Prod.snd) db) σ H Q) : tLamK g.C.T (TTref X.K g.C cs) (fun E => tE (lamG g E) db) σ H Q := by
  obtain ⟨F, env, S, go⟩ := h
  refine ⟨S.tab, fun H1 kp T1 p hp => ?_⟩
  have S0 := S.lam kp T1
  obtain ⟨n1, n2, n3⟩ := S0.new0 hp
  have S1 : Stt g (upd F p (.tup [])) (upd H1 p (.tup [])) σ env := (S0.grow (Ex.new hp)).know n1 upd_same n2 (S0.not_own hp)
  refine ⟨upd F p (.tup []), env, S1.reW, ?_⟩
  unfold dRef at go
  cases q : db env with
  | bad => rw [q] at go; exact go.elim
  | ok y e1 =>
    rw [q] at go
    refine fun F' H' x1 S2 v rv => go F' H' ((Ex.new n1).trans x1) S2.unW (.ref p) ?_
    show R g.C F' (.tup []) (.ref p)
    unfold R
    exact ⟨p, [], rfl, x1 _ _ upd_same, Rs.nil⟩
  | err x e1 =>
    rw [q] at go
    exact fun F' H' x1 S2 d H2 ed => met_go ok co S2.unW ed hc (go.up ((Ex.new n1).trans x1))
/-- x(lambda: body) -/
theorem se_ref {x a told : Str} {gf c P : Addr} {k y : Nat} {pg : Arguments} {sg : Scope} {dV kV doc pm cdv ct oc : Value} {an od : Option Addr} {osl : Array (Option Value)} {Ng : List Str} {params : Arguments} {body : Expr} {scope : Scope} {p lpos pos : Pos} {h₀ : ExceptHandler} {hds' : List ExceptHandler} {x1 : Nat} {p1 p2 p3 p4 p5 p6 p7 p8 p9 : Pos}
    {cs : List (Value × ClD)} {db : Env' → Res Val} {L : Nat → List Nat} {ds : List ClD} (ok : Ok X g) (co : ∀ c, ErrC g.C c) (hL : g.C.eL = L) (hds : cs.map Prod.snd = ds) (hc : ∀ p ∈ cs, (∀ n b, p.2.ans n = some b → PySem.W.exmOne X.K (.ref (g.C.ea n)) p.1 = some b) ∧ ∀ it ∈ p.2.its, ItR X g it) (hy : ∀ p ∈ cs, p.2.y = some y ∧ p.2.i ≠ y)
    (hg : Gl X x) (hm : X.mg x = some (.ref gf)) (hk : PySem.W.keepIn X.K (.ref gf) = true) (hNy : Ng[y]? = some told) (y0 : y ≠ 0) (hlt : sg.names.lookup told = some .local) (d0 : (told == ("__debug__" : Str)) = false) (d1 : (told == ("__classdict__" : Str)) = false)
    (lk : X.K.lookup gf = some ⟨oc, od, .func (PySem.W.fnOf x x pg [.Assign [.Name told p7] (.Tuple [] x1 p8) p9, .Try [.Expr (.Call (.Name a p1) [] [] p2) p3] (h₀ :: hds') [] [] p4, .Return (some (.Name told p5)) p6] sg dV kV doc pm an cdv ct), osl⟩) (hcg : PySem.W.codeIn X.K cdv x = true)
    (hb : L2.Binds X.K (PySem.W.fnOf x x pg [.Assign [.Name told p7] (.Tuple [] x1 p8) p9, .Try [.Expr (.Call (.Name a p1) [] [] p2) p3] (h₀ :: hds') [] [] p4, .Return (some (.Name told p5)) p6] sg dV kV doc pm an cdv ct) [a] []) (Sg : FnScope Ng [a] sg) (hNg : Ng[0]? = some a) (hva : Vis sg a)
    (hcl : ∀ (s : Shared) (H : Hp), ClaOk (cxOf C8.CX0 X.prog X.w X.K X.mg X.base Ng x sg gf cdv X.A X.stack s H C8.E0).nox (h₀ :: hds') (clas X.K g.C cs)) (h0 : ∀ f : Addr, (L2.start Ng [V.ref f])[0]? = some (some (V.ref f))) (hl : ∀ f : Addr, (L2.start Ng [V.ref f]).length = Ng.length)
    (TB : TabB X.base X.mg c P) (hcode : X.env.code = .ref c) (hmT : (P, X.env.qual ++ "<lambda>") ∈ g.C.T) (hu : ∀ p ∈ g.C.T, p.1 = P → p.2 = X.env.qual ++ "<lambda>") (hr : Room (k + 2) X.A) (Ls : LamS X.env.scope scope) (hdef : defaultsOf params X.env = ([], []))
    (hbind : ∀ (q : Str) (cl : List (Str × Addr)) (pm cv ctv : Value), bindArgs (PySem.W.kla_fn "<lambda>" q params body scope cl pm cv ctv) ⟨[], []⟩ = pure [])
    (hbody : ∀ (A : Around) (outer : List Env) (s : Shared) (H : Hp) (E : XK) (f c' : Addr), Room k (A.deeper (lamEnv X scope s.heap.objs.size f c')) → ErX (lamCx X A outer s H E scope f c') (lamG g E) → PE (lamCx X A outer s H E scope f c') body (tE (lamG g E) db))
    (hdb : (x == ("__debug__" : Str)) = false) (hd : (a == ("__debug__" : Str)) = false) (hcd : (a == ("__classdict__" : Str)) = false) : PE X (.Call (.Name x p) [.Lambda params body scope lpos] [] pos) (tE g (dRef L ds db)) := by
  subst hL hds
  exact peImp (pe_lamcallK (TT := TTref X.K g.C cs) (t := fun E => tE (lamG g E) db) hg hm hk lk hcg hb Sg hNg hva (ref_gives hy Sg.nd hNy y0 hlt d0 d1 h0 hl hcl) TB hcode hmT hu hr Ls hdef hbind (fun A outer s H E f c' hr' => hbody A outer s H E f c' hr' er_lam) hdb hd hcd) fun σ H Q h => ref_lam ok co hc h
end
end VL

set_option maxRecDepth 100000
set_option maxHeartbeats 2000000
namespace VL
open PySem PySem.Spec L2
open PyProof.Rows hiding St
/-! ### < of two pairs of numbers -/
def semLtP : PV → PV → Option Val
  | .tup [.int a, .int b], .tup [.int c, .int d] => some (.fz (.bl (if a = c then decide (b < d) else decide (a < c))))
  | _, _ => none
theorem semLtP_inv {p q : PV} {x : Val} (h : semLtP p q = some x) : ∃ a b c d : Int, p = .tup [.int a, .int b] ∧ q = .tup [.int c, .int d] ∧ x = .fz (.bl (if a = c then decide (b < d) else decide (a < c))) := by
  unfold semLtP at h
  split at h
  · cases h; exact ⟨_, _, _, _, rfl, rfl, rfl⟩
  · cases h
section
variable {X : Cx} {g : Gm} {F H : Hp}
theorem rt_pair {C : Ct} {a b : Int} {v : V} (h : Rt C F H (.tup [.int a, .int b]) v) : ∃ ad, v = .ref ad ∧ H ad = some (.tup [.int a, .int b]) := by
  obtain ⟨ad, vs, rfl, h1, h2, _⟩ := h
  obtain rfl : vs = [a, b].map V.int := Rs.ints_of (ns := [a, b]) h2
  exact ⟨ad, rfl, h1⟩
theorem two_at {its : List Value} {a b : Int} (h : Vals [V.int a, V.int b] its) : ∃ t u, its = [.int a t, .int b u] := by
  cases h with
  | cons h1 h2 =>
    cases h2 with
    | cons h3 h4 =>
      cases h4
      obtain ⟨t, rfl⟩ := h1
      obtain ⟨u, rfl⟩ := h3
      exact ⟨t, u, rfl⟩
theorem int_eqv (a b : Int) : (a == b) = decide (a = b) := by
  by_cases h : a = b
  · rw [decide_eq_true h, h]; exact beq_self_eq_true b
  · rw [decide_eq_false h]; exact beq_eq_false_iff_ne.mpr h
theorem o_ltP (ok : Ok X g) : Op2 X g (compareOp .Lt) semLtP := by
  intro pins s σ F H env p q v u vv uu r Q I S r1 r2 t1 t2 e k
  obtain ⟨a, b, c, d, rfl, rfl, rfl⟩ := semLtP_inv e
  obtain ⟨x, rfl, hx⟩ := rt_pair t1
  obtain ⟨y, rfl, hy⟩ := rt_pair t2
  cases r1; cases r2
  obtain ⟨its, v1, p1, _⟩ := I.tuple (SqT.of hx)
  obtain ⟨its2, v2, p2, _⟩ := I.tuple (SqT.of hy)
  obtain ⟨ta, tb, rfl⟩ := two_at v1
  obtain ⟨tc, td, rfl⟩ := two_at v2
  have R := Ob.RcOp.tuples_lt (A := X.A) (s := s) (e := fun j => if j = 0 then decide (a = c) else decide (b = d)) (r := fun j => if j = 0 then decide (a < c) else decide (b < d)) p1 p2 (by have := ok.u1; omega)
    (fun j h1 h2 => by
      match j, h1, h2 with
      | 0, _, _ => show SeqAt.EqAt X.A.in1 s (.int a ta) (.int c tc) (decide (a = c)); rw [← int_eqv]; exact SeqAt.EqAt.int_int _ _ _ _
      | 1, _, _ => show SeqAt.EqAt X.A.in1 s (.int b tb) (.int d td) (decide (b = d)); rw [← int_eqv]; exact SeqAt.EqAt.int_int _ _ _ _
      | n + 2, h, _ => exact absurd h (by simp))
    (fun j h1 h2 _ => by
      match j, h1, h2 with
      | 0, _, _ => exact Ob.RcOp.lt_int _ _ _ _
      | 1, _, _ => exact Ob.RcOp.lt_int _ _ _ _
      | n + 2, h, _ => exact absurd h (by simp))
  have hb : Ob.lexAt (fun j => if j = 0 then decide (a = c) else decide (b = d)) (fun j => if j = 0 then decide (a < c) else decide (b < d)) (decide ([Value.int a ta, .int b tb].toArray.size < [Value.int c tc, .int d td].toArray.size)) 0 (min [Value.int a ta, .int b tb].toArray.size [Value.int c tc, .int d td].toArray.size)
      = (if a = c then decide (b < d) else decide (a < c)) := by
    show Ob.lexAt _ _ (decide (2 < 2)) 0 2 = _
    simp only [Ob.lexAt]
    by_cases h : a = c
    · by_cases h' : b = d
      · simp [h, h']
      · simp [h, h']
    · simp [h]
  rw [hb] at R
  exact R X.prog X.w X.xe _ ⟨.bl _, H, I, rfl, fin_bl S k⟩
end
end VL

set_option maxRecDepth 100000
set_option maxHeartbeats 2000000
namespace VL
open PySem PySem.Spec L2
open PyProof.Rows hiding St
/-! ### a token is out -/
theorem tkM {α : Type} {M : Model} {A : Around} {t : Sem α} {s : Shared} {Q Q' : α → Shared → Prop} {E E' : Value → Shared → Prop} (hk : 1 ≤ s.toks) (h : wpAny M A t Q E s) (hE : ∀ e s', E e s' → E' e s') (k : ∀ a s', 1 ≤ s'.toks → Q a s' → Q' a s') :
    wpAny M A t Q' E' s := wpAny_mono (wpAny_toks_of hk h) (fun a s' q => k a s' q.1 q.2) fun e s' q => hE e s' q.2
/-- what is read gives a token out -/
def PEf (X : Cx) (e : Expr) (t : TE) : Prop :=
  ∀ (pins : List (Addr × Obj)) (s : Shared) (σ : St) (H : Hp) (Q : VK), Inv X pins σ H s → t σ H Q → wpAny (model X.prog X.w) X.A (eval e X.env) (fun v s' => 1 ≤ s'.toks ∧ EP X pins σ Q v s') X.xe s
def PAf (X : Cx) (es : List Expr) (t : TA) : Prop :=
  ∀ (pos : Pos) (pins : List (Addr × Obj)) (s : Shared) (σ : St) (H : Hp) (Q : List V → Hp → Prop), Inv X pins σ H s → t σ H Q → wpAny (model X.prog X.w) X.A (spliced (backTo pos (starEach es X.env))) (fun vs s' => 1 ≤ s'.toks ∧ AP X pins σ Q vs s') X.xe s
def PSf (X : Cx) (st : Stmt) (t : TS) : Prop :=
  ∀ (pins : List (Addr × Obj)) (s : Shared) (σ : St) (H : Hp) (D : Ends), Inv X pins σ H s → t D σ H → wpAny (model X.prog X.w) X.A (exec st X.env) (fun f s' => 1 ≤ s'.toks ∧ SP X pins D f s') X.xe s
section
variable {X : Cx} {g : Gm} {e : Expr} {es : List Expr} {te : TE} {ta : TA} {st : Stmt} {rest : List Stmt} {t u : TS} {pos : Pos}
theorem peF (h : PEf X e te) : PE X e te := ⟨fun pins s σ H Q I q => wpAny_mono (h pins s σ H Q I q) (fun _ _ z => z.2) fun _ _ z => z⟩
/-- a number written out gives one -/
theorem paF_int {i : Int} {j : Nat} {cpos : Pos} (hr : PA X es ta) (hs : starEach (.Constant (.int i) j cpos :: es) X.env = (false, eval (.Constant (.int i) j cpos) X.env) :: starEach es X.env) :
    PAf X (.Constant (.int i) j cpos :: es) (tCons (tC (.int i)) ta) := by
  intro pos pins s σ H Q I h
  rw [hs]
  show wpAny _ _ (spliced ((false, eval (.Constant (.int i) j cpos) X.env) :: backTo pos (starEach es X.env))) _ _ s
  refine Calls.spliced_cons ?_
  refine wpAny_Constant_int ?_
  have I1 : Inv X pins σ H { s with toks := s.toks + 1 } := I.tok _
  exact tkM (by show 1 ≤ s.toks + 1; omega) (hr.run pos pins _ σ H _ I1 h) (fun _ _ z => z) fun us s' hk ⟨xs, H2, I2, r, q⟩ => ⟨hk, .int i :: xs, H2, I2, .cons ⟨_, rfl⟩ r, q⟩
/-- what follows keeps it -/
theorem paF_fst (ha : PEf X e te) (hr : PA X es ta) (hs : starEach (e :: es) X.env = (false, eval e X.env) :: starEach es X.env) : PAf X (e :: es) (tCons te ta) := by
  intro pos pins s σ H Q I h
  rw [hs]
  show wpAny _ _ (spliced ((false, eval e X.env) :: backTo pos (starEach es X.env))) _ _ s
  refine Calls.spliced_cons (wpAny_mono (ha pins s σ H _ I h) (fun v s1 z => ?_) fun _ _ z => z)
  obtain ⟨hk, x, H1, I1, r1, q⟩ := z
  exact tkM hk (hr.run pos pins s1 σ H1 _ I1 q) (fun _ _ z => z) fun us s' hk' ⟨xs, H2, I2, r, q2⟩ => ⟨hk', _, H2, I2, .cons r1 r, q2⟩
theorem paF_snd (ha : PE X e te) (hr : PAf X es ta) (hs : starEach (e :: es) X.env = (false, eval e X.env) :: starEach es X.env) : PAf X (e :: es) (tCons te ta) := by
  intro pos pins s σ H Q I h
  rw [hs]
  show wpAny _ _ (spliced ((false, eval e X.env) :: backTo pos (starEach es X.env))) _ _ s
  refine Calls.spliced_cons (thn (ha.run pins s σ H _ I h) fun v s1 z => ?_)
  obtain ⟨x, H1, I1, r1, q⟩ := z
  exact thn (hr pos pins s1 σ H1 _ I1 q) fun us s' ⟨hk', xs, H2, I2, r, q2⟩ => ⟨hk', _, H2, I2, .cons r1 r, q2⟩
theorem peF_lst (h : PAf X es ta) : PEf X (.List es pos) (tLst ta) := by
  intro pins s σ H Q I hq
  refine wpAny_List_spliced (thn (h pos pins s σ H _ I hq) fun us s1 ⟨hk, xs, H1, I1, r, z, q⟩ => ⟨by rw [← r.length]; exact z, hk, ?_⟩)
  have new : H1 s1.heap.objs.size = none := I1.hok.fresh (Nat.le_refl _)
  have I2 := I1.laid (a := s1.heap.objs.size) (o := .lst xs) (h' := s1.heap.push { cls := .type "list", data := .seq us.toArray }) (t' := s1.toks) (fun b u z => Heap.get?_push_of_some _ z) (Nat.le_refl _) ⟨z, us, 0, r, Heap.get?_push_size _ rfl⟩
  exact ⟨.ref s1.heap.objs.size, _, I2, rfl, q _ new⟩
theorem peF_fn {k j : Nat} {x : Str} {p : Pos} {sp : Sp} {dvs : List V} (c : C8.Cal X.prog X.w X.K X.mg X.base k x sp dvs) (hr : Room j X.A) (hk : k ≤ j) (hg : Gl X x) (ha : PAf X (e :: es) ta)
    (hdb : (x == ("__debug__" : Str)) = false) (he : starEach (e :: es) X.env = (false, eval e X.env) :: starEach es X.env) (hpl : (backTo pos (starEach es X.env)).any (·.1) = false) :
    PEf X (.Call (.Name x p) (e :: es) [] pos) (tCall sp dvs C8.E0 ta) := by
  obtain ⟨f, fd, ps, ds, F, hm, kp, b, d⟩ := c.ex
  intro pins s σ H Q I h
  refine wpAny_Call_Name_kw (ld_glob I hg hm ?_ hdb)
  refine PySem.W.callWith_K (h₀ := X.base) I.ok.mod.kin kp (thn (ha pos pins s σ H _ I h) fun us s1 z => ?_) he hpl
  obtain ⟨tk, vs, H1, I1, r, q⟩ := z
  exact ⟨I1.kIn, tkM tk (run_fn F (hr.mono hk) b d C8.pass0 I1 r q) (fun _ _ z => z) fun _ _ h1 h2 => ⟨h1, h2⟩⟩
theorem psF_set {i : Nat} {x : Str} {pos' : Pos} (hN : X.N.Nodup) (hi : X.N[i]? = some x) (hx : Loc X.env.scope x) (he : PEf X e te) (hs : swapsWith e (some (.Name x pos')) pos.line X.env = pure false) (hf : X.fn x = true ∨ X.env.scope.names.lookup x = some .local) :
    PSf X (.Assign [.Name x pos'] e pos) (tAsg te (gName i)) := by
  intro pins s σ H D I h
  refine wpAny_Assign_Name (thn (he pins s σ H _ I h) fun v s1 z => ?_) hs
  obtain ⟨tk, y, H1, I1, r1, q1⟩ := z
  exact tkM tk (store_ok (Q := fun _ s2 => SP X pins D .next s2) I1 hN hi hx r1 (fun s2 I2 => ⟨_, H1, I2, q1⟩) hf) (fun _ _ z => z) fun _ _ h1 h2 => ⟨h1, h2⟩
theorem pssF_cons (h1 : PSf X st t) (h2 : PSsT X rest u) : PSs X (st :: rest) (tSeq t u) := by
  refine ⟨fun pins s σ H D I h => wpAny_execs_cons (thn (h1 pins s σ H { D with nx := u D } I h) fun f s1 z => ?_)⟩
  obtain ⟨tk, z⟩ := z
  cases f with
  | next =>
    obtain ⟨σ', H', I', q⟩ := z
    exact h2 pins s1 σ' H' D tk I' q
  | ret v => exact z
  | brk => exact z
  | cont => exact z
theorem petImp {t t' : TE} (h : PET X e t) (k : ∀ σ H Q, t' σ H Q → t σ H Q) : PET X e t' := fun pins s σ H Q h0 I q => h pins s σ H Q h0 I (k σ H Q q)
theorem pstImp {t t' : TS} (h : PST X st t) (k : ∀ D σ H, t' D σ H → t D σ H) : PST X st t' := fun pins s σ H D h0 I q => h pins s σ H D h0 I (k D σ H q)
theorem psstImp {t t' : TS} (h : PSsT X rest t) (k : ∀ D σ H, t' D σ H → t D σ H) : PSsT X rest t' := fun pins s σ H D h0 I q => h pins s σ H D h0 I (k D σ H q)
/-! ### replace -/
def semRepl (y z : Str) : PV → Option Val
  | .str x => if x.length + (x.length + 1) * z.length ≤ 16777216 then some (.fz (.str (Txt.replace x y z))) else none
  | _ => none
theorem tRepl_of {da : Env' → Res Val} {y z : Str} {σ : St} {H : Hp} {Q : VK} (h : tE g (dUn (semRepl y z) da) σ H Q) : CwR.tReplC (tE g da) y z σ H Q := by
  obtain ⟨F, env, S, go⟩ := h
  refine ⟨F, env, S, ?_⟩
  unfold dUn at go
  rw [stl_bind] at go
  refine (Go.bind go).mono fun x e F' H' e1 S1 k v r => ?_
  refine settle (Q := fun _ _ => True) S1 r fun F2 e2 S2 r2 => ?_
  cases hp : peek x.stl e with
  | none => rw [hp] at k; exact k.elim
  | some p =>
    rw [hp] at k
    have t := peek_ok S2 r2 hp
    dsimp only at k
    cases hq : semRepl y z p with
    | none => rw [hq] at k; exact k.elim
    | some w =>
      rw [hq] at k
      cases p with
      | str x =>
        unfold semRepl at hq
        dsimp only at hq
        split at hq
        · rename_i hl
          cases hq
          cases rt_str t
          exact ⟨x, rfl, hl, k F2 H' e2 S2 _ (by show R _ _ _ _; unfold R; rfl)⟩
        · cases hq
      | _ => cases hq
theorem set_repl {o : Expr} {y z : Str} {j k : Nat} {c0 c1 apos pos : Pos} {da : Env' → Res Val} (ho : PET X o (tE g da)) (hyz : (y == z) = false)
    (hst : starEach [.Constant (.str y) j c0, .Constant (.str z) k c1] X.env = [(false, eval (.Constant (.str y) j c0) X.env), (false, eval (.Constant (.str z) k c1) X.env)])
    (hbase : attributeBase o "replace" X.env (eval o X.env) = eval o X.env) (hline : (apos.endLine == pos.line) = true) :
    PET X (.Call (.Attribute o "replace" apos) [.Constant (.str y) j c0, .Constant (.str z) k c1] [] pos) (tE g (dUn (semRepl y z) da)) :=
  petImp (CwR.pet_replT ho hyz hst hbase hline) fun _ _ _ => tRepl_of
theorem set_of {da : Env' → Res Val} (h : PE X e (tE g da)) : PET X e (tE g da) := CwR.PET.of h
end
end VL

set_option maxRecDepth 100000
set_option maxHeartbeats 2000000
namespace VL
open PySem PySem.Spec L2
open PyProof.Rows hiding St
/-! ### a comprehension whose items want a token that is out -/
/-- what holds at the head of each turn of a block Y -/
structure TkH (Y : Cx) (τ : St) (tn : Nat → Heap → Prop) (fp : List Addr) (W : Nat → Nat → Hp → Prop) (n : Nat) (s : Shared) : Prop where
  out : 1 ≤ s.toks
  at_ : ∃ i H, Inv Y [] τ H s ∧ tn i s.heap ∧ (∀ b ∈ fp, H b = none) ∧ W i n H
section
variable {Y : Cx} {τ σ0 : St} {vs : List Nat} {tn : Nat → Heap → Prop} {fp : List Addr} {it D : Addr} {J : It} {W : Nat → Nat → Hp → Prop} {tg elt : Expr} {ifs : List Expr} {g : TG} {tt : TT} {te : TE} {Z : Hp → Prop} {R : Result → Shared → Prop} {EE : Value → Shared → Prop} {e0 : Env}
/-- the pins that a turn holds are given back -/
theorem tk_back (hτ : τ = wipe σ0 vs) (T : Turn Y.prog Y.w Y.K tg J fp it tn) {i n : Nat} {σ8 : St} {H' : Hp} {s7 s' : Shared} {Nx : Hp → Prop} (hN : ∀ H', Nx H' → ∃ m', m' < n ∧ W (i + 1) m' H') (st : tn (i + 1) s7.heap) (hw : wipe σ8 vs = τ)
    (hk : 1 ≤ s'.toks) (I : Inv Y ([] ++ pinsAt fp s7.heap) σ8 H' s') (nx : Nx H') : ∃ m, m < n ∧ TkH Y τ tn fp W m s' := by
  have stood : ∀ b ∈ fp, ∀ o, s7.heap.get? b = some o → s'.heap.get? b = some o ∧ H' b = none := by
    intro b hb o e
    obtain ⟨z1, z2, _⟩ := I.pin (b, o) (List.mem_append_right _ (List.mem_append_right _ (mem_pinsAt hb e)))
    exact ⟨z1, z2⟩
  obtain ⟨m, lt, w⟩ := hN H' nx
  refine ⟨m, lt, hk, i + 1, H', (I.unpinned (pins := [])).weak ?_ ?_, ?_, ?_, w⟩
  · rw [← hw, wipe_length]
  · intro j v e
    rw [← hw] at e
    exact (wipe_some e).1
  · exact T.keep _ _ _ st fun b hb o e => (stood b hb o e).1
  · intro b hb
    obtain ⟨o, e, _⟩ := T.obj _ _ st b hb
    exact (stood b hb o e).2
/-- one turn -/
theorem tk_turn (hτ : τ = wipe σ0 vs) (hx : Y.xe = fun _ _ => False) (hcal : Y.calm = true) (T : Turn Y.prog Y.w Y.K tg J fp it tn) (pg : PG Y tg g) (pt : PTs Y ifs tt) (pe : PET Y elt te)
    (stat : ∀ {σ' : St} {H' : Hp} {s' : Shared}, Inv Y [] σ' H' s' → (∀ b ∈ fp, H' b = none) → ∀ b ∈ fp, FpOk Y [] H' b)
    (hW : ∀ i m H, W i m H → (J.stop i H ∧ Z H) ∨ (J.go i H ∧ ∃ Nx : Hp → Prop, (∀ H', Nx H' → ∃ m', m' < m ∧ W (i + 1) m' H') ∧ ∀ x H', J.yld i H x H' → g x τ H' fun σ2 H2 => wipe σ2 vs = τ ∧ tt σ2 H2 fun b H3 =>
      if b = true then te σ2 H3 fun y H4 => ∃ acc, H4 D = some (.lst acc) ∧ acc.length < sizeLine ∧ Nx (upd H4 D (.lst (acc ++ [y]))) else Nx H3))
    (fin : ∀ s' H', Inv Y [] τ H' s' → Z H' → R (.ok .next) s') (n : Nat) (s : Shared) (h : TkH Y τ tn fp W n s) :
    wpAny (model Y.prog Y.w) Y.A (pyNext (.ref it)) (fun r s₁ => match r with
      | none => R (.ok .next) s₁
      | some v => wpAny (model Y.prog Y.w) Y.A (letOwnedTupleGo tg (.ref it) v) (fun _ s₂ => wpAny (model Y.prog Y.w) Y.A (assign tg Y.env v) (fun _ s₃ =>
          wpAny (model Y.prog Y.w) Y.A (forIn ifs true fun c r => if r = true then do let ok ← isTrue c Y.env (eval c Y.env); pure (ForInStep.yield ok) else pure (ForInStep.yield r)) (fun ok s₄ =>
            if ok = true then wpAny (model Y.prog Y.w) Y.A (eval elt Y.env) (fun x s₅ =>
              wpAny (model Y.prog Y.w) Y.A (call (.builtin "list.append") [.ref D, x]) (fun _ s₆ => ∃ m, m < n ∧ TkH Y τ tn fp W m s₆) EE s₅) EE s₄
            else ∃ m, m < n ∧ TkH Y τ tn fp W m s₄) EE s₃) EE s₂) EE s₁) EE s := by
  obtain ⟨hk, i, H, I, st, nn, w⟩ := h
  have no : ∀ e s', Y.xe e s' → EE e s' := fun e s' z => by rw [hx] at z; exact z.elim
  rcases hW i n H w with ⟨stop, z⟩ | ⟨go, Nx, hN, step⟩
  · refine tkM hk (T.done Y rfl rfl rfl hcal i [] s _ H Y.xe I (stat I nn) st stop) no fun r s1 _ ⟨hr, I1⟩ => ?_
    subst hr
    exact fin s1 H I1 z
  · refine tkM hk (T.item Y rfl rfl rfl hcal i [] s _ H Y.xe I (stat I nn) st go) no fun r s1 k1 ⟨u, hr, q1⟩ => ?_
    subst hr
    refine tkM k1 q1 no fun _ s2 k2 ⟨x, H2, I2, rx, y2, st2, n2⟩ => ?_
    have P2 := I2.pinned (stat I2 n2) (T.obj _ _ st2)
    refine tkM k2 (pg.run _ s2 _ H2 x u _ P2 rx (step x H2 y2)) no fun _ s3 k3 ⟨σ3, H3, I3, hw3, q3⟩ => ?_
    refine tkM k3 (pt.run _ s3 σ3 H3 _ I3 q3) no fun b s4 k4 ⟨H4, I4, q4⟩ => ?_
    cases b with
    | false => exact tk_back hτ T hN st2 hw3 k4 I4 (by simpa using q4)
    | true =>
      rw [if_pos rfl] at q4 ⊢
      refine tkM k4 (pe _ s4 σ3 H4 _ k4 I4 q4) no fun v s5 k5 ⟨yv, H5, I5, r5, acc, hD5, hz5, nx⟩ => ?_
      exact wpAny_with_toks k5 (app_ok I5 hD5 hz5 r5 fun s6 I6 k6 => tk_back hτ T hN st2 hw3 k6 I6 nx)
end
section
variable {X : Cx} {pins : List (Addr × Obj)} {s : Shared} {σ : St} {H : Hp} {Q : VK} {elt tg iter : Expr} {ifs : List Expr} {scope : Scope} {own : List (Str × Nat)} {pos pos' : Pos} {wi : TI} {g : TG} {tt : TT} {te : TE}
theorem tk_comp {use : Option (Value → Sem Unit)} {Qf : Value → Shared → Prop} (hk : 1 ≤ s.toks) (hcal : X.calm = true) (hN : X.N.Nodup) (I : Inv X pins σ H s) (hi : PI X tg iter wi) (bk : BlkOk X.N X.env.scope scope own)
    (hg : ∀ (s : Shared) (H : Hp) (C : Addr) (cl : List (Str × Addr)) (fp : List Addr), PG (X.blk s H scope (compEnvC scope cl C X.env) fp) tg g) (ht : ∀ (s : Shared) (H : Hp) (C : Addr) (cl : List (Str × Addr)) (fp : List Addr), PTs (X.blk s H scope (compEnvC scope cl C X.env) fp) ifs tt)
    (he : ∀ (s : Shared) (H : Hp) (C : Addr) (cl : List (Str × Addr)) (fp : List Addr), PET (X.blk s H scope (compEnvC scope cl C X.env) fp) elt te) (hs : ∀ x, foldedSetIterable iter X.env x = pure x)
    (h : tLc wi g tt te (own.map (·.2)) σ H Q)
    (last : ∀ D C s' m H', Inv X pins σ H' s' → Q (.ref D) H' → s'.heap.Ns C m → FpOk X pins H' C → compPost (model X.prog X.w) X.A X.xe use Qf (.ref D) C (.ok .next) s') :
    wpAny (model X.prog X.w) X.A (comprehension (.ListComp elt [⟨tg, iter, ifs, 0⟩] scope pos) scope X.env pos' (newList []) false (eval iter X.env) use) Qf X.xe s := by
  have cl : closureFor scope X.env = pure (cloFrom X.env.cells scope.names []) := closure_ok fun y hy e => I.ok.has _ (bk.free y hy e)
  refine wpAny_comprehension_free (use := use) rfl hs cl bk.kind (fun y hy e => e ▸ bk.uniq y hy) ?_
  refine tkM hk (hi.run pins s σ H _ I h) (fun _ _ z => z) fun xv s1 k1 z1 => tkM k1 z1 (fun _ _ z => z) fun itv s2 k2 ⟨it, fp, tn, J, H2, ev, I2, T, st2, f2, q⟩ => ?_
  subst ev
  refine wpAny_newObj_type (newEnv_comp ?_) (by show 0 ≤ sizeLine; decide)
  have hDn : H2 s2.heap.objs.size = none := I2.hok.fresh (Nat.le_refl _)
  obtain ⟨W, ⟨m0, w0⟩, turn⟩ := q _ hDn
  -- behind the new list
  generalize es3 : ({ s2 with heap := s2.heap.push { cls := .type "list", data := .seq ([] : List Value).toArray } } : Shared) = s3
  have hh3 : s3.heap = s2.heap.push { cls := .type "list", data := .seq ([] : List Value).toArray } := by rw [← es3]
  have k3 : 1 ≤ s3.toks := by rw [← es3]; exact k2
  have I3 : Inv X pins σ (upd H2 s2.heap.objs.size (.lst [])) s3 := by
    rw [← es3]
    exact I2.laid (t' := s2.toks) (fun b o z => Heap.get?_push_of_some _ z) (Nat.le_refl _) ⟨Nat.zero_le _, [], 0, .nil, Heap.get?_push_size _ rfl⟩
  have low : ∀ b ∈ fp, b < s2.heap.objs.size := fun b hb => (T.obj _ _ st2 b hb).elim fun _ z => Heap.lt_size z.1
  have f3 : ∀ b ∈ fp, FpOk X pins (upd H2 s2.heap.objs.size (.lst [])) b ∧ b < s3.heap.objs.size := by
    intro b hb
    have lt := low b hb
    obtain ⟨z1, z2⟩ := f2 b hb
    exact ⟨⟨by rw [upd_ne (Nat.ne_of_lt lt)]; exact z1, z2⟩, by rw [hh3, Heap.size_push]; exact Nat.lt_succ_of_lt lt⟩
  have st3 : tn 0 s3.heap := T.keep _ _ _ st2 fun b _ o z => by rw [hh3]; exact Heap.get?_push_of_some _ z
  generalize eH3 : upd H2 s2.heap.objs.size (.lst []) = H3 at I3 f3 w0
  have I4 := block_start I3 bk hN f3
  -- the block
  have pg := hg s3 H3 s3.heap.objs.size (cellsFrom (s3.heap.objs.size + 1) scope.names (cloFrom X.env.cells scope.names [])) fp
  have pt := ht s3 H3 s3.heap.objs.size (cellsFrom (s3.heap.objs.size + 1) scope.names (cloFrom X.env.cells scope.names [])) fp
  have pe := he s3 H3 s3.heap.objs.size (cellsFrom (s3.heap.objs.size + 1) scope.names (cloFrom X.env.cells scope.names [])) fp
  generalize ece : compEnvC scope (cellsFrom (s3.heap.objs.size + 1) scope.names (cloFrom X.env.cells scope.names [])) s3.heap.objs.size X.env = ce at I4 pg pt pe
  have cL : ce.locals = s3.heap.objs.size := by rw [← ece]; rfl
  generalize es4 : ({ s3 with heap := pushCells (s3.heap.push { cls := .type "dict", data := .dict #[] }) scope.names } : Shared) = s4 at I4
  have k4 : 1 ≤ s4.toks := by rw [← es4]; exact k3
  have st4 : tn 0 s4.heap := T.keep _ _ _ st3 fun b _ o z => by rw [← es4]; exact pushCells_keeps _ _ _ _ (Heap.get?_push_of_some _ z)
  have stat : ∀ {σ' : St} {H' : Hp} {s' : Shared}, Inv (X.blk s3 H3 scope ce fp) [] σ' H' s' → (∀ b ∈ fp, H' b = none) → ∀ b ∈ fp, FpOk (X.blk s3 H3 scope ce fp) [] H' b := by
    intro σ' H' s' J' nn b hb
    obtain ⟨z1, z2⟩ := J'.ok.exf b hb
    exact ⟨nn b hb, z1, J'.ok.exfs b hb, .inl hb, fun x c e => z2 x c e, fun p hp => by cases hp⟩
  have start : TkH (X.blk s3 H3 scope ce fp) (wipe σ (own.map (·.2))) tn fp W m0 s4 := ⟨k4, 0, H3, I4, st4, fun b hb => (f3 b hb).1.1, w0⟩
  have loop : codeAny (model X.prog X.w) X.A (.compLoop (.ListComp elt [⟨tg, iter, ifs, 0⟩] scope pos) 0 (.ref it) (.ref s2.heap.objs.size) ce) (compPost (model X.prog X.w) X.A X.xe use Qf (.ref s2.heap.objs.size) s3.heap.objs.size) s4 := by
    refine compLoop_any (TkH (X.blk s3 H3 scope ce fp) (wipe σ (own.map (·.2))) tn fp W) (fun n s5 z5 => ?_) m0 start
    refine tk_turn (Y := X.blk s3 H3 scope ce fp) (σ0 := σ) rfl rfl hcal T pg pt pe stat turn (fun s6 H6 I6 z => ?_) n s5 z5
    have nC : H6 s3.heap.objs.size = none := by rw [← cL]; exact I6.free
    obtain ⟨m, hn, _⟩ := I6.loc
    have hn : s6.heap.Ns ce.locals m := hn
    rw [cL] at hn
    refine last _ _ s6 m H6 (I3.call' (ch := fp) I6.os I6.base I6.hok I6.bare fun b hb => ?_) z hn (I3.fpOk (Nat.le_refl _) nC)
    obtain ⟨z0, z1, z2, z3, z4, z5⟩ := (f3 b hb).1
    exact ⟨z3, z1, z4, z5⟩
  have all := codeAny_compStart_list loop (T.self X.A 0 _ _ _ st4 loop)
  rw [← ece] at all
  exact all
/-- y = [..], y a local -/
theorem tk_setLc {i : Nat} {y : Str} {py spos : Pos} (hcal : X.calm = true) (hN : X.N.Nodup) (hy : X.N[i]? = some y) (hyl : X.env.scope.names.lookup y = some .local)
    (hsw : swapsWith (.ListComp elt [⟨tg, iter, ifs, 0⟩] scope pos) (some (.Name y py)) spos.line X.env = pure true) (hi : PI X tg iter wi) (bk : BlkOk X.N X.env.scope scope own)
    (hg : ∀ (s : Shared) (H : Hp) (C : Addr) (cl : List (Str × Addr)) (fp : List Addr), PG (X.blk s H scope (compEnvC scope cl C X.env) fp) tg g) (ht : ∀ (s : Shared) (H : Hp) (C : Addr) (cl : List (Str × Addr)) (fp : List Addr), PTs (X.blk s H scope (compEnvC scope cl C X.env) fp) ifs tt)
    (he : ∀ (s : Shared) (H : Hp) (C : Addr) (cl : List (Str × Addr)) (fp : List Addr), PET (X.blk s H scope (compEnvC scope cl C X.env) fp) elt te) (hs : ∀ x, foldedSetIterable iter X.env x = pure x) :
    PST X (.Assign [.Name y py] (.ListComp elt [⟨tg, iter, ifs, 0⟩] scope pos) spos) (tAsg (tLc wi g tt te (own.map (·.2))) (gName i)) := by
  intro pins s σ H D hk I h
  rw [exec_Assign_Name_used _ _ _ _ hsw]
  refine wpAny_bind (wpAny_standAt (wpAny_bind ?_))
  have h : tLc wi g tt te (own.map (·.2)) σ H (fun x H1 => gName i x σ H1 D.nx) := h
  show wpAny _ X.A (do let _ ← comprehension (.ListComp elt [⟨tg, iter, ifs, 0⟩] scope pos) scope X.env (firstIterPos [⟨tg, iter, ifs, 0⟩] pos) (newList []) false (eval iter X.env) (some (assign (.Name y py) X.env))) _ _ s
  refine wpAny_bind (wpAny_mono (tk_comp (Qf := fun _ s' => SP X pins D .next s') hk hcal hN I hi bk hg ht he hs h fun L C s' m H' I' q hn f => ?_) (fun _ s' z => wpAny_pure (wpAny_pure z)) fun _ _ z => z)
  obtain ⟨f0, f1, f2, f3, f4, f5⟩ := f
  refine wpAny_assign_Name (store_ok2 (v := V.ref L) I' hN hy (.inl hyl) rfl (fun s2 I2 ⟨a, sb, ha⟩ => ?_) (.inr hyl))
  have other : C ≠ a := ha.elim (fun z => z ▸ f1) fun z e => f4 y a z e.symm
  exact ⟨m, hn.sameBut sb other, fun h3 sb3 => ⟨_, H', I2.turned (t' := s2.toks) (fun b o hb z => (sb3.2 b hb).trans z) f0 f1 f3 f4 f5, q⟩⟩
end
end VL

set_option maxRecDepth 100000
set_option maxHeartbeats 2000000
namespace VL
open PySem PySem.Spec L2
open PyProof.Rows hiding St
/-! ### tokens: the walk's rows -/
section
variable {X : Cx} {g : Gm} {F H : Hp} {σ : St} {env : Env'} {C : Ct} {e a : Expr} {es : List Expr} {d da : Env' → Res Val} {ds : List (Env' → Res Val)} {st : Stmt} {r : List Stmt} {d1 d2 : Env' → Res Fl} {pos p : Pos}
theorem tCons_of {Q : List V → Hp → Prop} (h : tAs g (dArgs (d :: ds)) σ H Q) : tCons (tE g d) (tAs g (dArgs ds)) σ H Q := by
  obtain ⟨F, env, S, go⟩ := h
  unfold dArgs at go
  rw [stl_bind] at go
  refine ⟨F, env, S, (Go.bind go).mono fun x e1 F1 H1 x1 S1 k v rv => ?_⟩
  refine settle (Q := fun _ _ => True) S1 rv fun F2 x2 S2 r2 => ?_
  refine ⟨F2, e1, S2, (Go.bind (Go.up k x2)).mono fun xs e3 F3 H3 x3 S3 k3 vs o3 rv3 => ?_⟩
  exact k3 F3 H3 (Ex.refl F3) S3 (v :: vs) ⟨x.stl_old, o3⟩ ⟨v, vs, rfl, r2.later x.stl_old x3, rv3⟩
theorem pafImp {t t' : TA} (h : PAf X es t) (k : ∀ σ H Q, t' σ H Q → t σ H Q) : PAf X es t' := fun pos pins s σ H Q I q => h pos pins s σ H Q I (k σ H Q q)
theorem pefImp {t t' : TE} (h : PEf X e t) (k : ∀ σ H Q, t' σ H Q → t σ H Q) : PEf X e t' := fun pins s σ H Q I q => h pins s σ H Q I (k σ H Q q)
theorem psfImp {t t' : TS} (h : PSf X st t) (k : ∀ D σ H, t' D σ H → t D σ H) : PSf X st t' := fun pins s σ H D I q => h pins s σ H D I (k D σ H q)
theorem saF_int {i : Int} {j : Nat} {cpos : Pos} (hr : PA X es (tAs g (dArgs ds))) (hs : starEach (.Constant (.int i) j cpos :: es) X.env = (false, eval (.Constant (.int i) j cpos) X.env) :: starEach es X.env) :
    PAf X (.Constant (.int i) j cpos :: es) (tAs g (dArgs ((fun e => .ok (.fz (.int i)) e) :: ds))) :=
  pafImp (paF_int hr hs) fun σ H Q h => by
    obtain ⟨F, env, S, go⟩ := tCons_of h
    exact go F H (Ex.refl F) S (.int i) (by show R _ _ _ _; unfold R; rfl)
theorem saF_fst (ha : PEf X e (tE g d)) (hr : PA X es (tAs g (dArgs ds))) (hs : starEach (e :: es) X.env = (false, eval e X.env) :: starEach es X.env) : PAf X (e :: es) (tAs g (dArgs (d :: ds))) := pafImp (paF_fst ha hr hs) fun _ _ _ => tCons_of
theorem saF_snd (ha : PE X e (tE g d)) (hr : PAf X es (tAs g (dArgs ds))) (hs : starEach (e :: es) X.env = (false, eval e X.env) :: starEach es X.env) : PAf X (e :: es) (tAs g (dArgs (d :: ds))) := pafImp (paF_snd ha hr hs) fun _ _ _ => tCons_of
theorem seF_lst (h : PAf X es (tAs g (dArgs ds))) : PEf X (.List es pos) (tE g (dLst ds)) :=
  pefImp (peF_lst h) fun σ H Q ⟨F, env, S, go⟩ => ⟨F, env, S, (Go.bind go).mono fun xs e1 F1 H1 x1 S1 k vs o rv => by
    obtain ⟨F2, ps, e2, x2, S2, q2, hl, k2⟩ := disp_go o S1 rv k
    exact ⟨hl, fun p hp => fin_lst S2 hp q2 fun F3 H3 w x3 S3 rw => k2 F3 H3 x3 S3 w rw⟩⟩
theorem seF_fnC {k j : Nat} {x : Str} {md : Md} {fn : List PV → FR} {dvs : List V} {dps : List PV} (hC : g.C = C) (c : C8.Cal X.prog X.w X.K X.mg X.base k x (SpV C md fn) dvs) (hr : Room j X.A) (hk : k ≤ j) (hg : Gl X x) (hd : ∀ F, Rs g.C F dps dvs) (ha : PAf X (e :: es) (tAs g (dArgs ds)))
    (hdb : (x == ("__debug__" : Str)) = false) (he : starEach (e :: es) X.env = (false, eval e X.env) :: starEach es X.env) (hpl : (backTo pos (starEach es X.env)).any (·.1) = false) :
    PEf X (.Call (.Name x p) (e :: es) [] pos) (tE g (dFn md fn dps ds)) := by
  subst hC
  exact pefImp (peF_fn c hr hk hg ha hdb he hpl) fun σ H Q ⟨F, env, S, go⟩ => ⟨F, env, S, (Go.bind go).mono fun xs e1 F1 H1 x1 S1 k vs o r =>
    call_go (AllOld.append o dps_old) S1 (RVs.append r (dps_rvs hd)) k C8.E0⟩
theorem ssF_set {i : Nat} {x : Str} {pos' : Pos} (hN : X.N.Nodup) (hi : X.N[i]? = some x) (hx : Loc X.env.scope x) (he : PEf X a (tE g da)) (hs : swapsWith a (some (.Name x pos')) pos.line X.env = pure false) (hf : X.fn x = true ∨ X.env.scope.names.lookup x = some .local) :
    PSf X (.Assign [.Name x pos'] a pos) (tS g (dSet i da)) :=
  psfImp (psF_set hN hi hx he hs hf) fun D σ H ⟨F, env, S, go⟩ => ⟨F, env, S, (GoS.bindE (σ := σ) go).mono fun x e F' H' x1 S1 k v r => store_go S1 r k⟩
theorem ssF_cons (h1 : PSf X st (tS g d1)) (h2 : PSsT X r (tS g d2)) : PSs X (st :: r) (tS g (dSeq d1 d2)) := pssImp (pssF_cons h1 h2) fun D σ H ⟨F, env, S, go⟩ => ⟨F, env, S, go.seq⟩
theorem ssT_cons (h1 : PST X st (tS g d1)) (h2 : PSsT X r (tS g d2)) : PSsT X (st :: r) (tS g (dSeq d1 d2)) := psstImp (psst_cons h1 h2) fun D σ H ⟨F, env, S, go⟩ => ⟨F, env, S, go.seq⟩
theorem ssT_of {t : TS} (h : PSs X r t) : PSsT X r t := PSsT.of h
theorem sT_of {t : TS} (h : PS X st t) : PST X st t := PST.of h
/-- y = [..], y a local, a token out -/
theorem sT_setLc {i : Nat} {y : Str} {py spos : Pos} {elt tg iter : Expr} {ifs : List Expr} {scope : Scope} {pos : Pos} {vs js : List Nat} {di : Env' → Res (List PV)} {u : UG} {dt : Option (Env' → Res Bool)} {de : Env' → Res Val} (own : List (Str × Nat)) (ok : Ok X g) (hN : X.N.Nodup)
    (hy : X.N[i]? = some y) (hyl : X.env.scope.names.lookup y = some .local) (hsw : swapsWith (.ListComp elt [⟨tg, iter, ifs, 0⟩] scope pos) (some (.Name y py)) spos.line X.env = pure true)
    (hi : PI X tg iter (tI g di)) (bk : BlkOk X.N X.env.scope scope own) (hv : own.map (·.2) = vs) (hj : ∀ j ∈ js, j ∈ vs)
    (hg : ∀ (s : Shared) (H : Hp) (C : Addr) (cl : List (Str × Addr)) (fp : List Addr) (g' : Gm), g'.C = g.C → Ok (X.blk s H scope (compEnvC scope cl C X.env) fp) g' → PG (X.blk s H scope (compEnvC scope cl C X.env) fp) tg (tG g' u js))
    (ht : ∀ (s : Shared) (H : Hp) (C : Addr) (cl : List (Str × Addr)) (fp : List Addr) (g' : Gm), g'.C = g.C → Ok (X.blk s H scope (compEnvC scope cl C X.env) fp) g' → PTs (X.blk s H scope (compEnvC scope cl C X.env) fp) ifs (tT g' (dtO dt)))
    (he : ∀ (s : Shared) (H : Hp) (C : Addr) (cl : List (Str × Addr)) (fp : List Addr) (g' : Gm), g'.C = g.C → Ok (X.blk s H scope (compEnvC scope cl C X.env) fp) g' → PET (X.blk s H scope (compEnvC scope cl C X.env) fp) elt (tE g' de))
    (hs : ∀ x, foldedSetIterable iter X.env x = pure x) : PST X (.Assign [.Name y py] (.ListComp elt [⟨tg, iter, ifs, 0⟩] scope pos) spos) (tS g (dSet i (dLc vs di u dt de))) := by
  subst hv
  refine pstImp (tk_setLc ok.calm hN hy hyl hsw hi bk (fun s H C cl fp => xG_of fun g' hC => hg s H C cl fp g' hC (ok_blk ok hC)) (fun s H C cl fp => xT_of fun g' hC => ht s H C cl fp g' hC (ok_blk ok hC)) (te := xE g.C de) (fun s H C cl fp => fun pins s1 σ1 H1 Q h0 I ⟨g', hC, q⟩ => he s H C cl fp g' hC (ok_blk ok hC) pins s1 σ1 H1 Q h0 I q) hs) fun D σ H h => ?_
  obtain ⟨F, env, S, go⟩ := h
  exact tLc_of hj ⟨F, env, S, (GoS.bindE (σ := σ) go).mono fun x e F' H' x1 S1 k v r => store_go S1 r k⟩
end
end VL

set_option maxRecDepth 100000
set_option maxHeartbeats 2000000
namespace VL
open PySem PySem.Spec L2
open PyProof.Rows hiding St
/-! ### an own == -/
section
variable {prog : Program} {w : World} {A : Around} {E : Value → Shared → Prop} {s : Shared} {K : PySem.W.Frag} {x C L f : Addr} {h₀ : Heap} {m : Str → Option Value} {ox : Obj} {od : Option Obj} {b tb : Value}
/-- object's != asks the own == -/
theorem ask_eq {Q : Fin → Shared → Prop} (hu : A.units < cLine) (X : K.In s.heap) (I : PySem.W.InstAt s.heap x ox C od) (hs : PySem.W.findIn K (.ref C) "__eq__" = some (some (.ref f))) (hf : PySem.W.isFn K (.ref f) = true)
    (h : wpAny (model prog w) A (call (.ref f) [.ref x, b]) (fun v s' => ∃ t, v = .bool t ∧ Q (.done (.ret (.bool (!t)))) s') E s) : wpAny (model prog w) A (Builtin.«object.__ne__» ⟨[.ref x, b], []⟩) Q E s := by
  unfold Builtin.«object.__ne__»
  repeat (first
    | with_reducible refine wpAny_cRoomFor hu ?_
    | (refine wpAny_bind (m := callSpecialIfBound? (.ref x) (Str.ofString "__eq__") [b]) (PySem.W.ifBound_K X I hs hf (wpAny_mono h (fun v s' z => ?_) fun _ _ z => z))
       obtain ⟨t, hv, q⟩ := z
       subst hv
       repeat (first | exact q | exact wpAny_pure q | exact wpAny_truthy_bool q | (refine wpAny_bind (m := truthy (.bool _)) (wpAny_truthy_bool ?_)) | wp_step))
    | wp_step)
theorem bound_ne {M : Model} {args : List Value} {Q : Option Value → Shared → Prop} (X : K.In s.heap) (I : PySem.W.InstAt s.heap x ox C od) (hs : PySem.W.findIn K (.ref C) "__ne__" = some (some (.builtin "object.__ne__")))
    (h : wpAny M A (call (.builtin "object.__ne__") (.ref x :: args)) (fun v => Q (some v)) E s) : wpAny M A (callSpecialIfBound? (.ref x) "__ne__" args) Q E s := by
  simp only [callSpecialIfBound?, bindSpecialIfBound?]
  have run : wpAny M A (call (.builtin "object.__ne__") ([.ref x] ++ args) >>= fun v => pure (some v)) Q E s := wpAny_bind (wpAny_mono h (fun _ _ z => wpAny_pure z) fun _ _ z => z)
  refine wpAny_holding (wpAny_bind (wpAny_bind (wpAny_bind (I.type.here ((PySem.W.looks_findIn X hs).here (wpAny_bind (wpAny_askSetting (wpAny_ite ?_))))))))
  split
  · exact wpAny_bind (wpAny_of_eq (F.cmp_object.ne.bind _) (wpAny_pure (by exact run)))
  · exact wpAny_tryCatch (wpAny_bind (wpAny_of_eq (F.cmp_object.ne.bind _) (wpAny_pure (by exact run))))
theorem ne_own {Q : Value → Shared → Prop} (hu : A.units + 1 < cLine) (Fm : Fr h₀ L s.heap m) (X₀ : K.In h₀) (I : PySem.W.InstAt s.heap x ox C od) (hb : PySem.W.Looks (model prog w) s.heap (typeOf b) tb) (hn : PySem.W.notFirst K C tb = true)
    (hm : PySem.W.mroIn K C (.type "object") = some true) (hne : PySem.W.findIn K (.ref C) "__ne__" = some (some (.builtin "object.__ne__"))) (hs : PySem.W.findIn K (.ref C) "__eq__" = some (some (.ref f))) (hf : PySem.W.isFn K (.ref f) = true)
    (h : wpAny (model prog w) A.in1 (call (.ref f) [.ref x, b]) (fun v s' => ∃ t, v = .bool t ∧ Q (.bool (!t)) s') E s) : wpAny (model prog w) A (richCompare .NotEq (.ref x) b) Q E s := by
  have X := X₀.keeps Fm.keep
  have one : wpAny (model prog w) A (tryCompare (.ref x) "__ne__" b) (fun r s' => ∃ v, r = some v ∧ Q v s') E s := by
    unfold tryCompare
    refine wpAny_bind (bound_ne X I hne (wpAny_call (codeAny_call_builtin F.cmp_object.ne.plain F.cmpEntry_ne (PySem.W.check_slot F.cmpKind_ne F.cmpSplit_ne (I.type.andThen (PySem.W.looks_mroIn X hm)) (F.cmpArgs_ne _ _)
      (ask_eq (A := A.in1) (by show A.units + 1 < cLine; exact hu) X I hs hf (wpAny_mono h (fun v s' z => ?_) fun _ _ z => z))))))
    obtain ⟨t, hv, q⟩ := z
    exact ⟨t, hv, wpAny_pure ⟨_, rfl, q⟩⟩
  unfold richCompare
  simp only [oneThing_ref]
  refine wpAny_holding (wpAny_bind (wpAny_cRoomFor (by omega) ?_))
  rw [cmpInfo_NotEq]
  refine wpAny_bind (I.type.here (wpAny_bind (hb.here ?_)))
  split
  · rename_i q
    have e : PySem.W.subIn K tb (.ref C) = some false := by
      rcases Bool.or_eq_true_iff.mp hn with e | e
      · rw [beq_iff_eq.mp e] at q; simp at q
      · exact beq_iff_eq.mp e
    refine wpAny_bind ((PySem.W.looks_subIn X e).here ?_)
    simp only [Bool.false_eq_true, if_false]
    refine wpAny_bind (wpAny_mono one (fun r s' z => ?_) fun _ _ z => z)
    obtain ⟨v, hv, q⟩ := z
    subst hv
    exact wpAny_pure q
  · refine wpAny_bind (wpAny_pure ?_)
    simp only [Bool.false_eq_true, if_false]
    refine wpAny_bind (wpAny_mono one (fun r s' z => ?_) fun _ _ z => z)
    obtain ⟨v, hv, q⟩ := z
    subst hv
    exact wpAny_pure q
end
end VL

set_option maxRecDepth 100000
set_option maxHeartbeats 2000000
namespace VL
open PySem PySem.Spec L2
open PyProof.Rows hiding St
/-! ### a == b, a != b, a of an own class with an own == -/
def cmpN : Bool → CmpOp
  | true => .NotEq
  | false => .Eq
/-- what may stand on the right -/
def rightQ (c : Nat) : PV → Bool
  | .ins c' _ => decide (c' = c)
  | .dT _ _ => false
  | .exc _ _ => false
  | _ => true
def dOwnQ (neg : Bool) (c : Nat) (fn : List PV → FR) (da db : Env' → Res Val) : Env' → Res Val := fun e => (stl da e).bind fun x e1 => (stl db e1).bind fun y e2 => if insAt c 0 x e2 = true ∧ (peek y e2).map (rightQ c) = some true then
    (callK [false, false] fn [x, y] e2).bind fun r e3 => match r with
      | .fz (.bl b) => .ok (.fz (.bl (if neg = true then !b else b))) e3
      | _ => .bad
  else .bad
theorem not_first (K : PySem.W.Frag) (C : Addr) : ∀ T ∈ ["NoneType", "bool", "int", "str", "tuple", "list", "dict"], PySem.W.notFirst K C (.type T) = true := by
  have go : ∀ T : String, (fastBuiltinMro T).isSome = true → ((fastBuiltinMro T).getD []).all (fun v => match v with | .ref _ => false | _ => true) = true → PySem.W.notFirst K C (.type T) = true := by
    intro T h1 h2
    unfold PySem.W.notFirst
    have : PySem.W.subIn K (.type T) (.ref C) = some false := by
      show (fastBuiltinMro T).map (·.contains (.ref C)) = some false
      cases h : fastBuiltinMro T with
      | none => rw [h] at h1; cases h1
      | some l =>
        rw [h] at h2
        simp only [Option.map_some, Option.some.injEq]
        rw [List.contains_eq_any_beq, List.any_eq_false]
        intro v hv
        have := List.all_eq_true.mp h2 v hv
        cases v <;> simp_all
    rw [this]
    simp
  intro T hT
  simp only [List.mem_cons, List.not_mem_nil, or_false] at hT
  rcases hT with rfl | rfl | rfl | rfl | rfl | rfl | rfl
  all_goals exact go _ (by decide +kernel) (by decide +kernel)
section
variable {X : Cx} {g : Gm} {pins : List (Addr × Obj)} {F H : Hp} {σ : St} {env : Env'} {s : Shared} {a b : Expr} {da db : Env' → Res Val} {pos : Pos}
theorem tyP_first {p : PV} {c : Nat} (h : rightQ c p = true) : PySem.W.notFirst X.K (g.C.ad c) (tyP g.C p) = true := by
  cases p <;> simp only [rightQ] at h <;> simp only [tyP]
  all_goals try exact not_first _ _ _ (by simp)
  · have := of_decide_eq_true h
    subst this
    unfold PySem.W.notFirst
    simp
  · cases h
theorem own_run {k j : Nat} {c : Nat} {sp : Sp} (neg : Bool) (cm : C8.Met X.prog X.w X.K X.mg X.base k (g.C.ad c) "__eq__" sp []) (hr : Room j X.A) (hk : k + 1 ≤ j) (ok : Ok X g) (co : ∀ c, ClsOk g.C c) (fi : InsF g.C)
    (hne : neg = true → PySem.W.findIn X.K (.ref (g.C.ad c)) "__ne__" = some (some (.builtin "object.__ne__"))) {ad dx : Addr} {fs : List (Str × V)} {q : PV} {y : V} {u : Value} {Q : VK} (I : Inv X pins σ H s) (ha : H ad = some (.ins (g.C.ad c) dx fs)) (ru : RelV y u) (t : Rt g.C F H q y) (hq : rightQ c q = true)
    (h : sp [.ref ad, y] H (fun v H' => ∃ b, v = .bl b ∧ Q (.bl (if neg = true then !b else b)) H') C8.E0) : wpAny (model X.prog X.w) X.A (compareOp (cmpN neg) (.ref ad) u) (EP X pins σ Q) X.xe s := by
  obtain ⟨f, fd, ps, ds, cl, me, Fn, bi, d⟩ := cm.ex
  cases d
  obtain ⟨mA, J, _⟩ := ins_get I.hok ha
  obtain ⟨od, J, _⟩ := J.look
  obtain ⟨m, hF⟩ := I.fr
  have tx := tyP_ok ok co fi t (fun ks xs z => by rw [z] at hq; cases hq) fun c xs z => by rw [z] at hq; cases hq
  obtain ⟨P, kit, hp, _⟩ := kit_of I ru tx
  have lk : PySem.W.Looks (model X.prog X.w) s.heap (typeOf u) (tyP g.C q) := kit.ty _ _ I.kIn hp
  have nf : PySem.W.notFirst X.K (g.C.ad c) (tyP g.C q) = true := tyP_first hq
  have hl := Fn.len _ _ _ _ h
  have rr : Vals [V.ref ad, y] [Value.ref ad, u] := .cons rfl (.cons ru .nil)
  have call : ∀ (B : Around), B.frames = X.A.frames → Room k B → wpAny (model X.prog X.w) B (call (.ref f) [.ref ad, u]) (fun v s' => ∃ t, v = .bool t ∧ EP X pins σ Q (.bool (if neg = true then !t else t)) s') X.xe s := by
    intro B hB rB
    have e0 : Env0 X.prog X.w X.K X.mg X.base B X.stack s H := by
      have e := I.env0
      exact ⟨by rw [hB]; exact e.frames, e.mod, e.bs, e.bsz, e.funs, e.frf, e.hok, e.bare⟩
    refine wpAny_call (codeAny_mono (Fn.run B X.stack s H ⟨[.ref ad, u], []⟩ [.ref ad, u] _ _ C8.E0 rB e0 (by
      have := bi s [.ref ad, u] I.kIn (by simpa using hl)
      simpa using this) rr h) fun r s' z => ?_)
    cases r with
    | error e => exact C8.pass0 (X := X) (E := C8.E0) pins σ H s e s' I z
    | ok fl =>
      cases fl with
      | ret w =>
        obtain ⟨v, H', I', rv, b, e, q⟩ := I.after z
        subst e
        cases rv
        exact ⟨b, rfl, .bl (if neg = true then !b else b), H', I', rfl, q⟩
      | next => exact False.elim z
      | brk => exact False.elim z
      | cont => exact False.elim z
  have u1 := ok.u1
  cases neg with
  | false =>
    show wpAny _ _ (richCompare .Eq (.ref ad) u) _ _ _
    refine PySem.W.cmp_K (op := .Eq) (tb := tyP g.C q) (by omega) hF I.ok.mod.kin J lk nf me.at_ me.fn (wpAny_mono (call X.A rfl (hr.mono (by omega))) (fun v s' z => ?_) fun _ _ z => z)
    obtain ⟨t, hv, q⟩ := z
    subst hv
    exact q
  | true =>
    show wpAny _ _ (richCompare .NotEq (.ref ad) u) _ _ _
    refine ne_own u1 hF I.ok.mod.kin J lk nf ?_ (hne rfl) me.at_ me.fn (call X.A.in1 rfl (hr.mono hk).in1)
    have := fi.hm c
    rw [ok.K] at this
    exact this
theorem own_k {neg : Bool} {k j : Nat} {c : Nat} {fn : List PV → FR} (cm : C8.Met X.prog X.w X.K X.mg X.base k (g.C.ad c) "__eq__" (SpV g.C [false, false] fn) []) (hr : Room j X.A) (hk : k + 1 ≤ j) (ok : Ok X g) (co : ∀ c, ClsOk g.C c) (fi : InsF g.C)
    (hne : neg = true → PySem.W.findIn X.K (.ref (g.C.ad c)) "__ne__" = some (some (.builtin "object.__ne__"))) {K : Val → Env' → Hp → Hp → Prop} {x y : Val} {v w : V} {vv ww : Value} (I : Inv X pins σ H s) (S : Stt g F H σ env) (r1 : RelV v vv) (r2 : RelV w ww) (o1 : x.old) (o2 : y.old) (rx : RV g F H σ env x v) (ry : RV g F H σ env y w)
    (go : Go g F σ (if insAt c 0 x env = true ∧ (peek y env).map (rightQ c) = some true then (callK [false, false] fn [x, y] env).bind fun r e3 => (match r with | .fz (.bl b) => Res.ok (.fz (.bl (if neg = true then !b else b))) e3 | _ => .bad) else .bad) K) :
    wpAny (model X.prog X.w) X.A (compareOp (cmpN neg) vv ww) (EP X pins σ fun z H' => ∃ (b : Bool) (F' : Hp) (e' : Env'), z = .bl b ∧ Ex F F' ∧ Stt g F' H' σ e' ∧ K (.fz (.bl b)) e' F' H') X.xe s := by
  split at go
  · rename_i hh
    obtain ⟨h1, h2⟩ := hh
    obtain ⟨ad, dx, fs, n, rfl, ha, _⟩ := insAt_is S rx h1
    cases r1
    cases hp : peek y env with
    | none => rw [hp] at h2; cases h2
    | some q =>
      rw [hp] at h2
      refine own_run neg cm hr hk ok co fi hne I ha r2 (peek_ok S ry hp) (Option.some.inj h2) ?_
      have k := Go.bind go
      refine call_go (xs := [x, y]) ⟨o1, o2, True.intro⟩ S ⟨_, _, rfl, rx, _, _, rfl, ry, rfl⟩ (k.mono fun r e3 F3 H3 x3 S3 k3 z rz => ?_) C8.E0
      cases r with
      | bor i => exact k3.elim
      | new p => exact k3.elim
      | fz p =>
        cases p <;> try exact k3.elim
        rename_i bb
        have e : z = .bl bb := by
          have : R g.C F3 (.bl bb) z := rz
          unfold R at this; exact this
        exact ⟨bb, e, _, F3, e3, rfl, x3, S3, k3 F3 H3 (Ex.refl F3) S3⟩
  · exact go.elim
theorem se_ownQ (neg : Bool) {op : CmpOp} (hop : cmpN neg = op) {k j : Nat} {c : Nat} {fn : List PV → FR} (cm : C8.Met X.prog X.w X.K X.mg X.base k (g.C.ad c) "__eq__" (SpV g.C [false, false] fn) []) (hr : Room j X.A) (hk : k + 1 ≤ j) (ok : Ok X g) (co : ∀ c, ClsOk g.C c) (fi : InsF g.C)
    (hne : neg = true → PySem.W.findIn X.K (.ref (g.C.ad c)) "__ne__" = some (some (.builtin "object.__ne__"))) (ha : PE X a (tE g da)) (hb : PE X b (tE g db)) (hm : behindInMarks op b = false) : PE X (.Compare a [op] [b] pos) (tE g (dOwnQ neg c fn da db)) := by
  subst hop
  refine ⟨fun pins s σ H Q I ⟨F, env, S, go⟩ => wpAny_Compare1 (thn (peGo ha I S go) fun v s1 ⟨v', H1, I1, r1, F1, e1, x, x1, S1, o1, rv1, go1⟩ => ?_) hm⟩
  refine thn (peGo hb I1 S1 go1) fun u s2 ⟨u', H2, I2, r2, F2, e2, y, x2, S2, o2, rv2, go2⟩ => ?_
  refine thn (own_k cm hr hk ok co fi hne I2 S2 r1 r2 o1 o2 (rv1.later o1 x2) rv2 go2) fun w s3 ⟨w', H3, I3, r3, bb, F3, e3, ew, x3, S3, k3⟩ => ⟨w', H3, I3, r3, k3 w' ?_⟩
  subst ew
  show R _ _ _ _
  unfold R; rfl
theorem st_ownQ (neg : Bool) {op : CmpOp} (hop : cmpN neg = op) {k j : Nat} {c : Nat} {fn : List PV → FR} (cm : C8.Met X.prog X.w X.K X.mg X.base k (g.C.ad c) "__eq__" (SpV g.C [false, false] fn) []) (hr : Room j X.A) (hk : k + 1 ≤ j) (ok : Ok X g) (co : ∀ c, ClsOk g.C c) (fi : InsF g.C)
    (hne : neg = true → PySem.W.findIn X.K (.ref (g.C.ad c)) "__ne__" = some (some (.builtin "object.__ne__"))) (ha : PE X a (tE g da)) (hb : PE X b (tE g db)) (hm : behindInMarks op b = false) : PT X (.Compare a [op] [b] pos) (tT g (asB (dOwnQ neg c fn da db))) := by
  subst hop
  refine ⟨fun pins s σ H Q I ⟨F, env, S, go⟩ => ?_⟩
  have go := Go.bind go
  refine wpAny_isTrue_Compare1 (thn (peGo ha I S go) fun v s1 ⟨v', H1, I1, r1, F1, e1, x, x1, S1, o1, rv1, go1⟩ => ?_) hm
  refine thn (peGo hb I1 S1 go1) fun u s2 ⟨u', H2, I2, r2, F2, e2, y, x2, S2, o2, rv2, go2⟩ => ?_
  refine thn (own_k cm hr hk ok co fi hne I2 S2 r1 r2 o1 o2 (rv1.later o1 x2) rv2 go2) fun w s3 ⟨w', H3, I3, r3, bb, F3, e3, ew, x3, S3, k3⟩ => ?_
  subst ew
  cases r3
  exact wpAny_truthy_bool ⟨H3, I3, k3 F3 H3 (Ex.refl F3) S3⟩
end
/-! ### isinstance(x, c), c an own class -/
def ansO (n c0 : Nat) : PV → Option Bool
  | .ins c _ => if c < n then some (decide (c = c0)) else none
  | .dT _ _ => none
  | .exc _ _ => none
  | _ => some false
/-- which own class is which: n of them -/
structure OwnC (C : Ct) (n c0 : Nat) : Prop where
  own : ∀ c, c < n → PySem.W.kitOne C.K (.ref (C.ad c)) (.ref (C.ad c0)) = some (decide (c = c0))
  oth : ∀ T ∈ ["NoneType", "bool", "int", "str", "tuple", "list", "dict"], PySem.W.kitOne C.K (.type T) (.ref (C.ad c0)) = some false
theorem ansO_ok {C : Ct} {n c0 : Nat} (oc : OwnC C n c0) : ∀ p b, ansO n c0 p = some b → PySem.W.kitOne C.K (tyP C p) (.ref (C.ad c0)) = some b := by
  intro p b h
  cases p <;> simp only [ansO] at h
  case dT => cases h
  case exc => cases h
  case ins c xs =>
    split at h
    · rename_i hc
      cases h
      exact oc.own c hc
    · cases h
  all_goals
    cases h
    exact oc.oth _ (by simp)
section
variable {X : Cx} {g : Gm} {C : Ct} {L : Nat → List Nat} {nm : Nat → Str} {e : Expr} {x : Str} {da : Env' → Res Val} {pos p ce : Pos}
theorem se_isO {n c0 : Nat} (hC : g.C = C) (ok : Ok X g) (cf : CF C L nm) (oc : OwnC C n c0) (hm : X.mg "isinstance" = none) (hg : Gl X "isinstance") (hmT : X.mg x = some (.ref (C.ad c0))) (hgT : Gl X x) (ha : PE X e (tE g da)) (hd : (x == ("__debug__" : Str)) = false)
    (hs : starEach [e, .Name x ce] X.env = (false, eval e X.env) :: starEach [.Name x ce] X.env) (hs2 : starEach [.Name x ce] X.env = (false, eval (.Name x ce) X.env) :: starEach [] X.env) (hpl : (backTo pos (starEach [.Name x ce] X.env)).any (·.1) = false) :
    PE X (.Call (.Name "isinstance" p) [e, .Name x ce] [] pos) (tE g (dIsi (ansO n c0) da)) := by
  subst hC
  exact se_isi ok cf.cls cf.ins (ansO_ok oc) (fun _ _ => rfl) (fun _ _ => rfl) hm hg ha (pe_glob hgT hmT (show RelV (.ref (g.C.ad c0)) (.ref (g.C.ad c0)) from rfl) hd) (by constructor) hs hs2 hpl
end
end VL
namespace VL
open PySem PySem.Spec L2
open PyProof.Rows hiding St
section
variable {X : Cx} {g : Gm} {C : Ct} {L : Nat → List Nat} {nm : Nat → Str} {a b : Expr} {da db : Env' → Res Val} {pos : Pos}
theorem se_ownQC (neg : Bool) {op : CmpOp} (hop : cmpN neg = op) {k j : Nat} {c : Nat} {fn : List PV → FR} (hC : g.C = C) (cm : C8.Met X.prog X.w X.K X.mg X.base k (C.ad c) "__eq__" (SpV C [false, false] fn) []) (hr : Room j X.A) (hk : k + 1 ≤ j) (ok : Ok X g) (cf : CF C L nm)
    (hne : PySem.W.findIn X.K (.ref (C.ad c)) "__ne__" = some (some (.builtin "object.__ne__"))) (ha : PE X a (tE g da)) (hb : PE X b (tE g db)) (hm : behindInMarks op b = false) : PE X (.Compare a [op] [b] pos) (tE g (dOwnQ neg c fn da db)) := by
  subst hC
  exact se_ownQ neg hop cm hr hk ok cf.cls cf.ins (fun _ => hne) ha hb hm
theorem st_ownQC (neg : Bool) {op : CmpOp} (hop : cmpN neg = op) {k j : Nat} {c : Nat} {fn : List PV → FR} (hC : g.C = C) (cm : C8.Met X.prog X.w X.K X.mg X.base k (C.ad c) "__eq__" (SpV C [false, false] fn) []) (hr : Room j X.A) (hk : k + 1 ≤ j) (ok : Ok X g) (cf : CF C L nm)
    (hne : PySem.W.findIn X.K (.ref (C.ad c)) "__ne__" = some (some (.builtin "object.__ne__"))) (ha : PE X a (tE g da)) (hb : PE X b (tE g db)) (hm : behindInMarks op b = false) : PT X (.Compare a [op] [b] pos) (tT g (asB (dOwnQ neg c fn da db))) := by
  subst hC
  exact st_ownQ neg hop cm hr hk ok cf.cls cf.ins (fun _ => hne) ha hb hm
end
end VL

set_option maxRecDepth 100000
set_option maxHeartbeats 2000000
namespace VL
open PySem PySem.Spec L2
open PyProof.Rows hiding St
/-! ### the head's facts of the package's errors -/
/-- an error's class, its __init__ as the program has it -/
structure ErrDf where
  cls : Str
  qual : Str
  params : Arguments
  body : List Stmt
  scope : Scope
abbrev ErrV : Type := Option (Str × Str × Arguments × FuncBody × Scope × Addr × List Str × Value × Addr)
def errAd (K : PySem.W.Frag) (x : Str) : Addr := He.ma K (He.ga K x) "__init__"
def errObs (K : PySem.W.Frag) (x : Str) : ErrV := match K.lookup (errAd K x) with
  | some ⟨_, _, .func fd, _⟩ => some (fd.name, fd.qualname, fd.params, fd.body, fd.scope, fd.globals, fd.closure.map (·.1), fd.defaults, fd.builtins)
  | _ => none
def ErrDf.val (d : ErrDf) : ErrV := some ("__init__", d.qual, d.params, .stmts d.body, d.scope, mainGlobals, [("__class__" : Str)], .none, builtinsNs)
def cellB (K : PySem.W.Frag) (cc C : Addr) : Bool := match K.lookup cc with
  | some ⟨_, _, .cell (some (.ref D)), _⟩ => decide (D = C)
  | _ => false
def fileB (K : PySem.W.Frag) (cda : Addr) (file : Str) : Bool := match K.lookup cda with
  | some ⟨_, _, .fields vs, _⟩ => (match (vs[2]? : Option Value) with
    | some (Value.str f _) => file == f
    | _ => false)
  | _ => false
def errB (file : Str) (K : PySem.W.Frag) (x qual : Str) : Bool := match K.lookup (errAd K x) with
  | some ⟨_, _, .func fd, _⟩ => (match fd.closure.map (·.2), fd.code with
    | [cc], .ref cda => PySem.W.codeIn K fd.code qual && (cellB K cc (He.ga K x) && fileB K cda file)
    | _, _ => false)
  | _ => false
theorem cellB_ok {K : PySem.W.Frag} {cc C : Addr} (h : cellB K cc C = true) : ∃ cl cld csl, K.lookup cc = some ⟨cl, cld, .cell (some (.ref C)), csl⟩ := by
  unfold cellB at h
  split at h
  · rename_i a b D sl e
    have := of_decide_eq_true h
    subst this
    exact ⟨_, _, _, e⟩
  · cases h
theorem fileB_ok {K : PySem.W.Frag} {cda : Addr} {file : Str} (h : fileB K cda file = true) : ∃ ccl cdd vs ccs f t, K.lookup cda = some ⟨ccl, cdd, .fields vs, ccs⟩ ∧ vs[2]? = some (.str f t) ∧ (file == f) = true := by
  unfold fileB at h
  split at h
  · rename_i a b vs sl e
    split at h
    · rename_i f t e2
      exact ⟨_, _, _, _, _, _, e, e2, h⟩
    · cases h
  · cases h
/-- the function, as the walk of an error's __init__ asks for it -/
structure ErrFn (file : Str) (K : PySem.W.Frag) (d : ErrDf) (C : Addr) : Prop where
  ex : ∃ oc od dV kV doc pm an ct osl cda cc, K.lookup (errAd K d.cls) = some ⟨oc, od, .func (PySem.W.ksFn "__init__" d.qual d.params d.body d.scope dV kV doc pm an (.ref cda) ct cc), osl⟩ ∧ dV = .none ∧ PySem.W.codeIn K (.ref cda) d.qual = true ∧
    (∃ cl cld csl, K.lookup cc = some ⟨cl, cld, .cell (some (.ref C)), csl⟩) ∧ ∃ ccl cdd vs ccs f t, K.lookup cda = some ⟨ccl, cdd, .fields vs, ccs⟩ ∧ vs[2]? = some (.str f t) ∧ (file == f) = true
theorem errFn_ok {file : Str} {K : PySem.W.Frag} {d : ErrDf} (e : errObs K d.cls = d.val) (h : errB file K d.cls d.qual = true) : ErrFn file K d (He.ga K d.cls) := by
  unfold errObs at e
  unfold errB at h
  cases q : K.lookup (errAd K d.cls) with
  | none => rw [q] at h; cases h
  | some o =>
    obtain ⟨oc, od, dt, osl⟩ := o
    rw [q] at h e
    cases dt with
    | func fd =>
      obtain ⟨n1, n2, n3, n4, n5, n6, n7, n8, n9, n10, n11, n12, n13, n14, n15⟩ := fd
      have e2 : (some (n1, n2, n3, n4, n5, n6, n7.map (·.1), n8, n15) : ErrV) = (some (("__init__" : Str), d.qual, d.params, FuncBody.stmts d.body, d.scope, mainGlobals, [("__class__" : Str)], Value.none, builtinsNs) : ErrV) := e
      simp only [Option.some.injEq, Prod.mk.injEq] at e2
      obtain ⟨h1, h2, h3, h4, h5, h6, h7, h8, h9⟩ := e2
      subst h1 h2 h3 h4 h5 h6 h8 h9
      dsimp only at h
      split at h
      · rename_i _ _ cc cda hcc
        obtain ⟨k1, k2⟩ := He.ba h
        obtain ⟨k3, k4⟩ := He.ba k2
        have hn7 : n7 = [(("__class__" : Str), cc)] := by
          match n7, h7, hcc with
          | [(a, b)], h7, hcc =>
            simp at h7 hcc
            rw [h7, hcc]
        subst hn7
        exact ⟨oc, od, _, n9, n10, n11, n12, n14, osl, cda, cc, q, rfl, k1, cellB_ok k3, fileB_ok k4⟩
      · cases h
    | _ => cases h
/-! ### the class -/
def oexB (K : PySem.W.Frag) (C : Addr) : Bool := match K.lookup C with
  | some ⟨.type "type", _, .cls cd, sl⟩ => (match cd.mro, sl.toList with
    | .ref C' :: bm, [_, _, _, _, some (.builtin n), _] => C' == C && (n == "ValueError.__new__" && (!cd.hasDel && (cd.hasDict && PySem.HandSPX.refsVE bm)))
    | _, _ => false)
  | _ => false
theorem oexB_ok {K : PySem.W.Frag} {C : Addr} (h : oexB K C = true) : ∃ nm q N bs bm sn sub ab col dd k0 k1 k2 k3 k5, K.lookup C = some (excClassObj nm q C N bs bm true sn sub ab col dd k0 k1 k2 k3 k5 "ValueError.__new__") ∧ PySem.HandSPX.refsVE bm = true := by
  unfold oexB at h
  split at h
  · rename_i dd cd sl ho
    split at h
    · rename_i C' bm k0 k1 k2 k3 n k5 hm hs
      obtain ⟨h1, h⟩ := He.ba h
      obtain ⟨h2, h⟩ := He.ba h
      obtain ⟨h3, h⟩ := He.ba h
      obtain ⟨h4, h5⟩ := He.ba h
      obtain rfl := beq_iff_eq.mp h1
      obtain rfl := beq_iff_eq.mp h2
      obtain ⟨nm, bs, mro, ns, qn, hd, sn, sub, ab, col, del⟩ := cd
      dsimp only at hm h3 h4
      subst hm h4
      have hdel : del = false := by cases del <;> first | rfl | cases h3
      subst hdel
      have hsl : sl = #[k0, k1, k2, k3, some (.builtin "ValueError.__new__"), k5] := by
        obtain ⟨l⟩ := sl
        simp only at hs
        rw [hs]
      subst hsl
      exact ⟨nm, qn, ns, bs, bm, sn, sub, ab, col, dd, k0, k1, k2, k3, k5, ho, h5⟩
    · cases h
  · cases h
/-- what is asked of an error's class (a base class of errors: the second list alone) -/
def supL (K : PySem.W.Frag) (C : Addr) : List Bool := [oexB K C, He.eqO (PySem.W.findIn K (.ref C) "__setattr__") (some (some (.builtin "object.__setattr__"))), decide (PySem.W.subIn K (.ref C) (.type "BaseException") = some true), decide (PySem.W.typeIn K (.ref C) = some (.type "type")), PySem.W.keepIn K (.ref C),
  He.eqO (PySem.W.ks_superIn K C C "__init__") (some (some (.builtin "ValueError.__init__"))), decide (PySem.W.subIn K (.ref C) (.type "ValueError") = some true), decide (PySem.W.mroIn K C (.ref C) = some true), He.eqO (PySem.W.nsIn K cStatics "thirdparty.any") (some none), He.eqO (PySem.W.nsIn K mainGlobals "super") (some none)]
def excL (K : PySem.W.Frag) (C : Addr) : List Bool := [He.eqO (PySem.W.findIn K (.ref C) "__getattribute__") (some (some (.builtin "BaseException.__getattribute__"))), He.eqO (PySem.W.findIn K (.ref C) "__getattr__") (some none), decide (PySem.W.subIn K (.ref C) (.type "BaseException") = some true), PySem.W.hasDictIn K C,
  He.eqO (PySem.W.findIn K (.ref C) "__class__") (some (some (.builtin "object.__class__"))), He.eqO (PySem.W.specialIn K (.builtin "object.__class__") "__get__") (some (some (.builtin "getset_descriptor.__get__"))), decide (PySem.W.takesIn K (.builtin "object.__class__") = some true), decide (PySem.W.mroIn K C (.type "object") = some true)]
theorem supL_ok {K : PySem.W.Frag} {C : Addr} (h : (supL K C).all id = true) : SupC K C := by
  simp only [supL, List.all_cons, List.all_nil, Bool.and_true, id] at h
  obtain ⟨h1, h⟩ := He.ba h
  obtain ⟨h2, h⟩ := He.ba h
  obtain ⟨h3, h⟩ := He.ba h
  obtain ⟨h4, h⟩ := He.ba h
  obtain ⟨h5, h⟩ := He.ba h
  obtain ⟨h6, h⟩ := He.ba h
  obtain ⟨h7, h⟩ := He.ba h
  obtain ⟨h8, h⟩ := He.ba h
  obtain ⟨h9, h10⟩ := He.ba h
  exact ⟨⟨oexB_ok h1, He.eqO_ok h2, of_decide_eq_true h3, of_decide_eq_true h4, h5⟩, He.eqO_ok h6, of_decide_eq_true h7, of_decide_eq_true h8, He.eqO_ok h9, He.eqO_ok h10⟩
theorem excL_ok {K : PySem.W.Frag} {C : Addr} (h : (excL K C).all id = true) : ExcC K C := by
  simp only [excL, List.all_cons, List.all_nil, Bool.and_true, id] at h
  obtain ⟨h1, h⟩ := He.ba h
  obtain ⟨h2, h⟩ := He.ba h
  obtain ⟨h3, h⟩ := He.ba h
  obtain ⟨h4, h⟩ := He.ba h
  obtain ⟨h5, h⟩ := He.ba h
  obtain ⟨h6, h⟩ := He.ba h
  obtain ⟨h7, h8⟩ := He.ba h
  exact ⟨He.eqO_ok h1, He.eqO_ok h2, of_decide_eq_true h3, h4, He.eqO_ok h5, He.eqO_ok h6, of_decide_eq_true h7, of_decide_eq_true h8⟩
/-- fields that no class of the error has; its __init__ -/
def fieL (K : PySem.W.Frag) (C : Addr) (fs : List Str) : Bool := fs.all fun f => He.eqO (PySem.W.findIn K (.ref C) f) (some none)
theorem fieL_ok {K : PySem.W.Frag} {C : Addr} {fs : List Str} (h : fieL K C fs = true) : ∀ f ∈ fs, PySem.W.findIn K (.ref C) f = some none := fun f hf => He.eqO_ok (List.all_eq_true.mp h f hf)
def iniB (K : PySem.W.Frag) (x : Str) : Bool := He.eqO (PySem.W.findIn K (.ref (He.ga K x)) "__init__") (some (some (.ref (errAd K x)))) && decide (PySem.W.typeIn K (.ref (errAd K x)) = some (.type "function"))
/-! ### the hook with the errors' functions -/
def asY (g : Addr → Option Obj) (n : Nat) : List Addr := cStatics :: He.asD g n
theorem saysY {as : List Addr} {fa : List He.Fa} {fn : List He.DefD} {ts : List He.Tab} {tf : List He.Defn} {ex : PySem.W.Frag → Bool} {w : World} {h : Heap} (e1 : He.obsT fa fn ts (He.frT h.get? as) = He.valT fn ts w) (e2 : (ex (He.frT h.get? as) && He.tabsB h.get? tf (He.frT h.get? as)) = true) :
    He.SaysX fa fn ts tf ex w h (He.frT h.get? as) := by
  obtain ⟨more, tabs⟩ := He.ba e2
  have each : ∀ p ∈ tf, PySem.W.codeHdIn (He.frT h.get? as) (He.cT (He.frT h.get? as) p).1 (He.cT (He.frT h.get? as) p).2 = true ∧ ∃ o, h.get? (He.cT (He.frT h.get? as) p).2 = some o ∧ He.emptyTab o = true := by
    intro p hp
    obtain ⟨z1, z2⟩ := He.ba (List.all_eq_true.mp tabs p hp)
    refine ⟨z1, ?_⟩
    split at z2
    · rename_i o eo
      exact ⟨o, eo, z2⟩
    · cases z2
  constructor
  · exact e1
  · exact more
  · exact fun p hp => (each p hp).1
  · intro p hp
    obtain ⟨_, o, q, z⟩ := each p hp
    exact He.frT_none q z
  · intro p hp
    obtain ⟨_, o, q, z⟩ := each p hp
    rw [q, He.emptyTab_eq z]
abbrev AlY : Type := He.AlX × List ErrV
def obsY (n : Nat) (fa : List He.Fa) (fn : List He.DefD) (tf : List He.Defn) (ex : PySem.W.Frag → Bool) (es : List ErrDf) (g : Addr → Option Obj) : AlY :=
  ((He.obsT fa fn [] (He.frT g (asY g n)), ex (He.frT g (asY g n)) && He.tabsB g tf (He.frT g (asY g n))), es.map fun d => errObs (He.frT g (asY g n)) d.cls)
def hookY (n : Nat) (fa : List He.Fa) (fn : List He.DefD) (tf : List He.Defn) (ex : PySem.W.Frag → Bool) (es : List ErrDf) : PySem.W.Hook where
  α := AlY
  obs := fun s => obsY n fa fn tf ex es s.heap.get?
  val := fun w => ((He.valT fn [] w, true), es.map ErrDf.val)
  says := fun w h => ∃ K : PySem.W.Frag, K.In h ∧ He.SaysX fa fn [] tf ex w h K ∧ es.map (fun d => errObs K d.cls) = es.map ErrDf.val
  of := fun _ _ e => ⟨_, He.frT_in, saysY (congrArg (fun z : AlY => z.1.1) e) (congrArg (fun z : AlY => z.1.2) e), congrArg (fun z : AlY => z.2) e⟩
  keeps := fun _ _ _ ⟨K, hK, c, ce⟩ k => ⟨K, PySem.W.Frag.In.keeps hK k, ⟨c.t, c.more, c.hd, c.out, fun p hp => k _ _ (c.empty p hp)⟩, ce⟩
theorem obsY_eq {n : Nat} {fa : List He.Fa} {fn : List He.DefD} {tf : List He.Defn} {ex : PySem.W.Frag → Bool} {es : List ErrDf} {g : Addr → Option Obj} {s : Shared} (h : ∀ a, g a = s.heap.get? a) : obsY n fa fn tf ex es g = (hookY n fa fn tf ex es).obs s := by
  obtain rfl : g = s.heap.get? := funext h
  rfl
theorem errs_at {K : PySem.W.Frag} {es : List ErrDf} (h : es.map (fun d => errObs K d.cls) = es.map ErrDf.val) {d : ErrDf} (hd : d ∈ es) : errObs K d.cls = d.val := List.map_inj_left.mp h d hd
end VL

set_option maxRecDepth 100000
set_option maxHeartbeats 2000000
namespace VL
open PySem PySem.Spec L2
open PyProof.Rows hiding St
/-! ### text * int, text[::-1], list != list of another length -/
def repS (x : Str) (k : Nat) : Str := ⟨(List.replicate k x.cps).foldl (· ++ ·) #[]⟩
def semMulX : PV → PV → Option Val
  | .str x, .int k => if 1 < k ∧ k < 2 ^ 31 ∧ 0 < x.length ∧ x.length * k.toNat ≤ big then some (.fz (.str (repS x k.toNat))) else if k = 1 then some (.fz (.str x)) else none
  | p, q => semMul p q
def semNeX : PV → PV → Option Val
  | .lst (_ :: _), .lst [] => some (.fz (.bl true))
  | p, q => semNe p q
theorem repS_len (x : Str) (k : Nat) : (repS x k).length = x.length * k := by
  have go : ∀ (k : Nat) (a : Array _), ((List.replicate k x.cps).foldl (· ++ ·) a).size = a.size + x.cps.size * k := by
    intro k
    induction k with
    | zero => intro a; simp
    | succ k ih =>
      intro a
      rw [List.replicate_succ, List.foldl_cons, ih, Array.size_append, Nat.mul_succ]
      omega
  have := go k #[]
  simpa [repS, Str.length] using this
section
variable {X : Cx} {g : Gm} {F H : Hp} {σ : St} {env : Env'}
theorem o_mulX : Op2 X g (binaryOp .Mult) semMulX := by
  intro pins s σ F H env p q v u vv uu r Q I S r1 r2 t1 t2 e k
  unfold semMulX at e
  split at e
  · rename_i x n
    cases rt_str t1
    cases rt_int t2
    obtain ⟨t, rfl⟩ := r1
    obtain ⟨t', rfl⟩ := r2
    split at e
    · rename_i hc
      obtain ⟨h1, h2, h3, h4⟩ := hc
      cases e
      have hz : x.length * n.toNat ≤ sizeLine := by rw [big_eq]; exact h4
      have hsz : (repS x n.toNat).length = x.length * n.toNat := repS_len x _
      refine P.mul_str ?_ (fun _ _ => ?_) (fun _ _ => ?_) ?_
      · have e1 : ¬ n < -(2 ^ 63 : Int) := by omega
        have e2 : ¬ n ≥ 2 ^ 63 := by omega
        rw [decide_eq_false e1, decide_eq_false e2]; rfl
      · have e1 : (n : Int) ≤ 2 ^ 31 := by omega
        have e2 : x.length ≤ x.length * n.toNat := Nat.le_mul_of_pos_right _ (by omega)
        have e3 : ((2 ^ 63 - 1) / n : Int) ≥ (2 ^ 63 - 1) / 2 ^ 31 := by
          refine Int.le_ediv_of_mul_le (by omega) ?_
          omega
        have e4 : (x.length : Int) ≤ sizeLine := by omega
        have e5 : (sizeLine : Int) ≤ (2 ^ 63 - 1) / 2 ^ 31 := by decide
        omega
      · show decide _ = false
        exact decide_eq_false (by omega)
      · rw [if_neg (by omega), if_neg (by
          have : ¬ (n == 1) = true := by simp; omega
          simp; omega)]
        exact ⟨by show (repS x n.toNat).length ≤ _; rw [hsz]; exact hz, ⟨.str _, H, I.tok _, ⟨_, rfl⟩, fin_str S k⟩⟩
    · split at e
      · rename_i h1
        subst h1
        cases e
        refine P.mul_str (by decide) (fun _ z => by simp at z) (fun _ z => by simp at z) ?_
        rw [if_neg (by decide), if_pos (by simp)]
        exact ⟨.str x, H, I, ⟨_, rfl⟩, fin_str S k⟩
      · cases e
  · exact o_mul pins s σ F H env p q v u vv uu r Q I S r1 r2 t1 t2 e k
theorem o_neX (ok : Ok X g) : Op2 X g (compareOp .NotEq) semNeX := by
  intro pins s σ F H env p q v u vv uu r Q I S r1 r2 t1 t2 e k
  unfold semNeX at e
  split at e
  · cases e
    obtain ⟨a, vs, rfl, q1, s1⟩ := t1
    obtain ⟨b, ws, rfl, q2, s2⟩ := t2
    cases r1
    cases r2
    have hl1 := I.list (SqL.of q1)
    have hl2 := I.list (SqL.of q2)
    obtain ⟨its, r, ht, hz⟩ := hl1
    obtain ⟨its2, r', ht2, hz2⟩ := hl2
    refine SeqAt.RcNeAt.lists_lengths ht.isList ht2.isList ?_ ?_ _ _ _ _ ?_
    · have e1 := r.length
      have e2 := r'.length
      have e3 := s1.length
      have e4 := s2.length
      rw [List.size_toArray, List.size_toArray, ← e1, ← e2, e3, e4]
      simp
    · have := ok.u; omega
    · exact ⟨.bl true, H, I, rfl, fin_bl S k⟩
  · exact o_ne ok pins s σ F H env p q v u vv uu r Q I S r1 r2 t1 t2 e k
/-- x[::-1], x a text or a list -/
def revS (x : Str) : Str := Txt.sliceBy x none none (-1, 0)
def dRevX (da : Env' → Res Val) : Env' → Res Val := fun e => (stl da e).bind fun x e1 => match peek x e1 with
  | some (.str x) => if x.length ≤ big then .ok (.fz (.str (revS x))) e1 else .bad
  | _ => .bad
def tRevS (te : TE) : TE := fun σ H Q => te σ H fun x H1 => ∃ t, x = .str t ∧ t.length ≤ sizeLine ∧ Q (.str (revS t)) H1
theorem pe_revS {e : Expr} {te : TE} {k : Nat} {p1 p2 p3 pos : Pos} (he : PE X e te) : PE X (.Subscript e (.Slice none none (some (.UnaryOp .USub (.Constant (.int 1) k p1) p2)) p3) pos) (tRevS te) := by
  refine ⟨fun pins s σ H Q I h => ?_⟩
  refine Subscript_ (thn (he.run pins s σ H _ I h) fun v s1 ⟨x, H1, I1, r1, q1⟩ => ?_)
  obtain ⟨t, ex, hx, q⟩ := q1
  subst ex
  obtain ⟨tk, rfl⟩ := r1
  have hst : PO X (some (.UnaryOp .USub (.Constant (.int 1) k p1) p2)) (tPart (tUn (rU fun i => .int (-i)) (tC (.int 1)))) := po_some (pe_un un_neg pe_int)
  refine wpAny_Slice (thn (po_none.run pins s1 σ H1 (fun o H2 => o = none ∧ H2 = H1) I1 ⟨rfl, rfl⟩) fun vl s2 ⟨l, H2, I2, pl, el, e2⟩ => ?_)
  subst el e2
  refine thn (po_none.run pins s2 σ H2 (fun o H3 => o = none ∧ H3 = H2) I2 ⟨rfl, rfl⟩) fun vu s3 ⟨u, H3, I3, pu, eu, e3⟩ => ?_
  subst eu e3
  refine thn (hst.run pins s3 σ H3 (fun o H4 => o = some (-1) ∧ H4 = H3) I3 ⟨1, rfl, -1, rfl, rfl, rfl⟩) fun vs s4 ⟨o, H4, I4, ps, eo, e4⟩ => ?_
  subst eo e4
  have I5 : Inv X pins σ H4 { s4 with heap := s4.heap.push { cls := .type "slice", data := .fields #[vl, vu, vs] } } := I4.kept (t' := s4.toks) fun b ob q => Heap.get?_push_of_some _ q
  cases pl
  cases pu
  obtain ⟨tk2, rfl⟩ : ∃ tk2, vs = .int (-1) tk2 := by
    cases ps
    exact ⟨_, rfl⟩
  show wpAny (model X.prog X.w) X.A (subscriptTail e (.Slice none none (some (.UnaryOp .USub (.Constant (.int 1) k p1) p2)) p3) (.str t tk) (.ref s4.heap.objs.size)) (EP X pins σ Q) X.xe { s4 with heap := s4.heap.push { cls := .type "slice", data := .fields #[.none, .none, .int (-1) tk2] } }
  refine tail_any (ops := [.str t tk, .ref s4.heap.objs.size]) (typeIs_str _ _ _) (F.slot_str_getitem.lookup) ?_ (by with_unfolding_all rfl)
  refine wpAny_getItem_str_slice (l := none) (u := none) (st := some (-1, tk2)) ⟨_, Heap.get?_push_size _ rfl, rfl, rfl⟩ (show ((-1 : Int) == 0) = false by decide) ?_
  refine post_val_or_str ⟨Nat.le_trans (Txt.sliceBy_le t _ _ (-1, tk2) (show (-1 : Int) ≠ 0 by decide)) hx, fun t' c => ⟨.str (revS t), H4, I5.tok _, ⟨_, rfl⟩, q⟩⟩
theorem se_revX {a : Expr} {da : Env' → Res Val} {k : Nat} {p1 p2 p3 pos : Pos} (ha : PE X a (tE g da)) : PE X (.Subscript a (.Slice none none (some (.UnaryOp .USub (.Constant (.int 1) k p1) p2)) p3) pos) (tE g (dRevX da)) :=
  peImp (pe_revS (peo ha)) fun σ H Q ⟨F, env, S, go⟩ => ⟨F, env, S, (Go.bind go).mono fun x e1 F1 H1 x1 S1 k v o r => by
    cases hp : peek x e1 with
    | none => simp only [hp] at k; exact k.elim
    | some p =>
      simp only [hp] at k
      cases p <;> try exact k.elim
      rename_i t
      simp only at k
      split at k
      · rename_i hz
        have hr := peek_ok S1 r hp
        cases rt_str hr
        exact ⟨t, rfl, by rw [big_eq]; exact hz, fin_str S1 fun F4 H4 u x4 S4 ru => k F4 H4 x4 S4 u ru⟩
      · exact k.elim⟩
end
end VL

set_option maxRecDepth 100000
set_option maxHeartbeats 2000000
namespace VL
open PySem PySem.Spec L2 LamX
open PyProof.Rows hiding St
/-! ### defs that call what may raise, and let nothing out -/
section
variable {C : Ct} {P : Program} {w : World} {K : PySem.W.Frag} {mg : Str → Option Value} {base : Heap} {x qual : Str} {params : Arguments} {body : List Stmt} {scope : Scope} {dvs : List V} {kws : List (Str × V)} {f c : Addr} {fd : FuncData} {N ps : List Str} {md : Md} {k : Nat} {d : Env' → Res Fl}
theorem erx0 {X : Cx} {F H : Hp} {vs : List V} : ErX X (callG C F H md vs) := ⟨fun _ _ _ _ => False, takes0, fun _ _ _ _ _ _ _ w _ _ => w.elim⟩
theorem fnE (Fd : FunD K x qual params body scope dvs kws f fd) (S : FnScope N ps scope) (hmd : md.length = ps.length) (hn : md.length ≤ N.length) (hK : C.K = K)
    (hb : ∀ (cdv : Value) (A : Around) (outer : List Env) (s : Shared) (H : Hp) (E : XK) (g : Gm), g.C = C → Room k (cxOf C8.CX0 P w K mg base N qual scope f cdv A outer s H E).nox.A → Ok (cxOf C8.CX0 P w K mg base N qual scope f cdv A outer s H E).nox g →
      ErX (cxOf C8.CX0 P w K mg base N qual scope f cdv A outer s H E).nox g → PSs (cxOf C8.CX0 P w K mg base N qual scope f cdv A outer s H E).nox body (tS g d)) : FnOk P w K mg base C8.CX0 (k + 1) f fd ps (SpV C md (callFn N.length md d)) := by
  refine Fd.ok S (fun vs H Q E h => by rw [SpV.len vs H Q E h, hmd]) fun cdv A outer s H vs Q E hr h => ?_
  obtain ⟨F, q⟩ := body_ok (E := E) hn h
  exact ⟨_, PSs.nox (hb cdv A outer s H E (callG C F H md vs) rfl hr ⟨hK, by have := hr.un; show A.units + 3 + 65 < cLine; have : (A.deeper (envOfC qual scope s.heap.objs.size f cdv)).units = A.units + 3 := rfl; omega, rfl⟩ erx0), q⟩
theorem fnEc (Fd : FunD K x qual params body scope dvs kws f fd) (hc : fd.code = .ref c) (S : FnScope N ps scope) (hmd : md.length = ps.length) (hn : md.length ≤ N.length) (hK : C.K = K)
    (hb : ∀ (A : Around) (outer : List Env) (s : Shared) (H : Hp) (E : XK) (g : Gm), g.C = C → Room k (cxOf C8.CX0 P w K mg base N qual scope f (.ref c) A outer s H E).nox.A → Ok (cxOf C8.CX0 P w K mg base N qual scope f (.ref c) A outer s H E).nox g →
      ErX (cxOf C8.CX0 P w K mg base N qual scope f (.ref c) A outer s H E).nox g → PSs (cxOf C8.CX0 P w K mg base N qual scope f (.ref c) A outer s H E).nox body (tS g d)) : FnOk P w K mg base C8.CX0 (k + 1) f fd ps (SpV C md (callFn N.length md d)) := by
  obtain ⟨oc, od, dV, kV, doc, pm, an, cdv, ct, osl, rfl, lk, hcd, _, _⟩ := Fd.ex
  obtain rfl : cdv = .ref c := hc
  refine fn_of lk hcd S (fun vs H Q E h => by rw [SpV.len vs H Q E h, hmd]) fun A outer s H vs Q E hr h => ?_
  obtain ⟨F, q⟩ := body_ok (E := E) hn h
  exact ⟨_, PSs.nox (hb A outer s H E (callG C F H md vs) rfl hr ⟨hK, by have := hr.un; show A.units + 3 + 65 < cLine; have : (A.deeper (envOfC qual scope s.heap.objs.size f (.ref c))).units = A.units + 3 := rfl; omega, rfl⟩ erx0), q⟩
end
/-! ### the class of an error, as the walks ask for it -/
structure EMk (P : Program) (w : World) (K : PySem.W.Frag) (mg : Str → Option Value) (base : Heap) (x : Str) (C : Addr) (fs : List Str) : Prop where
  ex : ∃ (fI : Addr) (fd : FuncData) (ps : List Str), SupC K C ∧ PySem.W.findIn K (.ref C) "__init__" = some (some (.ref fI)) ∧ PySem.W.typeIn K (.ref fI) = some (.type "function") ∧ FnOk P w K mg base C8.CX0 1 fI fd ps (spErr C fs) ∧ Binds K fd ps []
  few : fs.length ≤ 900
  nam : mg x = some (.ref C)
  dbg : (x == ("__debug__" : Str)) = false
section
variable {X : Cx} {g : Gm} {C : Ct} {x : Str} {c n : Nat} {j : Nat} {p pos rpos : Pos} {e : Expr} {es : List Expr} {ds : List (Env' → Res Val)}
theorem ss_raiseE (hC : g.C = C) (ok : Ok X g) (ex : ErX X g) (M : EMk X.prog X.w X.K X.mg X.base x (C.ea c) (C.el c)) (hn : (C.el c).length = n) (hr : Room j X.A) (hj : 2 ≤ j) (hg : Gl X x) (ha : PA X (e :: es) (tAs g (dArgs ds))) (he : starEach (e :: es) X.env = (false, eval e X.env) :: starEach es X.env)
    (hpl : (backTo pos (starEach es X.env)).any (·.1) = false) : PS X (.Raise (some (.Call (.Name x p) (e :: es) [] pos)) none rpos) (tS g (dRaise c n ds)) := by
  subst hC
  obtain ⟨fI, fd, ps, h1, h2, h3, h4, h5⟩ := M.ex
  exact ss_raise ok ex (CX := C8.CX0) (k := 1) (fI := fI) (fd := fd) (ps := ps) ⟨h1, h2, h3, h4, h5, C8.pass0, M.few, M.nam, M.dbg⟩ hn (hr.mono hj) hg ha he hpl
theorem ss_raiseE0 (hC : g.C = C) (ok : Ok X g) (ex : ErX X g) (M : EMk X.prog X.w X.K X.mg X.base x (C.ea c) (C.el c)) (hn : (C.el c).length = 0) (hr : Room j X.A) (hj : 2 ≤ j) (hg : Gl X x) : PS X (.Raise (some (.Call (.Name x p) [] [] pos)) none rpos) (tS g (dRaise c 0 [])) := by
  subst hC
  obtain ⟨fI, fd, ps, h1, h2, h3, h4, h5⟩ := M.ex
  exact ss_raise0 ok ex (CX := C8.CX0) (k := 1) (fI := fI) (fd := fd) (ps := ps) ⟨h1, h2, h3, h4, h5, C8.pass0, M.few, M.nam, M.dbg⟩ hn (hr.mono hj) hg
/-! ### calls of what may raise -/
variable {k : Nat} {md : Md} {fn : List PV → FX} {dvs : List V} {dps : List PV}
theorem se_fnXC (hC : g.C = C) (ex : ErX X g) (c : CalX X.prog X.w X.K X.mg X.base k x (SpVX C md fn) dvs) (hr : Room j X.A) (hk : k ≤ j) (hg : Gl X x) (hd : ∀ F, Rs g.C F dps dvs) (ha : PA X (e :: es) (tAs g (dArgs ds))) (hdb : (x == ("__debug__" : Str)) = false)
    (he : starEach (e :: es) X.env = (false, eval e X.env) :: starEach es X.env) (hpl : (backTo pos (starEach es X.env)).any (·.1) = false) : PE X (.Call (.Name x p) (e :: es) [] pos) (tE g (dFnX md fn dps ds)) := by
  subst hC
  exact se_fnX ex c hr hk hg hd ha hdb he hpl
theorem se_mkXC {c : Nat} {ca : Addr} (hC : g.C = C) (hca : C.ad c = ca) (ex : ErX X g) (cm : MakX X.prog X.w X.K X.mg X.base k x ca (SpVX C (true :: md) fn) dvs) (hr : Room j X.A) (hk : k + 1 ≤ j) (hg : Gl X x) (hd : ∀ F, Rs g.C F dps dvs) (ha : PA X (e :: es) (tAs g (dArgs ds))) (hdb : (x == ("__debug__" : Str)) = false)
    (he : starEach (e :: es) X.env = (false, eval e X.env) :: starEach es X.env) (hpl : (backTo pos (starEach es X.env)).any (·.1) = false) : PE X (.Call (.Name x p) (e :: es) [] pos) (tE g (dMkX c md fn dps ds)) := by
  subst hC
  subst hca
  exact se_mkX ex cm hr hk hg hd ha hdb he hpl
end
/-! ### the clauses' suites -/
structure SuF (X : Cx) (D : Addr) (d : Option Addr) (oe : Obj) : Prop where
  ex : ExcC X.K D
  hz : Zc (.ref D) d oe
  hd : ∃ vs, oe.data = .fields vs
theorem ExcC.xf {K : PySem.W.Frag} {D : Addr} (h : ExcC K D) : XfC K D := ⟨h.hg, h.hk, h.hs, h.hd⟩
section
variable {X : Cx} {C : Ct} {a D : Addr} {oe : Obj} {d : Option Addr} {pn : List (Addr × Obj)} {n : Str} {i : Nat}
def NoF (K : PySem.W.Frag) (D : Addr) (fs : List CIt) : Prop := ∀ f, CIt.fld f ∈ fs → PySem.W.findIn K (.ref D) f = some none
theorem itD_str {m : Str} {j : Nat} {p : Pos} (_ : NoF X.K D [CItD.it C (.str m)]) : PE (X.suite a ((a, oe) :: pn)) (.Constant (.str m) j p) (tIt X.K D a d i (CItD.it C (.str m))) := it_str
theorem itD_fld {k : Nat} {f : Str} {p1 p2 : Pos} (su : SuF X D d oe) (hi : X.N[i]? = some n) (hv : X.env.kindOf n = some .local) (d0 : (n == ("__debug__" : Str)) = false) (d1 : (n == ("__classdict__" : Str)) = false) (hn : C.nm k = f) (hb : attributeBase (.Name n p1) f X.env (eval (.Name n p1) X.env) = eval (.Name n p1) X.env)
    (no : NoF X.K D [CItD.it C (.fld k)]) : PE (X.suite a ((a, oe) :: pn)) (.Attribute (.Name n p1) f p2) (tIt X.K D a d i (CItD.it C (.fld k))) := by
  subst hn
  exact it_fld (ExcC.xf su.ex) su.hz su.hd hi hv d0 d1 (no _ (List.mem_cons_self ..)) hb
theorem itD_isi {c : Nat} {ans : Nat → Option Bool} {x : Str} {p1 p2 p3 p4 : Pos} (su : SuF X D d oe) (hi : X.N[i]? = some n) (hv : X.env.kindOf n = some .local) (d0 : (n == ("__debug__" : Str)) = false) (d1 : (n == ("__classdict__" : Str)) = false)
    (hg : Gl X "isinstance") (hm : X.mg "isinstance" = none) (hgx : Gl X x) (hmx : X.mg x = some (.ref (C.ea c))) (dx : (x == ("__debug__" : Str)) = false) (hs : starEach [.Name n p2, .Name x p3] X.env = (false, eval (.Name n p2) X.env) :: starEach [.Name x p3] X.env)
    (hs2 : starEach [.Name x p3] X.env = (false, eval (.Name x p3) X.env) :: starEach [] X.env) (hpl : (backTo p4 (starEach [.Name x p3] X.env)).any (·.1) = false) (_ : NoF X.K D [CItD.it C (.isi ans c)]) :
    PE (X.suite a ((a, oe) :: pn)) (.Call (.Name "isinstance" p1) [.Name n p2, .Name x p3] [] p4) (tIt X.K D a d i (CItD.it C (.isi ans c))) := it_isi su.ex su.hz su.hd hi hv d0 d1 hg hm hgx hmx dx hs hs2 hpl
theorem padn (_ : NoF X.K D ([].map (CItD.it C))) : PA (X.suite a ((a, oe) :: pn)) [] (tIts X.K D a d i ([].map (CItD.it C))) := its_nil
theorem padc {e : Expr} {es : List Expr} {it : CItD} {its : List CItD} (h : NoF X.K D [CItD.it C it] → PE (X.suite a ((a, oe) :: pn)) e (tIt X.K D a d i (CItD.it C it))) (hr : NoF X.K D (its.map (CItD.it C)) → PA (X.suite a ((a, oe) :: pn)) es (tIts X.K D a d i (its.map (CItD.it C))))
    (hs : starEach (e :: es) X.env = (false, eval e X.env) :: starEach es X.env) (no : NoF X.K D ((it :: its).map (CItD.it C))) : PA (X.suite a ((a, oe) :: pn)) (e :: es) (tIts X.K D a d i ((it :: its).map (CItD.it C))) :=
  its_cons (h fun f hf => no f (by rw [List.map_cons]; exact List.mem_cons.mpr (.inl (List.mem_singleton.mp hf)))) (hr fun f hf => no f (by rw [List.map_cons]; exact List.mem_cons_of_mem _ hf)) hs
theorem cla_set {c : ClD} {y : Nat} {m : Str} {es : List Expr} {x1 : Nat} {p1 p2 p3 : Pos} (hyc : c.y = some y) (hN : X.N.Nodup) (hy : X.N[y]? = some m) (hl : X.env.kindOf m = some .local)
    (ha : ∀ (a : Addr) (oe : Obj) (D : Addr) (d : Option Addr) (pn : List (Addr × Obj)), SuF X D d oe → NoF X.K D (c.its.map (CItD.it C)) → PA (X.suite a ((a, oe) :: pn)) es (tIts X.K D a d c.i (c.its.map (CItD.it C)))) :
    ∀ (a : Addr) (oe : Obj) (cls : Value) (d : Option Addr) (pn : List (Addr × Obj)), Zc cls d oe → (∃ vs, oe.data = .fields vs) → PSs (X.suite a ((a, oe) :: pn)) [.Assign [.Name m p1] (.Tuple es x1 p2) p3] (tsOf X.K C c a cls d) := by
  intro a oe cls d pn hz hd
  refine ⟨fun pins s σ H E I ⟨D, e1, e2, e3, q⟩ => ?_⟩
  subst e1
  rw [hyc] at q
  exact (su_set hN hy hl (ha a oe D d pn ⟨e2, hz, hd⟩ e3)).run pins s σ H E I q
theorem cla_ret {c : ClD} {es : List Expr} {x1 : Nat} {p2 p3 : Pos} (hyc : c.y = none)
    (ha : ∀ (a : Addr) (oe : Obj) (D : Addr) (d : Option Addr) (pn : List (Addr × Obj)), SuF X D d oe → NoF X.K D (c.its.map (CItD.it C)) → PA (X.suite a ((a, oe) :: pn)) es (tIts X.K D a d c.i (c.its.map (CItD.it C)))) :
    ∀ (a : Addr) (oe : Obj) (cls : Value) (d : Option Addr) (pn : List (Addr × Obj)), Zc cls d oe → (∃ vs, oe.data = .fields vs) → PSs (X.suite a ((a, oe) :: pn)) [.Return (some (.Tuple es x1 p2)) p3] (tsOf X.K C c a cls d) := by
  intro a oe cls d pn hz hd
  refine ⟨fun pins s σ H E I ⟨D, e1, e2, e3, q⟩ => ?_⟩
  subst e1
  rw [hyc] at q
  exact (su_ret (ha a oe D d pn ⟨e2, hz, hd⟩ e3)).run pins s σ H E I q
end
/-! ### x(lambda: body) -/
section
variable {X : Cx} {g : Gm} {C : Ct}
theorem ok_lam {A : Around} {outer : List Env} {s : Shared} {H : Hp} {E : XK} {scope : Scope} {f c' : Addr} {k : Nat} (ok : Ok X g) (hr : Room k (A.deeper (lamEnv X scope s.heap.objs.size f c'))) : Ok (lamCx X A outer s H E scope f c') (lamG g E) :=
  ⟨ok.K, by have := hr.un; show (A.deeper (lamEnv X scope s.heap.objs.size f c')).units + 65 < cLine; omega, rfl⟩
/-- what is known of the answers of isinstance and of clauses -/
structure AnsF (K : PySem.W.Frag) (C : Ct) (ans : Nat → Nat → Option Bool) : Prop where
  exm : ∀ c n b, ans c n = some b → PySem.W.exmOne K (.ref (C.ea n)) (.ref (C.ea c)) = some b
  kit : ∀ c n b, ans c n = some b → PySem.W.kitOne K (.ref (C.ea n)) (.ref (C.ea c)) = some b
/-- a clause over values: the class, its name's slot, its tuple -/
structure ClE where
  c : Nat
  i : Nat
  its : List CItD
def ClE.cs (ans : Nat → Nat → Option Bool) (C : Ct) (y : Option Nat) (l : ClE) : Value × ClD := (.ref (C.ea l.c), ⟨ans l.c, l.i, y, l.its⟩)
def ClE.d (ans : Nat → Nat → Option Bool) (y : Option Nat) (l : ClE) : ClD := ⟨ans l.c, l.i, y, l.its⟩
def itsOk (ans : Nat → Nat → Option Bool) : List CItD → Prop
  | [] => True
  | .isi a c :: r => a = ans c ∧ itsOk ans r
  | _ :: r => itsOk ans r
theorem itsOk.itr {ans : Nat → Nat → Option Bool} (af : AnsF X.K g.C ans) : ∀ {its : List CItD}, itsOk ans its → ∀ it ∈ its, ItR X g it
  | [], _, it, h => by cases h
  | .str _ :: r, o, it, h => by
    rcases List.mem_cons.mp h with rfl | h
    · exact ⟨fun _ _ e => by cases e⟩
    · exact itsOk.itr af (its := r) o it h
  | .fld _ :: r, o, it, h => by
    rcases List.mem_cons.mp h with rfl | h
    · exact ⟨fun _ _ e => by cases e⟩
    · exact itsOk.itr af (its := r) o it h
  | .isi a c :: r, o, it, h => by
    rcases List.mem_cons.mp h with rfl | h
    · exact ⟨fun a' c' e n b hb => by cases e; obtain ⟨rfl, _⟩ := o; exact af.kit _ _ _ hb⟩
    · exact itsOk.itr af (its := r) o.2 it h
theorem cs_ok {ans : Nat → Nat → Option Bool} (af : AnsF X.K g.C ans) {y : Option Nat} {ls : List ClE} (o : ∀ l ∈ ls, itsOk ans l.its) : ∀ p ∈ ls.map (ClE.cs ans g.C y), (∀ n b, p.2.ans n = some b → PySem.W.exmOne X.K (.ref (g.C.ea n)) p.1 = some b) ∧ ∀ it ∈ p.2.its, ItR X g it := by
  intro p hp
  obtain ⟨l, hl, rfl⟩ := List.mem_map.mp hp
  exact ⟨fun n b h => af.exm _ _ _ h, (o l hl).itr af⟩
/-- told = () / try: a() except C as e: told = (..) .. / return told -/
theorem se_refF {x a told : Str} {gf c P : Addr} {k y j0 : Nat} {pg : Arguments} {bg : List Stmt} {sg : Scope} {kws : List (Str × V)} {fd : FuncData} {Ng : List Str} {params : Arguments} {body : Expr} {scope : Scope} {p lpos pos : Pos} {h₀ : ExceptHandler} {hds' : List ExceptHandler} {x1 : Nat} {p1 p2 p3 p4 p5 p6 p7 p8 p9 : Pos}
    {ans : Nat → Nat → Option Bool} {ls : List ClE} {db : Env' → Res Val} {L : Nat → List Nat} (hC : g.C = C) (ok : Ok X g) (co : ∀ c, ErrC C c) (hL : C.eL = L) (af : AnsF X.K C ans) (oi : ∀ l ∈ ls, itsOk ans l.its) (hi : ∀ l ∈ ls, l.i ≠ y)
    (hg : Gl X x) (hm : X.mg x = some (.ref gf)) (Fd : FunD X.K x x pg bg sg [] kws gf fd) (hbg : bg = [.Assign [.Name told p7] (.Tuple [] x1 p8) p9, .Try [.Expr (.Call (.Name a p1) [] [] p2) p3] (h₀ :: hds') [] [] p4, .Return (some (.Name told p5)) p6])
    (hNy : Ng[y]? = some told) (y0 : y ≠ 0) (hlt : sg.names.lookup told = some .local) (d0 : (told == ("__debug__" : Str)) = false) (d1 : (told == ("__classdict__" : Str)) = false)
    (hb : ∀ (kV doc pm : Value) (an : Option Addr) (cdv ct : Value) (us : List Value), us.length = [a].length → bindArgs (PySem.W.fnOf x x pg bg sg .none kV doc pm an cdv ct) ⟨us, []⟩ = pure ([a].zip us)) (Sg : FnScope Ng [a] sg) (hNg : Ng[0]? = some a) (hva : Vis sg a)
    (hcl : ∀ (cdv : Value) (s : Shared) (H : Hp), ClaOk (cxOf C8.CX0 X.prog X.w X.K X.mg X.base Ng x sg gf cdv X.A X.stack s H C8.E0).nox (h₀ :: hds') (clas X.K C (ls.map (ClE.cs ans C (some y))))) (h0 : ∀ f : Addr, (L2.start Ng [V.ref f])[0]? = some (some (V.ref f))) (hl : ∀ f : Addr, (L2.start Ng [V.ref f]).length = Ng.length)
    (TB : TabB X.base X.mg c P) (hcode : X.env.code = .ref c) (hmT : (P, X.env.qual ++ "<lambda>") ∈ C.T) (hu : ∀ p ∈ C.T, p.1 = P → p.2 = X.env.qual ++ "<lambda>") (hr : Room j0 X.A) (hj : k + 2 ≤ j0) (Ls : LamS X.env.scope scope) (hdef : defaultsOf params X.env = ([], []))
    (hbind : ∀ (q : Str) (cl : List (Str × Addr)) (pm cv ctv : Value), bindArgs (PySem.W.kla_fn "<lambda>" q params body scope cl pm cv ctv) ⟨[], []⟩ = pure [])
    (hbody : ∀ (A : Around) (outer : List Env) (s : Shared) (H : Hp) (E : XK) (f c' : Addr) (g' : Gm), g'.C = C → Room k (lamCx X A outer s H E scope f c').A → Ok (lamCx X A outer s H E scope f c') g' → ErX (lamCx X A outer s H E scope f c') g' → PE (lamCx X A outer s H E scope f c') body (tE g' db))
    (hdb : (x == ("__debug__" : Str)) = false) (hd : (a == ("__debug__" : Str)) = false) (hcd : (a == ("__classdict__" : Str)) = false) : PE X (.Call (.Name x p) [.Lambda params body scope lpos] [] pos) (tE g (dRef L (ls.map (ClE.d ans (some y))) db)) := by
  subst hC
  subst hbg
  have hb2 := Fd.bindsN (ps := [a]) hb
  have kp := Fd.kp
  obtain ⟨oc, od, dV, kV, doc, pm, an, cdv, ct, osl, rfl, lk, hcg, _, _⟩ := Fd.ex
  refine se_ref (cs := ls.map (ClE.cs ans g.C (some y))) (k := k) ok co hL (by rw [List.map_map]; rfl) (cs_ok af oi) ?_ hg hm kp hNy y0 hlt d0 d1 lk hcg hb2 Sg hNg hva (hcl cdv) h0 hl TB hcode hmT hu (hr.mono hj) Ls hdef hbind (fun A outer s H E f c' hr' ex => hbody A outer s H E f c' _ rfl hr' (ok_lam ok hr') ex) hdb hd hcd
  intro p hp
  obtain ⟨l, hl, rfl⟩ := List.mem_map.mp hp
  exact ⟨rfl, hi l hl⟩
/-- try: a() except C as e: return (..) .. / return None -/
theorem se_metF {x a : Str} {gf c P : Addr} {k j0 : Nat} {pg : Arguments} {bg : List Stmt} {sg : Scope} {kws : List (Str × V)} {fd : FuncData} {Ng : List Str} {params : Arguments} {body : Expr} {scope : Scope} {p lpos pos : Pos} {h₀ : ExceptHandler} {hds' : List ExceptHandler} {jn : Nat} {p1 p2 p3 p4 p5 p6 : Pos}
    {ans : Nat → Nat → Option Bool} {ls : List ClE} {db : Env' → Res Val} {L : Nat → List Nat} (hC : g.C = C) (ok : Ok X g) (co : ∀ c, ErrC C c) (hL : C.eL = L) (af : AnsF X.K C ans) (oi : ∀ l ∈ ls, itsOk ans l.its)
    (hg : Gl X x) (hm : X.mg x = some (.ref gf)) (Fd : FunD X.K x x pg bg sg [] kws gf fd) (hbg : bg = [.Try [.Expr (.Call (.Name a p1) [] [] p2) p3] (h₀ :: hds') [] [] p4, .Return (some (.Constant .none jn p5)) p6])
    (hb : ∀ (kV doc pm : Value) (an : Option Addr) (cdv ct : Value) (us : List Value), us.length = [a].length → bindArgs (PySem.W.fnOf x x pg bg sg .none kV doc pm an cdv ct) ⟨us, []⟩ = pure ([a].zip us)) (Sg : FnScope Ng [a] sg) (hNg : Ng[0]? = some a) (hva : Vis sg a)
    (hcl : ∀ (cdv : Value) (s : Shared) (H : Hp), ClaOk (cxOf C8.CX0 X.prog X.w X.K X.mg X.base Ng x sg gf cdv X.A X.stack s H C8.E0).nox (h₀ :: hds') (clas X.K C (ls.map (ClE.cs ans C none)))) (h0 : ∀ f : Addr, (L2.start Ng [V.ref f])[0]? = some (some (V.ref f)))
    (TB : TabB X.base X.mg c P) (hcode : X.env.code = .ref c) (hmT : (P, X.env.qual ++ "<lambda>") ∈ C.T) (hu : ∀ p ∈ C.T, p.1 = P → p.2 = X.env.qual ++ "<lambda>") (hr : Room j0 X.A) (hj : k + 2 ≤ j0) (Ls : LamS X.env.scope scope) (hdef : defaultsOf params X.env = ([], []))
    (hbind : ∀ (q : Str) (cl : List (Str × Addr)) (pm cv ctv : Value), bindArgs (PySem.W.kla_fn "<lambda>" q params body scope cl pm cv ctv) ⟨[], []⟩ = pure [])
    (hbody : ∀ (A : Around) (outer : List Env) (s : Shared) (H : Hp) (E : XK) (f c' : Addr) (g' : Gm), g'.C = C → Room k (lamCx X A outer s H E scope f c').A → Ok (lamCx X A outer s H E scope f c') g' → ErX (lamCx X A outer s H E scope f c') g' → PE (lamCx X A outer s H E scope f c') body (tE g' db))
    (hdb : (x == ("__debug__" : Str)) = false) (hd : (a == ("__debug__" : Str)) = false) (hcd : (a == ("__classdict__" : Str)) = false) : PE X (.Call (.Name x p) [.Lambda params body scope lpos] [] pos) (tE g (dMet L (ls.map (ClE.d ans none)) db)) := by
  subst hC
  subst hbg
  have hb2 := Fd.bindsN (ps := [a]) hb
  have kp := Fd.kp
  obtain ⟨oc, od, dV, kV, doc, pm, an, cdv, ct, osl, rfl, lk, hcg, _, _⟩ := Fd.ex
  refine se_met (cs := ls.map (ClE.cs ans g.C none)) (k := k) ok co hL (by rw [List.map_map]; rfl) (cs_ok af oi) ?_ hg hm kp lk hcg hb2 Sg hNg hva (hcl cdv) h0 TB hcode hmT hu (hr.mono hj) Ls hdef hbind (fun A outer s H E f c' hr' ex => hbody A outer s H E f c' _ rfl hr' (ok_lam ok hr') ex) hdb hd hcd
  intro p hp
  obtain ⟨l, hl, rfl⟩ := List.mem_map.mp hp
  rfl
end
end VL

set_option maxRecDepth 100000
set_option maxHeartbeats 2000000
namespace VL
open PySem PySem.Spec L2
open PyProof.Rows hiding St
/-! ### EMk, ErrC, AnsF from the head's facts -/
theorem iniB_ok {K : PySem.W.Frag} {x : Str} (h : iniB K x = true) : PySem.W.findIn K (.ref (He.ga K x)) "__init__" = some (some (.ref (errAd K x))) ∧ PySem.W.typeIn K (.ref (errAd K x)) = some (.type "function") := by
  obtain ⟨h1, h2⟩ := He.ba h
  exact ⟨He.eqO_ok h1, of_decide_eq_true h2⟩
/-- what is asked of an error that is made -/
def madB (file : Str) (K : PySem.W.Frag) (x qual : Str) : Bool := (supL K (He.ga K x)).all id && (iniB K x && errB file K x qual)
/-- of every error -/
def eryB (K : PySem.W.Frag) (x : Str) (fs : List Str) : Bool := (excL K (He.ga K x)).all id && fieL K (He.ga K x) fs
/-- clauses and isinstance -/
def ansTB (K : PySem.W.Frag) (xs : List Str) (ans : Nat → Nat → Option Bool) : Bool := (List.range xs.length).all fun c => (List.range xs.length).all fun n => match ans c n with
  | some b => decide (PySem.W.exmOne K (.ref (He.ga K (xs.getD n ""))) (.ref (He.ga K (xs.getD c ""))) = some b) && decide (PySem.W.kitOne K (.ref (He.ga K (xs.getD n ""))) (.ref (He.ga K (xs.getD c ""))) = some b)
  | none => true
theorem ansF_ok {K : PySem.W.Frag} {C : Ct} {xs : List Str} {ans : Nat → Nat → Option Bool} (h : ansTB K xs ans = true) (hea : ∀ n, n < xs.length → C.ea n = He.ga K (xs.getD n "")) (hb : ∀ c n b, ans c n = some b → c < xs.length ∧ n < xs.length) : AnsF K C ans := by
  have go : ∀ c n b, ans c n = some b → PySem.W.exmOne K (.ref (C.ea n)) (.ref (C.ea c)) = some b ∧ PySem.W.kitOne K (.ref (C.ea n)) (.ref (C.ea c)) = some b := by
    intro c n b e
    obtain ⟨h1, h2⟩ := hb c n b e
    have z := List.all_eq_true.mp (List.all_eq_true.mp h c (List.mem_range.mpr h1)) n (List.mem_range.mpr h2)
    rw [e] at z
    obtain ⟨z1, z2⟩ := He.ba z
    rw [hea n h2, hea c h1]
    exact ⟨of_decide_eq_true z1, of_decide_eq_true z2⟩
  exact ⟨fun c n b e => (go c n b e).1, fun c n b e => (go c n b e).2⟩
theorem ans_in {exT : List (List Bool)} {k : Nat} (hl : exT.length = k) (hr : ∀ r ∈ exT, r.length = k) : ∀ c n b, ((exT[c]?).bind fun r => r[n]?) = some b → c < k ∧ n < k := by
  intro c n b e
  cases h : exT[c]? with
  | none => rw [h] at e; cases e
  | some r =>
    rw [h] at e
    have e : r[n]? = some b := e
    have h1 := (List.getElem?_eq_some_iff.mp h).1
    have h2 := (List.getElem?_eq_some_iff.mp e).1
    rw [hr r (List.mem_of_getElem? h)] at h2
    exact ⟨by omega, h2⟩
theorem errC_ok {K : PySem.W.Frag} {C : Ct} {x : Str} {c : Nat} {fs : List Str} (h : eryB K x fs = true) (hK : C.K = K) (hea : C.ea c = He.ga K x) (hf : C.el c = fs) (nd : fs.Nodup) : ErrC C c := by
  obtain ⟨h1, h2⟩ := He.ba h
  refine ⟨by rw [hK, hea]; exact excL_ok h1, fun f hf' => ?_, by rw [hf]; exact nd⟩
  rw [hK, hea]
  refine fieL_ok h2 _ ?_
  rw [← hf]
  exact List.mem_map_of_mem (f := C.nm) hf'
section
variable {P : Program} {w : World} {K : PySem.W.Frag} {mg : Str → Option Value} {base : Heap} {file : Str} {d : ErrDf} {N ps fs : List Str} {self : Str} {ar : Arg} {p0 p1 p2 p3 p4 p5 : Pos} {m : Str} {j : Nat} {rest : List Stmt} {pl : Sem Bool} {Ca : Addr}
theorem emk_ok (hm : madB file K d.cls d.qual = true) (eo : errObs K d.cls = d.val) (hC : He.ga K d.cls = Ca) (nam : mg d.cls = some (.ref Ca)) (few : fs.length ≤ 900) (hfile : ((P.main.file : Str) == file) = true) (htop : (P.main.scope.names.lookup ("super" : Str)).isSome = false)
    (hbd : d.body = .Expr (.Call (.Attribute (.Call (.Name "super" p0) [] [] p1) "__init__" p2) [.Constant (.str m) j p3] [] p4) p5 :: rest) (S : SupScope N ps d.scope) (har : (d.params.posonlyargs ++ d.params.args).head? = some ar) (hself : ar.arg = self) (h0 : ps[0]? = some self) (d0 : (self == ("__debug__" : Str)) = false) (d1 : (self == ("__classdict__" : Str)) = false)
    (hps : ps.length = fs.length + 1) (hr : ErrRest ps self rest fs 1) (hno : ∀ f ∈ fs, PySem.W.findIn K (.ref Ca) f = some none)
    (hbind : ∀ (kV doc pm : Value) (an : Option Addr) (cdv ct : Value) (cc : Addr) (us : List Value), us.length = ps.length → bindArgs (PySem.W.ksFn "__init__" d.qual d.params d.body d.scope .none kV doc pm an cdv ct cc) ⟨us, []⟩ = pure (ps.zip us)) (dbg : (d.cls == ("__debug__" : Str)) = false)
    (he : ∀ env, eval (.Call (.Attribute (.Call (.Name "super" p0) [] [] p1) "__init__" p2) [.Constant (.str m) j p3] [] p4) env = (do
      let ov ← attributeBase (.Call (.Name "super" p0) [] [] p1) "__init__" env (eval (.Call (.Name "super" p0) [] [] p1) env)
      standAt p2.atName
      let (f, first) ← holding [ov] (getMethod ov "__init__" pl)
      callWith p4 f first (backTo p4 (starEach [.Constant (.str m) j p3] env)) []) := by intro _; rfl) : EMk P w K mg base d.cls Ca fs := by
  subst hC
  obtain ⟨h1, h⟩ := He.ba hm
  obtain ⟨h2, h3⟩ := He.ba h
  obtain ⟨i1, i2⟩ := iniB_ok h2
  obtain ⟨oc, od, dV, kV, doc, pm, an, ct, osl, cda, cc, lk, rfl, hcd, ⟨cl, cld, csl, hcc⟩, ccl, cdd, vs, ccs, f, t, hcda, hvs, hf⟩ := (errFn_ok (file := file) eo h3).ex
  obtain rfl : file = f := by simpa using hf
  have hb := fun us hu => hbind kV doc pm an (.ref cda) ct cc us hu
  rw [hbd] at lk hb
  exact ⟨⟨_, _, ps, supL_ok h1, i1, i2, fn_err (k := 0) (supL_ok h1) lk hcd S hcc hcda hvs hfile htop har hself h0 d0 d1 hps few hr hno he, Binds.all hb⟩, few, nam, dbg⟩
end
end VL

set_option maxRecDepth 100000
set_option maxHeartbeats 2000000
namespace VL
open PySem PySem.Spec L2 LamX
open PyProof.Rows hiding St
/-! ### the law's own run where its surroundings are known (repr asks for them) -/
section
variable {K : PySem.W.Frag} {cs : List (Addr × Addr)} {a : Addr} {ob : Obj} {u : HO}
/-- what is known ahead: the tables are empty, the script stands -/
def hp0 (K : PySem.W.Frag) (cs : List (Addr × Addr)) (a : Addr) (ob : Obj) (u : HO) : Hp := fun b => if b ∈ cs.map Prod.snd then some (.tbl #[]) else if b = a ∧ K.lookup a = none then some (.frz ob u) else none
inductive At0 (K : PySem.W.Frag) (cs : List (Addr × Addr)) (a : Addr) (ob : Obj) (u : HO) (b : Addr) : Option HO → Prop where
  | tab (h : b ∈ cs.map Prod.snd) : At0 K cs a ob u b (some (.tbl #[]))
  | scr (h : b = a) (n : b ∉ cs.map Prod.snd) (hk : K.lookup a = none) : At0 K cs a ob u b (some (.frz ob u))
  | free (n : b ∉ cs.map Prod.snd) (hk : b = a → K.lookup a ≠ none) : At0 K cs a ob u b none
theorem at0 (b : Addr) : At0 K cs a ob u b (hp0 K cs a ob u b) := by
  unfold hp0
  by_cases h : b ∈ cs.map Prod.snd
  · rw [if_pos h]; exact .tab h
  · rw [if_neg h]
    by_cases h2 : b = a ∧ K.lookup a = none
    · rw [if_pos h2]; exact .scr h2.1 h h2.2
    · rw [if_neg h2]; exact .free h fun e z => h2 ⟨e, z⟩
variable {h₁ : Heap}
/-- the heap that those things stand in -/
structure Start (K : PySem.W.Frag) (cs : List (Addr × Addr)) (a : Addr) (vs : List Value) (h₁ : Heap) : Prop where
  tabs : ∀ p ∈ cs, h₁.get? p.2 = some { cls := .none, data := .fields #[] }
  out : ∀ p ∈ cs, K.lookup p.2 = none
  scr : h₁.get? a = some { cls := .type "list", data := .seq vs.toArray }
abbrev scrO (vs : List Value) : Obj := { cls := .type "list", data := .seq vs.toArray }
theorem Start.tab (S : Start K cs a vs h₁) {b : Addr} (h : b ∈ cs.map Prod.snd) : h₁.get? b = some { cls := .none, data := .fields #[] } ∧ K.lookup b = none := by
  obtain ⟨p, hp, rfl⟩ := List.mem_map.mp h
  exact ⟨S.tabs p hp, S.out p hp⟩
theorem Start.kin {vs : List Value} (S : Start K cs a vs h₁) {b : Addr} {o : Obj} (e : K.lookup b = some o) : hp0 K cs a (scrO vs) u b = none := by
  have z := at0 (K := K) (cs := cs) (a := a) (ob := scrO vs) (u := u) b
  generalize hp0 K cs a (scrO vs) u b = r at z ⊢
  cases z with
  | tab h => rw [(S.tab h).2] at e; cases e
  | scr h n hk => rw [h, hk] at e; cases e
  | free => rfl
/-- an object of another shape is not one of them -/
theorem Start.off {vs : List Value} (S : Start K cs a vs h₁) {b : Addr} {o : Obj} (e : h₁.get? b = some o) (h1 : ∀ xs n, o.data ≠ .seq xs n) (h2 : o.data ≠ .fields #[]) : hp0 K cs a (scrO vs) u b = none := by
  have z := at0 (K := K) (cs := cs) (a := a) (ob := scrO vs) (u := u) b
  generalize hp0 K cs a (scrO vs) u b = r at z ⊢
  cases z with
  | tab h =>
    rw [(S.tab h).1] at e
    exact absurd (congrArg Obj.data (Option.some.inj e)).symm h2
  | scr h n hk =>
    rw [h, S.scr] at e
    exact absurd (congrArg Obj.data (Option.some.inj e)).symm (h1 _ _)
  | free => rfl
theorem Start.ns {vs : List Value} (S : Start K cs a vs h₁) {b : Addr} {m : Str → Option Value} (h : h₁.Ns b m) : (hidT h₁ (hp0 K cs a (scrO vs) u)).Ns b m := by
  obtain ⟨o, es, ep, e, d, r⟩ := h
  exact ⟨o, es, ep, hidT_get e (S.off e (fun xs n z => by rw [d] at z; cases z) fun z => by rw [d] at z; cases z), d, r⟩
theorem Start.tabB {vs : List Value} (S : Start K cs a vs h₁) {mg : Str → Option Value} (hns : h₁.Ns mainGlobals mg) (C : ∀ p ∈ cs, PySem.W.CodeHd h₁ p.1 p.2)
    (hbm : ∃ (bm : Addr) (ob : Obj), mg "__builtins__" = some (.ref bm) ∧ bm ≠ builtinsNs ∧ h₁.get? bm = some ob ∧ ob.cls = .type "module" ∧ ob.dict = some builtinsNs ∧ ob.data = .plain) {p : Addr × Addr} (hp : p ∈ cs) : TabB (hidT h₁ (hp0 K cs a (scrO vs) u)) mg p.1 p.2 := by
  obtain ⟨og, es, ep, eg, hd, _⟩ := id hns
  have no : ∀ {b : Addr} {o : Obj}, h₁.get? b = some o → o.data = .plain → b ≠ mainGlobals ∧ b ≠ p.2 := fun {b o} e d => by
    refine ⟨fun z => ?_, fun z => ?_⟩
    · rw [z, eg] at e; cases e; rw [hd] at d; cases d
    · rw [z, S.tabs p hp] at e; cases e; cases d
  constructor
  case code =>
    obtain ⟨o, us, file, tf, flags, tg, inF, text, tt, e1, r1, r2, r3, r⟩ := C p hp
    refine ⟨o, us, file, tf, flags, tg, inF, text, tt, hidT_get e1 (S.off e1 (fun xs n z => ?_) fun z => ?_), r1, r2, r3, r⟩
    · rw [r2] at z; cases z
    · rw [r2] at z; cases z; simp at r3
  case bm =>
    obtain ⟨bm, ob, b1, b2, b3, b4, b5, b6⟩ := hbm
    obtain ⟨n1, n2⟩ := no b3 b6
    exact ⟨bm, ob, b1, b2, n1, n2, hidT_get b3 (S.off b3 (fun xs n z => by rw [b6] at z; cases z) fun z => by rw [b6] at z; cases z), b4, b5, b6⟩
  case gP =>
    intro z
    rw [z, S.tabs p hp] at eg
    cases eg
    cases hd
theorem Start.notTab {vs : List Value} (S : Start K cs a vs h₁) : a ∉ cs.map Prod.snd := fun z => by
  have e := (S.tab z).1
  rw [S.scr] at e
  have e2 : Data.seq vs.toArray _ = Data.fields #[] := congrArg Obj.data (Option.some.inj e)
  cases e2
theorem Start.hok {P : Program} {w : World} {vs : List Value} {ns : List Int} (S : Start K cs a vs h₁) (hi : IntsAre vs ns) (hl : ns.length ≤ sizeLine) : HOk P w (hp0 K cs a (scrO vs) (.lst (ns.map V.int))) h₁ := by
  intro b x e
  have z := at0 (K := K) (cs := cs) (a := a) (ob := scrO vs) (u := .lst (ns.map V.int)) b
  rw [e] at z
  cases z with
  | tab h => exact (S.tab h).1
  | scr h n hk =>
    rw [h]
    exact ⟨S.scr, by rw [List.length_map]; exact hl, vs, _, vals_ints hi, S.scr⟩
theorem Start.sql {vs : List Value} {ns : List Int} (S : Start K cs a vs h₁) (KX : K.In h₁) (hi : IntsAre vs ns) (hl : ns.length ≤ sizeLine) : SqL K (hp0 K cs a (scrO vs) (.lst (ns.map V.int))) a (ns.map V.int) := by
  cases hk : K.lookup a with
  | none =>
    refine .inl (.inr ⟨scrO vs, ?_⟩)
    unfold hp0
    rw [if_neg S.notTab, if_pos ⟨rfl, hk⟩]
  | some o =>
    have e := KX a o hk
    rw [S.scr] at e
    cases e
    exact .inr ⟨_, vs.toArray, _, hk, rfl, rfl, rfl, by rw [List.size_toArray, hi.length]; exact hl, by simpa using vals_ints hi⟩
/-- behind the run all stands as it was, but for the tables -/
theorem Start.old {P : Program} {w : World} {vs : List Value} {H' : Hp} {h' : Heap} (S : Start K cs a vs h₁) (C : ∀ p ∈ cs, PySem.W.CodeHd h₁ p.1 p.2) (un : Un (frs []) [] (hp0 K cs a (scrO vs) u) H' h₁ h') (hok : HOk P w H' h') : OldK h₁ h' := by
  have tb : ∀ p ∈ cs, ∃ more : Array Value, h'.get? p.2 = some { cls := .none, data := .fields more } := fun p hp => by
    have e : hp0 K cs a (scrO vs) u p.2 = some (.tbl #[]) := by
      unfold hp0
      rw [if_pos (List.mem_map_of_mem (f := Prod.snd) hp)]
    obtain ⟨more, z⟩ := un.tbls p.2 #[] e
    exact ⟨_, hok p.2 _ z⟩
  have each : ∀ b o, h₁.get? b = some o → asItWas h₁ h' b o ∧ ∃ o', h'.get? b = some o' := fun b o e => by
    have z := at0 (K := K) (cs := cs) (a := a) (ob := scrO vs) (u := u) b
    generalize hr : hp0 K cs a (scrO vs) u b = r at z
    cases z with
    | tab h =>
      obtain ⟨p, hp, rfl⟩ := List.mem_map.mp h
      obtain ⟨more, hm⟩ := tb p hp
      rw [S.tabs p hp] at e
      cases e
      exact ⟨.inr (.inl ⟨((C p hp).tab (S.tabs p hp)).isCodeTable, rfl, #[], more, rfl, by rw [Array.empty_append]; exact hm⟩), _, hm⟩
    | scr h n hk =>
      obtain ⟨e1, _⟩ := hok b _ (un.frzs b _ _ hr)
      rw [h, S.scr] at e
      cases e
      rw [h] at e1 ⊢
      exact ⟨.inl e1, _, e1⟩
    | free n hk =>
      have k := un.keep b o e hr (by intro z; cases z) (by intro z; cases z)
      exact ⟨.inl k, _, k⟩
  exact ⟨fun b o e => (each b o e).1, fun b o e => (each b o e).2⟩
end
/-- what is asked of the law -/
def LawG (l : PySem.W.OpenLaw) (w : World) (K : PySem.W.Frag) (k n : Nat) (x : Str) (mg : Str → Option Value) (fa : Addr) (h : Heap) : Prop :=
  ∃ (C : Ct) (cs : List (Addr × Addr)) (nm qual : Str) (params : Arguments) (body : List Stmt) (scope : Scope) (kws : List (Str × V)) (fd : FuncData) (c : Addr) (N : List Str) (d : Env' → Res Fl),
    FunD K nm qual params body scope [] kws fa fd ∧ fd.code = .ref c ∧ C.K = K ∧ (∀ p ∈ C.T, ∃ q ∈ cs, q.2 = p.1) ∧ (∀ p ∈ cs, h.get? p.2 = some { cls := .none, data := .fields #[] }) ∧ (∀ p ∈ cs, K.lookup p.2 = none) ∧ (∀ p ∈ cs, PySem.W.CodeHd h p.1 p.2) ∧
    (∀ (s : Shared) (u : Value), BindsTo s fd ⟨[u], []⟩ [(x, u)]) ∧ FnScope N [x] scope ∧ 1 ≤ N.length ∧ (∀ ns : List Int, ns.length ≤ n → (∀ z ∈ ns, Builtin.Int.intBits z ≤ 1048576) → callFn N.length [false] d [.scr ns] = .ok (.fz (.bl true)) []) ∧
    ∀ base : Heap, K.In base → base.Ns mainGlobals mg → (∀ p ∈ cs, TabB base mg p.1 p.2) → ∀ (A : Around) (outer : List Env) (s : Shared) (H : Hp) (E : XK) (g : Gm), A.guards = some [] → g.C = C →
      Room k (cxOf C8.CX0 l.prog w K mg base N qual scope fa (.ref c) A outer s H E).nox.A → Ok (cxOf C8.CX0 l.prog w K mg base N qual scope fa (.ref c) A outer s H E).nox g → ErX (cxOf C8.CX0 l.prog w K mg base N qual scope fa (.ref c) A outer s H E).nox g →
      PSs (cxOf C8.CX0 l.prog w K mg base N qual scope fa (.ref c) A outer s H E).nox body (tS g d)
theorem walk_G {l : PySem.W.OpenLaw} {n k : Nat} {q : Program} {loose : List Str} {XP : (Str → Option Value) → Heap → Prop} {YP : World → Heap → Prop} {d : DefRec} {x : Str} (hn : l.most = some n) (hn2 : n ≤ sizeLine) (hdf : d.params.defaults = []) (hr : Room (k + 1) callerA)
    (F : ∀ (w : World) (mg : Str → Option Value) (fa : Addr) (h : Heap), YP w h → h.Ns mainGlobals mg → mg d.name = some (.ref fa) → ∃ K : PySem.W.Frag, K.In h ∧ LawG l w K k n x mg fa h) : PySem.W.WalkO q loose XP YP l.row.toRowW d [] (fun f vs => PySem.call f vs) := by
  refine Att.attach_callB hn hdf fun w s₀ s₁ mg mb fa o pm cd doc a vs ns G Y ho hd hcd hmg hobj hints hlen hbits hg => ?_
  obtain ⟨K, KX, C, cs, nm, qual, params, body, scope, kws, fd, c, N, dl, Fd, hc, hK, hTs, hT, nT, hC, hb, Sg, h1, pure, hbody⟩ := F w mg fa _ Y G.T.g hmg
  have S : Start K cs a vs s₁.heap := ⟨hT, nT, hobj⟩
  have hl : ns.length ≤ sizeLine := Nat.le_trans hlen hn2
  have hok := S.hok (P := l.prog) (w := w) hints hl
  have hS := S.sql KX hints hl
  generalize eu : (HO.lst (ns.map V.int)) = u at hok hS
  have hKb : K.In (hidT s₁.heap (hp0 K cs a (scrO vs) u)) := fun b ob e => hidT_get (KX b ob e) (S.kin e)
  have hns := S.ns (u := u) G.T.g
  have e0 : Env0 l.prog w K mg (hidT s₁.heap (hp0 K cs a (scrO vs) u)) callerA [] s₁ (hp0 K cs a (scrO vs) u) :=
    ⟨rfl, ⟨hKb, hns, ⟨mb, S.ns G.T.b, G.T.builtins⟩, (let ⟨mc, z1, z2⟩ := G.T.nolimit; ⟨mc, S.ns z1, z2⟩)⟩, fun b ob e => of_hidT e, Nat.le_of_eq (hidT_size _ _), trivial, fun b z => (by cases z), hok, .of_eq hg⟩
  obtain ⟨oc, od, dV, kV, dc, pm', an, cdv, ct, osl, rfl, lk, hcode, _, _⟩ := Fd.ex
  obtain rfl : cdv = .ref c := hc
  have hTab : LamX.Tabs C.T (hp0 K cs a (scrO vs) u) := tabs_nil fun p hp => by
    obtain ⟨q, hq, e⟩ := hTs p hp
    unfold hp0
    rw [if_pos (by rw [← e]; exact List.mem_map_of_mem (f := Prod.snd) hq)]
  have sp := spv_law (C := C) (fn := callFn N.length [false] dl) (by rw [hK]; exact hS) hTab (pure ns hlen hbits)
  obtain ⟨F0, hq⟩ := body_ok (N := N) (md := [false]) (E := C8.E0) h1 sp
  refine codeAny_mono (run_ofS (CX := C8.CX0) (Q := fun v _ => v = .bl true) (E := C8.E0) (ps := [x]) (us := [.ref a]) (vs := [.ref a]) lk hcode Sg hr e0 (hb s₁ (.ref a)) (.cons rfl .nil) rfl fun hr' => ⟨_, PSs.nox (hbody _ hKb hns (fun p hp => S.tabB G.T.g hC G.T.bmain hp) callerA [] s₁ _ C8.E0 (callG C F0 (hp0 K cs a (scrO vs) u) [false] [.ref a]) rfl rfl hr' ⟨hK, ?_, rfl⟩ erx0), hq⟩) fun r s' h => ?_
  · have := hr'.un
    show callerA.units + 3 + 65 < cLine
    have : (callerA.deeper (envOfC qual scope s₁.heap.objs.size fa (.ref c))).units = callerA.units + 3 := rfl
    omega
  · cases r with
    | error e => exact (show False from h).elim
    | ok fl =>
      cases fl with
      | next => exact False.elim h
      | brk => exact False.elim h
      | cont => exact False.elim h
      | ret y =>
        obtain ⟨v, H', os, bare, un, hok', rv, e⟩ := h
        have e : v = .bl true := e
        subst e
        obtain rfl : y = Value.bool true := rv
        exact ⟨rfl, S.old hC un hok', os, bare⟩
end VL

set_option maxRecDepth 100000
set_option maxHeartbeats 2000000
namespace VL
open PySem PySem.Spec L2
open PyProof.Rows hiding St
/-! ### repr of a tuple or list of plain things, where no repr is under way -/
/-- what is told, if it may be asked -/
def reprOf (d : PyData) : Option Val := if d.showable = true ∧ d.depth ≤ 50 ∧ d.shown.length ≤ big then some (.fz (.str d.shown)) else none
def semRepr : List PV → Option Val
  | [.tup [.str x, .dK [] [], .bl b]] => reprOf (.tuple [.str x, .dict [], .bool b])
  | [.tup xs] => (toD (.tup xs)).bind fun d => if d.hasDict = false then reprOf d else none
  | [.lst xs] => (toD (.lst xs)).bind fun d => if d.hasDict = false then reprOf d else none
  | _ => none
section
variable {X : Cx} {g : Gm} {F H : Hp} {σ : St} {env : Env'}
theorem repr_run {pins : List (Addr × Obj)} {s : Shared} {a : Addr} {d : PyData} {as : List Addr} {r : Val} {Q : VK} (ok : Ok X g) (hg : X.A.guards = some []) (I : Inv X pins σ H s) (S : Stt g F H σ env) (rd : PySem.Reads s.heap (.ref a) d as) (hs : d.hasDict = true → sysModules ∉ as)
    (e : reprOf d = some r) (k : ∀ F' H' w, Ex F F' → Stt g F' H' σ env → RV g F' H' σ env r w → Q w H') : wpAny (model X.prog X.w) X.A (PySem.call (.builtin "repr") [.ref a]) (EP X pins σ Q) X.xe s := by
  unfold reprOf at e
  split at e
  · rename_i h
    obtain ⟨h1, h2, h3⟩ := h
    cases e
    refine PySem.repr_of_reads' rd h1 hs hg (by have := ok.u; omega) (fun _ _ z => z) (fun h' u tk kk => ⟨.str d.shown, H, I.kept (t' := tk) kk, ⟨_, rfl⟩, fin_str S k⟩) (by rw [big_eq]; exact h3)
  · cases e
theorem c_repr (ok : Ok X g) (hg : X.A.guards = some []) : OpN X g (fun us => PySem.call (.builtin "repr") us) semRepr := by
  intro pins s σ F H env ps vs us r Q I S rv t e k
  unfold semRepr at e
  split at e
  · obtain ⟨v, rfl, h⟩ := rts1 t
    rename_i x b
    obtain ⟨a, vs, rfl, q1, rs⟩ := rt_tup h
    obtain ⟨v1, w1, rfl, r1, v2, w2, rfl, r2, v3, w3, rfl, r3, rfl⟩ := rs
    unfold R at r1 r2 r3
    subst r1 r3
    obtain ⟨da, kvs, rfl, hd, e1, e2⟩ := r2
    have hk : kvs = [] := List.map_eq_nil_iff.mp e1
    subst hk
    obtain ⟨_, hsm, ws, kv, o, es, ep, o1, o2, o3, _, pr, _⟩ := dk_rd I.hok (S.sub.rd hd)
    cases kv
    have hes : es.toList = [] := List.length_eq_zero_iff.mp pr.length
    obtain ⟨its, rv2, ⟨o', ho, hc, n, hdat⟩, _⟩ := I.tuple (SqT.of q1)
    cases rv with
    | cons ru rr =>
      cases rr
      cases ru
      cases rv2 with
      | cons y1 rv2 =>
        cases rv2 with
        | cons y2 rv2 =>
          cases rv2 with
          | cons y3 rv2 =>
            cases rv2
            obtain ⟨t1, rfl⟩ := y1
            cases y2
            cases y3
            have rd1 : PySem.Reads s.heap (.ref da) (.dict []) (da :: [] ++ []) := .dict o1 o2.1 o3 (by rw [hes]; exact .nil) (by rw [hes]; exact .nil)
            have rd : PySem.Reads s.heap (.ref a) (.tuple [.str x, .dict [], .bool b]) _ := .tuple ho hc hdat (.cons (.str x t1) (.cons rd1 (.cons (.bool b) .nil)))
            refine repr_run ok hg I S rd (fun _ z => ?_) e k
            have : sysModules = da := by simpa using z
            rw [← this] at hsm
            simp at hsm
  · obtain ⟨v, rfl, h⟩ := rts1 t
    rename_i xs _
    cases hd : toD (.tup xs) with
    | none => rw [hd] at e; cases e
    | some d =>
      rw [hd] at e
      have e : (if d.hasDict = false then reprOf d else none) = some r := e
      split at e
      · rename_i hz
        cases rv with
        | cons ru rr =>
          cases rr
          obtain ⟨a, ws, rfl, _, _⟩ := rt_tup h
          obtain ⟨as, rd⟩ := Dp.reads I d _ _ (by rw [← ok.K]; exact R.dp (h.r S.sub) hd) ru
          cases ru
          exact repr_run ok hg I S rd (fun z => by rw [hz] at z; cases z) e k
      · cases e
  · obtain ⟨v, rfl, h⟩ := rts1 t
    rename_i xs
    cases hd : toD (.lst xs) with
    | none => rw [hd] at e; cases e
    | some d =>
      rw [hd] at e
      have e : (if d.hasDict = false then reprOf d else none) = some r := e
      split at e
      · rename_i hz
        cases rv with
        | cons ru rr =>
          cases rr
          have h0 := h
          obtain ⟨a, ws, rfl, _, _⟩ := h
          obtain ⟨as, rd⟩ := Dp.reads I d _ _ (by rw [← ok.K]; exact R.dp (h0.r S.sub) hd) ru
          cases ru
          exact repr_run ok hg I S rd (fun z => by rw [hz] at z; cases z) e k
      · cases e
  · cases e
/-- texts compared -/
def semNeS : PV → PV → Option Val
  | .str x, .str y => some (.fz (.bl (x.cps.toList != y.cps.toList)))
  | _, _ => none
theorem o_neS : Op2 X g (compareOp .NotEq) semNeS := by
  intro pins s σ F H env p q v u vv uu r Q I S r1 r2 t1 t2 e k
  unfold semNeS at e
  split at e
  · cases e
    cases rt_str t1
    cases rt_str t2
    obtain ⟨t, rfl⟩ := r1
    obtain ⟨t', rfl⟩ := r2
    exact PySem.P.ne_str ⟨.bl _, H, I, rfl, fin_bl S k⟩
  · cases e
end
end VL

set_option maxRecDepth 100000
set_option maxHeartbeats 2000000
namespace VL
open PySem PySem.Spec L2 PySem.HandSPX
section
variable {M : Model} {A : Around} {E : Value → Shared → Prop} {h : Heap} {g : Array GenState} {d : Drawn} {t : Nat} {os : OsState}
variable {nm q : Str} {C N : Addr} {bs bm bmB : List Value} {hdct : Bool} {sn : List Str} {sub : List Value} {ab : Bool} {col : Option Bool} {dd : Option Addr} {k0 k1 k2 k3 k5 : Option Value} {B newId initId : String}
theorem tcsub_kw {kws : List (Str × Value)} {Q : Unit → Shared → Prop} (hC : h.get? C = some (excClassObj nm q C N bs bm hdct sn sub ab col dd k0 k1 k2 k3 k5 newId))
    (hq : Q () ⟨h, g, d, t, os⟩) : wpAny M A (checkBuiltinCall "type.__call__" ⟨[.ref C], kws⟩) Q E ⟨h, g, d, t, os⟩ := by
  have f3 := tc_sub
  have hT : (⟨h, g, d, t, os⟩ : Shared).TypeIs (.ref C) "type" := ⟨_, hC, rfl⟩
  simp only [checkBuiltinCall, tc_kind, tc_split]
  repeat (any_goals (first | assumption | with_reducible refine wpAny_loadPart_at hC ?_ | with_reducible refine wpAny_onRaise ?_ | with_reducible refine wpAny_map ?_ | wp_step))
theorem cnew_kw (F : ExcBaseFacts B newId initId bmB) (hT : ∀ X : String, bm.contains (.type X) = bmB.contains (.type X)) {kws : List (Str × Value)} {Q : Unit → Shared → Prop}
    (hC : h.get? C = some (excClassObj nm q C N bs bm hdct sn sub ab col dd k0 k1 k2 k3 k5 newId)) (hq : Q () ⟨h, g, d, t, os⟩) : wpAny M A (checkBuiltinCall newId ⟨[.ref C], kws⟩) Q E ⟨h, g, d, t, os⟩ := by
  have hcont : (Value.ref C :: bm).contains (.type B) = true := by rw [List.contains_cons, hT, F.hasB, Bool.or_true]
  have hstar := F.noStar
  simp only [checkBuiltinCall, F.newKind, F.newSplit, F.newRow]
  repeat (first | refine wpAny_loadPart_at hC ?_ | (refine wpAny_isSubtype_exc hC ?_; rw [hcont]) | refine wpAny_staticBase_exc hC ?_ | refine wpAny_madeBy_exc hC ?_ | simp only [bne_self_eq_false, Bool.false_eq_true, if_false] | wp_step)
  exact hq
end
section
variable {prog : Program} {w : World} {A : Around} {E : Value → Shared → Prop} {R : Result → Shared → Prop} {h : Heap} {g : Array GenState} {d : Drawn} {t : Nat} {os : OsState}
variable {nm q : Str} {C N : Addr} {bs bm bmB : List Value} {hdct : Bool} {sn : List Str} {sub : List Value} {ab : Bool} {col : Option Bool} {dd : Option Addr} {k0 k1 k2 k3 k5 : Option Value} {B newId initId : String}
theorem new_kw (F : ExcBaseFacts B newId initId bmB) (hT : ∀ X : String, bm.contains (.type X) = bmB.contains (.type X)) {kws : List (Str × Value)}
    (hC : h.get? C = some (excClassObj nm q C N bs bm hdct sn sub ab col dd k0 k1 k2 k3 k5 newId))
    (hq : R (.ok (.ret (.ref (h.objs.size + 1)))) ⟨(h.push { cls := .type "tuple", data := .seq ([] : List Value).toArray }).push
      { cls := .ref C, data := .fields #[.ref h.objs.size, .none, .none, .none, .bool false, .none] }, g, d, t, os⟩) :
    codeAny (model prog w) A (.builtin newId ⟨[.ref C], kws⟩) R ⟨h, g, d, t, os⟩ := by
  have hends := F.ends
  have hrest : ([] : List Value).length ≤ sizeLine := Nat.zero_le _
  have hcB : (Value.ref C :: bm).contains (.type B) = true := by rw [List.contains_cons, hT, F.hasB, Bool.or_true]
  have hcA : (Value.ref C :: bm).contains (.type "AttributeError") = false := by rw [List.contains_cons, hT, F.noAttr]; rfl
  have hcN : (Value.ref C :: bm).contains (.type "NameError") = false := by rw [List.contains_cons, hT, F.noName]; rfl
  refine codeAny_builtinAt F.entry ?_
  unfold Builtin.«BaseException.__new__»
  refine wpAt_bind ?_
  show wpAt _ _ _ (stack >>= _) _ _ _
  refine wpAt_bind (wpAt_stack fun p below => wpAt_of_wpAny ?_)
  wp_walk
  refine wpAt_of_wpAny ?_
  rw [F.owner]
  repeat (first | with_reducible refine wpAny_madeHere_exc F.canon hC ?_ | with_reducible refine wpAny_loadPart_at hC ?_ | (with_reducible refine wpAny_isSubtype_exc hC ?_; first | rw [hcB] | rw [hcA] | rw [hcN]) | wp_step)
  show R _ _
  rw [Heap.size_push]
  exact hq
theorem tcall_kw (F : ExcBaseFacts B newId initId bmB) (hT : ∀ X : String, bm.contains (.type X) = bmB.contains (.type X)) {kws : List (Str × Value)} {fI : Addr} {Q : Fin → Shared → Prop}
    (hC : h.get? C = some (excClassObj nm q C N bs bm hdct sn sub ab col dd k0 k1 k2 k3 k5 newId))
    (hi : W.Looks (model prog w) h (typeLookup (.ref C) "__init__") (some (.ref fI))) (hb : ∀ self, W.Looks (model prog w) h (bindSpecial (.ref fI) self) (.ref fI, [self]))
    (hq : codeAny (model prog w) A (.call (.ref fI) ⟨[.ref (h.objs.size + 1)], kws⟩)
      (fun r s' => match r with | .ok (.ret v) => v = .none ∧ Q (.done (.ret (.ref (h.objs.size + 1)))) s' | .ok _ => False | .error e => E e s')
      ⟨(h.push (W.kdv_tup [])).push (excO C h.objs.size), g, d, t, os⟩) :
    wpAny (model prog w) A (Builtin.«type.__call__» ⟨[.ref C], kws⟩) Q E ⟨h, g, d, t, os⟩ := by
  repeat (first | with_reducible refine wpAny_loadPart_at hC ?_ | with_reducible refine wpAny_madeBy_exc hC ?_ | wp_step)
  refine codeAny_call_builtin_code (Code.quiet_builtin _ F.quiet) (cnew_kw F hT hC ?_)
  refine new_kw F hT hC ?_
  show wpAny _ _ _ _ _ _
  have k : ∀ b o, h.get? b = some o → ((h.push (W.kdv_tup [])).push (excO C h.objs.size)).get? b = some o := fun b o e => Heap.get?_push_of_some _ (Heap.get?_push_of_some _ e)
  have hC₁ := k _ _ hC
  have hget : ((h.push (W.kdv_tup [])).push (excO C h.objs.size)).get? (h.objs.size + 1) = some (excO C h.objs.size) := by heap_get
  have hcC : (Value.ref C :: bm).contains (.ref C) = true := by simp
  have i1 := hi.keeps k
  have b1 := (hb (.ref (h.objs.size + 1))).keeps k
  unfold isInstance
  repeat (first | with_reducible refine wpAny_loadPart_at hget ?_ | (with_reducible refine wpAny_isSubtype_exc hC₁ ?_; rw [hcC]) | wp_step)
  show wpAny _ _ (typeLookup (.ref C) _) _ _ _
  refine i1.at ?_
  refine wpAny_holding (wpAny_bind (b1.at ?_))
  refine wpAny_bind (wpAny_call (codeAny_mono hq fun r s' z => ?_))
  rcases r with e | (v | _ | _ | _) <;> first | exact z | exact z.elim | skip
  obtain ⟨rfl, z⟩ := z
  first
    | exact wpAny_pure (wpAny_pure z)
    | (wp_walk; exact z)
theorem call_kw (F : ExcBaseFacts B newId initId bmB) (hT : ∀ X : String, bm.contains (.type X) = bmB.contains (.type X)) {kws : List (Str × Value)} {fI : Addr}
    (hC : h.get? C = some (excClassObj nm q C N bs bm hdct sn sub ab col dd k0 k1 k2 k3 k5 newId))
    (hi : W.Looks (model prog w) h (typeLookup (.ref C) "__init__") (some (.ref fI))) (hb : ∀ self, W.Looks (model prog w) h (bindSpecial (.ref fI) self) (.ref fI, [self]))
    (hq : codeAny (model prog w) (A.under (.builtin "type.__call__" ⟨[.ref C], kws⟩)) (.call (.ref fI) ⟨[.ref (h.objs.size + 1)], kws⟩) (W.InitBack (h.objs.size + 1) R)
      ⟨(h.push (W.kdv_tup [])).push (excO C h.objs.size), g, d, t, os⟩) :
    codeAny (model prog w) A (.call (.ref C) ⟨[], kws⟩) R ⟨h, g, d, t, os⟩ := by
  have f1 := tc_lookup
  have f2 := tc_bind (.ref C)
  have hTy : (⟨h, g, d, t, os⟩ : Shared).TypeIs (.ref C) "type" := ⟨_, hC, rfl⟩
  refine codeAny_of_tree ?_
  show wpAny _ _ (callAny (.ref C) _) _ _ _
  repeat (any_goals (first | assumption | with_reducible refine wpAny_loadPart_at hC ?_ | wp_step))
  refine ⟨rfl, ?_⟩
  refine codeAny_call_builtin_at (Code.quiet_builtin _ (by decide +kernel)) entry_typeCall (tcsub_kw hC (tcall_kw F hT hC hi hb ?_))
  refine codeAny_mono hq fun r s' z => ?_
  rcases r with e | (v | _ | _ | _) <;> exact z
end
end VL

set_option maxRecDepth 100000
set_option maxHeartbeats 2000000
namespace VL
open PySem PySem.Spec L2
open PyProof.Rows hiding St
/-! ### C(a=.., b=..): an own error made by name, in the order of its fields -/
structure PK (X : Cx) (kws : List Keyword) (ns : List Str) (t : TA) : Prop where
  run : ∀ (pos : Pos) (pins : List (Addr × Obj)) (s : Shared) (σ : L2.St) (H : Hp) (Q : List V → Hp → Prop), Inv X pins σ H s → t σ H Q → wpAny (model X.prog X.w) X.A (evalAll ((backToKw pos (keywordEach kws X.env)).map (·.2))) (AP X pins σ Q) X.xe s
  nm : ∀ pos, (backToKw pos (keywordEach kws X.env)).filterMap (·.1) = ns
  all : ∀ pos, (backToKw pos (keywordEach kws X.env)).all (·.1.isSome) = true
  some : ∀ pos, (backToKw pos (keywordEach kws X.env)).any (·.1.isNone) = false
structure EMkK (P : Program) (w : World) (K : PySem.W.Frag) (mg : Str → Option Value) (base : Heap) (x : Str) (C : Addr) (fs : List Str) : Prop where
  ex : ∃ (fI : Addr) (fd : FuncData) (ps : List Str), SupC K C ∧ PySem.W.findIn K (.ref C) "__init__" = some (some (.ref fI)) ∧ PySem.W.typeIn K (.ref fI) = some (.type "function") ∧ FnOk P w K mg base C8.CX0 1 fI fd ps (spErr C fs) ∧ ∀ self us, us.length = fs.length → bindArgs fd ⟨[self], fs.zip us⟩ = pure (ps.zip (self :: us))
  few : fs.length ≤ 900
  nam : mg x = some (.ref C)
  dbg : (x == ("__debug__" : Str)) = false
section
variable {X : Cx} {g : Gm} {x : Str} {C : Addr} {fs ns : List Str} {p pos kp : Pos} {n : Str} {e : Expr} {es : List Expr} {kws : List Keyword} {ta : TA} {d : Env' → Res Val} {ds : List (Env' → Res Val)}
theorem sk_nil : PK X [] [] (tAs g (dArgs [])) := ⟨fun pos pins s σ H Q I ⟨F, env, S, go⟩ => wpAny_pure ⟨[], H, I, .nil, go F H (Ex.refl F) S [] trivial rfl⟩, fun _ => rfl, fun _ => rfl, fun _ => rfl⟩
theorem sk_cons (ha : PE X e (tE g d)) (hr : PK X kws ns (tAs g (dArgs ds))) : PK X (⟨some n, e, kp⟩ :: kws) (n :: ns) (tAs g (dArgs (d :: ds))) := by
  refine ⟨fun pos pins s σ H Q I ⟨F, env, S, go⟩ => ?_, fun pos => ?_, fun pos => ?_, fun pos => ?_⟩
  · show wpAny _ _ (evalAll ((do let v ← eval e X.env; standAt pos; pure v) :: (backToKw pos (keywordEach kws X.env)).map (·.2))) _ _ s
    refine wpAny_evalAll_cons (wpAny_bind (thn (peGo ha I S go) fun v s1 ⟨v', H1, I1, r1, F1, e1, x, x1, S1, o1, rv1, go1⟩ => ?_))
    refine wpAny_bind (wpAny_standAt (wpAny_pure ?_))
    refine thn (hr.run pos pins s1 σ H1 (fun vs H2 => Q (v' :: vs) H2) I1 ⟨F1, e1, S1, (Go.bind go1).mono fun xs e2 F2 H2 x2 S2 k vs o2 rv2 => ?_⟩) fun us s2 ⟨xs, H2, I2, r2, q2⟩ => ⟨v' :: xs, H2, I2, .cons r1 r2, q2⟩
    exact k F2 H2 (Ex.refl F2) S2 (v' :: vs) ⟨o1, o2⟩ ⟨v', vs, rfl, rv1.later o1 x2, rv2⟩
  · show n :: (backToKw pos (keywordEach kws X.env)).filterMap (·.1) = _
    rw [hr.nm]
  · exact hr.all pos
  · exact hr.some pos
theorem pe_mkeK (M : EMkK X.prog X.w X.K X.mg X.base x C fs) (hr : Room 2 X.A) (hg : Gl X x) (ha : PK X kws fs ta) : PE X (.Call (.Name x p) [] kws pos) (tMke C fs ta) := by
  obtain ⟨fI, fd, ps, c, ini, typ, fn, bnd⟩ := M.ex
  refine ⟨fun pins s σ H Q I h => ?_⟩
  refine wpAny_Call_Name_kw (ld_glob I hg M.nam ?_ M.dbg)
  refine PySem.W.callWith_KW0 (K := X.K) I.kIn c.o.kC (ha.all pos) (thn (ha.run pos pins s σ H _ I h) fun us s1 ⟨vs, H1, I1, r, hl, q⟩ => ⟨I1.kIn, ?_⟩) (by rw [show (backTo pos (starEach [] X.env)).any (·.1) = false from rfl, Bool.false_or]; exact ha.some pos)
  rw [ha.nm pos]
  obtain ⟨nm, qn, N, bs, bm, sn, sub, ab, col, dd, k0, k1, k2, k3, k5, hC, hbm⟩ := c.o.cls
  obtain ⟨hp, g, dr, tk, os⟩ := s1
  obtain ⟨e, he⟩ : ∃ e, e = hp.objs.size + 1 := ⟨_, rfl⟩
  obtain ⟨h1, eh1⟩ : ∃ h1, h1 = (hp.push (PySem.W.kdv_tup [])).push (PySem.HandSPX.excO C hp.objs.size) := ⟨_, rfl⟩
  have hsz : hp.objs.size ≤ e := by rw [he]; exact Nat.le_succ _
  have hn : H1 e = none := I1.hok.fresh hsz
  have kk : ∀ b o, hp.get? b = some o → h1.get? b = some o := fun b o z => by rw [eh1]; exact Heap.get?_push_of_some _ (Heap.get?_push_of_some _ z)
  have hget : h1.get? e = some (PySem.HandSPX.excO C hp.objs.size) := by rw [eh1, he]; heap_get
  have I2 : Inv X pins σ (upd H1 e (exo e C none)) ⟨h1, g, dr, tk, os⟩ := I1.laid (t' := tk) kk hsz (exo_ok hget)
  have r2 : Vals (V.ref e :: vs) (Value.ref e :: us) := .cons rfl r
  have hul : us.length = fs.length := by rw [← hl]; exact (Paired.length r).symm
  have sp : spErr C fs (.ref e :: vs) (upd H1 e (exo e C none)) (fun v H2 => v = .non ∧ Q (.ref e) H2) (fun _ _ _ => False) := by
    refine ⟨e, vs, rfl, hl, upd_same, fun z => ⟨rfl, q _ _ ⟨hn, .inl ⟨z, rfl⟩⟩⟩, fun dx H' h1 h2 h3 h4 h5 => ⟨rfl, q _ _ ⟨hn, .inr ⟨dx, ?_, h2, h3, h4, fun b b1 b2 => ?_⟩⟩⟩⟩
    · rw [upd_ne h2] at h1
      exact h1
    · rw [h5 b b1 b2, upd_ne b1]
  have run := fn.run _ X.stack _ _ ⟨[Value.ref e], fs.zip us⟩ (Value.ref e :: us) _ _ (fun _ _ _ => False) (hr.make C [] (fs.zip us)) (I2.env0.make C [] (fs.zip us)) (BindsTo.of_eq (bnd _ us hul)) r2 sp
  rw [eh1] at run
  show wpAny _ _ (call (.ref C) [] (fs.zip us)) _ _ _
  refine wpAny_call (call_kw F.excBase_ValueError (fun Y => PySem.HandSPX.refsVE_contains Y bm hbm) (I1.kIn _ _ hC) (PySem.W.looks_findIn I1.kIn ini) (fun self => PySem.W.bind_fn I1.kIn self typ) (codeAny_mono (by rw [he] at run; exact run) fun r s' hq' => ?_))
  rw [← he, ← eh1] at hq'
  cases r with
  | error er => exact (show Passes C8.CX0 X (fun _ _ _ => False) from C8.pass0) pins σ _ _ er s' I2 hq'
  | ok fl =>
    cases fl with
    | ret u =>
      obtain ⟨v, H2, os2, bare2, un2, hok2, rv, ev, q2⟩ := hq'
      subst ev
      obtain rfl : u = Value.none := rv
      refine ⟨rfl, ?_⟩
      rw [← he]
      exact ⟨.ref e, H2, I2.call' (ch := []) os2 un2 hok2 bare2 (fun b z => absurd z (by simp)), rfl, q2⟩
    | next => exact False.elim hq'
    | brk => exact False.elim hq'
    | cont => exact False.elim hq'
variable {c m : Nat} {Ct' : Ct}
theorem se_mkEK (hC : g.C = Ct') (M : EMkK X.prog X.w X.K X.mg X.base x (Ct'.ea c) (Ct'.el c)) (hn : (Ct'.el c).length = m) (hr : Room k X.A) (hk : 2 ≤ k) (hg : Gl X x) (hl : Ct'.el c = fs) (ha : PK X kws fs (tAs g (dArgs ds))) : PE X (.Call (.Name x p) [] kws pos) (tE g (dMkE c m ds)) := by
  subst hC hl
  exact peImp (pe_mkeK M (hr.mono hk) hg ha) fun σ H Q ⟨F, env, S, go⟩ => ⟨F, env, S, (Go.bind go).mono fun xs e1 F1 H1 x1 S1 k vs o r => mke_go (fs := []) o S1 r hn k⟩
/-- by position -/
theorem se_mkEP (hC : g.C = Ct') (M : EMk X.prog X.w X.K X.mg X.base x (Ct'.ea c) (Ct'.el c)) (hn : (Ct'.el c).length = m) (hr : Room k X.A) (hk : 2 ≤ k) (hg : Gl X x) (ha : PA X (e :: es) (tAs g (dArgs ds))) (he : starEach (e :: es) X.env = (false, eval e X.env) :: starEach es X.env)
    (hpl : (backTo pos (starEach es X.env)).any (·.1) = false) : PE X (.Call (.Name x p) (e :: es) [] pos) (tE g (dMkE c m ds)) := by
  subst hC
  obtain ⟨fI, fd, ps, h1, h2, h3, h4, h5⟩ := M.ex
  exact se_mkE (CX := C8.CX0) (k := 1) (fI := fI) (fd := fd) (ps := ps) ⟨h1, h2, h3, h4, h5, C8.pass0, M.few, M.nam, M.dbg⟩ hn (hr.mono hk) hg ha he hpl
theorem se_mkEP0 (hC : g.C = Ct') (M : EMk X.prog X.w X.K X.mg X.base x (Ct'.ea c) (Ct'.el c)) (hn : (Ct'.el c).length = 0) (hr : Room k X.A) (hk : 2 ≤ k) (hg : Gl X x) : PE X (.Call (.Name x p) [] [] pos) (tE g (dMkE c 0 [])) := by
  subst hC
  obtain ⟨fI, fd, ps, h1, h2, h3, h4, h5⟩ := M.ex
  exact se_mkE0 (CX := C8.CX0) (k := 1) (fI := fI) (fd := fd) (ps := ps) ⟨h1, h2, h3, h4, h5, C8.pass0, M.few, M.nam, M.dbg⟩ hn (hr.mono hk) hg
end
end VL

set_option maxRecDepth 100000
set_option maxHeartbeats 2000000
namespace VL
open PySem PySem.Spec L2
open PyProof.Rows hiding St
section
variable {P : Program} {w : World} {K : PySem.W.Frag} {mg : Str → Option Value} {base : Heap} {file : Str} {d : ErrDf} {N ps fs : List Str} {self : Str} {ar : Arg} {p0 p1 p2 p3 p4 p5 : Pos} {m : Str} {j : Nat} {rest : List Stmt} {pl : Sem Bool} {Ca : Addr}
/-- the head's fact for an error made by name -/
theorem emkk_ok (hm : madB file K d.cls d.qual = true) (eo : errObs K d.cls = d.val) (hC : He.ga K d.cls = Ca) (nam : mg d.cls = some (.ref Ca)) (few : fs.length ≤ 900) (hfile : ((P.main.file : Str) == file) = true) (htop : (P.main.scope.names.lookup ("super" : Str)).isSome = false)
    (hbd : d.body = .Expr (.Call (.Attribute (.Call (.Name "super" p0) [] [] p1) "__init__" p2) [.Constant (.str m) j p3] [] p4) p5 :: rest) (S : SupScope N ps d.scope) (har : (d.params.posonlyargs ++ d.params.args).head? = some ar) (hself : ar.arg = self) (h0 : ps[0]? = some self) (d0 : (self == ("__debug__" : Str)) = false) (d1 : (self == ("__classdict__" : Str)) = false)
    (hps : ps.length = fs.length + 1) (hr : ErrRest ps self rest fs 1) (hno : ∀ f ∈ fs, PySem.W.findIn K (.ref Ca) f = some none)
    (hbind : ∀ (kV doc pm : Value) (an : Option Addr) (cdv ct : Value) (cc : Addr) (u : Value) (us : List Value), us.length = fs.length → bindArgs (PySem.W.ksFn "__init__" d.qual d.params d.body d.scope .none kV doc pm an cdv ct cc) ⟨[u], fs.zip us⟩ = pure (ps.zip (u :: us))) (dbg : (d.cls == ("__debug__" : Str)) = false)
    (he : ∀ env, eval (.Call (.Attribute (.Call (.Name "super" p0) [] [] p1) "__init__" p2) [.Constant (.str m) j p3] [] p4) env = (do
      let ov ← attributeBase (.Call (.Name "super" p0) [] [] p1) "__init__" env (eval (.Call (.Name "super" p0) [] [] p1) env)
      standAt p2.atName
      let (f, first) ← holding [ov] (getMethod ov "__init__" pl)
      callWith p4 f first (backTo p4 (starEach [.Constant (.str m) j p3] env)) []) := by intro _; rfl) : EMkK P w K mg base d.cls Ca fs := by
  subst hC
  obtain ⟨h1, h⟩ := He.ba hm
  obtain ⟨h2, h3⟩ := He.ba h
  obtain ⟨i1, i2⟩ := iniB_ok h2
  obtain ⟨oc, od, dV, kV, doc, pm, an, ct, osl, cda, cc, lk, rfl, hcd, ⟨cl, cld, csl, hcc⟩, ccl, cdd, vs, ccs, f, t, hcda, hvs, hf⟩ := (errFn_ok (file := file) eo h3).ex
  obtain rfl : file = f := by simpa using hf
  have hb := fun u us hu => hbind kV doc pm an (.ref cda) ct cc u us hu
  rw [hbd] at lk hb
  exact ⟨⟨_, _, ps, supL_ok h1, i1, i2, fn_err (k := 0) (supL_ok h1) lk hcd S hcc hcda hvs hfile htop har hself h0 d0 d1 hps few hr hno he, hb⟩, few, nam, dbg⟩
end
end VL

set_option maxRecDepth 100000
set_option maxHeartbeats 2000000
namespace VL
open PySem PySem.Spec L2
open PyProof.Rows hiding St
/-! ### repr of lists and tuples of plain data and empty dicts -/
/-- what is read at a value, no dict in it being the table of modules -/
def It (h : Heap) (u : Value) (d : PyData) : Prop := ∃ as, Reads h u d as ∧ (d.hasDict = true → sysModules ∉ as)
inductive Its (h : Heap) : List Value → List PyData → Prop
  | nil : Its h [] []
  | cons {u : Value} {us : List Value} {d : PyData} {ds : List PyData} : It h u d → Its h us ds → Its h (u :: us) (d :: ds)
theorem Its.reads {h : Heap} : ∀ {us : List Value} {ds : List PyData}, Its h us ds → ∃ as, ReadsAll h us ds as
  | _, _, .nil => ⟨_, .nil⟩
  | _, _, .cons ⟨_, r, _⟩ t => let ⟨_, q⟩ := Its.reads t; ⟨_, .cons r q⟩
theorem Its.reprs {prog : Program} {w : World} {h : Heap} : ∀ {us : List Value} {ds : List PyData}, Its h us ds → PyData.showableAll ds = true → (∀ t ∈ PyData.shownAll ds, t.length ≤ sizeLine) →
    ∃ bs, ReadAtMost h (PyData.depthAll ds) bs ∧ ReprAllK prog w bs h (PyData.depthAll ds) us (PyData.shownAll ds)
  | _, _, .nil, _, _ => ⟨[], (fun _ h => nomatch h), by simp only [PyData.shownAll]; exact .nil⟩
  | _, _, .cons (d := d) (ds := ds) ⟨as, r, hsm⟩ rs, hs, hz => by
    have hs' : d.showable = true ∧ PyData.showableAll ds = true := by simpa [PyData.showableAll] using hs
    obtain ⟨b1, hb1, k1⟩ := ReprK.of_reads r hs'.1 hsm (hz _ (by simp only [PyData.shownAll]; exact List.mem_cons_self ..))
    obtain ⟨b2, hb2, k2⟩ := Its.reprs rs hs'.2 (fun t ht => hz t (by simp only [PyData.shownAll]; exact List.mem_cons_of_mem _ ht))
    refine ⟨b1 ++ b2, ?_, ?_⟩
    · intro b hm
      simp only [PyData.depthAll]
      rcases List.mem_append.mp hm with hm | hm
      · obtain ⟨d', as', r', hd'⟩ := hb1 b hm
        exact ⟨d', as', r', Nat.le_trans hd' (Nat.le_max_left _ _)⟩
      · obtain ⟨d', as', r', hd'⟩ := hb2 b hm
        exact ⟨d', as', r', Nat.le_trans hd' (Nat.le_max_right _ _)⟩
    · simp only [PyData.depthAll, PyData.shownAll]
      exact .cons ((k1.more fun b hb => List.mem_append_left _ hb).level_le (Nat.le_max_left _ _)) (k2.more_le (fun b hb => List.mem_append_right _ hb) (Nat.le_max_right _ _))
section
variable {prog : Program} {w : World} {h₀ : Heap} {a : Addr} {o : Obj} {vs : Array Value} {n : Nat} {ds : List PyData}
theorem shows_lst (h1 : h₀.get? a = some o) (h2 : o.cls = .type "list") (h3 : o.data = .seq vs n) (t : Its h₀ vs.toList ds) (hs : (PyData.list ds).showable = true) (hsz : (PyData.list ds).shown.length ≤ sizeLine) : ∃ T idr, ShowsBy prog w h₀ a (.list ds) T idr := by
  obtain ⟨as, h4⟩ := t.reads
  have hz' : (listText (PyData.shownAll ds)).length ≤ sizeLine := by simpa only [PyData.shown] using hsz
  obtain ⟨bs, hb, hk⟩ := t.reprs (prog := prog) (w := w) (by simpa [PyData.showable] using hs) (fun t ht => Nat.le_trans (listText_mem_le ht) hz')
  have hna : a ∉ bs := not_mem_of_deeper (.list h1 h2 h3 h4) (by simp only [PyData.depth]; omega) hb
  refine ⟨"list", "list.__repr__", F.slot_list_repr.toG, F.slot_list_str, F.slot_list_format, fun s hk0 => ⟨o, hk0 _ _ h1, h2⟩, fun A E s Q hg hu hk0 hQ => ?_⟩
  simp only [PyData.depth] at hu
  simp only [PyData.shown] at hQ
  obtain ⟨l⟩ := vs
  cases l with
  | nil =>
    have h4' : ReadsAll h₀ [] ds _ := h4
    cases h4'
    simp only [PyData.shownAll, listText_nil] at hQ
    exact call_list_repr_empty ⟨o, hk0 _ _ h1, h2⟩ (hk0 _ _ h1) h3 (hQ s.heap _ _ fun _ _ e => e)
  | cons x l =>
    exact call_list_reprK h1 h2 h3 hna (by simpa using hk.length_eq) (fun i y e => hk.item i y (by simpa using e)) hg (fun b _ => Clear.nil b) hu hk0 hQ hz'
theorem shows_tup (h1 : h₀.get? a = some o) (h2 : o.cls = .type "tuple") (h3 : o.data = .seq vs n) (t : Its h₀ vs.toList ds) (hs : (PyData.tuple ds).showable = true) (hsz : (PyData.tuple ds).shown.length ≤ sizeLine) : ∃ T idr, ShowsBy prog w h₀ a (.tuple ds) T idr := by
  obtain ⟨as, h4⟩ := t.reads
  have hz' : (tupleText (PyData.shownAll ds)).length ≤ sizeLine := by simpa only [PyData.shown] using hsz
  obtain ⟨bs, hb, hk⟩ := t.reprs (prog := prog) (w := w) (by simpa [PyData.showable] using hs) (fun t ht => Nat.le_trans (tupleText_mem_le ht) hz')
  have hna : a ∉ bs := not_mem_of_deeper (.tuple h1 h2 h3 h4) (by simp only [PyData.depth]; omega) hb
  refine ⟨"tuple", "tuple.__repr__", F.slot_tuple_repr, F.slot_tuple_str, F.slot_tuple_format, fun s hk0 => ⟨o, hk0 _ _ h1, h2⟩, fun A E s Q hg hu hk0 hQ => ?_⟩
  simp only [PyData.depth] at hu
  simp only [PyData.shown] at hQ
  exact call_tuple_reprK h1 h2 h3 hna hk hg (fun b _ => Clear.nil b) hu hk0 hQ hz'
end
/-- an item -/
def toI : PV → Option PyData
  | .dK [] [] => some (.dict [])
  | p => (toD p).bind fun d => if d.hasDict = false then some d else none
def toIs : List PV → Option (List PyData)
  | [] => some []
  | p :: ps => (toI p).bind fun d => (toIs ps).map fun ds => d :: ds
def semReprE : List PV → Option Val
  | [.tup xs] => (toIs xs).bind fun ds => reprOf (.tuple ds)
  | [.lst xs] => (toIs xs).bind fun ds => reprOf (.list ds)
  | _ => none
section
variable {X : Cx} {g : Gm} {F H : Hp} {σ : St} {env : Env'} {pins : List (Addr × Obj)} {s : Shared}
theorem it_of {C : Ct} (hK : C.K = X.K) (I : Inv X pins σ H s) {p : PV} {d : PyData} {v : V} {u : Value} (e : toI p = some d) (r : R C H p v) (ru : RelV v u) : It s.heap u d := by
  unfold toI at e
  split at e
  · cases e
    unfold R at r
    obtain ⟨da, kvs, rfl, hd, e1, e2⟩ := r
    have hk : kvs = [] := List.map_eq_nil_iff.mp e1
    subst hk
    obtain ⟨_, hsm, ws, kv, o, es, ep, o1, o2, o3, _, pr, _⟩ := dk_rd I.hok hd
    cases kv
    have hes : es.toList = [] := List.length_eq_zero_iff.mp pr.length
    cases ru
    refine ⟨_, .dict o1 o2.1 o3 (by rw [hes]; exact .nil) (by rw [hes]; exact .nil), fun _ z => ?_⟩
    have : sysModules = da := by simpa using z
    rw [← this] at hsm
    simp at hsm
  · cases hd : toD p with
    | none => rw [hd] at e; cases e
    | some d' =>
      rw [hd] at e
      have e : (if d'.hasDict = false then some d' else none) = some d := e
      split at e
      · rename_i hz
        cases e
        obtain ⟨as, rd⟩ := Dp.reads I d _ _ (by rw [← hK]; exact R.dp r hd) ru
        exact ⟨as, rd, fun z => by rw [hz] at z; cases z⟩
      · cases e
theorem its_of {C : Ct} (hK : C.K = X.K) (I : Inv X pins σ H s) : ∀ {ps : List PV} {ds : List PyData} {vs : List V} {us : List Value}, toIs ps = some ds → Rs C H ps vs → Vals vs us → Its s.heap us ds
  | [], ds, vs, us, e, r, ru => by
    cases e
    rw [r.nil_inv] at ru
    cases ru
    exact .nil
  | p :: ps, ds, vs, us, e, r, ru => by
    unfold toIs at e
    obtain ⟨w, r', rfl, q, t⟩ := r.cons_inv
    cases h1 : toI p with
    | none => rw [h1] at e; cases e
    | some d =>
      rw [h1, Option.bind_some] at e
      cases h2 : toIs ps with
      | none => rw [h2] at e; cases e
      | some ds' =>
        rw [h2] at e
        cases e
        cases ru with
        | cons ru1 ru2 => exact .cons (it_of hK I h1 q ru1) (its_of hK I h2 t ru2)
theorem reprE_run {a : Addr} {d : PyData} {r : Val} {Q : VK} (ok : Ok X g) (hg : X.A.guards = some []) (I : Inv X pins σ H s) (S : Stt g F H σ env) (rd : d.showable = true → d.shown.length ≤ sizeLine → ∃ T idr, ShowsBy X.prog X.w s.heap a d T idr)
    (e : reprOf d = some r) (k : ∀ F' H' w, Ex F F' → Stt g F' H' σ env → RV g F' H' σ env r w → Q w H') : wpAny (model X.prog X.w) X.A (PySem.call (.builtin "repr") [.ref a]) (EP X pins σ Q) X.xe s := by
  unfold reprOf at e
  split at e
  · rename_i h
    obtain ⟨h1, h2, h3⟩ := h
    cases e
    have := ok.u
    obtain ⟨T, idr, S'⟩ := rd h1 (by rw [sizeLine_eq]; exact h3)
    exact call_repr_slot (by omega) (S'.typeIs s fun _ _ z => z) S'.slotRepr (S'.call X.A.in1 X.xe s _ hg (by show X.A.units + 1 + d.depth < cLine; omega) (fun _ _ z => z) fun h' u tk kk => ⟨_, _, rfl, .str d.shown, H, I.kept (t' := tk) kk, ⟨_, rfl⟩, fin_str S k⟩)
  · cases e
theorem c_reprE (ok : Ok X g) (hg : X.A.guards = some []) : OpN X g (fun us => PySem.call (.builtin "repr") us) semReprE := by
  intro pins s σ F H env ps vs us r Q I S rv t e k
  unfold semReprE at e
  split at e
  · obtain ⟨v, rfl, h⟩ := rts1 t
    rename_i xs
    cases hd : toIs xs with
    | none => rw [hd] at e; cases e
    | some ds =>
      rw [hd, Option.bind_some] at e
      obtain ⟨a, ws, rfl, q1, rs⟩ := rt_tup h
      cases rv with
      | cons ru rr =>
        cases rr
        cases ru
        obtain ⟨its, rv2, ⟨o, ho, hc, n, hdat⟩, _⟩ := I.tuple (SqT.of q1)
        exact reprE_run ok hg I S (fun h1 h2 => shows_tup ho hc hdat (its_of ok.K I hd (rs.mono S.sub) rv2) h1 h2) e k
  · obtain ⟨v, rfl, h⟩ := rts1 t
    rename_i xs
    cases hd : toIs xs with
    | none => rw [hd] at e; cases e
    | some ds =>
      rw [hd, Option.bind_some] at e
      cases rv with
      | cons ru rr =>
        cases rr
        obtain ⟨a, ws, rfl, q1, rs⟩ := h
        cases ru
        obtain ⟨its, rv2, ⟨o, n, ho, hc, _, hdat⟩, _⟩ := I.list (SqL.of q1)
        exact reprE_run ok hg I S (fun h1 h2 => shows_lst ho hc hdat (its_of ok.K I hd (rs.mono S.sub) rv2) h1 h2) e k
  · cases e
end
end VL

set_option maxRecDepth 100000
set_option maxHeartbeats 2000000
namespace VL
open PySem PySem.Spec L2
open PyProof.Rows hiding St
section
variable {X : Cx} {g : Gm} {C : Ct} {L : Nat → List Nat} {nm : Nat → Str} {lay : Nat → List Nat} {e : Expr} {x : Str} {da : Env' → Res Val} {pos p ce : Pos} {n : Str}
/-- an error's field -/
theorem se_erfC {f : Nat} (hC : g.C = C) (ok : Ok X g) (hnm : C.nm = nm) (hL : C.eL = L) (co : ∀ c, ErrC C c) (hn : nm f = n) (ha : PE X e (tE g da)) (hb : attributeBase e n X.env (eval e X.env) = eval e X.env) : PE X (.Attribute e n pos) (tE g (dErF L f da)) := by
  subst hC
  exact se_erf ok hL co (by rw [hnm]; exact hn) ha hb
/-- isinstance(error, own error class) -/
theorem se_isXC {ans : Nat → Nat → Option Bool} {c : Nat} (hC : g.C = C) (ok : Ok X g) (co : ∀ c, ErrC C c) (an : AnsF X.K C ans) (nT : X.mg x = some (.ref (C.ea c))) (hm : X.mg "isinstance" = none) (hg : Gl X "isinstance") (hgT : Gl X x) (ha : PE X e (tE g da)) (hd : (x == ("__debug__" : Str)) = false)
    (hs : starEach [e, .Name x ce] X.env = (false, eval e X.env) :: starEach [.Name x ce] X.env) (hs2 : starEach [.Name x ce] X.env = (false, eval (.Name x ce) X.env) :: starEach [] X.env) (hpl : (backTo pos (starEach [.Name x ce] X.env)).any (·.1) = false) :
    PE X (.Call (.Name "isinstance" p) [e, .Name x ce] [] pos) (tE g (dIsX (ans c) da)) := by
  subst hC
  exact se_isX (c := .ref (g.C.ea c)) (u := .ref (g.C.ea c)) ok co (fun n b z => by rw [ok.K]; exact an.kit c n b z) hm hg ha (pe_glob hgT nT (show RelV (.ref (g.C.ea c)) (.ref (g.C.ea c)) from rfl) hd) (fun u' h => h) hs hs2 hpl
/-- all are errors of this builtin kind -/
def ansVE (k : Nat) : Nat → Option Bool := fun n => if n < k then some true else none
theorem se_isVE {k : Nat} {T : String} (hC : g.C = C) (ok : Ok X g) (co : ∀ c, ErrC C c) (hv : ∀ n, n < k → PySem.W.kitOne X.K (.ref (C.ea n)) (.type T) = some true) (hm : X.mg "isinstance" = none) (hg : Gl X "isinstance") (hmT : X.mg (Str.ofString T) = none) (hgT : Gl X (Str.ofString T)) (hbt : bootBuiltins (Str.ofString T) = some (.type T)) (ha : PE X e (tE g da))
    (hn : (Str.ofString T) ≠ "__name__") (hd : ((Str.ofString T) == ("__debug__" : Str)) = false)
    (hs : starEach [e, .Name (Str.ofString T) ce] X.env = (false, eval e X.env) :: starEach [.Name (Str.ofString T) ce] X.env) (hs2 : starEach [.Name (Str.ofString T) ce] X.env = (false, eval (.Name (Str.ofString T) ce) X.env) :: starEach [] X.env) (hpl : (backTo pos (starEach [.Name (Str.ofString T) ce] X.env)).any (·.1) = false) :
    PE X (.Call (.Name "isinstance" p) [e, .Name (Str.ofString T) ce] [] pos) (tE g (dIsX (ansVE k) da)) := by
  subst hC
  refine se_isX (c := .ty T) (u := .type T) ok co (fun n b z => ?_) hm hg ha (pe_bltn hgT hmT hbt (show RelV (.ty T) (.type T) from rfl) hn hd) (fun u' h => h) hs hs2 hpl
  rw [ok.K]
  unfold ansVE at z
  split at z
  · rename_i h
    cases z
    exact hv n h
  · cases z
def veB (K : PySem.W.Frag) (xs : List Str) : Bool := (List.range xs.length).all fun n => decide (PySem.W.kitOne K (.ref (He.ga K (xs.getD n ""))) (.type "ValueError") = some true)
theorem ve_ok {K : PySem.W.Frag} {xs : List Str} (h : veB K xs = true) (hea : ∀ n, n < xs.length → C.ea n = He.ga K (xs.getD n "")) : ∀ n, n < xs.length → PySem.W.kitOne K (.ref (C.ea n)) (.type "ValueError") = some true := fun n hn => by
  rw [hea n hn]
  exact of_decide_eq_true (List.all_eq_true.mp h n (List.mem_range.mpr hn))
theorem boot_ve : bootBuiltins (Str.ofString "ValueError") = some (.type "ValueError") := by first | rfl | decide +kernel
end
end VL

set_option maxRecDepth 100000
set_option maxHeartbeats 4000000
namespace K00
open PySem PySem.Spec L2 VL
open PyProof.Rows hiding St
def top (i : Nat) : Stmt := PySem.Challenge.pw_leastjoined_k00_errors.main.body.getD i (.Pass ⟨0, 0, 0, 0⟩)
def mth (i j : Nat) : Stmt := (C8.clsBody (top i)).getD j (.Pass ⟨0, 0, 0, 0⟩)
def lay : Nat → List Nat
  | _ => []
def nam : Nat → Str
  | 0 => "what"
  | 1 => "many"
  | 2 => "most"
  | 3 => "index"
  | 4 => "other"
  | 5 => "wanted"
  | 6 => "size"
  | 7 => "least"
  | 8 => "sign"
  | 9 => "tie"
  | 10 => "name"
  | 11 => "root"
  | 12 => "place"
  | 13 => "node"
  | 14 => "looks"
  | _ => ""
theorem ok_c {X : Cx} {g g' : Gm} (ok : Ok X g) (h : g'.C = g.C) : Ok X g' := ⟨by rw [h]; exact ok.K, ok.u, ok.calm⟩
structure CF (C : Ct) (L : Nat → List Nat) (nm : Nat → Str) : Prop where
  nm : C.nm = nm
structure Fx (mg : Str → Option Value) : Prop where
  n_abs : mg "abs" = none
  n_int : mg "int" = none
  n_len : mg "len" = none
  n_list : mg "list" = none
  n_range : mg "range" = none
  n_repr : mg "repr" = none
structure Dx (K : PySem.W.Frag) (mg : Str → Option Value) (C : Ct) : Prop where
  hK : C.K = K
  d_law_pen : ∃ f fd, mg "_law_pen" = some (.ref f) ∧ FunD K "_law_pen" "_law_pen" (defArgs (top 27)) (defBody (top 27)) (defScope (top 27)) [] [] f fd
  d_law_draw : ∃ f fd, mg "_law_draw" = some (.ref f) ∧ FunD K "_law_draw" "_law_draw" (defArgs (top 28)) (defBody (top 28)) (defScope (top 28)) [] [] f fd
  d_law_pick : ∃ f fd, mg "_law_pick" = some (.ref f) ∧ FunD K "_law_pick" "_law_pick" (defArgs (top 29)) (defBody (top 29)) (defScope (top 29)) [] [] f fd
  d_law_anything : ∃ f fd, mg "_law_anything" = some (.ref f) ∧ FunD K "_law_anything" "_law_anything" (defArgs (top 30)) (defBody (top 30)) (defScope (top 30)) [] [] f fd
  d_law_by_position : ∃ f fd, mg "_law_by_position" = some (.ref f) ∧ FunD K "_law_by_position" "_law_by_position" (defArgs (top 31)) (defBody (top 31)) (defScope (top 31)) [] [] f fd
  d_law_by_name : ∃ f fd, mg "_law_by_name" = some (.ref f) ∧ FunD K "_law_by_name" "_law_by_name" (defArgs (top 32)) (defBody (top 32)) (defScope (top 32)) [] [] f fd
  d_law_all_made : ∃ f fd, mg "_law_all_made" = some (.ref f) ∧ FunD K "_law_all_made" "_law_all_made" (defArgs (top 33)) (defBody (top 33)) (defScope (top 33)) [] [] f fd
  d_law_sorts : ∃ f fd, mg "_law_sorts" = some (.ref f) ∧ FunD K "_law_sorts" "_law_sorts" (defArgs (top 34)) (defBody (top 34)) (defScope (top 34)) [] [] f fd
structure Lx (K : PySem.W.Frag) (mg : Str → Option Value) (base : Heap) (C : Ct) : Prop where
  l_law : ∃ f fd c, mg "law" = some (.ref f) ∧ FunD K "law" "law" (defArgs (top 35)) (defBody (top 35)) (defScope (top 35)) [] [] f fd ∧ fd.code = .ref c ∧ LamF base mg C "law" c
  one : True
def eLay : Nat → List Nat
  | 0 => []
  | 1 => [0, 1, 2]
  | 2 => [3]
  | 3 => [3]
  | 4 => []
  | 5 => [3]
  | 6 => [3, 4]
  | 7 => [1, 5]
  | 8 => [6]
  | 9 => []
  | 10 => [2, 7]
  | 11 => [8]
  | 12 => []
  | 13 => [9]
  | 14 => []
  | 15 => [3]
  | 16 => [10]
  | 17 => [10]
  | 18 => [11]
  | 19 => [12]
  | 20 => [3]
  | 21 => [13]
  | 22 => [13]
  | 23 => [14]
  | 24 => []
  | _ => []
def exT : List (List Bool) := [[true, true, true, true, true, true, true, true, true, true, true, true, true, true, true, true, true, true, true, true, true, true, true, true, true], [false, true, false, false, false, false, false, false, false, false, false, false, false, false, false, false, false, false, false, false, false, false, false, false, false], [false, false, true, false, false, false, false, false, false, false, false, false, false, false, false, false, false, false, false, false, false, false, false, false, false], [false, false, false, true, false, false, false, false, false, false, false, false, false, false, false, false, false, false, false, false, false, false, false, false, false], [false, false, false, false, true, false, false, false, false, false, false, false, false, false, false, false, false, false, false, false, false, false, false, false, false], [false, false, false, false, false, true, false, false, false, false, false, false, false, false, false, false, false, false, false, false, false, false, false, false, false], [false, false, false, false, false, false, true, false, false, false, false, false, false, false, false, false, false, false, false, false, false, false, false, false, false], [false, false, false, false, false, false, false, true, false, false, false, false, false, false, false, false, false, false, false, false, false, false, false, false, false], [false, false, false, false, false, false, false, false, true, false, false, false, false, false, false, false, false, false, false, false, false, false, false, false, false], [false, false, false, false, false, false, false, false, false, true, false, false, false, false, false, false, false, false, false, false, false, false, false, false, false], [false, false, false, false, false, false, false, false, false, false, true, false, false, false, false, false, false, false, false, false, false, false, false, false, false], [false, false, false, false, false, false, false, false, false, false, false, true, false, false, false, false, false, false, false, false, false, false, false, false, false], [false, false, false, false, false, false, false, false, false, false, false, false, true, false, false, false, false, false, false, false, false, false, false, false, false], [false, false, false, false, false, false, false, false, false, false, false, false, false, true, false, false, false, false, false, false, false, false, false, false, false], [false, false, false, false, false, false, false, false, false, false, false, false, false, false, true, false, false, false, false, false, false, false, false, false, false], [false, false, false, false, false, false, false, false, false, false, false, false, false, false, false, true, false, false, false, false, false, false, false, false, false], [false, false, false, false, false, false, false, false, false, false, false, false, false, false, false, false, true, false, false, false, false, false, false, false, false], [false, false, false, false, false, false, false, false, false, false, false, false, false, false, false, false, false, true, false, false, false, false, false, false, false], [false, false, false, false, false, false, false, false, false, false, false, false, false, false, false, false, false, false, true, false, false, false, false, false, false], [false, false, false, false, false, false, false, false, false, false, false, false, false, false, false, false, false, false, false, true, false, false, false, false, false], [false, false, false, false, false, false, false, false, false, false, false, false, false, false, false, false, false, false, false, false, true, false, false, false, false], [false, false, false, false, false, false, false, false, false, false, false, false, false, false, false, false, false, false, false, false, false, true, false, false, false], [false, false, false, false, false, false, false, false, false, false, false, false, false, false, false, false, false, false, false, false, false, false, true, false, false], [false, false, false, false, false, false, false, false, false, false, false, false, false, false, false, false, false, false, false, false, false, false, false, true, false], [false, false, false, false, false, false, false, false, false, false, false, false, false, false, false, false, false, false, false, false, false, false, false, false, true]]
def ansX : Nat → Nat → Option Bool := fun c n => (exT[c]?).bind fun r => r[n]?
structure Ek (P : Program) (w : World) (K : PySem.W.Frag) (mg : Str → Option Value) (base : Heap) (C : Ct) : Prop where
  n_JoinsError : mg "JoinsError" = some (.ref (C.ea 0))
  e_TooMany : EMk P w K mg base "TooMany" (C.ea 1) (C.el 1)
  l_TooMany : (C.el 1).length = 3
  k_TooMany : EMkK P w K mg base "TooMany" (C.ea 1) (C.el 1)
  f_TooMany : C.el 1 = (["what", "many", "most"] : List Str)
  n_TooMany : mg "TooMany" = some (.ref (C.ea 1))
  e_BadCount : EMk P w K mg base "BadCount" (C.ea 2) (C.el 2)
  l_BadCount : (C.el 2).length = 1
  k_BadCount : EMkK P w K mg base "BadCount" (C.ea 2) (C.el 2)
  f_BadCount : C.el 2 = (["index"] : List Str)
  n_BadCount : mg "BadCount" = some (.ref (C.ea 2))
  e_BadLength : EMk P w K mg base "BadLength" (C.ea 3) (C.el 3)
  l_BadLength : (C.el 3).length = 1
  k_BadLength : EMkK P w K mg base "BadLength" (C.ea 3) (C.el 3)
  f_BadLength : C.el 3 = (["index"] : List Str)
  n_BadLength : mg "BadLength" = some (.ref (C.ea 3))
  e_NotFull : EMk P w K mg base "NotFull" (C.ea 4) (C.el 4)
  l_NotFull : (C.el 4).length = 0
  k_NotFull : EMkK P w K mg base "NotFull" (C.ea 4) (C.el 4)
  f_NotFull : C.el 4 = ([] : List Str)
  n_NotFull : mg "NotFull" = some (.ref (C.ea 4))
  e_BadWord : EMk P w K mg base "BadWord" (C.ea 5) (C.el 5)
  l_BadWord : (C.el 5).length = 1
  k_BadWord : EMkK P w K mg base "BadWord" (C.ea 5) (C.el 5)
  f_BadWord : C.el 5 = (["index"] : List Str)
  n_BadWord : mg "BadWord" = some (.ref (C.ea 5))
  e_Begins : EMk P w K mg base "Begins" (C.ea 6) (C.el 6)
  l_Begins : (C.el 6).length = 2
  k_Begins : EMkK P w K mg base "Begins" (C.ea 6) (C.el 6)
  f_Begins : C.el 6 = (["index", "other"] : List Str)
  n_Begins : mg "Begins" = some (.ref (C.ea 6))
  e_OtherSize : EMk P w K mg base "OtherSize" (C.ea 7) (C.el 7)
  l_OtherSize : (C.el 7).length = 2
  k_OtherSize : EMkK P w K mg base "OtherSize" (C.ea 7) (C.el 7)
  f_OtherSize : C.el 7 = (["many", "wanted"] : List Str)
  n_OtherSize : mg "OtherSize" = some (.ref (C.ea 7))
  e_BadSize : EMk P w K mg base "BadSize" (C.ea 8) (C.el 8)
  l_BadSize : (C.el 8).length = 1
  k_BadSize : EMkK P w K mg base "BadSize" (C.ea 8) (C.el 8)
  f_BadSize : C.el 8 = (["size"] : List Str)
  n_BadSize : mg "BadSize" = some (.ref (C.ea 8))
  e_NoBorder : EMk P w K mg base "NoBorder" (C.ea 9) (C.el 9)
  l_NoBorder : (C.el 9).length = 0
  k_NoBorder : EMkK P w K mg base "NoBorder" (C.ea 9) (C.el 9)
  f_NoBorder : C.el 9 = ([] : List Str)
  n_NoBorder : mg "NoBorder" = some (.ref (C.ea 9))
  e_TooShort : EMk P w K mg base "TooShort" (C.ea 10) (C.el 10)
  l_TooShort : (C.el 10).length = 2
  k_TooShort : EMkK P w K mg base "TooShort" (C.ea 10) (C.el 10)
  f_TooShort : C.el 10 = (["most", "least"] : List Str)
  n_TooShort : mg "TooShort" = some (.ref (C.ea 10))
  e_TooLong : EMk P w K mg base "TooLong" (C.ea 11) (C.el 11)
  l_TooLong : (C.el 11).length = 1
  k_TooLong : EMkK P w K mg base "TooLong" (C.ea 11) (C.el 11)
  f_TooLong : C.el 11 = (["sign"] : List Str)
  n_TooLong : mg "TooLong" = some (.ref (C.ea 11))
  e_BadOver : EMk P w K mg base "BadOver" (C.ea 12) (C.el 12)
  l_BadOver : (C.el 12).length = 0
  k_BadOver : EMkK P w K mg base "BadOver" (C.ea 12) (C.el 12)
  f_BadOver : C.el 12 = ([] : List Str)
  n_BadOver : mg "BadOver" = some (.ref (C.ea 12))
  e_BadTie : EMk P w K mg base "BadTie" (C.ea 13) (C.el 13)
  l_BadTie : (C.el 13).length = 1
  k_BadTie : EMkK P w K mg base "BadTie" (C.ea 13) (C.el 13)
  f_BadTie : C.el 13 = (["tie"] : List Str)
  n_BadTie : mg "BadTie" = some (.ref (C.ea 13))
  e_NotLeast : EMk P w K mg base "NotLeast" (C.ea 14) (C.el 14)
  l_NotLeast : (C.el 14).length = 0
  k_NotLeast : EMkK P w K mg base "NotLeast" (C.ea 14) (C.el 14)
  f_NotLeast : C.el 14 = ([] : List Str)
  n_NotLeast : mg "NotLeast" = some (.ref (C.ea 14))
  e_BadSign : EMk P w K mg base "BadSign" (C.ea 15) (C.el 15)
  l_BadSign : (C.el 15).length = 1
  k_BadSign : EMkK P w K mg base "BadSign" (C.ea 15) (C.el 15)
  f_BadSign : C.el 15 = (["index"] : List Str)
  n_BadSign : mg "BadSign" = some (.ref (C.ea 15))
  e_BadRule : EMk P w K mg base "BadRule" (C.ea 16) (C.el 16)
  l_BadRule : (C.el 16).length = 1
  k_BadRule : EMkK P w K mg base "BadRule" (C.ea 16) (C.el 16)
  f_BadRule : C.el 16 = (["name"] : List Str)
  n_BadRule : mg "BadRule" = some (.ref (C.ea 16))
  e_Ring : EMk P w K mg base "Ring" (C.ea 17) (C.el 17)
  l_Ring : (C.el 17).length = 1
  k_Ring : EMkK P w K mg base "Ring" (C.ea 17) (C.el 17)
  f_Ring : C.el 17 = (["name"] : List Str)
  n_Ring : mg "Ring" = some (.ref (C.ea 17))
  e_NoRule : EMk P w K mg base "NoRule" (C.ea 18) (C.el 18)
  l_NoRule : (C.el 18).length = 1
  k_NoRule : EMkK P w K mg base "NoRule" (C.ea 18) (C.el 18)
  f_NoRule : C.el 18 = (["root"] : List Str)
  n_NoRule : mg "NoRule" = some (.ref (C.ea 18))
  e_BadPlace : EMk P w K mg base "BadPlace" (C.ea 19) (C.el 19)
  l_BadPlace : (C.el 19).length = 1
  k_BadPlace : EMkK P w K mg base "BadPlace" (C.ea 19) (C.el 19)
  f_BadPlace : C.el 19 = (["place"] : List Str)
  n_BadPlace : mg "BadPlace" = some (.ref (C.ea 19))
  e_BadBits : EMk P w K mg base "BadBits" (C.ea 20) (C.el 20)
  l_BadBits : (C.el 20).length = 1
  k_BadBits : EMkK P w K mg base "BadBits" (C.ea 20) (C.el 20)
  f_BadBits : C.el 20 = (["index"] : List Str)
  n_BadBits : mg "BadBits" = some (.ref (C.ea 20))
  e_BadNode : EMk P w K mg base "BadNode" (C.ea 21) (C.el 21)
  l_BadNode : (C.el 21).length = 1
  k_BadNode : EMkK P w K mg base "BadNode" (C.ea 21) (C.el 21)
  f_BadNode : C.el 21 = (["node"] : List Str)
  n_BadNode : mg "BadNode" = some (.ref (C.ea 21))
  e_BadTable : EMk P w K mg base "BadTable" (C.ea 22) (C.el 22)
  l_BadTable : (C.el 22).length = 1
  k_BadTable : EMkK P w K mg base "BadTable" (C.ea 22) (C.el 22)
  f_BadTable : C.el 22 = (["node"] : List Str)
  n_BadTable : mg "BadTable" = some (.ref (C.ea 22))
  e_BadLooks : EMk P w K mg base "BadLooks" (C.ea 23) (C.el 23)
  l_BadLooks : (C.el 23).length = 1
  k_BadLooks : EMkK P w K mg base "BadLooks" (C.ea 23) (C.el 23)
  f_BadLooks : C.el 23 = (["looks"] : List Str)
  n_BadLooks : mg "BadLooks" = some (.ref (C.ea 23))
  e_NoSigns : EMk P w K mg base "NoSigns" (C.ea 24) (C.el 24)
  l_NoSigns : (C.el 24).length = 0
  k_NoSigns : EMkK P w K mg base "NoSigns" (C.ea 24) (C.el 24)
  f_NoSigns : C.el 24 = ([] : List Str)
  n_NoSigns : mg "NoSigns" = some (.ref (C.ea 24))
  nVE : mg "ValueError" = none
  ve : ∀ n, n < 25 → PySem.W.kitOne K (.ref (C.ea n)) (.type "ValueError") = some true
  isi : mg "isinstance" = none
  co : ∀ c, ErrC C c
  eL : C.eL = eLay
  ans : AnsF K C ansX
/-! ### _law_pen -/
def N_law_pen : List Str := ["_law_script"]
theorem nd_law_pen : N_law_pen.Nodup := by decide
def d_law_pen : Env' → Res Fl := (dRet (dDisp [((fun e => .ok (.fz (.str "cells")) e), (dCall semList [(dSl (dVar 0) none (some (fun e => .ok (.fz (.int 63)) e)))])), ((fun e => .ok (.fz (.str "opened")) e), (fun e => .ok (.fz (.int 0)) e)), ((fun e => .ok (.fz (.str "left")) e), (fun e => .ok (.fz (.int 0)) e))] [] []))
def F_law_pen : List PV → FR := callFn 1 [false] d_law_pen
theorem fn_law_pen {P : Program} {w : World} {K : PySem.W.Frag} {mg : Str → Option Value} {base : Heap} {C : Ct} (fx : Fx mg) (dx : Dx K mg C) (cf : CF C lay nam) (lx : Lx K mg base C) (ek : Ek P w K mg base C) {f : Addr} {fd : FuncData} (Fd : FunD K "_law_pen" "_law_pen" (defArgs (top 27)) (defBody (top 27)) (defScope (top 27)) [] [] f fd) : FnOk P w K mg base C8.CX0 1 f fd ["_law_script"] (SpV C [false] F_law_pen) :=
  fnV (N := N_law_pen) (k := 0) Fd (C8.fnScope_by (by decide +kernel)) rfl (by decide) dx.hK fun cdv A outer s H E g hC hr ok =>
    (ss_one (ss_ret (se_disp (prs := [((fun e => .ok (.fz (.str "cells")) e), (dCall semList [(dSl (dVar 0) none (some (fun e => .ok (.fz (.int 63)) e)))])), ((fun e => .ok (.fz (.str "opened")) e), (fun e => .ok (.fz (.int 0)) e)), ((fun e => .ok (.fz (.str "left")) e), (fun e => .ok (.fz (.int 0)) e))]) (spp_cons (fun g1 h1 => have ok1 := ok_c ok h1; se_str) (fun g1 h1 => have ok1 := ok_c ok h1; (se_callTy (c_list ok1) rfl fx.n_list boot_list (sa_cons (se_slice ok1 (se_var (i := 0) (by rfl) ((by first | exact .inl rfl | exact .inr (.inl rfl) | exact .inr (.inr rfl))) (by decide) (by decide)) spo_none (spo_some se_int)) sa_nil rfl) (by decide) (by decide) rfl rfl)) (spp_cons (fun g1 h1 => have ok1 := ok_c ok h1; se_str) (fun g1 h1 => have ok1 := ok_c ok h1; se_int) (spp_cons (fun g1 h1 => have ok1 := ok_c ok h1; se_str) (fun g1 h1 => have ok1 := ok_c ok h1; se_int) pps_nil))) rfl rfl (by simp) (by decide) (by decide))))
theorem cal_law_pen {P : Program} {w : World} {K : PySem.W.Frag} {mg : Str → Option Value} {base : Heap} {C : Ct} (fx : Fx mg) (dx : Dx K mg C) (cf : CF C lay nam) (lx : Lx K mg base C) (ek : Ek P w K mg base C) : C8.Cal P w K mg base 1 "_law_pen" (SpV C [false] F_law_pen) [] := by
  obtain ⟨f, fd, hm, Fd⟩ := dx.d_law_pen
  exact ⟨f, fd, ["_law_script"], [], fn_law_pen fx dx cf lx ek Fd, hm, Fd.kp, (Fd.bindsN (ps := ["_law_script"]) fun _ _ _ _ _ _ us hl => match us, hl with | [_], _ => rfl), .nil⟩
/-! ### _law_draw -/
def N_law_draw : List Str := ["_law_pen_here", "_law_base", "_law_digit", "_law_k", "_law_told_cells", "_law_cell", "_law_mix"]
theorem nd_law_draw : N_law_draw.Nodup := by decide
def d_law_draw : Env' → Res Fl := (dSeq (dIfS (asB (dBin semGt (dBin semIx (dVar 0) (fun e => .ok (.fz (.str "left")) e)) (fun e => .ok (.fz (.int 0)) e))) (dSeq (dSet 2 (dBin semMod (dCall semInt [(dBin semIx (dVar 0) (fun e => .ok (.fz (.str "left")) e))]) (dVar 1))) (dSeq (dPut 0 (fun e => .ok (.fz (.str "left")) e) (dBin semDiv (dBin semIx (dVar 0) (fun e => .ok (.fz (.str "left")) e)) (dVar 1))) (dRet (dVar 2)))) (fun e => .ok .nx e)) (dSeq (dPar [3, 4] [(dBin semIx (dVar 0) (fun e => .ok (.fz (.str "opened")) e)), (dBin semIx (dVar 0) (fun e => .ok (.fz (.str "cells")) e))]) (dSeq (dPut 0 (fun e => .ok (.fz (.str "opened")) e) (dBin semAdd (dVar 3) (fun e => .ok (.fz (.int 1)) e))) (dSeq (dIfS (asB (dBin semEq (dVar 4) (dLst []))) (dRet (dBin semMod (dCall semInt [(dBin semAdd (dBin semMul (fun e => .ok (.fz (.int 7)) e) (dVar 3)) (fun e => .ok (.fz (.int 3)) e))]) (dVar 1))) (fun e => .ok .nx e)) (dSeq (dSet 5 (dBin semIx (dVar 4) (dBin semMod (dCall semInt [(dVar 3)]) (dCall semLen [(dVar 4)])))) (dSeq (dIfS (dAndT (asB (dBin semLt (dVar 3) (dCall semLen [(dVar 4)]))) (asB (dBin semGe (dCall semAbs [(dVar 5)]) (dBin semPow (fun e => .ok (.fz (.int 10)) e) (fun e => .ok (.fz (.int 18)) e))))) (dSeq (dPut 0 (fun e => .ok (.fz (.str "left")) e) (dBin semDiv (dBin semSub (dCall semAbs [(dVar 5)]) (dBin semPow (fun e => .ok (.fz (.int 10)) e) (fun e => .ok (.fz (.int 18)) e))) (dVar 1))) (dRet (dBin semMod (dCall semInt [(dBin semSub (dCall semAbs [(dVar 5)]) (dBin semPow (fun e => .ok (.fz (.int 10)) e) (fun e => .ok (.fz (.int 18)) e)))]) (dVar 1)))) (fun e => .ok .nx e)) (dSeq (dSet 6 (dBin semMod (dCall semInt [(dBin semAdd (dBin semAdd (dBin semAdd (dBin semMul (dBin semMod (dCall semInt [(dVar 5)]) (fun e => .ok (.fz (.int 4294965361)) e)) (fun e => .ok (.fz (.int 41903)) e)) (dBin semMul (dBin semMul (fun e => .ok (.fz (.int 27011)) e) (dVar 3)) (dVar 3))) (dBin semMul (fun e => .ok (.fz (.int 853)) e) (dVar 3))) (fun e => .ok (.fz (.int 71)) e))]) (fun e => .ok (.fz (.int 4294965383)) e))) (dSeq (dSet 6 (dBin semMod (dCall semInt [(dBin semAdd (dBin semAdd (dBin semMul (dVar 6) (dVar 6)) (dBin semMul (fun e => .ok (.fz (.int 40213)) e) (dVar 6))) (dBin semMul (fun e => .ok (.fz (.int 37)) e) (dVar 3)))]) (fun e => .ok (.fz (.int 4294965337)) e))) (dRet (dBin semMod (dCall semInt [(dBin semDiv (dBin semMod (dCall semInt [(dBin semMul (dVar 6) (dBin semAdd (dVar 6) (fun e => .ok (.fz (.int 60317)) e)))]) (fun e => .ok (.fz (.int 4294965313)) e)) (fun e => .ok (.fz (.int 128)) e))]) (dVar 1)))))))))))
def F_law_draw : List PV → FR := callFn 7 [true, false] d_law_draw
theorem fn_law_draw {P : Program} {w : World} {K : PySem.W.Frag} {mg : Str → Option Value} {base : Heap} {C : Ct} (fx : Fx mg) (dx : Dx K mg C) (cf : CF C lay nam) (lx : Lx K mg base C) (ek : Ek P w K mg base C) {f : Addr} {fd : FuncData} (Fd : FunD K "_law_draw" "_law_draw" (defArgs (top 28)) (defBody (top 28)) (defScope (top 28)) [] [] f fd) : FnOk P w K mg base C8.CX0 1 f fd ["_law_pen_here", "_law_base"] (SpV C [true, false] F_law_draw) :=
  fnV (N := N_law_draw) (k := 0) Fd (C8.fnScope_by (by decide +kernel)) rfl (by decide) dx.hK fun cdv A outer s H E g hC hr ok =>
    (ss_cons (ss_if (st_cmp (se_ix (o_ix ok) (se_var (i := 0) (by rfl) ((by first | exact .inl rfl | exact .inr (.inl rfl) | exact .inr (.inr rfl))) (by decide) (by decide)) se_str (fun _ _ => rfl)) se_int o_gt rfl) (ss_cons (ss_set (i := 2) nd_law_draw rfl ((by first | exact .inl rfl | exact .inr rfl)) (se_bin (se_callTy (c_int) rfl fx.n_int boot_int (sa_cons (se_ix (o_ix ok) (se_var (i := 0) (by rfl) ((by first | exact .inl rfl | exact .inr (.inl rfl) | exact .inr (.inr rfl))) (by decide) (by decide)) se_str (fun _ _ => rfl)) sa_nil rfl) (by decide) (by decide) rfl rfl) (se_var (i := 1) (by rfl) ((by first | exact .inl rfl | exact .inr (.inl rfl) | exact .inr (.inr rfl))) (by decide) (by decide)) o_mod) rfl ((by first | exact .inr rfl | exact .inl rfl)))
    (ss_cons (ss_put (i := 0) ok (pe_var (i := 0) (by rfl) ((by first | exact .inl rfl | exact .inr (.inl rfl) | exact .inr (.inr rfl))) (by decide) (by decide)) se_str (se_bin (se_ix (o_ix ok) (se_var (i := 0) (by rfl) ((by first | exact .inl rfl | exact .inr (.inl rfl) | exact .inr (.inr rfl))) (by decide) (by decide)) se_str (fun _ _ => rfl)) (se_var (i := 1) (by rfl) ((by first | exact .inl rfl | exact .inr (.inl rfl) | exact .inr (.inr rfl))) (by decide) (by decide)) o_div) rfl rfl rfl (fun _ => rfl))
    (ss_one (ss_ret (se_var (i := 2) (by rfl) ((by first | exact .inl rfl | exact .inr (.inl rfl) | exact .inr (.inr rfl))) (by decide) (by decide)))))) ss_nil)
    (ss_cons (ss_par (i := 3) (j := 4) ok nd_law_draw rfl rfl (by decide) rfl rfl (sax_cons (fun g1 h1 => have ok1 := ok_c ok h1; (se_ix (o_ix ok1) (se_var (i := 0) (by rfl) ((by first | exact .inl rfl | exact .inr (.inl rfl) | exact .inr (.inr rfl))) (by decide) (by decide)) se_str (fun _ _ => rfl))) (sax_cons (fun g1 h1 => have ok1 := ok_c ok h1; (se_ix (o_ix ok1) (se_var (i := 0) (by rfl) ((by first | exact .inl rfl | exact .inr (.inl rfl) | exact .inr (.inr rfl))) (by decide) (by decide)) se_str (fun _ _ => rfl))) sax_nil rfl) rfl) rfl rfl)
    (ss_cons (ss_put (i := 0) ok (pe_var (i := 0) (by rfl) ((by first | exact .inl rfl | exact .inr (.inl rfl) | exact .inr (.inr rfl))) (by decide) (by decide)) se_str (se_bin (se_var (i := 3) (by rfl) ((by first | exact .inl rfl | exact .inr (.inl rfl) | exact .inr (.inr rfl))) (by decide) (by decide)) se_int o_add) rfl rfl rfl (fun _ => rfl))
    (ss_cons (ss_if (st_cmp (se_var (i := 4) (by rfl) ((by first | exact .inl rfl | exact .inr (.inl rfl) | exact .inr (.inr rfl))) (by decide) (by decide)) (se_lst sa_nil) (o_eq ok) rfl) (ss_one (ss_ret (se_bin (se_callTy (c_int) rfl fx.n_int boot_int (sa_cons (se_bin (se_bin se_int (se_var (i := 3) (by rfl) ((by first | exact .inl rfl | exact .inr (.inl rfl) | exact .inr (.inr rfl))) (by decide) (by decide)) o_mul) se_int o_add) sa_nil rfl) (by decide) (by decide) rfl rfl) (se_var (i := 1) (by rfl) ((by first | exact .inl rfl | exact .inr (.inl rfl) | exact .inr (.inr rfl))) (by decide) (by decide)) o_mod))) ss_nil)
    (ss_cons (ss_set (i := 5) nd_law_draw rfl ((by first | exact .inl rfl | exact .inr rfl)) (se_ix (o_ix ok) (se_var (i := 4) (by rfl) ((by first | exact .inl rfl | exact .inr (.inl rfl) | exact .inr (.inr rfl))) (by decide) (by decide)) (se_bin (se_callTy (c_int) rfl fx.n_int boot_int (sa_cons (se_var (i := 3) (by rfl) ((by first | exact .inl rfl | exact .inr (.inl rfl) | exact .inr (.inr rfl))) (by decide) (by decide)) sa_nil rfl) (by decide) (by decide) rfl rfl) (se_callB (c_len ok) rfl fx.n_len boot_len (sa_cons (se_var (i := 4) (by rfl) ((by first | exact .inl rfl | exact .inr (.inl rfl) | exact .inr (.inr rfl))) (by decide) (by decide)) sa_nil rfl) (by decide) (by decide) rfl rfl) o_mod) (fun _ _ => rfl)) rfl ((by first | exact .inr rfl | exact .inl rfl)))
    (ss_cons (ss_if (PW.pt (sw_and (st_cmp (se_var (i := 3) (by rfl) ((by first | exact .inl rfl | exact .inr (.inl rfl) | exact .inr (.inr rfl))) (by decide) (by decide)) (se_callB (c_len ok) rfl fx.n_len boot_len (sa_cons (se_var (i := 4) (by rfl) ((by first | exact .inl rfl | exact .inr (.inl rfl) | exact .inr (.inr rfl))) (by decide) (by decide)) sa_nil rfl) (by decide) (by decide) rfl rfl) o_lt rfl) (sw_and1 (st_cmp (se_callB (c_abs) rfl fx.n_abs boot_abs (sa_cons (se_var (i := 5) (by rfl) ((by first | exact .inl rfl | exact .inr (.inl rfl) | exact .inr (.inr rfl))) (by decide) (by decide)) sa_nil rfl) (by decide) (by decide) rfl rfl) (se_bin se_int se_int o_pow) o_ge rfl)))) (ss_cons (ss_put (i := 0) ok (pe_var (i := 0) (by rfl) ((by first | exact .inl rfl | exact .inr (.inl rfl) | exact .inr (.inr rfl))) (by decide) (by decide)) se_str (se_bin (se_bin (se_callB (c_abs) rfl fx.n_abs boot_abs (sa_cons (se_var (i := 5) (by rfl) ((by first | exact .inl rfl | exact .inr (.inl rfl) | exact .inr (.inr rfl))) (by decide) (by decide)) sa_nil rfl) (by decide) (by decide) rfl rfl) (se_bin se_int se_int o_pow) o_sub) (se_var (i := 1) (by rfl) ((by first | exact .inl rfl | exact .inr (.inl rfl) | exact .inr (.inr rfl))) (by decide) (by decide)) o_div) rfl rfl rfl (fun _ => rfl))
    (ss_one (ss_ret (se_bin (se_callTy (c_int) rfl fx.n_int boot_int (sa_cons (se_bin (se_callB (c_abs) rfl fx.n_abs boot_abs (sa_cons (se_var (i := 5) (by rfl) ((by first | exact .inl rfl | exact .inr (.inl rfl) | exact .inr (.inr rfl))) (by decide) (by decide)) sa_nil rfl) (by decide) (by decide) rfl rfl) (se_bin se_int se_int o_pow) o_sub) sa_nil rfl) (by decide) (by decide) rfl rfl) (se_var (i := 1) (by rfl) ((by first | exact .inl rfl | exact .inr (.inl rfl) | exact .inr (.inr rfl))) (by decide) (by decide)) o_mod)))) ss_nil)
    (ss_cons (ss_set (i := 6) nd_law_draw rfl ((by first | exact .inl rfl | exact .inr rfl)) (se_bin (se_callTy (c_int) rfl fx.n_int boot_int (sa_cons (se_bin (se_bin (se_bin (se_bin (se_bin (se_callTy (c_int) rfl fx.n_int boot_int (sa_cons (se_var (i := 5) (by rfl) ((by first | exact .inl rfl | exact .inr (.inl rfl) | exact .inr (.inr rfl))) (by decide) (by decide)) sa_nil rfl) (by decide) (by decide) rfl rfl) se_int o_mod) se_int o_mul) (se_bin (se_bin se_int (se_var (i := 3) (by rfl) ((by first | exact .inl rfl | exact .inr (.inl rfl) | exact .inr (.inr rfl))) (by decide) (by decide)) o_mul) (se_var (i := 3) (by rfl) ((by first | exact .inl rfl | exact .inr (.inl rfl) | exact .inr (.inr rfl))) (by decide) (by decide)) o_mul) o_add) (se_bin se_int (se_var (i := 3) (by rfl) ((by first | exact .inl rfl | exact .inr (.inl rfl) | exact .inr (.inr rfl))) (by decide) (by decide)) o_mul) o_add) se_int o_add) sa_nil rfl) (by decide) (by decide) rfl rfl) se_int o_mod) rfl ((by first | exact .inr rfl | exact .inl rfl)))
    (ss_cons (ss_set (i := 6) nd_law_draw rfl ((by first | exact .inl rfl | exact .inr rfl)) (se_bin (se_callTy (c_int) rfl fx.n_int boot_int (sa_cons (se_bin (se_bin (se_bin (se_var (i := 6) (by rfl) ((by first | exact .inl rfl | exact .inr (.inl rfl) | exact .inr (.inr rfl))) (by decide) (by decide)) (se_var (i := 6) (by rfl) ((by first | exact .inl rfl | exact .inr (.inl rfl) | exact .inr (.inr rfl))) (by decide) (by decide)) o_mul) (se_bin se_int (se_var (i := 6) (by rfl) ((by first | exact .inl rfl | exact .inr (.inl rfl) | exact .inr (.inr rfl))) (by decide) (by decide)) o_mul) o_add) (se_bin se_int (se_var (i := 3) (by rfl) ((by first | exact .inl rfl | exact .inr (.inl rfl) | exact .inr (.inr rfl))) (by decide) (by decide)) o_mul) o_add) sa_nil rfl) (by decide) (by decide) rfl rfl) se_int o_mod) rfl ((by first | exact .inr rfl | exact .inl rfl)))
    (ss_one (ss_ret (se_bin (se_callTy (c_int) rfl fx.n_int boot_int (sa_cons (se_bin (se_bin (se_callTy (c_int) rfl fx.n_int boot_int (sa_cons (se_bin (se_var (i := 6) (by rfl) ((by first | exact .inl rfl | exact .inr (.inl rfl) | exact .inr (.inr rfl))) (by decide) (by decide)) (se_bin (se_var (i := 6) (by rfl) ((by first | exact .inl rfl | exact .inr (.inl rfl) | exact .inr (.inr rfl))) (by decide) (by decide)) se_int o_add) o_mul) sa_nil rfl) (by decide) (by decide) rfl rfl) se_int o_mod) se_int o_div) sa_nil rfl) (by decide) (by decide) rfl rfl) (se_var (i := 1) (by rfl) ((by first | exact .inl rfl | exact .inr (.inl rfl) | exact .inr (.inr rfl))) (by decide) (by decide)) o_mod)))))))))))
theorem cal_law_draw {P : Program} {w : World} {K : PySem.W.Frag} {mg : Str → Option Value} {base : Heap} {C : Ct} (fx : Fx mg) (dx : Dx K mg C) (cf : CF C lay nam) (lx : Lx K mg base C) (ek : Ek P w K mg base C) : C8.Cal P w K mg base 1 "_law_draw" (SpV C [true, false] F_law_draw) [] := by
  obtain ⟨f, fd, hm, Fd⟩ := dx.d_law_draw
  exact ⟨f, fd, ["_law_pen_here", "_law_base"], [], fn_law_draw fx dx cf lx ek Fd, hm, Fd.kp, (Fd.bindsN (ps := ["_law_pen_here", "_law_base"]) fun _ _ _ _ _ _ us hl => match us, hl with | [_, _], _ => rfl), .nil⟩
/-! ### _law_pick -/
def N_law_pick : List Str := ["_law_pen_here", "_law_some"]
theorem nd_law_pick : N_law_pick.Nodup := by decide
def d_law_pick : Env' → Res Fl := (dRet (dBin semIx (dVar 1) (dFn [true, false] F_law_draw [] [(dVar 0), (dCall semLen [(dVar 1)])])))
def F_law_pick : List PV → FR := callFn 2 [true, false] d_law_pick
theorem fn_law_pick {P : Program} {w : World} {K : PySem.W.Frag} {mg : Str → Option Value} {base : Heap} {C : Ct} (fx : Fx mg) (dx : Dx K mg C) (cf : CF C lay nam) (lx : Lx K mg base C) (ek : Ek P w K mg base C) {f : Addr} {fd : FuncData} (Fd : FunD K "_law_pick" "_law_pick" (defArgs (top 29)) (defBody (top 29)) (defScope (top 29)) [] [] f fd) : FnOk P w K mg base C8.CX0 2 f fd ["_law_pen_here", "_law_some"] (SpV C [true, false] F_law_pick) :=
  fnV (N := N_law_pick) (k := 1) Fd (C8.fnScope_by (by decide +kernel)) rfl (by decide) dx.hK fun cdv A outer s H E g hC hr ok =>
    (ss_one (ss_ret (se_ix (o_ix ok) (se_var (i := 1) (by rfl) ((by first | exact .inl rfl | exact .inr (.inl rfl) | exact .inr (.inr rfl))) (by decide) (by decide)) (se_fnC hC (cal_law_draw fx dx cf lx ek) hr (by decide) rfl rs_nil0 (sa_cons (se_var (i := 0) (by rfl) ((by first | exact .inl rfl | exact .inr (.inl rfl) | exact .inr (.inr rfl))) (by decide) (by decide)) (sa_cons (se_callB (c_len ok) rfl fx.n_len boot_len (sa_cons (se_var (i := 1) (by rfl) ((by first | exact .inl rfl | exact .inr (.inl rfl) | exact .inr (.inr rfl))) (by decide) (by decide)) sa_nil rfl) (by decide) (by decide) rfl rfl) sa_nil rfl) rfl) (by decide) rfl rfl) (fun _ _ => rfl))))
theorem cal_law_pick {P : Program} {w : World} {K : PySem.W.Frag} {mg : Str → Option Value} {base : Heap} {C : Ct} (fx : Fx mg) (dx : Dx K mg C) (cf : CF C lay nam) (lx : Lx K mg base C) (ek : Ek P w K mg base C) : C8.Cal P w K mg base 2 "_law_pick" (SpV C [true, false] F_law_pick) [] := by
  obtain ⟨f, fd, hm, Fd⟩ := dx.d_law_pick
  exact ⟨f, fd, ["_law_pen_here", "_law_some"], [], fn_law_pick fx dx cf lx ek Fd, hm, Fd.kp, (Fd.bindsN (ps := ["_law_pen_here", "_law_some"]) fun _ _ _ _ _ _ us hl => match us, hl with | [_, _], _ => rfl), .nil⟩
/-! ### _law_anything -/
def N_law_anything : List Str := ["_law_pen_here"]
theorem nd_law_anything : N_law_anything.Nodup := by decide
def d_law_anything : Env' → Res Fl := (dRet (dFn [true, false] F_law_pick [] [(dVar 0), (dLst [(fun e => .ok (.fz .non) e), (fun e => .ok (.fz (.bl true)) e), (fun e => .ok (.fz (.int 0)) e), (fun e => .ok (.fz (.int 5)) e), (dUn semNeg (fun e => .ok (.fz (.int 1)) e)), (dBin semPow (fun e => .ok (.fz (.int 10)) e) (fun e => .ok (.fz (.int 30)) e)), (fun e => .ok (.fz (.str "")) e), (fun e => .ok (.fz (.str "f")) e), (dTup []), (dTup [(fun e => .ok (.fz (.int 1)) e), (fun e => .ok (.fz (.int 2)) e)]), (dLst [(fun e => .ok (.fz (.int 3)) e)]), dNewK, (dBin semAdd (dBin semPow (fun e => .ok (.fz (.int 10)) e) (fun e => .ok (.fz (.int 9)) e)) (dFn [true, false] F_law_draw [] [(dVar 0), (fun e => .ok (.fz (.int 99)) e)]))])]))
def F_law_anything : List PV → FR := callFn 1 [true] d_law_anything
theorem fn_law_anything {P : Program} {w : World} {K : PySem.W.Frag} {mg : Str → Option Value} {base : Heap} {C : Ct} (fx : Fx mg) (dx : Dx K mg C) (cf : CF C lay nam) (lx : Lx K mg base C) (ek : Ek P w K mg base C) {f : Addr} {fd : FuncData} (Fd : FunD K "_law_anything" "_law_anything" (defArgs (top 30)) (defBody (top 30)) (defScope (top 30)) [] [] f fd) : FnOk P w K mg base C8.CX0 3 f fd ["_law_pen_here"] (SpV C [true] F_law_anything) :=
  fnV (N := N_law_anything) (k := 2) Fd (C8.fnScope_by (by decide +kernel)) rfl (by decide) dx.hK fun cdv A outer s H E g hC hr ok =>
    (ss_one (ss_ret (se_fnC hC (cal_law_pick fx dx cf lx ek) hr (by decide) rfl rs_nil0 (sa_cons (se_var (i := 0) (by rfl) ((by first | exact .inl rfl | exact .inr (.inl rfl) | exact .inr (.inr rfl))) (by decide) (by decide)) (sa_cons (se_lst (sa_cons se_non (sa_cons se_bl (sa_cons se_int (sa_cons se_int (sa_cons (se_un se_int o_neg) (sa_cons (se_bin se_int se_int o_pow) (sa_cons se_str (sa_cons se_str (sa_cons (se_tup sa_nil) (sa_cons (se_tup (sa_cons se_int (sa_cons se_int sa_nil rfl) rfl)) (sa_cons (se_lst (sa_cons se_int sa_nil rfl)) (sa_cons se_dnewK (sa_cons (se_bin (se_bin se_int se_int o_pow) (se_fnC hC (cal_law_draw fx dx cf lx ek) hr (by decide) rfl rs_nil0 (sa_cons (se_var (i := 0) (by rfl) ((by first | exact .inl rfl | exact .inr (.inl rfl) | exact .inr (.inr rfl))) (by decide) (by decide)) (sa_cons se_int sa_nil rfl) rfl) (by decide) rfl rfl) o_add) sa_nil rfl) rfl) rfl) rfl) rfl) rfl) rfl) rfl) rfl) rfl) rfl) rfl) rfl)) sa_nil rfl) rfl) (by decide) rfl rfl)))
theorem cal_law_anything {P : Program} {w : World} {K : PySem.W.Frag} {mg : Str → Option Value} {base : Heap} {C : Ct} (fx : Fx mg) (dx : Dx K mg C) (cf : CF C lay nam) (lx : Lx K mg base C) (ek : Ek P w K mg base C) : C8.Cal P w K mg base 3 "_law_anything" (SpV C [true] F_law_anything) [] := by
  obtain ⟨f, fd, hm, Fd⟩ := dx.d_law_anything
  exact ⟨f, fd, ["_law_pen_here"], [], fn_law_anything fx dx cf lx ek Fd, hm, Fd.kp, (Fd.bindsN (ps := ["_law_pen_here"]) fun _ _ _ _ _ _ us hl => match us, hl with | [_], _ => rfl), .nil⟩
/-! ### _law_by_position -/
def N_law_by_position : List Str := ["_law_a", "_law_b", "_law_c", "_law_found"]
theorem nd_law_by_position : N_law_by_position.Nodup := by decide
def d_law_by_position : Env' → Res Fl := (dSeq (dSet 3 (dLst [(dErF eLay 0 (dMkE 1 3 [(dVar 0), (dVar 1), (dVar 2)])), (dErF eLay 1 (dMkE 1 3 [(dVar 0), (dVar 1), (dVar 2)])), (dErF eLay 2 (dMkE 1 3 [(dVar 0), (dVar 1), (dVar 2)])), (dErF eLay 3 (dMkE 2 1 [(dVar 0)]))])) (dSeq (dSet 3 (dBin semAdd (dVar 3) (dLst [(dErF eLay 3 (dMkE 3 1 [(dVar 0)])), (dErF eLay 3 (dMkE 5 1 [(dVar 0)])), (dErF eLay 3 (dMkE 6 2 [(dVar 0), (dVar 1)])), (dErF eLay 4 (dMkE 6 2 [(dVar 0), (dVar 1)]))]))) (dSeq (dSet 3 (dBin semAdd (dVar 3) (dLst [(dErF eLay 1 (dMkE 7 2 [(dVar 0), (dVar 1)])), (dErF eLay 5 (dMkE 7 2 [(dVar 0), (dVar 1)])), (dErF eLay 6 (dMkE 8 1 [(dVar 0)])), (dErF eLay 2 (dMkE 10 2 [(dVar 0), (dVar 1)]))]))) (dSeq (dSet 3 (dBin semAdd (dVar 3) (dLst [(dErF eLay 7 (dMkE 10 2 [(dVar 0), (dVar 1)])), (dErF eLay 8 (dMkE 11 1 [(dVar 0)])), (dErF eLay 9 (dMkE 13 1 [(dVar 0)])), (dErF eLay 3 (dMkE 15 1 [(dVar 0)]))]))) (dSeq (dSet 3 (dBin semAdd (dVar 3) (dLst [(dErF eLay 10 (dMkE 16 1 [(dVar 0)])), (dErF eLay 10 (dMkE 17 1 [(dVar 0)])), (dErF eLay 11 (dMkE 18 1 [(dVar 0)])), (dErF eLay 12 (dMkE 19 1 [(dVar 0)])), (dErF eLay 3 (dMkE 20 1 [(dVar 0)]))]))) (dSeq (dSet 3 (dBin semAdd (dVar 3) (dLst [(dErF eLay 13 (dMkE 21 1 [(dVar 0)])), (dErF eLay 13 (dMkE 22 1 [(dVar 0)])), (dErF eLay 14 (dMkE 23 1 [(dVar 0)]))]))) (dRet (dVar 3))))))))
def F_law_by_position : List PV → FR := callFn 4 [false, false, false] d_law_by_position
theorem fn_law_by_position {P : Program} {w : World} {K : PySem.W.Frag} {mg : Str → Option Value} {base : Heap} {C : Ct} (fx : Fx mg) (dx : Dx K mg C) (cf : CF C lay nam) (lx : Lx K mg base C) (ek : Ek P w K mg base C) {f : Addr} {fd : FuncData} (Fd : FunD K "_law_by_position" "_law_by_position" (defArgs (top 31)) (defBody (top 31)) (defScope (top 31)) [] [] f fd) : FnOk P w K mg base C8.CX0 3 f fd ["_law_a", "_law_b", "_law_c"] (SpV C [false, false, false] F_law_by_position) :=
  fnV (N := N_law_by_position) (k := 2) Fd (C8.fnScope_by (by decide +kernel)) rfl (by decide) dx.hK fun cdv A outer s H E g hC hr ok =>
    (ss_cons (ss_set (i := 3) nd_law_by_position rfl ((by first | exact .inl rfl | exact .inr rfl)) (se_lst (sa_cons (se_erfC (f := 0) hC ok cf.nm ek.eL ek.co rfl (se_mkEP hC ek.e_TooMany ek.l_TooMany hr (by decide) rfl (sa_cons (se_var (i := 0) (by rfl) ((by first | exact .inl rfl | exact .inr (.inl rfl) | exact .inr (.inr rfl))) (by decide) (by decide)) (sa_cons (se_var (i := 1) (by rfl) ((by first | exact .inl rfl | exact .inr (.inl rfl) | exact .inr (.inr rfl))) (by decide) (by decide)) (sa_cons (se_var (i := 2) (by rfl) ((by first | exact .inl rfl | exact .inr (.inl rfl) | exact .inr (.inr rfl))) (by decide) (by decide)) sa_nil rfl) rfl) rfl) rfl rfl) rfl) (sa_cons (se_erfC (f := 1) hC ok cf.nm ek.eL ek.co rfl (se_mkEP hC ek.e_TooMany ek.l_TooMany hr (by decide) rfl (sa_cons (se_var (i := 0) (by rfl) ((by first | exact .inl rfl | exact .inr (.inl rfl) | exact .inr (.inr rfl))) (by decide) (by decide)) (sa_cons (se_var (i := 1) (by rfl) ((by first | exact .inl rfl | exact .inr (.inl rfl) | exact .inr (.inr rfl))) (by decide) (by decide)) (sa_cons (se_var (i := 2) (by rfl) ((by first | exact .inl rfl | exact .inr (.inl rfl) | exact .inr (.inr rfl))) (by decide) (by decide)) sa_nil rfl) rfl) rfl) rfl rfl) rfl) (sa_cons (se_erfC (f := 2) hC ok cf.nm ek.eL ek.co rfl (se_mkEP hC ek.e_TooMany ek.l_TooMany hr (by decide) rfl (sa_cons (se_var (i := 0) (by rfl) ((by first | exact .inl rfl | exact .inr (.inl rfl) | exact .inr (.inr rfl))) (by decide) (by decide)) (sa_cons (se_var (i := 1) (by rfl) ((by first | exact .inl rfl | exact .inr (.inl rfl) | exact .inr (.inr rfl))) (by decide) (by decide)) (sa_cons (se_var (i := 2) (by rfl) ((by first | exact .inl rfl | exact .inr (.inl rfl) | exact .inr (.inr rfl))) (by decide) (by decide)) sa_nil rfl) rfl) rfl) rfl rfl) rfl) (sa_cons (se_erfC (f := 3) hC ok cf.nm ek.eL ek.co rfl (se_mkEP hC ek.e_BadCount ek.l_BadCount hr (by decide) rfl (sa_cons (se_var (i := 0) (by rfl) ((by first | exact .inl rfl | exact .inr (.inl rfl) | exact .inr (.inr rfl))) (by decide) (by decide)) sa_nil rfl) rfl rfl) rfl) sa_nil rfl) rfl) rfl) rfl)) rfl ((by first | exact .inr rfl | exact .inl rfl)))
    (ss_cons (ss_set (i := 3) nd_law_by_position rfl ((by first | exact .inl rfl | exact .inr rfl)) (se_bin (se_var (i := 3) (by rfl) ((by first | exact .inl rfl | exact .inr (.inl rfl) | exact .inr (.inr rfl))) (by decide) (by decide)) (se_lst (sa_cons (se_erfC (f := 3) hC ok cf.nm ek.eL ek.co rfl (se_mkEP hC ek.e_BadLength ek.l_BadLength hr (by decide) rfl (sa_cons (se_var (i := 0) (by rfl) ((by first | exact .inl rfl | exact .inr (.inl rfl) | exact .inr (.inr rfl))) (by decide) (by decide)) sa_nil rfl) rfl rfl) rfl) (sa_cons (se_erfC (f := 3) hC ok cf.nm ek.eL ek.co rfl (se_mkEP hC ek.e_BadWord ek.l_BadWord hr (by decide) rfl (sa_cons (se_var (i := 0) (by rfl) ((by first | exact .inl rfl | exact .inr (.inl rfl) | exact .inr (.inr rfl))) (by decide) (by decide)) sa_nil rfl) rfl rfl) rfl) (sa_cons (se_erfC (f := 3) hC ok cf.nm ek.eL ek.co rfl (se_mkEP hC ek.e_Begins ek.l_Begins hr (by decide) rfl (sa_cons (se_var (i := 0) (by rfl) ((by first | exact .inl rfl | exact .inr (.inl rfl) | exact .inr (.inr rfl))) (by decide) (by decide)) (sa_cons (se_var (i := 1) (by rfl) ((by first | exact .inl rfl | exact .inr (.inl rfl) | exact .inr (.inr rfl))) (by decide) (by decide)) sa_nil rfl) rfl) rfl rfl) rfl) (sa_cons (se_erfC (f := 4) hC ok cf.nm ek.eL ek.co rfl (se_mkEP hC ek.e_Begins ek.l_Begins hr (by decide) rfl (sa_cons (se_var (i := 0) (by rfl) ((by first | exact .inl rfl | exact .inr (.inl rfl) | exact .inr (.inr rfl))) (by decide) (by decide)) (sa_cons (se_var (i := 1) (by rfl) ((by first | exact .inl rfl | exact .inr (.inl rfl) | exact .inr (.inr rfl))) (by decide) (by decide)) sa_nil rfl) rfl) rfl rfl) rfl) sa_nil rfl) rfl) rfl) rfl)) o_add) rfl ((by first | exact .inr rfl | exact .inl rfl)))
    (ss_cons (ss_set (i := 3) nd_law_by_position rfl ((by first | exact .inl rfl | exact .inr rfl)) (se_bin (se_var (i := 3) (by rfl) ((by first | exact .inl rfl | exact .inr (.inl rfl) | exact .inr (.inr rfl))) (by decide) (by decide)) (se_lst (sa_cons (se_erfC (f := 1) hC ok cf.nm ek.eL ek.co rfl (se_mkEP hC ek.e_OtherSize ek.l_OtherSize hr (by decide) rfl (sa_cons (se_var (i := 0) (by rfl) ((by first | exact .inl rfl | exact .inr (.inl rfl) | exact .inr (.inr rfl))) (by decide) (by decide)) (sa_cons (se_var (i := 1) (by rfl) ((by first | exact .inl rfl | exact .inr (.inl rfl) | exact .inr (.inr rfl))) (by decide) (by decide)) sa_nil rfl) rfl) rfl rfl) rfl) (sa_cons (se_erfC (f := 5) hC ok cf.nm ek.eL ek.co rfl (se_mkEP hC ek.e_OtherSize ek.l_OtherSize hr (by decide) rfl (sa_cons (se_var (i := 0) (by rfl) ((by first | exact .inl rfl | exact .inr (.inl rfl) | exact .inr (.inr rfl))) (by decide) (by decide)) (sa_cons (se_var (i := 1) (by rfl) ((by first | exact .inl rfl | exact .inr (.inl rfl) | exact .inr (.inr rfl))) (by decide) (by decide)) sa_nil rfl) rfl) rfl rfl) rfl) (sa_cons (se_erfC (f := 6) hC ok cf.nm ek.eL ek.co rfl (se_mkEP hC ek.e_BadSize ek.l_BadSize hr (by decide) rfl (sa_cons (se_var (i := 0) (by rfl) ((by first | exact .inl rfl | exact .inr (.inl rfl) | exact .inr (.inr rfl))) (by decide) (by decide)) sa_nil rfl) rfl rfl) rfl) (sa_cons (se_erfC (f := 2) hC ok cf.nm ek.eL ek.co rfl (se_mkEP hC ek.e_TooShort ek.l_TooShort hr (by decide) rfl (sa_cons (se_var (i := 0) (by rfl) ((by first | exact .inl rfl | exact .inr (.inl rfl) | exact .inr (.inr rfl))) (by decide) (by decide)) (sa_cons (se_var (i := 1) (by rfl) ((by first | exact .inl rfl | exact .inr (.inl rfl) | exact .inr (.inr rfl))) (by decide) (by decide)) sa_nil rfl) rfl) rfl rfl) rfl) sa_nil rfl) rfl) rfl) rfl)) o_add) rfl ((by first | exact .inr rfl | exact .inl rfl)))
    (ss_cons (ss_set (i := 3) nd_law_by_position rfl ((by first | exact .inl rfl | exact .inr rfl)) (se_bin (se_var (i := 3) (by rfl) ((by first | exact .inl rfl | exact .inr (.inl rfl) | exact .inr (.inr rfl))) (by decide) (by decide)) (se_lst (sa_cons (se_erfC (f := 7) hC ok cf.nm ek.eL ek.co rfl (se_mkEP hC ek.e_TooShort ek.l_TooShort hr (by decide) rfl (sa_cons (se_var (i := 0) (by rfl) ((by first | exact .inl rfl | exact .inr (.inl rfl) | exact .inr (.inr rfl))) (by decide) (by decide)) (sa_cons (se_var (i := 1) (by rfl) ((by first | exact .inl rfl | exact .inr (.inl rfl) | exact .inr (.inr rfl))) (by decide) (by decide)) sa_nil rfl) rfl) rfl rfl) rfl) (sa_cons (se_erfC (f := 8) hC ok cf.nm ek.eL ek.co rfl (se_mkEP hC ek.e_TooLong ek.l_TooLong hr (by decide) rfl (sa_cons (se_var (i := 0) (by rfl) ((by first | exact .inl rfl | exact .inr (.inl rfl) | exact .inr (.inr rfl))) (by decide) (by decide)) sa_nil rfl) rfl rfl) rfl) (sa_cons (se_erfC (f := 9) hC ok cf.nm ek.eL ek.co rfl (se_mkEP hC ek.e_BadTie ek.l_BadTie hr (by decide) rfl (sa_cons (se_var (i := 0) (by rfl) ((by first | exact .inl rfl | exact .inr (.inl rfl) | exact .inr (.inr rfl))) (by decide) (by decide)) sa_nil rfl) rfl rfl) rfl) (sa_cons (se_erfC (f := 3) hC ok cf.nm ek.eL ek.co rfl (se_mkEP hC ek.e_BadSign ek.l_BadSign hr (by decide) rfl (sa_cons (se_var (i := 0) (by rfl) ((by first | exact .inl rfl | exact .inr (.inl rfl) | exact .inr (.inr rfl))) (by decide) (by decide)) sa_nil rfl) rfl rfl) rfl) sa_nil rfl) rfl) rfl) rfl)) o_add) rfl ((by first | exact .inr rfl | exact .inl rfl)))
    (ss_cons (ss_set (i := 3) nd_law_by_position rfl ((by first | exact .inl rfl | exact .inr rfl)) (se_bin (se_var (i := 3) (by rfl) ((by first | exact .inl rfl | exact .inr (.inl rfl) | exact .inr (.inr rfl))) (by decide) (by decide)) (se_lst (sa_cons (se_erfC (f := 10) hC ok cf.nm ek.eL ek.co rfl (se_mkEP hC ek.e_BadRule ek.l_BadRule hr (by decide) rfl (sa_cons (se_var (i := 0) (by rfl) ((by first | exact .inl rfl | exact .inr (.inl rfl) | exact .inr (.inr rfl))) (by decide) (by decide)) sa_nil rfl) rfl rfl) rfl) (sa_cons (se_erfC (f := 10) hC ok cf.nm ek.eL ek.co rfl (se_mkEP hC ek.e_Ring ek.l_Ring hr (by decide) rfl (sa_cons (se_var (i := 0) (by rfl) ((by first | exact .inl rfl | exact .inr (.inl rfl) | exact .inr (.inr rfl))) (by decide) (by decide)) sa_nil rfl) rfl rfl) rfl) (sa_cons (se_erfC (f := 11) hC ok cf.nm ek.eL ek.co rfl (se_mkEP hC ek.e_NoRule ek.l_NoRule hr (by decide) rfl (sa_cons (se_var (i := 0) (by rfl) ((by first | exact .inl rfl | exact .inr (.inl rfl) | exact .inr (.inr rfl))) (by decide) (by decide)) sa_nil rfl) rfl rfl) rfl) (sa_cons (se_erfC (f := 12) hC ok cf.nm ek.eL ek.co rfl (se_mkEP hC ek.e_BadPlace ek.l_BadPlace hr (by decide) rfl (sa_cons (se_var (i := 0) (by rfl) ((by first | exact .inl rfl | exact .inr (.inl rfl) | exact .inr (.inr rfl))) (by decide) (by decide)) sa_nil rfl) rfl rfl) rfl) (sa_cons (se_erfC (f := 3) hC ok cf.nm ek.eL ek.co rfl (se_mkEP hC ek.e_BadBits ek.l_BadBits hr (by decide) rfl (sa_cons (se_var (i := 0) (by rfl) ((by first | exact .inl rfl | exact .inr (.inl rfl) | exact .inr (.inr rfl))) (by decide) (by decide)) sa_nil rfl) rfl rfl) rfl) sa_nil rfl) rfl) rfl) rfl) rfl)) o_add) rfl ((by first | exact .inr rfl | exact .inl rfl)))
    (ss_cons (ss_set (i := 3) nd_law_by_position rfl ((by first | exact .inl rfl | exact .inr rfl)) (se_bin (se_var (i := 3) (by rfl) ((by first | exact .inl rfl | exact .inr (.inl rfl) | exact .inr (.inr rfl))) (by decide) (by decide)) (se_lst (sa_cons (se_erfC (f := 13) hC ok cf.nm ek.eL ek.co rfl (se_mkEP hC ek.e_BadNode ek.l_BadNode hr (by decide) rfl (sa_cons (se_var (i := 0) (by rfl) ((by first | exact .inl rfl | exact .inr (.inl rfl) | exact .inr (.inr rfl))) (by decide) (by decide)) sa_nil rfl) rfl rfl) rfl) (sa_cons (se_erfC (f := 13) hC ok cf.nm ek.eL ek.co rfl (se_mkEP hC ek.e_BadTable ek.l_BadTable hr (by decide) rfl (sa_cons (se_var (i := 0) (by rfl) ((by first | exact .inl rfl | exact .inr (.inl rfl) | exact .inr (.inr rfl))) (by decide) (by decide)) sa_nil rfl) rfl rfl) rfl) (sa_cons (se_erfC (f := 14) hC ok cf.nm ek.eL ek.co rfl (se_mkEP hC ek.e_BadLooks ek.l_BadLooks hr (by decide) rfl (sa_cons (se_var (i := 0) (by rfl) ((by first | exact .inl rfl | exact .inr (.inl rfl) | exact .inr (.inr rfl))) (by decide) (by decide)) sa_nil rfl) rfl rfl) rfl) sa_nil rfl) rfl) rfl)) o_add) rfl ((by first | exact .inr rfl | exact .inl rfl)))
    (ss_one (ss_ret (se_var (i := 3) (by rfl) ((by first | exact .inl rfl | exact .inr (.inl rfl) | exact .inr (.inr rfl))) (by decide) (by decide))))))))))
theorem cal_law_by_position {P : Program} {w : World} {K : PySem.W.Frag} {mg : Str → Option Value} {base : Heap} {C : Ct} (fx : Fx mg) (dx : Dx K mg C) (cf : CF C lay nam) (lx : Lx K mg base C) (ek : Ek P w K mg base C) : C8.Cal P w K mg base 3 "_law_by_position" (SpV C [false, false, false] F_law_by_position) [] := by
  obtain ⟨f, fd, hm, Fd⟩ := dx.d_law_by_position
  exact ⟨f, fd, ["_law_a", "_law_b", "_law_c"], [], fn_law_by_position fx dx cf lx ek Fd, hm, Fd.kp, (Fd.bindsN (ps := ["_law_a", "_law_b", "_law_c"]) fun _ _ _ _ _ _ us hl => match us, hl with | [_, _, _], _ => rfl), .nil⟩
/-! ### _law_by_name -/
def N_law_by_name : List Str := ["_law_a", "_law_b", "_law_c", "_law_found"]
theorem nd_law_by_name : N_law_by_name.Nodup := by decide
def d_law_by_name : Env' → Res Fl := (dSeq (dSet 3 (dLst [(dErF eLay 0 (dMkE 1 3 [(dVar 0), (dVar 1), (dVar 2)])), (dErF eLay 1 (dMkE 1 3 [(dVar 0), (dVar 1), (dVar 2)]))])) (dSeq (dSet 3 (dBin semAdd (dVar 3) (dLst [(dErF eLay 2 (dMkE 1 3 [(dVar 0), (dVar 1), (dVar 2)])), (dErF eLay 3 (dMkE 2 1 [(dVar 0)]))]))) (dSeq (dSet 3 (dBin semAdd (dVar 3) (dLst [(dErF eLay 3 (dMkE 3 1 [(dVar 0)])), (dErF eLay 3 (dMkE 5 1 [(dVar 0)])), (dErF eLay 3 (dMkE 6 2 [(dVar 0), (dVar 1)]))]))) (dSeq (dSet 3 (dBin semAdd (dVar 3) (dLst [(dErF eLay 4 (dMkE 6 2 [(dVar 0), (dVar 1)])), (dErF eLay 1 (dMkE 7 2 [(dVar 0), (dVar 1)]))]))) (dSeq (dSet 3 (dBin semAdd (dVar 3) (dLst [(dErF eLay 5 (dMkE 7 2 [(dVar 0), (dVar 1)])), (dErF eLay 6 (dMkE 8 1 [(dVar 0)]))]))) (dSeq (dSet 3 (dBin semAdd (dVar 3) (dLst [(dErF eLay 2 (dMkE 10 2 [(dVar 0), (dVar 1)])), (dErF eLay 7 (dMkE 10 2 [(dVar 0), (dVar 1)])), (dErF eLay 8 (dMkE 11 1 [(dVar 0)]))]))) (dSeq (dSet 3 (dBin semAdd (dVar 3) (dLst [(dErF eLay 9 (dMkE 13 1 [(dVar 0)])), (dErF eLay 3 (dMkE 15 1 [(dVar 0)])), (dErF eLay 10 (dMkE 16 1 [(dVar 0)])), (dErF eLay 10 (dMkE 17 1 [(dVar 0)]))]))) (dSeq (dSet 3 (dBin semAdd (dVar 3) (dLst [(dErF eLay 11 (dMkE 18 1 [(dVar 0)])), (dErF eLay 12 (dMkE 19 1 [(dVar 0)])), (dErF eLay 3 (dMkE 20 1 [(dVar 0)]))]))) (dSeq (dSet 3 (dBin semAdd (dVar 3) (dLst [(dErF eLay 13 (dMkE 21 1 [(dVar 0)])), (dErF eLay 13 (dMkE 22 1 [(dVar 0)])), (dErF eLay 14 (dMkE 23 1 [(dVar 0)]))]))) (dRet (dVar 3)))))))))))
def F_law_by_name : List PV → FR := callFn 4 [false, false, false] d_law_by_name
theorem fn_law_by_name {P : Program} {w : World} {K : PySem.W.Frag} {mg : Str → Option Value} {base : Heap} {C : Ct} (fx : Fx mg) (dx : Dx K mg C) (cf : CF C lay nam) (lx : Lx K mg base C) (ek : Ek P w K mg base C) {f : Addr} {fd : FuncData} (Fd : FunD K "_law_by_name" "_law_by_name" (defArgs (top 32)) (defBody (top 32)) (defScope (top 32)) [] [] f fd) : FnOk P w K mg base C8.CX0 3 f fd ["_law_a", "_law_b", "_law_c"] (SpV C [false, false, false] F_law_by_name) :=
  fnV (N := N_law_by_name) (k := 2) Fd (C8.fnScope_by (by decide +kernel)) rfl (by decide) dx.hK fun cdv A outer s H E g hC hr ok =>
    (ss_cons (ss_set (i := 3) nd_law_by_name rfl ((by first | exact .inl rfl | exact .inr rfl)) (se_lst (sa_cons (se_erfC (f := 0) hC ok cf.nm ek.eL ek.co rfl (se_mkEK hC ek.k_TooMany ek.l_TooMany hr (by decide) rfl ek.f_TooMany (sk_cons (se_var (i := 0) (by rfl) ((by first | exact .inl rfl | exact .inr (.inl rfl) | exact .inr (.inr rfl))) (by decide) (by decide)) (sk_cons (se_var (i := 1) (by rfl) ((by first | exact .inl rfl | exact .inr (.inl rfl) | exact .inr (.inr rfl))) (by decide) (by decide)) (sk_cons (se_var (i := 2) (by rfl) ((by first | exact .inl rfl | exact .inr (.inl rfl) | exact .inr (.inr rfl))) (by decide) (by decide)) sk_nil)))) rfl) (sa_cons (se_erfC (f := 1) hC ok cf.nm ek.eL ek.co rfl (se_mkEK hC ek.k_TooMany ek.l_TooMany hr (by decide) rfl ek.f_TooMany (sk_cons (se_var (i := 0) (by rfl) ((by first | exact .inl rfl | exact .inr (.inl rfl) | exact .inr (.inr rfl))) (by decide) (by decide)) (sk_cons (se_var (i := 1) (by rfl) ((by first | exact .inl rfl | exact .inr (.inl rfl) | exact .inr (.inr rfl))) (by decide) (by decide)) (sk_cons (se_var (i := 2) (by rfl) ((by first | exact .inl rfl | exact .inr (.inl rfl) | exact .inr (.inr rfl))) (by decide) (by decide)) sk_nil)))) rfl) sa_nil rfl) rfl)) rfl ((by first | exact .inr rfl | exact .inl rfl)))
    (ss_cons (ss_set (i := 3) nd_law_by_name rfl ((by first | exact .inl rfl | exact .inr rfl)) (se_bin (se_var (i := 3) (by rfl) ((by first | exact .inl rfl | exact .inr (.inl rfl) | exact .inr (.inr rfl))) (by decide) (by decide)) (se_lst (sa_cons (se_erfC (f := 2) hC ok cf.nm ek.eL ek.co rfl (se_mkEK hC ek.k_TooMany ek.l_TooMany hr (by decide) rfl ek.f_TooMany (sk_cons (se_var (i := 0) (by rfl) ((by first | exact .inl rfl | exact .inr (.inl rfl) | exact .inr (.inr rfl))) (by decide) (by decide)) (sk_cons (se_var (i := 1) (by rfl) ((by first | exact .inl rfl | exact .inr (.inl rfl) | exact .inr (.inr rfl))) (by decide) (by decide)) (sk_cons (se_var (i := 2) (by rfl) ((by first | exact .inl rfl | exact .inr (.inl rfl) | exact .inr (.inr rfl))) (by decide) (by decide)) sk_nil)))) rfl) (sa_cons (se_erfC (f := 3) hC ok cf.nm ek.eL ek.co rfl (se_mkEK hC ek.k_BadCount ek.l_BadCount hr (by decide) rfl ek.f_BadCount (sk_cons (se_var (i := 0) (by rfl) ((by first | exact .inl rfl | exact .inr (.inl rfl) | exact .inr (.inr rfl))) (by decide) (by decide)) sk_nil)) rfl) sa_nil rfl) rfl)) o_add) rfl ((by first | exact .inr rfl | exact .inl rfl)))
    (ss_cons (ss_set (i := 3) nd_law_by_name rfl ((by first | exact .inl rfl | exact .inr rfl)) (se_bin (se_var (i := 3) (by rfl) ((by first | exact .inl rfl | exact .inr (.inl rfl) | exact .inr (.inr rfl))) (by decide) (by decide)) (se_lst (sa_cons (se_erfC (f := 3) hC ok cf.nm ek.eL ek.co rfl (se_mkEK hC ek.k_BadLength ek.l_BadLength hr (by decide) rfl ek.f_BadLength (sk_cons (se_var (i := 0) (by rfl) ((by first | exact .inl rfl | exact .inr (.inl rfl) | exact .inr (.inr rfl))) (by decide) (by decide)) sk_nil)) rfl) (sa_cons (se_erfC (f := 3) hC ok cf.nm ek.eL ek.co rfl (se_mkEK hC ek.k_BadWord ek.l_BadWord hr (by decide) rfl ek.f_BadWord (sk_cons (se_var (i := 0) (by rfl) ((by first | exact .inl rfl | exact .inr (.inl rfl) | exact .inr (.inr rfl))) (by decide) (by decide)) sk_nil)) rfl) (sa_cons (se_erfC (f := 3) hC ok cf.nm ek.eL ek.co rfl (se_mkEK hC ek.k_Begins ek.l_Begins hr (by decide) rfl ek.f_Begins (sk_cons (se_var (i := 0) (by rfl) ((by first | exact .inl rfl | exact .inr (.inl rfl) | exact .inr (.inr rfl))) (by decide) (by decide)) (sk_cons (se_var (i := 1) (by rfl) ((by first | exact .inl rfl | exact .inr (.inl rfl) | exact .inr (.inr rfl))) (by decide) (by decide)) sk_nil))) rfl) sa_nil rfl) rfl) rfl)) o_add) rfl ((by first | exact .inr rfl | exact .inl rfl)))
    (ss_cons (ss_set (i := 3) nd_law_by_name rfl ((by first | exact .inl rfl | exact .inr rfl)) (se_bin (se_var (i := 3) (by rfl) ((by first | exact .inl rfl | exact .inr (.inl rfl) | exact .inr (.inr rfl))) (by decide) (by decide)) (se_lst (sa_cons (se_erfC (f := 4) hC ok cf.nm ek.eL ek.co rfl (se_mkEK hC ek.k_Begins ek.l_Begins hr (by decide) rfl ek.f_Begins (sk_cons (se_var (i := 0) (by rfl) ((by first | exact .inl rfl | exact .inr (.inl rfl) | exact .inr (.inr rfl))) (by decide) (by decide)) (sk_cons (se_var (i := 1) (by rfl) ((by first | exact .inl rfl | exact .inr (.inl rfl) | exact .inr (.inr rfl))) (by decide) (by decide)) sk_nil))) rfl) (sa_cons (se_erfC (f := 1) hC ok cf.nm ek.eL ek.co rfl (se_mkEK hC ek.k_OtherSize ek.l_OtherSize hr (by decide) rfl ek.f_OtherSize (sk_cons (se_var (i := 0) (by rfl) ((by first | exact .inl rfl | exact .inr (.inl rfl) | exact .inr (.inr rfl))) (by decide) (by decide)) (sk_cons (se_var (i := 1) (by rfl) ((by first | exact .inl rfl | exact .inr (.inl rfl) | exact .inr (.inr rfl))) (by decide) (by decide)) sk_nil))) rfl) sa_nil rfl) rfl)) o_add) rfl ((by first | exact .inr rfl | exact .inl rfl)))
    (ss_cons (ss_set (i := 3) nd_law_by_name rfl ((by first | exact .inl rfl | exact .inr rfl)) (se_bin (se_var (i := 3) (by rfl) ((by first | exact .inl rfl | exact .inr (.inl rfl) | exact .inr (.inr rfl))) (by decide) (by decide)) (se_lst (sa_cons (se_erfC (f := 5) hC ok cf.nm ek.eL ek.co rfl (se_mkEK hC ek.k_OtherSize ek.l_OtherSize hr (by decide) rfl ek.f_OtherSize (sk_cons (se_var (i := 0) (by rfl) ((by first | exact .inl rfl | exact .inr (.inl rfl) | exact .inr (.inr rfl))) (by decide) (by decide)) (sk_cons (se_var (i := 1) (by rfl) ((by first | exact .inl rfl | exact .inr (.inl rfl) | exact .inr (.inr rfl))) (by decide) (by decide)) sk_nil))) rfl) (sa_cons (se_erfC (f := 6) hC ok cf.nm ek.eL ek.co rfl (se_mkEK hC ek.k_BadSize ek.l_BadSize hr (by decide) rfl ek.f_BadSize (sk_cons (se_var (i := 0) (by rfl) ((by first | exact .inl rfl | exact .inr (.inl rfl) | exact .inr (.inr rfl))) (by decide) (by decide)) sk_nil)) rfl) sa_nil rfl) rfl)) o_add) rfl ((by first | exact .inr rfl | exact .inl rfl)))
    (ss_cons (ss_set (i := 3) nd_law_by_name rfl ((by first | exact .inl rfl | exact .inr rfl)) (se_bin (se_var (i := 3) (by rfl) ((by first | exact .inl rfl | exact .inr (.inl rfl) | exact .inr (.inr rfl))) (by decide) (by decide)) (se_lst (sa_cons (se_erfC (f := 2) hC ok cf.nm ek.eL ek.co rfl (se_mkEK hC ek.k_TooShort ek.l_TooShort hr (by decide) rfl ek.f_TooShort (sk_cons (se_var (i := 0) (by rfl) ((by first | exact .inl rfl | exact .inr (.inl rfl) | exact .inr (.inr rfl))) (by decide) (by decide)) (sk_cons (se_var (i := 1) (by rfl) ((by first | exact .inl rfl | exact .inr (.inl rfl) | exact .inr (.inr rfl))) (by decide) (by decide)) sk_nil))) rfl) (sa_cons (se_erfC (f := 7) hC ok cf.nm ek.eL ek.co rfl (se_mkEK hC ek.k_TooShort ek.l_TooShort hr (by decide) rfl ek.f_TooShort (sk_cons (se_var (i := 0) (by rfl) ((by first | exact .inl rfl | exact .inr (.inl rfl) | exact .inr (.inr rfl))) (by decide) (by decide)) (sk_cons (se_var (i := 1) (by rfl) ((by first | exact .inl rfl | exact .inr (.inl rfl) | exact .inr (.inr rfl))) (by decide) (by decide)) sk_nil))) rfl) (sa_cons (se_erfC (f := 8) hC ok cf.nm ek.eL ek.co rfl (se_mkEK hC ek.k_TooLong ek.l_TooLong hr (by decide) rfl ek.f_TooLong (sk_cons (se_var (i := 0) (by rfl) ((by first | exact .inl rfl | exact .inr (.inl rfl) | exact .inr (.inr rfl))) (by decide) (by decide)) sk_nil)) rfl) sa_nil rfl) rfl) rfl)) o_add) rfl ((by first | exact .inr rfl | exact .inl rfl)))
    (ss_cons (ss_set (i := 3) nd_law_by_name rfl ((by first | exact .inl rfl | exact .inr rfl)) (se_bin (se_var (i := 3) (by rfl) ((by first | exact .inl rfl | exact .inr (.inl rfl) | exact .inr (.inr rfl))) (by decide) (by decide)) (se_lst (sa_cons (se_erfC (f := 9) hC ok cf.nm ek.eL ek.co rfl (se_mkEK hC ek.k_BadTie ek.l_BadTie hr (by decide) rfl ek.f_BadTie (sk_cons (se_var (i := 0) (by rfl) ((by first | exact .inl rfl | exact .inr (.inl rfl) | exact .inr (.inr rfl))) (by decide) (by decide)) sk_nil)) rfl) (sa_cons (se_erfC (f := 3) hC ok cf.nm ek.eL ek.co rfl (se_mkEK hC ek.k_BadSign ek.l_BadSign hr (by decide) rfl ek.f_BadSign (sk_cons (se_var (i := 0) (by rfl) ((by first | exact .inl rfl | exact .inr (.inl rfl) | exact .inr (.inr rfl))) (by decide) (by decide)) sk_nil)) rfl) (sa_cons (se_erfC (f := 10) hC ok cf.nm ek.eL ek.co rfl (se_mkEK hC ek.k_BadRule ek.l_BadRule hr (by decide) rfl ek.f_BadRule (sk_cons (se_var (i := 0) (by rfl) ((by first | exact .inl rfl | exact .inr (.inl rfl) | exact .inr (.inr rfl))) (by decide) (by decide)) sk_nil)) rfl) (sa_cons (se_erfC (f := 10) hC ok cf.nm ek.eL ek.co rfl (se_mkEK hC ek.k_Ring ek.l_Ring hr (by decide) rfl ek.f_Ring (sk_cons (se_var (i := 0) (by rfl) ((by first | exact .inl rfl | exact .inr (.inl rfl) | exact .inr (.inr rfl))) (by decide) (by decide)) sk_nil)) rfl) sa_nil rfl) rfl) rfl) rfl)) o_add) rfl ((by first | exact .inr rfl | exact .inl rfl)))
    (ss_cons (ss_set (i := 3) nd_law_by_name rfl ((by first | exact .inl rfl | exact .inr rfl)) (se_bin (se_var (i := 3) (by rfl) ((by first | exact .inl rfl | exact .inr (.inl rfl) | exact .inr (.inr rfl))) (by decide) (by decide)) (se_lst (sa_cons (se_erfC (f := 11) hC ok cf.nm ek.eL ek.co rfl (se_mkEK hC ek.k_NoRule ek.l_NoRule hr (by decide) rfl ek.f_NoRule (sk_cons (se_var (i := 0) (by rfl) ((by first | exact .inl rfl | exact .inr (.inl rfl) | exact .inr (.inr rfl))) (by decide) (by decide)) sk_nil)) rfl) (sa_cons (se_erfC (f := 12) hC ok cf.nm ek.eL ek.co rfl (se_mkEK hC ek.k_BadPlace ek.l_BadPlace hr (by decide) rfl ek.f_BadPlace (sk_cons (se_var (i := 0) (by rfl) ((by first | exact .inl rfl | exact .inr (.inl rfl) | exact .inr (.inr rfl))) (by decide) (by decide)) sk_nil)) rfl) (sa_cons (se_erfC (f := 3) hC ok cf.nm ek.eL ek.co rfl (se_mkEK hC ek.k_BadBits ek.l_BadBits hr (by decide) rfl ek.f_BadBits (sk_cons (se_var (i := 0) (by rfl) ((by first | exact .inl rfl | exact .inr (.inl rfl) | exact .inr (.inr rfl))) (by decide) (by decide)) sk_nil)) rfl) sa_nil rfl) rfl) rfl)) o_add) rfl ((by first | exact .inr rfl | exact .inl rfl)))
    (ss_cons (ss_set (i := 3) nd_law_by_name rfl ((by first | exact .inl rfl | exact .inr rfl)) (se_bin (se_var (i := 3) (by rfl) ((by first | exact .inl rfl | exact .inr (.inl rfl) | exact .inr (.inr rfl))) (by decide) (by decide)) (se_lst (sa_cons (se_erfC (f := 13) hC ok cf.nm ek.eL ek.co rfl (se_mkEK hC ek.k_BadNode ek.l_BadNode hr (by decide) rfl ek.f_BadNode (sk_cons (se_var (i := 0) (by rfl) ((by first | exact .inl rfl | exact .inr (.inl rfl) | exact .inr (.inr rfl))) (by decide) (by decide)) sk_nil)) rfl) (sa_cons (se_erfC (f := 13) hC ok cf.nm ek.eL ek.co rfl (se_mkEK hC ek.k_BadTable ek.l_BadTable hr (by decide) rfl ek.f_BadTable (sk_cons (se_var (i := 0) (by rfl) ((by first | exact .inl rfl | exact .inr (.inl rfl) | exact .inr (.inr rfl))) (by decide) (by decide)) sk_nil)) rfl) (sa_cons (se_erfC (f := 14) hC ok cf.nm ek.eL ek.co rfl (se_mkEK hC ek.k_BadLooks ek.l_BadLooks hr (by decide) rfl ek.f_BadLooks (sk_cons (se_var (i := 0) (by rfl) ((by first | exact .inl rfl | exact .inr (.inl rfl) | exact .inr (.inr rfl))) (by decide) (by decide)) sk_nil)) rfl) sa_nil rfl) rfl) rfl)) o_add) rfl ((by first | exact .inr rfl | exact .inl rfl)))
    (ss_one (ss_ret (se_var (i := 3) (by rfl) ((by first | exact .inl rfl | exact .inr (.inl rfl) | exact .inr (.inr rfl))) (by decide) (by decide)))))))))))))
theorem cal_law_by_name {P : Program} {w : World} {K : PySem.W.Frag} {mg : Str → Option Value} {base : Heap} {C : Ct} (fx : Fx mg) (dx : Dx K mg C) (cf : CF C lay nam) (lx : Lx K mg base C) (ek : Ek P w K mg base C) : C8.Cal P w K mg base 3 "_law_by_name" (SpV C [false, false, false] F_law_by_name) [] := by
  obtain ⟨f, fd, hm, Fd⟩ := dx.d_law_by_name
  exact ⟨f, fd, ["_law_a", "_law_b", "_law_c"], [], fn_law_by_name fx dx cf lx ek Fd, hm, Fd.kp, (Fd.bindsN (ps := ["_law_a", "_law_b", "_law_c"]) fun _ _ _ _ _ _ us hl => match us, hl with | [_, _, _], _ => rfl), .nil⟩
/-! ### _law_all_made -/
def N_law_all_made : List Str := ["_law_a", "_law_b", "_law_c", "_law_found"]
theorem nd_law_all_made : N_law_all_made.Nodup := by decide
def d_law_all_made : Env' → Res Fl := (dSeq (dSet 3 (dLst [(dMkE 1 3 [(dVar 0), (dVar 1), (dVar 2)]), (dMkE 2 1 [(dVar 0)]), (dMkE 3 1 [(dVar 0)]), (dMkE 4 0 []), (dMkE 5 1 [(dVar 0)]), (dMkE 6 2 [(dVar 0), (dVar 1)])])) (dSeq (dSet 3 (dBin semAdd (dVar 3) (dLst [(dMkE 7 2 [(dVar 0), (dVar 1)]), (dMkE 8 1 [(dVar 0)]), (dMkE 9 0 []), (dMkE 10 2 [(dVar 0), (dVar 1)]), (dMkE 11 1 [(dVar 0)]), (dMkE 12 0 [])]))) (dSeq (dSet 3 (dBin semAdd (dVar 3) (dLst [(dMkE 13 1 [(dVar 0)]), (dMkE 14 0 []), (dMkE 15 1 [(dVar 0)]), (dMkE 16 1 [(dVar 0)]), (dMkE 17 1 [(dVar 0)]), (dMkE 18 1 [(dVar 0)]), (dMkE 19 1 [(dVar 0)])]))) (dSeq (dSet 3 (dBin semAdd (dVar 3) (dLst [(dMkE 20 1 [(dVar 0)]), (dMkE 21 1 [(dVar 0)]), (dMkE 22 1 [(dVar 0)]), (dMkE 23 1 [(dVar 0)]), (dMkE 24 0 [])]))) (dRet (dVar 3))))))
def F_law_all_made : List PV → FR := callFn 4 [false, false, false] d_law_all_made
theorem fn_law_all_made {P : Program} {w : World} {K : PySem.W.Frag} {mg : Str → Option Value} {base : Heap} {C : Ct} (fx : Fx mg) (dx : Dx K mg C) (cf : CF C lay nam) (lx : Lx K mg base C) (ek : Ek P w K mg base C) {f : Addr} {fd : FuncData} (Fd : FunD K "_law_all_made" "_law_all_made" (defArgs (top 33)) (defBody (top 33)) (defScope (top 33)) [] [] f fd) : FnOk P w K mg base C8.CX0 3 f fd ["_law_a", "_law_b", "_law_c"] (SpV C [false, false, false] F_law_all_made) :=
  fnV (N := N_law_all_made) (k := 2) Fd (C8.fnScope_by (by decide +kernel)) rfl (by decide) dx.hK fun cdv A outer s H E g hC hr ok =>
    (ss_cons (ss_set (i := 3) nd_law_all_made rfl ((by first | exact .inl rfl | exact .inr rfl)) (se_lst (sa_cons (se_mkEP hC ek.e_TooMany ek.l_TooMany hr (by decide) rfl (sa_cons (se_var (i := 0) (by rfl) ((by first | exact .inl rfl | exact .inr (.inl rfl) | exact .inr (.inr rfl))) (by decide) (by decide)) (sa_cons (se_var (i := 1) (by rfl) ((by first | exact .inl rfl | exact .inr (.inl rfl) | exact .inr (.inr rfl))) (by decide) (by decide)) (sa_cons (se_var (i := 2) (by rfl) ((by first | exact .inl rfl | exact .inr (.inl rfl) | exact .inr (.inr rfl))) (by decide) (by decide)) sa_nil rfl) rfl) rfl) rfl rfl) (sa_cons (se_mkEP hC ek.e_BadCount ek.l_BadCount hr (by decide) rfl (sa_cons (se_var (i := 0) (by rfl) ((by first | exact .inl rfl | exact .inr (.inl rfl) | exact .inr (.inr rfl))) (by decide) (by decide)) sa_nil rfl) rfl rfl) (sa_cons (se_mkEP hC ek.e_BadLength ek.l_BadLength hr (by decide) rfl (sa_cons (se_var (i := 0) (by rfl) ((by first | exact .inl rfl | exact .inr (.inl rfl) | exact .inr (.inr rfl))) (by decide) (by decide)) sa_nil rfl) rfl rfl) (sa_cons (se_mkEP0 hC ek.e_NotFull ek.l_NotFull hr (by decide) rfl) (sa_cons (se_mkEP hC ek.e_BadWord ek.l_BadWord hr (by decide) rfl (sa_cons (se_var (i := 0) (by rfl) ((by first | exact .inl rfl | exact .inr (.inl rfl) | exact .inr (.inr rfl))) (by decide) (by decide)) sa_nil rfl) rfl rfl) (sa_cons (se_mkEP hC ek.e_Begins ek.l_Begins hr (by decide) rfl (sa_cons (se_var (i := 0) (by rfl) ((by first | exact .inl rfl | exact .inr (.inl rfl) | exact .inr (.inr rfl))) (by decide) (by decide)) (sa_cons (se_var (i := 1) (by rfl) ((by first | exact .inl rfl | exact .inr (.inl rfl) | exact .inr (.inr rfl))) (by decide) (by decide)) sa_nil rfl) rfl) rfl rfl) sa_nil rfl) rfl) rfl) rfl) rfl) rfl)) rfl ((by first | exact .inr rfl | exact .inl rfl)))
    (ss_cons (ss_set (i := 3) nd_law_all_made rfl ((by first | exact .inl rfl | exact .inr rfl)) (se_bin (se_var (i := 3) (by rfl) ((by first | exact .inl rfl | exact .inr (.inl rfl) | exact .inr (.inr rfl))) (by decide) (by decide)) (se_lst (sa_cons (se_mkEP hC ek.e_OtherSize ek.l_OtherSize hr (by decide) rfl (sa_cons (se_var (i := 0) (by rfl) ((by first | exact .inl rfl | exact .inr (.inl rfl) | exact .inr (.inr rfl))) (by decide) (by decide)) (sa_cons (se_var (i := 1) (by rfl) ((by first | exact .inl rfl | exact .inr (.inl rfl) | exact .inr (.inr rfl))) (by decide) (by decide)) sa_nil rfl) rfl) rfl rfl) (sa_cons (se_mkEP hC ek.e_BadSize ek.l_BadSize hr (by decide) rfl (sa_cons (se_var (i := 0) (by rfl) ((by first | exact .inl rfl | exact .inr (.inl rfl) | exact .inr (.inr rfl))) (by decide) (by decide)) sa_nil rfl) rfl rfl) (sa_cons (se_mkEP0 hC ek.e_NoBorder ek.l_NoBorder hr (by decide) rfl) (sa_cons (se_mkEP hC ek.e_TooShort ek.l_TooShort hr (by decide) rfl (sa_cons (se_var (i := 0) (by rfl) ((by first | exact .inl rfl | exact .inr (.inl rfl) | exact .inr (.inr rfl))) (by decide) (by decide)) (sa_cons (se_var (i := 1) (by rfl) ((by first | exact .inl rfl | exact .inr (.inl rfl) | exact .inr (.inr rfl))) (by decide) (by decide)) sa_nil rfl) rfl) rfl rfl) (sa_cons (se_mkEP hC ek.e_TooLong ek.l_TooLong hr (by decide) rfl (sa_cons (se_var (i := 0) (by rfl) ((by first | exact .inl rfl | exact .inr (.inl rfl) | exact .inr (.inr rfl))) (by decide) (by decide)) sa_nil rfl) rfl rfl) (sa_cons (se_mkEP0 hC ek.e_BadOver ek.l_BadOver hr (by decide) rfl) sa_nil rfl) rfl) rfl) rfl) rfl) rfl)) o_add) rfl ((by first | exact .inr rfl | exact .inl rfl)))
    (ss_cons (ss_set (i := 3) nd_law_all_made rfl ((by first | exact .inl rfl | exact .inr rfl)) (se_bin (se_var (i := 3) (by rfl) ((by first | exact .inl rfl | exact .inr (.inl rfl) | exact .inr (.inr rfl))) (by decide) (by decide)) (se_lst (sa_cons (se_mkEP hC ek.e_BadTie ek.l_BadTie hr (by decide) rfl (sa_cons (se_var (i := 0) (by rfl) ((by first | exact .inl rfl | exact .inr (.inl rfl) | exact .inr (.inr rfl))) (by decide) (by decide)) sa_nil rfl) rfl rfl) (sa_cons (se_mkEP0 hC ek.e_NotLeast ek.l_NotLeast hr (by decide) rfl) (sa_cons (se_mkEP hC ek.e_BadSign ek.l_BadSign hr (by decide) rfl (sa_cons (se_var (i := 0) (by rfl) ((by first | exact .inl rfl | exact .inr (.inl rfl) | exact .inr (.inr rfl))) (by decide) (by decide)) sa_nil rfl) rfl rfl) (sa_cons (se_mkEP hC ek.e_BadRule ek.l_BadRule hr (by decide) rfl (sa_cons (se_var (i := 0) (by rfl) ((by first | exact .inl rfl | exact .inr (.inl rfl) | exact .inr (.inr rfl))) (by decide) (by decide)) sa_nil rfl) rfl rfl) (sa_cons (se_mkEP hC ek.e_Ring ek.l_Ring hr (by decide) rfl (sa_cons (se_var (i := 0) (by rfl) ((by first | exact .inl rfl | exact .inr (.inl rfl) | exact .inr (.inr rfl))) (by decide) (by decide)) sa_nil rfl) rfl rfl) (sa_cons (se_mkEP hC ek.e_NoRule ek.l_NoRule hr (by decide) rfl (sa_cons (se_var (i := 0) (by rfl) ((by first | exact .inl rfl | exact .inr (.inl rfl) | exact .inr (.inr rfl))) (by decide) (by decide)) sa_nil rfl) rfl rfl) (sa_cons (se_mkEP hC ek.e_BadPlace ek.l_BadPlace hr (by decide) rfl (sa_cons (se_var (i := 0) (by rfl) ((by first | exact .inl rfl | exact .inr (.inl rfl) | exact .inr (.inr rfl))) (by decide) (by decide)) sa_nil rfl) rfl rfl) sa_nil rfl) rfl) rfl) rfl) rfl) rfl) rfl)) o_add) rfl ((by first | exact .inr rfl | exact .inl rfl)))
    (ss_cons (ss_set (i := 3) nd_law_all_made rfl ((by first | exact .inl rfl | exact .inr rfl)) (se_bin (se_var (i := 3) (by rfl) ((by first | exact .inl rfl | exact .inr (.inl rfl) | exact .inr (.inr rfl))) (by decide) (by decide)) (se_lst (sa_cons (se_mkEP hC ek.e_BadBits ek.l_BadBits hr (by decide) rfl (sa_cons (se_var (i := 0) (by rfl) ((by first | exact .inl rfl | exact .inr (.inl rfl) | exact .inr (.inr rfl))) (by decide) (by decide)) sa_nil rfl) rfl rfl) (sa_cons (se_mkEP hC ek.e_BadNode ek.l_BadNode hr (by decide) rfl (sa_cons (se_var (i := 0) (by rfl) ((by first | exact .inl rfl | exact .inr (.inl rfl) | exact .inr (.inr rfl))) (by decide) (by decide)) sa_nil rfl) rfl rfl) (sa_cons (se_mkEP hC ek.e_BadTable ek.l_BadTable hr (by decide) rfl (sa_cons (se_var (i := 0) (by rfl) ((by first | exact .inl rfl | exact .inr (.inl rfl) | exact .inr (.inr rfl))) (by decide) (by decide)) sa_nil rfl) rfl rfl) (sa_cons (se_mkEP hC ek.e_BadLooks ek.l_BadLooks hr (by decide) rfl (sa_cons (se_var (i := 0) (by rfl) ((by first | exact .inl rfl | exact .inr (.inl rfl) | exact .inr (.inr rfl))) (by decide) (by decide)) sa_nil rfl) rfl rfl) (sa_cons (se_mkEP0 hC ek.e_NoSigns ek.l_NoSigns hr (by decide) rfl) sa_nil rfl) rfl) rfl) rfl) rfl)) o_add) rfl ((by first | exact .inr rfl | exact .inl rfl)))
    (ss_one (ss_ret (se_var (i := 3) (by rfl) ((by first | exact .inl rfl | exact .inr (.inl rfl) | exact .inr (.inr rfl))) (by decide) (by decide))))))))
theorem cal_law_all_made {P : Program} {w : World} {K : PySem.W.Frag} {mg : Str → Option Value} {base : Heap} {C : Ct} (fx : Fx mg) (dx : Dx K mg C) (cf : CF C lay nam) (lx : Lx K mg base C) (ek : Ek P w K mg base C) : C8.Cal P w K mg base 3 "_law_all_made" (SpV C [false, false, false] F_law_all_made) [] := by
  obtain ⟨f, fd, hm, Fd⟩ := dx.d_law_all_made
  exact ⟨f, fd, ["_law_a", "_law_b", "_law_c"], [], fn_law_all_made fx dx cf lx ek Fd, hm, Fd.kp, (Fd.bindsN (ps := ["_law_a", "_law_b", "_law_c"]) fun _ _ _ _ _ _ us hl => match us, hl with | [_, _, _], _ => rfl), .nil⟩
/-! ### _law_sorts -/
def N_law_sorts : List Str := ["_law_error", "_law_found", "_law_k"]
theorem nd_law_sorts : N_law_sorts.Nodup := by decide
def d_law_sorts : Env' → Res Fl := (dSeq (dSet 1 (dLst [(dIsX (ansX 1) (dVar 0)), (dIsX (ansX 2) (dVar 0)), (dIsX (ansX 3) (dVar 0))])) (dSeq (dSet 1 (dBin semAdd (dVar 1) (dLst [(dIsX (ansX 4) (dVar 0)), (dIsX (ansX 5) (dVar 0)), (dIsX (ansX 6) (dVar 0))]))) (dSeq (dSet 1 (dBin semAdd (dVar 1) (dLst [(dIsX (ansX 7) (dVar 0)), (dIsX (ansX 8) (dVar 0)), (dIsX (ansX 9) (dVar 0))]))) (dSeq (dSet 1 (dBin semAdd (dVar 1) (dLst [(dIsX (ansX 10) (dVar 0)), (dIsX (ansX 11) (dVar 0)), (dIsX (ansX 12) (dVar 0))]))) (dSeq (dSet 1 (dBin semAdd (dVar 1) (dLst [(dIsX (ansX 13) (dVar 0)), (dIsX (ansX 14) (dVar 0)), (dIsX (ansX 15) (dVar 0))]))) (dSeq (dSet 1 (dBin semAdd (dVar 1) (dLst [(dIsX (ansX 16) (dVar 0)), (dIsX (ansX 17) (dVar 0)), (dIsX (ansX 18) (dVar 0))]))) (dSeq (dSet 1 (dBin semAdd (dVar 1) (dLst [(dIsX (ansX 19) (dVar 0)), (dIsX (ansX 20) (dVar 0)), (dIsX (ansX 21) (dVar 0))]))) (dSeq (dSet 1 (dBin semAdd (dVar 1) (dLst [(dIsX (ansX 22) (dVar 0)), (dIsX (ansX 23) (dVar 0)), (dIsX (ansX 24) (dVar 0))]))) (dRet (dLc [2] (dRng1 (dCall semLen [(dVar 1)])) (uNm 2) (some (dTru (dBin semIx (dVar 1) (dVar 2)))) (dVar 2)))))))))))
def F_law_sorts : List PV → FR := callFn 3 [false] d_law_sorts
theorem fn_law_sorts {P : Program} {w : World} {K : PySem.W.Frag} {mg : Str → Option Value} {base : Heap} {C : Ct} (fx : Fx mg) (dx : Dx K mg C) (cf : CF C lay nam) (lx : Lx K mg base C) (ek : Ek P w K mg base C) {f : Addr} {fd : FuncData} (Fd : FunD K "_law_sorts" "_law_sorts" (defArgs (top 34)) (defBody (top 34)) (defScope (top 34)) [] [] f fd) : FnOk P w K mg base C8.CX0 1 f fd ["_law_error"] (SpV C [false] F_law_sorts) :=
  fnV (N := N_law_sorts) (k := 0) Fd (C8.fnScope_by (by decide +kernel)) rfl (by decide) dx.hK fun cdv A outer s H E g hC hr ok =>
    (ss_cons (ss_set (i := 1) nd_law_sorts rfl ((by first | exact .inl rfl | exact .inr rfl)) (se_lst (sa_cons (se_isXC (c := 1) hC ok ek.co ek.ans ek.n_TooMany ek.isi rfl rfl (se_var (i := 0) (by rfl) ((by first | exact .inl rfl | exact .inr (.inl rfl) | exact .inr (.inr rfl))) (by decide) (by decide)) (by decide) rfl rfl (by rfl)) (sa_cons (se_isXC (c := 2) hC ok ek.co ek.ans ek.n_BadCount ek.isi rfl rfl (se_var (i := 0) (by rfl) ((by first | exact .inl rfl | exact .inr (.inl rfl) | exact .inr (.inr rfl))) (by decide) (by decide)) (by decide) rfl rfl (by rfl)) (sa_cons (se_isXC (c := 3) hC ok ek.co ek.ans ek.n_BadLength ek.isi rfl rfl (se_var (i := 0) (by rfl) ((by first | exact .inl rfl | exact .inr (.inl rfl) | exact .inr (.inr rfl))) (by decide) (by decide)) (by decide) rfl rfl (by rfl)) sa_nil rfl) rfl) rfl)) rfl ((by first | exact .inr rfl | exact .inl rfl)))
    (ss_cons (ss_set (i := 1) nd_law_sorts rfl ((by first | exact .inl rfl | exact .inr rfl)) (se_bin (se_var (i := 1) (by rfl) ((by first | exact .inl rfl | exact .inr (.inl rfl) | exact .inr (.inr rfl))) (by decide) (by decide)) (se_lst (sa_cons (se_isXC (c := 4) hC ok ek.co ek.ans ek.n_NotFull ek.isi rfl rfl (se_var (i := 0) (by rfl) ((by first | exact .inl rfl | exact .inr (.inl rfl) | exact .inr (.inr rfl))) (by decide) (by decide)) (by decide) rfl rfl (by rfl)) (sa_cons (se_isXC (c := 5) hC ok ek.co ek.ans ek.n_BadWord ek.isi rfl rfl (se_var (i := 0) (by rfl) ((by first | exact .inl rfl | exact .inr (.inl rfl) | exact .inr (.inr rfl))) (by decide) (by decide)) (by decide) rfl rfl (by rfl)) (sa_cons (se_isXC (c := 6) hC ok ek.co ek.ans ek.n_Begins ek.isi rfl rfl (se_var (i := 0) (by rfl) ((by first | exact .inl rfl | exact .inr (.inl rfl) | exact .inr (.inr rfl))) (by decide) (by decide)) (by decide) rfl rfl (by rfl)) sa_nil rfl) rfl) rfl)) o_add) rfl ((by first | exact .inr rfl | exact .inl rfl)))
    (ss_cons (ss_set (i := 1) nd_law_sorts rfl ((by first | exact .inl rfl | exact .inr rfl)) (se_bin (se_var (i := 1) (by rfl) ((by first | exact .inl rfl | exact .inr (.inl rfl) | exact .inr (.inr rfl))) (by decide) (by decide)) (se_lst (sa_cons (se_isXC (c := 7) hC ok ek.co ek.ans ek.n_OtherSize ek.isi rfl rfl (se_var (i := 0) (by rfl) ((by first | exact .inl rfl | exact .inr (.inl rfl) | exact .inr (.inr rfl))) (by decide) (by decide)) (by decide) rfl rfl (by rfl)) (sa_cons (se_isXC (c := 8) hC ok ek.co ek.ans ek.n_BadSize ek.isi rfl rfl (se_var (i := 0) (by rfl) ((by first | exact .inl rfl | exact .inr (.inl rfl) | exact .inr (.inr rfl))) (by decide) (by decide)) (by decide) rfl rfl (by rfl)) (sa_cons (se_isXC (c := 9) hC ok ek.co ek.ans ek.n_NoBorder ek.isi rfl rfl (se_var (i := 0) (by rfl) ((by first | exact .inl rfl | exact .inr (.inl rfl) | exact .inr (.inr rfl))) (by decide) (by decide)) (by decide) rfl rfl (by rfl)) sa_nil rfl) rfl) rfl)) o_add) rfl ((by first | exact .inr rfl | exact .inl rfl)))
    (ss_cons (ss_set (i := 1) nd_law_sorts rfl ((by first | exact .inl rfl | exact .inr rfl)) (se_bin (se_var (i := 1) (by rfl) ((by first | exact .inl rfl | exact .inr (.inl rfl) | exact .inr (.inr rfl))) (by decide) (by decide)) (se_lst (sa_cons (se_isXC (c := 10) hC ok ek.co ek.ans ek.n_TooShort ek.isi rfl rfl (se_var (i := 0) (by rfl) ((by first | exact .inl rfl | exact .inr (.inl rfl) | exact .inr (.inr rfl))) (by decide) (by decide)) (by decide) rfl rfl (by rfl)) (sa_cons (se_isXC (c := 11) hC ok ek.co ek.ans ek.n_TooLong ek.isi rfl rfl (se_var (i := 0) (by rfl) ((by first | exact .inl rfl | exact .inr (.inl rfl) | exact .inr (.inr rfl))) (by decide) (by decide)) (by decide) rfl rfl (by rfl)) (sa_cons (se_isXC (c := 12) hC ok ek.co ek.ans ek.n_BadOver ek.isi rfl rfl (se_var (i := 0) (by rfl) ((by first | exact .inl rfl | exact .inr (.inl rfl) | exact .inr (.inr rfl))) (by decide) (by decide)) (by decide) rfl rfl (by rfl)) sa_nil rfl) rfl) rfl)) o_add) rfl ((by first | exact .inr rfl | exact .inl rfl)))
    (ss_cons (ss_set (i := 1) nd_law_sorts rfl ((by first | exact .inl rfl | exact .inr rfl)) (se_bin (se_var (i := 1) (by rfl) ((by first | exact .inl rfl | exact .inr (.inl rfl) | exact .inr (.inr rfl))) (by decide) (by decide)) (se_lst (sa_cons (se_isXC (c := 13) hC ok ek.co ek.ans ek.n_BadTie ek.isi rfl rfl (se_var (i := 0) (by rfl) ((by first | exact .inl rfl | exact .inr (.inl rfl) | exact .inr (.inr rfl))) (by decide) (by decide)) (by decide) rfl rfl (by rfl)) (sa_cons (se_isXC (c := 14) hC ok ek.co ek.ans ek.n_NotLeast ek.isi rfl rfl (se_var (i := 0) (by rfl) ((by first | exact .inl rfl | exact .inr (.inl rfl) | exact .inr (.inr rfl))) (by decide) (by decide)) (by decide) rfl rfl (by rfl)) (sa_cons (se_isXC (c := 15) hC ok ek.co ek.ans ek.n_BadSign ek.isi rfl rfl (se_var (i := 0) (by rfl) ((by first | exact .inl rfl | exact .inr (.inl rfl) | exact .inr (.inr rfl))) (by decide) (by decide)) (by decide) rfl rfl (by rfl)) sa_nil rfl) rfl) rfl)) o_add) rfl ((by first | exact .inr rfl | exact .inl rfl)))
    (ss_cons (ss_set (i := 1) nd_law_sorts rfl ((by first | exact .inl rfl | exact .inr rfl)) (se_bin (se_var (i := 1) (by rfl) ((by first | exact .inl rfl | exact .inr (.inl rfl) | exact .inr (.inr rfl))) (by decide) (by decide)) (se_lst (sa_cons (se_isXC (c := 16) hC ok ek.co ek.ans ek.n_BadRule ek.isi rfl rfl (se_var (i := 0) (by rfl) ((by first | exact .inl rfl | exact .inr (.inl rfl) | exact .inr (.inr rfl))) (by decide) (by decide)) (by decide) rfl rfl (by rfl)) (sa_cons (se_isXC (c := 17) hC ok ek.co ek.ans ek.n_Ring ek.isi rfl rfl (se_var (i := 0) (by rfl) ((by first | exact .inl rfl | exact .inr (.inl rfl) | exact .inr (.inr rfl))) (by decide) (by decide)) (by decide) rfl rfl (by rfl)) (sa_cons (se_isXC (c := 18) hC ok ek.co ek.ans ek.n_NoRule ek.isi rfl rfl (se_var (i := 0) (by rfl) ((by first | exact .inl rfl | exact .inr (.inl rfl) | exact .inr (.inr rfl))) (by decide) (by decide)) (by decide) rfl rfl (by rfl)) sa_nil rfl) rfl) rfl)) o_add) rfl ((by first | exact .inr rfl | exact .inl rfl)))
    (ss_cons (ss_set (i := 1) nd_law_sorts rfl ((by first | exact .inl rfl | exact .inr rfl)) (se_bin (se_var (i := 1) (by rfl) ((by first | exact .inl rfl | exact .inr (.inl rfl) | exact .inr (.inr rfl))) (by decide) (by decide)) (se_lst (sa_cons (se_isXC (c := 19) hC ok ek.co ek.ans ek.n_BadPlace ek.isi rfl rfl (se_var (i := 0) (by rfl) ((by first | exact .inl rfl | exact .inr (.inl rfl) | exact .inr (.inr rfl))) (by decide) (by decide)) (by decide) rfl rfl (by rfl)) (sa_cons (se_isXC (c := 20) hC ok ek.co ek.ans ek.n_BadBits ek.isi rfl rfl (se_var (i := 0) (by rfl) ((by first | exact .inl rfl | exact .inr (.inl rfl) | exact .inr (.inr rfl))) (by decide) (by decide)) (by decide) rfl rfl (by rfl)) (sa_cons (se_isXC (c := 21) hC ok ek.co ek.ans ek.n_BadNode ek.isi rfl rfl (se_var (i := 0) (by rfl) ((by first | exact .inl rfl | exact .inr (.inl rfl) | exact .inr (.inr rfl))) (by decide) (by decide)) (by decide) rfl rfl (by rfl)) sa_nil rfl) rfl) rfl)) o_add) rfl ((by first | exact .inr rfl | exact .inl rfl)))
    (ss_cons (ss_set (i := 1) nd_law_sorts rfl ((by first | exact .inl rfl | exact .inr rfl)) (se_bin (se_var (i := 1) (by rfl) ((by first | exact .inl rfl | exact .inr (.inl rfl) | exact .inr (.inr rfl))) (by decide) (by decide)) (se_lst (sa_cons (se_isXC (c := 22) hC ok ek.co ek.ans ek.n_BadTable ek.isi rfl rfl (se_var (i := 0) (by rfl) ((by first | exact .inl rfl | exact .inr (.inl rfl) | exact .inr (.inr rfl))) (by decide) (by decide)) (by decide) rfl rfl (by rfl)) (sa_cons (se_isXC (c := 23) hC ok ek.co ek.ans ek.n_BadLooks ek.isi rfl rfl (se_var (i := 0) (by rfl) ((by first | exact .inl rfl | exact .inr (.inl rfl) | exact .inr (.inr rfl))) (by decide) (by decide)) (by decide) rfl rfl (by rfl)) (sa_cons (se_isXC (c := 24) hC ok ek.co ek.ans ek.n_NoSigns ek.isi rfl rfl (se_var (i := 0) (by rfl) ((by first | exact .inl rfl | exact .inr (.inl rfl) | exact .inr (.inr rfl))) (by decide) (by decide)) (by decide) rfl rfl (by rfl)) sa_nil rfl) rfl) rfl)) o_add) rfl ((by first | exact .inr rfl | exact .inl rfl)))
    (ss_one (ss_ret (se_lc (vs := [2]) [("_law_k", 2)] ok nd_law_sorts (si_range1 rfl fx.n_range (sa_cons (se_callB (c_len ok) rfl fx.n_len boot_len (sa_cons (se_var (i := 1) (by rfl) ((by first | exact .inl rfl | exact .inr (.inl rfl) | exact .inr (.inr rfl))) (by decide) (by decide)) sa_nil rfl) (by decide) (by decide) rfl rfl) sa_nil rfl) rfl) (blkOk_by (by rfl)) rfl (by decide) (fun _ _ _ _ _ g1 h1 ok1 => (sg_name (i := 2) nd_law_sorts rfl ((by first | exact .inl rfl | exact .inr rfl)) ((by first | exact .inr rfl | exact .inl rfl)))) (fun _ _ _ _ _ g1 h1 ok1 => (pts_one (st_val ok1.K (se_ix (o_ix ok1) (se_var (i := 1) (by rfl) ((by first | exact .inl rfl | exact .inr (.inl rfl) | exact .inr (.inr rfl))) (by decide) (by decide)) (se_var (i := 2) (by rfl) ((by first | exact .inl rfl | exact .inr (.inl rfl) | exact .inr (.inr rfl))) (by decide) (by decide)) (fun _ _ => rfl)) (fun _ => rfl)))) (fun _ _ _ _ _ g1 h1 ok1 => (se_var (i := 2) (by rfl) ((by first | exact .inl rfl | exact .inr (.inl rfl) | exact .inr (.inr rfl))) (by decide) (by decide))) (fun _ => rfl))))))))))))
theorem cal_law_sorts {P : Program} {w : World} {K : PySem.W.Frag} {mg : Str → Option Value} {base : Heap} {C : Ct} (fx : Fx mg) (dx : Dx K mg C) (cf : CF C lay nam) (lx : Lx K mg base C) (ek : Ek P w K mg base C) : C8.Cal P w K mg base 1 "_law_sorts" (SpV C [false] F_law_sorts) [] := by
  obtain ⟨f, fd, hm, Fd⟩ := dx.d_law_sorts
  exact ⟨f, fd, ["_law_error"], [], fn_law_sorts fx dx cf lx ek Fd, hm, Fd.kp, (Fd.bindsN (ps := ["_law_error"]) fun _ _ _ _ _ _ us hl => match us, hl with | [_], _ => rfl), .nil⟩
/-! ### law -/
def N_law : List Str := ["_law_script", "_law_pen_here", "_law_a", "_law_b", "_law_c", "_law_due", "_law_told", "_law_error", "_law_k"]
theorem nd_law : N_law.Nodup := by decide
def d_law : Env' → Res Fl := (dSeq (dSet 1 (dFn [false] F_law_pen [] [(dVar 0)])) (dSeq (dPar [2, 3, 4] [(dFn [true] F_law_anything [] [(dVar 1)]), (dFn [true] F_law_anything [] [(dVar 1)]), (dFn [true] F_law_anything [] [(dVar 1)])]) (dSeq (dSet 5 (dLst [(dVar 2), (dVar 3), (dVar 4), (dVar 2), (dVar 2), (dVar 2), (dVar 2), (dVar 3), (dVar 2), (dVar 3), (dVar 2), (dVar 2), (dVar 3), (dVar 2)])) (dSeq (dSet 5 (dBin semAdd (dVar 5) (dLst [(dVar 2), (dVar 2), (dVar 2), (dVar 2), (dVar 2), (dVar 2), (dVar 2), (dVar 2), (dVar 2), (dVar 2)]))) (dSeq (dIfS (dOrT (asB (dBin semNeS (dCall semReprE [(dFn [false, false, false] F_law_by_position [] [(dVar 2), (dVar 3), (dVar 4)])]) (dCall semReprE [(dVar 5)]))) (asB (dBin semNeS (dCall semReprE [(dFn [false, false, false] F_law_by_name [] [(dVar 2), (dVar 3), (dVar 4)])]) (dCall semReprE [(dVar 5)])))) (dRet (fun e => .ok (.fz (.bl false)) e)) (fun e => .ok .nx e)) (dSeq (dSet 6 (dFn [false, false, false] F_law_all_made [] [(dVar 2), (dVar 3), (dVar 4)])) (dSeq (dIfS (asB (dBin semNeX (dLc [7] (dItems (dVar 6)) (uNm 7) (some (dOrT (dNotT (dTru (dIsX (ansX 0) (dVar 7)))) (dNotT (dTru (dIsX (ansVE 25) (dVar 7)))))) (dVar 7)) (dLst []))) (dRet (fun e => .ok (.fz (.bl false)) e)) (fun e => .ok .nx e)) (dRet (dBin semEq (dLc [7] (dItems (dVar 6)) (uNm 7) none (dFn [false] F_law_sorts [] [(dVar 7)])) (dLc [8] (dRng1 (fun e => .ok (.fz (.int 24)) e)) (uNm 8) none (dLst [(dVar 8)])))))))))))
def F_law : List PV → FR := callFn 9 [false] d_law
theorem body_law {P : Program} {w : World} {K : PySem.W.Frag} {mg : Str → Option Value} {base : Heap} {C : Ct} (fx : Fx mg) (dx : Dx K mg C) (cf : CF C lay nam) (lx : Lx K mg base C) (ek : Ek P w K mg base C) {f c : Addr} (lf : LamF base mg C "law" c) (A : Around) (outer : List Env) (s : Shared) (H : Hp) (E : XK) (g : Gm) (hgd : A.guards = some []) (hC : g.C = C) (hr : Room 3 (cxOf C8.CX0 P w K mg base N_law "law" (defScope (top 35)) f (.ref c) A outer s H E).nox.A) (ok : Ok (cxOf C8.CX0 P w K mg base N_law "law" (defScope (top 35)) f (.ref c) A outer s H E).nox g) (ex : ErX (cxOf C8.CX0 P w K mg base N_law "law" (defScope (top 35)) f (.ref c) A outer s H E).nox g) : PSs (cxOf C8.CX0 P w K mg base N_law "law" (defScope (top 35)) f (.ref c) A outer s H E).nox (defBody (top 35)) (tS g d_law) :=
    (ss_cons (ss_set (i := 1) nd_law rfl ((by first | exact .inl rfl | exact .inr rfl)) (se_fnC hC (cal_law_pen fx dx cf lx ek) hr (by decide) rfl rs_nil0 (sa_cons (se_var (i := 0) (by rfl) ((by first | exact .inl rfl | exact .inr (.inl rfl) | exact .inr (.inr rfl))) (by decide) (by decide)) sa_nil rfl) (by decide) rfl rfl) rfl ((by first | exact .inr rfl | exact .inl rfl)))
    (ss_cons (ss_par3 (i := 2) (j := 3) (l := 4) ok nd_law rfl rfl rfl (by decide) (by decide) (by decide) rfl rfl rfl (sax_cons (fun g1 h1 => have ok1 := ok_c ok h1; (se_fnC (h1.trans hC) (cal_law_anything fx dx cf lx ek) hr (by decide) rfl rs_nil0 (sa_cons (se_var (i := 1) (by rfl) ((by first | exact .inl rfl | exact .inr (.inl rfl) | exact .inr (.inr rfl))) (by decide) (by decide)) sa_nil rfl) (by decide) rfl rfl)) (sax_cons (fun g1 h1 => have ok1 := ok_c ok h1; (se_fnC (h1.trans hC) (cal_law_anything fx dx cf lx ek) hr (by decide) rfl rs_nil0 (sa_cons (se_var (i := 1) (by rfl) ((by first | exact .inl rfl | exact .inr (.inl rfl) | exact .inr (.inr rfl))) (by decide) (by decide)) sa_nil rfl) (by decide) rfl rfl)) (sax_cons (fun g1 h1 => have ok1 := ok_c ok h1; (se_fnC (h1.trans hC) (cal_law_anything fx dx cf lx ek) hr (by decide) rfl rs_nil0 (sa_cons (se_var (i := 1) (by rfl) ((by first | exact .inl rfl | exact .inr (.inl rfl) | exact .inr (.inr rfl))) (by decide) (by decide)) sa_nil rfl) (by decide) rfl rfl)) sax_nil rfl) rfl) rfl) rfl rfl)
    (ss_cons (ss_set (i := 5) nd_law rfl ((by first | exact .inl rfl | exact .inr rfl)) (se_lst (sa_cons (se_var (i := 2) (by rfl) ((by first | exact .inl rfl | exact .inr (.inl rfl) | exact .inr (.inr rfl))) (by decide) (by decide)) (sa_cons (se_var (i := 3) (by rfl) ((by first | exact .inl rfl | exact .inr (.inl rfl) | exact .inr (.inr rfl))) (by decide) (by decide)) (sa_cons (se_var (i := 4) (by rfl) ((by first | exact .inl rfl | exact .inr (.inl rfl) | exact .inr (.inr rfl))) (by decide) (by decide)) (sa_cons (se_var (i := 2) (by rfl) ((by first | exact .inl rfl | exact .inr (.inl rfl) | exact .inr (.inr rfl))) (by decide) (by decide)) (sa_cons (se_var (i := 2) (by rfl) ((by first | exact .inl rfl | exact .inr (.inl rfl) | exact .inr (.inr rfl))) (by decide) (by decide)) (sa_cons (se_var (i := 2) (by rfl) ((by first | exact .inl rfl | exact .inr (.inl rfl) | exact .inr (.inr rfl))) (by decide) (by decide)) (sa_cons (se_var (i := 2) (by rfl) ((by first | exact .inl rfl | exact .inr (.inl rfl) | exact .inr (.inr rfl))) (by decide) (by decide)) (sa_cons (se_var (i := 3) (by rfl) ((by first | exact .inl rfl | exact .inr (.inl rfl) | exact .inr (.inr rfl))) (by decide) (by decide)) (sa_cons (se_var (i := 2) (by rfl) ((by first | exact .inl rfl | exact .inr (.inl rfl) | exact .inr (.inr rfl))) (by decide) (by decide)) (sa_cons (se_var (i := 3) (by rfl) ((by first | exact .inl rfl | exact .inr (.inl rfl) | exact .inr (.inr rfl))) (by decide) (by decide)) (sa_cons (se_var (i := 2) (by rfl) ((by first | exact .inl rfl | exact .inr (.inl rfl) | exact .inr (.inr rfl))) (by decide) (by decide)) (sa_cons (se_var (i := 2) (by rfl) ((by first | exact .inl rfl | exact .inr (.inl rfl) | exact .inr (.inr rfl))) (by decide) (by decide)) (sa_cons (se_var (i := 3) (by rfl) ((by first | exact .inl rfl | exact .inr (.inl rfl) | exact .inr (.inr rfl))) (by decide) (by decide)) (sa_cons (se_var (i := 2) (by rfl) ((by first | exact .inl rfl | exact .inr (.inl rfl) | exact .inr (.inr rfl))) (by decide) (by decide)) sa_nil rfl) rfl) rfl) rfl) rfl) rfl) rfl) rfl) rfl) rfl) rfl) rfl) rfl) rfl)) rfl ((by first | exact .inr rfl | exact .inl rfl)))
    (ss_cons (ss_set (i := 5) nd_law rfl ((by first | exact .inl rfl | exact .inr rfl)) (se_bin (se_var (i := 5) (by rfl) ((by first | exact .inl rfl | exact .inr (.inl rfl) | exact .inr (.inr rfl))) (by decide) (by decide)) (se_lst (sa_cons (se_var (i := 2) (by rfl) ((by first | exact .inl rfl | exact .inr (.inl rfl) | exact .inr (.inr rfl))) (by decide) (by decide)) (sa_cons (se_var (i := 2) (by rfl) ((by first | exact .inl rfl | exact .inr (.inl rfl) | exact .inr (.inr rfl))) (by decide) (by decide)) (sa_cons (se_var (i := 2) (by rfl) ((by first | exact .inl rfl | exact .inr (.inl rfl) | exact .inr (.inr rfl))) (by decide) (by decide)) (sa_cons (se_var (i := 2) (by rfl) ((by first | exact .inl rfl | exact .inr (.inl rfl) | exact .inr (.inr rfl))) (by decide) (by decide)) (sa_cons (se_var (i := 2) (by rfl) ((by first | exact .inl rfl | exact .inr (.inl rfl) | exact .inr (.inr rfl))) (by decide) (by decide)) (sa_cons (se_var (i := 2) (by rfl) ((by first | exact .inl rfl | exact .inr (.inl rfl) | exact .inr (.inr rfl))) (by decide) (by decide)) (sa_cons (se_var (i := 2) (by rfl) ((by first | exact .inl rfl | exact .inr (.inl rfl) | exact .inr (.inr rfl))) (by decide) (by decide)) (sa_cons (se_var (i := 2) (by rfl) ((by first | exact .inl rfl | exact .inr (.inl rfl) | exact .inr (.inr rfl))) (by decide) (by decide)) (sa_cons (se_var (i := 2) (by rfl) ((by first | exact .inl rfl | exact .inr (.inl rfl) | exact .inr (.inr rfl))) (by decide) (by decide)) (sa_cons (se_var (i := 2) (by rfl) ((by first | exact .inl rfl | exact .inr (.inl rfl) | exact .inr (.inr rfl))) (by decide) (by decide)) sa_nil rfl) rfl) rfl) rfl) rfl) rfl) rfl) rfl) rfl) rfl)) o_add) rfl ((by first | exact .inr rfl | exact .inl rfl)))
    (ss_cons (ss_if (PW.pt (sw_or (st_cmp (se_callB (c_reprE ok hgd) rfl fx.n_repr boot_repr (sa_cons (se_fnC hC (cal_law_by_position fx dx cf lx ek) hr (by decide) rfl rs_nil0 (sa_cons (se_var (i := 2) (by rfl) ((by first | exact .inl rfl | exact .inr (.inl rfl) | exact .inr (.inr rfl))) (by decide) (by decide)) (sa_cons (se_var (i := 3) (by rfl) ((by first | exact .inl rfl | exact .inr (.inl rfl) | exact .inr (.inr rfl))) (by decide) (by decide)) (sa_cons (se_var (i := 4) (by rfl) ((by first | exact .inl rfl | exact .inr (.inl rfl) | exact .inr (.inr rfl))) (by decide) (by decide)) sa_nil rfl) rfl) rfl) (by decide) rfl rfl) sa_nil rfl) (by decide) (by decide) rfl rfl) (se_callB (c_reprE ok hgd) rfl fx.n_repr boot_repr (sa_cons (se_var (i := 5) (by rfl) ((by first | exact .inl rfl | exact .inr (.inl rfl) | exact .inr (.inr rfl))) (by decide) (by decide)) sa_nil rfl) (by decide) (by decide) rfl rfl) o_neS rfl) (sw_or1 (st_cmp (se_callB (c_reprE ok hgd) rfl fx.n_repr boot_repr (sa_cons (se_fnC hC (cal_law_by_name fx dx cf lx ek) hr (by decide) rfl rs_nil0 (sa_cons (se_var (i := 2) (by rfl) ((by first | exact .inl rfl | exact .inr (.inl rfl) | exact .inr (.inr rfl))) (by decide) (by decide)) (sa_cons (se_var (i := 3) (by rfl) ((by first | exact .inl rfl | exact .inr (.inl rfl) | exact .inr (.inr rfl))) (by decide) (by decide)) (sa_cons (se_var (i := 4) (by rfl) ((by first | exact .inl rfl | exact .inr (.inl rfl) | exact .inr (.inr rfl))) (by decide) (by decide)) sa_nil rfl) rfl) rfl) (by decide) rfl rfl) sa_nil rfl) (by decide) (by decide) rfl rfl) (se_callB (c_reprE ok hgd) rfl fx.n_repr boot_repr (sa_cons (se_var (i := 5) (by rfl) ((by first | exact .inl rfl | exact .inr (.inl rfl) | exact .inr (.inr rfl))) (by decide) (by decide)) sa_nil rfl) (by decide) (by decide) rfl rfl) o_neS rfl)))) (ss_one (ss_ret se_bl)) ss_nil)
    (ss_cons (ss_set (i := 6) nd_law rfl ((by first | exact .inl rfl | exact .inr rfl)) (se_fnC hC (cal_law_all_made fx dx cf lx ek) hr (by decide) rfl rs_nil0 (sa_cons (se_var (i := 2) (by rfl) ((by first | exact .inl rfl | exact .inr (.inl rfl) | exact .inr (.inr rfl))) (by decide) (by decide)) (sa_cons (se_var (i := 3) (by rfl) ((by first | exact .inl rfl | exact .inr (.inl rfl) | exact .inr (.inr rfl))) (by decide) (by decide)) (sa_cons (se_var (i := 4) (by rfl) ((by first | exact .inl rfl | exact .inr (.inl rfl) | exact .inr (.inr rfl))) (by decide) (by decide)) sa_nil rfl) rfl) rfl) (by decide) rfl rfl) rfl ((by first | exact .inr rfl | exact .inl rfl)))
    (ss_cons (ss_if (st_cmp (se_lc (vs := [7]) [("_law_error", 7)] ok nd_law (si_val ok.K (se_var (i := 6) (by rfl) ((by first | exact .inl rfl | exact .inr (.inl rfl) | exact .inr (.inr rfl))) (by decide) (by decide))) (blkOk_by (by rfl)) rfl (by decide) (fun _ _ _ _ _ g1 h1 ok1 => (sg_name (i := 7) nd_law rfl ((by first | exact .inl rfl | exact .inr rfl)) ((by first | exact .inr rfl | exact .inl rfl)))) (fun _ _ _ _ _ g1 h1 ok1 => (pts_one (PW.pt (sw_or (st_not (st_val ok1.K (se_isXC (c := 0) (h1.trans hC) ok1 ek.co ek.ans ek.n_JoinsError ek.isi rfl rfl (se_var (i := 7) (by rfl) ((by first | exact .inl rfl | exact .inr (.inl rfl) | exact .inr (.inr rfl))) (by decide) (by decide)) (by decide) rfl rfl (by rfl)) (fun _ => rfl))) (sw_or1 (st_not (st_val ok1.K (se_isVE (k := 25) (T := "ValueError") (h1.trans hC) ok1 ek.co ek.ve ek.isi rfl ek.nVE rfl boot_ve (se_var (i := 7) (by rfl) ((by first | exact .inl rfl | exact .inr (.inl rfl) | exact .inr (.inr rfl))) (by decide) (by decide)) (by decide) (by decide) rfl rfl (by rfl)) (fun _ => rfl)))))))) (fun _ _ _ _ _ g1 h1 ok1 => (se_var (i := 7) (by rfl) ((by first | exact .inl rfl | exact .inr (.inl rfl) | exact .inr (.inr rfl))) (by decide) (by decide))) (fun _ => rfl)) (se_lst sa_nil) (o_neX ok) rfl) (ss_one (ss_ret se_bl)) ss_nil)
    (ss_one (ss_ret (se_cmp (se_lc (vs := [7]) [("_law_error", 7)] ok nd_law (si_val ok.K (se_var (i := 6) (by rfl) ((by first | exact .inl rfl | exact .inr (.inl rfl) | exact .inr (.inr rfl))) (by decide) (by decide))) (blkOk_by (by rfl)) rfl (by decide) (fun _ _ _ _ _ g1 h1 ok1 => (sg_name (i := 7) nd_law rfl ((by first | exact .inl rfl | exact .inr rfl)) ((by first | exact .inr rfl | exact .inl rfl)))) (fun _ _ _ _ _ g1 h1 ok1 => sts_nil) (fun _ _ _ _ _ g1 h1 ok1 => (se_fnC (h1.trans hC) (cal_law_sorts fx dx cf lx ek) hr (by decide) rfl rs_nil0 (sa_cons (se_var (i := 7) (by rfl) ((by first | exact .inl rfl | exact .inr (.inl rfl) | exact .inr (.inr rfl))) (by decide) (by decide)) sa_nil rfl) (by decide) rfl rfl)) (fun _ => rfl)) (se_lc (vs := [8]) [("_law_k", 8)] ok nd_law (si_range1 rfl fx.n_range (sa_cons se_int sa_nil rfl) rfl) (blkOk_by (by rfl)) rfl (by decide) (fun _ _ _ _ _ g1 h1 ok1 => (sg_name (i := 8) nd_law rfl ((by first | exact .inl rfl | exact .inr rfl)) ((by first | exact .inr rfl | exact .inl rfl)))) (fun _ _ _ _ _ g1 h1 ok1 => sts_nil) (fun _ _ _ _ _ g1 h1 ok1 => (se_lst (sa_cons (se_var (i := 8) (by rfl) ((by first | exact .inl rfl | exact .inr (.inl rfl) | exact .inr (.inr rfl))) (by decide) (by decide)) sa_nil rfl))) (fun _ => rfl)) (o_eq ok) rfl))))))))))
end K00

set_option maxRecDepth 100000
set_option maxHeartbeats 2000000
namespace VL
open PySem PySem.Spec L2
open PyProof.Rows hiding St
/-! ### what the denotations give, applied -/
/-- a continuation, held: simp does not look into it (a witness depends on it) -/
inductive Wit {γ : Type} (f : γ) : Type where
  | mk
def Res.bh {α β : Type} (r : Res α) (f : α → Env' → Res β) (_ : Wit f := .mk) : Res β := r.bind f
section
variable {α β : Type} {e e' : Env'} {d d1 d2 d3 : Env' → Res Val} {s1 s2 : Env' → Res Fl} {t t1 t2 : Env' → Res Bool} {di : Env' → Res (List PV)} {u : UG} {i j k : Nat}
theorem bind_k {x : α} {f : α → Env' → Res β} : (Res.ok x e).bind f = f x e := id rfl
theorem bh_k {x : α} {f : α → Env' → Res β} {w : Wit f} : (Res.ok x e).bh f w = f x e := id rfl
theorem bind_b {f : α → Env' → Res β} : (Res.bad : Res α).bind f = .bad := id rfl
def seqK (s : Env' → Res Fl) (f : Fl) (e : Env') : Res Fl := match f with
  | .nx => s e
  | x => .ok x e
theorem seqK_n {s : Env' → Res Fl} : seqK s .nx e = s e := id rfl
theorem seqK_r {s : Env' → Res Fl} {x : Val} : seqK s (.rt x) e = .ok (.rt x) e := id rfl
theorem seq_e : dSeq s1 s2 e = (s1 e).bind (seqK s2) := by
  unfold dSeq seqK
  congr 1
theorem expr_e : dExpr d e = (d e).bh fun _ e' => .ok .nx e' := id rfl
theorem ret_e : dRet d e = (d e).bind retV := id rfl
theorem retV_f {p : PV} : retV (.fz p) e = .ok (.rt (.fz p)) e := id rfl
theorem retV_n {p : PV} : retV (.new p) e = .ok (.rt (.new p)) e := id rfl
theorem retV_b : retV (.bor i) e = match e[i]? with
    | some (.fz p) => .ok (.rt (.fz p)) e
    | some (.ow true p) => .ok (.rt (.new p)) (e.set i .no)
    | _ => .bad := id rfl
def ifK (s1 s2 : Env' → Res α) (b : Bool) (e : Env') : Res α := if b = true then s1 e else s2 e
theorem ifK_t {s1 s2 : Env' → Res α} : ifK s1 s2 true e = s1 e := id rfl
theorem ifK_f {s1 s2 : Env' → Res α} : ifK s1 s2 false e = s2 e := id rfl
theorem ifS_e : dIfS t s1 s2 e = (t e).bind (ifK s1 s2) := id rfl
theorem if_e : dIf t d1 d2 e = (t e).bind (ifK d1 d2) := id rfl
theorem set_e : dSet i d e = (d e).bind (store i) := id rfl
theorem store_f {p : PV} : store i (.fz p) e = .ok .nx (e.set i (.fz p)) := id rfl
theorem store_n {p : PV} : store i (.new p) e = .ok .nx (e.set i (.ow true p)) := id rfl
theorem store_b : store i (.bor j) e = match e[j]? with
  | some (.fz p) => .ok .nx (e.set i (.fz p))
  | some (.ow true p) => .ok .nx ((e.set j (.fz p)).set i (.fz p))
  | _ => .bad := id rfl
theorem var_e : dVar i e = match e[i]? with
  | some (.fz p) => .ok (.fz p) e
  | some (.ow _ _) => .ok (.bor i) e
  | _ => .bad := id rfl
theorem stl_e : stl d e = (d e).bh fun x e' => .ok x.stl e' := id rfl
theorem stl_f {p : PV} : (Val.fz p).stl = .fz p := id rfl
theorem stl_n {p : PV} : (Val.new p).stl = .fz p := id rfl
theorem stl_b : (Val.bor i).stl = .bor i := id rfl
theorem peek_f {p : PV} : peek (.fz p) e = some p := id rfl
theorem peek_n {p : PV} : peek (.new p) e = some p := id rfl
theorem peek_b : peek (.bor i) e = match e[i]? with
    | some (.ow _ p) => some p
    | some (.fz p) => some p
    | _ => none := id rfl
theorem frz_f {p : PV} : frz (.fz p) e = .ok p e := id rfl
theorem frz_n {p : PV} : frz (.new p) e = .ok p e := id rfl
theorem frz_b : frz (.bor i) e = match e[i]? with
    | some (.fz p) => .ok p e
    | some (.ow true p) => .ok p (e.set i (.fz p))
    | _ => .bad := id rfl
theorem bin_e {sem : PV → PV → Option Val} : dBin sem d1 d2 e = (stl d1 e).bh fun x e1 => (stl d2 e1).bh fun y e2 => op2 sem x y e2 := id rfl
theorem op2_e {sem : PV → PV → Option Val} {x y : Val} {p q : PV} (h1 : peek x e = some p) (h2 : peek y e = some q) : op2 sem x y e = toVal (sem p q) e := by unfold op2; rw [h1, h2]
theorem op2_d {sem : PV → PV → Option Val} {x y : Val} : op2 sem x y e = match peek x e, peek y e with
  | some p, some q => toVal (sem p q) e
  | _, _ => .bad := id rfl
theorem toVal_s {x : Val} : toVal (some x) e = .ok x e := id rfl
theorem asB_e : asB d e = (d e).bh fun x e1 => match x with
  | .fz (.bl b) => .ok b e1
  | _ => .bad := id rfl
theorem chain_e {sem sem' : PV → PV → Option Val} : dChain sem sem' d1 d2 d3 e = (stl d1 e).bh fun x e1 => (stl d2 e1).bh fun y e2 => (op2 sem x y e2).bh fun r e3 => match r with
  | .fz (.bl true) => (stl d3 e3).bh fun z e4 => op2 sem' y z e4
  | .fz (.bl false) => .ok (.fz (.bl false)) e3
  | _ => .bad := by
  unfold dChain
  congr 1
theorem un_e {sem : PV → Option Val} : dUn sem d e = (stl d e).bh fun x e1 => match peek x e1 with
  | some p => toVal (sem p) e1
  | none => .bad := by
  unfold dUn
  congr 1
theorem not_e : dNot d e = dUn (fun p => (truthPV p).map fun b => .fz (.bl (!b))) d e := id rfl
theorem notT_e : dNotT t e = (t e).bh fun b e1 => .ok (!b) e1 := id rfl
theorem andT_e : dAndT t1 t2 e = (t1 e).bind (ifK t2 (fun e1 => .ok false e1)) := id rfl
theorem orT_e : dOrT t1 t2 e = (t1 e).bind (ifK (fun e1 => .ok true e1) t2) := id rfl
theorem args_n : dArgs [] e = .ok [] e := id rfl
theorem args_c {ds : List (Env' → Res Val)} : dArgs (d :: ds) e = (stl d e).bh fun x e1 => (dArgs ds e1).bh fun xs e2 => .ok (x :: xs) e2 := id rfl
theorem frzs_n : frzs [] e = .ok [] e := id rfl
theorem frzs_c {x : Val} {xs : List Val} : frzs (x :: xs) e = (frz x e).bh fun p e1 => (frzs xs e1).bh fun ps e2 => .ok (p :: ps) e2 := id rfl
theorem lst_e {ds : List (Env' → Res Val)} : dLst ds e = (dArgs ds e).bh fun xs e1 => (frzs xs e1).bh fun ps e2 => if ps.length ≤ big then .ok (.new (.lst ps)) e2 else .bad := id rfl
theorem tup_e {ds : List (Env' → Res Val)} : dTup ds e = (dArgs ds e).bh fun xs e1 => (frzs xs e1).bh fun ps e2 => if ps.length ≤ big then .ok (.fz (.tup ps)) e2 else .bad := id rfl
theorem call_e {sem : List PV → Option Val} {ds : List (Env' → Res Val)} : dCall sem ds e = (dArgs ds e).bh fun xs e1 => opN sem xs e1 := id rfl
theorem peeks_n : peeks e [] = some [] := id rfl
theorem peeks_c {x : Val} {xs : List Val} : peeks e (x :: xs) = match peek x e, peeks e xs with
    | some p, some ps => some (p :: ps)
    | _, _ => none := id rfl
theorem opN_e {sem : List PV → Option Val} {xs : List Val} : opN sem xs e = match peeks e xs with
  | some ps => toVal (sem ps) e
  | none => .bad := id rfl
theorem sl_e {lo hi : Option (Env' → Res Val)} : dSl d lo hi e = (stl d e).bh fun x e1 => (partOf lo e1).bh fun l e2 => (partOf hi e2).bh fun h e3 => match peek x e3 with
  | some p => toVal (semSl p l h) e3
  | none => .bad := id rfl
theorem part_n : partOf none e = .ok none e := id rfl
theorem part_s : partOf (some d) e = (stl d e).bh fun x e1 => match x with
    | .fz (.int i) => .ok (some i) e1
    | _ => .bad := id rfl
theorem meth_e {T : String} {sem : PV → List PV → Option Val} {ds : List (Env' → Res Val)} : dMeth T sem d ds e = (stl d e).bh fun x e1 => if (peek x e1).map kd = some T then
    (dArgs ds e1).bh fun xs e2 => match peek x e2, peeks e2 xs with
      | some p, some ps => if kd p = T then toVal (sem p ps) e2 else .bad
      | _, _ => .bad
  else .bad := id rfl
theorem for_e : dFor di u s1 e = (di e).bh fun ps e1 => forL u s1 ps e1 := id rfl
theorem asgT_e : dAsgT d u e = (d e).bh fun x e1 => (frz x e1).bh fun p e2 => match u p e2 with
  | some e3 => .ok .nx e3
  | none => .bad := id rfl
theorem uNm_e {p : PV} : uNm i p e = some (e.set i (.fz p)) := id rfl
theorem uTup_e {n : Nat} {us : List PV → Env' → Option Env'} {ps : List PV} : uTup n us (.tup ps) e = if ps.length = n then us ps e else none := id rfl
theorem uCons_e {us : List PV → Env' → Option Env'} {p : PV} {ps : List PV} : uCons u us (p :: ps) e = (u p e).bind (us ps) := id rfl
theorem uNil_e : uNil [] e = some e := id rfl
theorem put_e : dPut i d1 d2 e = (d2 e).bh fun x e1 => (frz x e1).bh fun p e2 => if isOw i e2 = true then (stl d1 e2).bh fun y e3 => putS i p y e3 else .bad := id rfl
theorem putS_e {p : PV} {y : Val} : putS i p y e = match e[i]?, peek y e with
  | some (.ow b q), some k => (match semPut q k p with
    | some q' => .ok .nx (e.set i (.ow b q'))
    | none => .bad)
  | _, _ => .bad := id rfl
theorem isOw_e : isOw i e = match e[i]? with
  | some (.ow _ _) => true
  | _ => false := id rfl
theorem mut_e {T : String} {sem : PV → List PV → Option (PV × PV)} {ds : List (Env' → Res Val)} : dMut T sem i ds e = if kdAt i e = T then (dArgs ds e).bh fun xs e1 => (frzs xs e1).bh fun ps e2 => mutK T sem i ps e2 else .bad := id rfl
theorem kdAt_e : kdAt i e = match e[i]? with
  | some (.ow _ q) => kd q
  | _ => "" := id rfl
theorem mutK_e {T : String} {sem : PV → List PV → Option (PV × PV)} {ps : List PV} : mutK T sem i ps e = match e[i]? with
  | some (.ow b q) => if kd q = T then (match sem q ps with
      | some (q', r) => .ok (.fz r) (e.set i (.ow b q'))
      | none => .bad)
    else .bad
  | _ => .bad := by
  unfold mutK
  rfl
theorem items_e : dItems d e = (stl d e).bh fun x e1 => (frz x e1).bh fun p e2 => match itemsP p with
  | some ps => .ok ps e2
  | none => .bad := id rfl
theorem enum_e : dEnum d e = (dArgs [d] e).bh fun xs e1 => (frzs xs e1).bh fun ps e2 => match ps with
  | [.lst xs] => .ok (numL xs) e2
  | [.tup xs] => .ok (numL xs) e2
  | [.str z] => .ok (numL (chars z)) e2
  | _ => .bad := id rfl
theorem rng1_e : dRng1 d e = (dArgs [d] e).bh fun xs e1 => match peeks e1 xs with
  | some [.int j] => if r62 j = true then .ok (rngP 0 j.toNat) e1 else .bad
  | _ => .bad := id rfl
theorem rng2_e : dRng2 d1 d2 e = (dArgs [d1, d2] e).bh fun xs e1 => match peeks e1 xs with
  | some [.int i, .int j] => if r62 i = true ∧ r62 j = true then .ok (rngP i (j - i).toNat) e1 else .bad
  | _ => .bad := id rfl
theorem lc_e {vs : List Nat} {dt : Option (Env' → Res Bool)} : dLc vs di u dt d e = (di e).bh fun ps e1 => (lcL vs u dt d ps [] e1).bh fun qs e2 => .ok (.new (.lst qs)) e2 := id rfl
theorem dc_e {vs : List Nat} {dt : Option (Env' → Res Bool)} : dDc vs di u dt d1 d2 e = (di e).bh fun ps e1 => (dcL vs u dt d1 d2 ps [] [] e1).bh fun qs e2 => .ok (.new (.dK qs.1 qs.2)) e2 := id rfl
theorem par_e {is : List Nat} {ds : List (Env' → Res Val)} : dPar is ds e = (parL false ds e).bh fun xs e1 => storeL is xs e1 := id rfl
theorem parL_n {b : Bool} : parL b [] e = .ok [] e := by cases b <;> rfl
theorem parL_f {ds : List (Env' → Res Val)} : parL false (d :: ds) e = (d e).bh fun x e1 => (unb x e1).bh fun y e2 => (parL (isNew y) ds e2).bh fun xs e3 => .ok (y :: xs) e3 := id rfl
theorem parL_t {ds : List (Env' → Res Val)} : parL true (d :: ds) e = match d (blkE [] e) with
    | .ok x e1 => (match x with
      | .bor _ => .bad
      | y => (parL true ds (outE [] e e1)).bh fun xs e3 => .ok (y :: xs) e3)
    | _ => .bad := id rfl
theorem unb_f {p : PV} : unb (.fz p) e = .ok (.fz p) e := id rfl
theorem unb_n {p : PV} : unb (.new p) e = .ok (.new p) e := id rfl
theorem unb_b : unb (.bor i) e = (frz (.bor i) e).bh fun p e' => .ok (.fz p) e' := id rfl
theorem isNew_f {p : PV} : isNew (.fz p) = false := id rfl
theorem isNew_n {p : PV} : isNew (.new p) = true := id rfl
theorem storeL_n : storeL [] [] e = .ok .nx e := id rfl
theorem storeL_f {is : List Nat} {xs : List Val} {p : PV} : storeL (i :: is) (.fz p :: xs) e = storeL is xs (e.set i (.fz p)) := id rfl
theorem storeL_w {is : List Nat} {xs : List Val} {p : PV} : storeL (i :: is) (.new p :: xs) e = storeL is xs (e.set i (.ow true p)) := id rfl
theorem fn_e {md : Md} {fn : List PV → FR} {dps : List PV} {ds : List (Env' → Res Val)} : dFn md fn dps ds e = (dArgs ds e).bh fun xs e1 => callK md fn (xs ++ dps.map Val.fz) e1 := id rfl
theorem mk_e {c : Nat} {md : Md} {fn : List PV → FR} {dps : List PV} {ds : List (Env' → Res Val)} : dMk c md fn dps ds e = (dArgs ds e).bh fun xs e1 => mkK c md fn (xs ++ dps.map Val.fz) e1 := id rfl
def frK (is : List Nat) (e : Env') (r : FR) : Res Val := match r with
  | .ok (.fz p) outs => (match putOuts is outs e with
    | some e3 => .ok (.fz p) e3
    | none => .bad)
  | .ok (.new p) outs => (match putOuts is outs e with
    | some e3 => .ok (.new p) e3
    | none => .bad)
  | _ => .bad
theorem callK_e {md : Md} {fn : List PV → FR} {xs : List Val} : callK md fn xs e = (prep md xs e).bh fun ps e2 => if (lentI md xs).Nodup then frK (lentI md xs) e2 (fn ps) else .bad := id rfl
theorem frK_f {is : List Nat} {p : PV} {outs : List PV} : frK is e (.ok (.fz p) outs) = match putOuts is outs e with
    | some e3 => .ok (.fz p) e3
    | none => .bad := id rfl
theorem frK_n {is : List Nat} {p : PV} {outs : List PV} : frK is e (.ok (.new p) outs) = match putOuts is outs e with
    | some e3 => .ok (.new p) e3
    | none => .bad := id rfl
def mkF (is : List Nat) (e : Env') (r : FR) : Res Val := match r with
  | .ok (.fz .non) (q :: outs) => (match putOuts is outs e with
    | some e3 => .ok (.new q) e3
    | none => .bad)
  | _ => .bad
theorem mkK_e {c : Nat} {md : Md} {fn : List PV → FR} {xs : List Val} : mkK c md fn xs e = (prep md xs e).bh fun ps e2 => if (lentI md xs).Nodup then mkF (lentI md xs) e2 (fn (.ins c [] :: ps)) else .bad := id rfl
theorem mkF_e {is : List Nat} {q : PV} {outs : List PV} : mkF is e (.ok (.fz .non) (q :: outs)) = match putOuts is outs e with
    | some e3 => .ok (.new q) e3
    | none => .bad := id rfl
theorem prep_f {ms : Md} {x : Val} {xs : List Val} : prep (false :: ms) (x :: xs) e = (frz x e).bh fun p e1 => (prep ms xs e1).bh fun ps e2 => .ok (p :: ps) e2 := id rfl
theorem prep_t {ms : Md} {xs : List Val} : prep (true :: ms) (.bor i :: xs) e = (prep ms xs e).bh fun ps e2 => match e2[i]? with
    | some (.ow _ p) => .ok (p :: ps) e2
    | _ => .bad := id rfl
theorem prep_n : prep [] [] e = .ok [] e := id rfl
theorem lentI_f {ms : Md} {x : Val} {xs : List Val} : lentI (false :: ms) (x :: xs) = lentI ms xs := id rfl
theorem lentI_t {ms : Md} {xs : List Val} : lentI (true :: ms) (.bor i :: xs) = i :: lentI ms xs := id rfl
theorem lentI_n : lentI [] [] = [] := id rfl
theorem putOuts_n : putOuts [] [] e = some e := id rfl
theorem putOuts_c {is : List Nat} {q : PV} {qs : List PV} : putOuts (i :: is) (q :: qs) e = match e[i]? with
    | some (.ow b _) => putOuts is qs (e.set i (.ow b q))
    | _ => none := id rfl
theorem isi_e {ans : PV → Option Bool} : dIsi ans d e = (stl d e).bh fun x e1 => match (peek x e1).bind ans with
  | some b => .ok (.fz (.bl b)) e1
  | none => .bad := by
  unfold dIsi
  congr 1
theorem fld_e {L : Nat → List Nat} {f : Nat} : dFldL L f d e = (stl d e).bh fun x e1 => match peek x e1 with
  | some (.ins c xs) => (match ((L c).idxOf? f).bind fun i => xs[i]? with
    | some p => .ok (.fz p) e1
    | none => .bad)
  | _ => .bad := id rfl
theorem fldS_e {L : Nat → List Nat} {f : Nat} : dFldSL L f i d e = (d e).bh fun x e1 => (frz x e1).bh fun p e2 => match e2[i]? with
  | some (.ow b (.ins c xs)) => if (L c)[xs.length]? = some f ∧ xs.length < 999 then .ok .nx (e2.set i (.ow b (.ins c (xs ++ [p])))) else .bad
  | _ => .bad := id rfl
theorem tru_e : dTru d e = (stl d e).bh fun x e1 => match (peek x e1).bind truthPV with
  | some b => .ok b e1
  | none => .bad := by
  unfold dTru
  congr 1
theorem bool_e {a : Bool} : dBool a d1 d2 e = (stl d1 e).bh fun x e1 => match (peek x e1).bind truthPV with
  | some b => if b = a then d2 e1 else .ok x e1
  | none => .bad := by
  unfold dBool
  congr 1
theorem aug_e {sem : Int → Int → Option Int} : dAug i sem d e = match e[i]? with
  | some (.fz (.int k)) => (stl d e).bh fun x e1 => (match x with
    | .fz (.int n) => (match sem k n with
      | some m => .ok .nx (e1.set i (.fz (.int m)))
      | none => .bad)
    | _ => .bad)
  | _ => .bad := id rfl
theorem sortLn_e : dSortLn d e = (d e).bh fun x e1 => match peek x e1 with
  | some p => (match semLn p with
    | some q => .ok (.new q) e1
    | none => .bad)
  | none => .bad := id rfl
/-- a call's end -/
def finF (md : Md) (r : Res Fl) : FR := match r with
  | .ok .nx e => (match outsAt 0 md e with
    | some outs => .ok (.fz .non) outs
    | none => .bad)
  | .ok (.rt (.fz p)) e => (match outsAt 0 md e with
    | some outs => .ok (.fz p) outs
    | none => .bad)
  | .ok (.rt (.new p)) e => (match outsAt 0 md e with
    | some outs => .ok (.new p) outs
    | none => .bad)
  | _ => .bad
theorem callFn_e {n : Nat} {md : Md} {d : Env' → Res Fl} {args : List PV} : callFn n md d args = finF md (d (entry n md args)) := id rfl
theorem finF_x {md : Md} : finF md (.ok .nx e) = match outsAt 0 md e with
    | some outs => .ok (.fz .non) outs
    | none => .bad := id rfl
theorem finF_f {md : Md} {p : PV} : finF md (.ok (.rt (.fz p)) e) = match outsAt 0 md e with
    | some outs => .ok (.fz p) outs
    | none => .bad := id rfl
theorem finF_n {md : Md} {p : PV} : finF md (.ok (.rt (.new p)) e) = match outsAt 0 md e with
    | some outs => .ok (.new p) outs
    | none => .bad := id rfl
end
end VL

set_option maxRecDepth 100000
set_option maxHeartbeats 2000000
namespace VL
open PySem PySem.Spec L2
open PyProof.Rows hiding St
/-! ### operations on plain values -/
section
variable {i j : Int} {p : PV} {xs ys : List PV} {x y : Str}
theorem add_i : semAdd (.int i) (.int j) = some (.fz (.int (i + j))) := id rfl
theorem add_s (h : x.length + y.length ≤ big) : semAdd (.str x) (.str y) = some (.fz (.str (x ++ y))) := if_pos h
theorem add_l (h : xs.length + ys.length ≤ big) : semAdd (.lst xs) (.lst ys) = some (.new (.lst (xs ++ ys))) := if_pos h
theorem sub_i : semSub (.int i) (.int j) = some (.fz (.int (i - j))) := id rfl
theorem mul_i (h : CMulX i j) : semMul (.int i) (.int j) = some (.fz (.int (i * j))) := if_pos h
theorem div_i (h : CDivW i j) : semDiv (.int i) (.int j) = some (.fz (.int (i / j))) := if_pos h
theorem mod_i (h : 0 < j) : semMod (.int i) (.int j) = some (.fz (.int (i % j))) := if_pos h
theorem lt_i : semLt (.int i) (.int j) = some (.fz (.bl (decide (i < j)))) := id rfl
theorem le_i : semLe (.int i) (.int j) = some (.fz (.bl (decide (i ≤ j)))) := id rfl
theorem gt_i : semGt (.int i) (.int j) = some (.fz (.bl (decide (j < i)))) := id rfl
theorem ge_i : semGe (.int i) (.int j) = some (.fz (.bl (decide (j ≤ i)))) := id rfl
theorem len_l : semLen [.lst xs] = some (.fz (.int xs.length)) := id rfl
theorem len_t : semLen [.tup xs] = some (.fz (.int xs.length)) := id rfl
theorem len_r {ns : List Int} : semLen [.scr ns] = some (.fz (.int ns.length)) := id rfl
theorem len_s (h : x.length ≤ big) : semLen [.str x] = some (.fz (.int x.length)) := if_pos h
theorem int_i : semInt [.int i] = some (.fz (.int i)) := id rfl
theorem abs_i : semAbs [.int i] = some (.fz (.int i.natAbs)) := by
  show some (Val.fz (PV.int (if i < 0 then -i else i))) = _
  congr 3
  split <;> omega
theorem min_i : semMin [.int i, .int j] = some (.fz (.int (min i j))) := by
  show some (Val.fz (PV.int (if j < i then j else i))) = _
  congr 3
  split <;> omega
theorem list_l : semList [.lst xs] = some (.new (.lst xs)) := id rfl
theorem list_t : semList [.tup xs] = some (.new (.lst xs)) := id rfl
theorem list_r {ns : List Int} : semList [.scr ns] = some (.new (.lst (ns.map .int))) := id rfl
theorem tuple_l : semTuple [.lst xs] = some (.fz (.tup xs)) := id rfl
theorem tuple_t : semTuple [.tup xs] = some (.fz (.tup xs)) := id rfl
theorem app_l {p : PV} (h : xs.length < big) : semAppend (.lst xs) [p] = some (.lst (xs ++ [p]), .non) := if_pos h
theorem pop_i (h0 : 0 ≤ i) (h1 : i < xs.length) (hb : xs.length < 16777216) (hk : xs[i.toNat]? = some p) : semPop (.lst xs) [.int i] = some (.lst (xs.eraseIdx i.toNat), p) := by
  have e : semPop (.lst xs) [.int i] = if r62 i = true then (ixN xs.length i).bind fun k => xs[k]?.map fun y => ((PV.lst (xs.eraseIdx k), y) : PV × PV) else none := rfl
  rw [e, if_pos (r62_of (by omega) (by omega))]
  unfold ixN
  rw [if_pos h0, if_pos h1, Option.bind_some, hk]
  rfl
theorem mod_pow : semPow (.int 10) (.int 18) = some (.fz (.int 1000000000000000000)) := by
  show (if CPow 10 18 then some (Val.fz (PV.int (10 ^ (18 : Int).toNat))) else none) = _
  rw [if_pos ⟨by decide, by decide, by decide⟩]
  rfl
theorem key_s : keyP (.str x) = some (.inr x) := id rfl
theorem key_i : keyP (.int i) = some (.inl i) := id rfl
theorem items_l : itemsP (.lst xs) = some xs := id rfl
theorem items_t : itemsP (.tup xs) = some xs := id rfl
theorem items_s : itemsP (.str x) = some (chars x) := id rfl
theorem ix_l : semIx (.lst xs) (.int i) = (atI xs i).map .fz := id rfl
theorem ix_t : semIx (.tup xs) (.int i) = (atI xs i).map .fz := id rfl
theorem ix_k {ks : List Key} {p : PV} : semIx (.dK ks xs) p = (keyP p).bind fun k => (look ks xs k).map .fz := id rfl
theorem put_k {ks : List Key} {q v : PV} : semPut (.dK ks xs) q v = match keyP q with
    | some k => if ks.length < big then some (.dK (putP ks xs k v).1 (putP ks xs k v).2) else none
    | none => none := id rfl
theorem is_n : semIs .non .non = some (.fz (.bl true)) := id rfl
theorem is_l : semIs (.lst xs) .non = some (.fz (.bl false)) := id rfl
theorem is_i : semIs (.int i) .non = some (.fz (.bl false)) := id rfl
theorem isnot_n : semIsNot .non .non = some (.fz (.bl false)) := id rfl
theorem isnot_i : semIsNot (.int i) .non = some (.fz (.bl true)) := id rfl
theorem in_k {ks : List Key} : semIn (.str x) (.dK ks xs) = some (.fz (.bl (look ks xs (.inr x)).isSome)) := id rfl
theorem sl_r {ns : List Int} {lo hi : Option Int} : semSl (.scr ns) lo hi = some (.new (.lst ((cutL ns lo hi).map .int))) := id rfl
theorem sl_s {lo hi : Option Int} (h : x.length ≤ big) : semSl (.str x) lo hi = some (.fz (.str (Txt.slice x lo hi))) := if_pos h
theorem tru_l : truthPV (.lst xs) = some (!xs.isEmpty) := id rfl
theorem tru_b {b : Bool} : truthPV (.bl b) = some b := id rfl
theorem big_v : big = 16777216 := id rfl
theorem nsz {a b : Nat} : (a ≤ b) = (a ≤ b) := id rfl
/-- small factors -/
theorem bits_le {i : Int} {n : Nat} (h : i.natAbs < 2 ^ n) : Builtin.Int.intBits i ≤ n := by
  unfold Builtin.Int.intBits
  split
  · omega
  · rename_i hi
    have h0 : i.natAbs ≠ 0 := fun z => hi (by have : i = 0 := by omega
                                              rw [this]; rfl)
    have := (Nat.log2_lt h0).mpr h
    omega
theorem cmul {i j : Int} (h1 : i.natAbs < 2 ^ 1000) (h2 : j.natAbs < 2 ^ 1000) : CMulX i j := by
  unfold CMulX
  have := bits_le h1
  have := bits_le h2
  omega
theorem cdiv {i j : Int} (h1 : 0 < j) (h2 : j.natAbs < 2 ^ 1000) : CDivW i j := by
  refine ⟨h1, ?_⟩
  have : j.natAbs ≠ 0 := by omega
  have := (Nat.log2_lt this).mpr h2
  omega
theorem small {i : Int} (h1 : -10000000000000000000000000000000000000000 < i) (h2 : i < 10000000000000000000000000000000000000000) : i.natAbs < 2 ^ 1000 := by
  have h : i.natAbs < 10000000000000000000000000000000000000000 := by omega
  have h2 : 10000000000000000000000000000000000000000 < 2 ^ 200 := by decide
  have : (2:Nat) ^ 200 ≤ 2 ^ 1000 := Nat.pow_le_pow_right (by omega) (by omega)
  omega
/-- an index that is there -/
theorem at_i {α : Type} {l : List α} {n : Nat} (h : n < l.length) : atI l (n : Int) = some l[n] := by
  unfold atI
  unfold ixN
  rw [if_pos (by omega), if_pos (by omega)]
  simp [h]
theorem at_z {α : Type} {l : List α} {i : Int} (h0 : 0 ≤ i) (h : i < l.length) : ∃ (h' : i.toNat < l.length), atI l i = some l[i.toNat] := by
  have h' : i.toNat < l.length := by omega
  refine ⟨h', ?_⟩
  have := at_i h'
  rwa [Int.toNat_of_nonneg h0] at this
end
end VL

set_option maxRecDepth 100000
set_option maxHeartbeats 2000000
namespace VL
open PySem PySem.Spec L2
open PyProof.Rows hiding St
/-! ### equality of data -/
/-- the data of these values: flat, of texts that are texts -/
def okD : PyData → Bool
  | .none => true
  | .bool _ => true
  | .int _ => true
  | .str x => PyData.strOk x
  | _ => false
theorem flat_lay : ∀ {ds : List PyData}, (∀ d ∈ ds, okD d = true) → PyData.canLayAll0 ds = true ∧ PyData.depthAll ds = 0
  | [], _ => ⟨rfl, rfl⟩
  | d :: ds, h => by
    obtain ⟨h1, h2⟩ := flat_lay fun x hx => h x (List.mem_cons_of_mem _ hx)
    have hd := h d (List.mem_cons_self ..)
    unfold PyData.canLayAll0 PyData.depthAll
    rw [h1, h2]
    cases d <;> simp_all [okD, PyData.canLay0, PyData.depth]
theorem shaped_list {ds : List PyData} (h : ∀ d ∈ ds, okD d = true) : SeqAt.shaped (.list ds) = true := by
  obtain ⟨h1, h2⟩ := flat_lay h
  unfold SeqAt.shaped
  simp only [PyData.canLay0, PyData.depth, h1, h2]
  decide
theorem shaped_tup {ds : List PyData} (h : ∀ d ∈ ds, okD d = true) : SeqAt.shaped (.tuple ds) = true := by
  obtain ⟨h1, h2⟩ := flat_lay h
  unfold SeqAt.shaped
  simp only [PyData.canLay0, PyData.depth, h1, h2]
  decide
theorem eqP_same {p : PV} {d : PyData} (h : toD p = some d) (hs : SeqAt.shaped d = true) : eqP p p = some true := by
  unfold eqP
  rw [h]
  dsimp only
  rw [if_pos ⟨hs, hs⟩, SeqAt.eqv_refl d (SeqAt.canLay_of_shaped hs)]
theorem ne_same {p : PV} {d : PyData} (h : toD p = some d) (hs : SeqAt.shaped d = true) : semNe p p = some (.fz (.bl false)) := by
  unfold semNe
  rw [eqP_same h hs]; rfl
theorem eq_same {p : PV} {d : PyData} (h : toD p = some d) (hs : SeqAt.shaped d = true) : semEq p p = some (.fz (.bl true)) := by
  unfold semEq
  rw [eqP_same h hs]; rfl
theorem toDs_map {α : Type} {f : α → PV} {g : α → PyData} : ∀ {xs : List α}, (∀ x ∈ xs, toD (f x) = some (g x)) → toDs (xs.map f) = some (xs.map g)
  | [], _ => rfl
  | x :: xs, h => by
    simp only [List.map_cons, toDs, h x (List.mem_cons_self ..), toDs_map (fun y hy => h y (List.mem_cons_of_mem _ hy))]
theorem toDs_ints (ns : List Int) : toDs (ns.map PV.int) = some (ns.map PyData.int) := toDs_map fun _ _ => rfl
theorem toDs_strs (ns : List Str) : toDs (ns.map PV.str) = some (ns.map PyData.str) := toDs_map fun _ _ => rfl
theorem eqP_nil {xs : List PV} {ds : List PyData} (h : toDs xs = some ds) (hs : ∀ d ∈ ds, okD d = true) : eqP (.lst xs) (.lst []) = some xs.isEmpty := by
  unfold eqP
  simp only [toD, h, Option.map_some, toDs]
  rw [if_pos ⟨shaped_list hs, by rfl⟩]
  cases xs with
  | nil => cases h; rfl
  | cons x xs =>
    cases ds with
    | nil =>
      unfold toDs at h
      split at h <;> cases h
    | cons d ds => rfl
theorem eq_ints_nil (ns : List Int) : semEq (.lst (ns.map PV.int)) (.lst []) = some (.fz (.bl ns.isEmpty)) := by
  unfold semEq
  rw [eqP_nil (toDs_ints ns) fun d hd => by obtain ⟨n, _, rfl⟩ := List.mem_map.mp hd; rfl]
  cases ns <;> rfl
theorem eq_nil_nil : semEq (.lst []) (.lst []) = some (.fz (.bl true)) := eq_ints_nil []
theorem ne_strs_nil {ns : List Str} (h : ∀ x ∈ ns, PyData.strOk x = true) : semNe (.lst (ns.map PV.str)) (.lst []) = some (.fz (.bl (!ns.isEmpty))) := by
  unfold semNe
  rw [eqP_nil (toDs_strs ns) fun d hd => by obtain ⟨n, hn, rfl⟩ := List.mem_map.mp hd; exact h n hn]
  cases ns <;> rfl
theorem ne_nil_nil : semNe (.lst []) (.lst []) = some (.fz (.bl false)) := ne_strs_nil (ns := []) (fun _ h => by cases h)
end VL

set_option maxRecDepth 100000
set_option maxHeartbeats 2000000
namespace VL
open PySem PySem.Spec L2
open PyProof.Rows hiding St
open TL (tl ext_tl tl_append len_tl tl_join join_eq joinL)
/-! ### texts of bits -/
abbrev Wd := List Bool
def bc (b : Bool) : Nat := if b = true then 49 else 48
def bs (w : Wd) : Str := ⟨(w.map bc).toArray⟩
abbrev sB (w : Wd) : PV := .str (bs w)
theorem tl_bs (w : Wd) : tl (bs w) = w.map bc := by simp [tl, bs]
theorem bs_e : (Str.ofString "") = bs [] := by decide +kernel
theorem bs_0 : (Str.ofString "0") = bs [false] := by decide +kernel
theorem bs_1 : (Str.ofString "1") = bs [true] := by decide +kernel
theorem bs_01 : (Str.ofString "01") = bs [false, true] := by decide +kernel
theorem bs_app (a b : Wd) : bs a ++ bs b = bs (a ++ b) := ext_tl (by rw [tl_append, tl_bs, tl_bs, tl_bs, List.map_append])
theorem bs_len (w : Wd) : (bs w).length = w.length := by rw [len_tl, tl_bs, List.length_map]
theorem bs_sz (w : Wd) : (bs w).cps.size = w.length := bs_len w
theorem bc_inj : ∀ a b : Bool, bc a = bc b → a = b := by decide
theorem bs_inj {a b : Wd} (h : bs a = bs b) : a = b := by
  have := congrArg tl h
  rw [tl_bs, tl_bs] at this
  exact (List.map_inj_right (fun x y => bc_inj x y)).mp this
theorem bs_iff {a b : Wd} : bs a = bs b ↔ a = b := ⟨bs_inj, fun h => by rw [h]⟩
theorem bs_ok (w : Wd) : PyData.strOk (bs w) = true := by
  unfold PyData.strOk bs
  simp only [List.all_toArray, List.all_map, List.all_eq_true]
  intro b _
  cases b <;> decide
theorem bs_chars (w : Wd) : chars (bs w) = w.map fun b => sB [b] := by
  unfold chars
  show ((tl (bs w)).map fun c => PV.str ⟨#[c]⟩) = _
  rw [tl_bs, List.map_map]
  rfl
theorem bs_cons (b : Bool) (w : Wd) : bs (b :: w) = bs [b] ++ bs w := by rw [bs_app]; rfl
theorem bs_join (ws : List Wd) : Txt.join (bs []) (ws.map bs) = bs ws.flatten := by
  rw [join_eq]
  refine ext_tl ?_
  rw [tl_join, tl_bs, tl_bs]
  have : ∀ ls : List Wd, joinL [] ((ls.map bs).map tl) = ls.flatten.map bc := fun ls => by
    induction ls with
    | nil => rfl
    | cons a r ih =>
      cases r with
      | nil => simp only [List.map_cons, List.map_nil, joinL, tl_bs, List.flatten_cons, List.flatten_nil, List.append_nil]
      | cons b r =>
        simp only [List.map_cons, joinL, tl_bs, List.flatten_cons, List.map_append, List.nil_append] at ih ⊢
        rw [ih]
  exact this ws
theorem joinOk_bs {ws : List Wd} (h : ws.flatten.length ≤ 16777216) : joinOk (bs []) (ws.map bs) = true := by
  unfold joinOk
  rw [decide_eq_true_eq, bs_len]
  have : ((ws.map bs).map (·.length)).sum = ws.flatten.length := by
    rw [List.map_map, List.length_flatten]
    congr 1
    exact List.map_congr_left fun w _ => bs_len w
  rw [this]
  simpa using h
theorem bs_starts (a b : Wd) : Txt.startswith (bs a) (bs b) = b.isPrefixOf a := by
  unfold Txt.startswith
  rw [StrLaws.subAt_eq, bs_len, bs_len]
  show (decide (0 + b.length ≤ a.length) && ((((tl (bs a)).drop 0).take b.length) == tl (bs b))) = _
  rw [tl_bs, tl_bs, List.drop_zero, Bool.eq_iff_iff, Bool.and_eq_true, decide_eq_true_eq, beq_iff_eq, List.isPrefixOf_iff_prefix, List.prefix_iff_eq_take, ← List.map_take]
  constructor
  · intro ⟨_, h⟩
    exact ((List.map_inj_right (fun x y => bc_inj x y)).mp h).symm
  · intro h
    rw [← h]
    refine ⟨?_, rfl⟩
    have := congrArg List.length h
    rw [List.length_take] at this
    omega
theorem bs_slice (w : Wd) (k : Nat) : Txt.slice (bs w) none (some (k : Int)) = bs (w.take k) := by
  have h := SX.slice_to (a := w.map bc) (i := (k : Int)) (by omega)
  rw [Int.toNat_natCast, ← List.map_take] at h
  exact h
/-! ### texts in lists, dicts -/
abbrev lB (ws : List Wd) : PV := .lst (ws.map sB)
abbrev tW (ws : List Wd) : PV := .tup (ws.map sB)
theorem flats_bs (ws : List Wd) : flats (ws.map sB) = some (ws.map fun w => V.str (bs w)) := by
  induction ws with
  | nil => rfl
  | cons w ws ih => simp only [List.map_cons, flats, flatP, ih]
theorem inV_bs (x : Wd) (ws : List Wd) : inV (.str (bs x)) (ws.map fun w => V.str (bs w)) = decide (x ∈ ws) := by
  unfold inV
  rw [List.any_map, Bool.eq_iff_iff, List.any_eq_true, decide_eq_true_eq]
  constructor
  · intro ⟨w, hw, h⟩
    have h : (bs w == bs x) = true := h
    rw [beq_iff_eq, bs_iff] at h
    exact h ▸ hw
  · intro h
    refine ⟨x, h, ?_⟩
    show (bs x == bs x) = true
    exact beq_self_eq_true _
theorem in_lB (x : Wd) (ws : List Wd) : semIn (sB x) (lB ws) = some (.fz (.bl (decide (x ∈ ws)))) := by
  unfold semIn inP
  simp only [flatP, flats_bs, inV_bs, Option.map_some]
theorem in_tB (x : Wd) (ws : List Wd) : semIn (sB x) (tW ws) = some (.fz (.bl (decide (x ∈ ws)))) := by
  unfold semIn inP
  simp only [flatP, flats_bs, inV_bs, Option.map_some]
theorem notIn_lB (x : Wd) (ws : List Wd) : semNotIn (sB x) (lB ws) = some (.fz (.bl (!decide (x ∈ ws)))) := by
  unfold semNotIn inP
  simp only [flatP, flats_bs, inV_bs, Option.map_some]
theorem notIn_tB (x : Wd) (ws : List Wd) : semNotIn (sB x) (tW ws) = some (.fz (.bl (!decide (x ∈ ws)))) := by
  unfold semNotIn inP
  simp only [flatP, flats_bs, inV_bs, Option.map_some]
theorem notIn_01 (b : Bool) : semNotIn (sB [b]) (.str (bs [false, true])) = some (.fz (.bl false)) := by cases b <;> rfl
theorem strs_bs (ws : List Wd) : strsP (ws.map sB) = some (ws.map bs) := by
  induction ws with
  | nil => rfl
  | cons w ws ih => simp only [List.map_cons, strsP, ih, Option.map_some]
theorem idxOf_bs (x : Wd) (ws : List Wd) : (ws.map bs).idxOf? (bs x) = ws.idxOf? x := by
  unfold List.idxOf?
  rw [List.findIdx?_map]
  congr 1
  funext w
  show (bs w == bs x) = (w == x)
  rw [Bool.eq_iff_iff, beq_iff_eq, beq_iff_eq, bs_iff]
theorem index_lB {x : Wd} {ws : List Wd} {j : Nat} (h : ws.idxOf? x = some j) : semIndex (lB ws) [sB x] = some (.fz (.int (j : Nat))) := by
  unfold semIndex
  simp only [strs_bs, Option.bind_some, idxOf_bs, h, Option.map_some]
theorem join_lB {ws : List Wd} (h : ws.flatten.length ≤ 16777216) : semJoin (sB []) [lB ws] = some (.fz (sB ws.flatten)) := by
  unfold semJoin
  simp only [strs_bs, Option.bind_some, joinOk_bs h, if_true, bs_join]
theorem starts_bs (a b : Wd) : semStarts (sB a) [sB b] = some (.fz (.bl (b.isPrefixOf a))) := by
  show some (Val.fz (PV.bl (Txt.startswith (bs a) (bs b)))) = _
  rw [bs_starts]
theorem look_bs (x : Wd) : ∀ (ws : List Wd) (vs : List PV), vs.length = ws.length → look (ws.map fun w => (Sum.inr (bs w) : Key)) vs (.inr (bs x)) = (ws.idxOf? x).bind fun j => vs[j]?
  | [], vs, h => by
    have : vs = [] := List.eq_nil_of_length_eq_zero h
    subst this; rfl
  | w :: ws, [], h => by simp at h
  | w :: ws, v :: vs, h => by
    simp only [List.map_cons, look]
    by_cases e : w = x
    · subst e
      simp [List.idxOf?_cons]
    · have e' : ¬ (Sum.inr (bs w) : Key) = Sum.inr (bs x) := fun z => e (bs_inj (Sum.inr.inj z))
      rw [if_neg e', look_bs x ws vs (by simpa using h), List.idxOf?_cons]
      have : (w == x) = false := by simpa using e
      rw [this]
      cases ws.idxOf? x <;> simp
theorem eq_bs (a b : Wd) : semEq (sB a) (sB b) = some (.fz (.bl (decide (a = b)))) := by
  unfold semEq eqP
  have h : ∀ w, SeqAt.shaped (.str (bs w)) = true := fun w => by
    unfold SeqAt.shaped
    simp only [PyData.canLay0, bs_ok, PyData.depth]
    rfl
  simp only [toD, h, and_self, if_true, Option.map_some]
  congr 3
  show (bs a == bs b) = _
  rw [Bool.eq_iff_iff, beq_iff_eq, decide_eq_true_eq, bs_iff]
theorem toDs_bs (ws : List Wd) : toDs (ws.map sB) = some (ws.map fun w => PyData.str (bs w)) := toDs_map fun _ _ => rfl
theorem ne_lB_nil (ws : List Wd) : semNe (lB ws) (.lst []) = some (.fz (.bl (!ws.isEmpty))) := by
  have := ne_strs_nil (ns := ws.map bs) fun x hx => by obtain ⟨w, _, rfl⟩ := List.mem_map.mp hx; exact bs_ok w
  rw [List.map_map] at this
  rw [show lB ws = .lst (ws.map (PV.str ∘ bs)) from rfl, this]
  cases ws <;> rfl
/-! ### loops -/
theorem forL_inv {u : UG} {db : Env' → Res Fl} {ps : List PV} (I : Nat → Env' → Prop) (step : ∀ (i : Nat) (p : PV) (e : Env'), ps[i]? = some p → I i e → ∃ e1 e2, u p e = some e1 ∧ db e1 = .ok .nx e2 ∧ I (i + 1) e2) {e : Env'} (h0 : I 0 e) :
    ∃ e', forL u db ps e = .ok .nx e' ∧ I ps.length e' := by
  have key : ∀ (qs : List PV) (i : Nat) (e : Env'), i + qs.length = ps.length → ps.drop i = qs → I i e → ∃ e', forL u db qs e = .ok .nx e' ∧ I ps.length e' := by
    intro qs
    induction qs with
    | nil =>
      intro i e hl hd hI
      have : i = ps.length := by simpa using hl
      subst this
      exact ⟨e, rfl, hI⟩
    | cons q qs ih =>
      intro i e hl hd hI
      have hq : ps[i]? = some q := by rw [← List.head?_drop, hd]; rfl
      obtain ⟨e1, e2, h1, h2, h3⟩ := step i q e hq hI
      have hd' : ps.drop (i + 1) = qs := by rw [← List.tail_drop, hd]; rfl
      obtain ⟨e', h4, h5⟩ := ih (i + 1) e2 (by simp at hl; omega) hd' h3
      refine ⟨e', ?_, h5⟩
      unfold forL
      rw [h1]
      simp only [h2]
      exact h4
  exact key ps 0 e (by simp) rfl h0
theorem lcL_inv {vs : List Nat} {u : UG} {dt : Option (Env' → Res Bool)} {de : Env' → Res Val} {ps : List PV} (I : Nat → List PV → Env' → Prop)
    (step : ∀ (i : Nat) (p : PV) (acc : List PV) (e : Env'), ps[i]? = some p → I i acc e → freeS vs e = true ∧ ∃ e1, u p (blkE vs e) = some e1 ∧
      ((∃ e2, dtO dt e1 = .ok false e2 ∧ I (i + 1) acc (outE vs e e2)) ∨ ∃ e2 x e3 q e4, dtO dt e1 = .ok true e2 ∧ de e2 = .ok x e3 ∧ frz x e3 = .ok q e4 ∧ acc.length < big ∧ I (i + 1) (acc ++ [q]) (outE vs e e4)))
    {acc : List PV} {e : Env'} (h0 : I 0 acc e) : ∃ acc' e', lcL vs u dt de ps acc e = .ok acc' e' ∧ I ps.length acc' e' := by
  have key : ∀ (qs : List PV) (i : Nat) (acc : List PV) (e : Env'), i + qs.length = ps.length → ps.drop i = qs → I i acc e → ∃ acc' e', lcL vs u dt de qs acc e = .ok acc' e' ∧ I ps.length acc' e' := by
    intro qs
    induction qs with
    | nil =>
      intro i acc e hl hd hI
      have : i = ps.length := by simpa using hl
      subst this
      exact ⟨acc, e, rfl, hI⟩
    | cons q qs ih =>
      intro i acc e hl hd hI
      have hq : ps[i]? = some q := by rw [← List.head?_drop, hd]; rfl
      obtain ⟨hf, e1, h1, h2⟩ := step i q acc e hq hI
      have hd' : ps.drop (i + 1) = qs := by rw [← List.tail_drop, hd]; rfl
      rcases h2 with ⟨e2, h2, h3⟩ | ⟨e2, x, e3, r, e4, h2, h3, h4, hb, h5⟩
      · obtain ⟨acc', e', h6, h7⟩ := ih (i + 1) _ _ (by simp at hl; omega) hd' h3
        refine ⟨acc', e', ?_, h7⟩
        unfold lcL
        rw [if_pos hf, h1]
        simp only [h2]
        exact h6
      · obtain ⟨acc', e', h6, h7⟩ := ih (i + 1) _ _ (by simp at hl; omega) hd' h5
        refine ⟨acc', e', ?_, h7⟩
        unfold lcL
        rw [if_pos hf, h1]
        simp only [h2, h3, h4, hb, if_true]
        exact h6
  exact key ps 0 acc e (by simp) rfl h0
theorem while_inv {dt : Env' → Res Bool} {db : Env' → Res Fl} (I : Nat → Env' → Prop) (Z : Env' → Prop)
    (step : ∀ (m : Nat) (e : Env'), I m e → (∃ e1, dt e = .ok false e1 ∧ Z e1) ∨ ∃ e1 e2 m', dt e = .ok true e1 ∧ db e1 = .ok .nx e2 ∧ m' < m ∧ I m' e2) :
    ∀ (n m : Nat) (e : Env'), m < n → I m e → ∃ e', dWhile dt db n e = .ok .nx e' ∧ Z e'
  | 0, m, e, h, _ => by omega
  | n + 1, m, e, h, hI => by
    rcases step m e hI with ⟨e1, h1, h2⟩ | ⟨e1, e2, m', h1, h2, h3, h4⟩
    · refine ⟨e1, ?_, h2⟩
      unfold dWhile
      rw [h1]
      rfl
    · obtain ⟨e', h5, h6⟩ := while_inv I Z step n m' e2 (by omega) h4
      refine ⟨e', ?_, h6⟩
      unfold dWhile
      rw [h1]
      show (db e1).bind _ = _
      rw [h2]
      exact h5
end VL

set_option maxRecDepth 100000
set_option maxHeartbeats 2000000
namespace VL
open PySem PySem.Spec L2
open PyProof.Rows hiding St
/-! ### within a comprehension -/
def outZ (vs : List Nat) : Nat → Env' → Env' → Env'
  | k, a :: e, b :: e2 => (if k ∈ vs then a else outS a b) :: outZ vs (k + 1) e e2
  | _, _, _ => []
theorem outZ_at (vs : List Nat) : ∀ (e e2 : Env') (k i : Nat), e2.length = e.length → (outZ vs k e e2)[i]? = if i < e.length then some (if k + i ∈ vs then e.getD i .no else outS (e.getD i .no) (e2.getD i .no)) else none
  | [], [], k, i, _ => by simp [outZ]
  | [], _ :: _, k, i, h => by simp at h
  | _ :: _, [], k, i, h => by simp at h
  | a :: e, b :: e2, k, 0, h => by simp [outZ]
  | a :: e, b :: e2, k, i + 1, h => by
    have := outZ_at vs e e2 (k + 1) i (by simpa using h)
    simp only [outZ, List.getElem?_cons_succ, this, List.length_cons, Nat.add_lt_add_iff_right, List.getD_cons_succ]
    rw [show k + 1 + i = k + (i + 1) by omega]
theorem outE_z {vs : List Nat} {e e2 : Env'} (h : e2.length = e.length) : outE vs e e2 = outZ vs 0 e e2 := by
  apply List.ext_getElem?
  intro i
  rw [outZ_at vs e e2 0 i h]
  unfold outE
  rw [List.getElem?_map, Nat.zero_add]
  by_cases hi : i < e.length
  · rw [List.getElem?_range hi, if_pos hi]; rfl
  · rw [List.getElem?_eq_none (by simpa using hi), if_neg hi]; rfl
theorem outZ_c {vs : List Nat} {k : Nat} {a b : Sl} {e e2 : Env'} : outZ vs k (a :: e) (b :: e2) = (if k ∈ vs then a else outS a b) :: outZ vs (k + 1) e e2 := id rfl
theorem outZ_n {vs : List Nat} {k : Nat} : outZ vs k [] [] = [] := id rfl
theorem outS_w {b c : Bool} {p q : PV} : outS (.ow b p) (.ow c q) = .ow b q := id rfl
theorem outS_f {s : Sl} {q : PV} : outS s (.fz q) = .fz q := by cases s <;> exact id rfl
theorem outS_o {s : Sl} : outS s .no = .no := by cases s <;> exact id rfl
theorem lend_w {b : Bool} {p : PV} : lendS (.ow b p) = .ow false p := id rfl
theorem lend_f {p : PV} : lendS (.fz p) = .fz p := id rfl
theorem lend_n : lendS .no = .no := id rfl
theorem blk_e {vs : List Nat} {e : Env'} : blkE vs e = wipeE (e.map lendS) vs := id rfl
theorem wipe_n {e : Env'} : wipeE e [] = e := id rfl
theorem wipe_c {e : Env'} {i : Nat} {is : List Nat} : wipeE e (i :: is) = wipeE (e.set i .no) is := id rfl
theorem free_e {vs : List Nat} {e : Env'} : freeS vs e = vs.all fun i => match e[i]? with
  | some (.ow _ _) => false
  | _ => true := id rfl
theorem dtO_n {e : Env'} : dtO none e = .ok true e := id rfl
theorem dtO_s {e : Env'} {dt : Env' → Res Bool} : dtO (some dt) e = dt e := id rfl
theorem entry_e {n : Nat} {md : Md} {args : List PV} : entry n md args = entryE md args ++ List.replicate (n - args.length) .no := id rfl
theorem entryE_t {ms : Md} {p : PV} {ps : List PV} : entryE (true :: ms) (p :: ps) = .ow false p :: entryE ms ps := id rfl
theorem entryE_f {ms : Md} {p : PV} {ps : List PV} : entryE (false :: ms) (p :: ps) = .fz p :: entryE ms ps := id rfl
theorem entryE_n : entryE [] [] = [] := id rfl
theorem repl_s {n : Nat} : List.replicate (n + 1) Sl.no = .no :: List.replicate n .no := id rfl
theorem repl_z : List.replicate 0 Sl.no = [] := id rfl
theorem outsAt_n {i : Nat} {e : Env'} : outsAt i [] e = some [] := id rfl
theorem outsAt_f {i : Nat} {ms : Md} {e : Env'} : outsAt i (false :: ms) e = outsAt (i + 1) ms e := id rfl
theorem outsAt_t {i : Nat} {ms : Md} {e : Env'} : outsAt i (true :: ms) e = match e[i]?, outsAt (i + 1) ms e with
    | some (.ow false q), some r => some (q :: r)
    | _, _ => none := id rfl
end VL

set_option maxRecDepth 100000
set_option maxHeartbeats 2000000
namespace VL
open PySem PySem.Spec L2
open PyProof.Rows hiding St
/-! ### dict comprehensions -/
theorem dcL_inv {vs : List Nat} {u : UG} {dk dv : Env' → Res Val} {ps : List PV} (I : Nat → List Key → List PV → Env' → Prop)
    (step : ∀ (i : Nat) (p : PV) (ks : List Key) (xs : List PV) (e : Env'), ps[i]? = some p → I i ks xs e → freeS vs e = true ∧ ∃ e1 kx e3 kp e4 k x e5 q e6, u p (blkE vs e) = some e1 ∧ dk e1 = .ok kx e3 ∧ frz kx e3 = .ok kp e4 ∧ keyP kp = some k ∧ dv e4 = .ok x e5 ∧ frz x e5 = .ok q e6 ∧ ks.length < big ∧ I (i + 1) (putP ks xs k q).1 (putP ks xs k q).2 (outE vs e e6))
    {ks : List Key} {xs : List PV} {e : Env'} (h0 : I 0 ks xs e) : ∃ ks' xs' e', dcL vs u none dk dv ps ks xs e = .ok (ks', xs') e' ∧ I ps.length ks' xs' e' := by
  have key : ∀ (qs : List PV) (i : Nat) (ks : List Key) (xs : List PV) (e : Env'), i + qs.length = ps.length → ps.drop i = qs → I i ks xs e → ∃ ks' xs' e', dcL vs u none dk dv qs ks xs e = .ok (ks', xs') e' ∧ I ps.length ks' xs' e' := by
    intro qs
    induction qs with
    | nil =>
      intro i ks xs e hl hd hI
      have : i = ps.length := by simpa using hl
      subst this
      exact ⟨ks, xs, e, rfl, hI⟩
    | cons q qs ih =>
      intro i ks xs e hl hd hI
      have hq : ps[i]? = some q := by rw [← List.head?_drop, hd]; rfl
      obtain ⟨hf, e1, kx, e3, kp, e4, k, x, e5, r, e6, h1, h2, h3, h4, h5, h6, h7, h8⟩ := step i q ks xs e hq hI
      have hd' : ps.drop (i + 1) = qs := by rw [← List.tail_drop, hd]; rfl
      obtain ⟨ks', xs', e', h9, h10⟩ := ih (i + 1) _ _ _ (by simp at hl; omega) hd' h8
      refine ⟨ks', xs', e', ?_, h10⟩
      unfold dcL
      rw [if_pos hf, h1]
      simp only [dtO_n, h2, h3, h4, h5, h6, h7, if_true]
      exact h9
  exact key ps 0 ks xs e (by simp) rfl h0
theorem dcIn_inv {vs vs1 : List Nat} {u1 : UG} {dk dv : Env' → Res Val} {ps : List PV} (I : Nat → List Key → List PV → Env' → Env' → Prop)
    (step : ∀ (i : Nat) (p : PV) (ks : List Key) (xs : List PV) (e b : Env'), ps[i]? = some p → I i ks xs e b → freeS vs1 b = true ∧ ∃ e1 kx e3 kp e4 k x e5 q e6, u1 p (wipeE b vs1) = some e1 ∧ dk e1 = .ok kx e3 ∧ frz kx e3 = .ok kp e4 ∧ keyP kp = some k ∧ dv e4 = .ok x e5 ∧ frz x e5 = .ok q e6 ∧ lentB e6 = true ∧ ks.length < big ∧
      I (i + 1) (putP ks xs k q).1 (putP ks xs k q).2 (outE vs e (outE vs1 b e6)) (outE vs1 b e6))
    {ks : List Key} {xs : List PV} {e b : Env'} (h0 : I 0 ks xs e b) : ∃ ks' xs' e' b', dcIn vs vs1 u1 none dk dv ps ks xs e b = some ((ks', xs'), e', b') ∧ I ps.length ks' xs' e' b' := by
  have key : ∀ (qs : List PV) (i : Nat) (ks : List Key) (xs : List PV) (e b : Env'), i + qs.length = ps.length → ps.drop i = qs → I i ks xs e b → ∃ ks' xs' e' b', dcIn vs vs1 u1 none dk dv qs ks xs e b = some ((ks', xs'), e', b') ∧ I ps.length ks' xs' e' b' := by
    intro qs
    induction qs with
    | nil =>
      intro i ks xs e b hl hd hI
      have : i = ps.length := by simpa using hl
      subst this
      exact ⟨ks, xs, e, b, rfl, hI⟩
    | cons q qs ih =>
      intro i ks xs e b hl hd hI
      have hq : ps[i]? = some q := by rw [← List.head?_drop, hd]; rfl
      obtain ⟨hf, e1, kx, e3, kp, e4, k, x, e5, r, e6, h1, h2, h3, h4, h5, h6, h7, h7b, h8⟩ := step i q ks xs e b hq hI
      have hd' : ps.drop (i + 1) = qs := by rw [← List.tail_drop, hd]; rfl
      obtain ⟨ks', xs', e', b', h9, h10⟩ := ih (i + 1) _ _ _ _ (by simp at hl; omega) hd' h8
      refine ⟨ks', xs', e', b', ?_, h10⟩
      unfold dcIn
      rw [if_pos hf, h1]
      simp only [dtO_n, h2, h3, h4, h5, h6, h7, h7b, and_self, if_true]
      exact h9
  exact key ps 0 ks xs e b (by simp) rfl h0
theorem dcOut_inv {vs vs1 : List Nat} {u u1 : UG} {di1 : Env' → Res (List PV)} {dk dv : Env' → Res Val} {ps : List PV} (I : Nat → List Key → List PV → Env' → Prop)
    (step : ∀ (i : Nat) (p : PV) (ks : List Key) (xs : List PV) (e : Env'), ps[i]? = some p → I i ks xs e → freeS vs e = true ∧ ∃ e1 ps1 e3 ks' xs' e' b', u p (blkE vs e) = some e1 ∧ di1 e1 = .ok ps1 e3 ∧ lentB e3 = true ∧ dcIn vs vs1 u1 none dk dv ps1 ks xs (outE vs e e3) e3 = some ((ks', xs'), e', b') ∧ I (i + 1) ks' xs' e')
    {ks : List Key} {xs : List PV} {e : Env'} (h0 : I 0 ks xs e) : ∃ ks' xs' e', dcOut vs vs1 u none di1 u1 none dk dv ps ks xs e = .ok (ks', xs') e' ∧ I ps.length ks' xs' e' := by
  have key : ∀ (qs : List PV) (i : Nat) (ks : List Key) (xs : List PV) (e : Env'), i + qs.length = ps.length → ps.drop i = qs → I i ks xs e → ∃ ks' xs' e', dcOut vs vs1 u none di1 u1 none dk dv qs ks xs e = .ok (ks', xs') e' ∧ I ps.length ks' xs' e' := by
    intro qs
    induction qs with
    | nil =>
      intro i ks xs e hl hd hI
      have : i = ps.length := by simpa using hl
      subst this
      exact ⟨ks, xs, e, rfl, hI⟩
    | cons q qs ih =>
      intro i ks xs e hl hd hI
      have hq : ps[i]? = some q := by rw [← List.head?_drop, hd]; rfl
      obtain ⟨hf, e1, ps1, e3, ks1, xs1, e4, b4, h1, h2, h3, h4, h8⟩ := step i q ks xs e hq hI
      have hd' : ps.drop (i + 1) = qs := by rw [← List.tail_drop, hd]; rfl
      obtain ⟨ks', xs', e', h9, h10⟩ := ih (i + 1) _ _ _ (by simp at hl; omega) hd' h8
      refine ⟨ks', xs', e', ?_, h10⟩
      unfold dcOut
      rw [if_pos hf, h1]
      simp only [dtO_n, h2, h3, h4, if_true]
      exact h9
  exact key ps 0 ks xs e (by simp) rfl h0
theorem dc2_e {vs vs1 : List Nat} {di di1 : Env' → Res (List PV)} {u u1 : UG} {dk dv : Env' → Res Val} {e : Env'} : dDc2 vs vs1 di u none di1 u1 none dk dv e = (di e).bh fun ps e1 => (dcOut vs vs1 u none di1 u1 none dk dv ps [] [] e1).bh fun qs e2 => .ok (.new (.dK qs.1 qs.2)) e2 := id rfl
/-! ### dicts of texts -/
abbrev kB (w : Wd) : Key := .inr (bs w)
theorem kB_mem {x : Wd} {ns : List Wd} : kB x ∈ ns.map kB ↔ x ∈ ns := by
  constructor
  · intro h
    obtain ⟨w, hw, e⟩ := List.mem_map.mp h
    have := bs_inj (Sum.inr.inj e)
    subst this; exact hw
  · exact fun h => List.mem_map_of_mem h
theorem zip_true (k : Key) : ∀ ns : List Wd, List.zipWith (fun j x => if j = k then PV.bl true else x) (ns.map kB) (ns.map fun _ => PV.bl true) = ns.map fun _ => PV.bl true
  | [] => rfl
  | n :: ns => by
    simp only [List.map_cons, List.zipWith_cons_cons, zip_true k ns]
    split <;> rfl
/-- a node is put in -/
def addW (ns : List Wd) (x : Wd) : List Wd := if x ∈ ns then ns else ns ++ [x]
theorem putP_true (ns : List Wd) (x : Wd) : putP (ns.map kB) (ns.map fun _ => PV.bl true) (kB x) (.bl true) = ((addW ns x).map kB, (addW ns x).map fun _ => PV.bl true) := by
  unfold putP addW
  by_cases h : x ∈ ns
  · rw [if_pos (kB_mem.mpr h), if_pos h, zip_true]
  · rw [if_neg (fun z => h (kB_mem.mp z)), if_neg h]
    simp
theorem addW_mem {ns : List Wd} {x y : Wd} : y ∈ addW ns x ↔ y ∈ ns ∨ y = x := by
  unfold addW
  split
  · constructor
    · exact .inl
    · rintro (h | rfl) <;> assumption
  · simp
theorem addW_len (ns : List Wd) (x : Wd) : (addW ns x).length ≤ ns.length + 1 := by
  unfold addW
  split
  · omega
  · simp
theorem putP_new {ns : List Wd} {vs : List PV} {x : Wd} {v : PV} (h : x ∉ ns) : putP (ns.map kB) vs (kB x) v = ((ns ++ [x]).map kB, vs ++ [v]) := by
  unfold putP
  rw [if_neg (fun z => h (kB_mem.mp z))]
  simp
end VL

set_option maxRecDepth 100000
set_option maxHeartbeats 2000000
namespace VL
/-! ### full codes of words -/
def Apart (a b : Wd) : Prop := ¬ a <+: b ∧ ¬ b <+: a
theorem Apart.symm {a b : Wd} (h : Apart a b) : Apart b a := ⟨h.2, h.1⟩
structure Good (ws : List Wd) : Prop where
  pre : ws.Pairwise Apart
  ne : ∀ w ∈ ws, w ≠ []
  len : ∀ w ∈ ws, w.length + 1 ≤ ws.length
  kraft : (ws.map fun w => 2 ^ (25 - w.length)).sum = 33554432
theorem Good.start : Good [[false], [true]] := by
  refine ⟨?_, ?_, ?_, by decide⟩
  · refine List.Pairwise.cons (fun b hb => ?_) (List.pairwise_singleton ..)
    have : b = [true] := by simpa using hb
    subst this
    exact ⟨by decide, by decide⟩
  · intro w hw; rintro rfl; simp at hw
  · intro w hw
    simp at hw
    rcases hw with rfl | rfl <;> decide
theorem Good.perm {ws ws' : List Wd} (p : ws'.Perm ws) (h : Good ws) : Good ws' where
  pre := (p.pairwise_iff (R := Apart) Apart.symm).mpr h.pre
  ne := fun w hw => h.ne w (p.mem_iff.mp hw)
  len := fun w hw => by rw [p.length_eq]; exact h.len w (p.mem_iff.mp hw)
  kraft := by rw [← h.kraft]; exact (p.map _).sum_nat
theorem Good.split1 {w : Wd} {r : List Wd} (h : Good (w :: r)) (hl : r.length ≤ 24) : Good ((w ++ [false]) :: (w ++ [true]) :: r) := by
  have hp := List.pairwise_cons.mp h.pre
  have ap : ∀ (b : Bool) (x : Wd), Apart w x → Apart (w ++ [b]) x := fun b x hx => by
    refine ⟨fun z => hx.1 ((List.prefix_append w [b]).trans z), fun z => ?_⟩
    rcases List.prefix_concat_iff.mp z with e | e
    · exact hx.1 (e ▸ List.prefix_append w [b])
    · exact hx.2 e
  have hw := h.len w (List.mem_cons_self ..)
  simp only [List.length_cons] at hw
  refine ⟨?_, ?_, ?_, ?_⟩
  · refine List.Pairwise.cons (fun x hx => ?_) (List.Pairwise.cons (fun x hx => ap _ _ (hp.1 x hx)) hp.2)
    rcases List.mem_cons.mp hx with rfl | hx
    · refine ⟨fun z => ?_, fun z => ?_⟩
      · have := (List.prefix_append_right_inj w).mp z
        exact absurd this (by decide)
      · have := (List.prefix_append_right_inj w).mp z
        exact absurd this (by decide)
    · exact ap _ _ (hp.1 x hx)
  · intro x hx
    rcases List.mem_cons.mp hx with rfl | hx
    · simp
    · rcases List.mem_cons.mp hx with rfl | hx
      · simp
      · exact h.ne x (List.mem_cons_of_mem _ hx)
  · intro x hx
    rcases List.mem_cons.mp hx with rfl | hx
    · simp; omega
    · rcases List.mem_cons.mp hx with rfl | hx
      · simp; omega
      · have := h.len x (List.mem_cons_of_mem _ hx)
        simp at this ⊢
        omega
  · have := h.kraft
    simp only [List.map_cons, List.sum_cons, List.length_append, List.length_cons, List.length_nil] at this ⊢
    have e : 2 ^ (25 - w.length) = 2 ^ (25 - (w.length + (0 + 1))) + 2 ^ (25 - (w.length + (0 + 1))) := by
      have : 25 - w.length = (25 - (w.length + (0 + 1))) + 1 := by omega
      rw [this, Nat.pow_succ]; omega
    omega
theorem erase_perm {α : Type} : ∀ (l : List α) (i : Nat) (h : i < l.length), (l[i] :: l.eraseIdx i).Perm l
  | a :: l, 0, _ => by simp
  | a :: l, i + 1, h => by
    have := erase_perm l i (by simpa using h)
    simp only [List.getElem_cons_succ, List.eraseIdx_cons_succ]
    exact (List.Perm.swap a _ _).trans (this.cons a)
theorem map_erase {α β : Type} (f : α → β) : ∀ (l : List α) (i : Nat), (l.map f).eraseIdx i = (l.eraseIdx i).map f
  | [], _ => rfl
  | _ :: _, 0 => rfl
  | a :: l, i + 1 => by simp only [List.map_cons, List.eraseIdx_cons_succ, map_erase f l i]
theorem Good.split {ws : List Wd} (h : Good ws) {i : Nat} (hi : i < ws.length) (hl : ws.length ≤ 25) : Good (ws.eraseIdx i ++ [ws[i] ++ [false], ws[i] ++ [true]]) := by
  have g := (h.perm (erase_perm ws i hi)).split1 (by rw [List.length_eraseIdx]; simp [hi]; omega)
  exact g.perm List.perm_append_comm
theorem Good.nodup {ws : List Wd} (h : Good ws) : ws.Nodup := by
  refine List.Pairwise.imp ?_ h.pre
  rintro a b q rfl
  exact q.1 List.prefix_rfl
theorem idx_some {x : Wd} : ∀ {ws : List Wd}, x ∈ ws → ws.idxOf? x = some (ws.idxOf x)
  | [], h => by cases h
  | w :: ws, h => by
    rw [List.idxOf?_cons, List.idxOf_cons]
    cases e : (w == x) with
    | true => rfl
    | false =>
      have hx : x ∈ ws := by
        rcases List.mem_cons.mp h with rfl | h
        · simp at e
        · exact h
      rw [idx_some hx]; rfl
theorem wd_at {ws : List Wd} {s : Nat} (h : s < ws.length) : ws.getD s [] = ws[s] := by simp [List.getD, h]
/-- a word that begins a word is it -/
theorem Good.eq_of {ws : List Wd} (h : Good ws) {a b : Wd} (ha : a ∈ ws) (hb : b ∈ ws) (p : a <+: b) : a = b := by
  obtain ⟨i, hi, rfl⟩ := List.getElem_of_mem ha
  obtain ⟨j, hj, rfl⟩ := List.getElem_of_mem hb
  have q := List.pairwise_iff_getElem.mp h.pre
  rcases Nat.lt_trichotomy i j with e | e | e
  · exact absurd p (q i j hi hj e).1
  · subst e; rfl
  · exact absurd p (q j i hj hi e).2
/-! ### reading -/
/-- one bit: the node, the sign read -/
def mv (ws : List Wd) (nd : Wd) (b : Bool) : Wd × Option Nat := if nd ++ [b] ∈ ws then ([], ws.idxOf? (nd ++ [b])) else (nd ++ [b], none)
/-- all bits, from the k-th on: signs, ends, the node -/
def rdg (ws : List Wd) : Wd → Nat → List Bool → List Nat × List Nat × Wd
  | nd, _, [] => ([], [], nd)
  | nd, k, b :: r => match ws.idxOf? (nd ++ [b]) with
    | some j => let q := rdg ws [] (k + 1) r; (j :: q.1, (k + 1) :: q.2.1, q.2.2)
    | none => rdg ws (nd ++ [b]) (k + 1) r
theorem rdg_app (ws : List Wd) : ∀ (a b : List Bool) (nd : Wd) (k : Nat), rdg ws nd k (a ++ b) = (let q := rdg ws nd k a; let r := rdg ws q.2.2 (k + a.length) b; (q.1 ++ r.1, q.2.1 ++ r.2.1, r.2.2))
  | [], b, nd, k => by simp [rdg]
  | x :: a, b, nd, k => by
    simp only [List.cons_append, rdg]
    cases ws.idxOf? (nd ++ [x]) with
    | none =>
      simp only [rdg_app ws a b, List.length_cons]
      rw [show k + 1 + a.length = k + (a.length + 1) by omega]
    | some j =>
      simp only [rdg_app ws a b, List.length_cons, List.cons_append]
      rw [show k + 1 + a.length = k + (a.length + 1) by omega]
theorem idx_none {ws : List Wd} {x : Wd} (h : x ∉ ws) : ws.idxOf? x = none := by
  rw [List.idxOf?_eq_none_iff]; exact h
/-- a word's rest is read to its end -/
theorem Good.rest {ws : List Wd} (g : Good ws) {w : Wd} (hw : w ∈ ws) : ∀ (b a : Wd) (k : Nat), a ++ b = w → b ≠ [] → rdg ws a k b = ([ws.idxOf w], [k + b.length], [])
  | [], _, _, _, h => absurd rfl h
  | x :: b, a, k, e, _ => by
    unfold rdg
    by_cases hb : b = []
    · subst hb
      have : ws.idxOf? (a ++ [x]) = some (ws.idxOf w) := by
        rw [e]
        exact idx_some hw
      rw [this]
      simp [rdg]
    · have hn : a ++ [x] ∉ ws := fun hm => by
        have p : a ++ [x] <+: w := by rw [← e]; exact ⟨b, by simp⟩
        have := g.eq_of hm hw p
        rw [← e] at this
        have := congrArg List.length this
        simp at this
        exact hb this
      rw [idx_none hn]
      have ih := Good.rest g hw b (a ++ [x]) (k + 1) (by rw [← e]; simp) hb
      simp only [ih, List.length_cons]
      rw [show k + 1 + b.length = k + (b.length + 1) by omega]
/-- the words of signs are read back -/
theorem Good.back {ws : List Wd} (g : Good ws) : ∀ (ss : List Nat) (k : Nat) (h : ∀ s ∈ ss, s < ws.length), ∃ ends, rdg ws [] k (ss.map fun s => ws.getD s []).flatten = (ss, ends, [])
  | [], k, _ => ⟨[], rfl⟩
  | s :: ss, k, h => by
    have hs := h s (List.mem_cons_self ..)
    have hw : ws.getD s [] ∈ ws := by rw [wd_at hs]; exact List.getElem_mem ..
    obtain ⟨ends, ih⟩ := Good.back g ss (k + (ws.getD s []).length) fun t ht => h t (List.mem_cons_of_mem _ ht)
    have r := g.rest hw (ws.getD s []) [] k (by simp) (g.ne _ hw)
    have hi : ws.idxOf (ws.getD s []) = s := by
      rw [wd_at hs]
      exact g.nodup.idxOf_getElem s hs
    refine ⟨(k + (ws.getD s []).length) :: ends, ?_⟩
    rw [List.map_cons, List.flatten_cons, rdg_app, r]
    simp only [ih, hi, List.singleton_append]
end VL

set_option maxRecDepth 100000
set_option maxHeartbeats 4000000
namespace VL
open PySem PySem.Spec L2
open PyProof.Rows hiding St
/-! ### what errors give, applied -/
section
variable {α β : Type} {e e' : Env'} {d : Env' → Res Val} {x : Exc'}
theorem bind_x {f : α → Env' → Res β} : (Res.err x e : Res α).bind f = .err x e := id rfl
theorem bh_x {f : α → Env' → Res β} {w : Wit f} : (Res.err x e : Res α).bh f w = .err x e := id rfl
theorem raise_e {c n : Nat} {ds : List (Env' → Res Val)} : dRaise c n ds e = (dArgs ds e).bh fun xs e1 => (frzs xs e1).bh fun ps e2 => if ps.length = n then .err ⟨c, ps⟩ e2 else .bad := id rfl
def fxK (is : List Nat) (e : Env') (r : FX) : Res Val := match r with
  | .ok (.fz p) outs => (match putOuts is outs e with
    | some e3 => .ok (.fz p) e3
    | none => .bad)
  | .ok (.new p) outs => (match putOuts is outs e with
    | some e3 => .ok (.new p) e3
    | none => .bad)
  | .err x => .err x (noS is e)
  | _ => .bad
theorem callKX_e {md : Md} {fn : List PV → FX} {xs : List Val} : callKX md fn xs e = (prep md xs e).bh fun ps e2 => if (lentI md xs).Nodup then fxK (lentI md xs) e2 (fn ps) else .bad := id rfl
theorem fnX_e {md : Md} {fn : List PV → FX} {dps : List PV} {ds : List (Env' → Res Val)} : dFnX md fn dps ds e = (dArgs ds e).bh fun xs e1 => callKX md fn (xs ++ dps.map Val.fz) e1 := id rfl
theorem fxK_f {is : List Nat} {p : PV} {outs : List PV} : fxK is e (.ok (.fz p) outs) = match putOuts is outs e with
    | some e3 => .ok (.fz p) e3
    | none => .bad := id rfl
theorem fxK_n {is : List Nat} {p : PV} {outs : List PV} : fxK is e (.ok (.new p) outs) = match putOuts is outs e with
    | some e3 => .ok (.new p) e3
    | none => .bad := id rfl
theorem fxK_x {is : List Nat} : fxK is e (.err x) = .err x (noS is e) := id rfl
theorem noS_n : noS [] e = e := by
  unfold noS
  rw [List.mapIdx_eq_iff]
  intro i
  cases e[i]? <;> simp
def mxK (is : List Nat) (e : Env') (r : FX) : Res Val := match r with
  | .ok (.fz .non) (q :: outs) => (match putOuts is outs e with
    | some e3 => .ok (.new q) e3
    | none => .bad)
  | .err x => .err x (noS is e)
  | _ => .bad
theorem mkKX_e {c : Nat} {md : Md} {fn : List PV → FX} {xs : List Val} : mkKX c md fn xs e = (prep md xs e).bh fun ps e2 => if (lentI md xs).Nodup then mxK (lentI md xs) e2 (fn (.ins c [] :: ps)) else .bad := id rfl
theorem mkX_e {c : Nat} {md : Md} {fn : List PV → FX} {dps : List PV} {ds : List (Env' → Res Val)} : dMkX c md fn dps ds e = (dArgs ds e).bh fun xs e1 => mkKX c md fn (xs ++ dps.map Val.fz) e1 := id rfl
theorem mxK_k {is : List Nat} {q : PV} {outs : List PV} : mxK is e (.ok (.fz .non) (q :: outs)) = match putOuts is outs e with
    | some e3 => .ok (.new q) e3
    | none => .bad := id rfl
theorem mxK_x {is : List Nat} : mxK is e (.err x) = .err x (noS is e) := id rfl
def frX : FR → FX
  | .ok x o => .ok x o
  | .bad => .bad
def finX (md : Md) (r : Res Fl) : FX := match r with
  | .err x _ => .err x
  | r => frX (finF md r)
theorem callFnX_e {n : Nat} {md : Md} {d : Env' → Res Fl} {args : List PV} : callFnX n md d args = finX md (d (entry n md args)) := by
  unfold callFnX
  rw [callFn_e]
  cases d (entry n md args) with
  | bad => rfl
  | err y e => rfl
  | ok f e =>
    show (match finF md (.ok f e) with | .ok x o => FX.ok x o | .bad => .bad) = frX (finF md (.ok f e))
    cases finF md (.ok f e) <;> rfl
theorem finX_x {md : Md} : finX md (.err x e) = .err x := id rfl
theorem finX_k {md : Md} {f : Fl} : finX md (.ok f e) = frX (finF md (.ok f e)) := id rfl
theorem frX_k {v : Val} {o : List PV} : frX (.ok v o) = .ok v o := id rfl
def refK (L : Nat → List Nat) (cs : List ClD) : Res Val → Res Val
  | .ok _ e1 => .ok (.fz (.tup [])) e1
  | .err x e1 => metRun L cs x e1
  | .bad => .bad
theorem ref_e {L : Nat → List Nat} {cs : List ClD} : dRef L cs d e = refK L cs (d e) := by
  unfold dRef refK
  cases d e <;> rfl
theorem refK_k {L : Nat → List Nat} {cs : List ClD} {v : Val} : refK L cs (.ok v e) = .ok (.fz (.tup [])) e := id rfl
theorem refK_x {L : Nat → List Nat} {cs : List ClD} : refK L cs (.err x e) = metRun L cs x e := id rfl
end
/-! ### loops that may end at the first that fails -/
def fstF (good : Nat → Bool) : Nat → Nat → Option Nat
  | _, 0 => none
  | i, k + 1 => if good i = true then fstF good (i + 1) k else some i
theorem fstF_none {good : Nat → Bool} : ∀ {k i : Nat}, fstF good i k = none → ∀ j, i ≤ j → j < i + k → good j = true
  | 0, i, _, j, h1, h2 => by omega
  | k + 1, i, h, j, h1, h2 => by
    unfold fstF at h
    split at h
    · rename_i hg
      by_cases e : j = i
      · subst e; exact hg
      · exact fstF_none h j (by omega) (by omega)
    · cases h
theorem fstF_some {good : Nat → Bool} : ∀ {k i m : Nat}, fstF good i k = some m → i ≤ m ∧ m < i + k ∧ good m = false ∧ ∀ j, i ≤ j → j < m → good j = true
  | 0, i, m, h => by cases h
  | k + 1, i, m, h => by
    unfold fstF at h
    split at h
    · rename_i hg
      obtain ⟨h1, h2, h3, h4⟩ := fstF_some h
      refine ⟨by omega, by omega, h3, fun j j1 j2 => ?_⟩
      by_cases e : j = i
      · subst e; exact hg
      · exact h4 j (by omega) j2
    · rename_i hg
      cases h
      exact ⟨Nat.le_refl _, by omega, by simpa using hg, fun j j1 j2 => by omega⟩
def Leaves : Res Fl → Prop
  | .err _ _ => True
  | .ok (.rt _) _ => True
  | _ => False
theorem forL_leave {u : UG} {db : Env' → Res Fl} {p : PV} {ps : List PV} {e e1 : Env'} (h1 : u p e = some e1) (h2 : Leaves (db e1)) : forL u db (p :: ps) e = db e1 := by
  unfold forL
  rw [h1]
  dsimp only
  cases q : db e1 with
  | bad => rw [q] at h2; exact h2.elim
  | err x e2 => rfl
  | ok f e2 =>
    rw [q] at h2
    cases f with
    | rt v => rfl
    | nx => exact h2.elim
    | bk => exact h2.elim
    | ct => exact h2.elim
/-- the law of such a loop: where it ends is told by good alone -/
theorem forL_fst {u : UG} {db : Env' → Res Fl} {ps : List PV} (good : Nat → Bool) (I : Nat → Env' → Prop) (out : Nat → Res Fl → Prop)
    (step : ∀ (i : Nat) (p : PV) (e : Env'), ps[i]? = some p → I i e → (good i = true → ∃ e1 e2, u p e = some e1 ∧ db e1 = .ok .nx e2 ∧ I (i + 1) e2) ∧ (good i = false → ∃ e1, u p e = some e1 ∧ Leaves (db e1) ∧ out i (db e1))) {e : Env'} (h0 : I 0 e) :
    (fstF good 0 ps.length = none → ∃ e', forL u db ps e = .ok .nx e' ∧ I ps.length e') ∧ ∀ m, fstF good 0 ps.length = some m → out m (forL u db ps e) := by
  have key : ∀ (qs : List PV) (i : Nat) (e : Env'), i + qs.length = ps.length → ps.drop i = qs → I i e → (fstF good i qs.length = none → ∃ e', forL u db qs e = .ok .nx e' ∧ I ps.length e') ∧ ∀ m, fstF good i qs.length = some m → out m (forL u db qs e) := by
    intro qs
    induction qs with
    | nil =>
      intro i e hl hd hI
      have : i = ps.length := by simpa using hl
      subst this
      exact ⟨fun _ => ⟨e, rfl, hI⟩, fun m h => by cases h⟩
    | cons q qs ih =>
      intro i e hl hd hI
      have hq : ps[i]? = some q := by rw [← List.head?_drop, hd]; rfl
      have hd' : ps.drop (i + 1) = qs := by rw [← List.tail_drop, hd]; rfl
      obtain ⟨s1, s2⟩ := step i q e hq hI
      cases hg : good i with
      | true =>
        obtain ⟨e1, e2, h1, h2, h3⟩ := s1 hg
        have := ih (i + 1) e2 (by simp at hl; omega) hd' h3
        have ef : forL u db (q :: qs) e = forL u db qs e2 := by
          conv => lhs; unfold forL
          rw [h1]
          simp only [h2]
          rfl
        rw [ef]
        have eg : fstF good i (q :: qs).length = fstF good (i + 1) qs.length := by
          show fstF good i (qs.length + 1) = _
          unfold fstF
          rw [if_pos hg]
          cases qs.length <;> rfl
        rw [eg]
        exact this
      | false =>
        obtain ⟨e1, h1, h2, h3⟩ := s2 hg
        have eg : fstF good i (q :: qs).length = some i := by
          show fstF good i (qs.length + 1) = _
          unfold fstF
          rw [if_neg (by rw [hg]; simp)]
        rw [eg, forL_leave h1 h2]
        refine ⟨fun z => (by cases z), fun m z => ?_⟩
        cases z
        exact h3
  exact key ps 0 e (by simp) rfl h0
/-! ### items -/
/-- a value of which isinstance can be told -/
def itm : PV → Bool
  | .dT _ _ => false
  | .exc _ _ => false
  | _ => true
def whole (k : Int) : PV → Bool
  | .int i => decide (k ≤ i)
  | _ => false
theorem neX_lB (ws : List Wd) : semNeX (lB ws) (.lst []) = some (.fz (.bl (!ws.isEmpty))) := by
  cases ws with
  | nil => exact ne_lB_nil []
  | cons w ws => rfl
end VL

set_option maxRecDepth 100000
set_option maxHeartbeats 2000000
namespace K00
open PySem PySem.Spec L2 VL
open PyProof.Rows hiding St
/-- the pen -/
def pen (cs : List Int) (o l : Int) : PV := .dK [.inr "cells", .inr "opened", .inr "left"] [.lst (cs.map .int), .int o, .int l]
theorem look_c {a b c : PV} : look [(.inr "cells" : Key), .inr "opened", .inr "left"] [a, b, c] (.inr "cells") = some a := by rfl
theorem look_o {a b c : PV} : look [(.inr "cells" : Key), .inr "opened", .inr "left"] [a, b, c] (.inr "opened") = some b := by rfl
theorem look_f {a b c : PV} : look [(.inr "cells" : Key), .inr "opened", .inr "left"] [a, b, c] (.inr "left") = some c := by rfl
theorem put_o {a b c d : PV} : putP [(.inr "cells" : Key), .inr "opened", .inr "left"] [a, b, c] (.inr "opened") d = ([.inr "cells", .inr "opened", .inr "left"], [a, d, c]) := by rfl
theorem put_f {a b c d : PV} : putP [(.inr "cells" : Key), .inr "opened", .inr "left"] [a, b, c] (.inr "left") d = ([.inr "cells", .inr "opened", .inr "left"], [a, b, d]) := by rfl
theorem draw_ok {cs : List Int} {o l m : Int} (hm : 0 < m) (hm2 : m < 1000000000000000000000000000000) (ho : 0 ≤ o) (ho2 : o < 1000000000000000000) : ∃ r o' l', F_law_draw [pen cs o l, .int m] = .ok (.fz (.int r)) [pen cs o' l'] ∧ 0 ≤ r ∧ r < m ∧ 0 ≤ o' ∧ o' ≤ o + 1 := by
  have hv : ∀ x : Int, CDivW x m := fun x => cdiv hm (small (by omega) (by omega))
  have md : ∀ x : Int, 0 ≤ x % m ∧ x % m < m := fun x => ⟨Int.emod_nonneg _ (by omega), Int.emod_lt_of_pos _ hm⟩
  have sm : ∀ {x y : Int}, -10000000000000000000000000000000000000000 < x → x < 10000000000000000000000000000000000000000 → -10000000000000000000000000000000000000000 < y → y < 10000000000000000000000000000000000000000 → CMulX x y := fun h1 h2 h3 h4 => cmul (small h1 h2) (small h3 h4)
  by_cases hl : 0 < l
  · have hd : decide (0 < l) = true := decide_eq_true hl
    refine ⟨l % m, o, l / m, ?_, (md l).1, (md l).2, ho, by omega⟩
    unfold F_law_draw d_law_draw pen
    simp only [bind_k, bh_k, seqK_n, seqK_r, seq_e, expr_e, ret_e, retV_f, retV_n, retV_b, ifK_t, ifK_f, ifS_e, if_e, set_e, store_f, store_n, store_b, var_e, stl_e, stl_f, stl_n, stl_b, peek_f, peek_n, peek_b, frz_f, frz_n, frz_b, bin_e, op2_d, toVal_s, asB_e, chain_e, un_e, not_e, notT_e, andT_e, orT_e, args_n, args_c, frzs_n, frzs_c, lst_e, tup_e, call_e, peeks_n, peeks_c, opN_e, sl_e, part_n, part_s, meth_e, for_e, asgT_e, uNm_e, uTup_e, uCons_e, uNil_e, put_e, putS_e, isOw_e, mut_e, kdAt_e, mutK_e, items_e, enum_e, rng1_e, rng2_e, lc_e, dc_e, par_e, parL_n, parL_f, parL_t, unb_f, unb_n, unb_b, isNew_f, isNew_n, storeL_n, storeL_f, storeL_w, fn_e, mk_e, callK_e, frK_f, frK_n, mkK_e, mkF_e, prep_f, prep_t, prep_n, lentI_f, lentI_t, lentI_n, putOuts_n, putOuts_c, isi_e, fld_e, fldS_e, tru_e, bool_e, aug_e, sortLn_e, callFn_e, finF_x, finF_f, finF_n, outE_z, outZ_c, outZ_n, outS_w, outS_f, outS_o, lend_w, lend_f, lend_n, blk_e, wipe_n, wipe_c, free_e, dtO_n, dtO_s, entry_e, entryE_t, entryE_f, entryE_n, repl_z, outsAt_n, outsAt_f, outsAt_t, List.getElem?_cons_zero, List.getElem?_cons_succ, List.set_cons_zero, List.set_cons_succ, List.map_nil, List.map_cons, List.nil_append, List.cons_append, List.nodup_cons, List.nodup_nil, List.not_mem_nil, List.mem_cons, not_false_eq_true, and_self, and_true, true_and, or_false, false_or, if_true, reduceIte, Bool.false_eq_true, Option.bind_some, Option.map_some, List.length_cons, List.length_nil, Option.some.injEq, kd, Option.map_none, Option.bind_none, reduceCtorEq, Bool.not_true, Bool.not_false, decide_true, decide_false, Nat.reduceAdd, Nat.reduceLT, Nat.reduceLeDiff, Nat.zero_add, Nat.reduceEqDiff, List.replicate, Nat.reduceSub, List.all_cons, List.all_nil, Bool.and_true, Bool.and_self, List.append_nil, lB, tW, List.map_append, entry, entryE, List.replicate, outsAt, ix_k, key_s, look_c, look_o, look_f, put_o, put_f, gt_i, hd, mod_i hm, div_i (hv _), int_i, put_k, big_v]
  · have hd : decide (0 < l) = false := decide_eq_false hl
    by_cases hc : cs = []
    · subst hc
      have q1 : CMulX 7 o := sm (by omega) (by omega) (by omega) (by omega)
      refine ⟨(7 * o + 3) % m, o + 1, l, ?_, (md _).1, (md _).2, by omega, by omega⟩
      unfold F_law_draw d_law_draw pen
      simp only [bind_k, bh_k, seqK_n, seqK_r, seq_e, expr_e, ret_e, retV_f, retV_n, retV_b, ifK_t, ifK_f, ifS_e, if_e, set_e, store_f, store_n, store_b, var_e, stl_e, stl_f, stl_n, stl_b, peek_f, peek_n, peek_b, frz_f, frz_n, frz_b, bin_e, op2_d, toVal_s, asB_e, chain_e, un_e, not_e, notT_e, andT_e, orT_e, args_n, args_c, frzs_n, frzs_c, lst_e, tup_e, call_e, peeks_n, peeks_c, opN_e, sl_e, part_n, part_s, meth_e, for_e, asgT_e, uNm_e, uTup_e, uCons_e, uNil_e, put_e, putS_e, isOw_e, mut_e, kdAt_e, mutK_e, items_e, enum_e, rng1_e, rng2_e, lc_e, dc_e, par_e, parL_n, parL_f, parL_t, unb_f, unb_n, unb_b, isNew_f, isNew_n, storeL_n, storeL_f, storeL_w, fn_e, mk_e, callK_e, frK_f, frK_n, mkK_e, mkF_e, prep_f, prep_t, prep_n, lentI_f, lentI_t, lentI_n, putOuts_n, putOuts_c, isi_e, fld_e, fldS_e, tru_e, bool_e, aug_e, sortLn_e, callFn_e, finF_x, finF_f, finF_n, outE_z, outZ_c, outZ_n, outS_w, outS_f, outS_o, lend_w, lend_f, lend_n, blk_e, wipe_n, wipe_c, free_e, dtO_n, dtO_s, entry_e, entryE_t, entryE_f, entryE_n, repl_z, outsAt_n, outsAt_f, outsAt_t, List.getElem?_cons_zero, List.getElem?_cons_succ, List.set_cons_zero, List.set_cons_succ, List.map_nil, List.map_cons, List.nil_append, List.cons_append, List.nodup_cons, List.nodup_nil, List.not_mem_nil, List.mem_cons, not_false_eq_true, and_self, and_true, true_and, or_false, false_or, if_true, reduceIte, Bool.false_eq_true, Option.bind_some, Option.map_some, List.length_cons, List.length_nil, Option.some.injEq, kd, Option.map_none, Option.bind_none, reduceCtorEq, Bool.not_true, Bool.not_false, decide_true, decide_false, Nat.reduceAdd, Nat.reduceLT, Nat.reduceLeDiff, Nat.zero_add, Nat.reduceEqDiff, List.replicate, Nat.reduceSub, List.all_cons, List.all_nil, Bool.and_true, Bool.and_self, List.append_nil, lB, tW, List.map_append, entry, entryE, List.replicate, outsAt, ix_k, key_s, look_c, look_o, look_f, put_o, put_f, gt_i, hd, mod_i hm, div_i (hv _), int_i, put_k, big_v, add_i, eq_nil_nil, mul_i q1]
    · have he : cs.isEmpty = false := by cases cs <;> simp_all
      have hn : 0 < (cs.map PV.int).length := by rw [List.length_map]; exact List.length_pos_iff.mpr hc
      have h0 : (0 : Int) < ((cs.map PV.int).length : Nat) := by omega
      obtain ⟨hx, hat⟩ := at_z (l := cs.map PV.int) (i := o % ((cs.map PV.int).length : Nat)) (Int.emod_nonneg _ (by omega)) (Int.emod_lt_of_pos _ h0)
      rw [List.getElem_map] at hat
      generalize cs[(o % ((cs.map PV.int).length : Nat)).toNat]'(by simpa using hx) = c at hat
      by_cases hb : o < ((cs.map PV.int).length : Nat) ∧ (1000000000000000000 : Int) ≤ (c.natAbs : Int)
      · have hb1 : decide (o < ((cs.map PV.int).length : Nat)) = true := decide_eq_true hb.1
        have hb2 : decide ((1000000000000000000 : Int) ≤ (c.natAbs : Int)) = true := decide_eq_true hb.2
        refine ⟨((c.natAbs : Int) - 1000000000000000000) % m, o + 1, ((c.natAbs : Int) - 1000000000000000000) / m, ?_, (md _).1, (md _).2, by omega, by omega⟩
        unfold F_law_draw d_law_draw pen
        simp only [bind_k, bh_k, seqK_n, seqK_r, seq_e, expr_e, ret_e, retV_f, retV_n, retV_b, ifK_t, ifK_f, ifS_e, if_e, set_e, store_f, store_n, store_b, var_e, stl_e, stl_f, stl_n, stl_b, peek_f, peek_n, peek_b, frz_f, frz_n, frz_b, bin_e, op2_d, toVal_s, asB_e, chain_e, un_e, not_e, notT_e, andT_e, orT_e, args_n, args_c, frzs_n, frzs_c, lst_e, tup_e, call_e, peeks_n, peeks_c, opN_e, sl_e, part_n, part_s, meth_e, for_e, asgT_e, uNm_e, uTup_e, uCons_e, uNil_e, put_e, putS_e, isOw_e, mut_e, kdAt_e, mutK_e, items_e, enum_e, rng1_e, rng2_e, lc_e, dc_e, par_e, parL_n, parL_f, parL_t, unb_f, unb_n, unb_b, isNew_f, isNew_n, storeL_n, storeL_f, storeL_w, fn_e, mk_e, callK_e, frK_f, frK_n, mkK_e, mkF_e, prep_f, prep_t, prep_n, lentI_f, lentI_t, lentI_n, putOuts_n, putOuts_c, isi_e, fld_e, fldS_e, tru_e, bool_e, aug_e, sortLn_e, callFn_e, finF_x, finF_f, finF_n, outE_z, outZ_c, outZ_n, outS_w, outS_f, outS_o, lend_w, lend_f, lend_n, blk_e, wipe_n, wipe_c, free_e, dtO_n, dtO_s, entry_e, entryE_t, entryE_f, entryE_n, repl_z, outsAt_n, outsAt_f, outsAt_t, List.getElem?_cons_zero, List.getElem?_cons_succ, List.set_cons_zero, List.set_cons_succ, List.map_nil, List.map_cons, List.nil_append, List.cons_append, List.nodup_cons, List.nodup_nil, List.not_mem_nil, List.mem_cons, not_false_eq_true, and_self, and_true, true_and, or_false, false_or, if_true, reduceIte, Bool.false_eq_true, Option.bind_some, Option.map_some, List.length_cons, List.length_nil, Option.some.injEq, kd, Option.map_none, Option.bind_none, reduceCtorEq, Bool.not_true, Bool.not_false, decide_true, decide_false, Nat.reduceAdd, Nat.reduceLT, Nat.reduceLeDiff, Nat.zero_add, Nat.reduceEqDiff, List.replicate, Nat.reduceSub, List.all_cons, List.all_nil, Bool.and_true, Bool.and_self, List.append_nil, lB, tW, List.map_append, entry, entryE, List.replicate, outsAt, ix_k, key_s, look_c, look_o, look_f, put_o, put_f, gt_i, hd, mod_i hm, mod_i h0, div_i (hv _), int_i, put_k, big_v, add_i, sub_i, eq_ints_nil, he, len_l, ix_l, hat, lt_i, ge_i, abs_i, mod_pow, hb1, hb2]
      · have q2 : CMulX (c % 4294965361) 41903 := sm (by omega) (by omega) (by omega) (by omega)
        have q3 : CMulX 27011 o := sm (by omega) (by omega) (by omega) (by omega)
        have q4 : CMulX (27011 * o) o := sm (by omega) (by omega) (by omega) (by omega)
        have q5 : CMulX 853 o := sm (by omega) (by omega) (by omega) (by omega)
        have q6 : CMulX 37 o := sm (by omega) (by omega) (by omega) (by omega)
        obtain ⟨x1, hx1⟩ : ∃ x1, x1 = (c % 4294965361 * 41903 + 27011 * o * o + 853 * o + 71) % 4294965383 := ⟨_, rfl⟩
        have b1 : 0 ≤ x1 ∧ x1 < 4294965383 := by rw [hx1]; exact ⟨Int.emod_nonneg _ (by omega), Int.emod_lt_of_pos _ (by omega)⟩
        have q7 : CMulX x1 x1 := sm (by omega) (by omega) (by omega) (by omega)
        have q8 : CMulX 40213 x1 := sm (by omega) (by omega) (by omega) (by omega)
        obtain ⟨x2, hx2⟩ : ∃ x2, x2 = (x1 * x1 + 40213 * x1 + 37 * o) % 4294965337 := ⟨_, rfl⟩
        have b2 : 0 ≤ x2 ∧ x2 < 4294965337 := by rw [hx2]; exact ⟨Int.emod_nonneg _ (by omega), Int.emod_lt_of_pos _ (by omega)⟩
        have q9 : CMulX x2 (x2 + 60317) := sm (by omega) (by omega) (by omega) (by omega)
        have d128 : ∀ x : Int, CDivW x 128 := fun x => cdiv (by omega) (small (by omega) (by omega))
        have m1 : (0 : Int) < 4294965361 := by omega
        have m2 : (0 : Int) < 4294965383 := by omega
        have m3 : (0 : Int) < 4294965337 := by omega
        have m4 : (0 : Int) < 4294965313 := by omega
        refine ⟨(x2 * (x2 + 60317)) % 4294965313 / 128 % m, o + 1, l, ?_, (md _).1, (md _).2, by omega, by omega⟩
        by_cases hb1 : o < ((cs.map PV.int).length : Nat)
        · have hb2 : decide ((1000000000000000000 : Int) ≤ (c.natAbs : Int)) = false := decide_eq_false fun z => hb ⟨hb1, z⟩
          have hb1 : decide (o < ((cs.map PV.int).length : Nat)) = true := decide_eq_true hb1
          unfold F_law_draw d_law_draw pen
          simp only [bind_k, bh_k, seqK_n, seqK_r, seq_e, expr_e, ret_e, retV_f, retV_n, retV_b, ifK_t, ifK_f, ifS_e, if_e, set_e, store_f, store_n, store_b, var_e, stl_e, stl_f, stl_n, stl_b, peek_f, peek_n, peek_b, frz_f, frz_n, frz_b, bin_e, op2_d, toVal_s, asB_e, chain_e, un_e, not_e, notT_e, andT_e, orT_e, args_n, args_c, frzs_n, frzs_c, lst_e, tup_e, call_e, peeks_n, peeks_c, opN_e, sl_e, part_n, part_s, meth_e, for_e, asgT_e, uNm_e, uTup_e, uCons_e, uNil_e, put_e, putS_e, isOw_e, mut_e, kdAt_e, mutK_e, items_e, enum_e, rng1_e, rng2_e, lc_e, dc_e, par_e, parL_n, parL_f, parL_t, unb_f, unb_n, unb_b, isNew_f, isNew_n, storeL_n, storeL_f, storeL_w, fn_e, mk_e, callK_e, frK_f, frK_n, mkK_e, mkF_e, prep_f, prep_t, prep_n, lentI_f, lentI_t, lentI_n, putOuts_n, putOuts_c, isi_e, fld_e, fldS_e, tru_e, bool_e, aug_e, sortLn_e, callFn_e, finF_x, finF_f, finF_n, outE_z, outZ_c, outZ_n, outS_w, outS_f, outS_o, lend_w, lend_f, lend_n, blk_e, wipe_n, wipe_c, free_e, dtO_n, dtO_s, entry_e, entryE_t, entryE_f, entryE_n, repl_z, outsAt_n, outsAt_f, outsAt_t, List.getElem?_cons_zero, List.getElem?_cons_succ, List.set_cons_zero, List.set_cons_succ, List.map_nil, List.map_cons, List.nil_append, List.cons_append, List.nodup_cons, List.nodup_nil, List.not_mem_nil, List.mem_cons, not_false_eq_true, and_self, and_true, true_and, or_false, false_or, if_true, reduceIte, Bool.false_eq_true, Option.bind_some, Option.map_some, List.length_cons, List.length_nil, Option.some.injEq, kd, Option.map_none, Option.bind_none, reduceCtorEq, Bool.not_true, Bool.not_false, decide_true, decide_false, Nat.reduceAdd, Nat.reduceLT, Nat.reduceLeDiff, Nat.zero_add, Nat.reduceEqDiff, List.replicate, Nat.reduceSub, List.all_cons, List.all_nil, Bool.and_true, Bool.and_self, List.append_nil, lB, tW, List.map_append, entry, entryE, List.replicate, outsAt, ix_k, key_s, look_c, look_o, look_f, put_o, put_f, gt_i, hd, mod_i hm, mod_i h0, div_i (hv _), int_i, put_k, big_v, add_i, sub_i, eq_ints_nil, he, len_l, ix_l, hat, lt_i, ge_i, abs_i, mod_pow, hb1, hb2, mul_i q2, mul_i q3, mul_i q4, mul_i q5, mul_i q6, mod_i m1, mod_i m2, mod_i m3, mod_i m4, ← hx1, mul_i q7, mul_i q8, ← hx2, mul_i q9, div_i (d128 _)]
        · have hb1 : decide (o < ((cs.map PV.int).length : Nat)) = false := decide_eq_false hb1
          unfold F_law_draw d_law_draw pen
          simp only [bind_k, bh_k, seqK_n, seqK_r, seq_e, expr_e, ret_e, retV_f, retV_n, retV_b, ifK_t, ifK_f, ifS_e, if_e, set_e, store_f, store_n, store_b, var_e, stl_e, stl_f, stl_n, stl_b, peek_f, peek_n, peek_b, frz_f, frz_n, frz_b, bin_e, op2_d, toVal_s, asB_e, chain_e, un_e, not_e, notT_e, andT_e, orT_e, args_n, args_c, frzs_n, frzs_c, lst_e, tup_e, call_e, peeks_n, peeks_c, opN_e, sl_e, part_n, part_s, meth_e, for_e, asgT_e, uNm_e, uTup_e, uCons_e, uNil_e, put_e, putS_e, isOw_e, mut_e, kdAt_e, mutK_e, items_e, enum_e, rng1_e, rng2_e, lc_e, dc_e, par_e, parL_n, parL_f, parL_t, unb_f, unb_n, unb_b, isNew_f, isNew_n, storeL_n, storeL_f, storeL_w, fn_e, mk_e, callK_e, frK_f, frK_n, mkK_e, mkF_e, prep_f, prep_t, prep_n, lentI_f, lentI_t, lentI_n, putOuts_n, putOuts_c, isi_e, fld_e, fldS_e, tru_e, bool_e, aug_e, sortLn_e, callFn_e, finF_x, finF_f, finF_n, outE_z, outZ_c, outZ_n, outS_w, outS_f, outS_o, lend_w, lend_f, lend_n, blk_e, wipe_n, wipe_c, free_e, dtO_n, dtO_s, entry_e, entryE_t, entryE_f, entryE_n, repl_z, outsAt_n, outsAt_f, outsAt_t, List.getElem?_cons_zero, List.getElem?_cons_succ, List.set_cons_zero, List.set_cons_succ, List.map_nil, List.map_cons, List.nil_append, List.cons_append, List.nodup_cons, List.nodup_nil, List.not_mem_nil, List.mem_cons, not_false_eq_true, and_self, and_true, true_and, or_false, false_or, if_true, reduceIte, Bool.false_eq_true, Option.bind_some, Option.map_some, List.length_cons, List.length_nil, Option.some.injEq, kd, Option.map_none, Option.bind_none, reduceCtorEq, Bool.not_true, Bool.not_false, decide_true, decide_false, Nat.reduceAdd, Nat.reduceLT, Nat.reduceLeDiff, Nat.zero_add, Nat.reduceEqDiff, List.replicate, Nat.reduceSub, List.all_cons, List.all_nil, Bool.and_true, Bool.and_self, List.append_nil, lB, tW, List.map_append, entry, entryE, List.replicate, outsAt, ix_k, key_s, look_c, look_o, look_f, put_o, put_f, gt_i, hd, mod_i hm, mod_i h0, div_i (hv _), int_i, put_k, big_v, add_i, sub_i, eq_ints_nil, he, len_l, ix_l, hat, lt_i, ge_i, abs_i, mod_pow, hb1, mul_i q2, mul_i q3, mul_i q4, mul_i q5, mul_i q6, mod_i m1, mod_i m2, mod_i m3, mod_i m4, ← hx1, mul_i q7, mul_i q8, ← hx2, mul_i q9, div_i (d128 _)]
/-- a pen of at most n openings -/
def IsPen (n : Int) (p : PV) : Prop := ∃ cs o l, p = pen cs o l ∧ 0 ≤ o ∧ o ≤ n
theorem IsPen.mono {n m : Int} {p : PV} (h : IsPen n p) (l : n ≤ m) : IsPen m p := let ⟨cs, o, l', e, h0, h1⟩ := h; ⟨cs, o, l', e, h0, by omega⟩
theorem drawP {n m : Int} {p : PV} (h : IsPen n p) (hn : n < 1000000000000000000) (hm : 0 < m) (hm2 : m < 1000000000000000000000000000000) : ∃ r p', F_law_draw [p, .int m] = .ok (.fz (.int r)) [p'] ∧ 0 ≤ r ∧ r < m ∧ IsPen (n + 1) p' := by
  obtain ⟨cs, o, l, rfl, h0, h1⟩ := h
  obtain ⟨r, o', l', e, a, b, c, d⟩ := draw_ok (cs := cs) (l := l) hm hm2 h0 (by omega)
  exact ⟨r, _, e, a, b, cs, o', l', rfl, c, by omega⟩
theorem pick_ok {n : Int} {p : PV} {xs : List PV} (h : IsPen n p) (hn : n < 1000000000000000000) (hx : 0 < xs.length) (hl : xs.length < 16777216) : ∃ (i : Nat) (hi : i < xs.length) (p' : PV), F_law_pick [p, .lst xs] = .ok (.fz xs[i]) [p'] ∧ IsPen (n + 1) p' := by
  obtain ⟨r, p', e, h0, h1, hp⟩ := drawP (m := (xs.length : Nat)) h hn (by omega) (by omega)
  obtain ⟨hr, hat⟩ := at_z (l := xs) h0 h1
  refine ⟨r.toNat, hr, p', ?_, hp⟩
  unfold F_law_pick d_law_pick
  simp only [bind_k, bh_k, seqK_n, seqK_r, seq_e, expr_e, ret_e, retV_f, retV_n, retV_b, ifK_t, ifK_f, ifS_e, if_e, set_e, store_f, store_n, store_b, var_e, stl_e, stl_f, stl_n, stl_b, peek_f, peek_n, peek_b, frz_f, frz_n, frz_b, bin_e, op2_d, toVal_s, asB_e, chain_e, un_e, not_e, notT_e, andT_e, orT_e, args_n, args_c, frzs_n, frzs_c, lst_e, tup_e, call_e, peeks_n, peeks_c, opN_e, sl_e, part_n, part_s, meth_e, for_e, asgT_e, uNm_e, uTup_e, uCons_e, uNil_e, put_e, putS_e, isOw_e, mut_e, kdAt_e, mutK_e, items_e, enum_e, rng1_e, rng2_e, lc_e, dc_e, par_e, parL_n, parL_f, parL_t, unb_f, unb_n, unb_b, isNew_f, isNew_n, storeL_n, storeL_f, storeL_w, fn_e, mk_e, callK_e, frK_f, frK_n, mkK_e, mkF_e, prep_f, prep_t, prep_n, lentI_f, lentI_t, lentI_n, putOuts_n, putOuts_c, isi_e, fld_e, fldS_e, tru_e, bool_e, aug_e, sortLn_e, callFn_e, finF_x, finF_f, finF_n, outE_z, outZ_c, outZ_n, outS_w, outS_f, outS_o, lend_w, lend_f, lend_n, blk_e, wipe_n, wipe_c, free_e, dtO_n, dtO_s, entry_e, entryE_t, entryE_f, entryE_n, repl_z, outsAt_n, outsAt_f, outsAt_t, List.getElem?_cons_zero, List.getElem?_cons_succ, List.set_cons_zero, List.set_cons_succ, List.map_nil, List.map_cons, List.nil_append, List.cons_append, List.nodup_cons, List.nodup_nil, List.not_mem_nil, List.mem_cons, not_false_eq_true, and_self, and_true, true_and, or_false, false_or, if_true, reduceIte, Bool.false_eq_true, Option.bind_some, Option.map_some, List.length_cons, List.length_nil, Option.some.injEq, kd, Option.map_none, Option.bind_none, reduceCtorEq, Bool.not_true, Bool.not_false, decide_true, decide_false, Nat.reduceAdd, Nat.reduceLT, Nat.reduceLeDiff, Nat.zero_add, Nat.reduceEqDiff, List.replicate, Nat.reduceSub, List.all_cons, List.all_nil, Bool.and_true, Bool.and_self, List.append_nil, lB, tW, List.map_append, len_l, e, ix_l, hat]
end K00

set_option maxRecDepth 100000
set_option maxHeartbeats 4000000
namespace K00
open PySem PySem.Spec L2 VL
open PyProof.Rows hiding St
/-- an item whose repr is short -/
def itm (p : PV) : Bool := match toI p with
  | some d => d.showable && (decide (d.depth ≤ 2) && decide (d.shown.length ≤ 60))
  | none => false
theorem toIs_ok : ∀ {xs : List PV}, (∀ x ∈ xs, itm x = true) → ∃ ds, toIs xs = some ds ∧ ds.length = xs.length ∧ PyData.showableAll ds = true ∧ PyData.depthAll ds ≤ 2 ∧ ((PyData.shownAll ds).map (·.length)).sum ≤ 60 * xs.length ∧ (PyData.shownAll ds).length = xs.length
  | [], _ => ⟨[], rfl, rfl, rfl, by decide, by decide, rfl⟩
  | x :: xs, h => by
    obtain ⟨ds, h1, h2, h3, h4, h5, h6⟩ := toIs_ok fun y hy => h y (List.mem_cons_of_mem _ hy)
    have hx := h x (List.mem_cons_self ..)
    unfold itm at hx
    cases e : toI x with
    | none => rw [e] at hx; cases hx
    | some d =>
      rw [e] at hx
      simp only [Bool.and_eq_true, decide_eq_true_eq] at hx
      refine ⟨d :: ds, by simp only [toIs, e, h1, Option.bind_some, Option.map_some], by simp [h2], by simp only [PyData.showableAll, hx.1, h3, Bool.and_self], by simp only [PyData.depthAll]; omega, ?_, by simp only [PyData.shownAll, List.length_cons, h6]⟩
      simp only [PyData.shownAll, List.map_cons, List.sum_cons, List.length_cons]
      omega
theorem repr_ok {xs : List PV} (h : ∀ x ∈ xs, itm x = true) (hl : xs.length ≤ 100) : ∃ s, semReprE [.lst xs] = some (.fz (.str s)) := by
  obtain ⟨ds, h1, h2, h3, h4, h5, h6⟩ := toIs_ok h
  have hz := PySem.listText_len_le (PyData.shownAll ds)
  have e : semReprE [.lst xs] = (toIs xs).bind fun ds => reprOf (.list ds) := rfl
  rw [e, h1, Option.bind_some]
  unfold reprOf
  rw [if_pos ⟨by simpa [PyData.showable] using h3, by simp only [PyData.depth]; omega, by simp only [PyData.shown]; rw [big_v]; omega⟩]
  exact ⟨_, rfl⟩
def anyL (r : Int) : List PV := [.non, .bl true, .int 0, .int 5, .int (-1), .int 1000000000000000000000000000000, .str "", .str "f", .tup [], .tup [.int 1, .int 2], .lst [.int 3], .dK [] [], .int (1000000000 + r)]
theorem any_ok {n : Int} {p : PV} (h : IsPen n p) (hn : n < 1000000) : ∃ v p', F_law_anything [p] = .ok (.fz v) [p'] ∧ itm v = true ∧ IsPen (n + 2) p' := by
  obtain ⟨r, p1, e1, r0, r1, hp1⟩ := drawP (m := 99) h (by omega) (by omega) (by omega)
  have hq : itm (.int (1000000000 + r)) = true := by
    obtain ⟨k, rfl⟩ : ∃ k : Nat, r = k := ⟨r.toNat, by omega⟩
    have : ∀ k : Fin 99, itm (.int (1000000000 + (k.val : Int))) = true := by decide +kernel
    exact this ⟨k, by omega⟩
  have p9 : semPow (.int 10) (.int 9) = some (.fz (.int 1000000000)) := by kernel_rfl
  have p30 : semPow (.int 10) (.int 30) = some (.fz (.int 1000000000000000000000000000000)) := by kernel_rfl
  have ng : semNeg (.int 1) = some (.fz (.int (-1))) := by kernel_rfl
  obtain ⟨i, hi, p2, e2, hp2⟩ := pick_ok (xs := anyL r) hp1 (by omega) (by simp [anyL]) (by simp [anyL])
  refine ⟨(anyL r)[i], p2, ?_, ?_, by rw [show n + 2 = n + 1 + 1 by omega]; exact hp2⟩
  · unfold F_law_anything d_law_anything
    rw [callFn_e]
    simp only [bind_k, bh_k, seqK_n, seqK_r, seq_e, expr_e, ret_e, retV_f, retV_n, retV_b, ifK_t, ifK_f, ifS_e, if_e, set_e, store_f, store_n, store_b, var_e, stl_e, stl_f, stl_n, stl_b, peek_f, peek_n, peek_b, frz_f, frz_n, frz_b, bin_e, op2_d, toVal_s, asB_e, chain_e, un_e, not_e, notT_e, andT_e, orT_e, args_n, args_c, frzs_n, frzs_c, lst_e, tup_e, call_e, peeks_n, peeks_c, opN_e, sl_e, part_n, part_s, meth_e, for_e, asgT_e, uNm_e, uTup_e, uCons_e, uNil_e, put_e, putS_e, isOw_e, mut_e, kdAt_e, mutK_e, items_e, enum_e, rng1_e, rng2_e, lc_e, dc_e, par_e, parL_n, parL_f, parL_t, unb_f, unb_n, unb_b, isNew_f, isNew_n, storeL_n, storeL_f, storeL_w, fn_e, mk_e, callK_e, frK_f, frK_n, mkK_e, mkF_e, prep_f, prep_t, prep_n, lentI_f, lentI_t, lentI_n, putOuts_n, putOuts_c, isi_e, fld_e, fldS_e, tru_e, bool_e, aug_e, sortLn_e, callFn_e, finF_x, finF_f, finF_n, outE_z, outZ_c, outZ_n, outS_w, outS_f, outS_o, lend_w, lend_f, lend_n, blk_e, wipe_n, wipe_c, free_e, dtO_n, dtO_s, entry_e, entryE_t, entryE_f, entryE_n, repl_z, outsAt_n, outsAt_f, outsAt_t, List.getElem?_cons_zero, List.getElem?_cons_succ, List.set_cons_zero, List.set_cons_succ, List.map_nil, List.map_cons, List.nil_append, List.cons_append, List.nodup_cons, List.nodup_nil, List.not_mem_nil, List.mem_cons, not_false_eq_true, and_self, and_true, true_and, or_false, false_or, if_true, reduceIte, Bool.false_eq_true, Option.bind_some, Option.map_some, List.length_cons, List.length_nil, Option.some.injEq, kd, Option.map_none, Option.bind_none, reduceCtorEq, Bool.not_true, Bool.not_false, decide_true, decide_false, Nat.reduceAdd, Nat.reduceLT, Nat.reduceLeDiff, Nat.zero_add, Nat.reduceEqDiff, List.replicate, Nat.reduceSub, List.all_cons, List.all_nil, Bool.and_true, Bool.and_self, List.append_nil, lB, tW, List.map_append, p9, p30, ng, e1, add_i, big_v, dNewK, Nat.reduceLeDiff]
    unfold anyL at e2
    rw [e2]
    rfl
  · have key : ∀ x ∈ anyL r, itm x = true := by
      intro x hx
      unfold anyL at hx
      simp only [List.mem_cons, List.not_mem_nil, or_false] at hx
      rcases hx with rfl | rfl | rfl | rfl | rfl | rfl | rfl | rfl | rfl | rfl | rfl | rfl | rfl
      all_goals first | exact hq | decide +kernel
    exact key _ (List.getElem_mem hi)
def due (a b c : PV) : List PV := [a, b, c, a, a, a, a, b, a, b, a, a, b, a, a, a, a, a, a, a, a, a, a, a]
def made (a b c : PV) : List PV := [.exc 1 [a, b, c], .exc 2 [a], .exc 3 [a], .exc 4 [], .exc 5 [a], .exc 6 [a, b], .exc 7 [a, b], .exc 8 [a], .exc 9 [], .exc 10 [a, b], .exc 11 [a], .exc 12 [], .exc 13 [a], .exc 14 [], .exc 15 [a], .exc 16 [a], .exc 17 [a], .exc 18 [a], .exc 19 [a], .exc 20 [a], .exc 21 [a], .exc 22 [a], .exc 23 [a], .exc 24 []]
theorem pos_ok (a b c : PV) : F_law_by_position [a, b, c] = .ok (.new (.lst (due a b c))) [] := by kernel_rfl
theorem nam_ok (a b c : PV) : F_law_by_name [a, b, c] = .ok (.new (.lst (due a b c))) [] := by kernel_rfl
theorem made_ok (a b c : PV) : F_law_all_made [a, b, c] = .ok (.new (.lst (made a b c))) [] := by kernel_rfl
end K00

set_option maxRecDepth 100000
set_option maxHeartbeats 4000000
namespace VL
open PySem PySem.Spec L2
open PyProof.Rows hiding St
theorem disp_n {ks : List Key} {vs : List PV} {e : Env'} : dDisp [] ks vs e = .ok (.new (.dK ks vs)) e := id rfl
theorem disp_c {dk dv : Env' → Res Val} {r : List ((Env' → Res Val) × (Env' → Res Val))} {ks : List Key} {vs : List PV} {e : Env'} : dDisp ((dk, dv) :: r) ks vs e = match subV dk e with
    | .ok kp e1 => (match keyP kp, subV dv e1 with
      | some k, .ok p e2 => dDisp r (putP ks vs k p).1 (putP ks vs k p).2 e2
      | _, _ => .bad)
    | _ => .bad := by
  (conv => lhs; unfold dDisp) <;> rfl
theorem subV_e {d : Env' → Res Val} {e : Env'} : subV d e = match d (blkE [] e) with
  | .ok x e1 => (match frz x e1 with
    | .ok p e2 => .ok p (outE [] e e2)
    | _ => .bad)
  | _ => .bad := by
  unfold subV
  rfl
theorem put_new {ks : List Key} {vs : List PV} {k : Key} {p : PV} (h : k ∉ ks) : putP ks vs k p = (ks ++ [k], vs ++ [p]) := if_neg h
end VL
namespace K00
open PySem PySem.Spec L2 VL
open PyProof.Rows hiding St
theorem sort1 (vs : List PV) (k : Fin 24) : F_law_sorts [.exc (k.val + 1) vs] = .ok (.new (.lst [.int (k.val : Int)])) [] := by
  match k with
  | ⟨0, _⟩ => kernel_rfl
  | ⟨1, _⟩ => kernel_rfl
  | ⟨2, _⟩ => kernel_rfl
  | ⟨3, _⟩ => kernel_rfl
  | ⟨4, _⟩ => kernel_rfl
  | ⟨5, _⟩ => kernel_rfl
  | ⟨6, _⟩ => kernel_rfl
  | ⟨7, _⟩ => kernel_rfl
  | ⟨8, _⟩ => kernel_rfl
  | ⟨9, _⟩ => kernel_rfl
  | ⟨10, _⟩ => kernel_rfl
  | ⟨11, _⟩ => kernel_rfl
  | ⟨12, _⟩ => kernel_rfl
  | ⟨13, _⟩ => kernel_rfl
  | ⟨14, _⟩ => kernel_rfl
  | ⟨15, _⟩ => kernel_rfl
  | ⟨16, _⟩ => kernel_rfl
  | ⟨17, _⟩ => kernel_rfl
  | ⟨18, _⟩ => kernel_rfl
  | ⟨19, _⟩ => kernel_rfl
  | ⟨20, _⟩ => kernel_rfl
  | ⟨21, _⟩ => kernel_rfl
  | ⟨22, _⟩ => kernel_rfl
  | ⟨23, _⟩ => kernel_rfl
  | ⟨n + 24, h⟩ => omega
theorem pen_is (ns : List Int) : ∃ p, F_law_pen [.scr ns] = .ok (.new p) [] ∧ IsPen 0 p := by
  refine ⟨pen (cutL ns none (some 63)) 0 0, ?_, _, _, _, rfl, by omega, by omega⟩
  have p1 : ∀ p : PV, putP ([] : List Key) [] (.inr "cells") p = ([.inr "cells"], [p]) := fun p => rfl
  have p2 : ∀ a p : PV, putP ([.inr "cells"] : List Key) [a] (.inr "opened") p = ([.inr "cells", .inr "opened"], [a, p]) := fun a p => rfl
  have p3 : ∀ a b p : PV, putP ([.inr "cells", .inr "opened"] : List Key) [a, b] (.inr "left") p = ([.inr "cells", .inr "opened", .inr "left"], [a, b, p]) := fun a b p => rfl
  unfold F_law_pen d_law_pen pen
  simp only [bind_k, bh_k, seqK_n, seqK_r, seq_e, expr_e, ret_e, retV_f, retV_n, retV_b, ifK_t, ifK_f, ifS_e, if_e, set_e, store_f, store_n, store_b, var_e, stl_e, stl_f, stl_n, stl_b, peek_f, peek_n, peek_b, frz_f, frz_n, frz_b, bin_e, op2_d, toVal_s, asB_e, chain_e, un_e, not_e, notT_e, andT_e, orT_e, args_n, args_c, frzs_n, frzs_c, lst_e, tup_e, call_e, peeks_n, peeks_c, opN_e, sl_e, part_n, part_s, meth_e, for_e, asgT_e, uNm_e, uTup_e, uCons_e, uNil_e, put_e, putS_e, isOw_e, mut_e, kdAt_e, mutK_e, items_e, enum_e, rng1_e, rng2_e, lc_e, dc_e, par_e, parL_n, parL_f, parL_t, unb_f, unb_n, unb_b, isNew_f, isNew_n, storeL_n, storeL_f, storeL_w, fn_e, mk_e, callK_e, frK_f, frK_n, mkK_e, mkF_e, prep_f, prep_t, prep_n, lentI_f, lentI_t, lentI_n, putOuts_n, putOuts_c, isi_e, fld_e, fldS_e, tru_e, bool_e, aug_e, sortLn_e, callFn_e, finF_x, finF_f, finF_n, outE_z, outZ_c, outZ_n, outS_w, outS_f, outS_o, lend_w, lend_f, lend_n, blk_e, wipe_n, wipe_c, free_e, dtO_n, dtO_s, entry_e, entryE_t, entryE_f, entryE_n, repl_z, outsAt_n, outsAt_f, outsAt_t, List.getElem?_cons_zero, List.getElem?_cons_succ, List.set_cons_zero, List.set_cons_succ, List.map_nil, List.map_cons, List.nil_append, List.cons_append, List.nodup_cons, List.nodup_nil, List.not_mem_nil, List.mem_cons, not_false_eq_true, and_self, and_true, true_and, or_false, false_or, if_true, reduceIte, Bool.false_eq_true, Option.bind_some, Option.map_some, List.length_cons, List.length_nil, Option.some.injEq, kd, Option.map_none, Option.bind_none, reduceCtorEq, Bool.not_true, Bool.not_false, decide_true, decide_false, Nat.reduceAdd, Nat.reduceLT, Nat.reduceLeDiff, Nat.zero_add, Nat.reduceEqDiff, List.replicate, Nat.reduceSub, List.all_cons, List.all_nil, Bool.and_true, Bool.and_self, List.append_nil, lB, tW, List.map_append, disp_c, disp_n, subV_e, key_s, sl_r, list_l, p1, p2, p3]
def s0 : Env' → Res Fl := (dSet 1 (dFn [false] F_law_pen [] [(dVar 0)]))
def s1 : Env' → Res Fl := (dPar [2, 3, 4] [(dFn [true] F_law_anything [] [(dVar 1)]), (dFn [true] F_law_anything [] [(dVar 1)]), (dFn [true] F_law_anything [] [(dVar 1)])])
def s2 : Env' → Res Fl := (dSet 5 (dLst [(dVar 2), (dVar 3), (dVar 4), (dVar 2), (dVar 2), (dVar 2), (dVar 2), (dVar 3), (dVar 2), (dVar 3), (dVar 2), (dVar 2), (dVar 3), (dVar 2)]))
def s3 : Env' → Res Fl := (dSet 5 (dBin semAdd (dVar 5) (dLst [(dVar 2), (dVar 2), (dVar 2), (dVar 2), (dVar 2), (dVar 2), (dVar 2), (dVar 2), (dVar 2), (dVar 2)])))
def s4 : Env' → Res Fl := (dIfS (dOrT (asB (dBin semNeS (dCall semReprE [(dFn [false, false, false] F_law_by_position [] [(dVar 2), (dVar 3), (dVar 4)])]) (dCall semReprE [(dVar 5)]))) (asB (dBin semNeS (dCall semReprE [(dFn [false, false, false] F_law_by_name [] [(dVar 2), (dVar 3), (dVar 4)])]) (dCall semReprE [(dVar 5)])))) (dRet (fun e => .ok (.fz (.bl false)) e)) (fun e => .ok .nx e))
def s5 : Env' → Res Fl := (dSet 6 (dFn [false, false, false] F_law_all_made [] [(dVar 2), (dVar 3), (dVar 4)]))
def s6 : Env' → Res Fl := (dIfS (asB (dBin semNeX (dLc [7] (dItems (dVar 6)) (uNm 7) (some (dOrT (dNotT (dTru (dIsX (ansX 0) (dVar 7)))) (dNotT (dTru (dIsX (ansVE 25) (dVar 7)))))) (dVar 7)) (dLst []))) (dRet (fun e => .ok (.fz (.bl false)) e)) (fun e => .ok .nx e))
def s7 : Env' → Res Fl := (dRet (dBin semEq (dLc [7] (dItems (dVar 6)) (uNm 7) none (dFn [false] F_law_sorts [] [(dVar 7)])) (dLc [8] (dRng1 (fun e => .ok (.fz (.int 24)) e)) (uNm 8) none (dLst [(dVar 8)]))))

theorem law_is : d_law = dSeq s0 (dSeq s1 (dSeq s2 (dSeq s3 (dSeq s4 (dSeq s5 (dSeq s6 s7)))))) := rfl
theorem neS_s (x : Str) : semNeS (.str x) (.str x) = some (.fz (.bl false)) := by
  unfold semNeS
  simp
def e4 (ns : List Int) (p a b c : PV) : Env' := [.fz (.scr ns), .ow true p, .fz a, .fz b, .fz c, .ow true (.lst (due a b c)), .no, .no, .no]
def e6 (ns : List Int) (p a b c : PV) : Env' := [.fz (.scr ns), .ow true p, .fz a, .fz b, .fz c, .ow true (.lst (due a b c)), .ow true (.lst (made a b c)), .no, .no]
theorem s23 (ns : List Int) (p a b c : PV) : dSeq s2 s3 [.fz (.scr ns), .ow true p, .fz a, .fz b, .fz c, .no, .no, .no, .no] = .ok .nx (e4 ns p a b c) := by kernel_rfl
theorem s5_ok (ns : List Int) (p a b c : PV) : s5 (e4 ns p a b c) = .ok .nx (e6 ns p a b c) := by kernel_rfl
def e7 (ns : List Int) (p a b c : PV) : Env' := [.fz (.scr ns), .ow true p, .fz a, .fz b, .fz c, .ow true (.lst (due a b c)), .fz (.lst (made a b c)), .no, .no]
theorem s6_ok (ns : List Int) (p a b c : PV) : s6 (e6 ns p a b c) = .ok .nx (e7 ns p a b c) := by kernel_rfl
theorem s7_ok (ns : List Int) (p a b c : PV) : s7 (e7 ns p a b c) = .ok (.rt (.fz (.bl true))) (e7 ns p a b c) := by kernel_rfl
theorem pen_ok (ns : List Int) : ∃ p, s0 [.fz (.scr ns), .no, .no, .no, .no, .no, .no, .no, .no] = .ok .nx [.fz (.scr ns), .ow true p, .no, .no, .no, .no, .no, .no, .no] ∧ IsPen 0 p := by
  obtain ⟨p, h1, h2⟩ := pen_is ns
  refine ⟨p, ?_, h2⟩
  unfold s0
  simp only [bind_k, bh_k, seqK_n, seqK_r, seq_e, expr_e, ret_e, retV_f, retV_n, retV_b, ifK_t, ifK_f, ifS_e, if_e, set_e, store_f, store_n, store_b, var_e, stl_e, stl_f, stl_n, stl_b, peek_f, peek_n, peek_b, frz_f, frz_n, frz_b, bin_e, op2_d, toVal_s, asB_e, chain_e, un_e, not_e, notT_e, andT_e, orT_e, args_n, args_c, frzs_n, frzs_c, lst_e, tup_e, call_e, peeks_n, peeks_c, opN_e, sl_e, part_n, part_s, meth_e, for_e, asgT_e, uNm_e, uTup_e, uCons_e, uNil_e, put_e, putS_e, isOw_e, mut_e, kdAt_e, mutK_e, items_e, enum_e, rng1_e, rng2_e, lc_e, dc_e, par_e, parL_n, parL_f, parL_t, unb_f, unb_n, unb_b, isNew_f, isNew_n, storeL_n, storeL_f, storeL_w, fn_e, mk_e, callK_e, frK_f, frK_n, mkK_e, mkF_e, prep_f, prep_t, prep_n, lentI_f, lentI_t, lentI_n, putOuts_n, putOuts_c, isi_e, fld_e, fldS_e, tru_e, bool_e, aug_e, sortLn_e, callFn_e, finF_x, finF_f, finF_n, outE_z, outZ_c, outZ_n, outS_w, outS_f, outS_o, lend_w, lend_f, lend_n, blk_e, wipe_n, wipe_c, free_e, dtO_n, dtO_s, entry_e, entryE_t, entryE_f, entryE_n, repl_z, outsAt_n, outsAt_f, outsAt_t, List.getElem?_cons_zero, List.getElem?_cons_succ, List.set_cons_zero, List.set_cons_succ, List.map_nil, List.map_cons, List.nil_append, List.cons_append, List.nodup_cons, List.nodup_nil, List.not_mem_nil, List.mem_cons, not_false_eq_true, and_self, and_true, true_and, or_false, false_or, if_true, reduceIte, Bool.false_eq_true, Option.bind_some, Option.map_some, List.length_cons, List.length_nil, Option.some.injEq, kd, Option.map_none, Option.bind_none, reduceCtorEq, Bool.not_true, Bool.not_false, decide_true, decide_false, Nat.reduceAdd, Nat.reduceLT, Nat.reduceLeDiff, Nat.zero_add, Nat.reduceEqDiff, List.replicate, Nat.reduceSub, List.all_cons, List.all_nil, Bool.and_true, Bool.and_self, List.append_nil, lB, tW, List.map_append, h1]
theorem s1_ok (ns : List Int) {p : PV} (h : IsPen 0 p) : ∃ p' a b c, s1 [.fz (.scr ns), .ow true p, .no, .no, .no, .no, .no, .no, .no] = .ok .nx [.fz (.scr ns), .ow true p', .fz a, .fz b, .fz c, .no, .no, .no, .no] ∧ itm a = true ∧ itm b = true ∧ itm c = true := by
  obtain ⟨a, p1, e1, ha, h1⟩ := any_ok h (by omega)
  obtain ⟨b, p2, e2, hb, h2⟩ := any_ok h1 (by omega)
  obtain ⟨c, p3, e3, hc, h3⟩ := any_ok h2 (by omega)
  refine ⟨p3, a, b, c, ?_, ha, hb, hc⟩
  unfold s1
  simp only [bind_k, bh_k, seqK_n, seqK_r, seq_e, expr_e, ret_e, retV_f, retV_n, retV_b, ifK_t, ifK_f, ifS_e, if_e, set_e, store_f, store_n, store_b, var_e, stl_e, stl_f, stl_n, stl_b, peek_f, peek_n, peek_b, frz_f, frz_n, frz_b, bin_e, op2_d, toVal_s, asB_e, chain_e, un_e, not_e, notT_e, andT_e, orT_e, args_n, args_c, frzs_n, frzs_c, lst_e, tup_e, call_e, peeks_n, peeks_c, opN_e, sl_e, part_n, part_s, meth_e, for_e, asgT_e, uNm_e, uTup_e, uCons_e, uNil_e, put_e, putS_e, isOw_e, mut_e, kdAt_e, mutK_e, items_e, enum_e, rng1_e, rng2_e, lc_e, dc_e, par_e, parL_n, parL_f, parL_t, unb_f, unb_n, unb_b, isNew_f, isNew_n, storeL_n, storeL_f, storeL_w, fn_e, mk_e, callK_e, frK_f, frK_n, mkK_e, mkF_e, prep_f, prep_t, prep_n, lentI_f, lentI_t, lentI_n, putOuts_n, putOuts_c, isi_e, fld_e, fldS_e, tru_e, bool_e, aug_e, sortLn_e, callFn_e, finF_x, finF_f, finF_n, outE_z, outZ_c, outZ_n, outS_w, outS_f, outS_o, lend_w, lend_f, lend_n, blk_e, wipe_n, wipe_c, free_e, dtO_n, dtO_s, entry_e, entryE_t, entryE_f, entryE_n, repl_z, outsAt_n, outsAt_f, outsAt_t, List.getElem?_cons_zero, List.getElem?_cons_succ, List.set_cons_zero, List.set_cons_succ, List.map_nil, List.map_cons, List.nil_append, List.cons_append, List.nodup_cons, List.nodup_nil, List.not_mem_nil, List.mem_cons, not_false_eq_true, and_self, and_true, true_and, or_false, false_or, if_true, reduceIte, Bool.false_eq_true, Option.bind_some, Option.map_some, List.length_cons, List.length_nil, Option.some.injEq, kd, Option.map_none, Option.bind_none, reduceCtorEq, Bool.not_true, Bool.not_false, decide_true, decide_false, Nat.reduceAdd, Nat.reduceLT, Nat.reduceLeDiff, Nat.zero_add, Nat.reduceEqDiff, List.replicate, Nat.reduceSub, List.all_cons, List.all_nil, Bool.and_true, Bool.and_self, List.append_nil, lB, tW, List.map_append, e1, e2, e3]
theorem s4_ok (ns : List Int) {p a b c : PV} (ha : itm a = true) (hb : itm b = true) (hc : itm c = true) : s4 (e4 ns p a b c) = .ok .nx (e4 ns p a b c) := by
  obtain ⟨t, ht⟩ := repr_ok (xs := due a b c) (fun x hx => by
    unfold due at hx
    simp only [List.mem_cons, List.not_mem_nil, or_false] at hx
    rcases hx with rfl | rfl | rfl | rfl | rfl | rfl | rfl | rfl | rfl | rfl | rfl | rfl | rfl | rfl | rfl | rfl | rfl | rfl | rfl | rfl | rfl | rfl | rfl | rfl <;> assumption) (by simp [due])
  unfold s4 e4
  simp only [bind_k, bh_k, seqK_n, seqK_r, seq_e, expr_e, ret_e, retV_f, retV_n, retV_b, ifK_t, ifK_f, ifS_e, if_e, set_e, store_f, store_n, store_b, var_e, stl_e, stl_f, stl_n, stl_b, peek_f, peek_n, peek_b, frz_f, frz_n, frz_b, bin_e, op2_d, toVal_s, asB_e, chain_e, un_e, not_e, notT_e, andT_e, orT_e, args_n, args_c, frzs_n, frzs_c, lst_e, tup_e, call_e, peeks_n, peeks_c, opN_e, sl_e, part_n, part_s, meth_e, for_e, asgT_e, uNm_e, uTup_e, uCons_e, uNil_e, put_e, putS_e, isOw_e, mut_e, kdAt_e, mutK_e, items_e, enum_e, rng1_e, rng2_e, lc_e, dc_e, par_e, parL_n, parL_f, parL_t, unb_f, unb_n, unb_b, isNew_f, isNew_n, storeL_n, storeL_f, storeL_w, fn_e, mk_e, callK_e, frK_f, frK_n, mkK_e, mkF_e, prep_f, prep_t, prep_n, lentI_f, lentI_t, lentI_n, putOuts_n, putOuts_c, isi_e, fld_e, fldS_e, tru_e, bool_e, aug_e, sortLn_e, callFn_e, finF_x, finF_f, finF_n, outE_z, outZ_c, outZ_n, outS_w, outS_f, outS_o, lend_w, lend_f, lend_n, blk_e, wipe_n, wipe_c, free_e, dtO_n, dtO_s, entry_e, entryE_t, entryE_f, entryE_n, repl_z, outsAt_n, outsAt_f, outsAt_t, List.getElem?_cons_zero, List.getElem?_cons_succ, List.set_cons_zero, List.set_cons_succ, List.map_nil, List.map_cons, List.nil_append, List.cons_append, List.nodup_cons, List.nodup_nil, List.not_mem_nil, List.mem_cons, not_false_eq_true, and_self, and_true, true_and, or_false, false_or, if_true, reduceIte, Bool.false_eq_true, Option.bind_some, Option.map_some, List.length_cons, List.length_nil, Option.some.injEq, kd, Option.map_none, Option.bind_none, reduceCtorEq, Bool.not_true, Bool.not_false, decide_true, decide_false, Nat.reduceAdd, Nat.reduceLT, Nat.reduceLeDiff, Nat.zero_add, Nat.reduceEqDiff, List.replicate, Nat.reduceSub, List.all_cons, List.all_nil, Bool.and_true, Bool.and_self, List.append_nil, lB, tW, List.map_append, pos_ok, nam_ok, ht, neS_s]
theorem pure_law (ns : List Int) (hl : ns.length ≤ 63) : F_law [.scr ns] = .ok (.fz (.bl true)) [] := by
  obtain ⟨p, h0, hp⟩ := pen_ok ns
  obtain ⟨p', a, b, c, h1, ha, hb, hc⟩ := s1_ok ns hp
  have h23 := s23 ns p' a b c
  rw [seq_e] at h23
  unfold F_law
  rw [callFn_e, law_is]
  have e0 : entry 9 [false] [.scr ns] = [.fz (.scr ns), .no, .no, .no, .no, .no, .no, .no, .no] := rfl
  have h2 : s2 [.fz (.scr ns), .ow true p', .fz a, .fz b, .fz c, .no, .no, .no, .no] = .ok .nx [.fz (.scr ns), .ow true p', .fz a, .fz b, .fz c, .ow true (.lst [a, b, c, a, a, a, a, b, a, b, a, a, b, a]), .no, .no, .no] := by kernel_rfl
  have h3 : s3 [.fz (.scr ns), .ow true p', .fz a, .fz b, .fz c, .ow true (.lst [a, b, c, a, a, a, a, b, a, b, a, a, b, a]), .no, .no, .no] = .ok .nx (e4 ns p' a b c) := by kernel_rfl
  rw [e0]
  simp only [seq_e, h0, bind_k, seqK_n, h1, h2, h3, s4_ok ns ha hb hc, s5_ok, s6_ok, s7_ok]
  rfl
end K00

set_option maxRecDepth 100000
set_option maxHeartbeats 0
namespace HK00
open PySem PySem.Spec L2 VL
open PyProof.Rows hiding St
open K00 (top mth)
def dd_law_pen : He.DefD := ⟨("_law_pen", none), "_law_pen", "_law_pen", defArgs (top 27), defBody (top 27), defScope (top 27), [], []⟩
def dd_law_draw : He.DefD := ⟨("_law_draw", none), "_law_draw", "_law_draw", defArgs (top 28), defBody (top 28), defScope (top 28), [], []⟩
def dd_law_pick : He.DefD := ⟨("_law_pick", none), "_law_pick", "_law_pick", defArgs (top 29), defBody (top 29), defScope (top 29), [], []⟩
def dd_law_anything : He.DefD := ⟨("_law_anything", none), "_law_anything", "_law_anything", defArgs (top 30), defBody (top 30), defScope (top 30), [], []⟩
def dd_law_by_position : He.DefD := ⟨("_law_by_position", none), "_law_by_position", "_law_by_position", defArgs (top 31), defBody (top 31), defScope (top 31), [], []⟩
def dd_law_by_name : He.DefD := ⟨("_law_by_name", none), "_law_by_name", "_law_by_name", defArgs (top 32), defBody (top 32), defScope (top 32), [], []⟩
def dd_law_all_made : He.DefD := ⟨("_law_all_made", none), "_law_all_made", "_law_all_made", defArgs (top 33), defBody (top 33), defScope (top 33), [], []⟩
def dd_law_sorts : He.DefD := ⟨("_law_sorts", none), "_law_sorts", "_law_sorts", defArgs (top 34), defBody (top 34), defScope (top 34), [], []⟩
def dd_law : He.DefD := ⟨("law", none), "law", "law", defArgs (top 35), defBody (top 35), defScope (top 35), [], []⟩
def fn0 : List He.DefD := [dd_law_pen, dd_law_draw, dd_law_pick, dd_law_anything, dd_law_by_position, dd_law_by_name, dd_law_all_made, dd_law_sorts, dd_law]
def fn : List He.DefD := fn0
def fa0 : List He.Fa := [.glo "_law_pen", .glo "_law_draw", .glo "_law_pick", .glo "_law_anything", .glo "_law_by_position", .glo "_law_by_name", .glo "_law_all_made", .glo "_law_sorts", .glo "law", .glo "JoinsError", .glo "TooMany", .glo "BadCount", .glo "BadLength", .glo "NotFull", .glo "BadWord", .glo "Begins", .glo "OtherSize", .glo "BadSize", .glo "NoBorder", .glo "TooShort", .glo "TooLong", .glo "BadOver", .glo "BadTie", .glo "NotLeast", .glo "BadSign", .glo "BadRule", .glo "Ring", .glo "NoRule", .glo "BadPlace", .glo "BadBits"]
def fa1 : List He.Fa := [.glo "BadNode", .glo "BadTable", .glo "BadLooks", .glo "NoSigns", .free "repr", .free "len", .free "abs", .free "sum", .free "all", .free "any", .free "max", .free "min", .free "sorted", .free "isinstance", .free "int", .free "bool", .free "str", .free "tuple", .free "list", .free "dict", .free "range", .free "enumerate", .free "zip", .free "ValueError"]
def fa : List He.Fa := fa0 ++ fa1
def tf : List He.Defn := [("law", none)]
def bt : List String := ["int", "bool", "str", "tuple", "list", "dict"]
def clss : List Str := []
def kt : List String := ["NoneType", "bool", "int", "str", "tuple", "list", "dict"]
def exO (K : PySem.W.Frag) (x : Str) : Bool := He.eqO (PySem.W.findIn K (.ref (He.ga K x)) "__ne__") (some (some (.builtin "object.__ne__"))) && ((clss.all fun y => decide (PySem.W.kitOne K (.ref (He.ga K y)) (.ref (He.ga K x)) = some (decide (y = x)))) && kt.all fun T => decide (PySem.W.kitOne K (.type T) (.ref (He.ga K x)) = some false))
def exC (K : PySem.W.Frag) (x : Str) : Bool := He.eqO (PySem.W.findIn K (.ref (He.ga K x)) "__class__") (some (some (.builtin "object.__class__"))) && (decide (PySem.W.mroIn K (He.ga K x) (.type "object") = some true) && ((bt.all fun T => decide (PySem.W.kitOne K (.ref (He.ga K x)) (.type T) = some false)) && exO K x))
def lamB (K : PySem.W.Frag) : Bool := tf.all fun r => tf.all fun p => decide ((He.cT K r).2 = (He.cT K p).2 → r = p)
def ed_TooMany : ErrDf := ⟨"TooMany", "TooMany.__init__", defArgs (mth 2 0), defBody (mth 2 0), defScope (mth 2 0)⟩
def ed_BadCount : ErrDf := ⟨"BadCount", "BadCount.__init__", defArgs (mth 3 0), defBody (mth 3 0), defScope (mth 3 0)⟩
def ed_BadLength : ErrDf := ⟨"BadLength", "BadLength.__init__", defArgs (mth 4 0), defBody (mth 4 0), defScope (mth 4 0)⟩
def ed_NotFull : ErrDf := ⟨"NotFull", "NotFull.__init__", defArgs (mth 5 0), defBody (mth 5 0), defScope (mth 5 0)⟩
def ed_BadWord : ErrDf := ⟨"BadWord", "BadWord.__init__", defArgs (mth 6 0), defBody (mth 6 0), defScope (mth 6 0)⟩
def ed_Begins : ErrDf := ⟨"Begins", "Begins.__init__", defArgs (mth 7 0), defBody (mth 7 0), defScope (mth 7 0)⟩
def ed_OtherSize : ErrDf := ⟨"OtherSize", "OtherSize.__init__", defArgs (mth 8 0), defBody (mth 8 0), defScope (mth 8 0)⟩
def ed_BadSize : ErrDf := ⟨"BadSize", "BadSize.__init__", defArgs (mth 9 0), defBody (mth 9 0), defScope (mth 9 0)⟩
def ed_NoBorder : ErrDf := ⟨"NoBorder", "NoBorder.__init__", defArgs (mth 10 0), defBody (mth 10 0), defScope (mth 10 0)⟩
def ed_TooShort : ErrDf := ⟨"TooShort", "TooShort.__init__", defArgs (mth 11 0), defBody (mth 11 0), defScope (mth 11 0)⟩
def ed_TooLong : ErrDf := ⟨"TooLong", "TooLong.__init__", defArgs (mth 12 0), defBody (mth 12 0), defScope (mth 12 0)⟩
def ed_BadOver : ErrDf := ⟨"BadOver", "BadOver.__init__", defArgs (mth 13 0), defBody (mth 13 0), defScope (mth 13 0)⟩
def ed_BadTie : ErrDf := ⟨"BadTie", "BadTie.__init__", defArgs (mth 14 0), defBody (mth 14 0), defScope (mth 14 0)⟩
def ed_NotLeast : ErrDf := ⟨"NotLeast", "NotLeast.__init__", defArgs (mth 15 0), defBody (mth 15 0), defScope (mth 15 0)⟩
def ed_BadSign : ErrDf := ⟨"BadSign", "BadSign.__init__", defArgs (mth 16 0), defBody (mth 16 0), defScope (mth 16 0)⟩
def ed_BadRule : ErrDf := ⟨"BadRule", "BadRule.__init__", defArgs (mth 17 0), defBody (mth 17 0), defScope (mth 17 0)⟩
def ed_Ring : ErrDf := ⟨"Ring", "Ring.__init__", defArgs (mth 18 0), defBody (mth 18 0), defScope (mth 18 0)⟩
def ed_NoRule : ErrDf := ⟨"NoRule", "NoRule.__init__", defArgs (mth 19 0), defBody (mth 19 0), defScope (mth 19 0)⟩
def ed_BadPlace : ErrDf := ⟨"BadPlace", "BadPlace.__init__", defArgs (mth 20 0), defBody (mth 20 0), defScope (mth 20 0)⟩
def ed_BadBits : ErrDf := ⟨"BadBits", "BadBits.__init__", defArgs (mth 21 0), defBody (mth 21 0), defScope (mth 21 0)⟩
def ed_BadNode : ErrDf := ⟨"BadNode", "BadNode.__init__", defArgs (mth 22 0), defBody (mth 22 0), defScope (mth 22 0)⟩
def ed_BadTable : ErrDf := ⟨"BadTable", "BadTable.__init__", defArgs (mth 23 0), defBody (mth 23 0), defScope (mth 23 0)⟩
def ed_BadLooks : ErrDf := ⟨"BadLooks", "BadLooks.__init__", defArgs (mth 24 0), defBody (mth 24 0), defScope (mth 24 0)⟩
def ed_NoSigns : ErrDf := ⟨"NoSigns", "NoSigns.__init__", defArgs (mth 25 0), defBody (mth 25 0), defScope (mth 25 0)⟩
def es : List ErrDf := [ed_TooMany, ed_BadCount, ed_BadLength, ed_NotFull, ed_BadWord, ed_Begins, ed_OtherSize, ed_BadSize, ed_NoBorder, ed_TooShort, ed_TooLong, ed_BadOver, ed_BadTie, ed_NotLeast, ed_BadSign, ed_BadRule, ed_Ring, ed_NoRule, ed_BadPlace, ed_BadBits, ed_BadNode, ed_BadTable, ed_BadLooks, ed_NoSigns]
def ery : List (Str × List Str) := [("JoinsError", []), ("TooMany", ["what", "many", "most"]), ("BadCount", ["index"]), ("BadLength", ["index"]), ("NotFull", []), ("BadWord", ["index"]), ("Begins", ["index", "other"]), ("OtherSize", ["many", "wanted"]), ("BadSize", ["size"]), ("NoBorder", []), ("TooShort", ["most", "least"]), ("TooLong", ["sign"]), ("BadOver", []), ("BadTie", ["tie"]), ("NotLeast", []), ("BadSign", ["index"]), ("BadRule", ["name"]), ("Ring", ["name"]), ("NoRule", ["root"]), ("BadPlace", ["place"]), ("BadBits", ["index"]), ("BadNode", ["node"]), ("BadTable", ["node"]), ("BadLooks", ["looks"]), ("NoSigns", [])]
def eryN : List Str := ["JoinsError", "TooMany", "BadCount", "BadLength", "NotFull", "BadWord", "Begins", "OtherSize", "BadSize", "NoBorder", "TooShort", "TooLong", "BadOver", "BadTie", "NotLeast", "BadSign", "BadRule", "Ring", "NoRule", "BadPlace", "BadBits", "BadNode", "BadTable", "BadLooks", "NoSigns"]
def fileN : Str := "/claim/cut.py"
def exE (K : PySem.W.Frag) : Bool := (es.all fun d => madB fileN K d.cls d.qual) && ((ery.all fun p => eryB K p.1 p.2) && ansTB K eryN K00.ansX)
def ex0 (K : PySem.W.Frag) : Bool := He.eqO (PySem.W.specialIn K (.builtin "object.__class__") "__get__") (some (some (.builtin "getset_descriptor.__get__"))) && (decide (PySem.W.takesIn K (.builtin "object.__class__") = some true) && (clss.all (exC K) && lamB K))
def ex (K : PySem.W.Frag) : Bool := ex0 K && (exE K && veB K eryN)
def lo0 : List Str := ["JoinsError", "TooMany", "BadCount", "BadLength", "NotFull", "BadWord", "Begins", "OtherSize", "BadSize", "NoBorder", "TooShort", "TooLong", "BadOver", "BadTie", "NotLeast", "BadSign", "BadRule", "Ring", "NoRule", "BadPlace", "BadBits", "BadNode", "BadTable", "BadLooks", "NoSigns", "_law_pen", "_law_draw", "_law_pick", "_law_anything", "_law_by_position"]
def lo1 : List Str := ["_law_by_name", "_law_all_made", "_law_sorts"]
def loose : List Str := lo0 ++ lo1
abbrev R : PySem.W.OpenRow := PySem.W.OpenLaw.row PySem.Challenge.rw_leastjoined_k00_errors
abbrev hk : PySem.W.Hook := hookY 4 fa fn tf ex es
def ob (s : PySem.W.SharedT) : AlY := obsY 4 fa fn tf ex es (HandSHeadRun.getT s)
theorem ob_eq (s : PySem.W.SharedT) : ob s = hk.obs s.abs := obsY_eq (HandSHeadRun.getT_eq s)
abbrev qv : Program := PySem.W.view R.prog [35]
theorem run (w : World) : HandSHeadRun.RunEq R qv hk ob 20000 loose w := by
  intro os
  kernel_rfl
def adK (K : PySem.W.Frag) : Nat → Addr
  | _ => 0
def eaK (K : PySem.W.Frag) : Nat → Addr
  | 0 => He.ga K "JoinsError"
  | 1 => He.ga K "TooMany"
  | 2 => He.ga K "BadCount"
  | 3 => He.ga K "BadLength"
  | 4 => He.ga K "NotFull"
  | 5 => He.ga K "BadWord"
  | 6 => He.ga K "Begins"
  | 7 => He.ga K "OtherSize"
  | 8 => He.ga K "BadSize"
  | 9 => He.ga K "NoBorder"
  | 10 => He.ga K "TooShort"
  | 11 => He.ga K "TooLong"
  | 12 => He.ga K "BadOver"
  | 13 => He.ga K "BadTie"
  | 14 => He.ga K "NotLeast"
  | 15 => He.ga K "BadSign"
  | 16 => He.ga K "BadRule"
  | 17 => He.ga K "Ring"
  | 18 => He.ga K "NoRule"
  | 19 => He.ga K "BadPlace"
  | 20 => He.ga K "BadBits"
  | 21 => He.ga K "BadNode"
  | 22 => He.ga K "BadTable"
  | 23 => He.ga K "BadLooks"
  | 24 => He.ga K "NoSigns"
  | _ => He.ga K "JoinsError"
def CK (K : PySem.W.Frag) : Ct := ⟨K, adK K, K00.lay, K00.nam, tf.map fun p => ((He.cT K p).2, lamQ p.1), eaK K, K00.eLay⟩
section
variable {w : World} {K : PySem.W.Frag} {h : Heap} {mg : Str → Option Value} (X : K.In h) (G : h.Ns mainGlobals mg) (c : He.SaysX fa fn [] tf ex w h K)
include X G c
theorem fx_ok : K00.Fx mg where
  n_abs := He.free_ok X G (c.t.d.facts (f := .free "abs") (List.mem_of_getElem? (i := 36) rfl))
  n_int := He.free_ok X G (c.t.d.facts (f := .free "int") (List.mem_of_getElem? (i := 44) rfl))
  n_len := He.free_ok X G (c.t.d.facts (f := .free "len") (List.mem_of_getElem? (i := 35) rfl))
  n_list := He.free_ok X G (c.t.d.facts (f := .free "list") (List.mem_of_getElem? (i := 48) rfl))
  n_range := He.free_ok X G (c.t.d.facts (f := .free "range") (List.mem_of_getElem? (i := 50) rfl))
  n_repr := He.free_ok X G (c.t.d.facts (f := .free "repr") (List.mem_of_getElem? (i := 34) rfl))
theorem ex_ok : He.eqO (PySem.W.specialIn K (.builtin "object.__class__") "__get__") (some (some (.builtin "getset_descriptor.__get__"))) = true ∧ PySem.W.takesIn K (.builtin "object.__class__") = some true ∧ (∀ x ∈ clss, exC K x = true) ∧ lamB K = true := by
  obtain ⟨h1, h2⟩ := He.ba (show (_ && _) = true from (He.ba (show (_ && _) = true from c.more)).1)
  obtain ⟨h3, h4⟩ := He.ba (show (_ && _) = true from h2)
  obtain ⟨h5, h6⟩ := He.ba (show (_ && _) = true from h4)
  exact ⟨h1, of_decide_eq_true h3, fun x hx => List.all_eq_true.mp h5 x hx, h6⟩
theorem cf_ok : K00.CF (CK K) K00.lay K00.nam := ⟨rfl⟩
theorem dx_ok : K00.Dx K mg (CK K) where
  hK := rfl
  d_law_pen := let ⟨fd, F⟩ := c.t.d.defs (d := dd_law_pen) (List.mem_of_getElem? (i := 0) rfl); ⟨_, fd, He.glo_ok X G (c.t.d.facts (f := .glo "_law_pen") (List.mem_of_getElem? (i := 0) rfl)), F⟩
  d_law_draw := let ⟨fd, F⟩ := c.t.d.defs (d := dd_law_draw) (List.mem_of_getElem? (i := 1) rfl); ⟨_, fd, He.glo_ok X G (c.t.d.facts (f := .glo "_law_draw") (List.mem_of_getElem? (i := 1) rfl)), F⟩
  d_law_pick := let ⟨fd, F⟩ := c.t.d.defs (d := dd_law_pick) (List.mem_of_getElem? (i := 2) rfl); ⟨_, fd, He.glo_ok X G (c.t.d.facts (f := .glo "_law_pick") (List.mem_of_getElem? (i := 2) rfl)), F⟩
  d_law_anything := let ⟨fd, F⟩ := c.t.d.defs (d := dd_law_anything) (List.mem_of_getElem? (i := 3) rfl); ⟨_, fd, He.glo_ok X G (c.t.d.facts (f := .glo "_law_anything") (List.mem_of_getElem? (i := 3) rfl)), F⟩
  d_law_by_position := let ⟨fd, F⟩ := c.t.d.defs (d := dd_law_by_position) (List.mem_of_getElem? (i := 4) rfl); ⟨_, fd, He.glo_ok X G (c.t.d.facts (f := .glo "_law_by_position") (List.mem_of_getElem? (i := 4) rfl)), F⟩
  d_law_by_name := let ⟨fd, F⟩ := c.t.d.defs (d := dd_law_by_name) (List.mem_of_getElem? (i := 5) rfl); ⟨_, fd, He.glo_ok X G (c.t.d.facts (f := .glo "_law_by_name") (List.mem_of_getElem? (i := 5) rfl)), F⟩
  d_law_all_made := let ⟨fd, F⟩ := c.t.d.defs (d := dd_law_all_made) (List.mem_of_getElem? (i := 6) rfl); ⟨_, fd, He.glo_ok X G (c.t.d.facts (f := .glo "_law_all_made") (List.mem_of_getElem? (i := 6) rfl)), F⟩
  d_law_sorts := let ⟨fd, F⟩ := c.t.d.defs (d := dd_law_sorts) (List.mem_of_getElem? (i := 7) rfl); ⟨_, fd, He.glo_ok X G (c.t.d.facts (f := .glo "_law_sorts") (List.mem_of_getElem? (i := 7) rfl)), F⟩
theorem lam_at {p : He.Defn} (hp : p ∈ tf) : ∀ q ∈ (CK K).T, q.1 = (He.cT K p).2 → q.2 = lamQ p.1 := by
  obtain ⟨_, _, _, h⟩ := ex_ok X G c
  intro q hq e
  obtain ⟨r, hr, rfl⟩ := List.mem_map.mp hq
  have := of_decide_eq_true (List.all_eq_true.mp (List.all_eq_true.mp h r hr) p hp)
  rw [this e]
theorem lx_ok {base : Heap} (tb : ∀ p ∈ tf.map (He.cT K), LamX.TabB base mg p.1 p.2) : K00.Lx K mg base (CK K) where
  l_law := let ⟨fd, F⟩ := c.t.d.defs (d := dd_law) (List.mem_of_getElem? (i := 8) rfl); ⟨_, fd, _, He.glo_ok X G (c.t.d.facts (f := .glo "law") (List.mem_of_getElem? (i := 8) rfl)), F, code_at F, ⟨_, tb _ (List.mem_map_of_mem (f := He.cT K) (l := tf) (a := ("law", none)) (List.mem_of_getElem? (i := 0) rfl)), List.mem_map.mpr ⟨("law", none), (List.mem_of_getElem? (i := 0) rfl), rfl⟩, lam_at X G c (p := ("law", none)) (List.mem_of_getElem? (i := 0) rfl)⟩⟩
  one := trivial
theorem law_ok : ∃ fd, mg "law" = some (.ref (He.fAd K ("law", none))) ∧ FunD K "law" "law" (defArgs (top 35)) (defBody (top 35)) (defScope (top 35)) [] [] (He.fAd K ("law", none)) fd := let ⟨fd, F⟩ := c.t.d.defs (d := dd_law) (List.mem_of_getElem? (i := 8) rfl); ⟨fd, He.glo_ok X G (c.t.d.facts (f := .glo "law") (List.mem_of_getElem? (i := 8) rfl)), F⟩
theorem lfl_ok {base : Heap} (tb : ∀ p ∈ tf.map (He.cT K), LamX.TabB base mg p.1 p.2) : LamF base mg (CK K) "law" (He.cT K ("law", none)).1 := ⟨_, tb _ (List.mem_map_of_mem (f := He.cT K) (l := tf) (a := ("law", none)) (List.mem_of_getElem? (i := 0) rfl)), List.mem_map.mpr ⟨("law", none), (List.mem_of_getElem? (i := 0) rfl), rfl⟩, lam_at X G c (p := ("law", none)) (List.mem_of_getElem? (i := 0) rfl)⟩
theorem exE_ok : (∀ d ∈ es, madB fileN K d.cls d.qual = true) ∧ (∀ p ∈ ery, eryB K p.1 p.2 = true) ∧ ansTB K eryN K00.ansX = true := by
  obtain ⟨h1, h2⟩ := He.ba (show (_ && _) = true from (He.ba (show (_ && _) = true from (He.ba (show (_ && _) = true from c.more)).2)).1)
  obtain ⟨h3, h4⟩ := He.ba (show (_ && _) = true from h2)
  exact ⟨fun d hd => List.all_eq_true.mp h1 d hd, fun p hp => List.all_eq_true.mp h3 p hp, h4⟩
theorem erc_ok (i : Nat) : ErrC (CK K) i := by
  match i with
  | 0 => exact errC_ok ((exE_ok X G c).2.1 ("JoinsError", []) (List.mem_of_getElem? (i := 0) rfl)) rfl rfl rfl (by decide)
  | 1 => exact errC_ok ((exE_ok X G c).2.1 ("TooMany", ["what", "many", "most"]) (List.mem_of_getElem? (i := 1) rfl)) rfl rfl rfl (by decide)
  | 2 => exact errC_ok ((exE_ok X G c).2.1 ("BadCount", ["index"]) (List.mem_of_getElem? (i := 2) rfl)) rfl rfl rfl (by decide)
  | 3 => exact errC_ok ((exE_ok X G c).2.1 ("BadLength", ["index"]) (List.mem_of_getElem? (i := 3) rfl)) rfl rfl rfl (by decide)
  | 4 => exact errC_ok ((exE_ok X G c).2.1 ("NotFull", []) (List.mem_of_getElem? (i := 4) rfl)) rfl rfl rfl (by decide)
  | 5 => exact errC_ok ((exE_ok X G c).2.1 ("BadWord", ["index"]) (List.mem_of_getElem? (i := 5) rfl)) rfl rfl rfl (by decide)
  | 6 => exact errC_ok ((exE_ok X G c).2.1 ("Begins", ["index", "other"]) (List.mem_of_getElem? (i := 6) rfl)) rfl rfl rfl (by decide)
  | 7 => exact errC_ok ((exE_ok X G c).2.1 ("OtherSize", ["many", "wanted"]) (List.mem_of_getElem? (i := 7) rfl)) rfl rfl rfl (by decide)
  | 8 => exact errC_ok ((exE_ok X G c).2.1 ("BadSize", ["size"]) (List.mem_of_getElem? (i := 8) rfl)) rfl rfl rfl (by decide)
  | 9 => exact errC_ok ((exE_ok X G c).2.1 ("NoBorder", []) (List.mem_of_getElem? (i := 9) rfl)) rfl rfl rfl (by decide)
  | 10 => exact errC_ok ((exE_ok X G c).2.1 ("TooShort", ["most", "least"]) (List.mem_of_getElem? (i := 10) rfl)) rfl rfl rfl (by decide)
  | 11 => exact errC_ok ((exE_ok X G c).2.1 ("TooLong", ["sign"]) (List.mem_of_getElem? (i := 11) rfl)) rfl rfl rfl (by decide)
  | 12 => exact errC_ok ((exE_ok X G c).2.1 ("BadOver", []) (List.mem_of_getElem? (i := 12) rfl)) rfl rfl rfl (by decide)
  | 13 => exact errC_ok ((exE_ok X G c).2.1 ("BadTie", ["tie"]) (List.mem_of_getElem? (i := 13) rfl)) rfl rfl rfl (by decide)
  | 14 => exact errC_ok ((exE_ok X G c).2.1 ("NotLeast", []) (List.mem_of_getElem? (i := 14) rfl)) rfl rfl rfl (by decide)
  | 15 => exact errC_ok ((exE_ok X G c).2.1 ("BadSign", ["index"]) (List.mem_of_getElem? (i := 15) rfl)) rfl rfl rfl (by decide)
  | 16 => exact errC_ok ((exE_ok X G c).2.1 ("BadRule", ["name"]) (List.mem_of_getElem? (i := 16) rfl)) rfl rfl rfl (by decide)
  | 17 => exact errC_ok ((exE_ok X G c).2.1 ("Ring", ["name"]) (List.mem_of_getElem? (i := 17) rfl)) rfl rfl rfl (by decide)
  | 18 => exact errC_ok ((exE_ok X G c).2.1 ("NoRule", ["root"]) (List.mem_of_getElem? (i := 18) rfl)) rfl rfl rfl (by decide)
  | 19 => exact errC_ok ((exE_ok X G c).2.1 ("BadPlace", ["place"]) (List.mem_of_getElem? (i := 19) rfl)) rfl rfl rfl (by decide)
  | 20 => exact errC_ok ((exE_ok X G c).2.1 ("BadBits", ["index"]) (List.mem_of_getElem? (i := 20) rfl)) rfl rfl rfl (by decide)
  | 21 => exact errC_ok ((exE_ok X G c).2.1 ("BadNode", ["node"]) (List.mem_of_getElem? (i := 21) rfl)) rfl rfl rfl (by decide)
  | 22 => exact errC_ok ((exE_ok X G c).2.1 ("BadTable", ["node"]) (List.mem_of_getElem? (i := 22) rfl)) rfl rfl rfl (by decide)
  | 23 => exact errC_ok ((exE_ok X G c).2.1 ("BadLooks", ["looks"]) (List.mem_of_getElem? (i := 23) rfl)) rfl rfl rfl (by decide)
  | 24 => exact errC_ok ((exE_ok X G c).2.1 ("NoSigns", []) (List.mem_of_getElem? (i := 24) rfl)) rfl rfl rfl (by decide)
  | _ + 25 => exact errC_ok ((exE_ok X G c).2.1 ("JoinsError", []) (List.mem_of_getElem? (i := 0) rfl)) rfl rfl rfl (by decide)
theorem ek_ok (ce : es.map (fun d => errObs K d.cls) = es.map ErrDf.val) {P : Program} {base : Heap} (hfile : ((P.main.file : Str) == fileN) = true) (htop : (P.main.scope.names.lookup ("super" : Str)).isSome = false) : K00.Ek P w K mg base (CK K) where
  n_JoinsError := He.glo_ok X G (c.t.d.facts (f := .glo "JoinsError") (List.mem_of_getElem? (i := 9) rfl))
  e_TooMany := emk_ok (d := ed_TooMany) (N := ["self", "what", "many", "most"]) (ps := ["self", "what", "many", "most"]) (fs := ["what", "many", "most"]) ((exE_ok X G c).1 ed_TooMany (List.mem_of_getElem? (i := 0) rfl)) (errs_at ce (List.mem_of_getElem? (i := 0) rfl)) rfl (He.glo_ok X G (c.t.d.facts (f := .glo "TooMany") (List.mem_of_getElem? (i := 10) rfl))) (by decide) hfile htop rfl (supScope_by (by decide +kernel)) rfl rfl rfl (by decide) (by decide) rfl (.cons rfl (by decide) (by decide) (.cons rfl (by decide) (by decide) (.cons rfl (by decide) (by decide) (.nil _)))) (fieL_ok (He.ba ((exE_ok X G c).2.1 ("TooMany", ["what", "many", "most"]) (List.mem_of_getElem? (i := 1) rfl))).2) (fun _ _ _ _ _ _ _ us hl => match us, hl with | [_, _, _, _], _ => rfl) (by decide)
  l_TooMany := rfl
  k_TooMany := emkk_ok (d := ed_TooMany) (N := ["self", "what", "many", "most"]) (ps := ["self", "what", "many", "most"]) (fs := ["what", "many", "most"]) ((exE_ok X G c).1 ed_TooMany (List.mem_of_getElem? (i := 0) rfl)) (errs_at ce (List.mem_of_getElem? (i := 0) rfl)) rfl (He.glo_ok X G (c.t.d.facts (f := .glo "TooMany") (List.mem_of_getElem? (i := 10) rfl))) (by decide) hfile htop rfl (supScope_by (by decide +kernel)) rfl rfl rfl (by decide) (by decide) rfl (.cons rfl (by decide) (by decide) (.cons rfl (by decide) (by decide) (.cons rfl (by decide) (by decide) (.nil _)))) (fieL_ok (He.ba ((exE_ok X G c).2.1 ("TooMany", ["what", "many", "most"]) (List.mem_of_getElem? (i := 1) rfl))).2) (fun _ _ _ _ _ _ _ _ us hl => match us, hl with | [_, _, _], _ => rfl) (by decide)
  f_TooMany := rfl
  n_TooMany := He.glo_ok X G (c.t.d.facts (f := .glo "TooMany") (List.mem_of_getElem? (i := 10) rfl))
  e_BadCount := emk_ok (d := ed_BadCount) (N := ["self", "index"]) (ps := ["self", "index"]) (fs := ["index"]) ((exE_ok X G c).1 ed_BadCount (List.mem_of_getElem? (i := 1) rfl)) (errs_at ce (List.mem_of_getElem? (i := 1) rfl)) rfl (He.glo_ok X G (c.t.d.facts (f := .glo "BadCount") (List.mem_of_getElem? (i := 11) rfl))) (by decide) hfile htop rfl (supScope_by (by decide +kernel)) rfl rfl rfl (by decide) (by decide) rfl (.cons rfl (by decide) (by decide) (.nil _)) (fieL_ok (He.ba ((exE_ok X G c).2.1 ("BadCount", ["index"]) (List.mem_of_getElem? (i := 2) rfl))).2) (fun _ _ _ _ _ _ _ us hl => match us, hl with | [_, _], _ => rfl) (by decide)
  l_BadCount := rfl
  k_BadCount := emkk_ok (d := ed_BadCount) (N := ["self", "index"]) (ps := ["self", "index"]) (fs := ["index"]) ((exE_ok X G c).1 ed_BadCount (List.mem_of_getElem? (i := 1) rfl)) (errs_at ce (List.mem_of_getElem? (i := 1) rfl)) rfl (He.glo_ok X G (c.t.d.facts (f := .glo "BadCount") (List.mem_of_getElem? (i := 11) rfl))) (by decide) hfile htop rfl (supScope_by (by decide +kernel)) rfl rfl rfl (by decide) (by decide) rfl (.cons rfl (by decide) (by decide) (.nil _)) (fieL_ok (He.ba ((exE_ok X G c).2.1 ("BadCount", ["index"]) (List.mem_of_getElem? (i := 2) rfl))).2) (fun _ _ _ _ _ _ _ _ us hl => match us, hl with | [_], _ => rfl) (by decide)
  f_BadCount := rfl
  n_BadCount := He.glo_ok X G (c.t.d.facts (f := .glo "BadCount") (List.mem_of_getElem? (i := 11) rfl))
  e_BadLength := emk_ok (d := ed_BadLength) (N := ["self", "index"]) (ps := ["self", "index"]) (fs := ["index"]) ((exE_ok X G c).1 ed_BadLength (List.mem_of_getElem? (i := 2) rfl)) (errs_at ce (List.mem_of_getElem? (i := 2) rfl)) rfl (He.glo_ok X G (c.t.d.facts (f := .glo "BadLength") (List.mem_of_getElem? (i := 12) rfl))) (by decide) hfile htop rfl (supScope_by (by decide +kernel)) rfl rfl rfl (by decide) (by decide) rfl (.cons rfl (by decide) (by decide) (.nil _)) (fieL_ok (He.ba ((exE_ok X G c).2.1 ("BadLength", ["index"]) (List.mem_of_getElem? (i := 3) rfl))).2) (fun _ _ _ _ _ _ _ us hl => match us, hl with | [_, _], _ => rfl) (by decide)
  l_BadLength := rfl
  k_BadLength := emkk_ok (d := ed_BadLength) (N := ["self", "index"]) (ps := ["self", "index"]) (fs := ["index"]) ((exE_ok X G c).1 ed_BadLength (List.mem_of_getElem? (i := 2) rfl)) (errs_at ce (List.mem_of_getElem? (i := 2) rfl)) rfl (He.glo_ok X G (c.t.d.facts (f := .glo "BadLength") (List.mem_of_getElem? (i := 12) rfl))) (by decide) hfile htop rfl (supScope_by (by decide +kernel)) rfl rfl rfl (by decide) (by decide) rfl (.cons rfl (by decide) (by decide) (.nil _)) (fieL_ok (He.ba ((exE_ok X G c).2.1 ("BadLength", ["index"]) (List.mem_of_getElem? (i := 3) rfl))).2) (fun _ _ _ _ _ _ _ _ us hl => match us, hl with | [_], _ => rfl) (by decide)
  f_BadLength := rfl
  n_BadLength := He.glo_ok X G (c.t.d.facts (f := .glo "BadLength") (List.mem_of_getElem? (i := 12) rfl))
  e_NotFull := emk_ok (d := ed_NotFull) (N := ["self"]) (ps := ["self"]) (fs := []) ((exE_ok X G c).1 ed_NotFull (List.mem_of_getElem? (i := 3) rfl)) (errs_at ce (List.mem_of_getElem? (i := 3) rfl)) rfl (He.glo_ok X G (c.t.d.facts (f := .glo "NotFull") (List.mem_of_getElem? (i := 13) rfl))) (by decide) hfile htop rfl (supScope_by (by decide +kernel)) rfl rfl rfl (by decide) (by decide) rfl (.nil _) (fieL_ok (He.ba ((exE_ok X G c).2.1 ("NotFull", []) (List.mem_of_getElem? (i := 4) rfl))).2) (fun _ _ _ _ _ _ _ us hl => match us, hl with | [_], _ => rfl) (by decide)
  l_NotFull := rfl
  k_NotFull := emkk_ok (d := ed_NotFull) (N := ["self"]) (ps := ["self"]) (fs := []) ((exE_ok X G c).1 ed_NotFull (List.mem_of_getElem? (i := 3) rfl)) (errs_at ce (List.mem_of_getElem? (i := 3) rfl)) rfl (He.glo_ok X G (c.t.d.facts (f := .glo "NotFull") (List.mem_of_getElem? (i := 13) rfl))) (by decide) hfile htop rfl (supScope_by (by decide +kernel)) rfl rfl rfl (by decide) (by decide) rfl (.nil _) (fieL_ok (He.ba ((exE_ok X G c).2.1 ("NotFull", []) (List.mem_of_getElem? (i := 4) rfl))).2) (fun _ _ _ _ _ _ _ _ us hl => match us, hl with | [], _ => rfl) (by decide)
  f_NotFull := rfl
  n_NotFull := He.glo_ok X G (c.t.d.facts (f := .glo "NotFull") (List.mem_of_getElem? (i := 13) rfl))
  e_BadWord := emk_ok (d := ed_BadWord) (N := ["self", "index"]) (ps := ["self", "index"]) (fs := ["index"]) ((exE_ok X G c).1 ed_BadWord (List.mem_of_getElem? (i := 4) rfl)) (errs_at ce (List.mem_of_getElem? (i := 4) rfl)) rfl (He.glo_ok X G (c.t.d.facts (f := .glo "BadWord") (List.mem_of_getElem? (i := 14) rfl))) (by decide) hfile htop rfl (supScope_by (by decide +kernel)) rfl rfl rfl (by decide) (by decide) rfl (.cons rfl (by decide) (by decide) (.nil _)) (fieL_ok (He.ba ((exE_ok X G c).2.1 ("BadWord", ["index"]) (List.mem_of_getElem? (i := 5) rfl))).2) (fun _ _ _ _ _ _ _ us hl => match us, hl with | [_, _], _ => rfl) (by decide)
  l_BadWord := rfl
  k_BadWord := emkk_ok (d := ed_BadWord) (N := ["self", "index"]) (ps := ["self", "index"]) (fs := ["index"]) ((exE_ok X G c).1 ed_BadWord (List.mem_of_getElem? (i := 4) rfl)) (errs_at ce (List.mem_of_getElem? (i := 4) rfl)) rfl (He.glo_ok X G (c.t.d.facts (f := .glo "BadWord") (List.mem_of_getElem? (i := 14) rfl))) (by decide) hfile htop rfl (supScope_by (by decide +kernel)) rfl rfl rfl (by decide) (by decide) rfl (.cons rfl (by decide) (by decide) (.nil _)) (fieL_ok (He.ba ((exE_ok X G c).2.1 ("BadWord", ["index"]) (List.mem_of_getElem? (i := 5) rfl))).2) (fun _ _ _ _ _ _ _ _ us hl => match us, hl with | [_], _ => rfl) (by decide)
  f_BadWord := rfl
  n_BadWord := He.glo_ok X G (c.t.d.facts (f := .glo "BadWord") (List.mem_of_getElem? (i := 14) rfl))
  e_Begins := emk_ok (d := ed_Begins) (N := ["self", "index", "other"]) (ps := ["self", "index", "other"]) (fs := ["index", "other"]) ((exE_ok X G c).1 ed_Begins (List.mem_of_getElem? (i := 5) rfl)) (errs_at ce (List.mem_of_getElem? (i := 5) rfl)) rfl (He.glo_ok X G (c.t.d.facts (f := .glo "Begins") (List.mem_of_getElem? (i := 15) rfl))) (by decide) hfile htop rfl (supScope_by (by decide +kernel)) rfl rfl rfl (by decide) (by decide) rfl (.cons rfl (by decide) (by decide) (.cons rfl (by decide) (by decide) (.nil _))) (fieL_ok (He.ba ((exE_ok X G c).2.1 ("Begins", ["index", "other"]) (List.mem_of_getElem? (i := 6) rfl))).2) (fun _ _ _ _ _ _ _ us hl => match us, hl with | [_, _, _], _ => rfl) (by decide)
  l_Begins := rfl
  k_Begins := emkk_ok (d := ed_Begins) (N := ["self", "index", "other"]) (ps := ["self", "index", "other"]) (fs := ["index", "other"]) ((exE_ok X G c).1 ed_Begins (List.mem_of_getElem? (i := 5) rfl)) (errs_at ce (List.mem_of_getElem? (i := 5) rfl)) rfl (He.glo_ok X G (c.t.d.facts (f := .glo "Begins") (List.mem_of_getElem? (i := 15) rfl))) (by decide) hfile htop rfl (supScope_by (by decide +kernel)) rfl rfl rfl (by decide) (by decide) rfl (.cons rfl (by decide) (by decide) (.cons rfl (by decide) (by decide) (.nil _))) (fieL_ok (He.ba ((exE_ok X G c).2.1 ("Begins", ["index", "other"]) (List.mem_of_getElem? (i := 6) rfl))).2) (fun _ _ _ _ _ _ _ _ us hl => match us, hl with | [_, _], _ => rfl) (by decide)
  f_Begins := rfl
  n_Begins := He.glo_ok X G (c.t.d.facts (f := .glo "Begins") (List.mem_of_getElem? (i := 15) rfl))
  e_OtherSize := emk_ok (d := ed_OtherSize) (N := ["self", "many", "wanted"]) (ps := ["self", "many", "wanted"]) (fs := ["many", "wanted"]) ((exE_ok X G c).1 ed_OtherSize (List.mem_of_getElem? (i := 6) rfl)) (errs_at ce (List.mem_of_getElem? (i := 6) rfl)) rfl (He.glo_ok X G (c.t.d.facts (f := .glo "OtherSize") (List.mem_of_getElem? (i := 16) rfl))) (by decide) hfile htop rfl (supScope_by (by decide +kernel)) rfl rfl rfl (by decide) (by decide) rfl (.cons rfl (by decide) (by decide) (.cons rfl (by decide) (by decide) (.nil _))) (fieL_ok (He.ba ((exE_ok X G c).2.1 ("OtherSize", ["many", "wanted"]) (List.mem_of_getElem? (i := 7) rfl))).2) (fun _ _ _ _ _ _ _ us hl => match us, hl with | [_, _, _], _ => rfl) (by decide)
  l_OtherSize := rfl
  k_OtherSize := emkk_ok (d := ed_OtherSize) (N := ["self", "many", "wanted"]) (ps := ["self", "many", "wanted"]) (fs := ["many", "wanted"]) ((exE_ok X G c).1 ed_OtherSize (List.mem_of_getElem? (i := 6) rfl)) (errs_at ce (List.mem_of_getElem? (i := 6) rfl)) rfl (He.glo_ok X G (c.t.d.facts (f := .glo "OtherSize") (List.mem_of_getElem? (i := 16) rfl))) (by decide) hfile htop rfl (supScope_by (by decide +kernel)) rfl rfl rfl (by decide) (by decide) rfl (.cons rfl (by decide) (by decide) (.cons rfl (by decide) (by decide) (.nil _))) (fieL_ok (He.ba ((exE_ok X G c).2.1 ("OtherSize", ["many", "wanted"]) (List.mem_of_getElem? (i := 7) rfl))).2) (fun _ _ _ _ _ _ _ _ us hl => match us, hl with | [_, _], _ => rfl) (by decide)
  f_OtherSize := rfl
  n_OtherSize := He.glo_ok X G (c.t.d.facts (f := .glo "OtherSize") (List.mem_of_getElem? (i := 16) rfl))
  e_BadSize := emk_ok (d := ed_BadSize) (N := ["self", "size"]) (ps := ["self", "size"]) (fs := ["size"]) ((exE_ok X G c).1 ed_BadSize (List.mem_of_getElem? (i := 7) rfl)) (errs_at ce (List.mem_of_getElem? (i := 7) rfl)) rfl (He.glo_ok X G (c.t.d.facts (f := .glo "BadSize") (List.mem_of_getElem? (i := 17) rfl))) (by decide) hfile htop rfl (supScope_by (by decide +kernel)) rfl rfl rfl (by decide) (by decide) rfl (.cons rfl (by decide) (by decide) (.nil _)) (fieL_ok (He.ba ((exE_ok X G c).2.1 ("BadSize", ["size"]) (List.mem_of_getElem? (i := 8) rfl))).2) (fun _ _ _ _ _ _ _ us hl => match us, hl with | [_, _], _ => rfl) (by decide)
  l_BadSize := rfl
  k_BadSize := emkk_ok (d := ed_BadSize) (N := ["self", "size"]) (ps := ["self", "size"]) (fs := ["size"]) ((exE_ok X G c).1 ed_BadSize (List.mem_of_getElem? (i := 7) rfl)) (errs_at ce (List.mem_of_getElem? (i := 7) rfl)) rfl (He.glo_ok X G (c.t.d.facts (f := .glo "BadSize") (List.mem_of_getElem? (i := 17) rfl))) (by decide) hfile htop rfl (supScope_by (by decide +kernel)) rfl rfl rfl (by decide) (by decide) rfl (.cons rfl (by decide) (by decide) (.nil _)) (fieL_ok (He.ba ((exE_ok X G c).2.1 ("BadSize", ["size"]) (List.mem_of_getElem? (i := 8) rfl))).2) (fun _ _ _ _ _ _ _ _ us hl => match us, hl with | [_], _ => rfl) (by decide)
  f_BadSize := rfl
  n_BadSize := He.glo_ok X G (c.t.d.facts (f := .glo "BadSize") (List.mem_of_getElem? (i := 17) rfl))
  e_NoBorder := emk_ok (d := ed_NoBorder) (N := ["self"]) (ps := ["self"]) (fs := []) ((exE_ok X G c).1 ed_NoBorder (List.mem_of_getElem? (i := 8) rfl)) (errs_at ce (List.mem_of_getElem? (i := 8) rfl)) rfl (He.glo_ok X G (c.t.d.facts (f := .glo "NoBorder") (List.mem_of_getElem? (i := 18) rfl))) (by decide) hfile htop rfl (supScope_by (by decide +kernel)) rfl rfl rfl (by decide) (by decide) rfl (.nil _) (fieL_ok (He.ba ((exE_ok X G c).2.1 ("NoBorder", []) (List.mem_of_getElem? (i := 9) rfl))).2) (fun _ _ _ _ _ _ _ us hl => match us, hl with | [_], _ => rfl) (by decide)
  l_NoBorder := rfl
  k_NoBorder := emkk_ok (d := ed_NoBorder) (N := ["self"]) (ps := ["self"]) (fs := []) ((exE_ok X G c).1 ed_NoBorder (List.mem_of_getElem? (i := 8) rfl)) (errs_at ce (List.mem_of_getElem? (i := 8) rfl)) rfl (He.glo_ok X G (c.t.d.facts (f := .glo "NoBorder") (List.mem_of_getElem? (i := 18) rfl))) (by decide) hfile htop rfl (supScope_by (by decide +kernel)) rfl rfl rfl (by decide) (by decide) rfl (.nil _) (fieL_ok (He.ba ((exE_ok X G c).2.1 ("NoBorder", []) (List.mem_of_getElem? (i := 9) rfl))).2) (fun _ _ _ _ _ _ _ _ us hl => match us, hl with | [], _ => rfl) (by decide)
  f_NoBorder := rfl
  n_NoBorder := He.glo_ok X G (c.t.d.facts (f := .glo "NoBorder") (List.mem_of_getElem? (i := 18) rfl))
  e_TooShort := emk_ok (d := ed_TooShort) (N := ["self", "most", "least"]) (ps := ["self", "most", "least"]) (fs := ["most", "least"]) ((exE_ok X G c).1 ed_TooShort (List.mem_of_getElem? (i := 9) rfl)) (errs_at ce (List.mem_of_getElem? (i := 9) rfl)) rfl (He.glo_ok X G (c.t.d.facts (f := .glo "TooShort") (List.mem_of_getElem? (i := 19) rfl))) (by decide) hfile htop rfl (supScope_by (by decide +kernel)) rfl rfl rfl (by decide) (by decide) rfl (.cons rfl (by decide) (by decide) (.cons rfl (by decide) (by decide) (.nil _))) (fieL_ok (He.ba ((exE_ok X G c).2.1 ("TooShort", ["most", "least"]) (List.mem_of_getElem? (i := 10) rfl))).2) (fun _ _ _ _ _ _ _ us hl => match us, hl with | [_, _, _], _ => rfl) (by decide)
  l_TooShort := rfl
  k_TooShort := emkk_ok (d := ed_TooShort) (N := ["self", "most", "least"]) (ps := ["self", "most", "least"]) (fs := ["most", "least"]) ((exE_ok X G c).1 ed_TooShort (List.mem_of_getElem? (i := 9) rfl)) (errs_at ce (List.mem_of_getElem? (i := 9) rfl)) rfl (He.glo_ok X G (c.t.d.facts (f := .glo "TooShort") (List.mem_of_getElem? (i := 19) rfl))) (by decide) hfile htop rfl (supScope_by (by decide +kernel)) rfl rfl rfl (by decide) (by decide) rfl (.cons rfl (by decide) (by decide) (.cons rfl (by decide) (by decide) (.nil _))) (fieL_ok (He.ba ((exE_ok X G c).2.1 ("TooShort", ["most", "least"]) (List.mem_of_getElem? (i := 10) rfl))).2) (fun _ _ _ _ _ _ _ _ us hl => match us, hl with | [_, _], _ => rfl) (by decide)
  f_TooShort := rfl
  n_TooShort := He.glo_ok X G (c.t.d.facts (f := .glo "TooShort") (List.mem_of_getElem? (i := 19) rfl))
  e_TooLong := emk_ok (d := ed_TooLong) (N := ["self", "sign"]) (ps := ["self", "sign"]) (fs := ["sign"]) ((exE_ok X G c).1 ed_TooLong (List.mem_of_getElem? (i := 10) rfl)) (errs_at ce (List.mem_of_getElem? (i := 10) rfl)) rfl (He.glo_ok X G (c.t.d.facts (f := .glo "TooLong") (List.mem_of_getElem? (i := 20) rfl))) (by decide) hfile htop rfl (supScope_by (by decide +kernel)) rfl rfl rfl (by decide) (by decide) rfl (.cons rfl (by decide) (by decide) (.nil _)) (fieL_ok (He.ba ((exE_ok X G c).2.1 ("TooLong", ["sign"]) (List.mem_of_getElem? (i := 11) rfl))).2) (fun _ _ _ _ _ _ _ us hl => match us, hl with | [_, _], _ => rfl) (by decide)
  l_TooLong := rfl
  k_TooLong := emkk_ok (d := ed_TooLong) (N := ["self", "sign"]) (ps := ["self", "sign"]) (fs := ["sign"]) ((exE_ok X G c).1 ed_TooLong (List.mem_of_getElem? (i := 10) rfl)) (errs_at ce (List.mem_of_getElem? (i := 10) rfl)) rfl (He.glo_ok X G (c.t.d.facts (f := .glo "TooLong") (List.mem_of_getElem? (i := 20) rfl))) (by decide) hfile htop rfl (supScope_by (by decide +kernel)) rfl rfl rfl (by decide) (by decide) rfl (.cons rfl (by decide) (by decide) (.nil _)) (fieL_ok (He.ba ((exE_ok X G c).2.1 ("TooLong", ["sign"]) (List.mem_of_getElem? (i := 11) rfl))).2) (fun _ _ _ _ _ _ _ _ us hl => match us, hl with | [_], _ => rfl) (by decide)
  f_TooLong := rfl
  n_TooLong := He.glo_ok X G (c.t.d.facts (f := .glo "TooLong") (List.mem_of_getElem? (i := 20) rfl))
  e_BadOver := emk_ok (d := ed_BadOver) (N := ["self"]) (ps := ["self"]) (fs := []) ((exE_ok X G c).1 ed_BadOver (List.mem_of_getElem? (i := 11) rfl)) (errs_at ce (List.mem_of_getElem? (i := 11) rfl)) rfl (He.glo_ok X G (c.t.d.facts (f := .glo "BadOver") (List.mem_of_getElem? (i := 21) rfl))) (by decide) hfile htop rfl (supScope_by (by decide +kernel)) rfl rfl rfl (by decide) (by decide) rfl (.nil _) (fieL_ok (He.ba ((exE_ok X G c).2.1 ("BadOver", []) (List.mem_of_getElem? (i := 12) rfl))).2) (fun _ _ _ _ _ _ _ us hl => match us, hl with | [_], _ => rfl) (by decide)
  l_BadOver := rfl
  k_BadOver := emkk_ok (d := ed_BadOver) (N := ["self"]) (ps := ["self"]) (fs := []) ((exE_ok X G c).1 ed_BadOver (List.mem_of_getElem? (i := 11) rfl)) (errs_at ce (List.mem_of_getElem? (i := 11) rfl)) rfl (He.glo_ok X G (c.t.d.facts (f := .glo "BadOver") (List.mem_of_getElem? (i := 21) rfl))) (by decide) hfile htop rfl (supScope_by (by decide +kernel)) rfl rfl rfl (by decide) (by decide) rfl (.nil _) (fieL_ok (He.ba ((exE_ok X G c).2.1 ("BadOver", []) (List.mem_of_getElem? (i := 12) rfl))).2) (fun _ _ _ _ _ _ _ _ us hl => match us, hl with | [], _ => rfl) (by decide)
  f_BadOver := rfl
  n_BadOver := He.glo_ok X G (c.t.d.facts (f := .glo "BadOver") (List.mem_of_getElem? (i := 21) rfl))
  e_BadTie := emk_ok (d := ed_BadTie) (N := ["self", "tie"]) (ps := ["self", "tie"]) (fs := ["tie"]) ((exE_ok X G c).1 ed_BadTie (List.mem_of_getElem? (i := 12) rfl)) (errs_at ce (List.mem_of_getElem? (i := 12) rfl)) rfl (He.glo_ok X G (c.t.d.facts (f := .glo "BadTie") (List.mem_of_getElem? (i := 22) rfl))) (by decide) hfile htop rfl (supScope_by (by decide +kernel)) rfl rfl rfl (by decide) (by decide) rfl (.cons rfl (by decide) (by decide) (.nil _)) (fieL_ok (He.ba ((exE_ok X G c).2.1 ("BadTie", ["tie"]) (List.mem_of_getElem? (i := 13) rfl))).2) (fun _ _ _ _ _ _ _ us hl => match us, hl with | [_, _], _ => rfl) (by decide)
  l_BadTie := rfl
  k_BadTie := emkk_ok (d := ed_BadTie) (N := ["self", "tie"]) (ps := ["self", "tie"]) (fs := ["tie"]) ((exE_ok X G c).1 ed_BadTie (List.mem_of_getElem? (i := 12) rfl)) (errs_at ce (List.mem_of_getElem? (i := 12) rfl)) rfl (He.glo_ok X G (c.t.d.facts (f := .glo "BadTie") (List.mem_of_getElem? (i := 22) rfl))) (by decide) hfile htop rfl (supScope_by (by decide +kernel)) rfl rfl rfl (by decide) (by decide) rfl (.cons rfl (by decide) (by decide) (.nil _)) (fieL_ok (He.ba ((exE_ok X G c).2.1 ("BadTie", ["tie"]) (List.mem_of_getElem? (i := 13) rfl))).2) (fun _ _ _ _ _ _ _ _ us hl => match us, hl with | [_], _ => rfl) (by decide)
  f_BadTie := rfl
  n_BadTie := He.glo_ok X G (c.t.d.facts (f := .glo "BadTie") (List.mem_of_getElem? (i := 22) rfl))
  e_NotLeast := emk_ok (d := ed_NotLeast) (N := ["self"]) (ps := ["self"]) (fs := []) ((exE_ok X G c).1 ed_NotLeast (List.mem_of_getElem? (i := 13) rfl)) (errs_at ce (List.mem_of_getElem? (i := 13) rfl)) rfl (He.glo_ok X G (c.t.d.facts (f := .glo "NotLeast") (List.mem_of_getElem? (i := 23) rfl))) (by decide) hfile htop rfl (supScope_by (by decide +kernel)) rfl rfl rfl (by decide) (by decide) rfl (.nil _) (fieL_ok (He.ba ((exE_ok X G c).2.1 ("NotLeast", []) (List.mem_of_getElem? (i := 14) rfl))).2) (fun _ _ _ _ _ _ _ us hl => match us, hl with | [_], _ => rfl) (by decide)
  l_NotLeast := rfl
  k_NotLeast := emkk_ok (d := ed_NotLeast) (N := ["self"]) (ps := ["self"]) (fs := []) ((exE_ok X G c).1 ed_NotLeast (List.mem_of_getElem? (i := 13) rfl)) (errs_at ce (List.mem_of_getElem? (i := 13) rfl)) rfl (He.glo_ok X G (c.t.d.facts (f := .glo "NotLeast") (List.mem_of_getElem? (i := 23) rfl))) (by decide) hfile htop rfl (supScope_by (by decide +kernel)) rfl rfl rfl (by decide) (by decide) rfl (.nil _) (fieL_ok (He.ba ((exE_ok X G c).2.1 ("NotLeast", []) (List.mem_of_getElem? (i := 14) rfl))).2) (fun _ _ _ _ _ _ _ _ us hl => match us, hl with | [], _ => rfl) (by decide)
  f_NotLeast := rfl
  n_NotLeast := He.glo_ok X G (c.t.d.facts (f := .glo "NotLeast") (List.mem_of_getElem? (i := 23) rfl))
  e_BadSign := emk_ok (d := ed_BadSign) (N := ["self", "index"]) (ps := ["self", "index"]) (fs := ["index"]) ((exE_ok X G c).1 ed_BadSign (List.mem_of_getElem? (i := 14) rfl)) (errs_at ce (List.mem_of_getElem? (i := 14) rfl)) rfl (He.glo_ok X G (c.t.d.facts (f := .glo "BadSign") (List.mem_of_getElem? (i := 24) rfl))) (by decide) hfile htop rfl (supScope_by (by decide +kernel)) rfl rfl rfl (by decide) (by decide) rfl (.cons rfl (by decide) (by decide) (.nil _)) (fieL_ok (He.ba ((exE_ok X G c).2.1 ("BadSign", ["index"]) (List.mem_of_getElem? (i := 15) rfl))).2) (fun _ _ _ _ _ _ _ us hl => match us, hl with | [_, _], _ => rfl) (by decide)
  l_BadSign := rfl
  k_BadSign := emkk_ok (d := ed_BadSign) (N := ["self", "index"]) (ps := ["self", "index"]) (fs := ["index"]) ((exE_ok X G c).1 ed_BadSign (List.mem_of_getElem? (i := 14) rfl)) (errs_at ce (List.mem_of_getElem? (i := 14) rfl)) rfl (He.glo_ok X G (c.t.d.facts (f := .glo "BadSign") (List.mem_of_getElem? (i := 24) rfl))) (by decide) hfile htop rfl (supScope_by (by decide +kernel)) rfl rfl rfl (by decide) (by decide) rfl (.cons rfl (by decide) (by decide) (.nil _)) (fieL_ok (He.ba ((exE_ok X G c).2.1 ("BadSign", ["index"]) (List.mem_of_getElem? (i := 15) rfl))).2) (fun _ _ _ _ _ _ _ _ us hl => match us, hl with | [_], _ => rfl) (by decide)
  f_BadSign := rfl
  n_BadSign := He.glo_ok X G (c.t.d.facts (f := .glo "BadSign") (List.mem_of_getElem? (i := 24) rfl))
  e_BadRule := emk_ok (d := ed_BadRule) (N := ["self", "name"]) (ps := ["self", "name"]) (fs := ["name"]) ((exE_ok X G c).1 ed_BadRule (List.mem_of_getElem? (i := 15) rfl)) (errs_at ce (List.mem_of_getElem? (i := 15) rfl)) rfl (He.glo_ok X G (c.t.d.facts (f := .glo "BadRule") (List.mem_of_getElem? (i := 25) rfl))) (by decide) hfile htop rfl (supScope_by (by decide +kernel)) rfl rfl rfl (by decide) (by decide) rfl (.cons rfl (by decide) (by decide) (.nil _)) (fieL_ok (He.ba ((exE_ok X G c).2.1 ("BadRule", ["name"]) (List.mem_of_getElem? (i := 16) rfl))).2) (fun _ _ _ _ _ _ _ us hl => match us, hl with | [_, _], _ => rfl) (by decide)
  l_BadRule := rfl
  k_BadRule := emkk_ok (d := ed_BadRule) (N := ["self", "name"]) (ps := ["self", "name"]) (fs := ["name"]) ((exE_ok X G c).1 ed_BadRule (List.mem_of_getElem? (i := 15) rfl)) (errs_at ce (List.mem_of_getElem? (i := 15) rfl)) rfl (He.glo_ok X G (c.t.d.facts (f := .glo "BadRule") (List.mem_of_getElem? (i := 25) rfl))) (by decide) hfile htop rfl (supScope_by (by decide +kernel)) rfl rfl rfl (by decide) (by decide) rfl (.cons rfl (by decide) (by decide) (.nil _)) (fieL_ok (He.ba ((exE_ok X G c).2.1 ("BadRule", ["name"]) (List.mem_of_getElem? (i := 16) rfl))).2) (fun _ _ _ _ _ _ _ _ us hl => match us, hl with | [_], _ => rfl) (by decide)
  f_BadRule := rfl
  n_BadRule := He.glo_ok X G (c.t.d.facts (f := .glo "BadRule") (List.mem_of_getElem? (i := 25) rfl))
  e_Ring := emk_ok (d := ed_Ring) (N := ["self", "name"]) (ps := ["self", "name"]) (fs := ["name"]) ((exE_ok X G c).1 ed_Ring (List.mem_of_getElem? (i := 16) rfl)) (errs_at ce (List.mem_of_getElem? (i := 16) rfl)) rfl (He.glo_ok X G (c.t.d.facts (f := .glo "Ring") (List.mem_of_getElem? (i := 26) rfl))) (by decide) hfile htop rfl (supScope_by (by decide +kernel)) rfl rfl rfl (by decide) (by decide) rfl (.cons rfl (by decide) (by decide) (.nil _)) (fieL_ok (He.ba ((exE_ok X G c).2.1 ("Ring", ["name"]) (List.mem_of_getElem? (i := 17) rfl))).2) (fun _ _ _ _ _ _ _ us hl => match us, hl with | [_, _], _ => rfl) (by decide)
  l_Ring := rfl
  k_Ring := emkk_ok (d := ed_Ring) (N := ["self", "name"]) (ps := ["self", "name"]) (fs := ["name"]) ((exE_ok X G c).1 ed_Ring (List.mem_of_getElem? (i := 16) rfl)) (errs_at ce (List.mem_of_getElem? (i := 16) rfl)) rfl (He.glo_ok X G (c.t.d.facts (f := .glo "Ring") (List.mem_of_getElem? (i := 26) rfl))) (by decide) hfile htop rfl (supScope_by (by decide +kernel)) rfl rfl rfl (by decide) (by decide) rfl (.cons rfl (by decide) (by decide) (.nil _)) (fieL_ok (He.ba ((exE_ok X G c).2.1 ("Ring", ["name"]) (List.mem_of_getElem? (i := 17) rfl))).2) (fun _ _ _ _ _ _ _ _ us hl => match us, hl with | [_], _ => rfl) (by decide)
  f_Ring := rfl
  n_Ring := He.glo_ok X G (c.t.d.facts (f := .glo "Ring") (List.mem_of_getElem? (i := 26) rfl))
  e_NoRule := emk_ok (d := ed_NoRule) (N := ["self", "root"]) (ps := ["self", "root"]) (fs := ["root"]) ((exE_ok X G c).1 ed_NoRule (List.mem_of_getElem? (i := 17) rfl)) (errs_at ce (List.mem_of_getElem? (i := 17) rfl)) rfl (He.glo_ok X G (c.t.d.facts (f := .glo "NoRule") (List.mem_of_getElem? (i := 27) rfl))) (by decide) hfile htop rfl (supScope_by (by decide +kernel)) rfl rfl rfl (by decide) (by decide) rfl (.cons rfl (by decide) (by decide) (.nil _)) (fieL_ok (He.ba ((exE_ok X G c).2.1 ("NoRule", ["root"]) (List.mem_of_getElem? (i := 18) rfl))).2) (fun _ _ _ _ _ _ _ us hl => match us, hl with | [_, _], _ => rfl) (by decide)
  l_NoRule := rfl
  k_NoRule := emkk_ok (d := ed_NoRule) (N := ["self", "root"]) (ps := ["self", "root"]) (fs := ["root"]) ((exE_ok X G c).1 ed_NoRule (List.mem_of_getElem? (i := 17) rfl)) (errs_at ce (List.mem_of_getElem? (i := 17) rfl)) rfl (He.glo_ok X G (c.t.d.facts (f := .glo "NoRule") (List.mem_of_getElem? (i := 27) rfl))) (by decide) hfile htop rfl (supScope_by (by decide +kernel)) rfl rfl rfl (by decide) (by decide) rfl (.cons rfl (by decide) (by decide) (.nil _)) (fieL_ok (He.ba ((exE_ok X G c).2.1 ("NoRule", ["root"]) (List.mem_of_getElem? (i := 18) rfl))).2) (fun _ _ _ _ _ _ _ _ us hl => match us, hl with | [_], _ => rfl) (by decide)
  f_NoRule := rfl
  n_NoRule := He.glo_ok X G (c.t.d.facts (f := .glo "NoRule") (List.mem_of_getElem? (i := 27) rfl))
  e_BadPlace := emk_ok (d := ed_BadPlace) (N := ["self", "place"]) (ps := ["self", "place"]) (fs := ["place"]) ((exE_ok X G c).1 ed_BadPlace (List.mem_of_getElem? (i := 18) rfl)) (errs_at ce (List.mem_of_getElem? (i := 18) rfl)) rfl (He.glo_ok X G (c.t.d.facts (f := .glo "BadPlace") (List.mem_of_getElem? (i := 28) rfl))) (by decide) hfile htop rfl (supScope_by (by decide +kernel)) rfl rfl rfl (by decide) (by decide) rfl (.cons rfl (by decide) (by decide) (.nil _)) (fieL_ok (He.ba ((exE_ok X G c).2.1 ("BadPlace", ["place"]) (List.mem_of_getElem? (i := 19) rfl))).2) (fun _ _ _ _ _ _ _ us hl => match us, hl with | [_, _], _ => rfl) (by decide)
  l_BadPlace := rfl
  k_BadPlace := emkk_ok (d := ed_BadPlace) (N := ["self", "place"]) (ps := ["self", "place"]) (fs := ["place"]) ((exE_ok X G c).1 ed_BadPlace (List.mem_of_getElem? (i := 18) rfl)) (errs_at ce (List.mem_of_getElem? (i := 18) rfl)) rfl (He.glo_ok X G (c.t.d.facts (f := .glo "BadPlace") (List.mem_of_getElem? (i := 28) rfl))) (by decide) hfile htop rfl (supScope_by (by decide +kernel)) rfl rfl rfl (by decide) (by decide) rfl (.cons rfl (by decide) (by decide) (.nil _)) (fieL_ok (He.ba ((exE_ok X G c).2.1 ("BadPlace", ["place"]) (List.mem_of_getElem? (i := 19) rfl))).2) (fun _ _ _ _ _ _ _ _ us hl => match us, hl with | [_], _ => rfl) (by decide)
  f_BadPlace := rfl
  n_BadPlace := He.glo_ok X G (c.t.d.facts (f := .glo "BadPlace") (List.mem_of_getElem? (i := 28) rfl))
  e_BadBits := emk_ok (d := ed_BadBits) (N := ["self", "index"]) (ps := ["self", "index"]) (fs := ["index"]) ((exE_ok X G c).1 ed_BadBits (List.mem_of_getElem? (i := 19) rfl)) (errs_at ce (List.mem_of_getElem? (i := 19) rfl)) rfl (He.glo_ok X G (c.t.d.facts (f := .glo "BadBits") (List.mem_of_getElem? (i := 29) rfl))) (by decide) hfile htop rfl (supScope_by (by decide +kernel)) rfl rfl rfl (by decide) (by decide) rfl (.cons rfl (by decide) (by decide) (.nil _)) (fieL_ok (He.ba ((exE_ok X G c).2.1 ("BadBits", ["index"]) (List.mem_of_getElem? (i := 20) rfl))).2) (fun _ _ _ _ _ _ _ us hl => match us, hl with | [_, _], _ => rfl) (by decide)
  l_BadBits := rfl
  k_BadBits := emkk_ok (d := ed_BadBits) (N := ["self", "index"]) (ps := ["self", "index"]) (fs := ["index"]) ((exE_ok X G c).1 ed_BadBits (List.mem_of_getElem? (i := 19) rfl)) (errs_at ce (List.mem_of_getElem? (i := 19) rfl)) rfl (He.glo_ok X G (c.t.d.facts (f := .glo "BadBits") (List.mem_of_getElem? (i := 29) rfl))) (by decide) hfile htop rfl (supScope_by (by decide +kernel)) rfl rfl rfl (by decide) (by decide) rfl (.cons rfl (by decide) (by decide) (.nil _)) (fieL_ok (He.ba ((exE_ok X G c).2.1 ("BadBits", ["index"]) (List.mem_of_getElem? (i := 20) rfl))).2) (fun _ _ _ _ _ _ _ _ us hl => match us, hl with | [_], _ => rfl) (by decide)
  f_BadBits := rfl
  n_BadBits := He.glo_ok X G (c.t.d.facts (f := .glo "BadBits") (List.mem_of_getElem? (i := 29) rfl))
  e_BadNode := emk_ok (d := ed_BadNode) (N := ["self", "node"]) (ps := ["self", "node"]) (fs := ["node"]) ((exE_ok X G c).1 ed_BadNode (List.mem_of_getElem? (i := 20) rfl)) (errs_at ce (List.mem_of_getElem? (i := 20) rfl)) rfl (He.glo_ok X G (c.t.d.facts (f := .glo "BadNode") (List.mem_of_getElem? (i := 30) rfl))) (by decide) hfile htop rfl (supScope_by (by decide +kernel)) rfl rfl rfl (by decide) (by decide) rfl (.cons rfl (by decide) (by decide) (.nil _)) (fieL_ok (He.ba ((exE_ok X G c).2.1 ("BadNode", ["node"]) (List.mem_of_getElem? (i := 21) rfl))).2) (fun _ _ _ _ _ _ _ us hl => match us, hl with | [_, _], _ => rfl) (by decide)
  l_BadNode := rfl
  k_BadNode := emkk_ok (d := ed_BadNode) (N := ["self", "node"]) (ps := ["self", "node"]) (fs := ["node"]) ((exE_ok X G c).1 ed_BadNode (List.mem_of_getElem? (i := 20) rfl)) (errs_at ce (List.mem_of_getElem? (i := 20) rfl)) rfl (He.glo_ok X G (c.t.d.facts (f := .glo "BadNode") (List.mem_of_getElem? (i := 30) rfl))) (by decide) hfile htop rfl (supScope_by (by decide +kernel)) rfl rfl rfl (by decide) (by decide) rfl (.cons rfl (by decide) (by decide) (.nil _)) (fieL_ok (He.ba ((exE_ok X G c).2.1 ("BadNode", ["node"]) (List.mem_of_getElem? (i := 21) rfl))).2) (fun _ _ _ _ _ _ _ _ us hl => match us, hl with | [_], _ => rfl) (by decide)
  f_BadNode := rfl
  n_BadNode := He.glo_ok X G (c.t.d.facts (f := .glo "BadNode") (List.mem_of_getElem? (i := 30) rfl))
  e_BadTable := emk_ok (d := ed_BadTable) (N := ["self", "node"]) (ps := ["self", "node"]) (fs := ["node"]) ((exE_ok X G c).1 ed_BadTable (List.mem_of_getElem? (i := 21) rfl)) (errs_at ce (List.mem_of_getElem? (i := 21) rfl)) rfl (He.glo_ok X G (c.t.d.facts (f := .glo "BadTable") (List.mem_of_getElem? (i := 31) rfl))) (by decide) hfile htop rfl (supScope_by (by decide +kernel)) rfl rfl rfl (by decide) (by decide) rfl (.cons rfl (by decide) (by decide) (.nil _)) (fieL_ok (He.ba ((exE_ok X G c).2.1 ("BadTable", ["node"]) (List.mem_of_getElem? (i := 22) rfl))).2) (fun _ _ _ _ _ _ _ us hl => match us, hl with | [_, _], _ => rfl) (by decide)
  l_BadTable := rfl
  k_BadTable := emkk_ok (d := ed_BadTable) (N := ["self", "node"]) (ps := ["self", "node"]) (fs := ["node"]) ((exE_ok X G c).1 ed_BadTable (List.mem_of_getElem? (i := 21) rfl)) (errs_at ce (List.mem_of_getElem? (i := 21) rfl)) rfl (He.glo_ok X G (c.t.d.facts (f := .glo "BadTable") (List.mem_of_getElem? (i := 31) rfl))) (by decide) hfile htop rfl (supScope_by (by decide +kernel)) rfl rfl rfl (by decide) (by decide) rfl (.cons rfl (by decide) (by decide) (.nil _)) (fieL_ok (He.ba ((exE_ok X G c).2.1 ("BadTable", ["node"]) (List.mem_of_getElem? (i := 22) rfl))).2) (fun _ _ _ _ _ _ _ _ us hl => match us, hl with | [_], _ => rfl) (by decide)
  f_BadTable := rfl
  n_BadTable := He.glo_ok X G (c.t.d.facts (f := .glo "BadTable") (List.mem_of_getElem? (i := 31) rfl))
  e_BadLooks := emk_ok (d := ed_BadLooks) (N := ["self", "looks"]) (ps := ["self", "looks"]) (fs := ["looks"]) ((exE_ok X G c).1 ed_BadLooks (List.mem_of_getElem? (i := 22) rfl)) (errs_at ce (List.mem_of_getElem? (i := 22) rfl)) rfl (He.glo_ok X G (c.t.d.facts (f := .glo "BadLooks") (List.mem_of_getElem? (i := 32) rfl))) (by decide) hfile htop rfl (supScope_by (by decide +kernel)) rfl rfl rfl (by decide) (by decide) rfl (.cons rfl (by decide) (by decide) (.nil _)) (fieL_ok (He.ba ((exE_ok X G c).2.1 ("BadLooks", ["looks"]) (List.mem_of_getElem? (i := 23) rfl))).2) (fun _ _ _ _ _ _ _ us hl => match us, hl with | [_, _], _ => rfl) (by decide)
  l_BadLooks := rfl
  k_BadLooks := emkk_ok (d := ed_BadLooks) (N := ["self", "looks"]) (ps := ["self", "looks"]) (fs := ["looks"]) ((exE_ok X G c).1 ed_BadLooks (List.mem_of_getElem? (i := 22) rfl)) (errs_at ce (List.mem_of_getElem? (i := 22) rfl)) rfl (He.glo_ok X G (c.t.d.facts (f := .glo "BadLooks") (List.mem_of_getElem? (i := 32) rfl))) (by decide) hfile htop rfl (supScope_by (by decide +kernel)) rfl rfl rfl (by decide) (by decide) rfl (.cons rfl (by decide) (by decide) (.nil _)) (fieL_ok (He.ba ((exE_ok X G c).2.1 ("BadLooks", ["looks"]) (List.mem_of_getElem? (i := 23) rfl))).2) (fun _ _ _ _ _ _ _ _ us hl => match us, hl with | [_], _ => rfl) (by decide)
  f_BadLooks := rfl
  n_BadLooks := He.glo_ok X G (c.t.d.facts (f := .glo "BadLooks") (List.mem_of_getElem? (i := 32) rfl))
  e_NoSigns := emk_ok (d := ed_NoSigns) (N := ["self"]) (ps := ["self"]) (fs := []) ((exE_ok X G c).1 ed_NoSigns (List.mem_of_getElem? (i := 23) rfl)) (errs_at ce (List.mem_of_getElem? (i := 23) rfl)) rfl (He.glo_ok X G (c.t.d.facts (f := .glo "NoSigns") (List.mem_of_getElem? (i := 33) rfl))) (by decide) hfile htop rfl (supScope_by (by decide +kernel)) rfl rfl rfl (by decide) (by decide) rfl (.nil _) (fieL_ok (He.ba ((exE_ok X G c).2.1 ("NoSigns", []) (List.mem_of_getElem? (i := 24) rfl))).2) (fun _ _ _ _ _ _ _ us hl => match us, hl with | [_], _ => rfl) (by decide)
  l_NoSigns := rfl
  k_NoSigns := emkk_ok (d := ed_NoSigns) (N := ["self"]) (ps := ["self"]) (fs := []) ((exE_ok X G c).1 ed_NoSigns (List.mem_of_getElem? (i := 23) rfl)) (errs_at ce (List.mem_of_getElem? (i := 23) rfl)) rfl (He.glo_ok X G (c.t.d.facts (f := .glo "NoSigns") (List.mem_of_getElem? (i := 33) rfl))) (by decide) hfile htop rfl (supScope_by (by decide +kernel)) rfl rfl rfl (by decide) (by decide) rfl (.nil _) (fieL_ok (He.ba ((exE_ok X G c).2.1 ("NoSigns", []) (List.mem_of_getElem? (i := 24) rfl))).2) (fun _ _ _ _ _ _ _ _ us hl => match us, hl with | [], _ => rfl) (by decide)
  f_NoSigns := rfl
  n_NoSigns := He.glo_ok X G (c.t.d.facts (f := .glo "NoSigns") (List.mem_of_getElem? (i := 33) rfl))
  nVE := He.free_ok X G (c.t.d.facts (f := .free "ValueError") (List.mem_of_getElem? (i := 53) rfl))
  ve := ve_ok (xs := eryN) (He.ba (show (_ && _) = true from (He.ba (show (_ && _) = true from c.more)).2)).2 (fun n hn => match n, hn with
    | 0, _ => rfl
    | 1, _ => rfl
    | 2, _ => rfl
    | 3, _ => rfl
    | 4, _ => rfl
    | 5, _ => rfl
    | 6, _ => rfl
    | 7, _ => rfl
    | 8, _ => rfl
    | 9, _ => rfl
    | 10, _ => rfl
    | 11, _ => rfl
    | 12, _ => rfl
    | 13, _ => rfl
    | 14, _ => rfl
    | 15, _ => rfl
    | 16, _ => rfl
    | 17, _ => rfl
    | 18, _ => rfl
    | 19, _ => rfl
    | 20, _ => rfl
    | 21, _ => rfl
    | 22, _ => rfl
    | 23, _ => rfl
    | 24, _ => rfl
    | n + 25, hn => absurd hn (by show ¬ (n + 25 < 25); omega))
  isi := He.free_ok X G (c.t.d.facts (f := .free "isinstance") (List.mem_of_getElem? (i := 43) rfl))
  co := erc_ok X G c
  eL := rfl
  ans := ansF_ok (exE_ok X G c).2.2 (fun n hn => match n, hn with
    | 0, _ => rfl
    | 1, _ => rfl
    | 2, _ => rfl
    | 3, _ => rfl
    | 4, _ => rfl
    | 5, _ => rfl
    | 6, _ => rfl
    | 7, _ => rfl
    | 8, _ => rfl
    | 9, _ => rfl
    | 10, _ => rfl
    | 11, _ => rfl
    | 12, _ => rfl
    | 13, _ => rfl
    | 14, _ => rfl
    | 15, _ => rfl
    | 16, _ => rfl
    | 17, _ => rfl
    | 18, _ => rfl
    | 19, _ => rfl
    | 20, _ => rfl
    | 21, _ => rfl
    | 22, _ => rfl
    | 23, _ => rfl
    | 24, _ => rfl
    | n + 25, hn => absurd hn (by show ¬ (n + 25 < 25); omega)) (ans_in (exT := K00.exT) rfl (by decide))
end
end HK00
open PySem PySem.W PySem.Calls PyProof.Rows
theorem HK00_holds (pure : ∀ ns : List Int, ns.length ≤ 63 → (∀ z ∈ ns, Builtin.Int.intBits z ≤ 1048576) → K00.F_law [.scr ns] = .ok (.fz (.bl true)) []) : PySem.Challenge.rw_leastjoined_k00_errors.Holds := by
  w_on; o_law
  refine HandSHeadRun.head_any (r := OpenLaw.row PySem.Challenge.rw_leastjoined_k00_errors) (q := HK00.qv) (H := HK00.hk) (ob := HK00.ob) (M := 20000) (loose := HK00.loose) (d := HandSHeadRun.topDef (OpenLaw.row PySem.Challenge.rw_leastjoined_k00_errors).prog 35) (kwd := []) HK00.ob_eq
    (by kernel_rfl) (fun s => by kernel_rfl) HK00.run (by kernel_rfl) (by kernel_rfl) (by kernel_rfl) (by rfl) (by first | assumption | decide +kernel) (by decide +kernel) ⟨rfl, rfl, rfl, rfl, rfl, by decide +kernel⟩ ?hw ?hc
  case hw => w_witness2
  case hc =>
    refine VL.walk_G (l := PySem.Challenge.rw_leastjoined_k00_errors) (n := 63) (k := 3) (x := "_law_script") rfl (by decide) (by kernel_rfl) ⟨rfl, by decide, by decide⟩ ?F
    intro w mg fa h Y G hmg0
    obtain ⟨K, KX, c, ce⟩ := Y
    have hmg : mg ("law" : PySem.Str) = some (.ref fa) := by
      have e : (HandSHeadRun.topDef (OpenLaw.row PySem.Challenge.rw_leastjoined_k00_errors).prog 35).name = ("law" : PySem.Str) := by kernel_rfl
      rw [← e]
      exact hmg0
    obtain ⟨fd, hf, Fd⟩ := HK00.law_ok KX G c
    have e : He.fAd K ("law", none) = fa := by
      rw [hf] at hmg
      cases hmg; rfl
    subst e
    refine ⟨K, KX, HK00.CK K, HK00.tf.map (He.cT K), "law", "law", _, _, _, [], fd, (He.cT K ("law", none)).1, K00.N_law, K00.d_law, Fd, VL.code_at Fd, rfl, fun p hp => ?_, fun p hp => ?_, fun p hp => ?_, fun p hp => ?_, fun s v => ?_, C8.fnScope_by (by decide +kernel), by decide, pure, fun base bK bG tb A outer s H E g hgd hC hr ok ex => ?_⟩
    · obtain ⟨q, hq, rfl⟩ := List.mem_map.mp hp
      exact ⟨_, List.mem_map_of_mem (f := He.cT K) hq, rfl⟩
    · obtain ⟨q, hq, rfl⟩ := List.mem_map.mp hp
      exact c.empty q hq
    · obtain ⟨q, hq, rfl⟩ := List.mem_map.mp hp
      exact c.out q hq
    · obtain ⟨q, hq, rfl⟩ := List.mem_map.mp hp
      exact PySem.W.codeHd_of_K KX (c.hd q hq)
    · exact (L2.FunD.bindsA (ps := ["_law_script"]) Fd fun _ _ _ _ _ _ us hl => match us, hl with | [_], _ => rfl) s [v] rfl
    · exact K00.body_law (HK00.fx_ok KX G c) (HK00.dx_ok KX G c) (HK00.cf_ok KX G c) (HK00.lx_ok KX G c tb) (HK00.ek_ok KX G c ce (by rfl) (by rfl)) (HK00.lfl_ok KX G c tb) A outer s H E g hgd hC hr ok ex


open PySem PySem.W PyProof.Rows
theorem PySem.Challenge.cw_leastjoined_k00_errors_holds : PySem.Challenge.rw_leastjoined_k00_errors.Holds := by
  exact HK00_holds fun ns hl _ => K00.pure_law ns hl
