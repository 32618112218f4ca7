import PyProof.Rows.All
import Wide.All
import OpenK.AllK
import Wide.FinOn
import PyProof.EqAt
import PyProof.EqKinds
import PyProof.TupleCall
import HandS.ForMost
import HandS.Exc
import HandS.Lambda
import HandS.ExcInit
import HandS.Wide
import HandS.WideBits
import HandS.Deep
import HandS.Style
import HandS.IsInst
import HandS.Codes
import HandS.TupLen
import HandS.Sort
import HandS.SortRule
import HandS.SortInts
import HandS.Small
import HandS.Text
import HandS.Walk
import HandS.Iter
import HandS.Zip
import PyProof.EnumMake
import PyProof.Draws
import HandS.Zip0
import HandS.Comp
import HandS.Defaults
import HandS.Dict
import HandS.DictComp
import KE.SortKeyHeap
import PyProof.StrOps
import KE.KDictList
import KE.KDictSum
import HandS.Conv
import KE.KStateDown
import HandS.Head0
import HandS.Head1
import HandS.Head2
import HandS.HeadEnd
import HandS.HeadHook1
import HandS.HeadHook2
import HandS.HeadHook3
import HandS.HeadHook4
import HandS.HeadWalk
import HandS.TupLe
import HandS.ReplaceLit
import HandS.OwnEq
import HandS.More
import PySem.Challenge.RW_leastjoined_k37_words_of_codes
set_option Elab.async false
set_option linter.all false
set_option maxRecDepth 100000
set_option maxHeartbeats 2000000
namespace VL
open PySem PySem.Spec L2

/-! ### values without a heap -/
inductive PV where
  | non | bl (b : Bool) | int (i : Int) | str (x : Str)
  | tup (xs : List PV) | lst (xs : List PV) | scr (ns : List Int)
  | dK (ks : List Key) (vs : List PV) | dT (ks : List (List Key)) (vs : List PV)
  | ins (c : Nat) (vs : List PV)
  | exc (c : Nat) (vs : List PV)
  deriving Inhabited

/-- what is fixed: the written part, where the classes stand, their fields in order, the fields' names -/
structure Ct where
  K : PySem.W.Frag
  ad : Nat → Addr
  L : Nat → List Nat
  nm : Nat → Str
  T : List (Addr × Str) := []
  ea : Nat → Addr := fun _ => 0
  eL : Nat → List Nat := fun _ => []
def Ct.fl (C : Ct) (c : Nat) : List Str := (C.L c).map C.nm
/-- the errors: where their classes stand, their fields -/
def Ct.el (C : Ct) (c : Nat) : List Str := (C.eL c).map C.nm

/-- the fields of an error, the last one first -/
def flds (fs : List Str) (ws : List V) (done : List (Str × V)) : List (Str × V) := (fs.zip ws).reverse ++ done
/-- an error of the class C stands at a, its fields in its dict -/
def EvR (C : Addr) (fs : List Str) (vs : List V) (a : Addr) (F : Hp) : Prop := vs.length = fs.length ∧ ((fs = [] ∧ F a = some (exo a C none)) ∨ ∃ dx, F a = some (exo a C (some dx)) ∧ F dx = some (exd dx (flds fs vs [])))
mutual
def R (C : Ct) (F : Hp) : PV → V → Prop
  | .non, v => v = .non
  | .bl b, v => v = .bl b
  | .int i, v => v = .int i
  | .str x, v => v = .str x
  | .tup xs, v => ∃ a vs, v = .ref a ∧ F a = some (.tup vs) ∧ Rs C F xs vs
  | .lst xs, v => ∃ a vs, v = .ref a ∧ F a = some (.lst vs) ∧ Rs C F xs vs
  | .scr ns, v => ∃ a, v = .ref a ∧ SqL C.K F a (ns.map V.int)
  | .dK ks xs, v => ∃ (a : Addr) (kvs : List (Key × V)), v = .ref a ∧ Rd F a (.dK kvs) ∧ kvs.map Prod.fst = ks ∧ Rs C F xs (kvs.map Prod.snd)
  | .dT ks xs, v => ∃ (a : Addr) (kvs : List (List Key × V)), v = .ref a ∧ Rd F a (.dT kvs) ∧ kvs.map Prod.fst = ks ∧ Rs C F xs (kvs.map Prod.snd)
  | .ins c xs, v => ∃ (a dx : Addr) (fs : List (Str × V)), v = .ref a ∧ F a = some (.ins (C.ad c) dx fs) ∧ fs.map Prod.fst = (C.fl c).take xs.length ∧ Rs C F xs (fs.map Prod.snd)
  | .exc c xs, v => ∃ (a : Addr) (vs : List V), v = .ref a ∧ EvR (C.ea c) (C.el c) vs a F ∧ Rs C F xs vs
def Rs (C : Ct) (F : Hp) : List PV → List V → Prop
  | [], vs => vs = []
  | x :: xs, vs => ∃ v r, vs = v :: r ∧ R C F x v ∧ Rs C F xs r
end

def Ex (F F' : Hp) : Prop := ∀ b o, F b = some o → F' b = some o
/-- stays, or a table that grows -/
def Kpt (o : HO) (x : Option HO) : Prop := x = some o ∨ ∃ ps ps', o = .tbl ps ∧ x = some (.tbl ps')
theorem Kpt.some {o : HO} {x : Option HO} (h : Kpt o x) : ∃ o', x = some o' := by
  rcases h with h | ⟨_, _, _, h⟩
  · exact ⟨_, h⟩
  · exact ⟨_, h⟩
theorem Kpt.eq {o : HO} {x : Option HO} (h : Kpt o x) (n : ∀ ps, o ≠ .tbl ps) : x = Option.some o := by
  rcases h with h | ⟨ps, _, e, _⟩
  · exact h
  · exact (n ps e).elim
theorem Kpt.trans {o : HO} {x y : Option HO} (h : Kpt o x) (k : ∀ o', x = Option.some o' → Kpt o' y) : Kpt o y := by
  rcases h with h | ⟨ps, ps', e, h⟩
  · exact k o h
  · rcases k _ h with z | ⟨_, ps2, e2, z⟩
    · exact .inr ⟨ps, ps', e, z⟩
    · exact .inr ⟨ps, ps2, e, z⟩
theorem Kpt.ex {o : HO} {b : Addr} {H H' : Hp} (h : Kpt o (H b)) (e : Ex H H') : Kpt o (H' b) := h.trans fun o' q => .inl (e b o' q)
theorem Kpt.no {o : HO} {x : Option HO} (h : Kpt o x) (n : x = none) : False := by
  obtain ⟨o', q⟩ := h.some
  rw [n] at q; cases q
/-- F's things stand in H (a dict of F's may be walked there, a table may have grown) -/
def Le (F H : Hp) : Prop := ∀ b o, F b = some o → Kpt o (H b) ∨ ((∃ kvs, o = .dK kvs) ∨ ∃ kvs, o = .dT kvs) ∧ ∃ ob, H b = some (.frz ob o)
theorem Ex.refl (F : Hp) : Ex F F := fun _ _ h => h
theorem Ex.trans {F F1 F2 : Hp} (a : Ex F F1) (b : Ex F1 F2) : Ex F F2 := fun x o h => b x o (a x o h)
theorem Ex.le {F F' : Hp} (h : Ex F F') : Le F F' := fun b o q => .inl (.inl (h b o q))
theorem Ex.new {F : Hp} {p : Addr} {o : HO} (h : F p = none) : Ex F (upd F p o) := fun b u q => by
  rw [upd_ne (ne_of_none q h)]; exact q
theorem Le.of_ex {F F' H : Hp} (a : Ex F F') (b : Le F' H) : Le F H := fun x o h => b x o (a x o h)
theorem Le.ex {F H H' : Hp} (a : Le F H) (b : Ex H H') : Le F H' := fun x o h => by
  rcases a x o h with q | ⟨k, ob, q⟩
  · exact .inl (q.ex b)
  · exact .inr ⟨k, ob, b _ _ q⟩
section
variable {C : Ct} {F H : Hp}
theorem Le.rd {a : Addr} {u : HO} (l : Le F H) (h : Rd F a u) (nt : ∀ ps, u ≠ .tbl ps := by intro ps e; cases e) : Rd H a u := by
  rcases h with h | ⟨o, h⟩
  · rcases l a u h with q | ⟨_, ob, q⟩
    · rcases q with q | ⟨ps, ps', e, q⟩
      · exact .inl q
      · exact (nt ps e).elim
    · exact .inr ⟨ob, q⟩
  · rcases l a _ h with q | ⟨k, ob, q⟩
    · exact .inr ⟨o, q.eq fun ps e => by cases e⟩
    · rcases k with ⟨_, k⟩ | ⟨_, k⟩ <;> cases k
theorem Le.sqT {K : PySem.W.Frag} {a : Addr} {xs : List V} (l : Le F H) (h : SqT K F a xs) : SqT K H a xs := by
  rcases h with h | h
  · exact .inl (l.rd h)
  · exact .inr h
theorem Le.sqL {K : PySem.W.Frag} {a : Addr} {xs : List V} (l : Le F H) (h : SqL K F a xs) : SqL K H a xs := by
  rcases h with h | h
  · exact .inl (l.rd h)
  · exact .inr h
theorem Le.lst {a : Addr} {xs : List V} (l : Le F H) (h : F a = some (.lst xs)) : H a = some (.lst xs) := by
  rcases l a _ h with q | ⟨k, _⟩
  · exact q.eq fun ps e => by cases e
  · rcases k with ⟨_, k⟩ | ⟨_, k⟩ <;> cases k
theorem Le.tup {a : Addr} {xs : List V} (l : Le F H) (h : F a = some (.tup xs)) : H a = some (.tup xs) := by
  rcases l a _ h with q | ⟨k, _⟩
  · exact q.eq fun ps e => by cases e
  · rcases k with ⟨_, k⟩ | ⟨_, k⟩ <;> cases k
theorem Le.ins {a D dx : Addr} {fs : List (Str × V)} (l : Le F H) (h : F a = some (.ins D dx fs)) : H a = some (.ins D dx fs) := by
  rcases l a _ h with q | ⟨k, _⟩
  · exact q.eq fun ps e => by cases e
  · rcases k with ⟨_, k⟩ | ⟨_, k⟩ <;> cases k
theorem Le.ext {a : Addr} {φ : Heap → Prop} (l : Le F H) (h : F a = some (.ext φ)) : H a = some (.ext φ) := by
  rcases l a _ h with q | ⟨k, _⟩
  · exact q.eq fun ps e => by cases e
  · rcases k with ⟨_, k⟩ | ⟨_, k⟩ <;> cases k
theorem Le.evr {D a : Addr} {fs : List Str} {vs : List V} (l : Le F H) (h : EvR D fs vs a F) : EvR D fs vs a H := by
  obtain ⟨h0, ⟨h1, h2⟩ | ⟨dx, h1, h2⟩⟩ := h
  · exact ⟨h0, .inl ⟨h1, l.ext h2⟩⟩
  · exact ⟨h0, .inr ⟨dx, l.ext h1, l.ext h2⟩⟩
mutual
theorem R.mono (l : Le F H) : ∀ {p : PV} {v : V}, R C F p v → R C H p v
  | .non, _, h => h
  | .bl _, _, h => h
  | .int _, _, h => h
  | .str _, _, h => h
  | .tup xs, v, h => by
    unfold R at h ⊢
    obtain ⟨a, vs, e, q, r⟩ := h
    exact ⟨a, vs, e, l.tup q, Rs.mono l r⟩
  | .lst xs, v, h => by
    unfold R at h ⊢
    obtain ⟨a, vs, e, q, r⟩ := h
    exact ⟨a, vs, e, l.lst q, Rs.mono l r⟩
  | .scr ns, v, h => by
    unfold R at h ⊢
    obtain ⟨a, e, q⟩ := h
    exact ⟨a, e, l.sqL q⟩
  | .dK ks xs, v, h => by
    unfold R at h ⊢
    obtain ⟨a, kvs, e, q, k, r⟩ := h
    exact ⟨a, kvs, e, l.rd q, k, Rs.mono l r⟩
  | .dT ks xs, v, h => by
    unfold R at h ⊢
    obtain ⟨a, kvs, e, q, k, r⟩ := h
    exact ⟨a, kvs, e, l.rd q, k, Rs.mono l r⟩
  | .ins c xs, v, h => by
    unfold R at h ⊢
    obtain ⟨a, dx, fs, e, q, k, r⟩ := h
    exact ⟨a, dx, fs, e, l.ins q, k, Rs.mono l r⟩
  | .exc c xs, v, h => by
    unfold R at h ⊢
    obtain ⟨a, vs, e, q, r⟩ := h
    exact ⟨a, vs, e, l.evr q, Rs.mono l r⟩
theorem Rs.mono (l : Le F H) : ∀ {p : List PV} {v : List V}, Rs C F p v → Rs C H p v
  | [], _, h => h
  | x :: xs, v, h => by
    unfold Rs at h ⊢
    obtain ⟨y, r, e, q, t⟩ := h
    exact ⟨y, r, e, R.mono l q, Rs.mono l t⟩
end
end
end VL

set_option maxRecDepth 100000
set_option maxHeartbeats 2000000
namespace VL
open PySem PySem.Spec L2
section
variable {C : Ct} {F H : Hp}
theorem Rs.nil : Rs C F [] [] := by unfold Rs; rfl
theorem Rs.cons {x : PV} {xs : List PV} {v : V} {vs : List V} (h : R C F x v) (t : Rs C F xs vs) : Rs C F (x :: xs) (v :: vs) := by
  unfold Rs; exact ⟨v, vs, rfl, h, t⟩
theorem Rs.nil_inv {vs : List V} (h : Rs C F [] vs) : vs = [] := by unfold Rs at h; exact h
theorem Rs.cons_inv {x : PV} {xs : List PV} {vs : List V} (h : Rs C F (x :: xs) vs) : ∃ v r, vs = v :: r ∧ R C F x v ∧ Rs C F xs r := by unfold Rs at h; exact h
theorem Rs.length : ∀ {xs : List PV} {vs : List V}, Rs C F xs vs → vs.length = xs.length
  | [], vs, h => by rw [h.nil_inv]; rfl
  | x :: xs, vs, h => by
    obtain ⟨v, r, rfl, _, t⟩ := h.cons_inv
    simp [Rs.length t]
theorem Rs.get : ∀ {xs : List PV} {vs : List V} {i : Nat} {x : PV}, Rs C F xs vs → xs[i]? = some x → ∃ v, vs[i]? = some v ∧ R C F x v
  | [], _, i, x, _, e => by simp at e
  | y :: xs, vs, 0, x, h, e => by
    obtain ⟨v, r, rfl, q, t⟩ := h.cons_inv
    simp at e; subst e
    exact ⟨v, rfl, q⟩
  | y :: xs, vs, i + 1, x, h, e => by
    obtain ⟨v, r, rfl, q, t⟩ := h.cons_inv
    obtain ⟨w, h1, h2⟩ := Rs.get (i := i) (x := x) t (by simpa using e)
    exact ⟨w, by simpa using h1, h2⟩
theorem Rs.getV : ∀ {xs : List PV} {vs : List V} {i : Nat} {v : V}, Rs C F xs vs → vs[i]? = some v → ∃ x, xs[i]? = some x ∧ R C F x v := fun {xs vs i v} h e => by
  obtain ⟨hi, _⟩ := List.getElem?_eq_some_iff.mp e
  have hi' : i < xs.length := by rw [← h.length]; exact hi
  obtain ⟨w, h1, h2⟩ := h.get (i := i) (x := xs[i]) (by simp [hi'])
  rw [e] at h1; cases h1
  exact ⟨xs[i], by simp [hi'], h2⟩
theorem Rs.append : ∀ {xs ys : List PV} {vs ws : List V}, Rs C F xs vs → Rs C F ys ws → Rs C F (xs ++ ys) (vs ++ ws)
  | [], ys, vs, ws, h, t => by rw [h.nil_inv]; exact t
  | x :: xs, ys, vs, ws, h, t => by
    obtain ⟨v, r, rfl, q, u⟩ := h.cons_inv
    exact Rs.cons q (Rs.append u t)
theorem Rs.take : ∀ {xs : List PV} {vs : List V} (n : Nat), Rs C F xs vs → Rs C F (xs.take n) (vs.take n)
  | _, _, 0, _ => by simp; exact Rs.nil
  | [], vs, n + 1, h => by rw [h.nil_inv]; simp; exact Rs.nil
  | x :: xs, vs, n + 1, h => by
    obtain ⟨v, r, rfl, q, u⟩ := h.cons_inv
    simp only [List.take_succ_cons]
    exact Rs.cons q (Rs.take n u)
theorem Rs.drop : ∀ {xs : List PV} {vs : List V} (n : Nat), Rs C F xs vs → Rs C F (xs.drop n) (vs.drop n)
  | _, _, 0, h => by simpa using h
  | [], vs, n + 1, h => by rw [h.nil_inv]; simp; exact Rs.nil
  | x :: xs, vs, n + 1, h => by
    obtain ⟨v, r, rfl, q, u⟩ := h.cons_inv
    simp only [List.drop_succ_cons]
    exact Rs.drop n u
theorem Rs.set : ∀ {xs : List PV} {vs : List V} (i : Nat) {x : PV} {v : V}, Rs C F xs vs → R C F x v → Rs C F (xs.set i x) (vs.set i v)
  | [], vs, _, _, _, h, _ => by rw [h.nil_inv]; simp; exact Rs.nil
  | y :: xs, vs, 0, x, v, h, q => by
    obtain ⟨w, r, rfl, q', u⟩ := h.cons_inv
    exact Rs.cons q u
  | y :: xs, vs, i + 1, x, v, h, q => by
    obtain ⟨w, r, rfl, q', u⟩ := h.cons_inv
    exact Rs.cons q' (Rs.set i u q)
theorem Rs.snoc {xs : List PV} {vs : List V} {x : PV} {v : V} (h : Rs C F xs vs) (q : R C F x v) : Rs C F (xs ++ [x]) (vs ++ [v]) := h.append (Rs.cons q Rs.nil)
theorem Rs.reverse : ∀ {xs : List PV} {vs : List V}, Rs C F xs vs → Rs C F xs.reverse vs.reverse
  | [], vs, h => by rw [h.nil_inv]; exact Rs.nil
  | x :: xs, vs, h => by
    obtain ⟨v, r, rfl, q, u⟩ := h.cons_inv
    simp only [List.reverse_cons]
    exact (Rs.reverse u).snoc q
theorem Rs.eraseIdx : ∀ {xs : List PV} {vs : List V} (i : Nat), Rs C F xs vs → Rs C F (xs.eraseIdx i) (vs.eraseIdx i)
  | [], vs, _, h => by rw [h.nil_inv]; simp; exact Rs.nil
  | x :: xs, vs, 0, h => by
    obtain ⟨v, r, rfl, q, u⟩ := h.cons_inv
    simpa using u
  | x :: xs, vs, i + 1, h => by
    obtain ⟨v, r, rfl, q, u⟩ := h.cons_inv
    simp only [List.eraseIdx_cons_succ]
    exact Rs.cons q (Rs.eraseIdx i u)
theorem Rs.ints_of : ∀ {ns : List Int} {vs : List V}, Rs C F (ns.map PV.int) vs → vs = ns.map V.int
  | [], vs, h => by rw [h.nil_inv]; rfl
  | n :: ns, vs, h => by
    obtain ⟨v, r, rfl, q, u⟩ := h.cons_inv
    unfold R at q
    subst q
    rw [Rs.ints_of u]; rfl
theorem Rs.of_ints : ∀ (ns : List Int), Rs C F (ns.map PV.int) (ns.map V.int)
  | [] => Rs.nil
  | n :: ns => Rs.cons (by unfold R; rfl) (Rs.of_ints ns)
theorem Rs.strs_of : ∀ {ns : List Str} {vs : List V}, Rs C F (ns.map PV.str) vs → vs = ns.map V.str
  | [], vs, h => by rw [h.nil_inv]; rfl
  | n :: ns, vs, h => by
    obtain ⟨v, r, rfl, q, u⟩ := h.cons_inv
    unfold R at q
    subst q
    rw [Rs.strs_of u]; rfl
theorem Rs.bls_of : ∀ {ns : List Bool} {vs : List V}, Rs C F (ns.map PV.bl) vs → vs = ns.map V.bl
  | [], vs, h => by rw [h.nil_inv]; rfl
  | n :: ns, vs, h => by
    obtain ⟨v, r, rfl, q, u⟩ := h.cons_inv
    unfold R at q
    subst q
    rw [Rs.bls_of u]; rfl
end

/-! ### slots, values that come of expressions -/
/-- a slot: nothing known; a value that stays; a container whose own cell only this slot holds (b: made here; else the caller's) -/
inductive Sl where
  | no | fz (p : PV) | ow (b : Bool) (p : PV)
  deriving Inhabited
abbrev Env' := List Sl
inductive Val where
  | fz (p : PV) | bor (i : Nat) | new (p : PV)
  deriving Inhabited
structure Exc' where
  c : Nat
  fs : List PV
  deriving Inhabited
inductive Res (α : Type) where
  | bad | ok (x : α) (e : Env') | err (x : Exc') (e : Env')
  deriving Inhabited
def Res.bind {α β : Type} (r : Res α) (f : α → Env' → Res β) : Res β := match r with
  | .bad => .bad
  | .ok x e => f x e
  | .err x e => .err x e

/-- a container's own cell in H, its parts in F -/
def R1 (C : Ct) (F H : Hp) : PV → Addr → Prop
  | .lst xs, a => ∃ vs, H a = some (.lst vs) ∧ Rs C F xs vs
  | .dK ks xs, a => ∃ kvs : List (Key × V), H a = some (.dK kvs) ∧ kvs.map Prod.fst = ks ∧ Rs C F xs (kvs.map Prod.snd)
  | .dT ks xs, a => ∃ kvs : List (List Key × V), H a = some (.dT kvs) ∧ kvs.map Prod.fst = ks ∧ Rs C F xs (kvs.map Prod.snd)
  | .ins c xs, a => ∃ (dx : Addr) (fs : List (Str × V)), H a = some (.ins (C.ad c) dx fs) ∧ fs.map Prod.fst = (C.fl c).take xs.length ∧ Rs C F xs (fs.map Prod.snd)
  | _, _ => False
theorem R1.mono {C : Ct} {F F' H H' : Hp} (l : Le F F') {p : PV} {a : Addr} (h : R1 C F H p a) (e : H' a = H a) : R1 C F' H' p a := by
  cases p <;> try exact h.elim
  all_goals simp only [R1] at h ⊢
  all_goals rw [e]
  · obtain ⟨vs, q, r⟩ := h; exact ⟨vs, q, r.mono l⟩
  · obtain ⟨vs, q, k, r⟩ := h; exact ⟨vs, q, k, r.mono l⟩
  · obtain ⟨vs, q, k, r⟩ := h; exact ⟨vs, q, k, r.mono l⟩
  · obtain ⟨dx, fs, q, k, r⟩ := h; exact ⟨dx, fs, q, k, r.mono l⟩
theorem R1.cell {C : Ct} {F H : Hp} {p : PV} {a : Addr} (h : R1 C F H p a) : ∃ o, H a = some o := by
  cases p <;> try exact h.elim
  all_goals simp only [R1] at h
  · obtain ⟨vs, q, r⟩ := h; exact ⟨_, q⟩
  · obtain ⟨vs, q, k, r⟩ := h; exact ⟨_, q⟩
  · obtain ⟨vs, q, k, r⟩ := h; exact ⟨_, q⟩
  · obtain ⟨dx, fs, q, k, r⟩ := h; exact ⟨_, q⟩
/-- frozen: F knows the cell now -/
theorem R1.frozen {C : Ct} {F H : Hp} {p : PV} {a : Addr} {o : HO} (h : R1 C F H p a) (ho : H a = some o) (hf : F a = none) : R C (upd F a o) p (.ref a) := by
  have l : Le F (upd F a o) := (Ex.new hf).le
  cases p <;> try exact h.elim
  all_goals simp only [R1] at h
  all_goals unfold R
  · obtain ⟨vs, q, r⟩ := h
    rw [ho] at q; cases q
    exact ⟨a, vs, rfl, upd_same, r.mono l⟩
  · obtain ⟨vs, q, k, r⟩ := h
    rw [ho] at q; cases q
    exact ⟨a, vs, rfl, .inl upd_same, k, r.mono l⟩
  · obtain ⟨vs, q, k, r⟩ := h
    rw [ho] at q; cases q
    exact ⟨a, vs, rfl, .inl upd_same, k, r.mono l⟩
  · obtain ⟨dx, fs, q, k, r⟩ := h
    rw [ho] at q; cases q
    exact ⟨a, dx, fs, rfl, upd_same, k, r.mono l⟩

/-- an own cell is no table, and nothing of one's own -/
def Pln (o : HO) : Prop := (∀ ps, o ≠ .tbl ps) ∧ ∀ φ, o ≠ .ext φ
theorem R1.pln {C : Ct} {F H : Hp} {p : PV} {a : Addr} {o : HO} (h : R1 C F H p a) (e : H a = some o) : Pln o := by
  cases p <;> try exact h.elim
  · obtain ⟨vs, q, _⟩ := h; rw [e] at q; cases q; exact ⟨fun _ z => (by cases z), fun _ z => (by cases z)⟩
  · obtain ⟨vs, q, _⟩ := h; rw [e] at q; cases q; exact ⟨fun _ z => (by cases z), fun _ z => (by cases z)⟩
  · obtain ⟨vs, q, _⟩ := h; rw [e] at q; cases q; exact ⟨fun _ z => (by cases z), fun _ z => (by cases z)⟩
  · obtain ⟨dx, fs, q, _⟩ := h; rw [e] at q; cases q; exact ⟨fun _ z => (by cases z), fun _ z => (by cases z)⟩
theorem tabs_upd {T : List (Addr × Str)} {H : Hp} {a : Addr} {o u : HO} (t : LamX.Tabs T H) (e : H a = some u) (n : Pln u) : LamX.Tabs T (upd H a o) := fun p hp => by
  obtain ⟨ps, h1, h2, h3⟩ := t p hp
  have n1 : p.1 ≠ a := fun z => by rw [z, e] at h1; cases h1; exact n.1 _ rfl
  refine ⟨ps, by rw [upd_ne n1]; exact h1, h2, fun pos cv hc => ?_⟩
  obtain ⟨c, e1, e2⟩ := h3 pos cv hc
  have n2 : c ≠ a := fun z => by rw [z, e] at e2; unfold LamX.CodeO at e2; cases e2; exact n.2 _ rfl
  exact ⟨c, e1, by rw [upd_ne n2]; exact e2⟩
/-- one activation: what stood at its entry, which cells it may write, what is wanted of an error -/
structure Gm where
  C : Ct
  F0 : Hp
  H0 : Hp
  P : Nat → Option Addr
  W : Exc' → Env' → St → Hp → Hp → Prop

/-- lent by the caller -/
def Gm.O (g : Gm) (a : Addr) : Prop := ∃ i, g.P i = some a
structure Stt (g : Gm) (F H : Hp) (σ : St) (env : Env') : Prop where
  len : σ.length = env.length
  frame : ∀ b o, g.H0 b = some o → ¬ g.O b → Kpt o (H b)
  live : ∀ b, g.O b → ∃ o, H b = some o
  ext : Ex g.F0 F
  fresh : ∀ b o, F b = some o → g.F0 b = some o ∨ g.H0 b = none
  sub : Le F H
  fz : ∀ (i : Nat) p, env[i]? = some (.fz p) → ∃ v, σ[i]? = some (some v) ∧ R g.C F p v
  ow : ∀ (i : Nat) b p, env[i]? = some (.ow b p) → ∃ a, σ[i]? = some (some (.ref a)) ∧ R1 g.C F H p a ∧ F a = none ∧ (if b = true then g.H0 a = none else g.P i = some a)
  inj : ∀ (i j : Nat) b c p q a, env[i]? = some (.ow b p) → env[j]? = some (.ow c q) → σ[i]? = some (some (.ref a)) → σ[j]? = some (some (.ref a)) → i = j
  tab : LamX.Tabs g.C.T H

def RV (g : Gm) (F H : Hp) (σ : St) (env : Env') : Val → V → Prop
  | .fz p, v => R g.C F p v
  | .bor i, v => σ[i]? = some (some v)
  | .new p, v => ∃ a, v = .ref a ∧ R1 g.C F H p a ∧ F a = none ∧ g.H0 a = none ∧ ∀ (i : Nat) b q, env[i]? = some (.ow b q) → σ[i]? ≠ some (some (.ref a))

section
variable {g : Gm} {F H : Hp} {σ : St} {env : Env'}
theorem Stt.new0 (S : Stt g F H σ env) {p : Addr} (hp : H p = none) : F p = none ∧ g.H0 p = none ∧ ¬ g.O p := by
  have ho : ¬ g.O p := fun z => by
    obtain ⟨o, e⟩ := S.live p z
    rw [hp] at e; cases e
  refine ⟨?_, ?_, ho⟩
  · cases q : F p with
    | none => rfl
    | some o =>
      rcases S.sub p o q with z | ⟨_, ob, z⟩
      · exact (z.no hp).elim
      · rw [hp] at z; cases z
  · cases q : g.H0 p with
    | none => rfl
    | some o =>
      exact ((S.frame p o q ho).no hp).elim
/-- the heap grows -/
theorem Stt.grow (S : Stt g F H σ env) {H' : Hp} (e : Ex H H') : Stt g F H' σ env where
  len := S.len
  frame := fun b o q n => (S.frame b o q n).ex e
  live := fun b hb => let ⟨o, q⟩ := S.live b hb; ⟨o, e b o q⟩
  ext := S.ext
  fresh := S.fresh
  sub := S.sub.ex e
  fz := S.fz
  ow := fun i b p q => by
    obtain ⟨a, h1, h2, h3⟩ := S.ow i b p q
    obtain ⟨o, ho⟩ := h2.cell
    exact ⟨a, h1, h2.mono (Ex.refl F).le ((e a o ho).trans ho.symm), h3⟩
  inj := S.inj
  tab := S.tab.ext e
/-- F knows more -/
theorem Stt.know (S : Stt g F H σ env) {a : Addr} {o : HO} (hf : F a = none) (ho : H a = some o) (h0 : g.H0 a = none) (ho' : ∀ (i : Nat) b q, env[i]? = some (.ow b q) → σ[i]? ≠ some (some (.ref a))) : Stt g (upd F a o) H σ env where
  len := S.len
  frame := S.frame
  live := S.live
  ext := S.ext.trans (Ex.new hf)
  fresh := fun b u q => by
    by_cases hb : b = a
    · subst hb; exact .inr h0
    · rw [upd_ne hb] at q; exact S.fresh b u q
  sub := fun b u q => by
    by_cases hb : b = a
    · subst hb; rw [upd_same] at q; cases q; exact .inl (.inl ho)
    · rw [upd_ne hb] at q; exact S.sub b u q
  fz := fun i p q => by
    obtain ⟨v, h1, h2⟩ := S.fz i p q
    exact ⟨v, h1, h2.mono (Ex.new hf).le⟩
  ow := fun i f p q => by
    obtain ⟨b, h1, h2, h3, h4⟩ := S.ow i f p q
    have hb : b ≠ a := fun z => ho' i f p q (by rw [h1, z])
    exact ⟨b, h1, h2.mono (Ex.new hf).le rfl, by rw [upd_ne hb]; exact h3, h4⟩
  inj := S.inj
  tab := S.tab
theorem getElem?_set_cases {α : Type} {l : List α} {i j : Nat} {x y : α} (h : (l.set i x)[j]? = some y) : (i = j ∧ x = y ∧ i < l.length) ∨ (i ≠ j ∧ l[j]? = some y) := by
  by_cases e : i = j
  · subst e
    by_cases hl : i < l.length
    · rw [List.getElem?_set_self hl] at h
      exact .inl ⟨rfl, Option.some.inj h, hl⟩
    · rw [List.getElem?_eq_none (by simpa using hl)] at h; cases h
  · rw [List.getElem?_set_ne e] at h
    exact .inr ⟨e, h⟩
/-- a slot's own container becomes one that stays -/
theorem Stt.freeze (S : Stt g F H σ env) {i : Nat} {p : PV} {a : Addr} {o : HO} (hi : env[i]? = some (.ow true p)) (ha : σ[i]? = some (some (.ref a))) (ho : H a = some o) :
    Stt g (upd F a o) H σ (env.set i (.fz p)) ∧ R g.C (upd F a o) p (.ref a) := by
  obtain ⟨b, h1, h2, h3, h4⟩ := S.ow i _ p hi
  rw [ha] at h1; cases h1
  have h0 : g.H0 a = none := by rw [if_pos rfl] at h4; exact h4
  have rr := h2.frozen ho h3
  have l : Le F (upd F a o) := (Ex.new h3).le
  refine ⟨⟨by simpa using S.len, S.frame, S.live, S.ext.trans (Ex.new h3), fun b u q => ?_, fun b u q => ?_, fun j q hq => ?_, fun j f q hq => ?_, fun j k f f' q r b hj hk e1 e2 => ?_, S.tab⟩, rr⟩
  · by_cases hb : b = a
    · subst hb; exact .inr h0
    · rw [upd_ne hb] at q; exact S.fresh b u q
  · by_cases hb : b = a
    · subst hb; rw [upd_same] at q; cases q; exact .inl (.inl ho)
    · rw [upd_ne hb] at q; exact S.sub b u q
  · rcases getElem?_set_cases hq with ⟨rfl, e, _⟩ | ⟨hne, e⟩
    · cases e; exact ⟨_, ha, rr⟩
    · obtain ⟨v, e1, e2⟩ := S.fz j q e
      exact ⟨v, e1, e2.mono l⟩
  · rcases getElem?_set_cases hq with ⟨rfl, e, _⟩ | ⟨hne, e⟩
    · cases e
    · obtain ⟨b, e1, e2, e3, e4⟩ := S.ow j f q e
      have hb : b ≠ a := fun z => hne (S.inj i j _ _ p q a hi e ha (by rw [e1, z]))
      exact ⟨b, e1, e2.mono l rfl, by rw [upd_ne hb]; exact e3, e4⟩
  · rcases getElem?_set_cases hj with ⟨_, e, _⟩ | ⟨_, hj'⟩
    · cases e
    · rcases getElem?_set_cases hk with ⟨_, e, _⟩ | ⟨_, hk'⟩
      · cases e
      · exact S.inj j k _ _ q r b hj' hk' e1 e2
/-- the container of slot i is written -/
theorem Stt.write (S : Stt g F H σ env) {i : Nat} {f : Bool} {p p' : PV} {a : Addr} {o : HO} (hi : env[i]? = some (.ow f p)) (ha : σ[i]? = some (some (.ref a))) (h' : R1 g.C F (upd H a o) p' a) : Stt g F (upd H a o) σ (env.set i (.ow f p')) := by
  obtain ⟨b, h1, h2, h3, h4⟩ := S.ow i f p hi
  rw [ha] at h1; cases h1
  refine ⟨by simpa using S.len, fun b u q n => ?_, fun b hb => ?_, S.ext, S.fresh, fun b u q => ?_, fun j q hq => ?_, fun j f' q hq => ?_, fun j k f' f'' q r b hj hk e1 e2 => ?_, (let ⟨_, hu⟩ := h2.cell; tabs_upd S.tab hu (h2.pln hu))⟩
  · have hb : b ≠ a := fun z => by
      subst z
      cases f with
      | true =>
        rw [if_pos rfl] at h4
        rw [q] at h4; cases h4
      | false =>
        rw [if_neg Bool.false_ne_true] at h4
        exact n ⟨i, h4⟩
    rw [upd_ne hb]; exact S.frame b u q n
  · by_cases e : b = a
    · subst e; exact ⟨o, upd_same⟩
    · obtain ⟨u, q⟩ := S.live b hb
      exact ⟨u, by rw [upd_ne e]; exact q⟩
  · have hb : b ≠ a := fun z => by rw [z, h3] at q; cases q
    rw [upd_ne hb]; exact S.sub b u q
  · rcases getElem?_set_cases hq with ⟨rfl, e, _⟩ | ⟨hne, e⟩
    · cases e
    · exact S.fz j q e
  · rcases getElem?_set_cases hq with ⟨rfl, e, _⟩ | ⟨hne, e⟩
    · cases e
      exact ⟨a, ha, h', h3, h4⟩
    · obtain ⟨b, e1, e2, e3, e4⟩ := S.ow j f' q e
      have hb : b ≠ a := fun z => hne (S.inj i j _ _ p q a hi e ha (by rw [e1, z]))
      exact ⟨b, e1, e2.mono (Ex.refl F).le (upd_ne hb), e3, e4⟩
  · rcases getElem?_set_cases hj with ⟨rfl, e, _⟩ | ⟨_, hj'⟩
    · rcases getElem?_set_cases hk with ⟨h, _, _⟩ | ⟨_, hk'⟩
      · exact h
      · exact S.inj _ k _ _ _ r b hi hk' e1 e2
    · rcases getElem?_set_cases hk with ⟨rfl, e, _⟩ | ⟨_, hk'⟩
      · exact S.inj j _ _ _ q _ b hj' hi e1 e2
      · exact S.inj j k _ _ q r b hj' hk' e1 e2
/-- a value that stays is stored in slot i -/
theorem Stt.setFz (S : Stt g F H σ env) {i : Nat} {p : PV} {v : V} (h : R g.C F p v) : Stt g F H (σ.set i (some v)) (env.set i (.fz p)) := by
  refine ⟨by simpa using S.len, S.frame, S.live, S.ext, S.fresh, S.sub, fun j q hq => ?_, fun j f q hq => ?_, fun j k f f' q r b hj hk e1 e2 => ?_, S.tab⟩
  · rcases getElem?_set_cases hq with ⟨rfl, e, hl⟩ | ⟨hne, e⟩
    · cases e
      exact ⟨v, by rw [List.getElem?_set_self (by rw [S.len]; exact hl)], h⟩
    · rw [List.getElem?_set_ne hne]; exact S.fz j q e
  · rcases getElem?_set_cases hq with ⟨rfl, e, _⟩ | ⟨hne, e⟩
    · cases e
    · rw [List.getElem?_set_ne hne]; exact S.ow j f q e
  · rcases getElem?_set_cases hj with ⟨_, e, _⟩ | ⟨n1, hj'⟩
    · cases e
    · rcases getElem?_set_cases hk with ⟨_, e, _⟩ | ⟨n2, hk'⟩
      · cases e
      · rw [List.getElem?_set_ne n1] at e1
        rw [List.getElem?_set_ne n2] at e2
        exact S.inj j k _ _ q r b hj' hk' e1 e2
/-- a new container is stored in slot i -/
theorem Stt.setOw (S : Stt g F H σ env) {i : Nat} {p : PV} {a : Addr} (h : R1 g.C F H p a) (hf : F a = none) (h0 : g.H0 a = none) (hn : ∀ (i : Nat) b q, env[i]? = some (.ow b q) → σ[i]? ≠ some (some (.ref a))) :
    Stt g F H (σ.set i (some (.ref a))) (env.set i (.ow true p)) := by
  refine ⟨by simpa using S.len, S.frame, S.live, S.ext, S.fresh, S.sub, fun j q hq => ?_, fun j f q hq => ?_, fun j k f f' q r b hj hk e1 e2 => ?_, S.tab⟩
  · rcases getElem?_set_cases hq with ⟨rfl, e, hl⟩ | ⟨hne, e⟩
    · cases e
    · rw [List.getElem?_set_ne hne]; exact S.fz j q e
  · rcases getElem?_set_cases hq with ⟨rfl, e, hl⟩ | ⟨hne, e⟩
    · cases e
      exact ⟨a, by rw [List.getElem?_set_self (by rw [S.len]; exact hl)], h, hf, by rw [if_pos rfl]; exact h0⟩
    · rw [List.getElem?_set_ne hne]; exact S.ow j f q e
  · rcases getElem?_set_cases hj with ⟨rfl, _, hl1⟩ | ⟨n1, hj'⟩
    · rcases getElem?_set_cases hk with ⟨h, _, _⟩ | ⟨n2, hk'⟩
      · exact h
      · rw [List.getElem?_set_self (by rw [S.len]; exact hl1)] at e1
        cases e1
        rw [List.getElem?_set_ne n2] at e2
        exact (hn k _ r hk' e2).elim
    · rw [List.getElem?_set_ne n1] at e1
      rcases getElem?_set_cases hk with ⟨rfl, _, hl2⟩ | ⟨n2, hk'⟩
      · rw [List.getElem?_set_self (by rw [S.len]; exact hl2)] at e2
        cases e2
        exact (hn j _ q hj' e1).elim
      · rw [List.getElem?_set_ne n2] at e2
        exact S.inj j k _ _ q r b hj' hk' e1 e2
/-- forgetting a slot -/
theorem Stt.drop (S : Stt g F H σ env) (i : Nat) : Stt g F H σ (env.set i .no) := by
  refine ⟨by simpa using S.len, S.frame, S.live, S.ext, S.fresh, S.sub, fun j q hq => ?_, fun j f q hq => ?_, fun j k f f' q r b hj hk e1 e2 => ?_, S.tab⟩
  · rcases getElem?_set_cases hq with ⟨_, e, hl⟩ | ⟨_, e⟩
    · cases e
    · exact S.fz j q e
  · rcases getElem?_set_cases hq with ⟨_, e, hl⟩ | ⟨_, e⟩
    · cases e
    · exact S.ow j f q e
  · rcases getElem?_set_cases hj with ⟨_, e, _⟩ | ⟨_, hj'⟩
    · cases e
    · rcases getElem?_set_cases hk with ⟨_, e, _⟩ | ⟨_, hk'⟩
      · cases e
      · exact S.inj j k _ _ q r b hj' hk' e1 e2
end

/-! ### what is to be shown -/
def Go {α : Type} (g : Gm) (F : Hp) (σ : St) (r : Res α) (K : α → Env' → Hp → Hp → Prop) : Prop := match r with
  | .bad => False
  | .err x e => ∀ F' H', Ex F F' → Stt g F' H' σ e → g.W x e σ F' H'
  | .ok x e => ∀ F' H', Ex F F' → Stt g F' H' σ e → K x e F' H'
theorem Go.bind {α β : Type} {g : Gm} {F : Hp} {σ : St} {r : Res α} {f : α → Env' → Res β} {K : β → Env' → Hp → Hp → Prop} (h : Go g F σ (r.bind f) K) : Go g F σ r (fun x e F' H' => Go g F' σ (f x e) K) := by
  cases r with
  | bad => exact h
  | err x e => exact h
  | ok x e =>
    intro F' H' e1 S
    have h' : Go g F σ (f x e) K := h
    cases q : f x e with
    | bad => rw [q] at h'; exact h'
    | err y e' => rw [q] at h'; exact fun F2 H2 e2 S2 => h' F2 H2 (e1.trans e2) S2
    | ok y e' => rw [q] at h'; exact fun F2 H2 e2 S2 => h' F2 H2 (e1.trans e2) S2
theorem Go.mono {α : Type} {g : Gm} {F : Hp} {σ : St} {r : Res α} {K K' : α → Env' → Hp → Hp → Prop} (h : Go g F σ r K) (k : ∀ x e F' H', Ex F F' → Stt g F' H' σ e → K x e F' H' → K' x e F' H') : Go g F σ r K' := by
  cases r with
  | bad => exact h
  | err x e => exact h
  | ok x e => exact fun F' H' a b => k x e F' H' a b (h F' H' a b)

/-- an expression's readings by what it gives -/
def tE (g : Gm) (d : Env' → Res Val) : TE := fun σ H Q => ∃ F env, Stt g F H σ env ∧ Go g F σ (d env) fun x env' F' H' => ∀ v, RV g F' H' σ env' x v → Q v H'
def tT (g : Gm) (d : Env' → Res Bool) : TT := fun σ H Q => ∃ F env, Stt g F H σ env ∧ Go g F σ (d env) fun b env' F' H' => Q b H'
def RVs (g : Gm) (F H : Hp) (σ : St) (env : Env') : List Val → List V → Prop
  | [], vs => vs = []
  | x :: xs, vs => ∃ v r, vs = v :: r ∧ RV g F H σ env x v ∧ RVs g F H σ env xs r
def tA (g : Gm) (d : Env' → Res (List Val)) : TA := fun σ H Q => ∃ F env, Stt g F H σ env ∧ Go g F σ (d env) fun xs env' F' H' => ∀ vs, RVs g F' H' σ env' xs vs → Q vs H'
theorem peImp {X : Cx} {e : Expr} {t t' : TE} (h : PE X e t) (k : ∀ σ H Q, t' σ H Q → t σ H Q) : PE X e t' := ⟨fun pins s σ H Q I q => h.run pins s σ H Q I (k σ H Q q)⟩
theorem ptImp {X : Cx} {e : Expr} {t t' : TT} (h : PT X e t) (k : ∀ σ H Q, t' σ H Q → t σ H Q) : PT X e t' := ⟨fun pins s σ H Q I q => h.run pins s σ H Q I (k σ H Q q)⟩
theorem paImp {X : Cx} {e : List Expr} {t t' : TA} (h : PA X e t) (k : ∀ σ H Q, t' σ H Q → t σ H Q) : PA X e t' := ⟨fun p pins s σ H Q I q => h.run p pins s σ H Q I (k σ H Q q)⟩
theorem psImp {X : Cx} {e : Stmt} {t t' : TS} (h : PS X e t) (k : ∀ D σ H, t' D σ H → t D σ H) : PS X e t' := ⟨fun pins s σ H D I q => h.run pins s σ H D I (k D σ H q)⟩
theorem pssImp {X : Cx} {e : List Stmt} {t t' : TS} (h : PSs X e t) (k : ∀ D σ H, t' D σ H → t D σ H) : PSs X e t' := ⟨fun pins s σ H D I q => h.run pins s σ H D I (k D σ H q)⟩
theorem peOr {X : Cx} {e : Expr} {t t' : TE} (h : PE X e t) (h' : PE X e t') : PE X e (fun σ H Q => t σ H Q ∨ t' σ H Q) := ⟨fun pins s σ H Q I q => q.elim (h.run pins s σ H Q I) (h'.run pins s σ H Q I)⟩
theorem psOr {X : Cx} {e : Stmt} {t t' : TS} (h : PS X e t) (h' : PS X e t') : PS X e (fun D σ H => t D σ H ∨ t' D σ H) := ⟨fun pins s σ H D I q => q.elim (h.run pins s σ H D I) (h'.run pins s σ H D I)⟩
end VL

set_option maxRecDepth 100000
set_option maxHeartbeats 2000000
namespace VL
open PySem PySem.Spec L2
open PyProof.Rows hiding St

def big : Nat := 16777216
theorem big_eq : sizeLine = big := by rw [sizeLine_eq]; rfl

/-! ### looking at a value's top -/
def peek (x : Val) (e : Env') : Option PV := match x with
  | .fz p => some p
  | .new p => some p
  | .bor i => match e[i]? with
    | some (.ow _ p) => some p
    | some (.fz p) => some p
    | _ => none
def peeks (e : Env') : List Val → Option (List PV)
  | [] => some []
  | x :: xs => match peek x e, peeks e xs with
    | some p, some ps => some (p :: ps)
    | _, _ => none

def Rt (C : Ct) (F H : Hp) : PV → V → Prop
  | .tup xs, v => ∃ a vs, v = .ref a ∧ H a = some (.tup vs) ∧ Rs C F xs vs ∧ F a = some (.tup vs)
  | .lst xs, v => ∃ a vs, v = .ref a ∧ H a = some (.lst vs) ∧ Rs C F xs vs
  | .dK ks xs, v => ∃ (a : Addr) (kvs : List (Key × V)), v = .ref a ∧ Rd H a (.dK kvs) ∧ kvs.map Prod.fst = ks ∧ Rs C F xs (kvs.map Prod.snd)
  | .dT ks xs, v => ∃ (a : Addr) (kvs : List (List Key × V)), v = .ref a ∧ Rd H a (.dT kvs) ∧ kvs.map Prod.fst = ks ∧ Rs C F xs (kvs.map Prod.snd)
  | .ins c xs, v => ∃ (a dx : Addr) (fs : List (Str × V)), v = .ref a ∧ H a = some (.ins (C.ad c) dx fs) ∧ fs.map Prod.fst = (C.fl c).take xs.length ∧ Rs C F xs (fs.map Prod.snd)
  | .exc c xs, v => ∃ (a : Addr) (vs : List V), v = .ref a ∧ EvR (C.ea c) (C.el c) vs a H ∧ Rs C F xs vs
  | .scr ns, v => ∃ a, v = .ref a ∧ SqL C.K H a (ns.map V.int)
  | .non, v => v = .non
  | .bl b, v => v = .bl b
  | .int i, v => v = .int i
  | .str x, v => v = .str x
theorem R.rt {C : Ct} {F H : Hp} {p : PV} {v : V} (h : R C F p v) (l : Le F H) : Rt C F H p v := by
  cases p <;> unfold R at h <;> simp only [Rt]
  · exact h
  · exact h
  · exact h
  · exact h
  · obtain ⟨a, vs, e, q, r⟩ := h; exact ⟨a, vs, e, l.tup q, r, q⟩
  · obtain ⟨a, vs, e, q, r⟩ := h; exact ⟨a, vs, e, l.lst q, r⟩
  · obtain ⟨a, e, q⟩ := h; exact ⟨a, e, l.sqL q⟩
  · obtain ⟨a, kvs, e, q, k, r⟩ := h; exact ⟨a, kvs, e, l.rd q, k, r⟩
  · obtain ⟨a, kvs, e, q, k, r⟩ := h; exact ⟨a, kvs, e, l.rd q, k, r⟩
  · obtain ⟨a, dx, fs, e, q, k, r⟩ := h; exact ⟨a, dx, fs, e, l.ins q, k, r⟩
  · obtain ⟨a, vs, e, q, r⟩ := h; exact ⟨a, vs, e, l.evr q, r⟩
theorem R1.rt {C : Ct} {F H : Hp} {p : PV} {a : Addr} (h : R1 C F H p a) : Rt C F H p (.ref a) := by
  cases p <;> try exact h.elim
  all_goals simp only [R1] at h
  all_goals simp only [Rt]
  · obtain ⟨vs, q, r⟩ := h; exact ⟨a, vs, rfl, q, r⟩
  · obtain ⟨kvs, q, k, r⟩ := h; exact ⟨a, kvs, rfl, .inl q, k, r⟩
  · obtain ⟨kvs, q, k, r⟩ := h; exact ⟨a, kvs, rfl, .inl q, k, r⟩
  · obtain ⟨dx, fs, q, k, r⟩ := h; exact ⟨a, dx, fs, rfl, q, k, r⟩
theorem Rt.r {C : Ct} {F H : Hp} {p : PV} {v : V} (h : Rt C F H p v) (l : Le F H) : R C H p v := by
  cases p <;> simp only [Rt] at h <;> unfold R
  · exact h
  · exact h
  · exact h
  · exact h
  · obtain ⟨a, vs, e, q, r, _⟩ := h; exact ⟨a, vs, e, q, r.mono l⟩
  · obtain ⟨a, vs, e, q, r⟩ := h; exact ⟨a, vs, e, q, r.mono l⟩
  · obtain ⟨a, e, q⟩ := h; exact ⟨a, e, q⟩
  · obtain ⟨a, kvs, e, q, k, r⟩ := h; exact ⟨a, kvs, e, q, k, r.mono l⟩
  · obtain ⟨a, kvs, e, q, k, r⟩ := h; exact ⟨a, kvs, e, q, k, r.mono l⟩
  · obtain ⟨a, dx, fs, e, q, k, r⟩ := h; exact ⟨a, dx, fs, e, q, k, r.mono l⟩
  · obtain ⟨a, vs, e, q, r⟩ := h; exact ⟨a, vs, e, q, r.mono l⟩

section
variable {g : Gm} {F H : Hp} {σ : St} {env : Env'}
theorem peek_ok (S : Stt g F H σ env) {x : Val} {v : V} {p : PV} (r : RV g F H σ env x v) (h : peek x env = some p) : Rt g.C F H p v := by
  cases x with
  | fz q =>
    simp only [peek, Option.some.injEq] at h; subst h
    exact R.rt r S.sub
  | new q =>
    simp only [peek, Option.some.injEq] at h; subst h
    obtain ⟨a, rfl, r1, _⟩ := r
    exact r1.rt
  | bor i =>
    simp only [peek] at h
    split at h
    · rename_i q e
      simp only [Option.some.injEq] at h; subst h
      obtain ⟨a, e1, e2, _⟩ := S.ow i _ _ e
      rw [r] at e1; cases e1
      exact e2.rt
    · rename_i q e
      simp only [Option.some.injEq] at h; subst h
      obtain ⟨w, e1, e2⟩ := S.fz i _ e
      rw [r] at e1; cases e1
      exact e2.rt S.sub
    · cases h
end
end VL

set_option maxRecDepth 100000
set_option maxHeartbeats 2000000
namespace VL
open PySem PySem.Spec L2
open PyProof.Rows hiding St

/-- a new container that is no longer written -/
def Val.stl : Val → Val
  | .new p => .fz p
  | x => x
def stl (d : Env' → Res Val) : Env' → Res Val := fun e => (d e).bind fun x e' => .ok x.stl e'
def Val.old : Val → Prop
  | .new _ => False
  | _ => True
theorem Val.stl_old (x : Val) : x.stl.old := by cases x <;> trivial

section
variable {X : Cx} {g : Gm} {pins : List (Addr × Obj)} {F H F' H' : Hp} {σ : St} {env env' : Env'} {s : Shared}
theorem RV.later {x : Val} {v : V} (o : x.old) (r : RV g F H σ env x v) (e : Ex F F') : RV g F' H' σ env' x v := by
  cases x with
  | fz p => exact R.mono e.le r
  | bor i => exact r
  | new p => exact o.elim
theorem Go.ok {α : Type} {x : α} {K : α → Env' → Hp → Hp → Prop} (h : Go g F σ (.ok x env) K) (S : Stt g F' H' σ env) (e : Ex F F') : K x env F' H' := h F' H' e S

/-- behind a value, the rest -/
def KV' {β : Type} (g : Gm) (F : Hp) (σ : St) (f : Val → Env' → Res β) (K : β → Env' → Hp → Hp → Prop) : V → Hp → Prop := fun v H1 =>
  ∃ F1 env1 x, Ex F F1 ∧ Stt g F1 H1 σ env1 ∧ x.old ∧ RV g F1 H1 σ env1 x v ∧ Go g F1 σ (f x env1) K
theorem settle {Q : VK} {x : Val} (S : Stt g F H σ env) {v : V} (r : RV g F H σ env x v) {P : Prop} (k : ∀ F', Ex F F' → Stt g F' H σ env → RV g F' H σ env x.stl v → P) : P := by
  cases x with
  | fz p => exact k F (Ex.refl F) S r
  | bor i => exact k F (Ex.refl F) S r
  | new p =>
    obtain ⟨a, rfl, r1, hf, h0, hn⟩ := r
    obtain ⟨o, ho⟩ := r1.cell
    exact k _ (Ex.new hf) (S.know hf ho h0 hn) (r1.frozen ho hf)
theorem tE_stl {d : Env' → Res Val} {Q : VK} (h : tE g (stl d) σ H Q) : tE g d σ H Q := by
  obtain ⟨F, env, S, go⟩ := h
  refine ⟨F, env, S, (Go.bind go).mono fun x e F' H' e1 S1 k v r => ?_⟩
  exact settle (Q := Q) S1 r fun F2 e2 S2 r2 => k F2 H' e2 S2 v r2
theorem peStl {e : Expr} {d : Env' → Res Val} (h : PE X e (tE g d)) : PE X e (tE g (stl d)) := peImp h fun _ _ _ => tE_stl
theorem stl_bind {β : Type} (d : Env' → Res Val) (f : Val → Env' → Res β) : (stl d env).bind f = (d env).bind fun x e => f x.stl e := by
  unfold stl
  cases d env <;> rfl
/-- a settled value, then the rest -/
theorem peGo {β : Type} {e : Expr} {d : Env' → Res Val} {f : Val → Env' → Res β} {K : β → Env' → Hp → Hp → Prop} (h : PE X e (tE g d)) (I : Inv X pins σ H s) (S : Stt g F H σ env) (go : Go g F σ ((stl d env).bind f) K) :
    wpAny (model X.prog X.w) X.A (eval e X.env) (EP X pins σ (KV' g F σ f K)) X.xe s := by
  refine h.run pins s σ H _ I ⟨F, env, S, ?_⟩
  rw [stl_bind] at go
  refine (Go.bind go).mono fun x e F' H' e1 S1 k v r => ?_
  exact settle (Q := fun _ _ => True) S1 r fun F2 e2 S2 r2 => ⟨F2, e, x.stl, e1.trans e2, S2, x.stl_old, r2, by
    cases hq : f x.stl e with
    | bad => rw [hq] at k; exact k
    | err y e' => rw [hq] at k; exact fun F3 H3 e3 S3 => k F3 H3 (e2.trans e3) S3
    | ok y e' => rw [hq] at k; exact fun F3 H3 e3 S3 => k F3 H3 (e2.trans e3) S3⟩

/-! ### operations on values -/
def toVal (o : Option Val) (e : Env') : Res Val := match o with
  | some x => .ok x e
  | none => .bad
/-- one on two values -/
def Op2 (X : Cx) (g : Gm) (f : Value → Value → Sem Value) (sem : PV → PV → Option Val) : Prop :=
  ∀ (pins : List (Addr × Obj)) (s : Shared) (σ : St) (F H : Hp) (env : Env') (p q : PV) (v u : V) (vv uu : Value) (r : Val) (Q : VK), Inv X pins σ H s → Stt g F H σ env → RelV v vv → RelV u uu → Rt g.C F H p v → Rt g.C F H q u → sem p q = some r →
    (∀ F' H' w, Ex F F' → Stt g F' H' σ env → RV g F' H' σ env r w → Q w H') → wpAny (model X.prog X.w) X.A (f vv uu) (EP X pins σ Q) X.xe s
def Op1 (X : Cx) (g : Gm) (f : Value → Sem Value) (sem : PV → Option Val) : Prop :=
  ∀ (pins : List (Addr × Obj)) (s : Shared) (σ : St) (F H : Hp) (env : Env') (p : PV) (v : V) (vv : Value) (r : Val) (Q : VK), Inv X pins σ H s → Stt g F H σ env → RelV v vv → Rt g.C F H p v → sem p = some r →
    (∀ F' H' w, Ex F F' → Stt g F' H' σ env → RV g F' H' σ env r w → Q w H') → wpAny (model X.prog X.w) X.A (f vv) (EP X pins σ Q) X.xe s
def Rts (C : Ct) (F H : Hp) : List PV → List V → Prop
  | [], vs => vs = []
  | p :: ps, vs => ∃ v r, vs = v :: r ∧ Rt C F H p v ∧ Rts C F H ps r
def OpN (X : Cx) (g : Gm) (f : List Value → Sem Value) (sem : List PV → Option Val) : Prop :=
  ∀ (pins : List (Addr × Obj)) (s : Shared) (σ : St) (F H : Hp) (env : Env') (ps : List PV) (vs : List V) (us : List Value) (r : Val) (Q : VK), Inv X pins σ H s → Stt g F H σ env → Vals vs us → Rts g.C F H ps vs → sem ps = some r →
    (∀ F' H' w, Ex F F' → Stt g F' H' σ env → RV g F' H' σ env r w → Q w H') → wpAny (model X.prog X.w) X.A (f us) (EP X pins σ Q) X.xe s
theorem Op2.or {f : Value → Value → Sem Value} {s1 s2 : PV → PV → Option Val} (h1 : Op2 X g f s1) (h2 : Op2 X g f s2) : Op2 X g f (fun p q => match s1 p q with | some r => some r | none => s2 p q) := by
  intro pins s σ F H env p q v u vv uu r Q I S r1 r2 t1 t2 e k
  cases h : s1 p q with
  | some r' =>
    simp only [h, Option.some.injEq] at e; subst e
    exact h1 pins s σ F H env p q v u vv uu r' Q I S r1 r2 t1 t2 h k
  | none =>
    simp only [h] at e
    exact h2 pins s σ F H env p q v u vv uu r Q I S r1 r2 t1 t2 e k
theorem OpN.or {f : List Value → Sem Value} {s1 s2 : List PV → Option Val} (h1 : OpN X g f s1) (h2 : OpN X g f s2) : OpN X g f (fun p => match s1 p with | some r => some r | none => s2 p) := by
  intro pins s σ F H env p v vv r Q I S r1 t1 e k
  cases h : s1 p with
  | some r' =>
    simp only [h, Option.some.injEq] at e; subst e
    exact h1 pins s σ F H env p v vv r' Q I S r1 t1 h k
  | none =>
    simp only [h] at e
    exact h2 pins s σ F H env p v vv r Q I S r1 t1 e k
/-- by a rule of the layer -/
theorem Op2.of {f : Value → Value → Sem Value} {r : R2} {sem : PV → PV → Option Val} (h : OpR X f r)
    (k : ∀ (σ : St) (F H : Hp) (env : Env') (p q : PV) (v u : V) (x : Val) (Q : VK), Stt g F H σ env → Rt g.C F H p v → Rt g.C F H q u → sem p q = some x → (∀ F' H' w, Ex F F' → Stt g F' H' σ env → RV g F' H' σ env x w → Q w H') → r v u H Q) : Op2 X g f sem :=
  fun pins s σ F H env p q v u vv uu x Q I S r1 r2 t1 t2 e kk => h pins s σ H v u vv uu Q I r1 r2 (k σ F H env p q v u x Q S t1 t2 e kk)
theorem OpN.of {f : Value} {r : List V → Hp → VK → Prop} {sem : List PV → Option Val} (h : CallR X f r)
    (k : ∀ (σ : St) (F H : Hp) (env : Env') (ps : List PV) (vs : List V) (x : Val) (Q : VK), Stt g F H σ env → Rts g.C F H ps vs → sem ps = some x → (∀ F' H' w, Ex F F' → Stt g F' H' σ env → RV g F' H' σ env x w → Q w H') → r vs H Q) : OpN X g (fun us => PySem.call f us) sem :=
  fun pins s σ F H env ps vs us x Q I S r1 t1 e kk => h pins s σ H vs us Q I r1 (k σ F H env ps vs x Q S t1 e kk)

/-- what comes of an operation, stored nowhere yet: a value that stays -/
theorem fin_fz {p : PV} {v : V} {Q : VK} (S : Stt g F H σ env) (r : R g.C F p v) (k : ∀ F' H' w, Ex F F' → Stt g F' H' σ env → RV g F' H' σ env (.fz p) w → Q w H') : Q v H := k F H v (Ex.refl F) S r
theorem fin_bl {b : Bool} {Q : VK} (S : Stt g F H σ env) (k : ∀ F' H' w, Ex F F' → Stt g F' H' σ env → RV g F' H' σ env (.fz (.bl b)) w → Q w H') : Q (.bl b) H := fin_fz S (by unfold R; rfl) k
theorem fin_int {i : Int} {Q : VK} (S : Stt g F H σ env) (k : ∀ F' H' w, Ex F F' → Stt g F' H' σ env → RV g F' H' σ env (.fz (.int i)) w → Q w H') : Q (.int i) H := fin_fz S (by unfold R; rfl) k
theorem fin_str {x : Str} {Q : VK} (S : Stt g F H σ env) (k : ∀ F' H' w, Ex F F' → Stt g F' H' σ env → RV g F' H' σ env (.fz (.str x)) w → Q w H') : Q (.str x) H := fin_fz S (by unfold R; rfl) k
theorem ex_alloc {p : Addr} {o : HO} (hp : H p = none) : Ex H (upd H p o) := Ex.new hp
/-- a new container, its own cell not known to F -/
theorem fin_new {p : PV} {a : Addr} {o : HO} {Q : VK} (S : Stt g F H σ env) (ha : H a = none) (r : R1 g.C F (upd H a o) p a) (k : ∀ F' H' w, Ex F F' → Stt g F' H' σ env → RV g F' H' σ env (.new p) w → Q w H') : Q (.ref a) (upd H a o) := by
  obtain ⟨n1, n2, n3⟩ := S.new0 ha
  refine k F _ (.ref a) (Ex.refl F) (S.grow (ex_alloc ha)) ⟨a, rfl, r, n1, n2, fun i f q e z => ?_⟩
  obtain ⟨b, e1, e2, _⟩ := S.ow i f q e
  rw [z] at e1; cases e1
  obtain ⟨o', ho⟩ := e2.cell
  rw [ha] at ho; cases ho
theorem fin_lst {xs : List PV} {vs : List V} {a : Addr} {Q : VK} (S : Stt g F H σ env) (ha : H a = none) (r : Rs g.C F xs vs) (k : ∀ F' H' w, Ex F F' → Stt g F' H' σ env → RV g F' H' σ env (.new (.lst xs)) w → Q w H') : Q (.ref a) (upd H a (.lst vs)) :=
  fin_new (p := .lst xs) S ha (by simp only [R1]; exact ⟨vs, upd_same, r⟩) k
/-- a new tuple -/
theorem fin_tup {xs : List PV} {vs : List V} {a : Addr} {Q : VK} (S : Stt g F H σ env) (ha : H a = none) (r : Rs g.C F xs vs) (k : ∀ F' H' w, Ex F F' → Stt g F' H' σ env → RV g F' H' σ env (.fz (.tup xs)) w → Q w H') : Q (.ref a) (upd H a (.tup vs)) := by
  obtain ⟨n1, n2, n3⟩ := S.new0 ha
  have S2 := S.grow (ex_alloc (o := .tup vs) ha)
  have hn : ∀ (i : Nat) f q, env[i]? = some (.ow f q) → σ[i]? ≠ some (some (.ref a)) := fun i f q e z => by
    obtain ⟨b, e1, e2, _⟩ := S.ow i f q e
    rw [z] at e1; cases e1
    obtain ⟨o', ho⟩ := e2.cell
    rw [ha] at ho; cases ho
  refine k _ _ (.ref a) (Ex.new n1) (S2.know n1 upd_same n2 hn) ?_
  show R g.C _ (.tup xs) (.ref a)
  unfold R
  exact ⟨a, vs, rfl, upd_same, r.mono (Ex.new n1).le⟩
end
end VL

set_option maxRecDepth 100000
set_option maxHeartbeats 2000000
namespace VL
open PySem PySem.Spec L2
open PyProof.Rows hiding St

section
variable {X : Cx} {g : Gm} {pins : List (Addr × Obj)} {F H : Hp} {σ : St} {env : Env'} {s : Shared} {a b c : Expr} {da db dc : Env' → Res Val} {pos : Pos}
/-! ### truth -/
def truthPV : PV → Option Bool
  | .non => some false
  | .bl b => some b
  | .int i => some (i != 0)
  | .str x => if x.length ≤ big then some ((x.length : Int) != 0) else none
  | .lst xs => some (!xs.isEmpty)
  | .tup xs => some (!xs.isEmpty)
  | .dK ks _ => some (!ks.isEmpty)
  | _ => none
theorem empty_eq {C : Ct} {F : Hp} {xs : List PV} {vs : List V} (h : Rs C F xs vs) : vs.isEmpty = xs.isEmpty := by
  cases xs with
  | nil => rw [h.nil_inv]; rfl
  | cons x xs => obtain ⟨v, r, rfl, _⟩ := h.cons_inv; rfl
theorem truth_ok {p : PV} {v : V} {vv : Value} {b : Bool} {E : Value → Shared → Prop} {Q : Bool → Shared → Prop} (hK : g.C.K = X.K) (I : Inv X pins σ H s) (r : RelV v vv) (t : Rt g.C F H p v) (h : truthPV p = some b)
    (k : ∀ s', Inv X pins σ H s' → Q b s') (hE : E = X.xe := by rfl) : wpAny (model X.prog X.w) X.A (truthy vv) Q E s := by
  subst hE
  have go : ∀ b', TruV X.K v H b' → b' = b → wpAny (model X.prog X.w) X.A (truthy vv) Q X.xe s := fun b' hb e => by
    subst e
    exact thn (tru_ok pins s σ H v vv (fun k H' => H' = H ∧ k = b') I r ⟨b', hb, rfl, rfl⟩) fun z s' ⟨H', I', e1, e2⟩ => by subst e1 e2; exact k s' I'
  cases p <;> simp only [truthPV] at h <;> simp only [Rt] at t
  · cases h; subst t; exact go false rfl rfl
  · cases h; subst t; exact go _ rfl rfl
  · cases h; subst t; exact go _ rfl rfl
  · split at h
    · rename_i hl
      cases h; subst t; exact go _ ⟨by rw [big_eq]; exact hl, rfl⟩ rfl
    · cases h
  · cases h
    obtain ⟨a, vs, rfl, q, rs, _⟩ := t
    exact go _ (.inr (.inl ⟨vs, SqT.of q, rfl⟩)) (by rw [empty_eq rs])
  · cases h
    obtain ⟨a, vs, rfl, q, rs⟩ := t
    exact go _ (.inl ⟨vs, SqL.of q, rfl⟩) (by rw [empty_eq rs])
  · cases h
  · cases h
    obtain ⟨a, kvs, rfl, q, k1, rs⟩ := t
    have e : (!kvs.isEmpty) = (!List.isEmpty (kvs.map Prod.fst)) := by cases kvs <;> rfl
    obtain rfl : vv = Value.ref a := r
    exact d_truth I q fun s' I' => by
      rw [e, k1]
      exact k s' I'
  · cases h
  · cases h
  · cases h

/-! ### constants, names -/
theorem se_int {i j pos} : PE X (.Constant (.int i) j pos) (tE g fun e => .ok (.fz (.int i)) e) := peImp pe_int fun σ H Q ⟨F, env, S, go⟩ => go F H (Ex.refl F) S _ (by show R _ _ _ _; unfold R; rfl)
theorem se_bl {b j pos} : PE X (.Constant (.bool b) j pos) (tE g fun e => .ok (.fz (.bl b)) e) := peImp pe_bl fun σ H Q ⟨F, env, S, go⟩ => go F H (Ex.refl F) S _ (by show R _ _ _ _; unfold R; rfl)
theorem se_non {j pos} : PE X (.Constant .none j pos) (tE g fun e => .ok (.fz .non) e) := peImp pe_non fun σ H Q ⟨F, env, S, go⟩ => go F H (Ex.refl F) S _ (by show R _ _ _ _; unfold R; rfl)
theorem se_str {x j pos} : PE X (.Constant (.str x) j pos) (tE g fun e => .ok (.fz (.str x)) e) := peImp pe_str fun σ H Q ⟨F, env, S, go⟩ => go F H (Ex.refl F) S _ (by show R _ _ _ _; unfold R; rfl)
def dVar (i : Nat) : Env' → Res Val := fun e => match e[i]? with
  | some (.fz p) => .ok (.fz p) e
  | some (.ow _ _) => .ok (.bor i) e
  | _ => .bad
theorem se_var {i : Nat} {x : Str} {pos : Pos} (hN : X.N[i]? = some x) (hv : Vis X.env.scope x) (hd : (x == ("__debug__" : Str)) = false) (hcd : (x == ("__classdict__" : Str)) = false) : PE X (.Name x pos) (tE g (dVar i)) :=
  peImp (pe_var hN hv hd hcd) fun σ H Q ⟨F, env, S, go⟩ => by
    unfold dVar at go
    cases e : env[i]? with
    | none => rw [e] at go; exact go.elim
    | some sl =>
      rw [e] at go
      cases sl with
      | no => exact go.elim
      | fz p =>
        obtain ⟨v, h1, h2⟩ := S.fz i p e
        exact ⟨v, h1, go F H (Ex.refl F) S v h2⟩
      | ow f p =>
        obtain ⟨a, h1, h2⟩ := S.ow i f p e
        exact ⟨.ref a, h1, go F H (Ex.refl F) S _ h1⟩
theorem se_glob {x : Str} {v : V} {u : Value} {p : PV} {pos : Pos} (hg : Gl X x) (hm : X.mg x = some u) (r : RelV v u) (hp : ∀ F, R g.C F p v) (hd : (x == ("__debug__" : Str)) = false) : PE X (.Name x pos) (tE g fun e => .ok (.fz p) e) :=
  peImp (pe_glob hg hm r hd) fun σ H Q ⟨F, env, S, go⟩ => go F H (Ex.refl F) S _ (hp F)

/-! ### two operands -/
def op2 (sem : PV → PV → Option Val) (x y : Val) (e : Env') : Res Val := match peek x e, peek y e with
  | some p, some q => toVal (sem p q) e
  | _, _ => .bad
def dBin (sem : PV → PV → Option Val) (da db : Env' → Res Val) : Env' → Res Val := fun e => (stl da e).bind fun x e1 => (stl db e1).bind fun y e2 => op2 sem x y e2
theorem op2_go {f : Value → Value → Sem Value} {sem : PV → PV → Option Val} {x y : Val} {v u : V} {vv uu : Value} {K : Val → Env' → Hp → Hp → Prop} (ho : Op2 X g f sem) (I : Inv X pins σ H s) (S : Stt g F H σ env) (r1 : RelV v vv) (r2 : RelV u uu)
    (t1 : RV g F H σ env x v) (t2 : RV g F H σ env y u) (go : Go g F σ (op2 sem x y env) K) :
    wpAny (model X.prog X.w) X.A (f vv uu) (EP X pins σ fun w H' => ∃ F' r, Ex F F' ∧ Stt g F' H' σ env ∧ RV g F' H' σ env r w ∧ K r env F' H') X.xe s := by
  unfold op2 at go
  cases e1 : peek x env with
  | none => simp only [e1] at go; exact go.elim
  | some p =>
    cases e2 : peek y env with
    | none => simp only [e1, e2] at go; exact go.elim
    | some q =>
      simp only [e1, e2] at go
      cases e3 : sem p q with
      | none => rw [e3] at go; exact go.elim
      | some r =>
        rw [e3] at go
        exact ho pins s σ F H env p q v u vv uu r _ I S r1 r2 (peek_ok S t1 e1) (peek_ok S t2 e2) e3 fun F' H' w ex S' rv => ⟨F', r, ex, S', rv, go F' H' ex S'⟩
theorem se_bin {op : Operator} {sem : PV → PV → Option Val} (ha : PE X a (tE g da)) (hb : PE X b (tE g db)) (ho : Op2 X g (binaryOp op) sem) : PE X (.BinOp a op b pos) (tE g (dBin sem da db)) := by
  refine ⟨fun pins s σ H Q I ⟨F, env, S, go⟩ => wpAny_BinOp (thn (peGo ha I S go) fun v s1 ⟨v', H1, I1, r1, F1, e1, x, x1, S1, o1, rv1, go1⟩ => ?_)⟩
  refine thn (peGo hb I1 S1 go1) fun u s2 ⟨u', H2, I2, r2, F2, e2, y, x2, S2, o2, rv2, go2⟩ => ?_
  refine thn (op2_go ho I2 S2 r1 r2 (rv1.later o1 x2) rv2 go2) fun w s3 ⟨w', H3, I3, r3, F3, r, ex, S3, rv, k⟩ => ⟨w', H3, I3, r3, k w' rv⟩
theorem se_cmp {op : CmpOp} {sem : PV → PV → Option Val} (ha : PE X a (tE g da)) (hb : PE X b (tE g db)) (ho : Op2 X g (compareOp op) sem) (hm : behindInMarks op b = false) : PE X (.Compare a [op] [b] pos) (tE g (dBin sem da db)) := by
  refine ⟨fun pins s σ H Q I ⟨F, env, S, go⟩ => wpAny_Compare1 (thn (peGo ha I S go) fun v s1 ⟨v', H1, I1, r1, F1, e1, x, x1, S1, o1, rv1, go1⟩ => ?_) hm⟩
  refine thn (peGo hb I1 S1 go1) fun u s2 ⟨u', H2, I2, r2, F2, e2, y, x2, S2, o2, rv2, go2⟩ => ?_
  refine thn (op2_go ho I2 S2 r1 r2 (rv1.later o1 x2) rv2 go2) fun w s3 ⟨w', H3, I3, r3, F3, r, ex, S3, rv, k⟩ => ⟨w', H3, I3, r3, k w' rv⟩
/-- what comes of a comparison, as a test -/
def asB (d : Env' → Res Val) : Env' → Res Bool := fun e => (d e).bind fun x e1 => match x with
  | .fz (.bl b) => .ok b e1
  | _ => .bad
theorem asB_k {x : Val} {w : V} {w' : Value} {Q : Bool → Shared → Prop} {QB : Bool → Hp → Prop} {ee : Env'} (I : Inv X pins σ H s) (S : Stt g F H σ ee) (r : RelV w w') (rv : RV g F H σ ee x w) (k : Go g F σ (match x with | .fz (.bl b) => Res.ok b ee | _ => .bad) fun b env' F' H' => QB b H')
    (q : ∀ b s', Inv X pins σ H s' → QB b H → Q b s') : wpAny (model X.prog X.w) X.A (truthy w') Q X.xe s := by
  cases x with
  | bor i => exact k.elim
  | new p => exact k.elim
  | fz p =>
    cases p <;> try exact k.elim
    rename_i b
    have e : w = .bl b := by
      have : R g.C F (.bl b) w := rv
      unfold R at this; exact this
    subst e
    cases r
    exact wpAny_truthy_bool (q b s I (k F H (Ex.refl F) S))
theorem st_cmp {op : CmpOp} {sem : PV → PV → Option Val} (ha : PE X a (tE g da)) (hb : PE X b (tE g db)) (ho : Op2 X g (compareOp op) sem) (hm : behindInMarks op b = false) : PT X (.Compare a [op] [b] pos) (tT g (asB (dBin sem da db))) := by
  refine ⟨fun pins s σ H Q I ⟨F, env, S, go⟩ => ?_⟩
  have go := Go.bind go
  refine wpAny_isTrue_Compare1 (thn (peGo ha I S go) fun v s1 ⟨v', H1, I1, r1, F1, e1, x, x1, S1, o1, rv1, go1⟩ => ?_) hm
  refine thn (peGo hb I1 S1 go1) fun u s2 ⟨u', H2, I2, r2, F2, e2, y, x2, S2, o2, rv2, go2⟩ => ?_
  refine thn (op2_go ho I2 S2 r1 r2 (rv1.later o1 x2) rv2 go2) fun w s3 ⟨w', H3, I3, r3, F3, r, ex, S3, rv, k⟩ => ?_
  exact asB_k I3 S3 r3 rv k fun b s' I' q => ⟨H3, I', q⟩
/-- a op b op' c -/
def dChain (sem sem' : PV → PV → Option Val) (da db dc : Env' → Res Val) : Env' → Res Val := fun e => (stl da e).bind fun x e1 => (stl db e1).bind fun y e2 => (op2 sem x y e2).bind fun r e3 => match r with
  | .fz (.bl true) => (stl dc e3).bind fun z e4 => op2 sem' y z e4
  | .fz (.bl false) => .ok (.fz (.bl false)) e3
  | _ => .bad
theorem se_chain {op op' : CmpOp} {sem sem' : PV → PV → Option Val} (ha : PE X a (tE g da)) (hb : PE X b (tE g db)) (hc : PE X c (tE g dc)) (ho : Op2 X g (compareOp op) sem) (ho' : Op2 X g (compareOp op') sem')
    (hm : lastMarks [op, op'] [b, c] = false) : PE X (.Compare a [op, op'] [b, c] pos) (tE g (dChain sem sem' da db dc)) := by
  refine ⟨fun pins s σ H Q I ⟨F, env, S, go⟩ => Compare_chain (thn (peGo ha I S go) fun v s1 ⟨v', H1, I1, r1, F1, e1, x, x1, S1, o1, rv1, go1⟩ => ?_) hm⟩
  refine chain_link (thn (peGo hb I1 S1 go1) fun u s2 ⟨u', H2, I2, r2, F2, e2, y, x2, S2, o2, rv2, go2⟩ => ?_)
  refine thn (op2_go ho I2 S2 r1 r2 (rv1.later o1 x2) rv2 (Go.bind go2)) fun w s3 ⟨w', H3, I3, r3, F3, r, ex, S3, rv, k⟩ => ?_
  cases r with
  | bor i => exact k.elim
  | new p => exact k.elim
  | fz p =>
    cases p <;> try exact k.elim
    rename_i bb
    have e : w' = .bl bb := by
      have : R g.C F3 (.bl bb) w' := rv
      unfold R at this; exact this
    subst e
    cases r3
    refine wpAny_truthy_bool ?_
    cases bb with
    | false => exact ite_ff ⟨.bl false, H3, I3, rfl, k F3 H3 (Ex.refl F3) S3 _ (by show R _ _ _ _; unfold R; rfl)⟩
    | true =>
      refine ite_tt (chain_last (thn (peGo hc I3 S3 k) fun z s4 ⟨z', H4, I4, r4, F4, e4, zz, x4, S4, o4, rv4, go4⟩ => ?_))
      refine thn (op2_go ho' I4 S4 r2 r4 (rv2.later o2 (ex.trans x4)) rv4 go4) fun w s5 ⟨w', H5, I5, r5, F5, r, ex, S5, rv, k⟩ => ⟨w', H5, I5, r5, k w' rv⟩
theorem st_chain {op op' : CmpOp} {sem sem' : PV → PV → Option Val} (ha : PE X a (tE g da)) (hb : PE X b (tE g db)) (hc : PE X c (tE g dc)) (ho : Op2 X g (compareOp op) sem) (ho' : Op2 X g (compareOp op') sem')
    (hm : lastMarks [op, op'] [b, c] = false) : PT X (.Compare a [op, op'] [b, c] pos) (tT g (asB (dChain sem sem' da db dc))) := by
  refine ⟨fun pins s σ H Q I ⟨F, env, S, go⟩ => ?_⟩
  have go := Go.bind go
  refine isTrue_chain (thn (peGo ha I S go) fun v s1 ⟨v', H1, I1, r1, F1, e1, x, x1, S1, o1, rv1, go1⟩ => ?_) hm
  refine test_link (thn (peGo hb I1 S1 go1) fun u s2 ⟨u', H2, I2, r2, F2, e2, y, x2, S2, o2, rv2, go2⟩ => ?_)
  refine thn (op2_go ho I2 S2 r1 r2 (rv1.later o1 x2) rv2 (Go.bind go2)) fun w s3 ⟨w', H3, I3, r3, F3, r, ex, S3, rv, k⟩ => ?_
  cases r with
  | bor i => exact k.elim
  | new p => exact k.elim
  | fz p =>
    cases p <;> try exact k.elim
    rename_i bb
    have e : w' = .bl bb := by
      have : R g.C F3 (.bl bb) w' := rv
      unfold R at this; exact this
    subst e
    cases r3
    refine wpAny_truthy_bool ?_
    cases bb with
    | false => exact ite_ff ⟨H3, I3, (k F3 H3 (Ex.refl F3) S3 : Go g F3 σ _ _) F3 H3 (Ex.refl F3) S3⟩
    | true =>
      refine ite_tt (test_last (thn (peGo hc I3 S3 k) fun z s4 ⟨z', H4, I4, r4, F4, e4, zz, x4, S4, o4, rv4, go4⟩ => ?_))
      refine thn (op2_go ho' I4 S4 r2 r4 (rv2.later o2 (ex.trans x4)) rv4 go4) fun w s5 ⟨w', H5, I5, r5, F5, r, ex, S5, rv, k⟩ => ?_
      exact asB_k I5 S5 r5 rv k fun b s' I' q => ⟨H5, I', q⟩
/-! ### one operand -/
def dUn (sem : PV → Option Val) (da : Env' → Res Val) : Env' → Res Val := fun e => (stl da e).bind fun x e1 => match peek x e1 with
  | some p => toVal (sem p) e1
  | none => .bad
def dNot (da : Env' → Res Val) : Env' → Res Val := dUn (fun p => (truthPV p).map fun b => .fz (.bl (!b))) da
theorem un_go {f : Value → Sem Value} {sem : PV → Option Val} {x : Val} {v : V} {vv : Value} {K : Val → Env' → Hp → Hp → Prop} (ho : Op1 X g f sem) (I : Inv X pins σ H s) (S : Stt g F H σ env) (r1 : RelV v vv)
    (t1 : RV g F H σ env x v) (go : Go g F σ (match peek x env with | some p => toVal (sem p) env | none => .bad) K) :
    wpAny (model X.prog X.w) X.A (f vv) (EP X pins σ fun w H' => ∃ F' r, Ex F F' ∧ Stt g F' H' σ env ∧ RV g F' H' σ env r w ∧ K r env F' H') X.xe s := by
  cases e1 : peek x env with
  | none => simp only [e1] at go; exact go.elim
  | some p =>
    simp only [e1] at go
    cases e3 : sem p with
    | none => rw [e3] at go; exact go.elim
    | some r =>
      rw [e3] at go
      exact ho pins s σ F H env p v vv r _ I S r1 (peek_ok S t1 e1) e3 fun F' H' w ex S' rv => ⟨F', r, ex, S', rv, go F' H' ex S'⟩
theorem se_un {op : UnaryOp} {sem : PV → Option Val} (ha : PE X a (tE g da)) (ho : Op1 X g (unaryOp op) sem) : PE X (.UnaryOp op a pos) (tE g (dUn sem da)) := by
  refine ⟨fun pins s σ H Q I ⟨F, env, S, go⟩ => UnaryOp_ (thn (peGo ha I S go) fun v s1 ⟨v', H1, I1, r1, F1, e1, x, x1, S1, o1, rv1, go1⟩ => ?_)⟩
  exact thn (un_go ho I1 S1 r1 rv1 go1) fun w s3 ⟨w', H3, I3, r3, F3, r, ex, S3, rv, k⟩ => ⟨w', H3, I3, r3, k w' rv⟩
theorem op_not (hK : g.C.K = X.K) : Op1 X g (unaryOp .Not) (fun p => (truthPV p).map fun b => .fz (.bl (!b))) := by
  intro pins s σ F H env p v vv r Q I S rv t e k
  cases h : truthPV p with
  | none => simp only [h, Option.map_none] at e; cases e
  | some b =>
    simp only [h, Option.map_some, Option.some.injEq] at e; subst e
    exact not_of (truth_ok hK I rv t h fun s' I' => ⟨.bl (!b), H, I', rfl, k F H _ (Ex.refl F) S (by show R _ _ _ _; unfold R; rfl)⟩)
/-! ### and, or, if .. else .. as values -/
def dBool (isAnd : Bool) (da dr : Env' → Res Val) : Env' → Res Val := fun e => (stl da e).bind fun x e1 => match (peek x e1).bind truthPV with
  | some t => if t = isAnd then dr e1 else .ok x e1
  | none => .bad
theorem se_one {op} (h : PE X a (tE g da)) : PE X (.BoolOp op [a] pos) (tE g da) := pe_one h
theorem se_and {rest : List Expr} {dr : Env' → Res Val} (hK : g.C.K = X.K) (ha : PE X a (tE g da)) (hb : PE X (.BoolOp .And (b :: rest) pos) (tE g dr)) : PE X (.BoolOp .And (a :: b :: rest) pos) (tE g (dBool true da dr)) := by
  refine ⟨fun pins s σ H Q I ⟨F, env, S, go⟩ => BoolOp_and (thn (peGo ha I S go) fun v s1 ⟨v', H1, I1, r1, F1, e1, x, x1, S1, o1, rv1, go1⟩ => ?_)⟩
  cases h : peek x e1 with
  | none => simp only [h, Option.bind_none] at go1; exact go1.elim
  | some p =>
    simp only [h, Option.bind_some] at go1
    cases h2 : truthPV p with
    | none => simp only [h2] at go1; exact go1.elim
    | some t =>
      simp only [h2] at go1
      refine truth_ok hK I1 r1 (peek_ok S1 rv1 h) h2 fun s2 I2 => ?_
      cases t with
      | true => exact hb.run pins s2 σ H1 Q I2 ⟨F1, e1, S1, go1⟩
      | false => exact ⟨v', H1, I2, r1, go1 F1 H1 (Ex.refl F1) S1 v' rv1⟩
theorem se_or {rest : List Expr} {dr : Env' → Res Val} (hK : g.C.K = X.K) (ha : PE X a (tE g da)) (hb : PE X (.BoolOp .Or (b :: rest) pos) (tE g dr)) : PE X (.BoolOp .Or (a :: b :: rest) pos) (tE g (dBool false da dr)) := by
  refine ⟨fun pins s σ H Q I ⟨F, env, S, go⟩ => BoolOp_or (thn (peGo ha I S go) fun v s1 ⟨v', H1, I1, r1, F1, e1, x, x1, S1, o1, rv1, go1⟩ => ?_)⟩
  cases h : peek x e1 with
  | none => simp only [h, Option.bind_none] at go1; exact go1.elim
  | some p =>
    simp only [h, Option.bind_some] at go1
    cases h2 : truthPV p with
    | none => simp only [h2] at go1; exact go1.elim
    | some t =>
      simp only [h2] at go1
      refine truth_ok hK I1 r1 (peek_ok S1 rv1 h) h2 fun s2 I2 => ?_
      cases t with
      | false => exact hb.run pins s2 σ H1 Q I2 ⟨F1, e1, S1, go1⟩
      | true => exact ⟨v', H1, I2, r1, go1 F1 H1 (Ex.refl F1) S1 v' rv1⟩
def dIf (dt : Env' → Res Bool) (da db : Env' → Res Val) : Env' → Res Val := fun e => (dt e).bind fun t e1 => if t = true then da e1 else db e1
theorem go_bind_val {β : Type} {dt : Res Bool} {f : Bool → Env' → Res β} {K : β → Env' → Hp → Hp → Prop} (go : Go g F σ (dt.bind f) K) : Go g F σ dt fun t e1 F1 H1 => Go g F1 σ (f t e1) K := Go.bind go
theorem se_if {t : Expr} {dt : Env' → Res Bool} (ht : PT X t (tT g dt)) (ha : PE X a (tE g da)) (hb : PE X b (tE g db)) : PE X (.IfExp t a b pos) (tE g (dIf dt da db)) := by
  refine peImp (pe_ifExp ht ha hb) fun σ H Q ⟨F, env, S, go⟩ => ⟨F, env, S, ?_⟩
  refine (Go.bind go).mono fun t e1 F1 H1 ex S1 k => ?_
  cases t with
  | true => exact ⟨F1, e1, S1, k⟩
  | false => exact ⟨F1, e1, S1, k⟩
/-! ### tests -/
def dTru (da : Env' → Res Val) : Env' → Res Bool := fun e => (stl da e).bind fun x e1 => match (peek x e1).bind truthPV with
  | some t => .ok t e1
  | none => .bad
theorem st_val (hK : g.C.K = X.K) (ha : PE X a (tE g da)) (he : ∀ whole, isTrue a X.env whole = (do let v ← whole; standAt a.pos; holding [v] (truthy v))) : PT X a (tT g (dTru da)) := by
  refine ⟨fun pins s σ H Q I ⟨F, env, S, go⟩ => isTrue_plain (thn (peGo ha I S go) fun v s1 ⟨v', H1, I1, r1, F1, e1, x, x1, S1, o1, rv1, go1⟩ => ?_) (he _)⟩
  cases h : peek x e1 with
  | none => simp only [h, Option.bind_none] at go1; exact go1.elim
  | some p =>
    simp only [h, Option.bind_some] at go1
    cases h2 : truthPV p with
    | none => simp only [h2] at go1; exact go1.elim
    | some t =>
      simp only [h2] at go1
      exact truth_ok hK I1 r1 (peek_ok S1 rv1 h) h2 fun s2 I2 => ⟨H1, I2, go1 F1 H1 (Ex.refl F1) S1⟩
def dNotT (da : Env' → Res Bool) : Env' → Res Bool := fun e => (da e).bind fun b e1 => .ok (!b) e1
def dAndT (da db : Env' → Res Bool) : Env' → Res Bool := fun e => (da e).bind fun b e1 => if b = true then db e1 else .ok false e1
def dOrT (da db : Env' → Res Bool) : Env' → Res Bool := fun e => (da e).bind fun b e1 => if b = true then .ok true e1 else db e1
variable {ta tb : Env' → Res Bool}
theorem st_not (ha : PT X a (tT g ta)) : PT X (.UnaryOp .Not a pos) (tT g (dNotT ta)) :=
  ptImp (pt_not ha) fun σ H Q ⟨F, env, S, go⟩ => ⟨F, env, S, (Go.bind go).mono fun t e1 F1 H1 ex S1 k => k F1 H1 (Ex.refl F1) S1⟩
theorem pwImp {e : Expr} {t t' : TT} (h : PW X e t) (k : ∀ σ H Q, t' σ H Q → t σ H Q) : PW X e t' := ⟨fun whole pins s σ H Q I q => h.run whole pins s σ H Q I (k σ H Q q)⟩
theorem sw_and1 (ha : PT X a (tT g ta)) : PW X (.BoolOp .And [a] pos) (tT g ta) := pw_and1 ha
theorem sw_or1 (ha : PT X a (tT g ta)) : PW X (.BoolOp .Or [a] pos) (tT g ta) := pw_or1 ha
theorem sw_and {rest : List Expr} (ha : PT X a (tT g ta)) (hb : PW X (.BoolOp .And (b :: rest) pos) (tT g tb)) : PW X (.BoolOp .And (a :: b :: rest) pos) (tT g (dAndT ta tb)) :=
  pwImp (pw_and ha hb) fun σ H Q ⟨F, env, S, go⟩ => ⟨F, env, S, (Go.bind go).mono fun t e1 F1 H1 ex S1 k => by
    cases t with
    | true => exact ⟨F1, e1, S1, k⟩
    | false => exact k F1 H1 (Ex.refl F1) S1⟩
theorem sw_or {rest : List Expr} (ha : PT X a (tT g ta)) (hb : PW X (.BoolOp .Or (b :: rest) pos) (tT g tb)) : PW X (.BoolOp .Or (a :: b :: rest) pos) (tT g (dOrT ta tb)) :=
  pwImp (pw_or ha hb) fun σ H Q ⟨F, env, S, go⟩ => ⟨F, env, S, (Go.bind go).mono fun t e1 F1 H1 ex S1 k => by
    cases t with
    | false => exact ⟨F1, e1, S1, k⟩
    | true => exact k F1 H1 (Ex.refl F1) S1⟩
end
end VL

set_option maxRecDepth 100000
set_option maxHeartbeats 2000000
namespace VL
open PySem PySem.Spec L2
open PyProof.Rows hiding St

/-! ### freezing -/
def frz (x : Val) (e : Env') : Res PV := match x with
  | .fz p => .ok p e
  | .new p => .ok p e
  | .bor i => match e[i]? with
    | some (.fz p) => .ok p e
    | some (.ow true p) => .ok p (e.set i (.fz p))
    | _ => .bad
def frzs : List Val → Env' → Res (List PV)
  | [], e => .ok [] e
  | x :: xs, e => (frz x e).bind fun p e1 => (frzs xs e1).bind fun ps e2 => .ok (p :: ps) e2
def dArgs : List (Env' → Res Val) → Env' → Res (List Val)
  | [], e => .ok [] e
  | d :: ds, e => (stl d e).bind fun x e1 => (dArgs ds e1).bind fun xs e2 => .ok (x :: xs) e2
def AllOld : List Val → Prop
  | [] => True
  | x :: xs => x.old ∧ AllOld xs
section
variable {X : Cx} {g : Gm} {pins : List (Addr × Obj)} {F H F' H' : Hp} {σ : St} {env env' : Env'} {s : Shared} {a b c : Expr} {da db dc : Env' → Res Val} {pos : Pos}
theorem Go.up {α : Type} {r : Res α} {K : α → Env' → Hp → Hp → Prop} (go : Go g F σ r K) (e : Ex F F') : Go g F' σ r K := by
  cases r with
  | bad => exact go
  | err x e' => exact fun F2 H2 e2 S2 => go F2 H2 (e.trans e2) S2
  | ok x e' => exact fun F2 H2 e2 S2 => go F2 H2 (e.trans e2) S2
theorem frz_go {α : Type} {x : Val} {v : V} {f : PV → Env' → Res α} {K : α → Env' → Hp → Hp → Prop} (S : Stt g F H σ env) (r : RV g F H σ env x v) (go : Go g F σ ((frz x env).bind f) K) :
    ∃ F' p env', Ex F F' ∧ Stt g F' H σ env' ∧ R g.C F' p v ∧ Go g F' σ (f p env') K := by
  cases x with
  | fz p => exact ⟨F, p, env, Ex.refl F, S, r, go⟩
  | new p =>
    obtain ⟨b, rfl, r1, hf, h0, hn⟩ := r
    obtain ⟨o, ho⟩ := r1.cell
    refine ⟨_, p, env, Ex.new hf, S.know hf ho h0 hn, r1.frozen ho hf, ?_⟩
    exact Go.up go (Ex.new hf)
  | bor i =>
    unfold frz at go
    dsimp only at go
    cases e : env[i]? with
    | none => rw [e] at go; exact go.elim
    | some sl =>
      rw [e] at go
      cases sl with
      | no => exact go.elim
      | fz p =>
        obtain ⟨w, h1, h2⟩ := S.fz i p e
        have r : σ[i]? = some (some v) := r
        rw [r] at h1; cases h1
        exact ⟨F, p, env, Ex.refl F, S, h2, go⟩
      | ow f p =>
        cases f with
        | false => exact go.elim
        | true =>
          obtain ⟨w, h1, h2, h3, h4⟩ := S.ow i _ p e
          have r : σ[i]? = some (some v) := r
          rw [r] at h1; cases h1
          obtain ⟨o, ho⟩ := h2.cell
          obtain ⟨S', rr⟩ := S.freeze e r ho
          exact ⟨_, p, _, Ex.new h3, S', rr, Go.up go (Ex.new h3)⟩
theorem RVs.later : ∀ {xs : List Val} {vs : List V}, AllOld xs → RVs g F H σ env xs vs → Ex F F' → RVs g F' H' σ env' xs vs
  | [], vs, _, r, _ => r
  | x :: xs, vs, o, r, e => by
    obtain ⟨v, t, e1, r1, r2⟩ := r
    exact ⟨v, t, e1, r1.later o.1 e, RVs.later o.2 r2 e⟩
theorem frzs_go {α : Type} : ∀ {xs : List Val} {vs : List V} {F H : Hp} {env : Env'} {f : List PV → Env' → Res α} {K : α → Env' → Hp → Hp → Prop}, AllOld xs → Stt g F H σ env → RVs g F H σ env xs vs → Go g F σ ((frzs xs env).bind f) K →
    ∃ F' ps env', Ex F F' ∧ Stt g F' H σ env' ∧ Rs g.C F' ps vs ∧ Go g F' σ (f ps env') K
  | [], vs, F, H, env, f, K, _, S, r, go => by
    have e : vs = [] := r
    subst e
    exact ⟨F, [], env, Ex.refl F, S, Rs.nil, go⟩
  | x :: xs, vs, F, H, env, f, K, o, S, r, go => by
    obtain ⟨v, t, rfl, r1, r2⟩ := r
    have go' : Go g F σ ((frz x env).bind fun p e1 => ((frzs xs e1).bind fun ps e2 => .ok (p :: ps) e2).bind f) K := by
      unfold frzs at go
      cases h : frz x env with
      | bad => rw [h] at go; exact go
      | err y e => rw [h] at go; exact go
      | ok p e1 => rw [h] at go; exact go
    obtain ⟨F1, p, e1, x1, S1, q1, go1⟩ := frz_go S r1 go'
    have go2 : Go g F1 σ ((frzs xs e1).bind fun ps e2 => f (p :: ps) e2) K := by
      cases h : frzs xs e1 with
      | bad => rw [h] at go1; exact go1
      | err y e => rw [h] at go1; exact go1
      | ok ps e2 => rw [h] at go1; exact go1
    obtain ⟨F2, ps, e2, x2, S2, q2, go3⟩ := frzs_go (f := fun ps e2 => f (p :: ps) e2) o.2 S1 (RVs.later o.2 r2 x1) go2
    exact ⟨F2, p :: ps, e2, x1.trans x2, S2, Rs.cons (q1.mono x2.le) q2, go3⟩

/-! ### arguments -/
/-- argument lists, settled -/
def tAs (g : Gm) (d : Env' → Res (List Val)) : TA := fun σ H Q => ∃ F env, Stt g F H σ env ∧ Go g F σ (d env) fun xs env' F' H' => ∀ vs, AllOld xs → RVs g F' H' σ env' xs vs → Q vs H'
theorem sa_nil : PA X [] (tAs g (dArgs [])) := paImp pa_nil fun σ H Q ⟨F, env, S, go⟩ => go F H (Ex.refl F) S [] True.intro rfl
theorem sa_cons {e : Expr} {es : List Expr} {d : Env' → Res Val} {ds : List (Env' → Res Val)} (ha : PE X e (tE g d)) (hr : PA X es (tAs g (dArgs ds))) (hs : starEach (e :: es) X.env = (false, eval e X.env) :: starEach es X.env) :
    PA X (e :: es) (tAs g (dArgs (d :: ds))) := by
  refine ⟨fun pos pins s σ H Q I ⟨F, env, S, go⟩ => ?_⟩
  rw [hs]
  show wpAny _ _ (spliced ((false, eval e X.env) :: backTo pos (starEach es X.env))) _ _ s
  refine Calls.spliced_cons (thn (peGo ha I S go) fun v s1 ⟨v', H1, I1, r1, F1, e1, x, x1, S1, o1, rv1, go1⟩ => ?_)
  refine thn (hr.run pos pins s1 σ H1 (fun vs H2 => Q (v' :: vs) H2) I1 ⟨F1, e1, S1, (Go.bind go1).mono fun xs e2 F2 H2 x2 S2 k vs o2 rv2 => ?_⟩) fun us s2 ⟨xs, H2, I2, r2, q2⟩ => ⟨v' :: xs, H2, I2, .cons r1 r2, q2⟩
  exact k F2 H2 (Ex.refl F2) S2 (v' :: vs) ⟨o1, o2⟩ ⟨v', vs, rfl, rv1.later o1 x2, rv2⟩
/-- an argument list, then the rest -/
theorem paGo {β : Type} {es : List Expr} {d : Env' → Res (List Val)} {f : List Val → Env' → Res β} {K : β → Env' → Hp → Hp → Prop} (h : PA X es (tAs g d)) (pos : Pos) (I : Inv X pins σ H s) (S : Stt g F H σ env) (go : Go g F σ ((d env).bind f) K) :
    wpAny (model X.prog X.w) X.A (spliced (backTo pos (starEach es X.env))) (AP X pins σ fun vs H1 => ∃ F1 env1 xs, Ex F F1 ∧ Stt g F1 H1 σ env1 ∧ AllOld xs ∧ RVs g F1 H1 σ env1 xs vs ∧ Go g F1 σ (f xs env1) K) X.xe s := by
  refine h.run pos pins s σ H _ I ⟨F, env, S, ?_⟩
  exact (Go.bind go).mono fun xs e F' H' e1 S1 k vs o r => ⟨F', e, xs, e1, S1, o, r, k⟩
theorem RVs.length : ∀ {xs : List Val} {vs : List V}, RVs g F H σ env xs vs → vs.length = xs.length
  | [], vs, r => by
    have e : vs = [] := r
    rw [e]; rfl
  | x :: xs, vs, r => by
    obtain ⟨v, t, e1, r1, r2⟩ := r
    rw [e1, List.length_cons, List.length_cons, RVs.length r2]
/-! ### displays -/
def dLst (ds : List (Env' → Res Val)) : Env' → Res Val := fun e => (dArgs ds e).bind fun xs e1 => (frzs xs e1).bind fun ps e2 => if ps.length ≤ big then .ok (.new (.lst ps)) e2 else .bad
def dTup (ds : List (Env' → Res Val)) : Env' → Res Val := fun e => (dArgs ds e).bind fun xs e1 => (frzs xs e1).bind fun ps e2 => if ps.length ≤ big then .ok (.fz (.tup ps)) e2 else .bad
theorem disp_go {xs : List Val} {vs : List V} {mk : List PV → Val} {K : Val → Env' → Hp → Hp → Prop} (o : AllOld xs) (S : Stt g F H σ env) (r : RVs g F H σ env xs vs) (go : Go g F σ ((frzs xs env).bind fun ps e2 => if ps.length ≤ big then .ok (mk ps) e2 else .bad) K) :
    ∃ F' ps env', Ex F F' ∧ Stt g F' H σ env' ∧ Rs g.C F' ps vs ∧ vs.length ≤ sizeLine ∧ ∀ F2 H2, Ex F' F2 → Stt g F2 H2 σ env' → K (mk ps) env' F2 H2 := by
  obtain ⟨F1, ps, e1, x1, S1, q1, go1⟩ := frzs_go o S r go
  by_cases h : ps.length ≤ big
  · rw [if_pos h] at go1
    exact ⟨F1, ps, e1, x1, S1, q1, by rw [big_eq, q1.length]; exact h, go1⟩
  · rw [if_neg h] at go1; exact go1.elim
theorem se_lst {es : List Expr} {ds : List (Env' → Res Val)} (h : PA X es (tAs g (dArgs ds))) : PE X (.List es pos) (tE g (dLst ds)) :=
  peImp (pe_lst h) fun σ H Q ⟨F, env, S, go⟩ => ⟨F, env, S, (Go.bind go).mono fun xs e1 F1 H1 x1 S1 k vs o rv => by
    obtain ⟨F2, ps, e2, x2, S2, q2, hl, k2⟩ := disp_go o S1 rv k
    exact ⟨hl, fun p hp => fin_lst S2 hp q2 fun F3 H3 w x3 S3 rw => k2 F3 H3 x3 S3 w rw⟩⟩
theorem se_tup {es : List Expr} {x1 : Nat} {ds : List (Env' → Res Val)} (h : PA X es (tAs g (dArgs ds))) : PE X (.Tuple es x1 pos) (tE g (dTup ds)) :=
  peImp (pe_tup h) fun σ H Q ⟨F, env, S, go⟩ => ⟨F, env, S, (Go.bind go).mono fun xs e1 F1 H1 x1 S1 k vs o rv => by
    obtain ⟨F2, ps, e2, x2, S2, q2, hl, k2⟩ := disp_go o S1 rv k
    exact ⟨hl, fun p hp => fin_tup S2 hp q2 fun F3 H3 w x3 S3 rw => k2 F3 H3 x3 S3 w rw⟩⟩

/-! ### builtins called -/
def opN (sem : List PV → Option Val) (xs : List Val) (e : Env') : Res Val := match peeks e xs with
  | some ps => toVal (sem ps) e
  | none => .bad
def dCall (sem : List PV → Option Val) (ds : List (Env' → Res Val)) : Env' → Res Val := fun e => (dArgs ds e).bind fun xs e1 => opN sem xs e1
theorem peeks_ok (S : Stt g F H σ env) : ∀ {xs : List Val} {vs : List V} {ps : List PV}, RVs g F H σ env xs vs → peeks env xs = some ps → Rts g.C F H ps vs
  | [], vs, ps, r, h => by
    simp only [peeks, Option.some.injEq] at h; subst h
    exact r
  | x :: xs, vs, ps, r, h => by
    obtain ⟨v, t, rfl, r1, r2⟩ := r
    simp only [peeks] at h
    cases h1 : peek x env with
    | none => simp only [h1] at h; cases h
    | some p =>
      cases h2 : peeks env xs with
      | none => simp only [h1, h2] at h; cases h
      | some qs =>
        simp only [h1, h2, Option.some.injEq] at h; subst h
        exact ⟨v, t, rfl, peek_ok S r1 h1, peeks_ok S r2 h2⟩
theorem opN_go {f : List Value → Sem Value} {sem : List PV → Option Val} {xs : List Val} {vs : List V} {us : List Value} {K : Val → Env' → Hp → Hp → Prop} (ho : OpN X g f sem) (I : Inv X pins σ H s) (S : Stt g F H σ env) (r : Vals vs us)
    (t : RVs g F H σ env xs vs) (go : Go g F σ (opN sem xs env) K) : wpAny (model X.prog X.w) X.A (f us) (EP X pins σ fun w H' => ∃ F' r, Ex F F' ∧ Stt g F' H' σ env ∧ RV g F' H' σ env r w ∧ K r env F' H') X.xe s := by
  unfold opN at go
  cases e1 : peeks env xs with
  | none => rw [e1] at go; exact go.elim
  | some ps =>
    simp only [e1] at go
    cases e3 : sem ps with
    | none => rw [e3] at go; exact go.elim
    | some r' =>
      rw [e3] at go
      exact ho pins s σ F H env ps vs us r' _ I S r (peeks_ok S t e1) e3 fun F' H' w ex S' rv => ⟨F', r', ex, S', rv, go F' H' ex S'⟩
section
variable {x : Str} {p : Pos} {e : Expr} {es : List Expr} {ds : List (Env' → Res Val)} {id T : String} {sem : List PV → Option Val}
theorem se_callB (ho : OpN X g (fun us => PySem.call (.builtin id) us) sem) (hg : Gl X x) (hm : X.mg x = none) (hv : bootBuiltins x = some (.builtin id)) (ha : PA X (e :: es) (tAs g (dArgs ds))) (hn : x ≠ "__name__") (hdb : (x == ("__debug__" : Str)) = false)
    (he : starEach (e :: es) X.env = (false, eval e X.env) :: starEach es X.env) (hpl : (backTo pos (starEach es X.env)).any (·.1) = false) : PE X (.Call (.Name x p) (e :: es) [] pos) (tE g (dCall sem ds)) := by
  refine ⟨fun pins s σ H Q I ⟨F, env, S, go⟩ => ?_⟩
  refine wpAny_Call_Name_kw (ld_blt I hg hm hv ?_ hn hdb)
  refine PyProof.Rows.callWith_builtin1 (thn (paGo ha pos I S go) fun us s1 ⟨vs, H1, I1, r1, F1, e1, xs, x1, S1, o1, rv1, go1⟩ => ?_) he hpl
  exact thn (opN_go ho I1 S1 r1 rv1 go1) fun w s3 ⟨w', H3, I3, r3, F3, r, ex, S3, rv, k⟩ => ⟨w', H3, I3, r3, k w' rv⟩
theorem se_callTy (ho : OpN X g (fun us => PySem.call (.type T) us) sem) (hg : Gl X x) (hm : X.mg x = none) (hv : bootBuiltins x = some (.type T)) (ha : PA X (e :: es) (tAs g (dArgs ds))) (hn : x ≠ "__name__") (hdb : (x == ("__debug__" : Str)) = false)
    (he : starEach (e :: es) X.env = (false, eval e X.env) :: starEach es X.env) (hpl : (backTo pos (starEach es X.env)).any (·.1) = false) : PE X (.Call (.Name x p) (e :: es) [] pos) (tE g (dCall sem ds)) := by
  refine ⟨fun pins s σ H Q I ⟨F, env, S, go⟩ => ?_⟩
  refine wpAny_Call_Name_kw (ld_blt I hg hm hv ?_ hn hdb)
  refine PyProof.Rows.callWith_type1 (thn (paGo ha pos I S go) fun us s1 ⟨vs, H1, I1, r1, F1, e1, xs, x1, S1, o1, rv1, go1⟩ => ?_) he hpl
  exact thn (opN_go ho I1 S1 r1 rv1 go1) fun w s3 ⟨w', H3, I3, r3, F3, r, ex, S3, rv, k⟩ => ⟨w', H3, I3, r3, k w' rv⟩
end

/-! ### subscripts -/
def OpIx (X : Cx) (g : Gm) (sem : PV → PV → Option Val) : Prop := ∀ value slice, (∀ v u, subscripted slice false v u = operate [v, u] (getItem v u)) → Op2 X g (subscriptTail value slice) sem
theorem OpIx.or {s1 s2 : PV → PV → Option Val} (h1 : OpIx X g s1) (h2 : OpIx X g s2) : OpIx X g (fun p q => match s1 p q with | some r => some r | none => s2 p q) := fun v sl hs => (h1 v sl hs).or (h2 v sl hs)
theorem se_ix {sem : PV → PV → Option Val} (ho : OpIx X g sem) (ha : PE X a (tE g da)) (hb : PE X b (tE g db)) (hs : PlainIx b) : PE X (.Subscript a b pos) (tE g (dBin sem da db)) := by
  refine ⟨fun pins s σ H Q I ⟨F, env, S, go⟩ => Subscript_ (thn (peGo ha I S go) fun v s1 ⟨v', H1, I1, r1, F1, e1, x, x1, S1, o1, rv1, go1⟩ => ?_)⟩
  refine thn (peGo hb I1 S1 go1) fun u s2 ⟨u', H2, I2, r2, F2, e2, y, x2, S2, o2, rv2, go2⟩ => ?_
  exact thn (op2_go (ho a b hs) I2 S2 r1 r2 (rv1.later o1 x2) rv2 go2) fun w s3 ⟨w', H3, I3, r3, F3, r, ex, S3, rv, k⟩ => ⟨w', H3, I3, r3, k w' rv⟩
end
end VL

set_option maxRecDepth 100000
set_option maxHeartbeats 2000000
namespace VL
open PySem PySem.Spec L2
open PyProof.Rows hiding St

/-! ### data -/
mutual
def toD : PV → Option PyData
  | .non => some .none
  | .bl b => some (.bool b)
  | .int i => some (.int i)
  | .str x => some (.str x)
  | .tup xs => (toDs xs).map .tuple
  | .lst xs => (toDs xs).map .list
  | _ => none
def toDs : List PV → Option (List PyData)
  | [] => some []
  | x :: xs => match toD x, toDs xs with
    | some d, some ds => some (d :: ds)
    | _, _ => none
end
mutual
theorem R.dp {C : Ct} {H : Hp} : ∀ {p : PV} {v : V} {d : PyData}, R C H p v → toD p = some d → Dp C.K H v d
  | .non, v, d, h, e => by
    unfold R at h; subst h; unfold toD at e; cases e; exact .non
  | .bl b, v, d, h, e => by
    unfold R at h; subst h; unfold toD at e; cases e; exact .bl b
  | .int b, v, d, h, e => by
    unfold R at h; subst h; unfold toD at e; cases e; exact .int b
  | .str b, v, d, h, e => by
    unfold R at h; subst h; unfold toD at e; cases e; exact .str b
  | .tup xs, v, d, h, e => by
    unfold R at h; unfold toD at e
    obtain ⟨a, vs, rfl, q, r⟩ := h
    cases h1 : toDs xs with
    | none => rw [h1] at e; cases e
    | some ds =>
      rw [h1] at e
      simp only [Option.map_some, Option.some.injEq] at e; subst e
      exact .tup (SqT.of q) (Rs.dps r h1)
  | .lst xs, v, d, h, e => by
    unfold R at h; unfold toD at e
    obtain ⟨a, vs, rfl, q, r⟩ := h
    cases h1 : toDs xs with
    | none => rw [h1] at e; cases e
    | some ds =>
      rw [h1] at e
      simp only [Option.map_some, Option.some.injEq] at e; subst e
      exact .lst (SqL.of q) (Rs.dps r h1)
  | .scr ns, v, d, h, e => by unfold toD at e; cases e
  | .dK _ _, v, d, h, e => by unfold toD at e; cases e
  | .dT _ _, v, d, h, e => by unfold toD at e; cases e
  | .ins _ _, v, d, h, e => by unfold toD at e; cases e
theorem Rs.dps {C : Ct} {H : Hp} : ∀ {p : List PV} {v : List V} {d : List PyData}, Rs C H p v → toDs p = some d → DpAll C.K H v d
  | [], v, d, h, e => by
    rw [h.nil_inv]; unfold toDs at e; cases e; exact .nil
  | x :: xs, v, d, h, e => by
    obtain ⟨w, r, rfl, q, t⟩ := h.cons_inv
    unfold toDs at e
    cases h1 : toD x with
    | none => simp only [h1] at e; cases e
    | some d1 =>
      cases h2 : toDs xs with
      | none => simp only [h1, h2] at e; cases e
      | some ds =>
        simp only [h1, h2, Option.some.injEq] at e; subst e
        exact .cons (R.dp q h1) (Rs.dps t h2)
end
/-- flat ones -/
def flatP : PV → Option V
  | .non => some .non
  | .bl b => some (.bl b)
  | .int i => some (.int i)
  | .str x => some (.str x)
  | _ => none
def flats : List PV → Option (List V)
  | [] => some []
  | x :: xs => match flatP x, flats xs with
    | some d, some ds => some (d :: ds)
    | _, _ => none
theorem flatP_r {C : Ct} {F : Hp} {p : PV} {v w : V} (h : R C F p v) (e : flatP p = some w) : v = w ∧ flatV w = true := by
  cases p <;> simp only [flatP] at e <;> cases e <;> unfold R at h <;> exact ⟨h, rfl⟩
theorem flatP_rt {C : Ct} {F H : Hp} {p : PV} {v w : V} (h : Rt C F H p v) (e : flatP p = some w) : v = w ∧ flatV w = true := by
  cases p <;> simp only [flatP] at e <;> cases e <;> simp only [Rt] at h <;> exact ⟨h, rfl⟩
theorem flats_r {C : Ct} {F : Hp} : ∀ {p : List PV} {v w : List V}, Rs C F p v → flats p = some w → v = w ∧ w.all flatV = true
  | [], v, w, h, e => by
    rw [h.nil_inv]; simp only [flats, Option.some.injEq] at e; subst e; exact ⟨rfl, rfl⟩
  | x :: xs, v, w, h, e => by
    obtain ⟨y, r, rfl, q, t⟩ := h.cons_inv
    simp only [flats] at e
    cases h1 : flatP x with
    | none => simp only [h1] at e; cases e
    | some d1 =>
      cases h2 : flats xs with
      | none => simp only [h1, h2] at e; cases e
      | some ds =>
        simp only [h1, h2, Option.some.injEq] at e; subst e
        obtain ⟨rfl, f1⟩ := flatP_r q h1
        obtain ⟨rfl, f2⟩ := flats_r t h2
        exact ⟨rfl, by rw [List.all_cons, f1, f2]; rfl⟩
/-! ### keys -/
def keyP : PV → Option Key
  | .int i => some (.inl i)
  | .str x => some (.inr x)
  | _ => none
def keysP : List PV → Option (List Key)
  | [] => some []
  | x :: xs => match keyP x, keysP xs with
    | some d, some ds => some (d :: ds)
    | _, _ => none
theorem keyP_r {C : Ct} {F : Hp} {p : PV} {v : V} {k : Key} (h : R C F p v) (e : keyP p = some k) : v = kV k := by
  cases p <;> simp only [keyP] at e <;> cases e <;> unfold R at h <;> exact h
theorem keyP_rt {C : Ct} {F H : Hp} {p : PV} {v : V} {k : Key} (h : Rt C F H p v) (e : keyP p = some k) : v = kV k := by
  cases p <;> simp only [keyP] at e <;> cases e <;> simp only [Rt] at h <;> exact h
theorem keysP_r {C : Ct} {F : Hp} : ∀ {p : List PV} {v : List V} {k : List Key}, Rs C F p v → keysP p = some k → v = k.map kV
  | [], v, w, h, e => by
    rw [h.nil_inv]; simp only [keysP, Option.some.injEq] at e; subst e; rfl
  | x :: xs, v, w, h, e => by
    obtain ⟨y, r, rfl, q, t⟩ := h.cons_inv
    simp only [keysP] at e
    cases h1 : keyP x with
    | none => simp only [h1] at e; cases e
    | some d1 =>
      cases h2 : keysP xs with
      | none => simp only [h1, h2] at e; cases e
      | some ds =>
        simp only [h1, h2, Option.some.injEq] at e; subst e
        rw [keyP_r q h1, keysP_r t h2]; rfl
def look {κ : Type} [DecidableEq κ] : List κ → List PV → κ → Option PV
  | k :: ks, v :: vs, j => if k = j then some v else look ks vs j
  | _, _, _ => none
theorem look_r {κ : Type} [DecidableEq κ] {C : Ct} {F : Hp} : ∀ {kvs : List (κ × V)} {xs : List PV} (j : κ), Rs C F xs (kvs.map Prod.snd) → (match look (kvs.map Prod.fst) xs j with | some p => ∃ v, valV kvs j = some v ∧ R C F p v | none => valV kvs j = none)
  | [], xs, j, h => by
    have : xs = [] := by
      cases xs with
      | nil => rfl
      | cons x xs => obtain ⟨v, r, e, _⟩ := h.cons_inv; cases e
    subst this
    exact rfl
  | (k, v) :: kvs, [], j, h => by
    have := h.nil_inv; cases this
  | (k, v) :: kvs, x :: xs, j, h => by
    obtain ⟨y, r, e, q, t⟩ := h.cons_inv
    simp only [List.map_cons, List.cons.injEq] at e
    obtain ⟨rfl, rfl⟩ := e
    simp only [List.map_cons, look]
    by_cases hk : k = j
    · rw [if_pos hk]
      exact ⟨v, valV_pos hk, q⟩
    · rw [if_neg hk]
      have ih := look_r (kvs := kvs) j t
      rw [valV_neg hk]
      exact ih
def putP {κ : Type} [DecidableEq κ] (ks : List κ) (vs : List PV) (k : κ) (v : PV) : List κ × List PV :=
  if k ∈ ks then (ks, List.zipWith (fun j x => if j = k then v else x) ks vs) else (ks ++ [k], vs ++ [v])
theorem putP_r {κ : Type} [DecidableEq κ] {C : Ct} {F : Hp} {kvs : List (κ × V)} {xs : List PV} {k : κ} {p : PV} {v : V} (h : Rs C F xs (kvs.map Prod.snd)) (r : R C F p v) :
    (putK kvs k v).map Prod.fst = (putP (kvs.map Prod.fst) xs k p).1 ∧ Rs C F (putP (kvs.map Prod.fst) xs k p).2 ((putK kvs k v).map Prod.snd) := by
  unfold putP putK
  have e : (kvs.any fun kv => decide (kv.1 = k)) = decide (k ∈ kvs.map Prod.fst) := by
    induction kvs generalizing xs with
    | nil => rfl
    | cons a l ih =>
      have hh : ∃ ys, Rs C F ys (l.map Prod.snd) := by
        cases xs with
        | nil => have := h.nil_inv; cases this
        | cons y ys => obtain ⟨w, t, e, q, u⟩ := h.cons_inv; simp only [List.map_cons, List.cons.injEq] at e; rw [← e.2] at u; exact ⟨ys, u⟩
      obtain ⟨ys, hy⟩ := hh
      rw [List.any_cons, ih hy, List.map_cons]
      by_cases hk : a.1 = k
      · simp [hk]
      · have hk' : ¬ k = a.1 := fun z => hk z.symm
        simp [hk, hk']
  rw [e]
  by_cases hk : k ∈ kvs.map Prod.fst
  · rw [if_pos hk, decide_eq_true hk]
    simp only [if_true]
    clear e hk
    induction kvs generalizing xs with
    | nil =>
      cases xs with
      | nil => exact ⟨by simp, by simpa using Rs.nil⟩
      | cons y ys => obtain ⟨w, t, e, _⟩ := h.cons_inv; cases e
    | cons a l ih =>
      cases xs with
      | nil => have := h.nil_inv; cases this
      | cons y ys =>
        obtain ⟨w, t, e, q, u⟩ := h.cons_inv
        simp only [List.map_cons, List.cons.injEq] at e
        obtain ⟨rfl, rfl⟩ := e
        obtain ⟨i1, i2⟩ := ih u
        simp only [List.map_cons, List.zipWith_cons_cons]
        refine ⟨?_, Rs.cons ?_ i2⟩
        · rw [i1]
          by_cases ha : a.1 = k <;> simp [ha]
        · by_cases ha : a.1 = k
          · simp only [ha, if_true]; exact r
          · simp only [ha, if_false]; exact q
  · rw [if_neg hk, decide_eq_false hk]
    simp only [Bool.false_eq_true, if_false, List.map_append, List.map_cons, List.map_nil]
    exact ⟨trivial, h.snoc r⟩
def dropP {κ : Type} [DecidableEq κ] : List κ → List PV → κ → List κ × List PV
  | k :: ks, v :: vs, j => if k = j then dropP ks vs j else (k :: (dropP ks vs j).1, v :: (dropP ks vs j).2)
  | _, _, _ => ([], [])
end VL

set_option maxRecDepth 100000
set_option maxHeartbeats 2000000
namespace VL
open PySem PySem.Spec L2
open PyProof.Rows hiding St
/-- what the rules of operations lean on -/
structure Ok (X : Cx) (g : Gm) : Prop where
  K : g.C.K = X.K
  u : X.A.units + 65 < cLine
  calm : X.calm = true
theorem Ok.u1 {X : Cx} {g : Gm} (h : Ok X g) : X.A.units + 1 < cLine := by have := h.u; omega
theorem Ok.u64 {X : Cx} {g : Gm} (h : Ok X g) : X.A.units + 64 < cLine := by have := h.u; omega
theorem Ok.u0 {X : Cx} {g : Gm} (h : Ok X g) : X.A.units < cLine := by have := h.u; omega
def I2 (f : Int → Int → Int) : PV → PV → Option Val
  | .int i, .int j => some (.fz (.int (f i j)))
  | _, _ => none
def semAdd : PV → PV → Option Val
  | .int i, .int j => some (.fz (.int (i + j)))
  | .str x, .str y => if x.length + y.length ≤ big then some (.fz (.str (x ++ y))) else none
  | .lst xs, .lst ys => if xs.length + ys.length ≤ big then some (.new (.lst (xs ++ ys))) else none
  | .tup xs, .tup ys => if xs ≠ [] ∧ ys ≠ [] ∧ xs.length + ys.length ≤ big then some (.fz (.tup (xs ++ ys))) else if xs ≠ [] ∧ ys = [] ∧ xs.length ≤ big then some (.fz (.tup xs)) else none
  | _, _ => none
def semSub : PV → PV → Option Val
  | .int i, .int j => some (.fz (.int (i - j)))
  | _, _ => none
/-- (this way the kernel never counts down from a great number) -/
instance (i j : Int) : Decidable (CMulX i j) := decidable_of_iff (Nat.ble (Builtin.Int.intBits i + Builtin.Int.intBits j) 134217728 = true) (by unfold CMulX; rw [Nat.ble_eq]; omega)
def r62 (j : Int) : Bool := Nat.ble j.natAbs 4611686018427387903
theorem r62_ok {j : Int} (h : r62 j = true) : -(2 ^ 62) ≤ j ∧ j < 2 ^ 62 := by
  unfold r62 at h
  rw [Nat.ble_eq] at h
  omega
theorem r62_of {j : Int} (h1 : -4611686018427387904 < j) (h2 : j < 4611686018427387904) : r62 j = true := by
  unfold r62
  rw [Nat.ble_eq]
  omega
instance (i j : Int) : Decidable (CPow i j) := by unfold CPow; infer_instance
instance (i j : Int) : Decidable (CDivW i j) := by unfold CDivW; infer_instance
def semMul : PV → PV → Option Val
  | .int i, .int j => if CMulX i j then some (.fz (.int (i * j))) else none
  | .lst xs, .int k => if -(2 ^ 63) ≤ k ∧ k < 2 ^ 63 ∧ xs.length * k.toNat ≤ big then some (.new (.lst (List.replicate k.toNat xs).flatten)) else none
  | _, _ => none
def semDiv : PV → PV → Option Val
  | .int i, .int j => if CDivW i j then some (.fz (.int (i / j))) else none
  | _, _ => none
def semMod : PV → PV → Option Val
  | .int i, .int j => if 0 < j then some (.fz (.int (i % j))) else none
  | _, _ => none
def semPow : PV → PV → Option Val
  | .int i, .int j => if CPow i j then some (.fz (.int (i ^ j.toNat))) else none
  | _, _ => none
def semShl : PV → PV → Option Val
  | .int i, .int j => if CPow i j then some (.fz (.int (i * 2 ^ j.toNat))) else none
  | _, _ => none
def semShr : PV → PV → Option Val
  | .int i, .int j => if 0 ≤ j then some (.fz (.int (i / 2 ^ j.toNat))) else none
  | _, _ => none
def semAnd : PV → PV → Option Val
  | .int i, .int j => some (.fz (.int (Builtin.bitAnd i j)))
  | _, _ => none
section
variable {X : Cx} {g : Gm}
theorem rt_int {C : Ct} {F H : Hp} {i : Int} {v : V} (h : Rt C F H (.int i) v) : v = .int i := h
theorem rt_str {C : Ct} {F H : Hp} {i : Str} {v : V} (h : Rt C F H (.str i) v) : v = .str i := h
theorem rt_bl {C : Ct} {F H : Hp} {i : Bool} {v : V} (h : Rt C F H (.bl i) v) : v = .bl i := h
theorem rep_rs {C : Ct} {F : Hp} {xs : List PV} {vs : List V} (h : Rs C F xs vs) : ∀ k : Nat, Rs C F (List.replicate k xs).flatten (List.replicate k vs).flatten
  | 0 => Rs.nil
  | k + 1 => by
    rw [List.replicate_succ, List.replicate_succ, List.flatten_cons, List.flatten_cons]
    exact h.append (rep_rs h k)
theorem o_add : Op2 X g (binaryOp .Add) semAdd := by
  intro pins s σ F H env p q v u vv uu r Q I S r1 r2 t1 t2 e k
  cases p <;> cases q <;> simp only [semAdd] at e <;> try (cases e; done)
  · cases e; cases rt_int t1; cases rt_int t2
    exact op_add pins s σ H _ _ vv uu Q I r1 r2 ⟨_, _, rfl, rfl, fin_int S k⟩
  · split at e
    · rename_i hl
      cases e; cases rt_str t1; cases rt_str t2
      exact op_add_str pins s σ H _ _ vv uu Q I r1 r2 ⟨_, _, rfl, rfl, by rw [big_eq]; exact hl, fin_str S k⟩
    · cases e
  · obtain ⟨a, vs, rfl, q1, s1, f1⟩ := t1
    obtain ⟨b, ws, rfl, q2, s2, f2⟩ := t2
    split at e
    · rename_i hl
      obtain ⟨h1, h2, h3⟩ := hl
      cases e
      refine op_catT pins s σ H _ _ vv uu Q I r1 r2 ⟨a, b, vs, ws, rfl, rfl, SqT.of q1, SqT.of q2, ?_, ?_, ?_, ?_⟩
      · intro z; apply h1; have := s1.length; rw [z] at this; exact List.eq_nil_of_length_eq_zero this.symm
      · rw [s1.length, s2.length, big_eq]; exact h3
      · intro z; exfalso; apply h2; have := s2.length; rw [z] at this; exact List.eq_nil_of_length_eq_zero this.symm
      · exact fun _ p hp => fin_tup S hp (s1.append s2) k
    · split at e
      · rename_i hl
        obtain ⟨h1, h2, h3⟩ := hl
        cases e
        refine op_catT pins s σ H _ _ vv uu Q I r1 r2 ⟨a, b, vs, ws, rfl, rfl, SqT.of q1, SqT.of q2, ?_, ?_, ?_, ?_⟩
        · intro z; apply h1; have := s1.length; rw [z] at this; exact List.eq_nil_of_length_eq_zero this.symm
        · rw [s1.length, s2.length, big_eq, h2]; exact h3
        · intro _
          exact k F H _ (Ex.refl F) S (by show R _ _ _ _; unfold R; exact ⟨a, vs, rfl, f1, s1⟩)
        · intro z; exfalso; apply z; subst h2; exact s2.nil_inv
      · cases e
  · obtain ⟨a, vs, rfl, q1, s1⟩ := t1
    obtain ⟨b, ws, rfl, q2, s2⟩ := t2
    split at e
    · rename_i hl
      cases e
      exact op_cat pins s σ H _ _ vv uu Q I r1 r2 ⟨a, b, vs, ws, rfl, rfl, q1, q2, by rw [s1.length, s2.length, big_eq]; exact hl, fun p hp => fin_lst S hp (s1.append s2) k⟩
    · cases e
theorem o_sub : Op2 X g (binaryOp .Sub) semSub := by
  intro pins s σ F H env p q v u vv uu r Q I S r1 r2 t1 t2 e k
  cases p <;> cases q <;> simp only [semSub] at e <;> try (cases e; done)
  cases e; cases rt_int t1; cases rt_int t2
  exact op_sub pins s σ H _ _ vv uu Q I r1 r2 ⟨_, _, rfl, rfl, fin_int S k⟩
theorem o_mul : Op2 X g (binaryOp .Mult) semMul := by
  intro pins s σ F H env p q v u vv uu r Q I S r1 r2 t1 t2 e k
  cases p <;> cases q <;> simp only [semMul] at e <;> try (cases e; done)
  · split at e
    · rename_i hc
      cases e; cases rt_int t1; cases rt_int t2
      exact op_mulX pins s σ H _ _ vv uu Q I r1 r2 ⟨_, _, rfl, rfl, hc, fin_int S k⟩
    · cases e
  · split at e
    · rename_i hc
      obtain ⟨h1, h2, h3⟩ := hc
      cases e; cases rt_int t2
      obtain ⟨a, vs, rfl, q1, s1⟩ := t1
      exact op_rep pins s σ H _ _ vv uu Q I r1 r2 ⟨a, _, vs, rfl, rfl, q1, h1, h2, by rw [s1.length, big_eq]; exact h3, fun p hp => fin_lst S hp (rep_rs s1 _) k⟩
    · cases e
theorem o_div : Op2 X g (binaryOp .FloorDiv) semDiv := by
  intro pins s σ F H env p q v u vv uu r Q I S r1 r2 t1 t2 e k
  cases p <;> cases q <;> simp only [semDiv] at e <;> try (cases e; done)
  split at e
  · rename_i hc
    cases e; cases rt_int t1; cases rt_int t2
    exact op_fdivW pins s σ H _ _ vv uu Q I r1 r2 ⟨_, _, rfl, rfl, hc, fin_int S k⟩
  · cases e
theorem o_mod : Op2 X g (binaryOp .Mod) semMod := by
  intro pins s σ F H env p q v u vv uu r Q I S r1 r2 t1 t2 e k
  cases p <;> cases q <;> simp only [semMod] at e <;> try (cases e; done)
  split at e
  · rename_i hc
    cases e; cases rt_int t1; cases rt_int t2
    exact op_mod pins s σ H _ _ vv uu Q I r1 r2 ⟨_, _, rfl, rfl, hc, fin_int S k⟩
  · cases e
theorem o_pow : Op2 X g (binaryOp .Pow) semPow := by
  intro pins s σ F H env p q v u vv uu r Q I S r1 r2 t1 t2 e k
  cases p <;> cases q <;> simp only [semPow] at e <;> try (cases e; done)
  split at e
  · rename_i hc
    cases e; cases rt_int t1; cases rt_int t2
    exact op_pow pins s σ H _ _ vv uu Q I r1 r2 ⟨_, _, rfl, rfl, hc, fin_int S k⟩
  · cases e
theorem o_shl : Op2 X g (binaryOp .LShift) semShl := by
  intro pins s σ F H env p q v u vv uu r Q I S r1 r2 t1 t2 e k
  cases p <;> cases q <;> simp only [semShl] at e <;> try (cases e; done)
  split at e
  · rename_i hc
    cases e; cases rt_int t1; cases rt_int t2
    exact op_shl pins s σ H _ _ vv uu Q I r1 r2 ⟨_, _, rfl, rfl, hc, fin_int S k⟩
  · cases e
theorem o_shr : Op2 X g (binaryOp .RShift) semShr := by
  intro pins s σ F H env p q v u vv uu r Q I S r1 r2 t1 t2 e k
  cases p <;> cases q <;> simp only [semShr] at e <;> try (cases e; done)
  split at e
  · rename_i hc
    cases e; cases rt_int t1; cases rt_int t2
    exact op_shr pins s σ H _ _ vv uu Q I r1 r2 ⟨_, _, rfl, rfl, hc, fin_int S k⟩
  · cases e
theorem o_and : Op2 X g (binaryOp .BitAnd) semAnd := by
  intro pins s σ F H env p q v u vv uu r Q I S r1 r2 t1 t2 e k
  cases p <;> cases q <;> simp only [semAnd] at e <;> try (cases e; done)
  cases e; cases rt_int t1; cases rt_int t2
  exact op_and pins s σ H _ _ vv uu Q I r1 r2 ⟨_, _, rfl, rfl, fin_int S k⟩
def semNeg : PV → Option Val
  | .int i => some (.fz (.int (-i)))
  | _ => none
theorem o_neg : Op1 X g (unaryOp .USub) semNeg := by
  intro pins s σ F H env p v vv r Q I S r1 t1 e k
  cases p <;> simp only [semNeg] at e <;> try (cases e; done)
  cases e; cases rt_int t1
  exact un_neg pins s σ H _ vv Q I r1 ⟨_, rfl, fin_int S k⟩
/-! ### comparisons -/
def semLt : PV → PV → Option Val
  | .int i, .int j => some (.fz (.bl (decide (i < j))))
  | .str x, .str y => some (.fz (.bl (decide (x.cps.toList < y.cps.toList))))
  | _, _ => none
def semLe : PV → PV → Option Val
  | .int i, .int j => some (.fz (.bl (decide (i ≤ j))))
  | _, _ => none
def semGt : PV → PV → Option Val
  | .int i, .int j => some (.fz (.bl (decide (j < i))))
  | _, _ => none
def semGe : PV → PV → Option Val
  | .int i, .int j => some (.fz (.bl (decide (j ≤ i))))
  | _, _ => none
def eqP (p q : PV) : Option Bool := match toD p, toD q with
  | some d, some e => if SeqAt.shaped d = true ∧ SeqAt.shaped e = true then some (PyData.eqv d e) else none
  | _, _ => none
def semEq (p q : PV) : Option Val := (eqP p q).map fun b => .fz (.bl b)
def semNe (p q : PV) : Option Val := (eqP p q).map fun b => .fz (.bl (!b))
def semIs : PV → PV → Option Val
  | .bl a, .bl b => some (.fz (.bl (decide (a = b))))
  | p, .non => match p with
    | .non => some (.fz (.bl true))
    | _ => some (.fz (.bl false))
  | _, _ => none
def semIsNot : PV → PV → Option Val
  | .bl a, .bl b => some (.fz (.bl (!decide (a = b))))
  | p, .non => match p with
    | .non => some (.fz (.bl false))
    | _ => some (.fz (.bl true))
  | _, _ => none
theorem o_lt : Op2 X g (compareOp .Lt) semLt := by
  intro pins s σ F H env p q v u vv uu r Q I S r1 r2 t1 t2 e k
  cases p <;> cases q <;> simp only [semLt] at e <;> try (cases e; done)
  · cases e; cases rt_int t1; cases rt_int t2
    exact op_lt pins s σ H _ _ vv uu Q I r1 r2 ⟨_, _, rfl, rfl, fin_bl S k⟩
  · cases e; cases rt_str t1; cases rt_str t2
    exact op_lt_str pins s σ H _ _ vv uu Q I r1 r2 ⟨_, _, rfl, rfl, fin_bl S k⟩
theorem o_le : Op2 X g (compareOp .LtE) semLe := by
  intro pins s σ F H env p q v u vv uu r Q I S r1 r2 t1 t2 e k
  cases p <;> cases q <;> simp only [semLe] at e <;> try (cases e; done)
  · cases e; cases rt_int t1; cases rt_int t2
    exact op_le pins s σ H _ _ vv uu Q I r1 r2 ⟨_, _, rfl, rfl, fin_bl S k⟩
theorem o_gt : Op2 X g (compareOp .Gt) semGt := by
  intro pins s σ F H env p q v u vv uu r Q I S r1 r2 t1 t2 e k
  cases p <;> cases q <;> simp only [semGt] at e <;> try (cases e; done)
  · cases e; cases rt_int t1; cases rt_int t2
    exact op_gt pins s σ H _ _ vv uu Q I r1 r2 ⟨_, _, rfl, rfl, fin_bl S k⟩
theorem o_ge : Op2 X g (compareOp .GtE) semGe := by
  intro pins s σ F H env p q v u vv uu r Q I S r1 r2 t1 t2 e k
  cases p <;> cases q <;> simp only [semGe] at e <;> try (cases e; done)
  · cases e; cases rt_int t1; cases rt_int t2
    exact op_ge pins s σ H _ _ vv uu Q I r1 r2 ⟨_, _, rfl, rfl, fin_bl S k⟩
theorem o_eq (ok : Ok X g) : Op2 X g (compareOp .Eq) semEq := by
  intro pins s σ F H env p q v u vv uu r Q I S r1 r2 t1 t2 e k
  unfold semEq eqP at e
  cases h1 : toD p with
  | none => simp only [h1] at e; cases e
  | some d1 =>
    cases h2 : toD q with
    | none => simp only [h1, h2] at e; cases e
    | some d2 =>
      simp only [h1, h2] at e
      split at e
      · rename_i hs
        cases e
        refine op_eqD ok.u64 pins s σ H _ _ vv uu Q I r1 r2 ⟨d1, d2, ?_, ?_, hs.1, hs.2, fin_bl S k⟩
        · rw [← ok.K]; exact R.dp (t1.r S.sub) h1
        · rw [← ok.K]; exact R.dp (t2.r S.sub) h2
      · cases e
theorem o_ne (ok : Ok X g) : Op2 X g (compareOp .NotEq) semNe := by
  intro pins s σ F H env p q v u vv uu r Q I S r1 r2 t1 t2 e k
  unfold semNe eqP at e
  cases h1 : toD p with
  | none => simp only [h1] at e; cases e
  | some d1 =>
    cases h2 : toD q with
    | none => simp only [h1, h2] at e; cases e
    | some d2 =>
      simp only [h1, h2] at e
      split at e
      · rename_i hs
        cases e
        refine op_neD ok.u64 pins s σ H _ _ vv uu Q I r1 r2 ⟨d1, d2, ?_, ?_, hs.1, hs.2, fin_bl S k⟩
        · rw [← ok.K]; exact R.dp (t1.r S.sub) h1
        · rw [← ok.K]; exact R.dp (t2.r S.sub) h2
      · cases e
theorem rt_non {C : Ct} {F H : Hp} {p : PV} {v : V} (h : Rt C F H p v) : decide (v = .non) = (match p with | .non => true | _ => false) := by
  cases p <;> simp only [Rt] at h
  · subst h; rfl
  · subst h; rfl
  · subst h; rfl
  · subst h; rfl
  all_goals
    obtain ⟨a, h⟩ := h
  · obtain ⟨vs, rfl, _⟩ := h; rfl
  · obtain ⟨vs, rfl, _⟩ := h; rfl
  · obtain ⟨rfl, _⟩ := h; rfl
  · obtain ⟨kvs, rfl, _⟩ := h; rfl
  · obtain ⟨kvs, rfl, _⟩ := h; rfl
  · obtain ⟨dx, fs, rfl, _⟩ := h; rfl
  · obtain ⟨vs, rfl, _⟩ := h; rfl
theorem o_is : Op2 X g (compareOp .Is) semIs := by
  intro pins s σ F H env p q v u vv uu r Q I S r1 r2 t1 t2 e k
  cases q <;> (try (cases p <;> simp only [semIs] at e <;> cases e; done))
  · have u' : u = .non := t2
    refine op_isN pins s σ H v u vv uu Q I r1 r2 ⟨u', ?_⟩
    rw [rt_non t1]
    cases p <;> simp only [semIs] at e <;> cases e <;> exact fin_bl S k
  · cases p <;> simp only [semIs] at e <;> cases e
    cases rt_bl t1; cases rt_bl t2
    exact op_isBl pins s σ H _ _ vv uu Q I r1 r2 ⟨_, _, rfl, rfl, fin_bl S k⟩
theorem o_isnot : Op2 X g (compareOp .IsNot) semIsNot := by
  intro pins s σ F H env p q v u vv uu r Q I S r1 r2 t1 t2 e k
  cases q <;> (try (cases p <;> simp only [semIsNot] at e <;> cases e; done))
  · have u' : u = .non := t2
    refine op_notN pins s σ H v u vv uu Q I r1 r2 ⟨u', ?_⟩
    rw [rt_non t1]
    cases p <;> simp only [semIsNot] at e <;> cases e <;> exact fin_bl S k
  · cases p <;> simp only [semIsNot] at e <;> cases e
    cases rt_bl t1; cases rt_bl t2
    exact op_notBl pins s σ H _ _ vv uu Q I r1 r2 ⟨_, _, rfl, rfl, fin_bl S k⟩
end
end VL

set_option maxRecDepth 100000
set_option maxHeartbeats 2000000
namespace VL
open PySem PySem.Spec L2
open PyProof.Rows hiding St

/-! ### in -/
def inP (p q : PV) : Option Bool := match q with
  | .dK ks vs => (keyP p).map fun k => (look ks vs k).isSome
  | .dT ks vs => match p with
    | .tup xs => (keysP xs).map fun k => (look ks vs k).isSome
    | _ => none
  | .lst xs => match flatP p, flats xs with
    | some x, some ys => some (inV x ys)
    | _, _ => match toD p, toDs xs with
      | some d, some ds => if SeqAt.shaped d = true ∧ SeqAt.shaped (.list ds) = true then some (ds.any fun z => PyData.eqv z d) else none
      | _, _ => none
  | .tup xs => match flatP p, flats xs with
    | some x, some ys => some (inV x ys)
    | _, _ => none
  | .str y => match p with
    | .str ⟨⟨[c]⟩⟩ => some (decide (c ∈ y.cps.toList))
    | _ => none
  | _ => none
def semIn (p q : PV) : Option Val := (inP p q).map fun b => .fz (.bl b)
def semNotIn (p q : PV) : Option Val := (inP p q).map fun b => .fz (.bl (!b))
section
variable {X : Cx} {g : Gm}
theorem rt_tup {C : Ct} {F H : Hp} {xs : List PV} {v : V} (h : Rt C F H (.tup xs) v) : ∃ a vs, v = .ref a ∧ H a = some (.tup vs) ∧ Rs C F xs vs := by
  obtain ⟨a, vs, h1, h2, h3, _⟩ := h; exact ⟨a, vs, h1, h2, h3⟩
theorem look_dget {C : Ct} {F H : Hp} {p : PV} {ks : List Key} {xs : List PV} {k : Key} {v u : V} (hd : Rt C F H (.dK ks xs) v) (hk : Rt C F H p u) (e : keyP p = some k) :
    ∃ a o, v = .ref a ∧ DGet H a u o ∧ (match look ks xs k with | some x => ∃ w, o = some w ∧ R C F x w | none => o = none) := by
  obtain ⟨a, kvs, rfl, q, rfl, r⟩ := hd
  exact ⟨a, valV kvs k, rfl, .inl ⟨kvs, k, q, keyP_rt hk e, rfl⟩, look_r k r⟩
theorem look_dgetT {C : Ct} {F H : Hp} {ps : List PV} {ks : List (List Key)} {xs : List PV} {k : List Key} {v u : V} (hd : Rt C F H (.dT ks xs) v) (hk : Rt C F H (.tup ps) u) (e : keysP ps = some k) :
    ∃ a o, v = .ref a ∧ DGet H a u o ∧ (match look ks xs k with | some x => ∃ w, o = some w ∧ R C F x w | none => o = none) := by
  obtain ⟨a, kvs, rfl, q, rfl, r⟩ := hd
  obtain ⟨b, us, rfl, q2, r2⟩ := rt_tup hk
  have e2 := keysP_r r2 e
  subst e2
  exact ⟨a, valV kvs k, rfl, .inr ⟨kvs, k, b, q, rfl, q2, rfl⟩, look_r k r⟩
theorem look_isSome {C : Ct} {F : Hp} {o : Option V} {l : Option PV} (h : match l with | some x => ∃ w, o = some w ∧ R C F x w | none => o = none) : o.isSome = l.isSome := by
  cases l with
  | none => simp only at h; subst h; rfl
  | some x => obtain ⟨w, rfl, _⟩ := h; rfl
theorem in_run (ok : Ok X g) (neg : Bool) {pins : List (Addr × Obj)} {s : Shared} {σ : St} {F H : Hp} {env : Env'} {p q : PV} {v u : V} {vv uu : Value} {b : Bool} {Q : VK} (I : Inv X pins σ H s) (S : Stt g F H σ env) (r1 : RelV v vv) (r2 : RelV u uu)
    (t1 : Rt g.C F H p v) (t2 : Rt g.C F H q u) (e : inP p q = some b) (k : Q (.bl (if neg then !b else b)) H) : wpAny (model X.prog X.w) X.A (compareOp (if neg then .NotIn else .In) vv uu) (EP X pins σ Q) X.xe s := by
  have seqc : ∀ {a : Addr} {xs : List PV} {vs : List V} {x : V} {ys : List V}, u = .ref a → (SqL X.K H a vs ∨ SqT X.K H a vs) → Rs g.C F xs vs → flatP p = some x → flats xs = some ys → b = inV x ys → wpAny (model X.prog X.w) X.A (compareOp (if neg then .NotIn else .In) vv uu) (EP X pins σ Q) X.xe s := by
    intro a xs vs x ys e1 hq hr h1 h2 e2
    obtain ⟨e3, f1⟩ := flatP_rt t1 h1
    obtain ⟨e4, f2⟩ := flats_r hr h2
    subst e3 e4 e2
    cases neg with
    | false => exact op_in_seq pins s σ H _ _ vv uu Q I r1 r2 ⟨a, _, e1, hq, f1, f2, k⟩
    | true => exact op_notIn_seq pins s σ H _ _ vv uu Q I r1 r2 ⟨a, _, e1, hq, f1, f2, k⟩
  cases q <;> simp only [inP] at e <;> try (cases e; done)
  · -- str
    split at e
    · rename_i c
      cases e
      cases rt_str t1; cases rt_str t2
      cases neg with
      | false => exact op_in_sign pins s σ H _ _ vv uu Q I r1 r2 ⟨c, _, rfl, rfl, k⟩
      | true => exact op_notIn_sign pins s σ H _ _ vv uu Q I r1 r2 ⟨c, _, rfl, rfl, k⟩
    · cases e
  · -- tup
    rename_i xs
    obtain ⟨a, vs, e1, h1, h2⟩ := rt_tup t2
    cases f1 : flatP p with
    | none => simp only [f1] at e; cases e
    | some x =>
      cases f2 : flats xs with
      | none => simp only [f1, f2] at e; cases e
      | some ys =>
        simp only [f1, f2, Option.some.injEq] at e
        exact seqc e1 (.inr (SqT.of h1)) h2 f1 f2 e.symm
  · -- lst
    rename_i xs
    obtain ⟨a, vs, e1, h1, h2⟩ := t2
    have deep : (match toD p, toDs xs with | some d, some ds => if SeqAt.shaped d = true ∧ SeqAt.shaped (.list ds) = true then some (ds.any fun z => PyData.eqv z d) else none | _, _ => none) = some b →
        wpAny (model X.prog X.w) X.A (compareOp (if neg then .NotIn else .In) vv uu) (EP X pins σ Q) X.xe s := by
      intro e
      cases g1 : toD p with
      | none => simp only [g1] at e; cases e
      | some d =>
        cases g2 : toDs xs with
        | none => simp only [g1, g2] at e; cases e
        | some ds =>
          simp only [g1, g2] at e
          split at e
          · rename_i hs
            cases e
            have d1 : Dp X.K H v d := by rw [← ok.K]; exact R.dp (t1.r S.sub) g1
            have d2 : Dp X.K H u (.list ds) := by
              rw [← ok.K, e1]
              exact .lst (SqL.of h1) (Rs.dps (h2.mono S.sub) g2)
            cases neg with
            | false => exact op_inD ok.u pins s σ H _ _ vv uu Q I r1 r2 ⟨d, ds, d1, d2, hs.1, hs.2, k⟩
            | true => exact op_notInD ok.u pins s σ H _ _ vv uu Q I r1 r2 ⟨d, ds, d1, d2, hs.1, hs.2, k⟩
          · cases e
    cases f1 : flatP p with
    | none => simp only [f1] at e; exact deep e
    | some x =>
      cases f2 : flats xs with
      | none => simp only [f1, f2] at e; exact deep e
      | some ys =>
        simp only [f1, f2, Option.some.injEq] at e
        exact seqc e1 (.inl (SqL.of h1)) h2 f1 f2 e.symm
  · -- dK
    cases f1 : keyP p with
    | none => rw [f1] at e; cases e
    | some kk =>
      rw [f1] at e
      simp only [Option.map_some, Option.some.injEq] at e
      obtain ⟨a, o, rfl, hg, hl⟩ := look_dget t2 t1 f1
      have hs := look_isSome hl
      obtain rfl : uu = Value.ref a := r2
      rw [← e, ← hs] at k
      cases neg with
      | false => exact d_in ok.u1 I hg r1 fun s' I' => ⟨.bl o.isSome, H, I', rfl, k⟩
      | true => exact d_notIn ok.u1 I hg r1 fun s' I' => ⟨.bl (!o.isSome), H, I', rfl, k⟩
  · -- dT
    cases p <;> simp only at e <;> try (cases e; done)
    rename_i ps
    cases f1 : keysP ps with
    | none => rw [f1] at e; cases e
    | some kk =>
      rw [f1] at e
      simp only [Option.map_some, Option.some.injEq] at e
      obtain ⟨a, o, rfl, hg, hl⟩ := look_dgetT t2 t1 f1
      have hs := look_isSome hl
      obtain rfl : uu = Value.ref a := r2
      rw [← e, ← hs] at k
      cases neg with
      | false => exact d_in ok.u1 I hg r1 fun s' I' => ⟨.bl o.isSome, H, I', rfl, k⟩
      | true => exact d_notIn ok.u1 I hg r1 fun s' I' => ⟨.bl (!o.isSome), H, I', rfl, k⟩
theorem o_in (ok : Ok X g) : Op2 X g (compareOp .In) semIn := by
  intro pins s σ F H env p q v u vv uu r Q I S r1 r2 t1 t2 e k
  unfold semIn at e
  cases h : inP p q with
  | none => rw [h] at e; cases e
  | some b =>
    rw [h] at e; cases e
    exact in_run ok false I S r1 r2 t1 t2 h (fin_bl S k)
theorem o_notIn (ok : Ok X g) : Op2 X g (compareOp .NotIn) semNotIn := by
  intro pins s σ F H env p q v u vv uu r Q I S r1 r2 t1 t2 e k
  unfold semNotIn at e
  cases h : inP p q with
  | none => rw [h] at e; cases e
  | some b =>
    rw [h] at e; cases e
    exact in_run ok true I S r1 r2 t1 t2 h (fin_bl S k)

/-! ### a[b] -/
def semIx : PV → PV → Option Val
  | .lst xs, .int i => (atI xs i).map .fz
  | .tup xs, .int i => (atI xs i).map .fz
  | .scr ns, .int i => (atI ns i).map fun n => .fz (.int n)
  | .str x, .int i => if x.length ≤ big then (atI x.cps.toList i).map fun c => .fz (.str ⟨#[c]⟩) else none
  | .dK ks vs, p => (keyP p).bind fun k => (look ks vs k).map .fz
  | .dT ks vs, .tup xs => (keysP xs).bind fun k => (look ks vs k).map .fz
  | _, _ => none
theorem Rs.at {C : Ct} {F : Hp} {xs : List PV} {vs : List V} {i : Int} {x : PV} (h : Rs C F xs vs) (e : atI xs i = some x) : ∃ v, atI vs i = some v ∧ R C F x v := by
  unfold atI at e ⊢
  rw [h.length]
  cases q : ixN xs.length i with
  | none => rw [q] at e; cases e
  | some j =>
    rw [q] at e
    simp only [Option.bind_some] at e ⊢
    exact h.get e
theorem dict_tail (ok : Ok X g) {pins : List (Addr × Obj)} {s : Shared} {σ : St} {H : Hp} {value slice : Expr} {a : Addr} {u w : V} {uu : Value} {Q : VK} (hs : ∀ v u, subscripted slice false v u = operate [v, u] (getItem v u)) (I : Inv X pins σ H s) (r2 : RelV u uu) (hg : DGet H a u (some w)) (k : Q w H) :
    wpAny (model X.prog X.w) X.A (subscriptTail value slice (.ref a) uu) (EP X pins σ Q) X.xe s :=
  tail_any (dict_typeIs I hg) PySem.F.slot_dict_getitem.lookup (d_getItem ok.u1 I hg r2 fun w' s' I' rw' => ⟨w, H, I', rw', k⟩) (hs _ _)
theorem o_ix (ok : Ok X g) : OpIx X g semIx := by
  intro value slice hs pins s σ F H env p q v u vv uu r Q I S r1 r2 t1 t2 e k
  have lk : ∀ {a : Addr} {o : Option V} {l : Option PV} {w : Val}, v = .ref a → DGet H a u o → (match l with | some x => ∃ w, o = some w ∧ R g.C F x w | none => o = none) → l.map Val.fz = some r → wpAny (model X.prog X.w) X.A (subscriptTail value slice vv uu) (EP X pins σ Q) X.xe s := by
    intro a o l w e1 hg hl e2
    subst e1
    obtain rfl : vv = Value.ref a := r1
    cases l with
    | none => cases e2
    | some x =>
      cases e2
      obtain ⟨w, rfl, rw'⟩ := hl
      exact dict_tail ok hs I r2 hg (fin_fz S rw' k)
  cases p <;> try (simp only [semIx] at e; cases e; done)
  · -- str
    cases q <;> simp only [semIx] at e <;> try (cases e; done)
    split at e
    · rename_i x i hl
      cases h : atI x.cps.toList i with
      | none => rw [h] at e; cases e
      | some c =>
        rw [h] at e; cases e
        cases rt_str t1; cases rt_int t2
        exact ix_str value slice pins s σ H _ _ vv uu Q I r1 r2 ⟨x, i, c, rfl, rfl, by rw [big_eq]; exact hl, h, fin_str S k⟩ (hs _ _)
    · cases e
  · -- tup
    cases q <;> simp only [semIx] at e <;> try (cases e; done)
    rename_i xs i
    cases h : atI xs i with
    | none => rw [h] at e; cases e
    | some x =>
      rw [h] at e; cases e
      obtain ⟨a, vs, rfl, h1, h2⟩ := rt_tup t1
      cases rt_int t2
      obtain ⟨w, h3, h4⟩ := h2.at h
      exact ix_tup value slice pins s σ H _ _ vv uu Q I r1 r2 ⟨a, vs, i, w, rfl, rfl, SqT.of h1, h3, fin_fz S h4 k⟩ (hs _ _)
  · -- lst
    cases q <;> simp only [semIx] at e <;> try (cases e; done)
    rename_i xs i
    cases h : atI xs i with
    | none => rw [h] at e; cases e
    | some x =>
      rw [h] at e; cases e
      obtain ⟨a, vs, rfl, h1, h2⟩ := t1
      cases rt_int t2
      obtain ⟨w, h3, h4⟩ := h2.at h
      exact ix_list value slice pins s σ H _ _ vv uu Q I r1 r2 ⟨a, vs, i, w, rfl, rfl, SqL.of h1, h3, fin_fz S h4 k⟩ (hs _ _)
  · -- scr
    cases q <;> simp only [semIx] at e <;> try (cases e; done)
    rename_i ns i
    cases h : atI ns i with
    | none => rw [h] at e; cases e
    | some n =>
      rw [h] at e; cases e
      obtain ⟨a, rfl, h1⟩ := t1
      cases rt_int t2
      have h3 : atI (ns.map V.int) i = some (.int n) := by
        unfold atI at h ⊢
        rw [List.length_map]
        cases q : ixN ns.length i with
        | none => rw [q] at h; cases h
        | some j =>
          rw [q] at h
          simp only [Option.bind_some] at h ⊢
          rw [List.getElem?_map, h]; rfl
      rw [ok.K] at h1
      exact ix_list value slice pins s σ H _ _ vv uu Q I r1 r2 ⟨a, _, i, _, rfl, rfl, h1, h3, fin_int S k⟩ (hs _ _)
  · -- dK
    rename_i ks xs
    simp only [semIx] at e
    cases f1 : keyP q with
    | none => rw [f1] at e; cases e
    | some kk =>
      rw [f1] at e
      obtain ⟨a, o, e1, hg, hl⟩ := look_dget t1 t2 f1
      exact lk (w := r) e1 hg hl e
  · -- dT
    rename_i ks xs
    cases q <;> simp only [semIx] at e <;> try (cases e; done)
    rename_i ps
    cases f1 : keysP ps with
    | none => rw [f1] at e; cases e
    | some kk =>
      rw [f1] at e
      obtain ⟨a, o, e1, hg, hl⟩ := look_dgetT t1 t2 f1
      exact lk (w := r) e1 hg hl e
end
end VL

set_option maxRecDepth 100000
set_option maxHeartbeats 2000000
namespace VL
open PySem PySem.Spec L2
open PyProof.Rows hiding St

/-- readings of settled values, for terms of the layer's readings -/
def tEo (g : Gm) (d : Env' → Res Val) : TE := fun σ H Q => ∃ F env, Stt g F H σ env ∧ Go g F σ (stl d env) fun x env' F' H' => ∀ v, x.old → RV g F' H' σ env' x v → Q v H'
section
variable {X : Cx} {g : Gm} {pins : List (Addr × Obj)} {F H : Hp} {σ : St} {env : Env'} {s : Shared} {a b c : Expr} {da db dc : Env' → Res Val} {pos : Pos}
theorem peo (h : PE X a (tE g da)) : PE X a (tEo g da) := by
  refine ⟨fun pins s σ H Q I ⟨F, env, S, go⟩ => h.run pins s σ H Q I ⟨F, env, S, ?_⟩⟩
  unfold stl at go
  refine (Go.bind go).mono fun x e F' H' e1 S1 k v r => ?_
  exact settle (Q := Q) S1 r fun F2 e2 S2 r2 => k F2 H' e2 S2 v x.stl_old r2

/-! ### slices -/
def cutL {α : Type} (xs : List α) (lo hi : Option Int) : List α := (xs.drop (HT.sIx xs.length 0 lo)).take (HT.sIx xs.length xs.length hi - HT.sIx xs.length 0 lo)
theorem cutL_r {C : Ct} {xs : List PV} {vs : List V} (h : Rs C F xs vs) (lo hi : Option Int) : Rs C F (cutL xs lo hi) (cutV vs lo hi) := by
  unfold cutL cutV
  rw [h.length]
  exact (h.drop _).take _
def semSl (p : PV) (lo hi : Option Int) : Option Val := match p with
  | .lst xs => some (.new (.lst (cutL xs lo hi)))
  | .scr ns => some (.new (.lst ((cutL ns lo hi).map .int)))
  | .tup xs => if ¬ (HT.sIx xs.length 0 lo = 0 ∧ HT.sIx xs.length xs.length hi = xs.length) then some (.fz (.tup (cutL xs lo hi))) else none
  | .str x => if x.length ≤ big then some (.fz (.str (Txt.slice x lo hi))) else none
  | _ => none
def partOf (d : Option (Env' → Res Val)) (e : Env') : Res (Option Int) := match d with
  | none => .ok none e
  | some d => (stl d e).bind fun x e1 => match x with
    | .fz (.int i) => .ok (some i) e1
    | _ => .bad
def dSl (da : Env' → Res Val) (lo hi : Option (Env' → Res Val)) : Env' → Res Val := fun e => (stl da e).bind fun x e1 => (partOf lo e1).bind fun l e2 => (partOf hi e2).bind fun h e3 => match peek x e3 with
  | some p => toVal (semSl p l h) e3
  | none => .bad
/-- a slice's part -/
def tPo (g : Gm) (d : Option (Env' → Res Val)) : TO := fun σ H Q => ∃ F env, Stt g F H σ env ∧ Go g F σ (partOf d env) fun l env' F' H' => Q l H'
theorem poImp {e : Option Expr} {t t' : TO} (h : PO X e t) (k : ∀ σ H Q, t' σ H Q → t σ H Q) : PO X e t' := ⟨fun pins s σ H Q I q => h.run pins s σ H Q I (k σ H Q q)⟩
theorem spo_none : PO X none (tPo g none) := poImp po_none fun σ H Q ⟨F, env, S, go⟩ => go F H (Ex.refl F) S
theorem spo_some (h : PE X a (tE g da)) : PO X (some a) (tPo g (some da)) := poImp (po_some (peo h)) fun σ H Q ⟨F, env, S, go⟩ => ⟨F, env, S, (Go.bind go).mono fun x e F1 H1 e1 S1 k v o r => by
  cases x with
  | bor i => exact k.elim
  | new p => exact k.elim
  | fz p =>
    cases p <;> try exact k.elim
    rename_i i
    have r' : R g.C F1 (.int i) v := r
    unfold R at r'
    exact ⟨i, r', k F1 H1 (Ex.refl F1) S1⟩⟩
def rSlAll (K : PySem.W.Frag) : V → Option Int → Option Int → Hp → VK → Prop := fun x lo hi H Q => rSlL K x lo hi H Q ∨ rSlT K x lo hi H Q ∨ C8.rSlX x lo hi H Q
theorem sl_all : SlR X (rSlAll X.K) := sl_list.or (sl_tup.or C8.sl_txt)
theorem semSl_ok (ok : Ok X g) {p : PV} {v : V} {lo hi : Option Int} {r : Val} {Q : VK} (S : Stt g F H σ env) (t : Rt g.C F H p v) (e : semSl p lo hi = some r)
    (k : ∀ F' H' w, Ex F F' → Stt g F' H' σ env → RV g F' H' σ env r w → Q w H') : rSlAll X.K v lo hi H Q := by
  cases p <;> simp only [semSl] at e <;> try (cases e; done)
  · split at e
    · rename_i hl
      cases e; cases rt_str t
      exact .inr (.inr ⟨_, rfl, by rw [big_eq]; exact hl, fin_str S k⟩)
    · cases e
  · rename_i xs
    split at e
    · rename_i hw'
      cases e
      obtain ⟨a, vs, rfl, h1, h2⟩ := rt_tup t
      refine .inr (.inl ⟨a, vs, rfl, SqT.of h1, by rw [h2.length]; exact hw', fun p hp => fin_tup S hp (cutL_r h2 lo hi) k⟩)
    · cases e
  · cases e
    obtain ⟨a, vs, rfl, h1, h2⟩ := t
    exact .inl ⟨a, vs, rfl, SqL.of h1, fun p hp => fin_lst S hp (cutL_r h2 lo hi) k⟩
  · rename_i ns
    cases e
    obtain ⟨a, rfl, h1⟩ := t
    rw [ok.K] at h1
    refine .inl ⟨a, _, rfl, h1, fun p hp => fin_lst S hp ?_ k⟩
    have e2 : cutV (ns.map V.int) lo hi = (cutL ns lo hi).map V.int := by
      unfold cutV cutL
      rw [List.length_map, List.map_take, List.map_drop]
    rw [e2]
    exact Rs.of_ints _

/-! ### calls on values -/
def intsP : List PV → Option (List Int)
  | [] => some []
  | .int i :: xs => (intsP xs).map (i :: ·)
  | _ => none
def boolsP : List PV → Option (List Bool)
  | [] => some []
  | .bl i :: xs => (boolsP xs).map (i :: ·)
  | _ => none
theorem ints_eq : ∀ {xs : List PV} {ns : List Int}, intsP xs = some ns → xs = ns.map PV.int
  | [], ns, h => by simp only [intsP, Option.some.injEq] at h; subst h; rfl
  | x :: xs, ns, h => by
    cases x <;> simp only [intsP] at h <;> try (cases h; done)
    cases h1 : intsP xs with
    | none => rw [h1] at h; cases h
    | some ms =>
      rw [h1] at h; cases h
      rw [ints_eq h1]; rfl
theorem bools_eq : ∀ {xs : List PV} {ns : List Bool}, boolsP xs = some ns → xs = ns.map PV.bl
  | [], ns, h => by simp only [boolsP, Option.some.injEq] at h; subst h; rfl
  | x :: xs, ns, h => by
    cases x <;> simp only [boolsP] at h <;> try (cases h; done)
    cases h1 : boolsP xs with
    | none => rw [h1] at h; cases h
    | some ms =>
      rw [h1] at h; cases h
      rw [bools_eq h1]; rfl
theorem ints_map (ns : List Int) : intsP (ns.map PV.int) = some ns := by
  induction ns with
  | nil => rfl
  | cons n ns ih => simp only [List.map_cons, intsP, ih, Option.map_some]
theorem bools_map (ns : List Bool) : boolsP (ns.map PV.bl) = some ns := by
  induction ns with
  | nil => rfl
  | cons n ns ih => simp only [List.map_cons, boolsP, ih, Option.map_some]
def maxL : List Int → Int
  | [] => 0
  | [x] => x
  | x :: xs => max x (maxL xs)
def minL : List Int → Int
  | [] => 0
  | [x] => x
  | x :: xs => min x (minL xs)
theorem maxL_mem : ∀ {xs : List Int}, xs ≠ [] → maxL xs ∈ xs ∧ ∀ y ∈ xs, y ≤ maxL xs
  | [], h => absurd rfl h
  | [x], _ => by simp [maxL]
  | x :: y :: r, _ => by
    obtain ⟨h1, h2⟩ := maxL_mem (xs := y :: r) (by simp)
    show max x (maxL (y :: r)) ∈ x :: y :: r ∧ ∀ z ∈ x :: y :: r, z ≤ max x (maxL (y :: r))
    refine ⟨?_, fun z hz => ?_⟩
    · by_cases h : x ≤ maxL (y :: r)
      · rw [Int.max_eq_right h]; exact List.mem_cons_of_mem _ h1
      · rw [Int.max_eq_left (by omega)]; exact List.mem_cons_self
    · rcases List.mem_cons.mp hz with rfl | hz
      · omega
      · have := h2 z hz; omega
theorem minL_mem : ∀ {xs : List Int}, xs ≠ [] → minL xs ∈ xs ∧ ∀ y ∈ xs, minL xs ≤ y
  | [], h => absurd rfl h
  | [x], _ => by simp [minL]
  | x :: y :: r, _ => by
    obtain ⟨h1, h2⟩ := minL_mem (xs := y :: r) (by simp)
    show min x (minL (y :: r)) ∈ x :: y :: r ∧ ∀ z ∈ x :: y :: r, min x (minL (y :: r)) ≤ z
    refine ⟨?_, fun z hz => ?_⟩
    · by_cases h : x ≤ minL (y :: r)
      · rw [Int.min_eq_left h]; exact List.mem_cons_self
      · rw [Int.min_eq_right (by omega)]; exact List.mem_cons_of_mem _ h1
    · rcases List.mem_cons.mp hz with rfl | hz
      · omega
      · have := h2 z hz; omega
def semLen : List PV → Option Val
  | [.lst xs] => some (.fz (.int xs.length))
  | [.tup xs] => some (.fz (.int xs.length))
  | [.scr xs] => some (.fz (.int xs.length))
  | [.dK ks _] => some (.fz (.int ks.length))
  | [.str x] => if x.length ≤ big then some (.fz (.int x.length)) else none
  | _ => none
def semInt : List PV → Option Val
  | [.int i] => some (.fz (.int i))
  | [.bl b] => some (.fz (.int (if b then 1 else 0)))
  | _ => none
def semStr : List PV → Option Val
  | [.int i] => if i.natAbs.log2 < 1920 then some (.fz (.str (toString i))) else none
  | _ => none
def semAbs : List PV → Option Val
  | [.int i] => some (.fz (.int (if i < 0 then -i else i)))
  | _ => none
def semMax : List PV → Option Val
  | [.int i, .int j] => some (.fz (.int (if j > i then j else i)))
  | [.lst xs] => match intsP xs with
    | some (n :: ns) => some (.fz (.int (maxL (n :: ns))))
    | _ => none
  | [.tup xs] => match intsP xs with
    | some (n :: ns) => some (.fz (.int (maxL (n :: ns))))
    | _ => none
  | _ => none
def semMin : List PV → Option Val
  | [.int i, .int j] => some (.fz (.int (if j < i then j else i)))
  | [.lst xs] => match intsP xs with
    | some (n :: ns) => some (.fz (.int (minL (n :: ns))))
    | _ => none
  | _ => none
def semSum : List PV → Option Val
  | [.lst xs] => (intsP xs).map fun ns => .fz (.int ns.sum)
  | _ => none
def semAll : List PV → Option Val
  | [.lst xs] => (boolsP xs).map fun ns => .fz (.bl (ns.all id))
  | _ => none
def semAny : List PV → Option Val
  | [.lst xs] => (boolsP xs).map fun ns => .fz (.bl (ns.any id))
  | _ => none
def semList : List PV → Option Val
  | [.lst xs] => some (.new (.lst xs))
  | [.tup xs] => some (.new (.lst xs))
  | [.scr ns] => some (.new (.lst (ns.map .int)))
  | _ => none
def semTuple : List PV → Option Val
  | [.lst xs] => some (.fz (.tup xs))
  | [.tup xs] => some (.fz (.tup xs))
  | _ => none
theorem rts1 {C : Ct} {p : PV} {vs : List V} (h : Rts C F H [p] vs) : ∃ v, vs = [v] ∧ Rt C F H p v := by
  obtain ⟨v, r, rfl, h1, h2⟩ := h
  have : r = [] := h2
  subst this
  exact ⟨v, rfl, h1⟩
theorem rts2 {C : Ct} {p q : PV} {vs : List V} (h : Rts C F H [p, q] vs) : ∃ v u, vs = [v, u] ∧ Rt C F H p v ∧ Rt C F H q u := by
  obtain ⟨v, r, rfl, h1, h2⟩ := h
  obtain ⟨u, rfl, h3⟩ := rts1 h2
  exact ⟨v, u, rfl, h1, h3⟩
theorem c_len (ok : Ok X g) : OpN X g (fun us => PySem.call (.builtin "len") us) semLen := by
  intro pins s σ F H env ps vs us r Q I S rv t e k
  unfold semLen at e
  split at e
  · cases e
    obtain ⟨v, rfl, h⟩ := rts1 t
    obtain ⟨a, ws, rfl, h1, h2⟩ := h
    exact call_len pins s σ H _ us Q I rv ⟨_, _, rfl, .inl ⟨ws, SqL.of h1, rfl⟩, by rw [h2.length]; exact fin_int S k⟩
  · cases e
    obtain ⟨v, rfl, h⟩ := rts1 t
    obtain ⟨a, ws, rfl, h1, h2⟩ := rt_tup h
    exact call_len pins s σ H _ us Q I rv ⟨_, _, rfl, .inr ⟨ws, SqT.of h1, rfl⟩, by rw [h2.length]; exact fin_int S k⟩
  · cases e
    obtain ⟨v, rfl, h⟩ := rts1 t
    obtain ⟨a, rfl, h1⟩ := h
    rw [ok.K] at h1
    exact call_len pins s σ H _ us Q I rv ⟨_, _, rfl, .inl ⟨_, h1, rfl⟩, by rw [List.length_map]; exact fin_int S k⟩
  · cases e
    obtain ⟨v, rfl, h⟩ := rts1 t
    obtain ⟨a, kvs, rfl, h1, rfl, h2⟩ := h
    rw [Vals.ref1 rv]
    exact d_len I h1 fun t' s' I' => ⟨.int kvs.length, H, I', ⟨_, rfl⟩, by rw [List.length_map] at k; exact fin_int S k⟩
  · split at e
    · rename_i hl
      cases e
      obtain ⟨v, rfl, h⟩ := rts1 t
      cases rt_str h
      exact call_len pins s σ H _ us Q I rv ⟨_, _, rfl, ⟨by rw [big_eq]; exact hl, rfl⟩, fin_int S k⟩
    · cases e
  · cases e
theorem c_int : OpN X g (fun us => PySem.call (.type "int") us) semInt := by
  intro pins s σ F H env ps vs us r Q I S rv t e k
  unfold semInt at e
  split at e
  · cases e
    obtain ⟨v, rfl, h⟩ := rts1 t
    cases rt_int h
    exact call_int1 pins s σ H _ us Q I rv (.inl ⟨_, rfl, fin_int S k⟩)
  · cases e
    obtain ⟨v, rfl, h⟩ := rts1 t
    cases rt_bl h
    exact call_int1 pins s σ H _ us Q I rv (.inr ⟨_, rfl, fin_int S k⟩)
  · cases e
theorem c_str : OpN X g (fun us => PySem.call (.type "str") us) semStr := by
  intro pins s σ F H env ps vs us r Q I S rv t e k
  unfold semStr at e
  split at e
  · split at e
    · rename_i hl
      cases e
      obtain ⟨v, rfl, h⟩ := rts1 t
      cases rt_int h
      exact call_str_int pins s σ H _ us Q I rv ⟨_, rfl, hl, fin_str S k⟩
    · cases e
  · cases e
theorem c_abs : OpN X g (fun us => PySem.call (.builtin "abs") us) semAbs := by
  intro pins s σ F H env ps vs us r Q I S rv t e k
  unfold semAbs at e
  split at e
  · cases e
    obtain ⟨v, rfl, h⟩ := rts1 t
    cases rt_int h
    exact call_abs pins s σ H _ us Q I rv ⟨_, rfl, fin_int S k⟩
  · cases e
theorem sqI {C : Ct} {xs : List PV} {ns : List Int} {v : V} (h : Rt C F H (.lst xs) v) (e : intsP xs = some ns) : ∃ a, v = .ref a ∧ H a = some (.lst (ns.map V.int)) := by
  obtain ⟨a, vs, rfl, h1, h2⟩ := h
  rw [ints_eq e] at h2
  rw [h2.ints_of] at h1
  exact ⟨a, rfl, h1⟩
theorem sqIT {C : Ct} {xs : List PV} {ns : List Int} {v : V} (h : Rt C F H (.tup xs) v) (e : intsP xs = some ns) : ∃ a, v = .ref a ∧ H a = some (.tup (ns.map V.int)) := by
  obtain ⟨a, vs, rfl, h1, h2⟩ := rt_tup h
  rw [ints_eq e] at h2
  rw [h2.ints_of] at h1
  exact ⟨a, rfl, h1⟩
theorem sqB {C : Ct} {xs : List PV} {ns : List Bool} {v : V} (h : Rt C F H (.lst xs) v) (e : boolsP xs = some ns) : ∃ a, v = .ref a ∧ H a = some (.lst (ns.map V.bl)) := by
  obtain ⟨a, vs, rfl, h1, h2⟩ := h
  rw [bools_eq e] at h2
  rw [h2.bls_of] at h1
  exact ⟨a, rfl, h1⟩
theorem c_sum (ok : Ok X g) : OpN X g (fun us => PySem.call (.builtin "sum") us) semSum := by
  intro pins s σ F H env ps vs us r Q I S rv t e k
  unfold semSum at e
  split at e
  · rename_i xs
    cases h1 : intsP xs with
    | none => rw [h1] at e; cases e
    | some ns =>
      rw [h1] at e; cases e
      obtain ⟨v, rfl, h⟩ := rts1 t
      obtain ⟨a, rfl, h2⟩ := sqI h h1
      exact cr_sum ok.calm pins s σ H _ us Q I rv ⟨a, ns, rfl, SqL.of h2, fin_int S k⟩
  · cases e
theorem c_all (ok : Ok X g) : OpN X g (fun us => PySem.call (.builtin "all") us) semAll := by
  intro pins s σ F H env ps vs us r Q I S rv t e k
  unfold semAll at e
  split at e
  · rename_i xs
    cases h1 : boolsP xs with
    | none => rw [h1] at e; cases e
    | some ns =>
      rw [h1] at e; cases e
      obtain ⟨v, rfl, h⟩ := rts1 t
      obtain ⟨a, rfl, h2⟩ := sqB h h1
      exact cr_all ok.calm pins s σ H _ us Q I rv ⟨a, ns, rfl, SqL.of h2, fin_bl S k⟩
  · cases e
theorem c_any (ok : Ok X g) : OpN X g (fun us => PySem.call (.builtin "any") us) semAny := by
  intro pins s σ F H env ps vs us r Q I S rv t e k
  unfold semAny at e
  split at e
  · rename_i xs
    cases h1 : boolsP xs with
    | none => rw [h1] at e; cases e
    | some ns =>
      rw [h1] at e; cases e
      obtain ⟨v, rfl, h⟩ := rts1 t
      obtain ⟨a, rfl, h2⟩ := sqB h h1
      exact cr_any ok.calm pins s σ H _ us Q I rv ⟨a, ns, rfl, SqL.of h2, fin_bl S k⟩
  · cases e
/-- max of a tuple of intsP -/
theorem iter_intTup {A : Around} {E : Value → Shared → Prop} {s : Shared} {l : Addr} {xs : Array (Int × Tok)} {Q : Value → Shared → Prop} (hl : s.heap.IsTuple l (intItems xs))
    (h : ∀ s₂ : Shared, s₂ = { s with heap := s.heap.push { cls := .type "tuple_iterator", data := .fields #[.ref l, .int 0 0] } } →
      (s₂.heap.IsTupleIter s.heap.objs.size l 0 ∧ s₂.heap.IsTuple l (intItems xs)) → (∀ b ∈ [s.heap.objs.size, l], b < s₂.heap.objs.size) → l ≠ s.heap.objs.size → Q (.ref s.heap.objs.size) s₂) :
    wpAny (model X.prog X.w) A (pyIter (.ref l)) Q E s := by
  have hlt : l < s.heap.objs.size := by obtain ⟨_, e, _⟩ := hl; exact Heap.lt_size e
  refine wpAny_pyIter_tuple hl (h _ rfl ⟨⟨_, Heap.get?_push_size _ rfl, rfl, rfl⟩, hl.push _⟩ (fun b hb => ?_) (Nat.ne_of_lt hlt))
  show b < (s.heap.push _).objs.size
  rw [Heap.size_push]
  rcases List.mem_cons.mp hb with rfl | hb
  · exact Nat.lt_succ_self _
  · rcases List.mem_cons.mp hb with rfl | hb
    · exact Nat.lt_succ_of_lt hlt
    · cases hb
theorem old_keptT {s : Shared} {l : Addr} {h' : Heap} (hk : ∀ b o, b ∉ [s.heap.objs.size] → (s.heap.push { cls := .type "tuple_iterator", data := .fields #[.ref l, .int 0 0] }).get? b = some o → h'.get? b = some o) :
    ∀ b o, s.heap.get? b = some o → h'.get? b = some o := fun b o e => by
  refine hk b o (fun hm => ?_) (Heap.get?_push_of_some _ e)
  rcases List.mem_cons.mp hm with e1 | hm
  · exact absurd (e1 ▸ Heap.lt_size e) (Nat.lt_irrefl _)
  · cases hm
theorem max_intTup {A : Around} {E : Value → Shared → Prop} {s : Shared} {l : Addr} {xs : Array (Int × Tok)} {Q : Value → Shared → Prop} (hh : A.handled = none) (hl : s.heap.IsTuple l (intItems xs)) (hne : 0 < xs.size)
    (h : ∀ v h' tk, (intItems xs)[argBest (fun i j => decide (numAt xs i > numAt xs j)) (xs.size - 1)]? = some v → (∀ b o, s.heap.get? b = some o → h'.get? b = some o) → Q v { s with heap := h', toks := tk }) :
    wpAny (model X.prog X.w) A (PySem.call (.builtin "max") [.ref l]) Q E s := by
  refine call_max_walk (iter_intTup hl fun s₂ e st hfp hlI => ?_)
  subst e
  refine ⟨_, _, _, _, _, _, _, rfl, Walks.tuple (A := A.in1) hh _ l hlI (intItems xs), st, hfp, by simpa [intItems] using hne, CmpOf.ints_gt (numAt xs) (fun _ _ => intItems_at), fun v h' tk hP hk => ?_⟩
  exact h v h' tk (by simpa [intItems] using hP) (old_keptT hk)
theorem max_rawT {A : Around} {E : Value → Shared → Prop} {s : Shared} {l : Addr} {its : List Value} {ns : List Int} {Q : Value → Shared → Prop} (hh : A.handled = none) (hl : s.heap.IsTuple l its.toArray) (hi : IntsAre its ns) (hne : 0 < ns.length)
    (h : ∀ h' tk M t', (∀ b o, s.heap.get? b = some o → h'.get? b = some o) → M ∈ ns → (∀ a, a ∈ ns → a ≤ M) → Q (.int M t') { s with heap := h', toks := tk }) : wpAny (model X.prog X.w) A (PySem.call (.builtin "max") [.ref l]) Q E s := by
  obtain ⟨xs, e⟩ := hi.allInts.items
  have hn : numsOf (intItems xs).toList = ns := by rw [← e]; exact hi.numsOf
  rw [nums_intItems] at hn
  subst hn
  rw [e] at hl
  have hsz : 0 < xs.size := by simpa using hne
  refine max_intTup hh hl hsz fun v h' tk hv hk => ?_
  obtain ⟨t, rfl⟩ := intItems_at hv
  obtain ⟨h1, h2⟩ := argBest_gt (numAt xs) (xs.size - 1)
  refine h h' tk _ t hk ?_ fun a ha => ?_
  · rw [numAt_eq]; exact PySem.getD_mem (by rw [List.length_map, Array.length_toList]; omega)
  · obtain ⟨j, hj, rfl⟩ := mem_getD ha
    rw [List.length_map, Array.length_toList] at hj
    rw [← numAt_eq]; exact h2 j (by omega)
theorem max_uniq {ns : List Int} {m : Int} (h1 : m ∈ ns) (h2 : ∀ y ∈ ns, y ≤ m) : m = maxL ns := by
  have hn : ns ≠ [] := fun z => by rw [z] at h1; cases h1
  obtain ⟨a, b⟩ := maxL_mem hn
  have c1 := h2 _ a
  have c2 := b _ h1
  omega
theorem min_uniq {ns : List Int} {m : Int} (h1 : m ∈ ns) (h2 : ∀ y ∈ ns, m ≤ y) : m = minL ns := by
  have hn : ns ≠ [] := fun z => by rw [z] at h1; cases h1
  obtain ⟨a, b⟩ := minL_mem hn
  have c1 := h2 _ a
  have c2 := b _ h1
  omega
theorem c_max (ok : Ok X g) : OpN X g (fun us => PySem.call (.builtin "max") us) semMax := by
  intro pins s σ F H env ps vs us r Q I S rv t e k
  unfold semMax at e
  split at e
  · cases e
    obtain ⟨v, u, rfl, h1, h2⟩ := rts2 t
    cases rt_int h1; cases rt_int h2
    exact call_max2 ok.calm pins s σ H _ us Q I rv ⟨_, _, rfl, fin_int S k⟩
  · rename_i xs
    split at e
    · rename_i n ns h1
      cases e
      obtain ⟨v, rfl, h⟩ := rts1 t
      obtain ⟨a, rfl, h2⟩ := sqI h h1
      exact cr_max ok.calm pins s σ H _ us Q I rv ⟨a, n :: ns, rfl, SqL.of h2, by simp, fun m m1 m2 => by rw [max_uniq m1 m2]; exact fin_int S k⟩
    · cases e
  · rename_i xs
    split at e
    · rename_i n ns h1
      cases e
      obtain ⟨v, rfl, h⟩ := rts1 t
      obtain ⟨a, rfl, h2⟩ := sqIT h h1
      obtain ⟨its, r1, p1, _⟩ := I.tuple (SqT.of h2)
      rw [Vals.ref1 rv]
      refine max_rawT (I.ok.hd ok.calm) p1 r1.ints (by simp) fun h' tk m t' hk m1 m2 => ⟨.int m, H, I.kept hk, ⟨_, rfl⟩, ?_⟩
      rw [max_uniq m1 m2]; exact fin_int S k
    · cases e
  · cases e
theorem c_min (ok : Ok X g) : OpN X g (fun us => PySem.call (.builtin "min") us) semMin := by
  intro pins s σ F H env ps vs us r Q I S rv t e k
  unfold semMin at e
  split at e
  · cases e
    obtain ⟨v, u, rfl, h1, h2⟩ := rts2 t
    cases rt_int h1; cases rt_int h2
    exact call_min2 ok.calm pins s σ H _ us Q I rv ⟨_, _, rfl, fin_int S k⟩
  · rename_i xs
    split at e
    · rename_i n ns h1
      cases e
      obtain ⟨v, rfl, h⟩ := rts1 t
      obtain ⟨a, rfl, h2⟩ := sqI h h1
      exact cr_min ok.calm pins s σ H _ us Q I rv ⟨a, n :: ns, rfl, SqL.of h2, by simp, fun m m1 m2 => by rw [min_uniq m1 m2]; exact fin_int S k⟩
    · cases e
  · cases e
theorem c_list (ok : Ok X g) : OpN X g (fun us => PySem.call (.type "list") us) semList := by
  intro pins s σ F H env ps vs us r Q I S rv t e k
  unfold semList at e
  split at e
  · cases e
    obtain ⟨v, rfl, h⟩ := rts1 t
    obtain ⟨a, ws, rfl, h1, h2⟩ := h
    exact call_list_of pins s σ H _ us Q I rv ⟨a, ws, rfl, .inl (SqL.of h1), fun l hl => fin_lst S hl h2 k⟩
  · cases e
    obtain ⟨v, rfl, h⟩ := rts1 t
    obtain ⟨a, ws, rfl, h1, h2⟩ := rt_tup h
    exact call_list_of pins s σ H _ us Q I rv ⟨a, ws, rfl, .inr (SqT.of h1), fun l hl => fin_lst S hl h2 k⟩
  · cases e
    obtain ⟨v, rfl, h⟩ := rts1 t
    obtain ⟨a, rfl, h1⟩ := h
    rw [ok.K] at h1
    exact call_list_of pins s σ H _ us Q I rv ⟨a, _, rfl, .inl h1, fun l hl => fin_lst S hl (Rs.of_ints _) k⟩
  · cases e
theorem c_tuple : OpN X g (fun us => PySem.call (.type "tuple") us) semTuple := by
  intro pins s σ F H env ps vs us r Q I S rv t e k
  unfold semTuple at e
  split at e
  · cases e
    obtain ⟨v, rfl, h⟩ := rts1 t
    obtain ⟨a, ws, rfl, h1, h2⟩ := h
    exact call_tuple_of pins s σ H _ us Q I rv ⟨a, ws, rfl, .inl ⟨SqL.of h1, fun l hl => fin_tup S hl h2 k⟩⟩
  · cases e
    obtain ⟨v, rfl, h⟩ := rts1 t
    obtain ⟨a, ws, rfl, h1, h2, h3⟩ := h
    exact call_tuple_of pins s σ H _ us Q I rv ⟨a, ws, rfl, .inr ⟨SqT.of h1, fin_fz S (by unfold R; exact ⟨a, ws, rfl, h3, h2⟩) k⟩⟩
  · cases e
end
end VL

set_option maxRecDepth 100000
set_option maxHeartbeats 2000000
namespace VL
open PySem PySem.Spec L2
open PyProof.Rows hiding St

section
variable {X : Cx} {g : Gm} {pins : List (Addr × Obj)} {F H F' H' : Hp} {σ : St} {env env' : Env'} {s : Shared} {a b c : Expr} {da db dc : Env' → Res Val} {pos : Pos}
theorem se_slice {lo hi : Option Expr} {p2 : Pos} {dl dh : Option (Env' → Res Val)} (ok : Ok X g) (ha : PE X a (tE g da)) (hl : PO X lo (tPo g dl)) (hh : PO X hi (tPo g dh)) : PE X (.Subscript a (.Slice lo hi none p2) pos) (tE g (dSl da dl dh)) :=
  peImp (pe_slice sl_all (peo ha) hl hh) fun σ H Q ⟨F, env, S, go⟩ => ⟨F, env, S, (Go.bind go).mono fun x e1 F1 H1 x1 S1 k v o r =>
    ⟨F1, e1, S1, (Go.bind k).mono fun l e2 F2 H2 x2 S2 k2 => ⟨F2, e2, S2, (Go.bind k2).mono fun h e3 F3 H3 x3 S3 k3 => by
      cases hp : peek x e3 with
      | none => simp only [hp] at k3; exact k3.elim
      | some p =>
        simp only [hp] at k3
        have rt := peek_ok S3 (r.later o (x2.trans x3)) hp
        cases hs : semSl p l h with
        | none => rw [hs] at k3; exact k3.elim
        | some w =>
          rw [hs] at k3
          exact semSl_ok ok S3 rt hs fun F4 H4 u x4 S4 ru => k3 F4 H4 x4 S4 u ru⟩⟩⟩
/-- x[::-1] of a list -/
def dRev (da : Env' → Res Val) : Env' → Res Val := fun e => (stl da e).bind fun x e1 => match peek x e1 with
  | some (.lst xs) => .ok (.new (.lst xs.reverse)) e1
  | _ => .bad
theorem se_rev {k : Nat} {p1 p2 p3 : Pos} (ha : PE X a (tE g da)) : PE X (.Subscript a (.Slice none none (some (.UnaryOp .USub (.Constant (.int 1) k p1) p2)) p3) pos) (tE g (dRev da)) :=
  peImp (pe_revL (peo ha)) fun σ H Q ⟨F, env, S, go⟩ => ⟨F, env, S, (Go.bind go).mono fun x e1 F1 H1 x1 S1 k v o r => by
    cases hp : peek x e1 with
    | none => simp only [hp] at k; exact k.elim
    | some p =>
      simp only [hp] at k
      cases p <;> try exact k.elim
      obtain ⟨a, vs, rfl, h1, h2⟩ := peek_ok S1 r hp
      exact ⟨a, vs, rfl, SqL.of h1, fun p hp => fin_lst S1 hp h2.reverse fun F4 H4 u x4 S4 ru => k F4 H4 x4 S4 u ru⟩⟩

/-! ### fields -/
/-- what a class must be -/
structure ClsOk (C : Ct) (c : Nat) : Prop where
  cls : Cls C.K (C.ad c)
  no : ∀ f ∈ C.L c, NoAttr C.K (C.ad c) (C.nm f)
  nd : (C.fl c).Nodup
def fldP (C : Ct) (c f : Nat) (xs : List PV) : Option PV := ((C.L c).idxOf? f).bind fun i => xs[i]?
theorem idx_name {C : Ct} {c f i : Nat} (h : (C.L c).idxOf? f = some i) : (C.fl c)[i]? = some (C.nm f) ∧ f ∈ C.L c := by
  have h' := List.findIdx?_eq_some_iff_getElem.mp h
  obtain ⟨hl, he, _⟩ := h'
  have e : (C.L c)[i] = f := by simpa using he
  refine ⟨?_, ?_⟩
  · unfold Ct.fl
    rw [List.getElem?_map, List.getElem?_eq_getElem hl, e]; rfl
  · rw [← e]; exact List.getElem_mem hl
theorem nodup_idx {l : List Str} (h : l.Nodup) {i j : Nat} {x : Str} (a : l[i]? = some x) (b : l[j]? = some x) : i = j := nodup_ix h a b
theorem lookup_at : ∀ {fs : List (Str × V)} {i : Nat} {n : Str} {v : V}, (fs.map Prod.fst).Nodup → fs[i]? = some (n, v) → fs.lookup n = some v
  | [], i, n, v, _, h => by simp at h
  | (m, w) :: fs, 0, n, v, _, h => by
    simp only [List.getElem?_cons_zero, Option.some.injEq, Prod.mk.injEq] at h
    obtain ⟨rfl, rfl⟩ := h
    simp [List.lookup]
  | (m, w) :: fs, i + 1, n, v, hn, h => by
    simp only [List.getElem?_cons_succ] at h
    simp only [List.map_cons, List.nodup_cons] at hn
    have hne : (n == m) = false := by
      rw [beq_eq_false_iff_ne]
      intro e
      apply hn.1
      rw [← e]
      exact List.mem_map.mpr ⟨(n, v), List.mem_of_getElem? h, rfl⟩
    show (match n == m with | true => some w | false => fs.lookup n) = some v
    rw [hne]
    exact lookup_at hn.2 h
theorem fld_look {C : Ct} {c f : Nat} {xs : List PV} {fs : List (Str × V)} {x : PV} (ok : ClsOk C c) (hk : fs.map Prod.fst = (C.fl c).take xs.length) (r : Rs C F xs (fs.map Prod.snd)) (h : fldP C c f xs = some x) :
    ∃ v, fs.lookup (C.nm f) = some v ∧ R C F x v ∧ f ∈ C.L c := by
  unfold fldP at h
  cases hi : (C.L c).idxOf? f with
  | none => rw [hi] at h; cases h
  | some i =>
    rw [hi] at h
    simp only [Option.bind_some] at h
    obtain ⟨h1, h2⟩ := idx_name hi
    obtain ⟨v, h3, h4⟩ := r.get h
    have hlt : i < xs.length := (List.getElem?_eq_some_iff.mp h).1
    have e1 : (fs.map Prod.fst)[i]? = some (C.nm f) := by
      rw [hk, List.getElem?_take_of_lt hlt]; exact h1
    have e2 : fs[i]? = some (C.nm f, v) := by
      rw [List.getElem?_map] at e1 h3
      cases q : fs[i]? with
      | none => rw [q] at e1; cases e1
      | some z =>
        rw [q] at e1 h3
        simp only [Option.map_some, Option.some.injEq] at e1 h3
        rw [← e1, ← h3]
    refine ⟨v, lookup_at ?_ e2, h4, h2⟩
    rw [hk]
    exact (List.take_sublist _ _).nodup ok.nd
def dFld (C : Ct) (f : Nat) (da : Env' → Res Val) : Env' → Res Val := fun e => (stl da e).bind fun x e1 => match peek x e1 with
  | some (.ins c xs) => match fldP C c f xs with
    | some p => .ok (.fz p) e1
    | none => .bad
  | _ => .bad
theorem se_fld {f : Nat} (ok : Ok X g) (co : ∀ c, ClsOk g.C c) (ha : PE X a (tE g da)) (hb : attributeBase a (g.C.nm f) X.env (eval a X.env) = eval a X.env) : PE X (.Attribute a (g.C.nm f) pos) (tE g (dFld g.C f da)) :=
  peImp (pe_fld (peo ha) hb) fun σ H Q ⟨F, env, S, go⟩ => ⟨F, env, S, (Go.bind go).mono fun x e1 F1 H1 x1 S1 k v o r => by
    cases hp : peek x e1 with
    | none => simp only [hp] at k; exact k.elim
    | some p =>
      simp only [hp] at k
      cases p <;> try exact k.elim
      rename_i c xs
      simp only at k
      cases hf : fldP g.C c f xs with
      | none => simp only [hf] at k; exact k.elim
      | some y =>
        simp only [hf] at k
        obtain ⟨a, dx, fs, rfl, h1, h2, h3⟩ := peek_ok S1 r hp
        obtain ⟨w, l1, l2, l3⟩ := fld_look (co c) h2 h3 hf
        refine ⟨a, g.C.ad c, dx, fs, w, rfl, h1, ?_, ?_, l1, k F1 H1 (Ex.refl F1) S1 w l2⟩
        · rw [← ok.K]; exact (co c).cls
        · rw [← ok.K]; exact (co c).no f l3⟩
/-! ### methods of built-in types -/
def kd : PV → String
  | .str _ => "str"
  | .lst _ => "list"
  | .dK _ _ => "dict"
  | .dT _ _ => "dict"
  | _ => ""
theorem kd_is (ok : Ok X g) {p : PV} {v : V} {vv : Value} {T : String} (I : Inv X pins σ H s) (r : RelV v vv) (t : Rt g.C F H p v) (e : kd p = T) (hT : T ≠ "") :
    s.TypeIs vv T ∧ ∀ a, vv = .ref a → ∃ ob, s.heap.get? a = some ob ∧ ob.dict = none := by
  subst e
  cases p <;> try (exact absurd rfl hT)
  · cases rt_str t
    exact tyV_is (T := "str") I r rfl
  · obtain ⟨a, vs, rfl, h1, h2⟩ := t
    exact tyV_is (T := "list") I r (.inl ⟨rfl, vs, SqL.of h1⟩)
  · obtain ⟨a, kvs, rfl, h1, _⟩ := t
    obtain rfl : vv = Value.ref a := r
    obtain ⟨h2, h3, _⟩ := isD_at I (.inl ⟨kvs, h1⟩)
    exact ⟨h2, h3⟩
  · obtain ⟨a, kvs, rfl, h1, _⟩ := t
    obtain rfl : vv = Value.ref a := r
    obtain ⟨h2, h3, _⟩ := isD_at I (.inr ⟨kvs, h1⟩)
    exact ⟨h2, h3⟩
/-- a method that reads -/
structure MRule (X : Cx) (g : Gm) (T : String) (name : Str) (sem : PV → List PV → Option Val) : Prop where
  ne : T ≠ ""
  ex : ∃ id, PlainAttrs T ∧ Slot T name id ∧ typeOf (.builtin id) = pure (.type "method_descriptor") ∧
    ∀ (pins : List (Addr × Obj)) (s : Shared) (σ : St) (F H : Hp) (env : Env') (p : PV) (ps : List PV) (v : V) (vs : List V) (vv : Value) (us : List Value) (r : Val) (Q : VK), Inv X pins σ H s → Stt g F H σ env → RelV v vv → Vals vs us → Rt g.C F H p v → Rts g.C F H ps vs → kd p = T → sem p ps = some r →
    (∀ F' H' w, Ex F F' → Stt g F' H' σ env → RV g F' H' σ env r w → Q w H') → wpAny (model X.prog X.w) X.A (PySem.call (.builtin id) (vv :: us)) (EP X pins σ Q) X.xe s
def dMeth (T : String) (sem : PV → List PV → Option Val) (da : Env' → Res Val) (ds : List (Env' → Res Val)) : Env' → Res Val := fun e => (stl da e).bind fun x e1 => if (peek x e1).map kd = some T then
    (dArgs ds e1).bind fun xs e2 => match peek x e2, peeks e2 xs with
      | some p, some ps => if kd p = T then toVal (sem p ps) e2 else .bad
      | _, _ => .bad
  else .bad
theorem meth_fin {T : String} {name : Str} {sem : PV → List PV → Option Val} {id : String} (run : ∀ (pins : List (Addr × Obj)) (s : Shared) (σ : St) (F H : Hp) (env : Env') (p : PV) (ps : List PV) (v : V) (vs : List V) (vv : Value) (us : List Value) (r : Val) (Q : VK), Inv X pins σ H s → Stt g F H σ env → RelV v vv → Vals vs us → Rt g.C F H p v → Rts g.C F H ps vs → kd p = T → sem p ps = some r →
    (∀ F' H' w, Ex F F' → Stt g F' H' σ env → RV g F' H' σ env r w → Q w H') → wpAny (model X.prog X.w) X.A (PySem.call (.builtin id) (vv :: us)) (EP X pins σ Q) X.xe s)
    {x : Val} {xs : List Val} {v : V} {vs : List V} {vv : Value} {us : List Value} {Q : VK} (I : Inv X pins σ H s) (S : Stt g F H σ env) (r1 : RelV v vv) (r2 : Vals vs us) (t1 : RV g F H σ env x v) (t2 : RVs g F H σ env xs vs)
    (go : Go g F σ (match peek x env, peeks env xs with | some p, some ps => if kd p = T then toVal (sem p ps) env else .bad | _, _ => .bad) fun x env' F' H' => ∀ v, RV g F' H' σ env' x v → Q v H') :
    wpAny (model X.prog X.w) X.A (PySem.call (.builtin id) (vv :: us)) (EP X pins σ Q) X.xe s := by
  cases e1 : peek x env with
  | none => simp only [e1] at go; exact go.elim
  | some p =>
    cases e2 : peeks env xs with
    | none => simp only [e1, e2] at go; exact go.elim
    | some ps =>
      simp only [e1, e2] at go
      split at go
      · rename_i hk
        cases e3 : sem p ps with
        | none => rw [e3] at go; exact go.elim
        | some r =>
          rw [e3] at go
          exact run pins s σ F H env p ps v vs vv us r Q I S r1 r2 (peek_ok S t1 e1) (peeks_ok S t2 e2) hk e3 fun F' H' w ex S' rv => go F' H' ex S' w rv
      · exact go.elim
section
variable {o e : Expr} {es : List Expr} {ds : List (Env' → Res Val)} {name : Str} {apos cpos : Pos} {T : String} {sem : PV → List PV → Option Val}
theorem se_meth (ok : Ok X g) (M : MRule X g T name sem) (ho : PE X o (tE g da)) (ha : PA X (e :: es) (tAs g (dArgs ds)))
    (hbase : attributeBase o name X.env (eval o X.env) = eval o X.env)
    (hfew : ((backTo cpos (starEach (e :: es) X.env)).all (fun x => !x.1) && (backToKw cpos (keywordEach [] X.env)).all (fun x => x.1.isSome)
      && decide ((e :: es).length + ([] : List Keyword).length + (if ([] : List Keyword).isEmpty then 0 else 1) < 30)) = true)
    (hline : (apos.endLine == cpos.line) = true) (hs : starEach (e :: es) X.env = (false, eval e X.env) :: starEach es X.env) (hplain : (backTo cpos (starEach es X.env)).any (·.1) = false) :
    PE X (.Call (.Attribute o name apos) (e :: es) [] cpos) (tE g (dMeth T sem da ds)) := by
  obtain ⟨id, pa, slot, hty, run⟩ := M.ex
  refine ⟨fun pins s σ H Q I ⟨F, env, S, go⟩ => ?_⟩
  refine wpAny_Call_method_late hbase hfew hline rfl (thn (peGo ho I S go) fun v s1 ⟨v', H1, I1, r1, F1, e1, x, x1, S1, o1, rv1, go1⟩ => ?_)
  dsimp only at go1
  split at go1
  · rename_i hk
    cases hp : peek x e1 with
    | none => rw [hp] at hk; cases hk
    | some p =>
      rw [hp] at hk
      simp only [Option.map_some, Option.some.injEq] at hk
      obtain ⟨h1, h2⟩ := kd_is ok I1 r1 (peek_ok S1 rv1 hp) hk M.ne
      refine ⟨T, id, pa, slot, hty, h1, h2, ?_⟩
      have hA := paGo ha cpos I1 S1 go1
      rw [hs] at hA ⊢
      refine Calls.callWith_builtin (by show (false || (backTo cpos (starEach es X.env)).any (·.1)) = false; rw [hplain] <;> rfl) (Calls.evalArgs_plain ?_)
      exact thn hA fun us s2 ⟨vs, H2, I2, r2, F2, e2, xs, x2, S2, o2, rv2, go2⟩ => meth_fin (name := name) run I2 S2 r1 r2 (rv1.later o1 x2) rv2 go2
  · exact go1.elim
theorem se_meth0 (ok : Ok X g) (M : MRule X g T name sem) (ho : PE X o (tE g da))
    (hbase : attributeBase o name X.env (eval o X.env) = eval o X.env) (hline : (apos.endLine == cpos.line) = true) : PE X (.Call (.Attribute o name apos) [] [] cpos) (tE g (dMeth T sem da [])) := by
  obtain ⟨id, pa, slot, hty, run⟩ := M.ex
  refine ⟨fun pins s σ H Q I ⟨F, env, S, go⟩ => ?_⟩
  refine wpAny_Call_method0_late hbase hline (thn (peGo ho I S go) fun v s1 ⟨v', H1, I1, r1, F1, e1, x, x1, S1, o1, rv1, go1⟩ => ?_)
  dsimp only at go1
  split at go1
  · rename_i hk
    cases hp : peek x e1 with
    | none => rw [hp] at hk; cases hk
    | some p =>
      rw [hp] at hk
      simp only [Option.map_some, Option.some.injEq] at hk
      obtain ⟨h1, h2⟩ := kd_is ok I1 r1 (peek_ok S1 rv1 hp) hk M.ne
      refine ⟨T, id, pa, slot, hty, h1, h2, Calls.callWith_builtin rfl (PySem.evalArgs_none ?_)⟩
      exact meth_fin (name := name) (xs := []) (vs := []) (us := []) run I1 S1 r1 .nil rv1 rfl go1
  · exact go1.elim
end
end
end VL

set_option maxRecDepth 100000
set_option maxHeartbeats 2000000
namespace VL
open PySem PySem.Spec L2
open PyProof.Rows hiding St

/-! ### statements -/
inductive Fl where
  | nx | bk | ct | rt (x : Val)
def GoS (g : Gm) (F : Hp) (r : Res Fl) (D : Ends) : Prop := match r with
  | .bad => False
  | .err x e => ∀ F' H' σ', Ex F F' → Stt g F' H' σ' e → g.W x e σ' F' H'
  | .ok .nx e => ∀ F' H' σ', Ex F F' → Stt g F' H' σ' e → D.nx σ' H'
  | .ok .bk e => ∀ F' H' σ', Ex F F' → Stt g F' H' σ' e → D.bk σ' H'
  | .ok .ct e => ∀ F' H' σ', Ex F F' → Stt g F' H' σ' e → D.ct σ' H'
  | .ok (.rt x) e => ∀ F' H' σ' v, Ex F F' → Stt g F' H' σ' e → RV g F' H' σ' e x v → D.rt v H'
def tS (g : Gm) (d : Env' → Res Fl) : TS := fun D σ H => ∃ F env, Stt g F H σ env ∧ GoS g F (d env) D

section
variable {X : Cx} {g : Gm} {pins : List (Addr × Obj)} {F H F' H' : Hp} {σ : St} {env env' : Env'} {s : Shared} {a b c : Expr} {da db dc : Env' → Res Val} {pos : Pos} {D : Ends} {d1 d2 : Env' → Res Fl}
theorem GoS.up {r : Res Fl} (go : GoS g F r D) (e : Ex F F') : GoS g F' r D := by
  cases r with
  | bad => exact go
  | err x e' => exact fun F2 H2 σ2 e2 S2 => go F2 H2 σ2 (e.trans e2) S2
  | ok x e' => cases x with
    | nx => exact fun F2 H2 σ2 e2 S2 => go F2 H2 σ2 (e.trans e2) S2
    | bk => exact fun F2 H2 σ2 e2 S2 => go F2 H2 σ2 (e.trans e2) S2
    | ct => exact fun F2 H2 σ2 e2 S2 => go F2 H2 σ2 (e.trans e2) S2
    | rt x => exact fun F2 H2 σ2 v e2 S2 => go F2 H2 σ2 v (e.trans e2) S2
/-- an expression ahead -/
theorem GoS.bindE {α : Type} {r : Res α} {f : α → Env' → Res Fl} (h : GoS g F (r.bind f) D) : Go g F σ r fun x e F' H' => GoS g F' (f x e) D := by
  cases r with
  | bad => exact h
  | err x e => exact fun F2 H2 e2 S2 => h F2 H2 σ e2 S2
  | ok x e => exact fun F2 H2 e2 S2 => GoS.up h e2
def dSeq (d1 d2 : Env' → Res Fl) : Env' → Res Fl := fun e => (d1 e).bind fun f e' => match f with
  | .nx => d2 e'
  | x => .ok x e'
theorem GoS.seq (h : GoS g F (dSeq d1 d2 env) D) : GoS g F (d1 env) { D with nx := tS g d2 D } := by
  unfold dSeq at h
  cases e : d1 env with
  | bad => rw [e] at h; exact h
  | err x e' => rw [e] at h; exact h
  | ok x e' =>
    rw [e] at h
    cases x with
    | nx => exact fun F2 H2 σ2 e2 S2 => ⟨F2, e', S2, GoS.up h e2⟩
    | bk => exact h
    | ct => exact h
    | rt x => exact h
theorem ss_nil : PSs X [] (tS g fun e => .ok .nx e) := pssImp pss_nil fun D σ H ⟨F, env, S, go⟩ => go F H σ (Ex.refl F) S
theorem ss_cons {st : Stmt} {r : List Stmt} (h1 : PS X st (tS g d1)) (h2 : PSs X r (tS g d2)) : PSs X (st :: r) (tS g (dSeq d1 d2)) :=
  pssImp (pss_cons h1 h2) fun D σ H ⟨F, env, S, go⟩ => ⟨F, env, S, go.seq⟩
theorem ss_one {st : Stmt} (h1 : PS X st (tS g d1)) : PSs X [st] (tS g d1) := pss_one h1
theorem ss_pass : PS X (.Pass pos) (tS g fun e => .ok .nx e) := psImp ps_pass fun D σ H ⟨F, env, S, go⟩ => go F H σ (Ex.refl F) S
theorem ss_break : PS X (.Break pos) (tS g fun e => .ok .bk e) := psImp ps_break fun D σ H ⟨F, env, S, go⟩ => go F H σ (Ex.refl F) S
theorem ss_continue : PS X (.Continue pos) (tS g fun e => .ok .ct e) := psImp ps_continue fun D σ H ⟨F, env, S, go⟩ => go F H σ (Ex.refl F) S
def dExpr (d : Env' → Res Val) : Env' → Res Fl := fun e => (d e).bind fun _ e' => .ok .nx e'
theorem ss_expr (he : PE X a (tE g da)) (hs : swapsWith a none pos.line X.env = pure false) : PS X (.Expr a pos) (tS g (dExpr da)) :=
  psImp (ps_expr he hs) fun D σ H ⟨F, env, S, go⟩ => ⟨F, env, S, (GoS.bindE (σ := σ) go).mono fun x e F' H' x1 S1 k v r => k F' H' σ (Ex.refl F') S1⟩
def dDoc : Env' → Res Fl := fun e => .ok .nx e
theorem ss_doc {x j pos pos'} : PS X (.Expr (.Constant (.str x) j pos) pos') (tS g dDoc) := psImp ps_doc fun D σ H ⟨F, env, S, go⟩ => go F H σ (Ex.refl F) S
/-- what a return gives -/
def retV (x : Val) (e : Env') : Res Fl := match x with
  | .bor i => match e[i]? with
    | some (.fz p) => .ok (.rt (.fz p)) e
    | some (.ow true p) => .ok (.rt (.new p)) (e.set i .no)
    | _ => .bad
  | x => .ok (.rt x) e
def dRet (d : Env' → Res Val) : Env' → Res Fl := fun e => (d e).bind retV
theorem retV_go {x : Val} {v : V} (S : Stt g F H σ env) (r : RV g F H σ env x v) (go : GoS g F (retV x env) D) : D.rt v H := by
  cases x with
  | fz p => exact go F H σ v (Ex.refl F) S r
  | new p => exact go F H σ v (Ex.refl F) S r
  | bor i =>
    unfold retV at go
    dsimp only at go
    cases e : env[i]? with
    | none => rw [e] at go; exact go.elim
    | some sl =>
      rw [e] at go
      have r : σ[i]? = some (some v) := r
      cases sl with
      | no => exact go.elim
      | fz p =>
        obtain ⟨w, h1, h2⟩ := S.fz i p e
        rw [r] at h1; cases h1
        exact go F H σ v (Ex.refl F) S h2
      | ow f p =>
        cases f with
        | false => exact go.elim
        | true =>
          obtain ⟨w, h1, h2, h3, h4⟩ := S.ow i _ p e
          rw [r] at h1; cases h1
          refine go F H σ _ (Ex.refl F) (S.drop i) ⟨w, rfl, h2, h3, by rw [if_pos rfl] at h4; exact h4, fun j b q hj hv => ?_⟩
          rcases getElem?_set_cases hj with ⟨_, z, _⟩ | ⟨hne, hj'⟩
          · cases z
          · exact hne (S.inj i j _ _ p q w e hj' r hv)
theorem ss_ret (he : PE X a (tE g da)) : PS X (.Return (some a) pos) (tS g (dRet da)) :=
  psImp (ps_ret he) fun D σ H ⟨F, env, S, go⟩ => ⟨F, env, S, (GoS.bindE (σ := σ) go).mono fun x e F' H' x1 S1 k v r => retV_go S1 r k⟩
theorem ss_retN : PS X (.Return none pos) (tS g fun e => .ok (.rt (.fz .non)) e) :=
  psImp ps_retN fun D σ H ⟨F, env, S, go⟩ => go F H σ .non (Ex.refl F) S (by show R _ _ _ _; unfold R; rfl)
def dIfS (dt : Env' → Res Bool) (d1 d2 : Env' → Res Fl) : Env' → Res Fl := fun e => (dt e).bind fun b e1 => if b = true then d1 e1 else d2 e1
theorem ss_if {dt : Env' → Res Bool} {p q : List Stmt} (ht : PT X c (tT g dt)) (h1 : PSs X p (tS g d1)) (h2 : PSs X q (tS g d2)) : PS X (.If c p q pos) (tS g (dIfS dt d1 d2)) :=
  psImp (ps_if ht h1 h2) fun D σ H ⟨F, env, S, go⟩ => ⟨F, env, S, (GoS.bindE (σ := σ) go).mono fun b e F' H' x1 S1 k => by
    by_cases hb : b = true
    · rw [if_pos hb] at k ⊢; exact ⟨F', e, S1, k⟩
    · rw [if_neg hb] at k ⊢; exact ⟨F', e, S1, k⟩⟩
/-! ### while -/
def dWhile (dt : Env' → Res Bool) (db : Env' → Res Fl) : Nat → Env' → Res Fl
  | 0, _ => .bad
  | n + 1, e => (dt e).bind fun b e1 => if b = true then (db e1).bind fun f e2 => (match f with
    | .nx => dWhile dt db n e2
    | .ct => dWhile dt db n e2
    | .bk => .ok .nx e2
    | x => .ok x e2) else .ok .nx e1
theorem ss_while {dt : Env' → Res Bool} {p : List Stmt} (n : Nat) (hp : PassesOwn (model X.prog X.w) X.A X.env X.xe) (ht : PT X c (tT g dt)) (h1 : PSs X p (tS g d1)) : PS X (.While c p [] pos) (tS g (dWhile dt d1 n)) := by
  refine psImp (ps_while hp ht h1) fun D σ H ⟨F, env, S, go⟩ => ?_
  refine ⟨fun m σ H => ∃ F env, Stt g F H σ env ∧ GoS g F (dWhile dt d1 m env) D, ⟨n, F, env, S, go⟩, ?_⟩
  rintro m σ1 H1 ⟨F1, e1, S1, go1⟩
  cases m with
  | zero => exact go1.elim
  | succ m =>
    refine ⟨F1, e1, S1, (GoS.bindE (σ := σ1) go1).mono fun b e F' H' x1 S2 k => ?_⟩
    by_cases hb : b = true
    · rw [if_pos hb] at k ⊢
      refine ⟨fun σ' H' => ∃ F env, Stt g F H' σ' env ∧ GoS g F (dWhile dt d1 m env) D, fun σ' H' w => ⟨m, Nat.lt_succ_self m, w⟩, F', e, S2, ?_⟩
      cases q : d1 e with
      | bad => rw [q] at k; exact k
      | err x e' => rw [q] at k; exact k
      | ok x e' =>
        rw [q] at k
        cases x with
        | nx => exact fun F2 H2 σ2 e2 S3 => ⟨F2, e', S3, GoS.up k e2⟩
        | bk => exact k
        | ct => exact fun F2 H2 σ2 e2 S3 => ⟨F2, e', S3, GoS.up k e2⟩
        | rt x => exact k
    · rw [if_neg hb] at k ⊢
      exact k F' H' σ1 (Ex.refl F') S2

/-! ### name = e -/
def store (i : Nat) (x : Val) (e : Env') : Res Fl := match x with
  | .fz p => .ok .nx (e.set i (.fz p))
  | .new p => .ok .nx (e.set i (.ow true p))
  | .bor j => match e[j]? with
    | some (.fz p) => .ok .nx (e.set i (.fz p))
    | some (.ow true p) => .ok .nx ((e.set j (.fz p)).set i (.fz p))
    | _ => .bad
def dSet (i : Nat) (d : Env' → Res Val) : Env' → Res Fl := fun e => (d e).bind (store i)
theorem store_go {i : Nat} {x : Val} {v : V} (S : Stt g F H σ env) (r : RV g F H σ env x v) (go : GoS g F (store i x env) D) : D.nx (σ.set i (some v)) H := by
  cases x with
  | fz p => exact go F H _ (Ex.refl F) (S.setFz r)
  | new p =>
    obtain ⟨w, rfl, r1, hf, h0, hn⟩ := r
    exact go F H _ (Ex.refl F) (S.setOw r1 hf h0 hn)
  | bor j =>
    unfold store at go
    dsimp only at go
    cases e : env[j]? with
    | none => rw [e] at go; exact go.elim
    | some sl =>
      rw [e] at go
      have r : σ[j]? = some (some v) := r
      cases sl with
      | no => exact go.elim
      | fz p =>
        obtain ⟨w, h1, h2⟩ := S.fz j p e
        rw [r] at h1; cases h1
        exact go F H _ (Ex.refl F) (S.setFz h2)
      | ow f p =>
        cases f with
        | false => exact go.elim
        | true =>
          obtain ⟨w, h1, h2, h3, h4⟩ := S.ow j _ p e
          rw [r] at h1; cases h1
          obtain ⟨o, ho⟩ := h2.cell
          obtain ⟨S', rr⟩ := S.freeze e r ho
          exact go _ H _ (Ex.new h3) (S'.setFz rr)
theorem ss_set {i : Nat} {x : Str} {pos' : Pos} (hN : X.N.Nodup) (hi : X.N[i]? = some x) (hx : Loc X.env.scope x) (he : PE X a (tE g da)) (hs : swapsWith a (some (.Name x pos')) pos.line X.env = pure false) (hf : X.fn x = true ∨ X.env.scope.names.lookup x = some .local) :
    PS X (.Assign [.Name x pos'] a pos) (tS g (dSet i da)) :=
  psImp (ps_set hN hi hx he hs hf) fun D σ H ⟨F, env, S, go⟩ => ⟨F, env, S, (GoS.bindE (σ := σ) go).mono fun x e F' H' x1 S1 k v r => store_go S1 r k⟩
/-! ### name op= e (numbers) -/
def dAug (i : Nat) (sem : Int → Int → Option Int) (d : Env' → Res Val) : Env' → Res Fl := fun e => match e[i]? with
  | some (.fz (.int k)) => (stl d e).bind fun x e1 => match x with
    | .fz (.int n) => match sem k n with
      | some m => .ok .nx (e1.set i (.fz (.int m)))
      | none => .bad
    | _ => .bad
  | _ => .bad
def ipO (sem : Int → Int → Option Int) : TIp := fun x y H Q => ∃ i j k, x = .int i ∧ y = .int j ∧ sem i j = some k ∧ Q (.int k) H
theorem ss_aug {i : Nat} {x : Str} {op : Operator} {sem : Int → Int → Option Int} {pos' : Pos} (hN : X.N.Nodup) (hi : X.N[i]? = some x) (hx : Loc X.env.scope x) (he : PE X a (tE g da)) (ho : PIp X op (ipO sem)) (hf : X.fn x = true ∨ X.env.scope.names.lookup x = some .local) :
    PS X (.AugAssign (.Name x pos') op a pos) (tS g (dAug i sem da)) := by
  refine psImp (ps_aug hN hi hx (peStl he) ho hf) fun D σ H ⟨F, env, S, go⟩ => ?_
  unfold dAug at go
  cases e : env[i]? with
  | none => rw [e] at go; exact go.elim
  | some sl =>
    rw [e] at go
    cases sl with
    | no => exact go.elim
    | ow f p => exact go.elim
    | fz p =>
      cases p with
      | int k =>
        obtain ⟨v, h1, h2⟩ := S.fz i _ e
        have h2 : v = V.int k := by unfold R at h2; exact h2
        subst h2
        refine ⟨_, h1, F, env, S, (GoS.bindE (σ := σ) go).mono fun x e F' H' x1 S1 k1 v r => ?_⟩
        cases x with
        | new p => exact k1.elim
        | bor p => exact k1.elim
        | fz p =>
          cases p with
          | int n =>
            have r : v = V.int n := by
              have r : R g.C F' (.int n) v := r
              unfold R at r; exact r
            subst r
            dsimp only at k1
            cases q : sem k n with
            | none => rw [q] at k1; exact k1.elim
            | some m =>
              rw [q] at k1
              exact ⟨k, n, m, rfl, rfl, q, k1 F' H' _ (Ex.refl F') (S1.setFz (by unfold R; rfl))⟩
          | _ => exact k1.elim
      | _ => exact go.elim
def aAdd (i j : Int) : Option Int := some (i + j)
def aSub (i j : Int) : Option Int := some (i - j)
def aMul (i j : Int) : Option Int := if CMulX i j then some (i * j) else none
theorem ip_addO : PIp X .Add (ipO aAdd) := fun pins s σ H x y v u Q I r1 r2 ⟨i, j, k, e1, e2, h, q⟩ => ip_add pins s σ H x y v u Q I r1 r2 ⟨i, j, e1, e2, by cases h; exact q⟩
theorem ip_subO : PIp X .Sub (ipO aSub) := fun pins s σ H x y v u Q I r1 r2 ⟨i, j, k, e1, e2, h, q⟩ => ip_sub pins s σ H x y v u Q I r1 r2 ⟨i, j, e1, e2, by cases h; exact q⟩
theorem ip_mulO : PIp X .Mult (ipO aMul) := by
  intro pins s σ H x y v u Q I r1 r2 h
  obtain ⟨i, j, k, e1, e2, h, q⟩ := h
  subst e1; subst e2
  obtain ⟨t, rfl⟩ := r1
  obtain ⟨t', rfl⟩ := r2
  unfold aMul at h
  split at h
  · rename_i hc
    cases h
    exact PyProof.Rows.imul_int ⟨.int _, H, I.tok _, ⟨_, rfl⟩, q⟩ hc.ok
  · cases h
end
end VL

set_option maxRecDepth 100000
set_option maxHeartbeats 2000000
namespace VL
open PySem PySem.Spec L2
open PyProof.Rows hiding St

/-! ### targets of several names -/
/-- what a target does with a value that stays -/
abbrev UG := PV → Env' → Option Env'
def tG (g : Gm) (u : UG) (js : List Nat) : TG := fun v σ H Q => ∃ F env p env', Stt g F H σ env ∧ R g.C F p v ∧ u p env = some env' ∧ ∀ σ', Stt g F H σ' env' → σ'.length = σ.length → (∀ (i : Nat), i ∉ js → σ'[i]? = σ[i]?) → Q σ' H
def tGs (g : Gm) (u : List PV → Env' → Option Env') (js : List Nat) : TGs := fun vs σ H Q => ∃ F env ps env', Stt g F H σ env ∧ Rs g.C F ps vs ∧ u ps env = some env' ∧ ∀ σ', Stt g F H σ' env' → σ'.length = σ.length → (∀ (i : Nat), i ∉ js → σ'[i]? = σ[i]?) → Q σ' H
def uNm (i : Nat) : UG := fun p e => some (e.set i (.fz p))
def uNil : List PV → Env' → Option Env' := fun ps e => if ps.isEmpty then some e else none
def uCons (u : UG) (us : List PV → Env' → Option Env') : List PV → Env' → Option Env' := fun ps e => match ps with
  | p :: ps => (u p e).bind (us ps)
  | [] => none
def uTup (n : Nat) (us : List PV → Env' → Option Env') : UG := fun p e => match p with
  | .tup ps => if ps.length = n then us ps e else none
  | _ => none
section
variable {X : Cx} {g : Gm} {pins : List (Addr × Obj)} {F H F' H' : Hp} {σ : St} {env env' : Env'} {s : Shared} {a b c : Expr} {da db dc : Env' → Res Val} {pos : Pos} {D : Ends} {d1 d2 : Env' → Res Fl}
theorem pgImp {e : Expr} {t t' : TG} (h : PG X e t) (k : ∀ v σ H Q, t' v σ H Q → t v σ H Q) : PG X e t' := ⟨fun pins s σ H v u Q I r q => h.run pins s σ H v u Q I r (k v σ H Q q)⟩
theorem pgsImp {e : List Expr} {t t' : TGs} (h : PGs X e t) (k : ∀ v σ H Q, t' v σ H Q → t v σ H Q) : PGs X e t' := ⟨fun pins s σ H v u Q I r q => h.run pins s σ H v u Q I r (k v σ H Q q)⟩
theorem sg_name {i : Nat} {x : Str} (hN : X.N.Nodup) (hi : X.N[i]? = some x) (hx : Loc X.env.scope x) (hf : X.fn x = true ∨ X.env.scope.names.lookup x = some .local) : PG X (.Name x pos) (tG g (uNm i) [i]) :=
  pgImp (pg_name hN hi hx hf) fun v σ H Q ⟨F, env, p, env', S, r, e, k⟩ => by
    cases e
    refine k _ (S.setFz r) (by simp) fun j hj => ?_
    rw [List.getElem?_set_ne (fun z => hj (by simp [z]))]
theorem sgs_nil : PGs X [] (tGs g uNil []) := pgsImp pgs_nil fun v σ H Q ⟨F, env, ps, env', S, r, e, k⟩ => by
  cases ps with
  | nil => cases e; exact ⟨r.nil_inv, k _ S rfl fun _ _ => rfl⟩
  | cons p ps => cases e
theorem sgs_cons {e : Expr} {es : List Expr} {u : UG} {us : List PV → Env' → Option Env'} {js ks : List Nat} (h1 : PG X e (tG g u js)) (h2 : PGs X es (tGs g us ks))
    (hs : (assignEach (e :: es) X.env).map (·.2) = assign e X.env :: (assignEach es X.env).map (·.2)) : PGs X (e :: es) (tGs g (uCons u us) (js ++ ks)) :=
  pgsImp (pgs_cons h1 h2 hs) fun v σ H Q ⟨F, env, ps, env', S, r, e, k⟩ => by
    cases ps with
    | nil => cases e
    | cons p ps =>
      obtain ⟨v1, r1, rfl, q1, q2⟩ := r.cons_inv
      unfold uCons at e
      dsimp only at e
      cases h : u p env with
      | none => rw [h] at e; cases e
      | some e1 =>
        rw [h] at e
        exact ⟨v1, r1, rfl, F, env, p, e1, S, q1, h, fun σ' S' l' h' => ⟨F, e1, ps, env', S', q2, e, fun σ2 S2 l2 h2 => k σ2 S2 (l2.trans l') fun i hi => (h2 i fun z => hi (List.mem_append_right _ z)).trans (h' i fun z => hi (List.mem_append_left _ z))⟩⟩
theorem sg_tup {es : List Expr} {j n : Nat} {us : List PV → Env' → Option Env'} {js : List Nat} (ok : Ok X g) (hc : X.calm = true) (h : PGs X es (tGs g us js))
    (hn : (assignEach es X.env).length = n) (hst : (assignEach es X.env).findIdx? (·.1) = none) : PG X (.Tuple es j pos) (tG g (uTup n us) js) :=
  pgImp (pg_tup hc h hn hst) fun v σ H Q ⟨F, env, p, env', S, r, e, k⟩ => by
    cases p with
    | tup ps =>
      unfold uTup at e
      dsimp only at e
      split at e
      · rename_i hl
        unfold R at r
        obtain ⟨a, vs, rfl, q, rs⟩ := r
        exact ⟨a, vs, rfl, .inl (.inl (S.sub.tup q)), by rw [rs.length]; exact hl, F, env, ps, env', S, rs, e, k⟩
      · cases e
    | _ => cases e
def dAsgT (d : Env' → Res Val) (u : UG) : Env' → Res Fl := fun e => (d e).bind fun x e1 => (frz x e1).bind fun p e2 => match u p e2 with
  | some e3 => .ok .nx e3
  | none => .bad
theorem frz_ok {x : Val} {v : V} {p : PV} (S : Stt g F H σ env) (r : RV g F H σ env x v) (h : frz x env = .ok p env') : ∃ F', Ex F F' ∧ Stt g F' H σ env' ∧ R g.C F' p v := by
  cases x with
  | fz p => cases h; exact ⟨F, Ex.refl F, S, r⟩
  | new p =>
    cases h
    obtain ⟨b, rfl, r1, hf, h0, hn⟩ := r
    obtain ⟨o, ho⟩ := r1.cell
    exact ⟨_, Ex.new hf, S.know hf ho h0 hn, r1.frozen ho hf⟩
  | bor i =>
    unfold frz at h
    dsimp only at h
    cases e : env[i]? with
    | none => rw [e] at h; cases h
    | some sl =>
      rw [e] at h
      have r : σ[i]? = some (some v) := r
      cases sl with
      | no => cases h
      | fz p =>
        cases h
        obtain ⟨w, h1, h2⟩ := S.fz i _ e
        rw [r] at h1; cases h1
        exact ⟨F, Ex.refl F, S, h2⟩
      | ow f p =>
        cases f with
        | false => cases h
        | true =>
          cases h
          obtain ⟨w, h1, h2, h3, h4⟩ := S.ow i _ _ e
          rw [r] at h1; cases h1
          obtain ⟨o, ho⟩ := h2.cell
          obtain ⟨S', rr⟩ := S.freeze e r ho
          exact ⟨_, Ex.new h3, S', rr⟩
theorem frz_noerr {x : Val} {y : Exc'} {e : Env'} : frz x env ≠ .err y e := by
  intro h
  cases x with
  | fz p => cases h
  | new p => cases h
  | bor i =>
    unfold frz at h
    dsimp only at h
    split at h <;> cases h
theorem GoS_frz {x : Val} {v : V} {f : PV → Env' → Res Fl} (S : Stt g F H σ env) (r : RV g F H σ env x v) (go : GoS g F ((frz x env).bind f) D) : ∃ F' p env', Ex F F' ∧ Stt g F' H σ env' ∧ R g.C F' p v ∧ GoS g F' (f p env') D := by
  cases h : frz x env with
  | bad => rw [h] at go; exact go.elim
  | err y e => exact (frz_noerr h).elim
  | ok p e =>
    rw [h] at go
    obtain ⟨F', x1, S', r'⟩ := frz_ok S r h
    exact ⟨F', p, e, x1, S', r', GoS.up go x1⟩
theorem ugo {x : Val} {v : V} {u : UG} {js : List Nat} (S : Stt g F H σ env) (r : RV g F H σ env x v) (go : GoS g F ((frz x env).bind fun p e2 => match u p e2 with | some e3 => .ok .nx e3 | none => .bad) D) : tG g u js v σ H D.nx := by
  obtain ⟨F', p, e, x1, S', r', go'⟩ := GoS_frz S r go
  cases h : u p e with
  | none => simp only [h] at go'; exact go'.elim
  | some e3 =>
    simp only [h] at go'
    exact ⟨F', e, p, e3, S', r', h, fun σ' S2 _ _ => go' F' H σ' (Ex.refl F') S2⟩
theorem ss_asgT {tg : Expr} {u : UG} {js : List Nat} (he : PE X a (tE g da)) (hg : PG X tg (tG g u js)) (hs : swapsWithSole [tg] a pos.line X.env = pure false) (hw : swappedStores [tg] a X.env = pure none)
    (h1 : (assignEach [tg] X.env).map (·.2) = [assign tg X.env]) : PS X (.Assign [tg] a pos) (tS g (dAsgT da u)) :=
  psImp (ps_asg he hg hs hw h1) fun D σ H ⟨F, env, S, go⟩ => ⟨F, env, S, (GoS.bindE (σ := σ) go).mono fun x e F' H' x1 S1 k v r => ugo S1 r k⟩

/-! ### o[i] = e, o[i] op= e, o a name -/
def semPut : PV → PV → PV → Option PV
  | .lst xs, .int k, v => (ixN xs.length k).map fun j => .lst (xs.set j v)
  | .dK ks vs, y, v => match keyP y with
    | some k => if ks.length < big then some (.dK (putP ks vs k v).1 (putP ks vs k v).2) else none
    | none => none
  | .dT ks vs, .tup ys, v => match keysP ys with
    | some k => if ks.length < big then some (.dT (putP ks vs k v).1 (putP ks vs k v).2) else none
    | none => none
  | _, _, _ => none
theorem put_go {i : Nat} {bb : Bool} {q q' kp p : PV} {o k v : V} {R1' : Hp → Prop} (S : Stt g F H σ env) (hi : env[i]? = some (.ow bb q)) (ho : σ[i]? = some (some o)) (rk : Rt g.C F H kp k) (r : R g.C F p v) (h : semPut q kp p = some q')
    (kk : ∀ H', Stt g F H' σ (env.set i (.ow bb q')) → R1' H') : rSetL o k v H R1' ∨ rSetD o k v H R1' := by
  obtain ⟨a, h1, h2, h3, h4⟩ := S.ow i bb q hi
  rw [ho] at h1; cases h1
  cases q with
  | lst xs =>
    cases kp with
    | int j =>
      simp only [semPut, Option.map_eq_some_iff] at h
      obtain ⟨n, hn, e⟩ := h
      subst e
      obtain ⟨vs, e1, e2⟩ := h2
      cases rt_int rk
      refine .inl ⟨a, vs, j, n, rfl, rfl, e1, by rw [e2.length]; exact hn, kk _ (S.write hi ho ?_)⟩
      simp only [R1]
      exact ⟨_, upd_same, e2.set n r⟩
    | _ => simp only [semPut] at h; cases h
  | dK ks vs =>
    obtain ⟨kvs, e1, e2, e3⟩ := h2
    have hk : ∃ kk, keyP kp = some kk ∧ ks.length < big ∧ q' = .dK (putP ks vs kk p).1 (putP ks vs kk p).2 := by
      simp only [semPut] at h
      split at h
      · rename_i j hj
        split at h
        · rename_i hl; cases h; exact ⟨j, hj, hl, rfl⟩
        · cases h
      · cases h
    obtain ⟨j, hj, hl, rfl⟩ := hk
    obtain rfl := keyP_rt rk hj
    refine .inr ⟨a, _, rfl, DPut.k e1 (by rw [← List.length_map (as := kvs) Prod.fst, e2, big_eq]; exact hl), kk _ (S.write hi ho ?_)⟩
    obtain ⟨z1, z2⟩ := putP_r (k := j) e3 r
    rw [e2] at z1 z2
    simp only [R1]
    exact ⟨_, upd_same, z1, z2⟩
  | dT ks vs =>
    obtain ⟨kvs, e1, e2, e3⟩ := h2
    cases kp with
    | tup ys =>
      have hk : ∃ kk, keysP ys = some kk ∧ ks.length < big ∧ q' = .dT (putP ks vs kk p).1 (putP ks vs kk p).2 := by
        simp only [semPut] at h
        split at h
        · rename_i j hj
          split at h
          · rename_i hl; cases h; exact ⟨j, hj, hl, rfl⟩
          · cases h
        · cases h
      obtain ⟨j, hj, hl, rfl⟩ := hk
      obtain ⟨b, us, rfl, f1, f2, f3⟩ := rk
      obtain rfl := keysP_r f2 hj
      refine .inr ⟨a, _, rfl, DPut.t e1 f1 (by rw [← List.length_map (as := kvs) Prod.fst, e2, big_eq]; exact hl), kk _ (S.write hi ho ?_)⟩
      obtain ⟨z1, z2⟩ := putP_r (k := j) e3 r
      rw [e2] at z1 z2
      simp only [R1]
      exact ⟨_, upd_same, z1, z2⟩
    | _ => simp only [semPut] at h; cases h
  | _ => simp only [semPut] at h; cases h
def semSet' : TSet := fun o i v H Q => rSetL o i v H Q ∨ rSetD o i v H Q
theorem set_both (ok : Ok X g) : PSet X semSet' := by
  intro pins s σ H o i v ov iv u Q I ro ri rv h
  rcases h with h | h
  · exact set_list pins s σ H o i v ov iv u Q I ro ri rv h
  · exact set_dict (by have := ok.u; omega) pins s σ H o i v ov iv u Q I ro ri rv h
def putS (i : Nat) (p : PV) (y : Val) (e : Env') : Res Fl := match e[i]?, peek y e with
  | some (.ow b q), some k => match semPut q k p with
    | some q' => .ok .nx (e.set i (.ow b q'))
    | none => .bad
  | _, _ => .bad
theorem putS_go {i : Nat} {p : PV} {y : Val} {o v k : V} (S : Stt g F H σ env) (ho : σ[i]? = some (some o)) (rk : RV g F H σ env y k) (r : R g.C F p v) (go : GoS g F (putS i p y env) D) : semSet' o k v H fun H' => D.nx σ H' := by
  unfold putS at go
  cases h1 : env[i]? with
  | none => simp only [h1] at go; exact go.elim
  | some sl =>
    cases h2 : peek y env with
    | none => cases sl <;> (simp only [h1, h2] at go; exact go.elim)
    | some kp =>
      cases sl with
      | no => simp only [h1, h2] at go; exact go.elim
      | fz q => simp only [h1, h2] at go; exact go.elim
      | ow b q =>
        simp only [h1, h2] at go
        cases h3 : semPut q kp p with
        | none => rw [h3] at go; exact go.elim
        | some q' =>
          rw [h3] at go
          exact put_go S h1 ho (peek_ok S rk h2) r h3 fun H' S' => go F H' σ (Ex.refl F) S'
def isOw (i : Nat) (e : Env') : Bool := match e[i]? with
  | some (.ow _ _) => true
  | _ => false
theorem isOw_at {i : Nat} (S : Stt g F H σ env) (h : isOw i env = true) : ∃ b q a, env[i]? = some (.ow b q) ∧ σ[i]? = some (some (.ref a)) ∧ R1 g.C F H q a := by
  unfold isOw at h
  cases e : env[i]? with
  | none => rw [e] at h; cases h
  | some sl =>
    rw [e] at h
    cases sl with
    | ow b q =>
      obtain ⟨a, h1, h2, h3⟩ := S.ow i b q e
      exact ⟨b, q, a, rfl, h1, h2⟩
    | _ => cases h
def dPut (i : Nat) (di dv : Env' → Res Val) : Env' → Res Fl := fun e => (dv e).bind fun x e1 => (frz x e1).bind fun p e2 => if isOw i e2 = true then (stl di e2).bind fun y e3 => putS i p y e3 else .bad
theorem ss_put {o ix : Expr} {i : Nat} {pos' : Pos} {di dv : Env' → Res Val} (ok : Ok X g) (ho : PE X o (tVar i)) (hi : PE X ix (tE g di)) (hv : PE X a (tE g dv))
    (hs : swapsWithSole [.Subscript o ix pos'] a pos.line X.env = pure false) (hw : swappedStores [.Subscript o ix pos'] a X.env = pure none) (h1 : (assignEach [.Subscript o ix pos'] X.env).map (·.2) = [assign (.Subscript o ix pos') X.env])
    (ha : ∀ v, assign (.Subscript o ix pos') X.env v = (do
      let ov ← holding [v] (eval o X.env)
      let iv ← holding [v, ov] (eval ix X.env)
      standAt pos'
      holding [v, ov, iv] (setItem ov iv v)
      release [v, ov, iv] [])) : PS X (.Assign [.Subscript o ix pos'] a pos) (tS g (dPut i di dv)) :=
  psImp (ps_asg hv (pg_sub ho (peStl hi) (set_both ok) ha) hs hw h1) fun D σ H ⟨F, env, S, go⟩ => ⟨F, env, S, (GoS.bindE (σ := σ) go).mono fun x e F' H' x1 S1 k v r => by
    obtain ⟨F2, p, e2, x2, S2, r2, go2⟩ := GoS_frz S1 r k
    split at go2
    · rename_i hw
      obtain ⟨b, q, ad, w1, w2, w3⟩ := isOw_at S2 hw
      exact ⟨_, w2, F2, e2, S2, (GoS.bindE (σ := σ) go2).mono fun y e3 F3 H3 x3 S3 k3 kv r3 => putS_go S3 w2 r3 (r2.mono x3.le) k3⟩
    · exact go2.elim⟩
/-! ### o[i] op= e -/
def semGet : PV → PV → Option PV
  | .lst xs, .int k => atI xs k
  | .dK ks vs, y => match keyP y with
    | some k => look ks vs k
    | none => none
  | .dT ks vs, .tup ys => match keysP ys with
    | some k => look ks vs k
    | none => none
  | _, _ => none
def rGetB (K : PySem.W.Frag) : V → V → Hp → VK → Prop := fun o i H Q => (∃ p xs k v, o = .ref p ∧ i = .int k ∧ SqL K H p xs ∧ atI xs k = some v ∧ Q v H) ∨ ∃ a v, o = .ref a ∧ DGet H a i (some v) ∧ Q v H
theorem get_both (ok : Ok X g) : PGet X (rGetB X.K) := by
  intro pins s σ H o i ov iv Q I ro ri h
  rcases h with h | h
  · obtain ⟨p, xs, k, z, rfl, rfl, hq, he, q⟩ := h
    cases ro
    obtain ⟨t, rfl⟩ := ri
    obtain ⟨its, r, pl, hz⟩ := I.list hq
    obtain ⟨j, h1, h2, h3, h4, h5⟩ := atI_get he
    obtain ⟨w, ew, rw'⟩ := r.get h2
    have hl := r.length
    have hn := line63
    have fin : EP X pins σ Q w s := ⟨z, H, I, rw', q⟩
    by_cases h0 : 0 ≤ k
    · have hj : k.toNat = j := by
        rw [seqIndex_of h0 h5] at h1
        exact Option.some.inj h1
      exact PySem.wpAny_getItem_list pl.isList h0 (by omega) (by rw [hj]; simpa using ew) fin
    · have hj : (k + (its.toArray.size : Int)).toNat = j := by
        rw [seqIndex_neg (by omega) h4] at h1
        rw [List.size_toArray, ← hl]
        exact Option.some.inj h1
      exact PySem.wpAny_getItem_list_neg pl.isList (by omega) (by rw [List.size_toArray] <;> omega) (by omega) (by rw [hj]; simpa using ew) fin
  · obtain ⟨a, v, rfl, gg, q⟩ := h
    cases ro
    exact d_getItem (by have := ok.u; omega) I gg ri fun w' s' I' r' => ⟨v, H, I', r', q⟩
theorem semGet_ok {q kp p : PV} {o k : V} {Q : VK} {C : Ct} {K : PySem.W.Frag} (r : Rt C F H q o) (rk : Rt C F H kp k) (h : semGet q kp = some p) (kk : ∀ v, R C F p v → Q v H) : rGetB K o k H Q := by
  cases q with
  | lst xs =>
    cases kp with
    | int j =>
      simp only [semGet] at h
      obtain ⟨a, vs, rfl, e1, e2⟩ := r
      cases rt_int rk
      obtain ⟨n, hn, hx⟩ : ∃ n, ixN xs.length j = some n ∧ xs[n]? = some p := by
        unfold atI at h
        cases hh : ixN xs.length j with
        | none => rw [hh] at h; cases h
        | some n => rw [hh] at h; exact ⟨n, rfl, h⟩
      obtain ⟨v, hv, rv⟩ := e2.get hx
      refine .inl ⟨a, vs, j, v, rfl, rfl, SqL.of e1, ?_, kk v rv⟩
      unfold atI
      rw [e2.length, hn]
      exact hv
    | _ => simp only [semGet] at h; cases h
  | dK ks vs =>
    obtain ⟨a, kvs, rfl, e1, e2, e3⟩ := r
    simp only [semGet] at h
    split at h
    · rename_i j hj
      obtain rfl := keyP_rt rk hj
      have := look_r (kvs := kvs) j e3
      rw [e2, h] at this
      obtain ⟨v, hv, rv⟩ := this
      exact .inr ⟨a, v, rfl, .inl ⟨kvs, j, e1, rfl, hv.symm⟩, kk v rv⟩
    · cases h
  | dT ks vs =>
    cases kp with
    | tup ys =>
      obtain ⟨a, kvs, rfl, e1, e2, e3⟩ := r
      simp only [semGet] at h
      split at h
      · rename_i j hj
        obtain ⟨b, us, rfl, f1, f2, f3⟩ := rk
        obtain rfl := keysP_r f2 hj
        have := look_r (kvs := kvs) j e3
        rw [e2, h] at this
        obtain ⟨v, hv, rv⟩ := this
        exact .inr ⟨a, v, rfl, .inr ⟨kvs, j, b, e1, rfl, f1, hv.symm⟩, kk v rv⟩
      · cases h
    | _ => simp only [semGet] at h; cases h
  | _ => simp only [semGet] at h; cases h
def augP (i : Nat) (sem : Int → Int → Option Int) (dv : Env' → Res Val) (y : Val) (e1 : Env') : Res Fl := match e1[i]?, peek y e1 with
  | some (.ow b q), some kp => match semGet q kp with
    | some (.int k) => (stl dv e1).bind fun x e2 => match x with
      | .fz (.int n) => match sem k n with
        | some m => putS i (.int m) y e2
        | none => .bad
      | _ => .bad
    | _ => .bad
  | _, _ => .bad
def dAugP (i : Nat) (sem : Int → Int → Option Int) (di dv : Env' → Res Val) : Env' → Res Fl := fun e => if isOw i e = true then (stl di e).bind fun y e1 => augP i sem dv y e1 else .bad
theorem ss_augP {o ix : Expr} {i : Nat} {tpos : Pos} {op : Operator} {sem : Int → Int → Option Int} {di dv : Env' → Res Val} (ok : Ok X g) (ho : PE X o (tVar i)) (hi : PE X ix (tE g di)) (hv : PE X a (tE g dv)) (hop : PIp X op (ipO sem))
    (ha : ∀ ov iv new, augStore ix ov iv new = (do holding [new, ov, iv] (setItem ov iv new); release [new, ov, iv] []; pure .next)) : PS X (.AugAssign (.Subscript o ix tpos) op a pos) (tS g (dAugP i sem di dv)) := by
  refine ⟨fun pins s σ H D I ⟨F, env, S, go⟩ => ?_⟩
  unfold dAugP at go
  split at go
  · rename_i hw
    obtain ⟨b, q, ad, w1, w2, w3⟩ := isOw_at S hw
    refine wpAny_AugAssign_SubscriptAny (thn (ho.run pins s σ H (fun v H1 => v = .ref ad ∧ H1 = H) I ⟨_, w2, rfl, rfl⟩) fun ov s1 ⟨x1, H1, I1, r1, e1, e2⟩ => ?_) ha
    subst e1 e2
    have go' : Go g F σ ((stl di env).bind fun y e1 => .ok y e1) fun y e1 F' H' => GoS g F' (augP i sem dv y e1) D := by
      have := GoS.bindE (σ := σ) go
      cases hd : stl di env with
      | bad => rw [hd] at this; exact this
      | err x e => rw [hd] at this; exact this
      | ok x e => rw [hd] at this; exact this
    refine thn (peGo hi I1 S go') fun iv s2 ⟨x2, H2, I2, r2, F2, env2, y, x2', S2, o2, rv2, go2⟩ => ?_
    have go2 := go2 F2 H2 (Ex.refl F2) S2
    unfold augP at go2
    cases h1 : env2[i]? with
    | none => simp only [h1] at go2; exact go2.elim
    | some sl =>
      cases h2 : peek y env2 with
      | none => cases sl <;> (simp only [h1, h2] at go2; exact go2.elim)
      | some kp =>
        cases sl with
        | no => simp only [h1, h2] at go2; exact go2.elim
        | fz q => simp only [h1, h2] at go2; exact go2.elim
        | ow b2 q2 =>
          simp only [h1, h2] at go2
          split at go2
          · rename_i k hk
            obtain ⟨ad', z1, z2, z3⟩ := S2.ow i _ _ h1
            rw [w2] at z1; cases z1
            refine thn (get_both ok pins s2 σ H2 (.ref ad) x2 ov iv (fun v H3 => v = .int k ∧ H3 = H2) I2 r1 r2 (semGet_ok (R1.rt z2) (peek_ok S2 rv2 h2) hk fun v rv => ⟨by unfold R at rv; exact rv, rfl⟩)) fun old s3 ⟨x3, H3, I3, r3, q3, q3'⟩ => ?_
            subst q3 q3'
            have go3 : Go g F2 σ ((stl dv env2).bind fun y e1 => .ok y e1) fun x e2 F' H' => GoS g F' (match x with | .fz (.int n) => (match sem k n with | some m => putS i (.int m) y e2 | none => .bad) | _ => .bad) D := by
              have := GoS.bindE (σ := σ) go2
              cases hd : stl dv env2 with
              | bad => rw [hd] at this; exact this
              | err x e => rw [hd] at this; exact this
              | ok x e => rw [hd] at this; exact this
            refine thn (peGo hv I3 S2 go3) fun v s4 ⟨x4, H4, I4, r4, F4, env4, x, x4', S4, o4, rv4, go4⟩ => ?_
            have go4 := go4 F4 H4 (Ex.refl F4) S4
            dsimp only at go4
            split at go4
            · rename_i n hgo
              split at go4
              · rename_i m hm
                have rv4 : R g.C F4 (.int n) x4 := rv4
                unfold R at rv4
                refine thn (hop pins s4 σ H4 (.int k) x4 old v (fun z H5 => z = .int m ∧ H5 = H4) I4 r3 r4 ⟨k, n, m, rfl, rv4, hm, rfl, rfl⟩) fun new s5 ⟨x5, H5, I5, r5, q5, q5'⟩ => ?_
                subst q5 q5'
                refine thn (set_both ok pins s5 σ H5 (.ref ad) x2 (.int m) ov iv new (fun H6 => D.nx σ H6) I5 r1 r2 r5 (putS_go S4 w2 (rv2.later o2 x4') (by unfold R; rfl) go4)) fun _ s6 ⟨H6, I6, q6⟩ => ⟨σ, H6, I6, q6⟩
              · exact go4.elim
            · exact go4.elim
          · exact go2.elim
  · exact go.elim
theorem peGoS {e : Expr} {d : Env' → Res Val} {f : Val → Env' → Res Fl} (h : PE X e (tE g d)) (I : Inv X pins σ H s) (S : Stt g F H σ env) (go : GoS g F ((stl d env).bind f) D) :
    wpAny (model X.prog X.w) X.A (eval e X.env) (EP X pins σ fun v H1 => ∃ F1 env1 x, Ex F F1 ∧ Stt g F1 H1 σ env1 ∧ x.old ∧ RV g F1 H1 σ env1 x v ∧ GoS g F1 (f x env1) D) X.xe s := by
  have go' : Go g F σ ((stl d env).bind fun y e1 => .ok y e1) fun y e1 F' H' => GoS g F' (f y e1) D := by
    have := GoS.bindE (σ := σ) go
    cases hd : stl d env with
    | bad => rw [hd] at this; exact this
    | err x e => rw [hd] at this; exact this
    | ok x e => rw [hd] at this; exact this
  exact thn (peGo h I S go') fun iv s2 ⟨x2, H2, I2, r2, F2, env2, y, x2', S2, o2, rv2, go2⟩ => ⟨x2, H2, I2, r2, F2, env2, y, x2', S2, o2, rv2, go2 F2 H2 (Ex.refl F2) S2⟩
theorem paGoS {es : List Expr} {d : Env' → Res (List Val)} {f : List Val → Env' → Res Fl} (h : PA X es (tAs g d)) (pos : Pos) (I : Inv X pins σ H s) (S : Stt g F H σ env) (go : GoS g F ((d env).bind f) D) :
    wpAny (model X.prog X.w) X.A (spliced (backTo pos (starEach es X.env))) (AP X pins σ fun vs H1 => ∃ F1 env1 xs, Ex F F1 ∧ Stt g F1 H1 σ env1 ∧ AllOld xs ∧ RVs g F1 H1 σ env1 xs vs ∧ GoS g F1 (f xs env1) D) X.xe s := by
  have go' : Go g F σ ((d env).bind fun y e1 => .ok y e1) fun y e1 F' H' => GoS g F' (f y e1) D := by
    have := GoS.bindE (σ := σ) go
    cases hd : d env with
    | bad => rw [hd] at this; exact this
    | err x e => rw [hd] at this; exact this
    | ok x e => rw [hd] at this; exact this
  exact thn (paGo h pos I S go') fun iv s2 ⟨x2, H2, I2, r2, F2, env2, y, x2', S2, o2, rv2, go2⟩ => ⟨x2, H2, I2, r2, F2, env2, y, x2', S2, o2, rv2, go2 F2 H2 (Ex.refl F2) S2⟩

/-! ### methods that write their receiver, the receiver a name -/
structure WRule (X : Cx) (g : Gm) (T : String) (name : Str) (sem : PV → List PV → Option (PV × PV)) : Prop where
  ne : T ≠ ""
  ex : ∃ id, PlainAttrs T ∧ Slot T name id ∧ typeOf (.builtin id) = pure (.type "method_descriptor") ∧
    ∀ (pins : List (Addr × Obj)) (s : Shared) (σ : St) (F H : Hp) (env : Env') (i : Nat) (b : Bool) (a : Addr) (q q' r : PV) (ps : List PV) (vs : List V) (us : List Value) (Q : VK), Inv X pins σ H s → Stt g F H σ env → env[i]? = some (.ow b q) → σ[i]? = some (some (.ref a)) → R1 g.C F H q a → Vals vs us → Rs g.C F ps vs → kd q = T → sem q ps = some (q', r) →
    (∀ F' H' w, Ex F F' → Stt g F' H' σ (env.set i (.ow b q')) → R g.C F' r w → Q w H') → wpAny (model X.prog X.w) X.A (PySem.call (.builtin id) (.ref a :: us)) (EP X pins σ Q) X.xe s
def kdAt (i : Nat) (e : Env') : String := match e[i]? with
  | some (.ow _ q) => kd q
  | _ => ""
def mutK (T : String) (sem : PV → List PV → Option (PV × PV)) (i : Nat) (ps : List PV) (e : Env') : Res Val := match e[i]? with
  | some (.ow b q) => if kd q = T then match sem q ps with
      | some (q', r) => .ok (.fz r) (e.set i (.ow b q'))
      | none => .bad
    else .bad
  | _ => .bad
def dMut (T : String) (sem : PV → List PV → Option (PV × PV)) (i : Nat) (ds : List (Env' → Res Val)) : Env' → Res Val := fun e => if kdAt i e = T then (dArgs ds e).bind fun xs e1 => (frzs xs e1).bind fun ps e2 => mutK T sem i ps e2 else .bad
theorem kdAt_is {i : Nat} {T : String} (hT : T ≠ "") (h : kdAt i env = T) : ∃ b q, env[i]? = some (.ow b q) ∧ kd q = T := by
  unfold kdAt at h
  split at h
  · rename_i b q e; exact ⟨b, q, e, h⟩
  · exact (hT h.symm).elim
theorem mut_fin {T : String} {name : Str} {id : String} {sem : PV → List PV → Option (PV × PV)} {i : Nat} {v : V} {vv : Value} {ps : List PV} {vs : List V} {us : List Value} {Q : VK}
    (run : ∀ (pins : List (Addr × Obj)) (s : Shared) (σ : St) (F H : Hp) (env : Env') (i : Nat) (b : Bool) (a : Addr) (q q' r : PV) (ps : List PV) (vs : List V) (us : List Value) (Q : VK), Inv X pins σ H s → Stt g F H σ env → env[i]? = some (.ow b q) → σ[i]? = some (some (.ref a)) → R1 g.C F H q a → Vals vs us → Rs g.C F ps vs → kd q = T → sem q ps = some (q', r) →
      (∀ F' H' w, Ex F F' → Stt g F' H' σ (env.set i (.ow b q')) → R g.C F' r w → Q w H') → wpAny (model X.prog X.w) X.A (PySem.call (.builtin id) (.ref a :: us)) (EP X pins σ Q) X.xe s)
    (I : Inv X pins σ H s) (S : Stt g F H σ env) (hv : σ[i]? = some (some v)) (r1 : RelV v vv) (r2 : Vals vs us) (t2 : Rs g.C F ps vs)
    (go : Go g F σ (mutK T sem i ps env) fun x env' F' H' => ∀ v, RV g F' H' σ env' x v → Q v H') : wpAny (model X.prog X.w) X.A (PySem.call (.builtin id) (vv :: us)) (EP X pins σ Q) X.xe s := by
  unfold mutK at go
  split at go
  · rename_i b q hi
    split at go
    · rename_i hk
      split at go
      · rename_i q' r hs
        obtain ⟨a, h1, h2, h3⟩ := S.ow i b q hi
        rw [hv] at h1; cases h1
        cases r1
        exact run pins s σ F H env i b a q q' r ps vs us Q I S hi hv h2 r2 t2 hk hs fun F' H' w x1 S' rr => go F' H' x1 S' w rr
      · exact go.elim
    · exact go.elim
  · exact go.elim
section
variable {o e : Expr} {es : List Expr} {ds : List (Env' → Res Val)} {name : Str} {apos cpos : Pos} {T : String} {sem : PV → List PV → Option (PV × PV)} {i : Nat}
theorem se_mut (ok : Ok X g) (M : WRule X g T name sem) (ho : PE X o (tVar i)) (ha : PA X (e :: es) (tAs g (dArgs ds)))
    (hbase : attributeBase o name X.env (eval o X.env) = eval o X.env)
    (hfew : ((backTo cpos (starEach (e :: es) X.env)).all (fun x => !x.1) && (backToKw cpos (keywordEach [] X.env)).all (fun x => x.1.isSome)
      && decide ((e :: es).length + ([] : List Keyword).length + (if ([] : List Keyword).isEmpty then 0 else 1) < 30)) = true)
    (hline : (apos.endLine == cpos.line) = true) (hs : starEach (e :: es) X.env = (false, eval e X.env) :: starEach es X.env) (hplain : (backTo cpos (starEach es X.env)).any (·.1) = false) :
    PE X (.Call (.Attribute o name apos) (e :: es) [] cpos) (tE g (dMut T sem i ds)) := by
  obtain ⟨id, pa, slot, hty, run⟩ := M.ex
  refine ⟨fun pins s σ H Q I ⟨F, env, S, go⟩ => ?_⟩
  unfold dMut at go
  split at go
  · rename_i hk
    obtain ⟨b, q, hi, hq⟩ := kdAt_is M.ne hk
    obtain ⟨ad, w1, w2, w3⟩ := S.ow i b q hi
    refine wpAny_Call_method_late hbase hfew hline rfl (thn (ho.run pins s σ H (fun v H1 => v = .ref ad ∧ H1 = H) I ⟨_, w1, rfl, rfl⟩) fun v s1 ⟨x1, H1, I1, r1, e1, e2⟩ => ?_)
    subst e1 e2
    obtain ⟨h1, h2⟩ := kd_is ok I1 r1 (R1.rt w2) hq M.ne
    refine ⟨T, id, pa, slot, hty, h1, h2, ?_⟩
    have hA := paGo ha cpos I1 S go
    rw [hs] at hA ⊢
    refine Calls.callWith_builtin (by show (false || (backTo cpos (starEach es X.env)).any (·.1)) = false; rw [hplain] <;> rfl) (Calls.evalArgs_plain ?_)
    refine thn hA fun us s2 ⟨vs, H2, I2, r2, F2, e2, xs, x2, S2, o2, rv2, go2⟩ => ?_
    obtain ⟨F3, ps, e3, x3, S3, q3, go3⟩ := frzs_go o2 S2 rv2 go2
    exact mut_fin (name := name) run I2 S3 w1 r1 r2 q3 go3
  · exact go.elim
theorem se_mut0 (ok : Ok X g) (M : WRule X g T name sem) (ho : PE X o (tVar i))
    (hbase : attributeBase o name X.env (eval o X.env) = eval o X.env) (hline : (apos.endLine == cpos.line) = true) : PE X (.Call (.Attribute o name apos) [] [] cpos) (tE g (dMut T sem i [])) := by
  obtain ⟨id, pa, slot, hty, run⟩ := M.ex
  refine ⟨fun pins s σ H Q I ⟨F, env, S, go⟩ => ?_⟩
  unfold dMut at go
  split at go
  · rename_i hk
    obtain ⟨b, q, hi, hq⟩ := kdAt_is M.ne hk
    obtain ⟨ad, w1, w2, w3⟩ := S.ow i b q hi
    refine wpAny_Call_method0_late hbase hline (thn (ho.run pins s σ H (fun v H1 => v = .ref ad ∧ H1 = H) I ⟨_, w1, rfl, rfl⟩) fun v s1 ⟨x1, H1, I1, r1, e1, e2⟩ => ?_)
    subst e1 e2
    obtain ⟨h1, h2⟩ := kd_is ok I1 r1 (R1.rt w2) hq M.ne
    refine ⟨T, id, pa, slot, hty, h1, h2, Calls.callWith_builtin rfl (PySem.evalArgs_none ?_)⟩
    exact mut_fin (name := name) (ps := []) (vs := []) (us := []) run I1 S w1 r1 .nil Rs.nil go
  · exact go.elim
/-! the list's -/
def semAppend : PV → List PV → Option (PV × PV)
  | .lst xs, [p] => if xs.length < big then some (.lst (xs ++ [p]), .non) else none
  | _, _ => none
def semExtend : PV → List PV → Option (PV × PV)
  | .lst xs, [.lst ys] => if xs.length + ys.length ≤ big then some (.lst (xs ++ ys), .non) else none
  | _, _ => none
def semPop : PV → List PV → Option (PV × PV)
  | .lst xs, [] => xs.getLast?.map fun y => (.lst xs.dropLast, y)
  | .lst xs, [.int i] => if r62 i = true then (ixN xs.length i).bind fun k => xs[k]?.map fun y => (.lst (xs.eraseIdx k), y) else none
  | _, _ => none
def semClear : PV → List PV → Option (PV × PV)
  | .lst _, [] => some (.lst [], .non)
  | _, _ => none
end
end
end VL

set_option maxRecDepth 100000
set_option maxHeartbeats 2000000
namespace VL
open PySem PySem.Spec L2
open PyProof.Rows hiding St
section
variable {X : Cx} {g : Gm} {pins : List (Addr × Obj)} {F H F' H' : Hp} {σ : St} {env env' : Env'} {s : Shared}
/-- a rule for a list -/
theorem w_list {name : Str} {id : String} {r : V → List V → Hp → VK → Prop} {sem : PV → List PV → Option (PV × PV)} (sl : Slot "list" name id) (ty : typeOf (.builtin id) = pure (.type "method_descriptor")) (hm : MtM X id r)
    (k : ∀ (F H : Hp) (a : Addr) (xs ps : List PV) (ws vs : List V) (q' p : PV) (Q : VK), H a = some (.lst ws) → Le F H → F a = none → Rs g.C F xs ws → Rs g.C F ps vs → sem (.lst xs) ps = some (q', p) →
      (∀ ws' xs' w, q' = .lst xs' → Rs g.C F xs' ws' → R g.C F p w → Q w (upd H a (.lst ws'))) → r (.ref a) vs H Q) : WRule X g "list" name sem := by
  refine ⟨by decide, id, PySem.F.plainAttrs_list, sl, ty, ?_⟩
  intro pins s σ F H env i b a q q' r' ps vs us Q I S hi hv r1 rv rs hk hs kk
  cases q <;> try (exact absurd hk (by simp only [kd]; decide))
  rename_i xs
  obtain ⟨ws, e1, e2⟩ := r1
  obtain ⟨ad, z1, z2, z3, _⟩ := S.ow i b _ hi
  rw [hv] at z1; cases z1
  refine hm pins s σ H (.ref a) vs (.ref a) us Q I rfl rv (k F H a xs ps ws vs q' r' Q e1 S.sub z3 e2 rs hs fun ws' xs' w eq rr rw' => ?_)
  subst eq
  refine kk F _ w (Ex.refl F) (S.write hi hv ?_) rw'
  simp only [R1]
  exact ⟨ws', upd_same, rr⟩
theorem semAppend_inv {q q' p : PV} {ps : List PV} (h : semAppend q ps = some (q', p)) : ∃ xs y, q = .lst xs ∧ ps = [y] ∧ xs.length < big ∧ q' = .lst (xs ++ [y]) ∧ p = .non := by
  unfold semAppend at h
  split at h
  · split at h
    · cases h; exact ⟨_, _, rfl, rfl, by assumption, rfl, rfl⟩
    · cases h
  · cases h
theorem w_append : WRule X g "list" "append" semAppend := w_list PySem.F.slot_list_append PySem.F.type_list_append mt_append fun F H a xs ps ws vs q' p Q e1 l nf r rs hs k => by
  obtain ⟨_, y, e, rfl, hl, rfl, rfl⟩ := semAppend_inv hs
  cases e
  obtain ⟨v, t, rfl, ry, rt⟩ := rs.cons_inv
  obtain rfl := rt.nil_inv
  exact ⟨a, ws, v, rfl, rfl, e1, by rw [r.length, big_eq]; exact hl, k _ _ _ rfl (r.snoc ry) (by unfold R; rfl)⟩
theorem semExtend_inv {q q' p : PV} {ps : List PV} (h : semExtend q ps = some (q', p)) : ∃ xs ys, q = .lst xs ∧ ps = [.lst ys] ∧ xs.length + ys.length ≤ big ∧ q' = .lst (xs ++ ys) ∧ p = .non := by
  unfold semExtend at h
  split at h
  · split at h
    · cases h; exact ⟨_, _, rfl, rfl, by assumption, rfl, rfl⟩
    · cases h
  · cases h
theorem w_extend : WRule X g "list" "extend" semExtend := w_list PySem.F.slot_list_extend PySem.F.type_list_extend mt_extend fun F H a xs ps ws vs q' p Q e1 l nf r rs hs k => by
  obtain ⟨_, ys, e, rfl, hl, rfl, rfl⟩ := semExtend_inv hs
  cases e
  obtain ⟨v, t, rfl, ry, rt⟩ := rs.cons_inv
  obtain rfl := rt.nil_inv
  unfold R at ry
  obtain ⟨b, us, rfl, e2, r2⟩ := ry
  exact ⟨a, b, ws, us, rfl, rfl, e1, l.lst e2, by rw [r.length, r2.length, big_eq]; exact hl, k _ _ _ rfl (r.append r2) (by unfold R; rfl)⟩
theorem Rs.dropLast {C : Ct} {F : Hp} {xs : List PV} {vs : List V} (h : Rs C F xs vs) : Rs C F xs.dropLast vs.dropLast := by
  rw [List.dropLast_eq_take, List.dropLast_eq_take, h.length]
  exact h.take _
theorem mtm_or {id : String} {r r' : V → List V → Hp → VK → Prop} (h : MtM X id r) (h' : MtM X id r') : MtM X id (fun x xs H Q => r x xs H Q ∨ r' x xs H Q) := by
  intro pins s σ H x xs v us Q I rx rs q
  rcases q with q | q
  · exact h pins s σ H x xs v us Q I rx rs q
  · exact h' pins s σ H x xs v us Q I rx rs q
theorem semPop_inv {q q' p : PV} {ps : List PV} (h : semPop q ps = some (q', p)) : (∃ xs, q = .lst xs ∧ ps = [] ∧ xs.getLast? = some p ∧ q' = .lst xs.dropLast) ∨ (∃ xs i k, q = .lst xs ∧ ps = [.int i] ∧ (-(2 ^ 63) ≤ i ∧ i < 2 ^ 63) ∧ ixN xs.length i = some k ∧ xs[k]? = some p ∧ q' = .lst (xs.eraseIdx k)) := by
  unfold semPop at h
  split at h
  · simp only [Option.map_eq_some_iff] at h
    obtain ⟨y, hy, e⟩ := h
    cases e
    exact .inl ⟨_, rfl, rfl, hy, rfl⟩
  · split at h
    · rename_i hl
      simp only [Option.bind_eq_some_iff, Option.map_eq_some_iff] at h
      obtain ⟨k, hk, y, hy, e⟩ := h
      cases e
      exact .inr ⟨_, _, k, rfl, rfl, (by have := r62_ok hl; omega), hk, hy, rfl⟩
    · cases h
  · cases h
theorem w_pop : WRule X g "list" "pop" semPop := w_list PySem.F.slot_list_pop PySem.F.type_list_pop (mtm_or mt_pop mt_popAt) fun F H a xs ps ws vs q' p Q e1 l nf r rs hs k => by
  rcases semPop_inv hs with ⟨_, e, rfl, hy, rfl⟩ | ⟨_, i, j, e, rfl, hl, hj, hy, rfl⟩
  · cases e
    obtain rfl := rs.nil_inv
    have hy' : xs[xs.length - 1]? = some p := by rw [← hy, List.getLast?_eq_getElem?]
    obtain ⟨v, hv, rv⟩ := r.get hy'
    exact .inl ⟨a, ws, v, rfl, rfl, e1, by rw [r.length]; exact hv, k _ _ _ rfl r.dropLast rv⟩
  · cases e
    obtain ⟨v, t, rfl, ry, rt⟩ := rs.cons_inv
    obtain rfl := rt.nil_inv
    unfold R at ry
    subst ry
    obtain ⟨u, hu, ru⟩ := r.get hy
    exact .inr ⟨a, ws, i, j, u, rfl, rfl, e1, hl.1, hl.2, by rw [r.length]; exact (ixN_seq hj).1, hu, k _ _ _ rfl (r.eraseIdx j) ru⟩
theorem semClear_inv {q q' p : PV} {ps : List PV} (h : semClear q ps = some (q', p)) : ∃ xs, q = .lst xs ∧ ps = [] ∧ q' = .lst [] ∧ p = .non := by
  unfold semClear at h
  split at h
  · cases h; exact ⟨_, rfl, rfl, rfl, rfl⟩
  · cases h
theorem w_clear : WRule X g "list" "clear" semClear := w_list PySem.F.slot_list_clear PySem.F.type_list_clear mt_clear fun F H a xs ps ws vs q' p Q e1 l nf r rs hs k => by
  obtain ⟨_, e, rfl, rfl, rfl⟩ := semClear_inv hs
  cases e
  obtain rfl := rs.nil_inv
  exact ⟨a, ws, rfl, rfl, e1, k _ _ _ rfl Rs.nil (by unfold R; rfl)⟩
end
end VL

set_option maxRecDepth 100000
set_option maxHeartbeats 2000000
namespace VL
open PySem PySem.Spec L2
open PyProof.Rows hiding St
/-- an iterator that yields what ps says while F1's things stand -/
structure WalkP (C : Ct) (J : It) (F1 : Hp) (ps : List PV) : Prop where
  goes : ∀ (g : Gm) (i : Nat) (F H : Hp) (σ : St) (env : Env'), g.C = C → i < ps.length → Ex F1 F → Stt g F H σ env → J.go i H
  stops : ∀ (g : Gm) (F H : Hp) (σ : St) (env : Env'), g.C = C → Ex F1 F → Stt g F H σ env → J.stop ps.length H
  ylds : ∀ (g : Gm) (i : Nat) (p : PV) (F H : Hp) (σ : St) (env : Env') (x : V) (H' : Hp), g.C = C → ps[i]? = some p → Ex F1 F → Stt g F H σ env → J.yld i H x H' → ∃ F', Ex F F' ∧ Stt g F' H' σ env ∧ R C F' p x
def tI (g : Gm) (di : Env' → Res (List PV)) : TI := fun σ H Rr => ∃ F env, Stt g F H σ env ∧ Go g F σ (di env) fun ps env' F' H' => ∀ J, WalkP g.C J F' ps → Rr J H'
def forL (u : UG) (db : Env' → Res Fl) : List PV → Env' → Res Fl
  | [], e => .ok .nx e
  | p :: ps, e => match u p e with
    | none => .bad
    | some e1 => (db e1).bind fun f e2 => match f with
      | .nx => forL u db ps e2
      | .ct => forL u db ps e2
      | .bk => .ok .nx e2
      | x => .ok x e2
def dFor (di : Env' → Res (List PV)) (u : UG) (db : Env' → Res Fl) : Env' → Res Fl := fun e => (di e).bind fun ps e1 => forL u db ps e1
section
variable {X : Cx} {g : Gm} {pins : List (Addr × Obj)} {F H F' H' : Hp} {σ : St} {env env' : Env'} {s : Shared} {a b c : Expr} {da db dc : Env' → Res Val} {pos : Pos} {D : Ends} {d1 d2 : Env' → Res Fl}
theorem ss_for {tg it : Expr} {body : List Stmt} {di : Env' → Res (List PV)} {u : UG} {js : List Nat} (hp : PassesOwn (model X.prog X.w) X.A X.env X.xe) (ok : Ok X g) (hi : PI X tg it (tI g di)) (hg : PG X tg (tG g u js)) (hb : PSs X body (tS g d1))
    (hs : ∀ x, foldedSetIterable it X.env x = pure x) : PS X (.For tg it body [] pos) (tS g (dFor di u d1)) := by
  refine psImp (ps_for hp ok.calm hi hg hb hs) fun D σ H ⟨F, env, S, go⟩ => ⟨F, env, S, (GoS.bindE (σ := σ) go).mono fun ps e1 F1 H1 x1 S1 k J w => ?_⟩
  refine ⟨fun i m σ H => ∃ F env, Ex F1 F ∧ Stt g F H σ env ∧ m = ps.length - i ∧ i ≤ ps.length ∧ GoS g F (forL u d1 (ps.drop i) env) D, ⟨ps.length, F1, e1, Ex.refl F1, S1, by omega, Nat.zero_le _, by rw [List.drop_zero]; exact k⟩, ?_⟩
  rintro i m σ2 H2 ⟨F2, e2, x2, S2, rfl, hle, go2⟩
  by_cases hlt : i < ps.length
  · right
    have hd : ps.drop i = ps[i] :: ps.drop (i + 1) := List.drop_eq_getElem_cons hlt
    rw [hd] at go2
    unfold forL at go2
    refine ⟨w.goes g i F2 H2 σ2 e2 rfl hlt x2 S2, fun σ' H' => ∃ F env, Ex F1 F ∧ Stt g F H' σ' env ∧ GoS g F (forL u d1 (ps.drop (i + 1)) env) D, fun σ' H' ⟨F3, e3, x3, S3, go3⟩ => ⟨ps.length - (i + 1), by omega, F3, e3, x3, S3, rfl, hlt, go3⟩, fun x H' y => ?_⟩
    obtain ⟨F3, x3, S3, r3⟩ := w.ylds g i ps[i] F2 H2 σ2 e2 x H' rfl (List.getElem?_eq_getElem hlt) x2 S2 y
    cases h : u ps[i] e2 with
    | none => rw [h] at go2; exact go2.elim
    | some e3 =>
      rw [h] at go2
      refine ⟨F3, e2, ps[i], e3, S3, r3, h, fun σ' S' _ _ => ⟨F3, e3, S', ?_⟩⟩
      have go3 := GoS.up go2 x3
      dsimp only at go3
      cases q : d1 e3 with
      | bad => rw [q] at go3; exact go3
      | err y e' => rw [q] at go3; exact go3
      | ok y e' =>
        rw [q] at go3
        cases y with
        | nx => exact fun F4 H4 σ4 x4 S4 => ⟨F4, e', (x2.trans x3).trans x4, S4, GoS.up go3 x4⟩
        | ct => exact fun F4 H4 σ4 x4 S4 => ⟨F4, e', (x2.trans x3).trans x4, S4, GoS.up go3 x4⟩
        | bk => exact go3
        | rt x => exact go3
  · left
    have e : i = ps.length := by omega
    subst e
    rw [List.drop_length] at go2
    exact ⟨w.stops g F2 H2 σ2 e2 rfl x2 S2, go2 F2 H2 σ2 (Ex.refl F2) S2⟩
/-! ### what is walked -/
theorem walkP_list {ps : List PV} {ad : Addr} {vs : List V} {C : Ct} (ha : F ad = some (.lst vs)) (rs : Rs C F ps vs) : WalkP C (Itl C.K ad) F ps where
  goes := fun g i F2 H2 σ2 e2 hC hi x2 S2 => by
    obtain ⟨v, hv, rv⟩ := rs.get (List.getElem?_eq_getElem hi)
    exact ⟨vs, v, SqL.of (S2.sub.lst (x2 _ _ ha)), hv⟩
  stops := fun g F2 H2 σ2 e2 hC x2 S2 => ⟨vs, SqL.of (S2.sub.lst (x2 _ _ ha)), by rw [rs.length]; exact Nat.le_refl _⟩
  ylds := fun g i p F2 H2 σ2 e2 x H' hC hi x2 S2 y => by
    obtain ⟨rfl, y⟩ := y
    obtain ⟨v, hv, rv⟩ := rs.get hi
    have := y vs (SqL.of (S2.sub.lst (x2 _ _ ha)))
    rw [hv] at this; cases this
    exact ⟨F2, Ex.refl F2, S2, rv.mono x2.le⟩
theorem walkP_tup {ps : List PV} {ad : Addr} {vs : List V} {C : Ct} (ha : F ad = some (.tup vs)) (rs : Rs C F ps vs) : WalkP C (Itt C.K ad) F ps where
  goes := fun g i F2 H2 σ2 e2 hC hi x2 S2 => by
    obtain ⟨v, hv, rv⟩ := rs.get (List.getElem?_eq_getElem hi)
    exact ⟨vs, v, .inl (.inl (S2.sub.tup (x2 _ _ ha))), hv⟩
  stops := fun g F2 H2 σ2 e2 hC x2 S2 => ⟨vs, .inl (.inl (S2.sub.tup (x2 _ _ ha))), by rw [rs.length]; exact Nat.le_refl _⟩
  ylds := fun g i p F2 H2 σ2 e2 x H' hC hi x2 S2 y => by
    obtain ⟨rfl, y⟩ := y
    obtain ⟨v, hv, rv⟩ := rs.get hi
    have := y vs (.inl (.inl (S2.sub.tup (x2 _ _ ha))))
    rw [hv] at this; cases this
    exact ⟨F2, Ex.refl F2, S2, rv.mono x2.le⟩
theorem walkP_scr {ns : List Int} {ad : Addr} {C : Ct} (ha : SqL C.K F ad (ns.map V.int)) : WalkP C (Itl C.K ad) F (ns.map PV.int) where
  goes := fun g i F2 H2 σ2 e2 hC hi x2 S2 => by
    obtain ⟨v, hv, rv⟩ := (Rs.of_ints (C := C) (F := F) ns).get (List.getElem?_eq_getElem hi)
    exact ⟨_, v, (Le.of_ex x2 S2.sub).sqL ha, hv⟩
  stops := fun g F2 H2 σ2 e2 hC x2 S2 => ⟨_, (Le.of_ex x2 S2.sub).sqL ha, by simp⟩
  ylds := fun g i p F2 H2 σ2 e2 x H' hC hi x2 S2 y => by
    obtain ⟨rfl, y⟩ := y
    obtain ⟨v, hv, rv⟩ := (Rs.of_ints (C := C) (F := F) ns).get hi
    have := y _ ((Le.of_ex x2 S2.sub).sqL ha)
    rw [hv] at this; cases this
    exact ⟨F2, Ex.refl F2, S2, rv.mono x2.le⟩
def chars (z : Str) : List PV := z.cps.toList.map fun c => .str ⟨#[c]⟩
theorem walkP_str {z : Str} {C : Ct} : WalkP C (Its z) F (chars z) where
  goes := fun g i F2 H2 σ2 e2 hC hi x2 S2 => by
    have : i < z.cps.size := by simpa [chars] using hi
    exact this
  stops := fun g F2 H2 σ2 e2 hC x2 S2 => by
    show z.cps.size ≤ (chars z).length
    simp [chars]
  ylds := fun g i p F2 H2 σ2 e2 x H' hC hi x2 S2 y => by
    obtain ⟨rfl, c, hc, rfl⟩ := y
    refine ⟨F2, Ex.refl F2, S2, ?_⟩
    have : p = .str ⟨#[c]⟩ := by
      unfold chars at hi
      rw [List.getElem?_map, Array.getElem?_toList, hc] at hi
      cases hi; rfl
    subst this
    unfold R; rfl
def rngP (lo : Int) (n : Nat) : List PV := (List.range n).map fun (i : Nat) => .int (lo + i)
theorem rngP_at {lo : Int} {n i : Nat} {p : PV} (h : (rngP lo n)[i]? = some p) : p = .int (lo + i) := by
  unfold rngP at h
  rw [List.getElem?_map] at h
  cases q : (List.range n)[i]? with
  | none => rw [q] at h; cases h
  | some j =>
    rw [q] at h; cases h
    rw [List.getElem?_range] at q
    · cases q; rfl
    · rw [List.getElem?_eq_some_iff] at q
      obtain ⟨q, _⟩ := q
      simpa using q
theorem walkP_rng {lo : Int} {n : Nat} {C : Ct} : WalkP C (Itr lo n) F (rngP lo n) where
  goes := fun g i F2 H2 σ2 e2 hC hi x2 S2 => by
    have : i < n := by simpa [rngP] using hi
    exact this
  stops := fun g F2 H2 σ2 e2 hC x2 S2 => by
    show n ≤ (rngP lo n).length
    simp [rngP]
  ylds := fun g i p F2 H2 σ2 e2 x H' hC hi x2 S2 y => by
    obtain ⟨rfl, rfl⟩ := y
    obtain rfl := rngP_at hi
    exact ⟨F2, Ex.refl F2, S2, by unfold R; rfl⟩
def rngC (lo c : Int) (n : Nat) : List PV := (List.range n).map fun (i : Nat) => .int (lo + i * c)
theorem walkP_rngC {lo c : Int} {n : Nat} {C : Ct} : WalkP C (Itc lo c n) F (rngC lo c n) where
  goes := fun g i F2 H2 σ2 e2 hC hi x2 S2 => by
    have : i < n := by simpa [rngC] using hi
    exact this
  stops := fun g F2 H2 σ2 e2 hC x2 S2 => by
    show n ≤ (rngC lo c n).length
    simp [rngC]
  ylds := fun g i p F2 H2 σ2 e2 x H' hC hi x2 S2 y => by
    obtain ⟨rfl, rfl⟩ := y
    have : p = .int (lo + i * c) := by
      unfold rngC at hi
      rw [List.getElem?_map] at hi
      cases q : (List.range n)[i]? with
      | none => rw [q] at hi; cases hi
      | some j =>
        rw [q] at hi; cases hi
        rw [List.getElem?_range] at q
        · cases q; rfl
        · rw [List.getElem?_eq_some_iff] at q
          obtain ⟨q, _⟩ := q
          simpa using q
    subst this
    exact ⟨F2, Ex.refl F2, S2, by unfold R; rfl⟩
theorem piImp {tg e : Expr} {t t' : TI} (h : PI X tg e t) (k : ∀ σ H Q, t' σ H Q → t σ H Q) : PI X tg e t' := ⟨fun pins s σ H Q I q => h.run pins s σ H Q I (k σ H Q q)⟩
/-- range -/
def dRng1 (d : Env' → Res Val) : Env' → Res (List PV) := fun e => (dArgs [d] e).bind fun xs e1 => match peeks e1 xs with
  | some [.int j] => if r62 j = true then .ok (rngP 0 j.toNat) e1 else .bad
  | _ => .bad
def dRng2 (d d' : Env' → Res Val) : Env' → Res (List PV) := fun e => (dArgs [d, d'] e).bind fun xs e1 => match peeks e1 xs with
  | some [.int i, .int j] => if r62 i = true ∧ r62 j = true then .ok (rngP i (j - i).toNat) e1 else .bad
  | _ => .bad
/-- the third one -1 -/
def dRng3 (d d' d'' : Env' → Res Val) : Env' → Res (List PV) := fun e => (dArgs [d, d', d''] e).bind fun xs e1 => match peeks e1 xs with
  | some [.int i, .int j, .int k] => if k = -1 ∧ r62 i = true ∧ r62 j = true then .ok (rngC i (-1) (i - j).toNat) e1 else .bad
  | _ => .bad
theorem si_range1 {tg e : Expr} {d : Env' → Res Val} {p pos : Pos} (hg : Gl X "range") (hm : X.mg "range" = none) (ha : PA X [e] (tAs g (dArgs [d]))) (hs : starEach [e] X.env = [(false, eval e X.env)]) :
    PI X tg (.Call (.Name "range" p) [e] [] pos) (tI g (dRng1 d)) :=
  piImp (pi_range1 hg hm ha hs) fun σ H Q ⟨F, env, S, go⟩ => ⟨F, env, S, (Go.bind go).mono fun xs e1 F1 H1 x1 S1 k vs o r => by
    split at k
    · rename_i j hp
      split at k
      · rename_i hb
        have t := peeks_ok S1 r hp
        obtain ⟨v, q, rfl, t1, t2⟩ := t
        cases rt_int t1
        cases (show q = [] from t2)
        exact ⟨j, rfl, (r62_ok hb).1, (r62_ok hb).2, k F1 H1 (Ex.refl F1) S1 _ walkP_rng⟩
      · exact k.elim
    · exact k.elim⟩
theorem si_range2 {tg e e' : Expr} {d d' : Env' → Res Val} {p pos : Pos} (hg : Gl X "range") (hm : X.mg "range" = none) (ha : PA X [e, e'] (tAs g (dArgs [d, d']))) (hs : starEach [e, e'] X.env = [(false, eval e X.env), (false, eval e' X.env)]) (hs2 : starEach [e'] X.env = [(false, eval e' X.env)]) :
    PI X tg (.Call (.Name "range" p) [e, e'] [] pos) (tI g (dRng2 d d')) :=
  piImp (pi_range2 hg hm ha hs hs2) fun σ H Q ⟨F, env, S, go⟩ => ⟨F, env, S, (Go.bind go).mono fun xs e1 F1 H1 x1 S1 k vs o r => by
    split at k
    · rename_i i j hp
      split at k
      · rename_i hb
        have t := peeks_ok S1 r hp
        obtain ⟨v, q, rfl, t1, v', q', rfl, t2, t3⟩ := t
        cases rt_int t1; cases rt_int t2
        cases (show q' = [] from t3)
        exact ⟨i, j, rfl, ⟨(r62_ok hb.1).1, (r62_ok hb.1).2, (r62_ok hb.2).1, (r62_ok hb.2).2⟩, k F1 H1 (Ex.refl F1) S1 _ walkP_rng⟩
      · exact k.elim
    · exact k.elim⟩
theorem si_range3 {tg e e' e'' : Expr} {d d' d'' : Env' → Res Val} {p pos : Pos} (hg : Gl X "range") (hm : X.mg "range" = none) (ha : PA X [e, e', e''] (tAs g (dArgs [d, d', d'']))) (hs : starEach [e, e', e''] X.env = (false, eval e X.env) :: starEach [e', e''] X.env) (hpl : (backTo pos (starEach [e', e''] X.env)).any (·.1) = false) :
    PI X tg (.Call (.Name "range" p) [e, e', e''] [] pos) (tI g (dRng3 d d' d'')) :=
  piImp (pi_range3 hg hm ha hs hpl) fun σ H Q ⟨F, env, S, go⟩ => ⟨F, env, S, (Go.bind go).mono fun xs e1 F1 H1 x1 S1 k vs o r => by
    split at k
    · rename_i i j l hp
      split at k
      · rename_i hb
        obtain ⟨rfl, g1, g2⟩ := hb
        obtain ⟨h1, h2⟩ := r62_ok g1
        obtain ⟨h3, h4⟩ := r62_ok g2
        have t := peeks_ok S1 r hp
        obtain ⟨v, q, rfl, t1, v', q', rfl, t2, v'', q'', rfl, t3, t4⟩ := t
        cases rt_int t1; cases rt_int t2; cases rt_int t3
        cases (show q'' = [] from t4)
        exact ⟨i, j, -1, (i - j).toNat, rfl, RgC.neg h1 h2 h3 h4, k F1 H1 (Ex.refl F1) S1 _ walkP_rngC⟩
      · exact k.elim
    · exact k.elim⟩
/-- a value walked: a list, a tuple, the script, a text -/
def itemsP : PV → Option (List PV)
  | .lst xs => some xs
  | .tup xs => some xs
  | .scr ns => some (ns.map PV.int)
  | .str z => some (chars z)
  | _ => none
def dItems (d : Env' → Res Val) : Env' → Res (List PV) := fun e => (stl d e).bind fun x e1 => (frz x e1).bind fun p e2 => match itemsP p with
  | some ps => .ok ps e2
  | none => .bad
theorem si_val {tg e : Expr} {d : Env' → Res Val} (hK : g.C.K = X.K) (he : PE X e (tE g d)) : PI X tg e (tI g (dItems d)) := by
  refine ⟨fun pins s σ H Rr I ⟨F, env, S, go⟩ => ?_⟩
  refine thn (peGo he I S go) fun v s1 ⟨x, H1, I1, r1, F1, e1, y, x1, S1, o1, rv1, go1⟩ => ?_
  obtain ⟨F2, p, e2, x2, S2, r2, go2⟩ := frz_go S1 rv1 go1
  cases hp : itemsP p with
  | none => simp only [hp] at go2; exact go2.elim
  | some ps =>
    simp only [hp] at go2
    have q := go2 F2 H1 (Ex.refl F2) S2
    cases p with
    | lst xs =>
      cases hp
      unfold R at r2
      obtain ⟨ad, vs, rfl, ha, rs⟩ := r2
      cases r1
      obtain ⟨its, rv, pl, hz⟩ := I1.list (SqL.of (K := X.K) (S2.sub.lst ha))
      exact wpAny_pyIter_list pl.isList (pi_one (tk := s1.toks) I1 _ (turn_list ad _) ⟨_, Heap.get?_push_size _ rfl, rfl, rfl⟩ (by rw [← hK]; exact q _ (walkP_list ha rs)))
    | tup xs =>
      cases hp
      unfold R at r2
      obtain ⟨ad, vs, rfl, ha, rs⟩ := r2
      cases r1
      obtain ⟨its, rv, pl, hz⟩ := I1.tuple (.inl (.inl (S2.sub.tup ha)))
      exact wpAny_pyIter_tuple (show s1.heap.IsTuple ad its.toArray from pl) (pi_one (tk := s1.toks) I1 _ (turn_tuple ad _) ⟨_, Heap.get?_push_size _ rfl, rfl, rfl⟩ (by rw [← hK]; exact q _ (walkP_tup ha rs)))
    | scr ns =>
      cases hp
      unfold R at r2
      obtain ⟨ad, rfl, ha⟩ := r2
      cases r1
      rw [hK] at ha
      obtain ⟨its, rv, pl, hz⟩ := I1.list (S2.sub.sqL ha)
      exact wpAny_pyIter_list pl.isList (pi_one (tk := s1.toks) I1 _ (turn_list ad _) ⟨_, Heap.get?_push_size _ rfl, rfl, rfl⟩ (by rw [← hK]; exact q _ (walkP_scr (by rw [hK]; exact ha))))
    | str z =>
      cases hp
      unfold R at r2
      subst r2
      obtain ⟨t, rfl⟩ := r1
      cases ha : z.cps.all (· < 128)
      · exact wpAny_pyIter_wide ha (pi_one (tk := s1.toks) I1 _ (turn_str _ z t "str_iterator" (.inr rfl)) ⟨_, Heap.get?_push_size _ rfl, rfl, rfl⟩ (q _ walkP_str))
      · exact wpAny_pyIter_ascii ha (pi_one (tk := s1.toks) I1 _ (turn_str _ z t "str_ascii_iterator" (.inl rfl)) ⟨_, Heap.get?_push_size _ rfl, rfl, rfl⟩ (q _ walkP_str))
    | _ => cases hp
end
end VL

set_option maxRecDepth 100000
set_option maxHeartbeats 2000000
namespace PySem
open Sem (wp)
open AutoSeq1 (wpAny_loadPart')
theorem vl_enumT (l : Addr) (items : Array Value) (n : Nat) (dct : Option Addr) (sl : Array (Option Value)) :
    Meets (Builtin.«enumerate.__new__» ⟨[.type "enumerate", .ref l], []⟩) (fun _ R s => s.heap.get? l = some { cls := .type "tuple", dict := dct, data := .seq items n, slots := sl } ∧
      R (.ok (.ret (.ref (s.heap.push { cls := .type "tuple_iterator", data := .fields #[.ref l, .int 0 0] }).objs.size)))
        { s with heap := (s.heap.push { cls := .type "tuple_iterator", data := .fields #[.ref l, .int 0 0] }).push { cls := .type "enumerate", data := .fields #[.none, .bool false, .ref s.heap.objs.size, rawInt 0, .none, .none] } }) :=
  .of_wp fun prog w A R s h => by
    obtain ⟨hp, g, d, tk, os⟩ := s; obtain ⟨hl, h⟩ := h
    have hsub := sub_enumerate
    have hL : Heap.IsTuple (Shared.heap ⟨hp, g, d, tk, os⟩) l items := ⟨_, hl, rfl, n, rfl⟩
    wp_walk using wpAny_loadPart' hl
    refine wpAny_stack_any fun st => wpAny_pure ?_
    split
    · rename_i c _ _ _ _ _
      cases (c == Value.type "enumerate")
      · wp_walk using wpAny_loadPart' hl, wpAny_pyIter_tuple hL
        exact ⟨_, rfl, h⟩
      · wp_walk using wpAny_loadPart' hl, wpAny_pyIter_tuple hL
        exact ⟨_, rfl, h⟩
    · wp_walk using wpAny_loadPart' hl, wpAny_pyIter_tuple hL
      exact ⟨_, rfl, h⟩
section
variable {prog : Program} {w : World} {A : Around} {E : Value → Shared → Prop} {s : Shared}
theorem vl_call_enumT {l : Addr} {items : Array Value} {Q : Value → Shared → Prop} (hL : s.heap.IsTuple l items)
    (h : ∀ h', IsEnum h' (s.heap.objs.size + 1) s.heap.objs.size 0 .none → h'.IsTupleIter s.heap.objs.size l 0 → h'.objs.size = s.heap.objs.size + 2 →
      (∀ b o, s.heap.get? b = some o → h'.get? b = some o) → Q (.ref (s.heap.objs.size + 1)) { s with heap := h' }) :
    wpAny (model prog w) A (call (.type "enumerate") [.ref l]) Q E s := by
  obtain ⟨⟨c, dct, dt, sl⟩, hl, hc, n, hd⟩ := hL
  replace hc : c = .type "tuple" := hc
  replace hd : dt = .seq items n := hd
  subst hc hd
  refine callType_new F.called_enumerate (by decide) (F.typeCall_enumerate_1 _) (F.newCall_enumerate_1 _) (fun obj => F.args_object_init_2 obj _) F.entry_enumerate_new
    (vl_enumT l items n dct sl) ⟨hl, ?_⟩
  have hz : (s.heap.push { cls := .type "tuple_iterator", data := .fields #[.ref l, .int 0 0] }).objs.size = s.heap.objs.size + 1 := Heap.size_push ..
  show _ ∧ _
  rw [hz]
  have he : IsEnum ((s.heap.push { cls := .type "tuple_iterator", data := .fields #[.ref l, .int 0 0] }).push
      { cls := .type "enumerate", data := .fields #[.none, .bool false, .ref s.heap.objs.size, rawInt 0, .none, .none] }) (s.heap.objs.size + 1) s.heap.objs.size 0 .none := by
    have := Heap.get?_push_size (s.heap.push { cls := .type "tuple_iterator", data := .fields #[.ref l, .int 0 0] })
      (o := { cls := .type "enumerate", data := .fields #[.none, .bool false, .ref s.heap.objs.size, rawInt 0, .none, .none] }) rfl
    rw [hz] at this; exact this
  refine ⟨⟨_, he, rfl⟩, h _ he ⟨_, Heap.get?_push_of_some _ (Heap.get?_push_size _ rfl), rfl, rfl⟩ (by rw [Heap.size_push, hz]) fun b o x => Heap.get?_push_of_some _ (Heap.get?_push_of_some _ x)⟩
end
theorem vl_draws_tuple {prog : Program} {w : World} {A : Around} (hh : A.handled = none) (it l : Addr) (hne : l ≠ it) (items : Array Value) :
    Draws prog w A it [it, l] items.size (fun i v => items[i]? = some v) (fun i h => h.IsTupleIter it l i ∧ h.IsTuple l items) where
  live := fun _ _ st => let ⟨o, ho, _⟩ := st.1; ⟨o, ho⟩
  frame := fun _ _ _ st hk => ⟨st.1.at fun o e => hk it (by simp) o e, let ⟨o, ho, r⟩ := st.2; ⟨o, hk l (by simp) o ho, r⟩⟩
  item := fun i s Q E hi st hQ => by
    refine RZ.nextOf_tuple_item st.1 st.2 (x := items[i]) (by simp [hi]) fun h' hit' hs' => ?_
    obtain ⟨o, ho, r⟩ := st.2
    exact hQ _ h' s.toks (by simp [hi]) ⟨hit', ⟨o, (hs'.2 l hne).trans ho, r⟩⟩ hs'
  done := fun s Q E st hE => RZ.nextOf_tuple_end hh st.1 st.2 (by simp) hE
end PySem
namespace VL
open PySem PySem.Spec L2
open PyProof.Rows hiding St
theorem ty_ne {a b : String} (h : a ≠ b) : Value.type a ≠ Value.type b := fun q => h (Value.type.inj q)
def IteT (K : PySem.W.Frag) (a : Addr) : It :=
  ⟨fun i H => ∃ (xs : List V) (x : V), SqT K H a xs ∧ xs[i]? = some x, fun i H v H' => ∃ T x, v = .ref T ∧ H T = none ∧ H' = upd H T (.tup [.int (i : Nat), x]) ∧ ∀ xs, SqT K H a xs → xs[i]? = some x, fun i H => ∃ xs : List V, SqT K H a xs ∧ xs.length = i⟩
theorem turn_enumT {P : Program} {w : World} {K : PySem.W.Frag} {elts : List Expr} {kk : Nat} {tpos : Pos} (a e it : Addr) :
    Turn P w K (.Tuple elts kk tpos) (IteT K a) [e, it] e (fun i h => (∃ old, IsEnum h e it ((i : Nat) : Int) old) ∧ h.IsTupleIter it a i ∧ e ≠ it) where
  mem := by simp
  obj := fun i h st b hb => by
    obtain ⟨⟨old, he⟩, ⟨o, ho, hc, hd⟩, _⟩ := st
    have e' : b = e ∨ b = it := by simpa using hb
    rcases e' with z | z
    · rw [z]; exact ⟨_, he, fun v q => nomatch q⟩
    · rw [z]; exact ⟨o, ho, fun v q => by rw [hd] at q; cases q⟩
  keep := fun i h h' st k => let ⟨⟨old, he⟩, hi, hne⟩ := st; ⟨⟨old, k e (by simp) _ he⟩, hi.at fun o q => k it (by simp) o q, hne⟩
  item := by
    intro X hP hw hK hc i pins s σ H E I hf st hg
    subst hP hw hK
    obtain ⟨⟨old, he⟩, hit, hne⟩ := st
    obtain ⟨xs, x, hq, hx⟩ := hg
    obtain ⟨its, rv, p, hz⟩ := I.tuple hq
    have p' : s.heap.IsTuple a its.toArray := p
    have hel : e < s.heap.objs.size := Heap.lt_size he
    have hil : it < s.heap.objs.size := by obtain ⟨_, q, _⟩ := hit; exact Heap.lt_size q
    have hai : a ≠ it := fun z => by
      obtain ⟨o, q1, q2, _⟩ := hit
      obtain ⟨o', q1', q2', _⟩ := p'
      rw [z, q1] at q1'; cases q1'
      exact absurd (q2.symm.trans q2') (ty_ne (by decide))
    have hae : e ≠ a := fun z => by
      obtain ⟨o', q1', q2', _⟩ := p'
      rw [← z, he] at q1'; cases q1'
      exact absurd q2' (ty_ne (by decide))
    have hlt : i < its.toArray.size := by
      have := rv.length
      have hh : i < xs.length := by rw [List.getElem?_eq_some_iff] at hx; exact hx.1
      rw [List.size_toArray]; omega
    refine wpAny_pyNext_enum_itemD (vl_draws_tuple (A := X.A.in1) (I.ok.hd hc) it a hai its.toArray) he ⟨hit, p'⟩ hlt hne (by simp [hne, hae]) fun u h' tk hPu ho hit' hT hsz hk => ?_
    obtain ⟨hit', _⟩ := hit'
    have hu : its[i]? = some u := by simpa using hPu
    have ru : RelV x u := by
      obtain ⟨u', hu', r⟩ := rv.get hx
      rw [hu] at hu'; cases hu'
      exact r
    refine ⟨_, rfl, wpAny_letOwnedTupleGo_enum (s := { s with heap := h', toks := tk + 1 }) ho fun h'' he' sb => ?_⟩
    have hT2 : h''.get? s.heap.objs.size = some { cls := .type "tuple", data := .seq #[.int i tk, u] } := (sb.2 _ (Nat.ne_of_gt hel)).trans hT
    have new : ObjOk X.prog X.w (upd H s.heap.objs.size (.tup [.int (i : Nat), x])) h'' s.heap.objs.size (.tup [.int (i : Nat), x]) :=
      ⟨by show 2 ≤ sizeLine; decide, [.int i tk, u], .cons ⟨_, rfl⟩ (.cons ru .nil), ⟨_, hT2, rfl, _, rfl⟩⟩
    have I1 : Inv X pins σ (upd H s.heap.objs.size (.tup [.int (i : Nat), x])) { s with heap := h'', toks := tk + 1 } :=
      I.turnedNew (ch := [e, it]) (fun b ob hb q => (sb.2 b (fun z => hb (by simp [z]))).trans (hk b ob (fun z => hb (by simp [z])) (fun z => hb (by simp [z])) q)) hf (Nat.le_refl _) new
    refine ⟨.ref s.heap.objs.size, _, I1, rfl, ⟨_, x, rfl, I.hok.fresh (Nat.le_refl _), rfl, fun ys hy => by rw [I.tuple_inj hy hq]; exact hx⟩, ⟨⟨u, ?_⟩, hit'.at fun o q => (sb.2 it (Ne.symm hne)).trans q, hne⟩, fun b hb => ?_⟩
    · have e1 : ((i + 1 : Nat) : Int) = (i : Int) + 1 := by omega
      rw [e1]; exact he'
    · have hb' : b < s.heap.objs.size := by
        have e' : b = e ∨ b = it := by simpa using hb
        rcases e' with z | z
        · rw [z]; exact hel
        · rw [z]; exact hil
      rw [upd_ne (Nat.ne_of_lt hb')]
      exact (hf b hb).1
  done := by
    intro X hP hw hK hc i pins s σ H E I hf st hg
    subst hP hw hK
    obtain ⟨⟨old, he⟩, hit, hne⟩ := st
    obtain ⟨xs, hq, hx⟩ := hg
    obtain ⟨its, rv, p, hz⟩ := I.tuple hq
    have p' : s.heap.IsTuple a its.toArray := p
    have hai : a ≠ it := fun z => by
      obtain ⟨o, q1, q2, _⟩ := hit
      obtain ⟨o', q1', q2', _⟩ := p'
      rw [z, q1] at q1'; cases q1'
      exact absurd (q2.symm.trans q2') (ty_ne (by decide))
    obtain ⟨f0, f1, f2, f3, f4, f5⟩ := hf it (by simp)
    have hl := rv.length
    have hi : i = its.toArray.size := by rw [List.size_toArray]; omega
    subst hi
    exact wpAny_pyNext_enum_endD (vl_draws_tuple (A := X.A.in1) (I.ok.hd hc) it a hai its.toArray) he ⟨hit, p'⟩ fun h' eb => ⟨rfl, I.turned (t' := s.toks) (fun b o hb q => eb b o hb q) f0 f1 f3 f4 f5⟩
  self := fun A i s Q E st h => let ⟨⟨_, he⟩, _⟩ := st; wpAny_pyIter_enum he h
def IteS (z : Str) : It :=
  ⟨fun i _ => i < z.cps.size, fun i H v H' => ∃ T c, v = .ref T ∧ H T = none ∧ H' = upd H T (.tup [.int (i : Nat), .str ⟨#[c]⟩]) ∧ z.cps[i]? = some c, fun i _ => z.cps.size = i⟩
theorem turn_enumS {P : Program} {w : World} {K : PySem.W.Frag} {elts : List Expr} {kk : Nat} {tpos : Pos} (e it : Addr) (x : Str) (t : Tok) :
    Turn P w K (.Tuple elts kk tpos) (IteS x) [e, it] e (fun i h => (∃ old, IsEnum h e it ((i : Nat) : Int) old) ∧ h.IsStrIter it (strIterType x) x t i ∧ e ≠ it) where
  mem := by simp
  obj := fun i h st b hb => by
    obtain ⟨⟨old, he⟩, ⟨o, ho, hc, hd⟩, _⟩ := st
    have e' : b = e ∨ b = it := by simpa using hb
    rcases e' with z | z
    · rw [z]; exact ⟨_, he, fun v q => nomatch q⟩
    · rw [z]; exact ⟨o, ho, fun v q => by rw [hd] at q; cases q⟩
  keep := fun i h h' st k => let ⟨⟨old, he⟩, ⟨o, ho, r⟩, hne⟩ := st; ⟨⟨old, k e (by simp) _ he⟩, ⟨o, k it (by simp) o ho, r⟩, hne⟩
  item := by
    intro X hP hw hK hc i pins s σ H E I hf st hg
    subst hP hw hK
    obtain ⟨⟨old, he⟩, hit, hne⟩ := st
    have hel : e < s.heap.objs.size := Heap.lt_size he
    have hil : it < s.heap.objs.size := by obtain ⟨_, q, _⟩ := hit; exact Heap.lt_size q
    have hlt : i < x.cps.size := hg
    have DD : Draws X.prog X.w X.A.in1 it [it] x.cps.size (fun i v => ∃ c u, x.cps[i]? = some c ∧ v = .str ⟨#[c]⟩ u) (fun i h => h.IsStrIter it (strIterType x) x t i) := by
      unfold strIterType
      split
      · exact Draws.strAscii (A := X.A.in1) (I.ok.hd hc) it x t
      · exact Draws.strWide (A := X.A.in1) (I.ok.hd hc) it x t
    refine wpAny_pyNext_enum_itemD DD he hit hlt hne (by simp [hne]) fun u h' tk hPu ho hit' hT hsz hk => ?_
    obtain ⟨c, ut, hcx, rfl⟩ := hPu
    refine ⟨_, rfl, wpAny_letOwnedTupleGo_enum (s := { s with heap := h', toks := tk + 1 }) ho fun h'' he' sb => ?_⟩
    have hT2 : h''.get? s.heap.objs.size = some { cls := .type "tuple", data := .seq #[.int i tk, .str ⟨#[c]⟩ ut] } := (sb.2 _ (Nat.ne_of_gt hel)).trans hT
    have new : ObjOk X.prog X.w (upd H s.heap.objs.size (.tup [.int (i : Nat), .str ⟨#[c]⟩])) h'' s.heap.objs.size (.tup [.int (i : Nat), .str ⟨#[c]⟩]) :=
      ⟨by show 2 ≤ sizeLine; decide, [.int i tk, .str ⟨#[c]⟩ ut], .cons ⟨_, rfl⟩ (.cons ⟨_, rfl⟩ .nil), ⟨_, hT2, rfl, _, rfl⟩⟩
    have I1 : Inv X pins σ (upd H s.heap.objs.size (.tup [.int (i : Nat), .str ⟨#[c]⟩])) { s with heap := h'', toks := tk + 1 } :=
      I.turnedNew (ch := [e, it]) (fun b ob hb q => (sb.2 b (fun z => hb (by simp [z]))).trans (hk b ob (fun z => hb (by simp [z])) (fun z => hb (by simp [z])) q)) hf (Nat.le_refl _) new
    refine ⟨.ref s.heap.objs.size, _, I1, rfl, ⟨_, c, rfl, I.hok.fresh (Nat.le_refl _), rfl, hcx⟩, ⟨⟨.str ⟨#[c]⟩ ut, ?_⟩, ?_, hne⟩, fun b hb => ?_⟩
    · have e1 : ((i + 1 : Nat) : Int) = (i : Int) + 1 := by omega
      rw [e1]; exact he'
    · obtain ⟨o, ho2, r⟩ := hit'
      exact ⟨o, (sb.2 it (Ne.symm hne)).trans ho2, r⟩
    · have hb' : b < s.heap.objs.size := by
        have e' : b = e ∨ b = it := by simpa using hb
        rcases e' with z | z
        · rw [z]; exact hel
        · rw [z]; exact hil
      rw [upd_ne (Nat.ne_of_lt hb')]
      exact (hf b hb).1
  done := by
    intro X hP hw hK hc i pins s σ H E I hf st hg
    subst hP hw hK
    obtain ⟨⟨old, he⟩, hit, hne⟩ := st
    obtain ⟨f0, f1, f2, f3, f4, f5⟩ := hf it (by simp)
    have hi : x.cps.size = i := hg
    subst hi
    have DD : Draws X.prog X.w X.A.in1 it [it] x.cps.size (fun i v => ∃ c u, x.cps[i]? = some c ∧ v = .str ⟨#[c]⟩ u) (fun i h => h.IsStrIter it (strIterType x) x t i) := by
      unfold strIterType
      split
      · exact Draws.strAscii (A := X.A.in1) (I.ok.hd hc) it x t
      · exact Draws.strWide (A := X.A.in1) (I.ok.hd hc) it x t
    exact wpAny_pyNext_enum_endD DD he hit fun h' eb => ⟨rfl, I.turned (t' := s.toks) (fun b o hb q => eb b o hb q) f0 f1 f3 f4 f5⟩
  self := fun A i s Q E st h => let ⟨⟨_, he⟩, _⟩ := st; wpAny_pyIter_enum he h

/-! ### enumerate, zip -/
def numL (ps : List PV) : List PV := ps.zipIdx.map fun x => .tup [.int (x.2 : Nat), x.1]
def zipL (ps qs : List PV) : List PV := List.zipWith (fun p q => .tup [p, q]) ps qs
section
variable {X : Cx} {g : Gm} {pins : List (Addr × Obj)} {F H F' H' : Hp} {σ : St} {env env' : Env'} {s : Shared} {a b c : Expr} {pos : Pos}
theorem numL_at {ps : List PV} {i : Nat} {p : PV} (h : (numL ps)[i]? = some p) : ∃ q, ps[i]? = some q ∧ p = .tup [.int (i : Nat), q] := by
  unfold numL at h
  rw [List.getElem?_map, List.getElem?_zipIdx] at h
  cases q : ps[i]? with
  | none => rw [q] at h; cases h
  | some y =>
    rw [q] at h
    simp at h
    exact ⟨y, rfl, h.symm⟩
theorem numL_len (ps : List PV) : (numL ps).length = ps.length := by simp [numL]
/-- a pair just made -/
theorem pair_new {C : Ct} {T : Addr} {x y : V} {p q : PV} (hC : g.C = C) (S : Stt g F H σ env) (hT : H T = none) (r1 : R C F p x) (r2 : R C F q y) : ∃ F', Ex F F' ∧ Stt g F' (upd H T (.tup [x, y])) σ env ∧ R C F' (.tup [p, q]) (.ref T) := by
  subst hC
  obtain ⟨n1, n2, n3⟩ := S.new0 hT
  have S2 := S.grow (ex_alloc (o := .tup [x, y]) hT)
  have hn : ∀ (i : Nat) f q, env[i]? = some (.ow f q) → σ[i]? ≠ some (some (.ref T)) := fun i f q e z => by
    obtain ⟨b, e1, e2, _⟩ := S.ow i f q e
    rw [z] at e1; cases e1
    obtain ⟨o', ho⟩ := e2.cell
    rw [hT] at ho; cases ho
  refine ⟨_, Ex.new n1, S2.know n1 upd_same n2 hn, ?_⟩
  unfold R
  exact ⟨T, [x, y], rfl, upd_same, Rs.cons (r1.mono (Ex.new n1).le) (Rs.cons (r2.mono (Ex.new n1).le) Rs.nil)⟩
theorem R.int' {C : Ct} {i : Int} : R C F (.int i) (.int i) := by unfold R; rfl
theorem walkP_enumL {ps : List PV} {ad : Addr} {vs : List V} {C : Ct} (ha : F ad = some (.lst vs)) (rs : Rs C F ps vs) : WalkP C (Ite C.K ad) F (numL ps) where
  goes := fun g i F2 H2 σ2 e2 hC hi x2 S2 => by
    rw [numL_len] at hi
    obtain ⟨v, hv, rv⟩ := rs.get (List.getElem?_eq_getElem hi)
    exact ⟨vs, v, SqL.of (S2.sub.lst (x2 _ _ ha)), hv⟩
  stops := fun g F2 H2 σ2 e2 hC x2 S2 => ⟨vs, SqL.of (S2.sub.lst (x2 _ _ ha)), by rw [numL_len, rs.length]; exact Nat.le_refl _⟩
  ylds := fun g i p F2 H2 σ2 e2 x H' hC hi x2 S2 y => by
    obtain ⟨q, hq, rfl⟩ := numL_at hi
    obtain ⟨T, x, rfl, hT, rfl, y⟩ := y
    obtain ⟨v, hv, rv⟩ := rs.get hq
    have := y vs (SqL.of (S2.sub.lst (x2 _ _ ha)))
    rw [hv] at this; cases this
    exact pair_new hC S2 hT R.int' (rv.mono x2.le)
theorem walkP_enumT {ps : List PV} {ad : Addr} {vs : List V} {C : Ct} (ha : F ad = some (.tup vs)) (rs : Rs C F ps vs) : WalkP C (IteT C.K ad) F (numL ps) where
  goes := fun g i F2 H2 σ2 e2 hC hi x2 S2 => by
    rw [numL_len] at hi
    obtain ⟨v, hv, rv⟩ := rs.get (List.getElem?_eq_getElem hi)
    exact ⟨vs, v, .inl (.inl (S2.sub.tup (x2 _ _ ha))), hv⟩
  stops := fun g F2 H2 σ2 e2 hC x2 S2 => ⟨vs, .inl (.inl (S2.sub.tup (x2 _ _ ha))), by rw [numL_len, rs.length]⟩
  ylds := fun g i p F2 H2 σ2 e2 x H' hC hi x2 S2 y => by
    obtain ⟨q, hq, rfl⟩ := numL_at hi
    obtain ⟨T, x, rfl, hT, rfl, y⟩ := y
    obtain ⟨v, hv, rv⟩ := rs.get hq
    have := y vs (.inl (.inl (S2.sub.tup (x2 _ _ ha))))
    rw [hv] at this; cases this
    exact pair_new hC S2 hT R.int' (rv.mono x2.le)
theorem walkP_enumS {z : Str} {C : Ct} : WalkP C (IteS z) F (numL (chars z)) where
  goes := fun g i F2 H2 σ2 e2 hC hi x2 S2 => by
    rw [numL_len] at hi
    have : i < z.cps.size := by simpa [chars] using hi
    exact this
  stops := fun g F2 H2 σ2 e2 hC x2 S2 => by
    show z.cps.size = (numL (chars z)).length
    rw [numL_len]; simp [chars]
  ylds := fun g i p F2 H2 σ2 e2 x H' hC hi x2 S2 y => by
    obtain ⟨q, hq, rfl⟩ := numL_at hi
    obtain ⟨T, c, rfl, hT, rfl, y⟩ := y
    have : q = .str ⟨#[c]⟩ := by
      unfold chars at hq
      rw [List.getElem?_map, Array.getElem?_toList, y] at hq
      cases hq; rfl
    subst this
    exact pair_new hC S2 hT R.int' (by unfold R; rfl)
def dEnum (d : Env' → Res Val) : Env' → Res (List PV) := fun e => (dArgs [d] e).bind fun xs e1 => (frzs xs e1).bind fun ps e2 => match ps with
  | [.lst xs] => .ok (numL xs) e2
  | [.tup xs] => .ok (numL xs) e2
  | [.str z] => .ok (numL (chars z)) e2
  | _ => .bad
theorem si_enum {e : Expr} {d : Env' → Res Val} {p tpos : Pos} {elts : List Expr} {kk : Nat} (hK : g.C.K = X.K) (hg : Gl X "enumerate") (hm : X.mg "enumerate" = none) (ha : PA X [e] (tAs g (dArgs [d]))) (hs : starEach [e] X.env = [(false, eval e X.env)]) :
    PI X (.Tuple elts kk tpos) (.Call (.Name "enumerate" p) [e] [] pos) (tI g (dEnum d)) := by
  refine ⟨fun pins s σ H Rr I ⟨F, env, S, go⟩ => ?_⟩
  refine Call_ (ld_blt I hg hm boot_enumerate (PyProof.Rows.callWith_type1 (thn (paGo ha pos I S go) fun us s1 ⟨vs, H1, I1, r1, F1, e1, xs, x1, S1, o1, rv1, go1⟩ => ?_) hs rfl))
  obtain ⟨F2, ps, e2, x2, S2, r2, go2⟩ := frzs_go o1 S1 rv1 go1
  split at go2
  · rename_i xs hgo
    have q := go2 F2 H1 (Ex.refl F2) S2
    obtain ⟨v, t, rfl, ry, rt⟩ := r2.cons_inv
    obtain rfl := rt.nil_inv
    unfold R at ry
    obtain ⟨ad, vs, rfl, ha, rs⟩ := ry
    obtain rfl := Vals.ref1 r1
    obtain ⟨its, rv, p', hz⟩ := I1.list (SqL.of (K := X.K) (S2.sub.lst ha))
    refine call_enumerate_list p'.isList fun h' he hit hsz hk => wpAny_pyIter_enum he ?_
    have I2 : Inv X pins σ H1 { s1 with heap := h' } := I1.kept (t' := s1.toks) hk
    refine ⟨s1.heap.objs.size + 1, [s1.heap.objs.size + 1, s1.heap.objs.size], _, _, H1, rfl, I2, turn_enum ad (s1.heap.objs.size + 1) s1.heap.objs.size, ⟨⟨.none, he⟩, hit, Nat.succ_ne_self _⟩, fun b hb => ?_, by rw [← hK]; exact q _ (walkP_enumL ha rs)⟩
    have e' : b = s1.heap.objs.size + 1 ∨ b = s1.heap.objs.size := by simpa using hb
    have hle : s1.heap.objs.size ≤ b := by
      rcases e' with z | z
      · rw [z]; exact Nat.le_add_right _ _
      · rw [z]; exact Nat.le_refl _
    exact I1.fpOk hle (I1.hok.fresh hle)
  · rename_i xs hgo
    have q := go2 F2 H1 (Ex.refl F2) S2
    obtain ⟨v, t, rfl, ry, rt⟩ := r2.cons_inv
    obtain rfl := rt.nil_inv
    unfold R at ry
    obtain ⟨ad, vs, rfl, ha, rs⟩ := ry
    obtain rfl := Vals.ref1 r1
    obtain ⟨its, rv, p', hz⟩ := I1.tuple (.inl (.inl (S2.sub.tup ha)))
    refine vl_call_enumT (show s1.heap.IsTuple ad its.toArray from p') fun h' he hit hsz hk => wpAny_pyIter_enum he ?_
    have I2 : Inv X pins σ H1 { s1 with heap := h' } := I1.kept (t' := s1.toks) hk
    refine ⟨s1.heap.objs.size + 1, [s1.heap.objs.size + 1, s1.heap.objs.size], _, _, H1, rfl, I2, turn_enumT ad (s1.heap.objs.size + 1) s1.heap.objs.size, ⟨⟨.none, he⟩, hit, Nat.succ_ne_self _⟩, fun b hb => ?_, by rw [← hK]; exact q _ (walkP_enumT ha rs)⟩
    have e' : b = s1.heap.objs.size + 1 ∨ b = s1.heap.objs.size := by simpa using hb
    have hle : s1.heap.objs.size ≤ b := by
      rcases e' with z | z
      · rw [z]; exact Nat.le_add_right _ _
      · rw [z]; exact Nat.le_refl _
    exact I1.fpOk hle (I1.hok.fresh hle)
  · rename_i hgo z
    have q := go2 F2 H1 (Ex.refl F2) S2
    obtain ⟨v, t, rfl, ry, rt⟩ := r2.cons_inv
    obtain rfl := rt.nil_inv
    unfold R at ry
    subst ry
    cases r1 with
    | cons r rr =>
    cases rr
    obtain ⟨tt, rfl⟩ := r
    refine call_enumerate_str fun h' he hit hsz hk => wpAny_pyIter_enum he ?_
    have I2 : Inv X pins σ H1 { s1 with heap := h' } := I1.kept (t' := s1.toks) hk
    refine ⟨s1.heap.objs.size + 1, [s1.heap.objs.size + 1, s1.heap.objs.size], _, _, H1, rfl, I2, turn_enumS (s1.heap.objs.size + 1) s1.heap.objs.size z tt, ⟨⟨.none, he⟩, hit, Nat.succ_ne_self _⟩, fun b hb => ?_, q _ walkP_enumS⟩
    have e' : b = s1.heap.objs.size + 1 ∨ b = s1.heap.objs.size := by simpa using hb
    have hle : s1.heap.objs.size ≤ b := by
      rcases e' with z | z
      · rw [z]; exact Nat.le_add_right _ _
      · rw [z]; exact Nat.le_refl _
    exact I1.fpOk hle (I1.hok.fresh hle)
  · exact go2.elim
theorem zipL_at {ps qs : List PV} {i : Nat} {p : PV} (h : (zipL ps qs)[i]? = some p) : ∃ x y, ps[i]? = some x ∧ qs[i]? = some y ∧ p = .tup [x, y] := by
  unfold zipL at h
  rw [List.getElem?_zipWith] at h
  cases e1 : ps[i]? with
  | none => rw [e1] at h; simp at h
  | some x =>
    cases e2 : qs[i]? with
    | none => rw [e1, e2] at h; simp at h
    | some y =>
      rw [e1, e2] at h
      simp at h
      exact ⟨x, y, rfl, rfl, h.symm⟩
theorem zipL_len (ps qs : List PV) : (zipL ps qs).length = min ps.length qs.length := by simp [zipL]
theorem walkP_zipL {ps qs : List PV} {ad bd : Addr} {vs ws : List V} {C : Ct} (ha : F ad = some (.lst vs)) (rs : Rs C F ps vs) (hb : F bd = some (.lst ws)) (rs' : Rs C F qs ws) : WalkP C (Itz C.K ad bd) F (zipL ps qs) where
  goes := fun g i F2 H2 σ2 e2 hC hi x2 S2 => by
    rw [zipL_len] at hi
    obtain ⟨v, hv, rv⟩ := rs.get (List.getElem?_eq_getElem (show i < ps.length by omega))
    obtain ⟨w, hw, rw'⟩ := rs'.get (List.getElem?_eq_getElem (show i < qs.length by omega))
    exact ⟨vs, ws, v, w, SqL.of (S2.sub.lst (x2 _ _ ha)), SqL.of (S2.sub.lst (x2 _ _ hb)), hv, hw⟩
  stops := fun g F2 H2 σ2 e2 hC x2 S2 => ⟨vs, ws, SqL.of (S2.sub.lst (x2 _ _ ha)), SqL.of (S2.sub.lst (x2 _ _ hb)), by rw [zipL_len, rs.length, rs'.length]; omega⟩
  ylds := fun g i p F2 H2 σ2 e2 x H' hC hi x2 S2 y => by
    obtain ⟨q, q', hq, hq', rfl⟩ := zipL_at hi
    obtain ⟨T, x, x', rfl, hT, rfl, y, y'⟩ := y
    obtain ⟨v, hv, rv⟩ := rs.get hq
    obtain ⟨w, hw, rw'⟩ := rs'.get hq'
    have h1 := y vs (SqL.of (S2.sub.lst (x2 _ _ ha)))
    rw [hv] at h1; cases h1
    have h2 := y' ws (SqL.of (S2.sub.lst (x2 _ _ hb)))
    rw [hw] at h2; cases h2
    exact pair_new hC S2 hT (rv.mono x2.le) (rw'.mono x2.le)
theorem walkP_zipT {ps qs : List PV} {ad bd : Addr} {vs ws : List V} {C : Ct} (ha : F ad = some (.tup vs)) (rs : Rs C F ps vs) (hb : F bd = some (.tup ws)) (rs' : Rs C F qs ws) : WalkP C (RZ.ItzT C.K ad bd) F (zipL ps qs) where
  goes := fun g i F2 H2 σ2 e2 hC hi x2 S2 => by
    rw [zipL_len] at hi
    obtain ⟨v, hv, rv⟩ := rs.get (List.getElem?_eq_getElem (show i < ps.length by omega))
    obtain ⟨w, hw, rw'⟩ := rs'.get (List.getElem?_eq_getElem (show i < qs.length by omega))
    exact ⟨vs, ws, v, w, .inl (.inl (S2.sub.tup (x2 _ _ ha))), .inl (.inl (S2.sub.tup (x2 _ _ hb))), hv, hw⟩
  stops := fun g F2 H2 σ2 e2 hC x2 S2 => ⟨vs, ws, .inl (.inl (S2.sub.tup (x2 _ _ ha))), .inl (.inl (S2.sub.tup (x2 _ _ hb))), by rw [zipL_len, rs.length, rs'.length]; omega⟩
  ylds := fun g i p F2 H2 σ2 e2 x H' hC hi x2 S2 y => by
    obtain ⟨q, q', hq, hq', rfl⟩ := zipL_at hi
    obtain ⟨T, x, x', rfl, hT, rfl, y, y'⟩ := y
    obtain ⟨v, hv, rv⟩ := rs.get hq
    obtain ⟨w, hw, rw'⟩ := rs'.get hq'
    have h1 := y vs (.inl (.inl (S2.sub.tup (x2 _ _ ha))))
    rw [hv] at h1; cases h1
    have h2 := y' ws (.inl (.inl (S2.sub.tup (x2 _ _ hb))))
    rw [hw] at h2; cases h2
    exact pair_new hC S2 hT (rv.mono x2.le) (rw'.mono x2.le)
def dZip (d d' : Env' → Res Val) : Env' → Res (List PV) := fun e => (dArgs [d, d'] e).bind fun xs e1 => (frzs xs e1).bind fun ps e2 => match ps with
  | [.lst xs, .lst ys] => .ok (zipL xs ys) e2
  | [.tup xs, .tup ys] => .ok (zipL xs ys) e2
  | _ => .bad
theorem si_zip {e e2 : Expr} {d d' : Env' → Res Val} {p tpos : Pos} {elts : List Expr} {kk : Nat} (hK : g.C.K = X.K) (hg : Gl X "zip") (hm : X.mg "zip" = none) (ha : PA X [e, e2] (tAs g (dArgs [d, d'])))
    (hs : starEach [e, e2] X.env = (false, eval e X.env) :: starEach [e2] X.env) (hpl : (backTo pos (starEach [e2] X.env)).any (·.1) = false) :
    PI X (.Tuple elts kk tpos) (.Call (.Name "zip" p) [e, e2] [] pos) (tI g (dZip d d')) := by
  have base : PA X [e, e2] (fun σ H Q => ∃ F env, Stt g F H σ env ∧ Go g F σ ((dArgs [d, d'] env).bind fun xs e1 => frzs xs e1) fun ps e2 F2 H2 => ∀ vs, Rs g.C F2 ps vs → Q vs H2) := ⟨fun pos pins s σ H Q I ⟨F, env, S, go⟩ => by
    refine thn (paGo ha pos I S go) fun us s1 ⟨vs, H1, I1, r1, F1, e1, xs, x1, S1, o1, rv1, go1⟩ => ?_
    have go1' : Go g F1 σ ((frzs xs e1).bind fun ps e2 => .ok ps e2) fun ps e2 F2 H2 => ∀ vs, Rs g.C F2 ps vs → Q vs H2 := by
      cases h : frzs xs e1 <;> (rw [h] at go1; exact go1)
    obtain ⟨F2, ps, e2, x2, S2, r2, go2⟩ := frzs_go o1 S1 rv1 go1'
    exact ⟨vs, H1, I1, r1, go2 F2 H1 (Ex.refl F2) S2 vs r2⟩⟩
  refine piImp (RZ.pi_zipA hg hm base hs hpl) fun σ H Q ⟨F, env, S, go⟩ => ⟨F, env, S, ?_⟩
  have go' : Go g F σ (((dArgs [d, d'] env).bind fun xs e1 => frzs xs e1).bind fun ps e2 => match ps with
      | [.lst xs, .lst ys] => .ok (zipL xs ys) e2
      | [.tup xs, .tup ys] => .ok (zipL xs ys) e2
      | _ => .bad) fun ps env' F' H' => ∀ J, WalkP g.C J F' ps → Q J H' := by
    unfold dZip at go
    cases h : dArgs [d, d'] env with
    | bad => rw [h] at go; exact go
    | err y e => rw [h] at go; exact go
    | ok xs e1 => rw [h] at go; exact go
  refine (Go.bind go').mono fun ps e2 F2 H2 x2 S2 k vs r => ?_
  split at k
  · have q := k F2 H2 (Ex.refl F2) S2
    obtain ⟨v, t, rfl, ry, rt⟩ := r.cons_inv
    obtain ⟨v', t', rfl, ry', rt'⟩ := rt.cons_inv
    obtain rfl := rt'.nil_inv
    unfold R at ry ry'
    obtain ⟨ad, vs, rfl, ha, rs⟩ := ry
    obtain ⟨bd, ws, rfl, hb, rs'⟩ := ry'
    refine ⟨ad, bd, vs, ws, rfl, .inl ⟨SqL.of (S2.sub.lst ha), SqL.of (S2.sub.lst hb), ?_⟩⟩
    rw [← hK]
    exact q _ (walkP_zipL ha rs hb rs')
  · have q := k F2 H2 (Ex.refl F2) S2
    obtain ⟨v, t, rfl, ry, rt⟩ := r.cons_inv
    obtain ⟨v', t', rfl, ry', rt'⟩ := rt.cons_inv
    obtain rfl := rt'.nil_inv
    unfold R at ry ry'
    obtain ⟨ad, vs, rfl, ha, rs⟩ := ry
    obtain ⟨bd, ws, rfl, hb, rs'⟩ := ry'
    refine ⟨ad, bd, vs, ws, rfl, .inr ⟨.inl (.inl (S2.sub.tup ha)), .inl (.inl (S2.sub.tup hb)), ?_⟩⟩
    rw [← hK]
    exact q _ (walkP_zipT ha rs hb rs')
  · exact k.elim
end
end VL

set_option maxRecDepth 100000
set_option maxHeartbeats 2000000
namespace VL
open PySem PySem.Spec L2
open PyProof.Rows hiding St
/-! ### a block within a def -/
def lendS : Sl → Sl
  | .ow _ p => .ow false p
  | s => s
def wipeE (e : Env') : List Nat → Env'
  | [] => e
  | i :: is => wipeE (e.set i .no) is
def blkE (vs : List Nat) (e : Env') : Env' := wipeE (e.map lendS) vs
def outS : Sl → Sl → Sl
  | .ow b _, .ow _ q => .ow b q
  | _, .ow _ _ => .no
  | _, s => s
def outE (vs : List Nat) (e e2 : Env') : Env' := (List.range e.length).map fun i => if i ∈ vs then e.getD i .no else outS (e.getD i .no) (e2.getD i .no)
/-- no slot of vs holds a container -/
def freeS (vs : List Nat) (e : Env') : Bool := vs.all fun i => match e[i]? with
  | some (.ow _ _) => false
  | _ => true
def subG (g : Gm) (F H : Hp) (σ : St) (env : Env') : Gm where
  C := g.C
  F0 := F
  H0 := H
  P := fun i => match env[i]?, σ[i]? with
    | some (.ow _ _), some (some (.ref a)) => some a
    | _, _ => none
  W := fun _ _ _ _ _ => True
section
variable {X : Cx} {g : Gm} {pins : List (Addr × Obj)} {F H F' H' F2 H2 : Hp} {σ σ2 : St} {env env' env2 : Env'} {s : Shared}
theorem wipeE_len : ∀ {vs : List Nat} {e : Env'}, (wipeE e vs).length = e.length
  | [], e => rfl
  | i :: is, e => by unfold wipeE; rw [wipeE_len]; simp
theorem wipeE_in : ∀ {vs : List Nat} {e : Env'} {i : Nat} {x : Sl}, (wipeE e vs)[i]? = some x → (x = .no ∨ e[i]? = some x)
  | [], e, i, x, h => .inr h
  | j :: is, e, i, x, h => by
    unfold wipeE at h
    rcases wipeE_in h with z | z
    · exact .inl z
    · rcases getElem?_set_cases z with ⟨_, q, _⟩ | ⟨_, q⟩
      · exact .inl q.symm
      · exact .inr q
theorem wipeE_out : ∀ {vs : List Nat} {e : Env'} {i : Nat}, i ∈ vs → (wipeE e vs)[i]? = none ∨ (wipeE e vs)[i]? = some .no
  | j :: is, e, i, h => by
    unfold wipeE
    by_cases hi : i ∈ is
    · exact wipeE_out hi
    · have e1 : i = j := by
        rcases List.mem_cons.mp h with z | z
        · exact z
        · exact absurd z hi
      subst e1
      have keep : ∀ {vs : List Nat} {e : Env'}, i ∉ vs → (wipeE e vs)[i]? = e[i]? := by
        intro vs
        induction vs with
        | nil => intro e _; rfl
        | cons k ks ih =>
          intro e hk
          unfold wipeE
          rw [ih fun z => hk (List.mem_cons_of_mem _ z), List.getElem?_set_ne fun z => hk (by rw [z]; exact List.mem_cons_self ..)]
      rw [keep hi]
      by_cases hl : i < e.length
      · right; rw [List.getElem?_set_self hl]
      · left; rw [List.getElem?_eq_none (by simpa using hl)]
theorem wipe_at {i : Nat} {x : Option V} : ∀ {vs : List Nat} {σ : St}, i ∉ vs → (wipe σ vs)[i]? = σ[i]? := fun {vs σ} h => wipe_out h
theorem blkE_at {vs : List Nat} {i : Nat} {x : Sl} (h : (blkE vs env)[i]? = some x) : x = .no ∨ (i ∉ vs ∧ ∃ y, env[i]? = some y ∧ x = lendS y) := by
  by_cases hi : i ∈ vs
  · rcases wipeE_out (e := env.map lendS) hi with z | z
    · unfold blkE at h; rw [z] at h; cases h
    · unfold blkE at h; rw [z] at h; cases h; exact .inl rfl
  · rcases wipeE_in h with z | z
    · exact .inl z
    · rw [List.getElem?_map] at z
      cases q : env[i]? with
      | none => rw [q] at z; cases z
      | some y => rw [q] at z; cases z; exact .inr ⟨hi, y, rfl, rfl⟩
theorem subG_O {a : Addr} (h : (subG g F H σ env).O a) : ∃ (i : Nat) (b : Bool) (p : PV), env[i]? = some (.ow b p) ∧ σ[i]? = some (some (.ref a)) := by
  obtain ⟨i, h⟩ := h
  unfold subG at h
  dsimp only at h
  split at h
  · rename_i b p a' h1 h2
    cases h
    exact ⟨i, b, p, h1, h2⟩
  · cases h
/-- into the block -/
theorem Stt.enter (S : Stt g F H σ env) (vs : List Nat) : Stt (subG g F H σ env) F H (wipe σ vs) (blkE vs env) where
  len := by rw [wipe_length, S.len]; unfold blkE; rw [wipeE_len, List.length_map]
  frame := fun b o q _ => .inl q
  live := fun b hb => by
    obtain ⟨i, f, p, h1, h2⟩ := subG_O hb
    obtain ⟨a, e1, e2, _⟩ := S.ow i f p h1
    rw [h2] at e1; cases e1
    exact e2.cell
  ext := Ex.refl F
  fresh := fun b o q => .inl q
  sub := S.sub
  fz := fun i p q => by
    rcases blkE_at q with z | ⟨hi, y, hy, z⟩
    · cases z
    · cases y <;> cases z
      rw [wipe_out hi]
      exact S.fz i _ hy
  ow := fun i b p q => by
    rcases blkE_at q with z | ⟨hi, y, hy, z⟩
    · cases z
    · cases y with
      | no => cases z
      | fz p => cases z
      | ow f r =>
        cases z
        obtain ⟨a, h1, h2, h3, _⟩ := S.ow i f _ hy
        refine ⟨a, by rw [wipe_out hi]; exact h1, h2, h3, ?_⟩
        rw [if_neg Bool.false_ne_true]
        show (match env[i]?, σ[i]? with | some (.ow _ _), some (some (.ref a)) => some a | _, _ => none) = some a
        rw [hy, h1]
  inj := fun i j b c p q a hi hj e1 e2 => by
    rcases blkE_at hi with z | ⟨ni, y, hy, z⟩
    · cases z
    · rcases blkE_at hj with z' | ⟨nj, y', hy', z'⟩
      · cases z'
      · cases y <;> cases z
        cases y' <;> cases z'
        rw [wipe_out ni] at e1
        rw [wipe_out nj] at e2
        exact S.inj i j _ _ _ _ a hy hy' e1 e2
  tab := S.tab
theorem outE_at {vs : List Nat} {i : Nat} {x : Sl} (h : (outE vs env env2)[i]? = some x) : i < env.length ∧ x = if i ∈ vs then env.getD i .no else outS (env.getD i .no) (env2.getD i .no) := by
  unfold outE at h
  rw [List.getElem?_map] at h
  by_cases hl : i < env.length
  · rw [List.getElem?_range hl] at h
    cases h; exact ⟨hl, rfl⟩
  · rw [List.getElem?_eq_none (by simpa using hl)] at h; cases h
theorem getD_at {e : Env'} {i : Nat} {x : Sl} (h : e.getD i .no = x) (hx : x ≠ .no) : e[i]? = some x := by
  rw [List.getD_eq_getElem?_getD] at h
  cases q : e[i]? with
  | none => rw [q] at h; exact absurd h.symm hx
  | some y => rw [q] at h; rw [← h]; rfl
theorem outS_ow {a b : Sl} {f : Bool} {q : PV} (h : outS a b = .ow f q) : ∃ p c, a = .ow f p ∧ b = .ow c q := by
  cases a <;> cases b <;> simp only [outS] at h <;> first | (cases h; done) | skip
  cases h; exact ⟨_, _, rfl, rfl⟩
theorem outS_fz {a b : Sl} {q : PV} (h : outS a b = .fz q) : b = .fz q := by
  cases a <;> cases b <;> simp only [outS] at h <;> first | (cases h; done) | exact h
theorem freeS_no {vs : List Nat} {i : Nat} {b : Bool} {p : PV} (h : freeS vs env = true) (hi : i ∈ vs) : env[i]? ≠ some (.ow b p) := fun z => by
  unfold freeS at h
  have := List.all_eq_true.mp h i hi
  rw [z] at this
  cases this
/-- what the def knew not to be its own stays so -/
theorem Stt.sub_new (S : Stt g F H σ env) {b : Addr} (h : H b = none) : g.H0 b = none := by
  cases q : g.H0 b with
  | none => rfl
  | some o =>
    by_cases ho : g.O b
    · obtain ⟨o', e⟩ := S.live b ho
      rw [h] at e; cases e
    · exact ((S.frame b o q ho).no h).elim
theorem Stt.leave {vs : List Nat} (S : Stt g F H σ env) (S2 : Stt (subG g F H σ env) F2 H2 σ2 env2) (hf : freeS vs env = true) (hσ : wipe σ2 vs = wipe σ vs) : Ex F F2 ∧ Stt g F2 H2 σ (outE vs env env2) := by
  have hat : ∀ {i : Nat}, i ∉ vs → σ2[i]? = σ[i]? := fun {i} hi => by rw [← wipe_out (σ := σ2) hi, ← wipe_out (σ := σ) hi, hσ]
  have hO : ∀ b o, g.H0 b = some o → ¬ g.O b → ¬ (subG g F H σ env).O b := fun b o q n z => by
    obtain ⟨i, f, p, h1, h2⟩ := subG_O z
    obtain ⟨a, e1, _, _, e4⟩ := S.ow i f p h1
    rw [h2] at e1; cases e1
    cases f with
    | true => rw [if_pos rfl, q] at e4; cases e4
    | false => rw [if_neg Bool.false_ne_true] at e4; exact n ⟨i, e4⟩
  refine ⟨S2.ext, by simp [outE, S.len], fun b o q n => (S.frame b o q n).trans fun o' q' => S2.frame b o' q' (hO b o q n), fun b hb => ?_, S.ext.trans S2.ext, fun b o q => ?_, S2.sub, fun i p q => ?_, fun i b p q => ?_, fun i j b c p q a hi hj e1 e2 => ?_, S2.tab⟩
  · by_cases hb' : (subG g F H σ env).O b
    · exact S2.live b hb'
    · obtain ⟨o, q⟩ := S.live b hb
      exact (S2.frame b o q hb').some
  · rcases S2.fresh b o q with z | z
    · exact S.fresh b o z
    · exact .inr (S.sub_new z)
  · obtain ⟨hl, e⟩ := outE_at q
    split at e
    · obtain ⟨v, h1, h2⟩ := S.fz i p (getD_at e.symm (by simp))
      exact ⟨v, h1, h2.mono S2.ext.le⟩
    · rename_i ni
      obtain ⟨v, h1, h2⟩ := S2.fz i p (getD_at (outS_fz e.symm) (by simp))
      exact ⟨v, by rw [← hat ni]; exact h1, h2⟩
  · obtain ⟨hl, e⟩ := outE_at q
    split at e
    · rename_i hi
      exact (freeS_no hf hi (getD_at e.symm (by simp))).elim
    · rename_i ni
      obtain ⟨p0, c, h1, h2⟩ := outS_ow e.symm
      obtain ⟨a, e1, e2, e3, _⟩ := S2.ow i c p (getD_at h2 (by simp))
      obtain ⟨a', f1, f2, f3, f4⟩ := S.ow i b p0 (getD_at h1 (by simp))
      rw [hat ni, f1] at e1; cases e1
      exact ⟨_, f1, e2, e3, f4⟩
  · obtain ⟨_, x1⟩ := outE_at hi
    obtain ⟨_, x2⟩ := outE_at hj
    split at x1
    · rename_i hi
      exact (freeS_no hf hi (getD_at x1.symm (by simp))).elim
    · split at x2
      · rename_i hj
        exact (freeS_no hf hj (getD_at x2.symm (by simp))).elim
      · obtain ⟨_, _, h1, _⟩ := outS_ow x1.symm
        obtain ⟨_, _, h2, _⟩ := outS_ow x2.symm
        exact S.inj i j _ _ _ _ a (getD_at h1 (by simp)) (getD_at h2 (by simp)) e1 e2
/-- a cell that nobody here knows is written -/
theorem Stt.poke (S : Stt g F H σ env) {D : Addr} {o u : HO} (hD : H D = some u) (np : Pln u) (hF : F D = none) (h0 : g.H0 D = none) (hO : ¬ g.O D) (hn : ∀ (i : Nat) b q, env[i]? = some (.ow b q) → σ[i]? ≠ some (some (.ref D))) : Stt g F (upd H D o) σ env where
  len := S.len
  frame := fun b u q n => by
    have : b ≠ D := fun z => by rw [z, h0] at q; cases q
    rw [upd_ne this]; exact S.frame b u q n
  live := fun b hb => by
    have : b ≠ D := fun z => hO (z ▸ hb)
    rw [upd_ne this]; exact S.live b hb
  ext := S.ext
  fresh := S.fresh
  sub := fun b u q => by
    have : b ≠ D := fun z => by rw [z, hF] at q; cases q
    rw [upd_ne this]; exact S.sub b u q
  fz := S.fz
  ow := fun i b p q => by
    obtain ⟨a, h1, h2, h3, h4⟩ := S.ow i b p q
    have : a ≠ D := fun z => hn i b p q (by rw [h1, z])
    exact ⟨a, h1, h2.mono (Ex.refl F).le (upd_ne this), h3, h4⟩
  inj := S.inj
  tab := tabs_upd S.tab hD np

/-! ### [e for t in i if c] -/
def dtO (dt : Option (Env' → Res Bool)) : Env' → Res Bool := fun e => match dt with
  | none => .ok true e
  | some dt => dt e
def lcL (vs : List Nat) (u : UG) (dt : Option (Env' → Res Bool)) (de : Env' → Res Val) : List PV → List PV → Env' → Res (List PV)
  | [], acc, e => .ok acc e
  | p :: ps, acc, e => if freeS vs e = true then match u p (blkE vs e) with
    | none => .bad
    | some e1 => match dtO dt e1 with
      | .ok false e2 => lcL vs u dt de ps acc (outE vs e e2)
      | .ok true e2 => match de e2 with
        | .ok x e3 => match frz x e3 with
          | .ok q e4 => if acc.length < big then lcL vs u dt de ps (acc ++ [q]) (outE vs e e4) else .bad
          | _ => .bad
        | _ => .bad
      | _ => .bad
    else .bad
def dLc (vs : List Nat) (di : Env' → Res (List PV)) (u : UG) (dt : Option (Env' → Res Bool)) (de : Env' → Res Val) : Env' → Res Val := fun e => (di e).bind fun ps e1 => (lcL vs u dt de ps [] e1).bind fun qs e2 => .ok (.new (.lst qs)) e2
/-- the new list within a turn -/
structure LcS (g : Gm) (F H : Hp) (σ : St) (env : Env') (D : Addr) (acc : List PV) : Prop where
  S : Stt g F H σ env
  cell : ∃ vs, H D = some (.lst vs) ∧ Rs g.C F acc vs
  hF : F D = none
  h0 : g.H0 D = none
  hO : ¬ g.O D
  hn : ∀ (i : Nat) b q, env[i]? = some (.ow b q) → σ[i]? ≠ some (some (.ref D))
theorem LcS.start (S : Stt g F H σ env) {D : Addr} (hD : H D = none) : LcS g F (upd H D (.lst [])) σ env D [] := by
  obtain ⟨n1, n2, n3⟩ := S.new0 hD
  refine ⟨S.grow (ex_alloc hD), ⟨[], upd_same, Rs.nil⟩, n1, n2, n3, fun i b q e z => ?_⟩
  obtain ⟨a, e1, e2, _⟩ := S.ow i b q e
  rw [z] at e1; cases e1
  obtain ⟨o, ho⟩ := e2.cell
  rw [hD] at ho; cases ho
theorem LcS.noO {D : Addr} {acc : List PV} (L : LcS g F H σ env D acc) : ¬ (subG g F H σ env).O D := fun z => by
  obtain ⟨i, b, p, h1, h2⟩ := subG_O z
  exact L.hn i b p h1 h2
/-- behind a turn -/
theorem LcS.turn {D : Addr} {acc : List PV} {vs : List Nat} (L : LcS g F H σ env D acc) (S2 : Stt (subG g F H σ env) F2 H2 σ2 env2) (hf : freeS vs env = true) (hσ : wipe σ2 vs = wipe σ vs) : Ex F F2 ∧ LcS g F2 H2 σ (outE vs env env2) D acc := by
  obtain ⟨x, S'⟩ := L.S.leave S2 hf hσ
  obtain ⟨ws, h1, h2⟩ := L.cell
  refine ⟨x, S', ⟨ws, (S2.frame D _ h1 L.noO).eq (fun _ z => by cases z), h2.mono x.le⟩, ?_, L.h0, L.hO, fun i b q e z => ?_⟩
  · cases q : F2 D with
    | none => rfl
    | some o =>
      rcases S2.fresh D o q with z | z
      · have z : F D = some o := z
        rw [L.hF] at z; cases z
      · have z : H D = none := z
        rw [h1] at z; cases z
  · obtain ⟨hl, e⟩ := outE_at e
    split at e
    · exact L.hn i b q (getD_at e.symm (by simp)) z
    · obtain ⟨p0, c, h1, h2⟩ := outS_ow e.symm
      exact L.hn i b p0 (getD_at h1 (by simp)) z
/-- .. with an item put in -/
theorem LcS.put {D : Addr} {acc : List PV} {y : V} {q : PV} {ws : List V} (L : LcS g F H σ env D acc) (hD : H D = some (.lst ws)) (r : R g.C F q y) : LcS g F (upd H D (.lst (ws ++ [y]))) σ env D (acc ++ [q]) := by
  obtain ⟨ws', h1, h2⟩ := L.cell
  rw [hD] at h1; cases h1
  exact ⟨L.S.poke hD ⟨fun _ z => (by cases z), fun _ z => (by cases z)⟩ L.hF L.h0 L.hO L.hn, ⟨_, upd_same, h2.snoc r⟩, L.hF, L.h0, L.hO, L.hn⟩
theorem LcS.done {D : Addr} {acc : List PV} (L : LcS g F H σ env D acc) : RV g F H σ env (.new (.lst acc)) (.ref D) := by
  obtain ⟨ws, h1, h2⟩ := L.cell
  exact ⟨D, rfl, by simp only [R1]; exact ⟨ws, h1, h2⟩, L.hF, L.h0, L.hn⟩
/-- the same σ outside vs -/
theorem wipe_agree {vs js : List Nat} (hl : σ2.length = σ.length) (hj : ∀ j ∈ js, j ∈ vs) (h : ∀ (i : Nat), i ∉ js → σ2[i]? = (wipe σ vs)[i]?) : wipe σ2 vs = wipe σ vs := by
  have wl : ∀ {τ : St} {vs : List Nat} {i : Nat}, i ∈ vs → i < τ.length → (wipe τ vs)[i]? = some none := by
    intro τ vs i hi hlt
    cases q : (wipe τ vs)[i]? with
    | none =>
      rw [List.getElem?_eq_none_iff, wipe_length] at q
      omega
    | some x =>
      cases x with
      | none => rfl
      | some v => exact absurd hi (wipe_some q).2
  apply List.ext_getElem?
  intro i
  by_cases hi : i ∈ vs
  · by_cases hlt : i < σ.length
    · rw [wl hi (by rw [hl]; exact hlt), wl hi hlt]
    · rw [List.getElem?_eq_none (by rw [wipe_length, hl]; omega), List.getElem?_eq_none (by rw [wipe_length]; omega)]
  · rw [wipe_out hi, h i fun z => hi (hj i z)]
theorem sts_nil : PTs X [] (tT g fun e => .ok true e) := ⟨fun pins s σ H Q I ⟨F, env, S, go⟩ => pts_nil.run pins s σ H Q I (go F H (Ex.refl F) S)⟩
/-- what a comprehension asks, from the state -/
theorem lc_turns {vs js : List Nat} {u : UG} {dt : Option (Env' → Res Bool)} {de : Env' → Res Val} {J : It} {ps : List PV} {F1 H1 : Hp} {env1 : Env'} {Q : VK} (hj : ∀ j ∈ js, j ∈ vs)
    (S1 : Stt g F1 H1 σ env1) (w : WalkP g.C J F1 ps) (go : Go g F1 σ ((lcL vs u dt de ps [] env1).bind fun qs e2 => .ok (.new (.lst qs)) e2) fun x env' F' H' => ∀ v, RV g F' H' σ env' x v → Q v H') :
    ∀ D, H1 D = none → ∃ W : Nat → Nat → Hp → Prop, (∃ m, W 0 m (upd H1 D (.lst []))) ∧ ∀ i m H, W i m H →
      (J.stop i H ∧ Q (.ref D) H) ∨ (J.go i H ∧ ∃ Nx : Hp → Prop, (∀ H', Nx H' → ∃ m', m' < m ∧ W (i + 1) m' H') ∧ ∀ x H', J.yld i H x H' → (∃ g' : Gm, g'.C = g.C ∧ tG g' u js x (wipe σ vs) H' fun σ2 H2 => wipe σ2 vs = wipe σ vs ∧ tT g' (dtO dt) σ2 H2 fun b H3 =>
        if b = true then tE g' de σ2 H3 fun y H4 => ∃ acc, H4 D = some (.lst acc) ∧ acc.length < sizeLine ∧ Nx (upd H4 D (.lst (acc ++ [y]))) else Nx H3)) := by
  intro D hD
  refine ⟨fun i m H => ∃ F env acc, Ex F1 F ∧ LcS g F H σ env D acc ∧ m = ps.length - i ∧ i ≤ ps.length ∧ Go g F σ ((lcL vs u dt de (ps.drop i) acc env).bind fun qs e2 => .ok (.new (.lst qs)) e2) fun x env' F' H' => ∀ v, RV g F' H' σ env' x v → Q v H',
    ⟨ps.length, F1, env1, [], Ex.refl F1, LcS.start S1 hD, by omega, Nat.zero_le _, by rw [List.drop_zero]; exact go⟩, ?_⟩
  rintro i m H ⟨F, env, acc, x1, L, rfl, hle, go1⟩
  by_cases hlt : i < ps.length
  · right
    have hd : ps.drop i = ps[i] :: ps.drop (i + 1) := List.drop_eq_getElem_cons hlt
    rw [hd] at go1
    unfold lcL at go1
    split at go1
    · rename_i hf
      have Se := L.S.enter vs
      refine ⟨w.goes (subG g F H σ env) i F H _ _ rfl hlt x1 Se, fun H' => ∃ F env acc, Ex F1 F ∧ LcS g F H' σ env D acc ∧ Go g F σ ((lcL vs u dt de (ps.drop (i + 1)) acc env).bind fun qs e2 => .ok (.new (.lst qs)) e2) fun x env' F' H' => ∀ v, RV g F' H' σ env' x v → Q v H', fun H' ⟨F, env, acc, x, L, q⟩ => ⟨ps.length - (i + 1), by omega, F, env, acc, x, L, rfl, hlt, q⟩, fun x H' y => ?_⟩
      refine ⟨subG g F H σ env, rfl, ?_⟩
      obtain ⟨F2, x2, S2, r2⟩ := w.ylds (subG g F H σ env) i ps[i] F H _ _ x H' rfl (List.getElem?_eq_getElem hlt) x1 Se y
      cases hu : u ps[i] (blkE vs env) with
      | none => simp only [hu] at go1; exact go1.elim
      | some e1 =>
        simp only [hu] at go1
        refine ⟨F2, _, ps[i], e1, S2, r2, hu, fun σ' S' ln ag => ?_⟩
        have hw : wipe σ' vs = wipe σ vs := wipe_agree (by rw [ln, wipe_length]) hj ag
        refine ⟨hw, F2, e1, S', ?_⟩
        cases ht : dtO dt e1 with
        | bad => simp only [ht] at go1; exact go1.elim
        | err y e' => simp only [ht] at go1; exact go1.elim
        | ok b e2 =>
          simp only [ht] at go1
          intro F3 H3 x3 S3
          cases b with
          | false =>
            obtain ⟨x4, L4⟩ := L.turn S3 hf hw
            exact ⟨F3, _, acc, x1.trans x4, L4, Go.up go1 x4⟩
          | true =>
            refine ⟨F3, e2, S3, ?_⟩
            dsimp only at go1
            cases hd : de e2 with
            | bad => simp only [hd] at go1; exact go1.elim
            | err y e' => simp only [hd] at go1; exact go1.elim
            | ok z e3 =>
              simp only [hd] at go1
              intro F4 H4 x4 S4 v rv
              cases hq : frz z e3 with
              | bad => simp only [hq] at go1; exact go1.elim
              | err y e' => simp only [hq] at go1; exact go1.elim
              | ok q e4 =>
                simp only [hq] at go1
                split at go1
                · rename_i hlen
                  obtain ⟨F5, x5, S5, r5⟩ := frz_ok S4 rv hq
                  obtain ⟨x6, L6⟩ := L.turn S5 hf hw
                  obtain ⟨ws, c1, c2⟩ := L6.cell
                  exact ⟨ws, c1, by rw [c2.length, big_eq]; exact hlen, F5, _, _, x1.trans x6, L6.put c1 r5, Go.up go1 x6⟩
                · exact go1.elim
    · exact go1.elim
  · left
    have e : i = ps.length := by omega
    subst e
    rw [List.drop_length] at go1
    unfold lcL at go1
    exact ⟨w.stops g F H σ env rfl x1 L.S, go1 F H (Ex.refl F) L.S _ L.done⟩
/-- readings that leave the activation open -/
def xG (C : Ct) (u : UG) (js : List Nat) : TG := fun v σ H Q => ∃ g' : Gm, g'.C = C ∧ tG g' u js v σ H Q
def xT (C : Ct) (d : Env' → Res Bool) : TT := fun σ H Q => ∃ g' : Gm, g'.C = C ∧ tT g' d σ H Q
def xE (C : Ct) (d : Env' → Res Val) : TE := fun σ H Q => ∃ g' : Gm, g'.C = C ∧ tE g' d σ H Q
theorem xG_of {C : Ct} {e : Expr} {u : UG} {js : List Nat} (h : ∀ g' : Gm, g'.C = C → PG X e (tG g' u js)) : PG X e (xG C u js) := ⟨fun pins s σ H v w Q I r ⟨g', hc, q⟩ => (h g' hc).run pins s σ H v w Q I r q⟩
theorem xT_of {C : Ct} {es : List Expr} {d : Env' → Res Bool} (h : ∀ g' : Gm, g'.C = C → PTs X es (tT g' d)) : PTs X es (xT C d) := ⟨fun pins s σ H Q I ⟨g', hc, q⟩ => (h g' hc).run pins s σ H Q I q⟩
theorem xE_of {C : Ct} {e : Expr} {d : Env' → Res Val} (h : ∀ g' : Gm, g'.C = C → PE X e (tE g' d)) : PE X e (xE C d) := ⟨fun pins s σ H Q I ⟨g', hc, q⟩ => (h g' hc).run pins s σ H Q I q⟩
theorem tG_mono {u : UG} {js : List Nat} {v : V} {Q Q' : St → Hp → Prop} (k : ∀ σ H, Q σ H → Q' σ H) (h : tG g u js v σ H Q) : tG g u js v σ H Q' := by
  obtain ⟨F, env, p, env', S, r, e, q⟩ := h
  exact ⟨F, env, p, env', S, r, e, fun σ' S' l a => k _ _ (q σ' S' l a)⟩
theorem tT_mono {d : Env' → Res Bool} {Q Q' : Bool → Hp → Prop} (k : ∀ b H, Q b H → Q' b H) (h : tT g d σ H Q) : tT g d σ H Q' := by
  obtain ⟨F, env, S, go⟩ := h
  exact ⟨F, env, S, go.mono fun b e F' H' _ _ q => k b H' q⟩
theorem tE_mono {d : Env' → Res Val} {Q Q' : VK} (k : ∀ b H, Q b H → Q' b H) (h : tE g d σ H Q) : tE g d σ H Q' := by
  obtain ⟨F, env, S, go⟩ := h
  exact ⟨F, env, S, go.mono fun b e F' H' _ _ q v r => k v H' (q v r)⟩
theorem tLc_of {vs js : List Nat} {di : Env' → Res (List PV)} {u : UG} {dt : Option (Env' → Res Bool)} {de : Env' → Res Val} (hj : ∀ j ∈ js, j ∈ vs) {Q : VK} (h : tE g (dLc vs di u dt de) σ H Q) :
    tLc (tI g di) (xG g.C u js) (xT g.C (dtO dt)) (xE g.C de) vs σ H Q := by
  obtain ⟨F, env, S, go⟩ := h
  refine ⟨F, env, S, (Go.bind go).mono fun ps e1 F1 H1 x1 S1 k J w => ?_⟩
  intro D hD
  obtain ⟨W, w0, turn⟩ := lc_turns hj S1 w k D hD
  refine ⟨W, w0, fun i m H hw => ?_⟩
  rcases turn i m H hw with z | ⟨go, Nx, hN, step⟩
  · exact .inl z
  · refine .inr ⟨go, Nx, hN, fun x H' y => ?_⟩
    obtain ⟨g', hC, q⟩ := step x H' y
    refine ⟨g', hC, tG_mono (fun σ2 H2 ⟨hw, q2⟩ => ⟨hw, g', hC, tT_mono (fun b H3 q3 => ?_) q2⟩) q⟩
    cases b with
    | false => exact q3
    | true => exact ⟨g', hC, q3⟩
theorem ok_blk {s : Shared} {H : Hp} {sc : Scope} {ce : Env} {fp : List Addr} {g' : Gm} (ok : Ok X g) (hC : g'.C = g.C) : Ok (X.blk s H sc ce fp) g' := ⟨by rw [hC]; exact ok.K, ok.u, ok.calm⟩
theorem se_lc {elt tg iter : Expr} {ifs : List Expr} {scope : Scope} {pos : Pos} {vs js : List Nat} {di : Env' → Res (List PV)} {u : UG} {dt : Option (Env' → Res Bool)} {de : Env' → Res Val} (own : List (Str × Nat)) (ok : Ok X g) (hN : X.N.Nodup)
    (hi : PI X tg iter (tI g di)) (bk : BlkOk X.N X.env.scope scope own) (hv : own.map (·.2) = vs) (hj : ∀ j ∈ js, j ∈ vs)
    (hg : ∀ (s : Shared) (H : Hp) (C : Addr) (cl : List (Str × Addr)) (fp : List Addr) (g' : Gm), g'.C = g.C → Ok (X.blk s H scope (compEnvC scope cl C X.env) fp) g' → PG (X.blk s H scope (compEnvC scope cl C X.env) fp) tg (tG g' u js))
    (ht : ∀ (s : Shared) (H : Hp) (C : Addr) (cl : List (Str × Addr)) (fp : List Addr) (g' : Gm), g'.C = g.C → Ok (X.blk s H scope (compEnvC scope cl C X.env) fp) g' → PTs (X.blk s H scope (compEnvC scope cl C X.env) fp) ifs (tT g' (dtO dt)))
    (he : ∀ (s : Shared) (H : Hp) (C : Addr) (cl : List (Str × Addr)) (fp : List Addr) (g' : Gm), g'.C = g.C → Ok (X.blk s H scope (compEnvC scope cl C X.env) fp) g' → PE (X.blk s H scope (compEnvC scope cl C X.env) fp) elt (tE g' de))
    (hs : ∀ x, foldedSetIterable iter X.env x = pure x) : PE X (.ListComp elt [⟨tg, iter, ifs, 0⟩] scope pos) (tE g (dLc vs di u dt de)) := by
  subst hv
  exact peImp (pe_lc ok.calm hN hi bk (fun s H C cl fp => xG_of fun g' hC => hg s H C cl fp g' hC (ok_blk ok hC)) (fun s H C cl fp => xT_of fun g' hC => ht s H C cl fp g' hC (ok_blk ok hC)) (fun s H C cl fp => xE_of fun g' hC => he s H C cl fp g' hC (ok_blk ok hC)) hs) fun σ H Q h => tLc_of hj h
/-- y = [..], y a local -/
theorem ss_setLc {i : Nat} {y : Str} {py spos : Pos} {elt tg iter : Expr} {ifs : List Expr} {scope : Scope} {pos : Pos} {vs js : List Nat} {di : Env' → Res (List PV)} {u : UG} {dt : Option (Env' → Res Bool)} {de : Env' → Res Val} (own : List (Str × Nat)) (ok : Ok X g) (hN : X.N.Nodup)
    (hy : X.N[i]? = some y) (hyl : X.env.scope.names.lookup y = some .local) (hsw : swapsWith (.ListComp elt [⟨tg, iter, ifs, 0⟩] scope pos) (some (.Name y py)) spos.line X.env = pure true)
    (hi : PI X tg iter (tI g di)) (bk : BlkOk X.N X.env.scope scope own) (hv : own.map (·.2) = vs) (hj : ∀ j ∈ js, j ∈ vs)
    (hg : ∀ (s : Shared) (H : Hp) (C : Addr) (cl : List (Str × Addr)) (fp : List Addr) (g' : Gm), g'.C = g.C → Ok (X.blk s H scope (compEnvC scope cl C X.env) fp) g' → PG (X.blk s H scope (compEnvC scope cl C X.env) fp) tg (tG g' u js))
    (ht : ∀ (s : Shared) (H : Hp) (C : Addr) (cl : List (Str × Addr)) (fp : List Addr) (g' : Gm), g'.C = g.C → Ok (X.blk s H scope (compEnvC scope cl C X.env) fp) g' → PTs (X.blk s H scope (compEnvC scope cl C X.env) fp) ifs (tT g' (dtO dt)))
    (he : ∀ (s : Shared) (H : Hp) (C : Addr) (cl : List (Str × Addr)) (fp : List Addr) (g' : Gm), g'.C = g.C → Ok (X.blk s H scope (compEnvC scope cl C X.env) fp) g' → PE (X.blk s H scope (compEnvC scope cl C X.env) fp) elt (tE g' de))
    (hs : ∀ x, foldedSetIterable iter X.env x = pure x) : PS X (.Assign [.Name y py] (.ListComp elt [⟨tg, iter, ifs, 0⟩] scope pos) spos) (tS g (dSet i (dLc vs di u dt de))) := by
  subst hv
  refine psImp (ps_setLc ok.calm hN hy hyl hsw hi bk (fun s H C cl fp => xG_of fun g' hC => hg s H C cl fp g' hC (ok_blk ok hC)) (fun s H C cl fp => xT_of fun g' hC => ht s H C cl fp g' hC (ok_blk ok hC)) (fun s H C cl fp => xE_of fun g' hC => he s H C cl fp g' hC (ok_blk ok hC)) hs) fun D σ H h => ?_
  obtain ⟨F, env, S, go⟩ := h
  exact tLc_of hj ⟨F, env, S, (GoS.bindE (σ := σ) go).mono fun x e F' H' x1 S1 k v r => store_go S1 r k⟩
end
end VL

set_option maxRecDepth 100000
set_option maxHeartbeats 2000000
namespace VL
open PySem PySem.Spec L2
open PyProof.Rows hiding St
/-! ### defs -/
inductive FR where
  | bad | ok (x : Val) (outs : List PV)
/-- true: a container that is lent -/
abbrev Md := List Bool
def ArgsOk (C : Ct) (F H : Hp) : Md → List PV → List V → Prop
  | [], ps, vs => ps = [] ∧ vs = []
  | m :: ms, ps, vs => ∃ p pr v vr, ps = p :: pr ∧ vs = v :: vr ∧ (if m = true then ∃ a, v = .ref a ∧ R1 C F H p a ∧ F a = none else R C F p v) ∧ ArgsOk C F H ms pr vr
/-- the lent cells -/
def lentV : Md → List V → List V
  | m :: ms, v :: vs => if m = true then v :: lentV ms vs else lentV ms vs
  | _, _ => []
def OutsOk (C : Ct) (F H : Hp) : List V → List PV → Prop
  | [], qs => qs = []
  | v :: vs, qs => ∃ q qr a, qs = q :: qr ∧ v = .ref a ∧ R1 C F H q a ∧ F a = none ∧ OutsOk C F H vs qr
/-- what a call gives: H the heap at the call -/
def RVc (C : Ct) (F' H H' : Hp) : Val → V → Prop
  | .fz p, v => R C F' p v
  | .bor _, _ => False
  | .new p, v => ∃ a, v = .ref a ∧ R1 C F' H' p a ∧ F' a = none ∧ H a = none
def SpV (C : Ct) (md : Md) (fn : List PV → FR) : Sp := fun vs H Q E => ∃ F args x outs, Le F H ∧ LamX.Tabs C.T H ∧ ArgsOk C F H md args vs ∧ (lentV md vs).Nodup ∧ fn args = .ok x outs ∧
  ∀ F' H' v, Ex F F' → (∀ b o, F' b = some o → F b = some o ∨ H b = none) → Le F' H' → LamX.Tabs C.T H' → (∀ b o, H b = some o → V.ref b ∉ lentV md vs → Kpt o (H' b)) → OutsOk C F' H' (lentV md vs) outs → RVc C F' H H' x v → Q v H'
def entryE : Md → List PV → Env'
  | m :: ms, p :: ps => (if m = true then .ow false p else .fz p) :: entryE ms ps
  | _, _ => []
def entry (n : Nat) (md : Md) (args : List PV) : Env' := entryE md args ++ List.replicate (n - args.length) .no
/-- what stands in the lent slots at the end -/
def outsAt : Nat → Md → Env' → Option (List PV)
  | _, [], _ => some []
  | i, m :: ms, e => if m = true then (match e[i]?, outsAt (i + 1) ms e with
    | some (.ow false q), some r => some (q :: r)
    | _, _ => none) else outsAt (i + 1) ms e
def callFn (n : Nat) (md : Md) (d : Env' → Res Fl) : List PV → FR := fun args => match d (entry n md args) with
  | .ok .nx e => match outsAt 0 md e with
    | some outs => .ok (.fz .non) outs
    | none => .bad
  | .ok (.rt (.fz p)) e => match outsAt 0 md e with
    | some outs => .ok (.fz p) outs
    | none => .bad
  | .ok (.rt (.new p)) e => match outsAt 0 md e with
    | some outs => .ok (.new p) outs
    | none => .bad
  | _ => .bad
/-- the callee's activation -/
def callG (C : Ct) (F H : Hp) (md : Md) (vs : List V) : Gm where
  C := C
  F0 := F
  H0 := H
  P := fun i => match md[i]?, vs[i]? with
    | some true, some (.ref a) => some a
    | _, _ => none
  W := fun _ _ _ _ _ => False
section
variable {C : Ct} {F H F' H' : Hp} {env : Env'}
theorem ArgsOk.len : ∀ {md : Md} {ps : List PV} {vs : List V}, ArgsOk C F H md ps vs → ps.length = md.length ∧ vs.length = md.length
  | [], ps, vs, h => by obtain ⟨rfl, rfl⟩ := h; exact ⟨rfl, rfl⟩
  | m :: ms, ps, vs, h => by
    obtain ⟨p, pr, v, vr, rfl, rfl, _, h⟩ := h
    obtain ⟨h1, h2⟩ := ArgsOk.len h
    exact ⟨congrArg Nat.succ h1, congrArg Nat.succ h2⟩
theorem ArgsOk.at : ∀ {md : Md} {ps : List PV} {vs : List V} {i : Nat} {x : Sl}, ArgsOk C F H md ps vs → (entryE md ps)[i]? = some x → ∃ m p v, md[i]? = some m ∧ vs[i]? = some v ∧ x = (if m = true then .ow false p else .fz p) ∧ (if m = true then ∃ a, v = .ref a ∧ R1 C F H p a ∧ F a = none else R C F p v)
  | [], ps, vs, i, x, h, e => by obtain ⟨rfl, rfl⟩ := h; simp [entryE] at e
  | m :: ms, ps, vs, i, x, h, e => by
    obtain ⟨p, pr, v, vr, rfl, rfl, hm, h⟩ := h
    cases i with
    | zero =>
      simp [entryE] at e
      exact ⟨m, p, v, rfl, rfl, e.symm, hm⟩
    | succ i =>
      simp only [entryE, List.getElem?_cons_succ] at e
      obtain ⟨m', p', v', h1, h2, h3⟩ := ArgsOk.at h e
      exact ⟨m', p', v', h1, h2, h3⟩
theorem ArgsOk.lent_at : ∀ {md : Md} {ps : List PV} {vs : List V} {i : Nat} {v : V}, ArgsOk C F H md ps vs → md[i]? = some true → vs[i]? = some v → v ∈ lentV md vs
  | [], ps, vs, i, v, h, e, _ => by simp at e
  | m :: ms, ps, vs, i, v, h, e, e2 => by
    obtain ⟨p, pr, w, vr, rfl, rfl, hm, h⟩ := h
    cases i with
    | zero =>
      simp at e e2; subst e; subst e2
      simp [lentV]
    | succ i =>
      have := ArgsOk.lent_at h (by simpa using e) (by simpa using e2)
      unfold lentV
      split
      · exact List.mem_cons_of_mem _ this
      · exact this
theorem lentV_inj : ∀ {md : Md} {vs : List V} {i j : Nat} {v : V}, (lentV md vs).Nodup → md[i]? = some true → md[j]? = some true → vs[i]? = some v → vs[j]? = some v → i = j
  | [], vs, i, j, v, _, e, _, _, _ => by simp at e
  | m :: ms, [], i, j, v, _, _, _, e, _ => by simp at e
  | m :: ms, w :: vs, i, j, v, nd, e1, e2, f1, f2 => by
    have mem : ∀ {ms : Md} {vs : List V} {i : Nat} {v : V}, ms[i]? = some true → vs[i]? = some v → v ∈ lentV ms vs := by
      intro ms
      induction ms with
      | nil => intro vs i v h; simp at h
      | cons m ms ih =>
        intro vs i v h h2
        cases vs with
        | nil => simp at h2
        | cons w vs =>
          cases i with
          | zero => simp at h h2; subst h; subst h2; simp [lentV]
          | succ i =>
            have := ih (by simpa using h) (by simpa using h2)
            unfold lentV
            split
            · exact List.mem_cons_of_mem _ this
            · exact this
    cases i with
    | zero =>
      cases j with
      | zero => rfl
      | succ j =>
        exfalso
        simp at e1 f1 e2 f2
        subst e1; subst f1
        unfold lentV at nd
        rw [if_pos rfl] at nd
        exact (List.nodup_cons.mp nd).1 (mem e2 f2)
    | succ i =>
      cases j with
      | zero =>
        exfalso
        simp at e1 f1 e2 f2
        subst e2; subst f2
        unfold lentV at nd
        rw [if_pos rfl] at nd
        exact (List.nodup_cons.mp nd).1 (mem e1 f1)
      | succ j =>
        have nd' : (lentV ms vs).Nodup := by
          unfold lentV at nd
          split at nd
          · exact (List.nodup_cons.mp nd).2
          · exact nd
        exact congrArg Nat.succ (lentV_inj (v := v) nd' (by simpa using e1) (by simpa using e2) (by simpa using f1) (by simpa using f2))
theorem lentV_of : ∀ {md : Md} {vs : List V} {v : V}, v ∈ lentV md vs → ∃ i : Nat, md[i]? = some true ∧ vs[i]? = some v
  | [], vs, v, h => by cases vs <;> simp [lentV] at h
  | m :: ms, [], v, h => by simp [lentV] at h
  | m :: ms, w :: vs, v, h => by
    unfold lentV at h
    split at h
    · rename_i hm
      rcases List.mem_cons.mp h with z | z
      · exact ⟨0, by simp [hm], by simp [z]⟩
      · obtain ⟨i, h1, h2⟩ := lentV_of z
        exact ⟨i + 1, by simpa using h1, by simpa using h2⟩
    · obtain ⟨i, h1, h2⟩ := lentV_of h
      exact ⟨i + 1, by simpa using h1, by simpa using h2⟩
theorem entryE_len : ∀ {md : Md} {ps : List PV}, ps.length = md.length → (entryE md ps).length = ps.length
  | [], ps, h => by
    have : ps = [] := List.eq_nil_of_length_eq_zero h
    subst this; rfl
  | m :: ms, [], h => by simp at h
  | m :: ms, p :: ps, h => by simp [entryE, entryE_len (by simpa using h : ps.length = ms.length)]
theorem entry_at {n : Nat} {md : Md} {ps : List PV} {i : Nat} {x : Sl} (hl : ps.length = md.length) (h : (entry n md ps)[i]? = some x) : x = .no ∨ (entryE md ps)[i]? = some x := by
  unfold entry at h
  by_cases hi : i < (entryE md ps).length
  · rw [List.getElem?_append_left hi] at h; exact .inr h
  · rw [List.getElem?_append_right (by omega)] at h
    rw [List.getElem?_replicate] at h
    split at h
    · cases h; exact .inl rfl
    · cases h
/-- a def's entry -/
theorem Stt.entry {N : List Str} {md : Md} {args : List PV} {vs : List V} (l : Le F H) (tb : LamX.Tabs C.T H) (a : ArgsOk C F H md args vs) (nd : (lentV md vs).Nodup) (hn : md.length ≤ N.length) : Stt (callG C F H md vs) F H (L2.start N vs) (entry N.length md args) := by
  obtain ⟨l1, l2⟩ := a.len
  have sat : ∀ {i : Nat} {v : V}, vs[i]? = some v → (L2.start N vs)[i]? = some (some v) := fun {i v} h => by
    unfold L2.start
    have hi : i < vs.length := (List.getElem?_eq_some_iff.mp h).1
    rw [List.getElem?_append_left (by simpa using hi), List.getElem?_map, h]; rfl
  refine ⟨?_, fun b o q _ => .inl q, fun b hb => ?_, Ex.refl F, fun b o q => .inl q, l, fun i p q => ?_, fun i b p q => ?_, fun i j b c p q x hi hj e1 e2 => ?_, tb⟩
  · unfold L2.start VL.entry
    rw [List.length_append, List.length_append, List.length_map, List.length_replicate, List.length_replicate, entryE_len l1]
    omega
  · obtain ⟨i, hi⟩ := hb
    unfold callG at hi
    dsimp only at hi
    split at hi
    · rename_i a' h1 h2
      cases hi
      have : i < (entryE md args).length := by
        rw [entryE_len l1, l1]
        exact (List.getElem?_eq_some_iff.mp h1).1
      obtain ⟨m, p, v, e1, e2, e3, e4⟩ := a.at (List.getElem?_eq_getElem this)
      rw [h1] at e1; cases e1
      rw [h2] at e2; cases e2
      rw [if_pos rfl] at e4
      obtain ⟨a'', z, r, _⟩ := e4
      cases z
      exact r.cell
    · cases hi
  · rcases entry_at l1 q with z | z
    · cases z
    · obtain ⟨m, p', v, e1, e2, e3, e4⟩ := a.at z
      cases m with
      | true => rw [if_pos rfl] at e3; cases e3
      | false =>
        rw [if_neg Bool.false_ne_true] at e3 e4
        cases e3
        exact ⟨v, sat e2, e4⟩
  · rcases entry_at l1 q with z | z
    · cases z
    · obtain ⟨m, p', v, e1, e2, e3, e4⟩ := a.at z
      cases m with
      | false => rw [if_neg Bool.false_ne_true] at e3; cases e3
      | true =>
        rw [if_pos rfl] at e3 e4
        cases e3
        obtain ⟨ad, rfl, r, hf⟩ := e4
        refine ⟨ad, sat e2, r, hf, ?_⟩
        rw [if_neg Bool.false_ne_true]
        show (match md[i]?, vs[i]? with | some true, some (.ref a) => some a | _, _ => none) = some ad
        rw [e1, e2]
  · rcases entry_at l1 hi with z | z
    · cases z
    · rcases entry_at l1 hj with z' | z'
      · cases z'
      · obtain ⟨m, p', v, f1, f2, f3, f4⟩ := a.at z
        obtain ⟨m', p'', v', g1, g2, g3, g4⟩ := a.at z'
        cases m with
        | false => rw [if_neg Bool.false_ne_true] at f3; cases f3
        | true =>
          cases m' with
          | false => rw [if_neg Bool.false_ne_true] at g3; cases g3
          | true =>
            have h1 := sat f2
            have h2 := sat g2
            rw [h1] at e1; cases e1
            rw [h2] at e2; cases e2
            exact lentV_inj nd f1 g1 f2 g2
theorem lentV_drop {md : Md} {vs : List V} : ∀ {i : Nat}, lentV (md.drop i) (vs.drop i) = match md[i]?, vs[i]? with
    | some m, some v => if m = true then v :: lentV (md.drop (i + 1)) (vs.drop (i + 1)) else lentV (md.drop (i + 1)) (vs.drop (i + 1))
    | _, _ => [] := by
  intro i
  cases h1 : md[i]? with
  | none =>
    rw [List.drop_eq_nil_of_le (List.getElem?_eq_none_iff.mp h1)]
    cases vs.drop i <;> rfl
  | some m =>
    cases h2 : vs[i]? with
    | none =>
      rw [List.drop_eq_nil_of_le (List.getElem?_eq_none_iff.mp h2)]
      cases md.drop i <;> rfl
    | some v =>
      obtain ⟨l1, rfl⟩ := List.getElem?_eq_some_iff.mp h1
      obtain ⟨l2, rfl⟩ := List.getElem?_eq_some_iff.mp h2
      rw [List.drop_eq_getElem_cons l1, List.drop_eq_getElem_cons l2]
      rfl
/-- the lent cells at the end -/
theorem outs_ok {md : Md} {vs : List V} {σ : St} {g : Gm} (hC : g.C = C) (hP : ∀ i a, g.P i = some a → vs[i]? = some (.ref a)) (hlen : vs.length = md.length) (S : Stt g F' H' σ env) : ∀ {i : Nat} {outs : List PV}, outsAt i (md.drop i) env = some outs → OutsOk C F' H' (lentV (md.drop i) (vs.drop i)) outs := by
  intro i
  generalize hr : md.length - i = r
  induction r generalizing i with
  | zero =>
    intro outs h
    have hd : md.drop i = [] := List.drop_eq_nil_of_le (by omega)
    rw [hd] at h ⊢
    cases h
    cases vs.drop i <;> rfl
  | succ r ih =>
    intro outs h
    have hi : i < md.length := by omega
    have e1 : md[i]? = some md[i] := List.getElem?_eq_getElem hi
    have e2 : vs[i]? = some vs[i] := List.getElem?_eq_getElem (by omega)
    rw [lentV_drop, e1, e2]
    dsimp only
    rw [List.drop_eq_getElem_cons hi] at h
    unfold outsAt at h
    split at h
    · rename_i hm
      rw [if_pos hm]
      split at h
      · rename_i q r' h1 h2
        cases h
        obtain ⟨a, z1, z2, z3, z4⟩ := S.ow i _ q h1
        rw [if_neg Bool.false_ne_true] at z4
        have := hP i a z4
        rw [e2] at this
        have this := Option.some.inj this
        exact ⟨q, r', a, rfl, this, by rw [← hC]; exact z2, z3, ih (i := i + 1) (by omega) h2⟩
      · cases h
    · rename_i hm
      rw [if_neg hm]
      exact ih (i := i + 1) (by omega) h
end
end VL

set_option maxRecDepth 100000
set_option maxHeartbeats 2000000
namespace VL
open PySem PySem.Spec L2
open PyProof.Rows hiding St
section
variable {C : Ct} {F H F' H' : Hp} {env : Env'}
theorem callG_P {md : Md} {vs : List V} : ∀ i a, (callG C F H md vs).P i = some a → vs[i]? = some (.ref a) := fun i a h => by
  unfold callG at h
  dsimp only at h
  split at h
  · rename_i a' h1 h2
    cases h; exact h2
  · cases h
/-- the end of a call, from the callee's state -/
theorem call_end {md : Md} {vs : List V} {σ : St} {x : Val} {v : V} {outs : List PV} {Q : VK} (hlen : vs.length = md.length) (S : Stt (callG C F H md vs) F' H' σ env) (rv : RV (callG C F H md vs) F' H' σ env x v) (hx : ∀ i, x ≠ .bor i) (ho : outsAt 0 md env = some outs)
    (k : ∀ F' H' v, Ex F F' → (∀ b o, F' b = some o → F b = some o ∨ H b = none) → Le F' H' → LamX.Tabs C.T H' → (∀ b o, H b = some o → V.ref b ∉ lentV md vs → Kpt o (H' b)) → OutsOk C F' H' (lentV md vs) outs → RVc C F' H H' x v → Q v H') : Q v H' := by
  refine k F' H' v S.ext S.fresh S.sub S.tab (fun b o q n => S.frame b o q fun ⟨i, z⟩ => n ?_) ?_ ?_
  · have h1 := callG_P i b z
    unfold callG at z
    dsimp only at z
    split at z
    · rename_i a' e1 e2
      cases z
      have hm : md[i]? = some true := e1
      have : ∀ {ms : Md} {vs : List V} {i : Nat} {v : V}, ms[i]? = some true → vs[i]? = some v → v ∈ lentV ms vs := by
        intro ms
        induction ms with
        | nil => intro vs i v h; simp at h
        | cons m ms ih =>
          intro vs i v h h2
          cases vs with
          | nil => simp at h2
          | cons w vs =>
            cases i with
            | zero => simp at h h2; subst h; subst h2; simp [lentV]
            | succ i =>
              have := ih (by simpa using h) (by simpa using h2)
              unfold lentV
              split
              · exact List.mem_cons_of_mem _ this
              · exact this
      exact this hm h1
    · cases z
  · have := outs_ok (C := C) (g := callG C F H md vs) rfl callG_P hlen S (i := 0) (outs := outs) (by simpa using ho)
    simpa using this
  · cases x with
    | fz p => exact rv
    | bor i => exact (hx i rfl).elim
    | new p =>
      obtain ⟨a, e1, e2, e3, e4, _⟩ := rv
      exact ⟨a, e1, e2, e3, e4⟩
/-- a body keeps the promise -/
theorem body_ok {N : List Str} {md : Md} {vs : List V} {d : Env' → Res Fl} {H : Hp} {Q : VK} {E : XK} (hn : md.length ≤ N.length) (h : SpV C md (callFn N.length md d) vs H Q E) :
    ∃ F, tS (callG C F H md vs) d { nx := fun _ H' => Q .non H', rt := Q } (L2.start N vs) H := by
  obtain ⟨F, args, x, outs, l, tb, a, nd, e, k⟩ := h
  obtain ⟨l1, l2⟩ := a.len
  refine ⟨F, F, _, Stt.entry l tb a nd hn, ?_⟩
  unfold callFn at e
  cases q : d (VL.entry N.length md args) with
  | bad => rw [q] at e; cases e
  | err y e' => rw [q] at e; cases e
  | ok f e' =>
    rw [q] at e
    cases f with
    | bk => cases e
    | ct => cases e
    | nx =>
      dsimp only at e
      split at e
      · rename_i outs' ho
        cases e
        exact fun F' H' σ' x1 S => call_end (x := .fz .non) (v := .non) l2 S (by show R _ _ _ _; unfold R; rfl) (fun i z => by cases z) ho k
      · cases e
    | rt y =>
      cases y with
      | bor i => cases e
      | fz p =>
        dsimp only at e
        split at e
        · rename_i outs' ho
          cases e
          exact fun F' H' σ' v x1 S rv => call_end l2 S rv (fun i z => by cases z) ho k
        · cases e
      | new p =>
        dsimp only at e
        split at e
        · rename_i outs' ho
          cases e
          exact fun F' H' σ' v x1 S rv => call_end l2 S rv (fun i z => by cases z) ho k
        · cases e
theorem SpV.len {md : Md} {fn : List PV → FR} : ∀ vs H Q E, SpV C md fn vs H Q E → vs.length = md.length := fun vs H Q E ⟨F, args, x, outs, l, _, a, _⟩ => a.len.2
/-- THE RULE: a def by its body -/
theorem fnV {P : Program} {w : World} {K : PySem.W.Frag} {mg : Str → Option Value} {base : Heap} {x qual : Str} {params : Arguments} {body : List Stmt} {scope : Scope} {dvs : List V} {kws : List (Str × V)} {f : Addr} {fd : FuncData} {N ps : List Str} {md : Md} {k : Nat} {d : Env' → Res Fl}
    (Fd : FunD K x qual params body scope dvs kws f fd) (S : FnScope N ps scope) (hmd : md.length = ps.length) (hn : md.length ≤ N.length) (hK : C.K = K)
    (hb : ∀ (cdv : Value) (A : Around) (outer : List Env) (s : Shared) (H : Hp) (E : XK) (g : Gm), g.C = C → Room k (cxOf C8.CX0 P w K mg base N qual scope f cdv A outer s H E).nox.A → Ok (cxOf C8.CX0 P w K mg base N qual scope f cdv A outer s H E).nox g →
      PSs (cxOf C8.CX0 P w K mg base N qual scope f cdv A outer s H E).nox body (tS g d)) : FnOk P w K mg base C8.CX0 (k + 1) f fd ps (SpV C md (callFn N.length md d)) := by
  refine Fd.ok S (fun vs H Q E h => by rw [SpV.len vs H Q E h, hmd]) fun cdv A outer s H vs Q E hr h => ?_
  obtain ⟨F, q⟩ := body_ok (E := E) hn h
  exact ⟨_, PSs.nox (hb cdv A outer s H E (callG C F H md vs) rfl hr ⟨hK, by have := hr.un; show A.units + 3 + 65 < cLine; have : (A.deeper (envOfC qual scope s.heap.objs.size f cdv)).units = A.units + 3 := rfl; omega, rfl⟩), q⟩
end

/-! ### the caller -/
def prep : Md → List Val → Env' → Res (List PV)
  | false :: ms, x :: xs, e => (frz x e).bind fun p e1 => (prep ms xs e1).bind fun ps e2 => .ok (p :: ps) e2
  | true :: ms, .bor i :: xs, e => (prep ms xs e).bind fun ps e2 => match e2[i]? with
    | some (.ow _ p) => .ok (p :: ps) e2
    | _ => .bad
  | [], [], e => .ok [] e
  | _, _, _ => .bad
/-- the lent slots -/
def lentI : Md → List Val → List Nat
  | true :: ms, .bor i :: xs => i :: lentI ms xs
  | _ :: ms, _ :: xs => lentI ms xs
  | _, _ => []
def putOuts : List Nat → List PV → Env' → Option Env'
  | [], [], e => some e
  | i :: is, q :: qs, e => match e[i]? with
    | some (.ow b _) => putOuts is qs (e.set i (.ow b q))
    | _ => none
  | _, _, _ => none
def callK (md : Md) (fn : List PV → FR) (xs : List Val) (e : Env') : Res Val := (prep md xs e).bind fun ps e2 => if (lentI md xs).Nodup then match fn ps with
  | .ok (.fz p) outs => (match putOuts (lentI md xs) outs e2 with
    | some e3 => .ok (.fz p) e3
    | none => .bad)
  | .ok (.new p) outs => (match putOuts (lentI md xs) outs e2 with
    | some e3 => .ok (.new p) e3
    | none => .bad)
  | _ => .bad else .bad
def dFn (md : Md) (fn : List PV → FR) (dps : List PV) (ds : List (Env' → Res Val)) : Env' → Res Val := fun e => (dArgs ds e).bind fun xs e1 => callK md fn (xs ++ dps.map Val.fz) e1
section
variable {X : Cx} {g : Gm} {pins : List (Addr × Obj)} {F H F' H' : Hp} {σ : St} {env env' : Env'} {s : Shared}
theorem prep_noerr : ∀ {md : Md} {xs : List Val} {env : Env'} {y : Exc'} {e : Env'}, prep md xs env ≠ .err y e
  | [], [], env, y, e, h => by unfold prep at h; cases h
  | [], x :: xs, env, y, e, h => by unfold prep at h; cases h
  | false :: ms, [], env, y, e, h => by unfold prep at h; cases h
  | true :: ms, [], env, y, e, h => by unfold prep at h; cases h
  | false :: ms, x :: xs, env, y, e, h => by
    unfold prep at h
    cases q : frz x env with
    | bad => rw [q] at h; cases h
    | err z e' => exact frz_noerr q
    | ok p e1 =>
      rw [q] at h
      cases q2 : prep ms xs e1 with
      | bad => simp only [Res.bind, q2] at h; cases h
      | err z e' => exact prep_noerr q2
      | ok ps e2 => simp only [Res.bind, q2] at h; cases h
  | true :: ms, .fz p :: xs, env, y, e, h => by unfold prep at h; cases h
  | true :: ms, .new p :: xs, env, y, e, h => by unfold prep at h; cases h
  | true :: ms, .bor i :: xs, env, y, e, h => by
    unfold prep at h
    cases q2 : prep ms xs env with
    | bad => rw [q2] at h; cases h
    | err z e' => exact prep_noerr q2
    | ok ps e2 =>
      rw [q2] at h
      simp only [Res.bind] at h
      split at h <;> cases h
/-- the arguments handed over -/
theorem prep_ok : ∀ {md : Md} {xs : List Val} {vs : List V} {F H : Hp} {env : Env'} {ps : List PV} {env' : Env'}, AllOld xs → Stt g F H σ env → RVs g F H σ env xs vs → prep md xs env = .ok ps env' →
    ∃ F', Ex F F' ∧ Stt g F' H σ env' ∧ ArgsOk g.C F' H md ps vs ∧ lentV md vs = (lentI md xs).map (fun i => match σ[i]? with | some (some v) => v | _ => .non) ∧ ∀ i ∈ lentI md xs, isOw i env' = true
  | [], [], vs, F, H, env, ps, env', o, S, r, h => by
    unfold prep at h; cases h
    cases (show vs = [] from r)
    exact ⟨F, Ex.refl F, S, ⟨rfl, rfl⟩, rfl, fun i hi => by cases hi⟩
  | [], x :: xs, vs, F, H, env, ps, env', o, S, r, h => by unfold prep at h; cases h
  | false :: ms, [], vs, F, H, env, ps, env', o, S, r, h => by unfold prep at h; cases h
  | true :: ms, [], vs, F, H, env, ps, env', o, S, r, h => by unfold prep at h; cases h
  | false :: ms, x :: xs, vs, F, H, env, ps, env', o, S, r, h => by
    unfold prep at h
    obtain ⟨v, t, rfl, r1, r2⟩ := r
    cases q : frz x env with
    | bad => rw [q] at h; cases h
    | err z e' => exact (frz_noerr q).elim
    | ok p e1 =>
      rw [q] at h
      cases q2 : prep ms xs e1 with
      | bad => simp only [Res.bind, q2] at h; cases h
      | err z e' => exact (prep_noerr q2).elim
      | ok ps' e2 =>
        simp only [Res.bind, q2] at h
        cases h
        obtain ⟨F1, x1, S1, rp⟩ := frz_ok S r1 q
        obtain ⟨F2, x2, S2, a, hl, hw⟩ := prep_ok o.2 S1 (RVs.later o.2 r2 x1) q2
        have hli : lentI (false :: ms) (x :: xs) = lentI ms xs := by cases x <;> rfl
        refine ⟨F2, x1.trans x2, S2, ⟨p, ps', v, t, rfl, rfl, ?_, a⟩, ?_, ?_⟩
        · rw [if_neg Bool.false_ne_true]; exact rp.mono x2.le
        · rw [hli]; unfold lentV; rw [if_neg Bool.false_ne_true]; exact hl
        · rw [hli]; exact hw
  | true :: ms, .fz p :: xs, vs, F, H, env, ps, env', o, S, r, h => by unfold prep at h; cases h
  | true :: ms, .new p :: xs, vs, F, H, env, ps, env', o, S, r, h => by unfold prep at h; cases h
  | true :: ms, .bor i :: xs, vs, F, H, env, ps, env', o, S, r, h => by
    unfold prep at h
    obtain ⟨v, t, rfl, r1, r2⟩ := r
    cases q2 : prep ms xs env with
    | bad => rw [q2] at h; cases h
    | err z e' => exact (prep_noerr q2).elim
    | ok ps' e2 =>
      rw [q2] at h
      simp only [Res.bind] at h
      split at h
      · rename_i b p hi
        cases h
        obtain ⟨F2, x2, S2, a, hl, hw⟩ := prep_ok o.2 S r2 q2
        obtain ⟨ad, e1, e2, e3, _⟩ := S2.ow i b p hi
        have r1 : σ[i]? = some (some v) := r1
        rw [r1] at e1; cases e1
        refine ⟨F2, x2, S2, ⟨p, ps', _, t, rfl, rfl, ?_, a⟩, ?_, fun j hj => ?_⟩
        · rw [if_pos rfl]; exact ⟨ad, rfl, e2, e3⟩
        · unfold lentV lentI
          rw [if_pos rfl, List.map_cons, r1, hl]
        · rcases List.mem_cons.mp hj with z | z
          · subst z; unfold isOw; rw [hi]
          · exact hw j z
      · cases h
theorem putOuts_at : ∀ {is : List Nat} {qs : List PV} {e e' : Env'}, putOuts is qs e = some e' → e'.length = e.length ∧ ∀ (j : Nat) (x : Sl), e'[j]? = some x → (j ∉ is ∧ e[j]? = some x) ∨ (j ∈ is ∧ ∃ b p q, e[j]? = some (.ow b p) ∧ x = .ow b q)
  | [], [], e, e', h => by
    unfold putOuts at h; cases h
    exact ⟨rfl, fun j x hx => .inl ⟨by simp, hx⟩⟩
  | [], q :: qs, e, e', h => by unfold putOuts at h; cases h
  | i :: is, [], e, e', h => by unfold putOuts at h; cases h
  | i :: is, q :: qs, e, e', h => by
    unfold putOuts at h
    split at h
    · rename_i b p hi
      obtain ⟨h1, h2⟩ := putOuts_at h
      refine ⟨by rw [h1]; simp, fun j x hx => ?_⟩
      rcases h2 j x hx with ⟨n, z⟩ | ⟨m, b', p', q', z, e2⟩
      · rcases getElem?_set_cases z with ⟨e1, e2, _⟩ | ⟨ne, z'⟩
        · subst e1
          exact .inr ⟨List.mem_cons_self .., b, p, q, hi, e2.symm⟩
        · refine .inl ⟨fun z2 => ?_, z'⟩
          rcases List.mem_cons.mp z2 with z3 | z3
          · exact ne z3.symm
          · exact n z3
      · rcases getElem?_set_cases z with ⟨e1, e3, _⟩ | ⟨ne, z'⟩
        · subst e1
          cases e3
          exact .inr ⟨List.mem_cons_self .., b, p, q', hi, e2⟩
        · exact .inr ⟨List.mem_cons_of_mem _ m, b', p', q', z', e2⟩
    · cases h
def vAt (σ : St) (i : Nat) : V := match σ[i]? with | some (some v) => v | _ => .non
theorem putOuts_r1 {C : Ct} : ∀ {is : List Nat} {qs : List PV} {e e' : Env'}, is.Nodup → putOuts is qs e = some e' → OutsOk C F' H' (is.map (vAt σ)) qs → ∀ j ∈ is, ∃ b p q a, e[j]? = some (.ow b p) ∧ e'[j]? = some (.ow b q) ∧ vAt σ j = .ref a ∧ R1 C F' H' q a ∧ F' a = none
  | [], qs, e, e', nd, h, o, j, hj => by cases hj
  | i :: is, [], e, e', nd, h, o, j, hj => by unfold putOuts at h; cases h
  | i :: is, q :: qs, e, e', nd, h, o, j, hj => by
    unfold putOuts at h
    obtain ⟨hn, nd'⟩ := List.nodup_cons.mp nd
    split at h
    · rename_i b p hi
      obtain ⟨q', qr, a, e1, e2, e3, e4, o'⟩ := o
      cases e1
      by_cases hji : j = i
      · subst hji
        obtain ⟨hl, hat⟩ := putOuts_at h
        have hlt : j < e.length := (List.getElem?_eq_some_iff.mp hi).1
        have hs : (e.set j (.ow b q))[j]? = some (.ow b q) := List.getElem?_set_self hlt
        have : e'[j]? = some (.ow b q) := by
          cases z : e'[j]? with
          | none =>
            rw [List.getElem?_eq_none_iff, hl] at z
            simp at z; omega
          | some y =>
            rcases hat j y z with ⟨_, w⟩ | ⟨w, _⟩
            · rw [hs] at w; exact w.symm
            · exact (hn w).elim
        exact ⟨b, p, q, a, hi, this, e2, e3, e4⟩
      · have hj' : j ∈ is := by
          rcases List.mem_cons.mp hj with z | z
          · exact absurd z hji
          · exact z
        obtain ⟨b', p', q', a', z1, z2, z3⟩ := putOuts_r1 nd' h o' j hj'
        rw [List.getElem?_set_ne (Ne.symm hji)] at z1
        exact ⟨b', p', q', a', z1, z2, z3⟩
    · cases h
/-- the state behind a call -/
theorem Stt.after {is : List Nat} {outs : List PV} {e3 : Env'} (S : Stt g F H σ env) (hw : ∀ i ∈ is, isOw i env = true) (nd : is.Nodup) (x1 : Ex F F') (fr : ∀ b o, F' b = some o → F b = some o ∨ H b = none) (l : Le F' H') (tb : LamX.Tabs g.C.T H')
    (keep : ∀ b o, H b = some o → V.ref b ∉ is.map (vAt σ) → Kpt o (H' b)) (oo : OutsOk g.C F' H' (is.map (vAt σ)) outs) (hp : putOuts is outs env = some e3) : Stt g F' H' σ e3 := by
  obtain ⟨hl, hat⟩ := putOuts_at hp
  have own : ∀ i ∈ is, ∃ b p a, env[i]? = some (.ow b p) ∧ σ[i]? = some (some (.ref a)) ∧ vAt σ i = .ref a ∧ (if b = true then g.H0 a = none else g.P i = some a) := fun i hi => by
    obtain ⟨b, q, a, e1, e2, e3⟩ := isOw_at S (hw i hi)
    obtain ⟨a', f1, f2, f3, f4⟩ := S.ow i b q e1
    rw [e2] at f1; cases f1
    exact ⟨b, q, a, e1, e2, by unfold vAt; rw [e2], f4⟩
  have notl : ∀ {b : Addr} {o : HO}, g.H0 b = some o → ¬ g.O b → V.ref b ∉ is.map (vAt σ) := fun {b o} q n z => by
    obtain ⟨i, hi, e⟩ := List.mem_map.mp z
    obtain ⟨f, p, a, e1, e2, e3, e4⟩ := own i hi
    rw [e3] at e; cases e
    cases f with
    | true => rw [if_pos rfl, q] at e4; cases e4
    | false => rw [if_neg Bool.false_ne_true] at e4; exact n ⟨i, e4⟩
  have r1 := putOuts_r1 (C := g.C) nd hp oo
  refine ⟨by rw [hl]; exact S.len, fun b o q n => (S.frame b o q n).trans fun o' q' => keep b o' q' (notl q n), fun b hb => ?_, S.ext.trans x1, fun b o q => ?_, l, fun i p q => ?_, fun i b p q => ?_, fun i j b c p q a hi hj e1 e2 => ?_, tb⟩
  · obtain ⟨o, q⟩ := S.live b hb
    by_cases z : V.ref b ∈ is.map (vAt σ)
    · obtain ⟨i, hi, e⟩ := List.mem_map.mp z
      obtain ⟨f, p, q', a, e1, e2, e3, e4, e5⟩ := r1 i hi
      rw [e3] at e; cases e
      exact e4.cell
    · exact (keep b o q z).some
  · rcases fr b o q with z | z
    · exact S.fresh b o z
    · exact .inr (S.sub_new z)
  · rcases hat i _ q with ⟨_, z⟩ | ⟨_, b, p', q', _, z⟩
    · obtain ⟨v, h1, h2⟩ := S.fz i p z
      exact ⟨v, h1, h2.mono x1.le⟩
    · cases z
  · rcases hat i _ q with ⟨ni, z⟩ | ⟨mi, b', p', q', z, z2⟩
    · obtain ⟨a, h1, h2, h3, h4⟩ := S.ow i b p z
      obtain ⟨o, ho⟩ := h2.cell
      have hn : V.ref a ∉ is.map (vAt σ) := fun w => by
        obtain ⟨j, hj, e⟩ := List.mem_map.mp w
        obtain ⟨f, p2, a2, e1, e2, e3, e4⟩ := own j hj
        rw [e3] at e; cases e
        have := S.inj i j _ _ _ _ a z e1 h1 e2
        exact ni (this ▸ hj)
      refine ⟨a, h1, h2.mono x1.le (((keep a o ho hn).eq (h2.pln ho).1).trans ho.symm), ?_, h4⟩
      cases w : F' a with
      | none => rfl
      | some o' =>
        rcases fr a o' w with z | z
        · rw [h3] at z; cases z
        · rw [ho] at z; cases z
    · cases z2
      obtain ⟨f, p2, q2, a2, e1, e2, e3, e4, e5⟩ := r1 i mi
      rw [q] at e2; cases e2
      obtain ⟨f', p3, a3, g1, g2, g3, g4⟩ := own i mi
      rw [e3] at g3; cases g3
      rw [e1] at g1; cases g1
      rw [z] at e1; cases e1
      exact ⟨_, g2, e4, e5, g4⟩
  · have back : ∀ {i : Nat} {b : Bool} {p : PV}, e3[i]? = some (.ow b p) → ∃ b p, env[i]? = some (.ow b p) := fun {i b p} h => by
      rcases hat i _ h with ⟨_, z⟩ | ⟨_, b, p', q', z, _⟩
      · exact ⟨_, _, z⟩
      · exact ⟨_, _, z⟩
    obtain ⟨_, _, h1⟩ := back hi
    obtain ⟨_, _, h2⟩ := back hj
    exact S.inj i j _ _ _ _ a h1 h2 e1 e2
theorem nodup_map {α β : Type} {f : α → β} : ∀ {l : List α}, (∀ i ∈ l, ∀ j ∈ l, f i = f j → i = j) → l.Nodup → (l.map f).Nodup
  | [], _, _ => List.nodup_nil
  | x :: l, h, nd => by
    obtain ⟨n1, n2⟩ := List.nodup_cons.mp nd
    rw [List.map_cons, List.nodup_cons]
    refine ⟨fun z => ?_, nodup_map (fun i hi j hj => h i (List.mem_cons_of_mem _ hi) j (List.mem_cons_of_mem _ hj)) n2⟩
    obtain ⟨y, hy, e⟩ := List.mem_map.mp z
    have := h y (List.mem_cons_of_mem _ hy) x (List.mem_cons_self ..) e
    exact n1 (this ▸ hy)
/-- a call, from the caller's state -/
theorem call_go {md : Md} {fn : List PV → FR} {xs : List Val} {vs : List V} {Q : VK} (o : AllOld xs) (S : Stt g F H σ env) (r : RVs g F H σ env xs vs) (go : Go g F σ (callK md fn xs env) fun x env' F' H' => ∀ v, RV g F' H' σ env' x v → Q v H') (E : XK) : SpV g.C md fn vs H Q E := by
  unfold callK at go
  cases hp : prep md xs env with
  | bad => rw [hp] at go; exact go.elim
  | err y e => exact (prep_noerr hp).elim
  | ok ps ee =>
    rw [hp] at go
    have go : Go g F σ (if (lentI md xs).Nodup then _ else _) _ := go
    split at go
    · rename_i nd
      obtain ⟨F1, x1, S1, a, hl, hw⟩ := prep_ok o S r hp
      have hl : lentV md vs = (lentI md xs).map (vAt σ) := hl
      have ndv : (lentV md vs).Nodup := by
        rw [hl]
        refine nodup_map (fun i hi j hj e => ?_) nd
        obtain ⟨b, q, ad, e1, e2, _⟩ := isOw_at S1 (hw i hi)
        obtain ⟨b', q', ad', f1, f2, _⟩ := isOw_at S1 (hw j hj)
        have h1 : vAt σ i = .ref ad := by unfold vAt; rw [e2]
        have h2 : vAt σ j = .ref ad' := by unfold vAt; rw [f2]
        rw [h1, h2] at e
        cases e
        exact S1.inj i j _ _ _ _ ad e1 f1 e2 f2
      cases hf : fn ps with
      | bad => rw [hf] at go; exact go.elim
      | ok x outs =>
        rw [hf] at go
        refine ⟨F1, ps, x, outs, S1.sub, S1.tab, a, ndv, hf, fun F' H' v x2 fr l tb keep oo rv => ?_⟩
        rw [hl] at keep oo
        cases x with
        | bor i => exact go.elim
        | fz p =>
          dsimp only at go
          split at go
          · rename_i e3 hp3
            exact go F' H' (x1.trans x2) (S1.after hw nd x2 fr l tb keep oo hp3) v rv
          · exact go.elim
        | new p =>
          dsimp only at go
          split at go
          · rename_i e3 hp3
            have S3 := S1.after hw nd x2 fr l tb keep oo hp3
            refine go F' H' (x1.trans x2) S3 v ?_
            obtain ⟨ad, e1, e2, e3', e4⟩ := rv
            refine ⟨ad, e1, e2, e3', S1.sub_new e4, fun i b q hi hv => ?_⟩
            have hb : ∃ b p, ee[i]? = some (.ow b p) := by
              obtain ⟨_, hat⟩ := putOuts_at hp3
              rcases hat i _ hi with ⟨_, z⟩ | ⟨_, b, p', q', z, _⟩
              · exact ⟨_, _, z⟩
              · exact ⟨_, _, z⟩
            obtain ⟨b', p', hb⟩ := hb
            obtain ⟨a2, f1, f2, _⟩ := S1.ow i b' p' hb
            rw [hv] at f1; cases f1
            obtain ⟨o', ho'⟩ := f2.cell
            rw [e4] at ho'; cases ho'
          · exact go.elim
    · exact go.elim
section
variable {k j : Nat} {x m : Str} {md : Md} {fn : List PV → FR} {dvs : List V} {dps : List PV} {p pos apos : Pos} {e o : Expr} {es : List Expr} {ds : List (Env' → Res Val)}
theorem dps_rvs : ∀ {dps : List PV} {dvs : List V}, (∀ F, Rs g.C F dps dvs) → RVs g F H σ env (dps.map Val.fz) dvs
  | [], dvs, h => (h F).nil_inv
  | d :: dps, dvs, h => by
    obtain ⟨v, r, rfl, _, _⟩ := (h F).cons_inv
    refine ⟨v, r, rfl, ?_, dps_rvs fun F => ?_⟩
    · obtain ⟨v', r', e, h1, _⟩ := (h F).cons_inv
      cases e; exact h1
    · obtain ⟨v', r', e, _, h2⟩ := (h F).cons_inv
      cases e; exact h2
theorem RVs.append : ∀ {xs ys : List Val} {vs ws : List V}, RVs g F H σ env xs vs → RVs g F H σ env ys ws → RVs g F H σ env (xs ++ ys) (vs ++ ws)
  | [], ys, vs, ws, h, t => by
    cases (show vs = [] from h); exact t
  | x :: xs, ys, vs, ws, h, t => by
    obtain ⟨v, r, rfl, h1, h2⟩ := h
    exact ⟨v, r ++ ws, rfl, h1, RVs.append h2 t⟩
theorem AllOld.append : ∀ {xs ys : List Val}, AllOld xs → AllOld ys → AllOld (xs ++ ys)
  | [], ys, _, t => t
  | x :: xs, ys, h, t => ⟨h.1, AllOld.append h.2 t⟩
theorem dps_old : ∀ {dps : List PV}, AllOld (dps.map Val.fz)
  | [] => trivial
  | d :: dps => ⟨trivial, dps_old⟩
/-- f(e, ..) -/
theorem se_fn (c : C8.Cal X.prog X.w X.K X.mg X.base k x (SpV g.C md fn) dvs) (hr : Room j X.A) (hk : k ≤ j) (hg : Gl X x) (hd : ∀ F, Rs g.C F dps dvs) (ha : PA X (e :: es) (tAs g (dArgs ds)))
    (hdb : (x == ("__debug__" : Str)) = false) (he : starEach (e :: es) X.env = (false, eval e X.env) :: starEach es X.env) (hpl : (backTo pos (starEach es X.env)).any (·.1) = false) :
    PE X (.Call (.Name x p) (e :: es) [] pos) (tE g (dFn md fn dps ds)) :=
  peImp (C8.pe_c c hr hk hg ha hdb he hpl) fun σ H Q ⟨F, env, S, go⟩ => ⟨F, env, S, (Go.bind go).mono fun xs e1 F1 H1 x1 S1 k vs o r =>
    call_go (AllOld.append o dps_old) S1 (RVs.append r (dps_rvs hd)) k C8.E0⟩
theorem se_fn0 (c : C8.Cal X.prog X.w X.K X.mg X.base k x (SpV g.C md fn) dvs) (hr : Room j X.A) (hk : k ≤ j) (hg : Gl X x) (hd : ∀ F, Rs g.C F dps dvs)
    (hdb : (x == ("__debug__" : Str)) = false) : PE X (.Call (.Name x p) [] [] pos) (tE g (dFn md fn dps [])) := by
  obtain ⟨f, fd, ps, ds, F, hm, kp, b, d⟩ := c.ex
  exact peImp (pe_call0 (E := C8.E0) F (hr.mono hk) hg hm kp b d C8.pass0 hdb) fun σ H Q ⟨F, env, S, go⟩ => by
    have := go
    unfold dFn dArgs at go
    exact call_go (vs := dvs) dps_old S (dps_rvs hd) (by simpa [Res.bind] using go) C8.E0
theorem Go.withEq {α : Type} {r : Res α} {K : α → Env' → Hp → Hp → Prop} (h : Go g F σ r K) : Go g F σ r fun x e F' H' => r = .ok x e ∧ K x e F' H' := by
  cases r with
  | bad => exact h
  | err y e => exact h
  | ok x e => exact fun F' H' a b => ⟨rfl, h F' H' a b⟩
theorem stl_ok {d : Env' → Res Val} {x : Val} {e : Env'} (h : stl d env = .ok x e) : x.old := by
  unfold stl at h
  cases q : d env with
  | bad => rw [q] at h; cases h
  | err y e => rw [q] at h; cases h
  | ok y e =>
    rw [q] at h
    cases h
    exact Val.stl_old y
/-- o.m(e, ..), o of the own class c -/
def insAt (c : Nat) (n : Nat) (x : Val) (e : Env') : Bool := match peek x e with
  | some (.ins c' vs) => decide (c' = c)
  | _ => false
def dMt (c : Nat) (md : Md) (fn : List PV → FR) (dps : List PV) (da : Env' → Res Val) (ds : List (Env' → Res Val)) : Env' → Res Val := fun e => (stl da e).bind fun x e1 => if insAt c 0 x e1 = true then (dArgs ds e1).bind fun xs e2 => callK md fn (x :: (xs ++ dps.map Val.fz)) e2 else .bad
theorem insAt_is {c : Nat} {x : Val} {v : V} (S : Stt g F H σ env) (r : RV g F H σ env x v) (h : insAt c 0 x env = true) : ∃ a dx fs vs, v = .ref a ∧ H a = some (.ins (g.C.ad c) dx fs) ∧ fs.map Prod.fst = (g.C.fl c).take vs := by
  unfold insAt at h
  cases e : peek x env with
  | none => rw [e] at h; cases h
  | some p =>
    rw [e] at h
    cases p with
    | ins c' vs =>
      have hc : c' = c := of_decide_eq_true h
      subst hc
      obtain ⟨a, dx, fs, h1, h2, h3, _⟩ := peek_ok S r e
      exact ⟨a, dx, fs, vs.length, h1, h2, h3⟩
    | _ => cases h
theorem no_lookup {fs : List (Str × V)} {m : Str} {l : List Str} {n : Nat} (h : fs.map Prod.fst = l.take n) (hm : m ∉ l) : fs.lookup m = none := by
  rw [List.lookup_eq_none_iff]
  intro y hy
  have : y.1 ∈ fs.map Prod.fst := List.mem_map_of_mem hy
  rw [h] at this
  have := List.mem_of_mem_take this
  simp
  exact fun z => hm (z ▸ this)
/-- o.m(e, ..), o of the own class c -/
theorem se_mt {pl : Sem Bool} {c : Nat} (cm : C8.Met X.prog X.w X.K X.mg X.base k (g.C.ad c) m (SpV g.C md fn) dvs) (hr : Room j X.A) (hk : k ≤ j) (hd : ∀ F, Rs g.C F dps dvs) (hmf : m ∉ g.C.fl c) (ho : PE X o (tE g da)) (ha : PA X (e :: es) (tAs g (dArgs ds)))
    (hst : starEach (e :: es) X.env = (false, eval e X.env) :: starEach es X.env) (hpl : (backTo pos (starEach es X.env)).any (·.1) = false)
    (ht : eval (.Call (.Attribute o m apos) (e :: es) [] pos) X.env = (do
      let ov ← eval o X.env
      standAt apos.atName
      let (f, first) ← holding [ov] (getMethod ov m pl)
      callWith pos f first (backTo pos (starEach (e :: es) X.env)) (backToKw pos (keywordEach [] X.env)))) :
    PE X (.Call (.Attribute o m apos) (e :: es) [] pos) (tE g (dMt c md fn dps da ds)) := by
  refine peImp (C8.pe_mt (pl := pl) cm hr hk (peStl ho) ha hst hpl ht) fun σ H Q ⟨F, env, S, go⟩ => ⟨F, env, S, (Go.withEq (Go.bind go)).mono fun x e1 F1 H1 x1 S1 k v r => ?_⟩
  obtain ⟨hxo, k⟩ := k
  have hxo := stl_ok hxo
  split at k
  · rename_i hi
    obtain ⟨a, dx, fs, n, rfl, h2, h3⟩ := insAt_is S1 r hi
    refine ⟨a, dx, fs, rfl, h2, no_lookup h3 hmf, F1, e1, S1, (Go.bind k).mono fun xs e2 F2 H2 x2 S2 k2 vs o2 r2 => ?_⟩
    exact call_go (xs := x :: (xs ++ dps.map Val.fz)) (vs := .ref a :: (vs ++ dvs)) ⟨hxo, AllOld.append o2 dps_old⟩ S2 ⟨_, _, rfl, r.later hxo x2, RVs.append r2 (dps_rvs hd)⟩ k2 C8.E0
  · exact k.elim
theorem se_mt0 {pl : Sem Bool} {c : Nat} (cm : C8.Met X.prog X.w X.K X.mg X.base k (g.C.ad c) m (SpV g.C md fn) dvs) (hr : Room j X.A) (hk : k ≤ j) (hd : ∀ F, Rs g.C F dps dvs) (hmf : m ∉ g.C.fl c) (ho : PE X o (tE g da))
    (ht : eval (.Call (.Attribute o m apos) [] [] pos) X.env = (do
      let ov ← eval o X.env
      standAt apos.atName
      let (f, first) ← holding [ov] (getMethod ov m pl)
      callWith pos f first (backTo pos (starEach [] X.env)) (backToKw pos (keywordEach [] X.env)))) :
    PE X (.Call (.Attribute o m apos) [] [] pos) (tE g (dMt c md fn dps da [])) := by
  refine peImp (C8.pe_mt0 (pl := pl) cm hr hk (peStl ho) ht) fun σ H Q ⟨F, env, S, go⟩ => ⟨F, env, S, (Go.withEq (Go.bind go)).mono fun x e1 F1 H1 x1 S1 k v r => ?_⟩
  obtain ⟨hxo, k⟩ := k
  have hxo := stl_ok hxo
  split at k
  · rename_i hi
    obtain ⟨a, dx, fs, n, rfl, h2, h3⟩ := insAt_is S1 r hi
    refine ⟨a, dx, fs, rfl, h2, no_lookup h3 hmf, ?_⟩
    exact call_go (xs := x :: ([] ++ dps.map Val.fz)) (vs := .ref a :: ([] ++ dvs)) ⟨hxo, dps_old⟩ S1 ⟨_, _, rfl, r, dps_rvs hd⟩ k C8.E0
  · exact k.elim
/-! ### a class made -/
def mkK (c : Nat) (md : Md) (fn : List PV → FR) (xs : List Val) (e : Env') : Res Val := (prep md xs e).bind fun ps e2 => if (lentI md xs).Nodup then match fn (.ins c [] :: ps) with
  | .ok (.fz .non) (q :: outs) => (match putOuts (lentI md xs) outs e2 with
    | some e3 => .ok (.new q) e3
    | none => .bad)
  | _ => .bad else .bad
/-- md: of what is written (self is lent) -/
def dMk (c : Nat) (md : Md) (fn : List PV → FR) (dps : List PV) (ds : List (Env' → Res Val)) : Env' → Res Val := fun e => (dArgs ds e).bind fun xs e1 => mkK c md fn (xs ++ dps.map Val.fz) e1
theorem ArgsOk.grow {C : Ct} {F H H' : Hp} (e : Ex H H') : ∀ {md : Md} {ps : List PV} {vs : List V}, ArgsOk C F H md ps vs → ArgsOk C F H' md ps vs
  | [], ps, vs, h => h
  | m :: ms, ps, vs, h => by
    obtain ⟨p, pr, v, vr, h1, h2, hm, h⟩ := h
    refine ⟨p, pr, v, vr, h1, h2, ?_, ArgsOk.grow e h⟩
    split
    · rename_i hh
      rw [if_pos hh] at hm
      obtain ⟨a, e1, e2, e3⟩ := hm
      obtain ⟨o, ho⟩ := e2.cell
      exact ⟨a, e1, e2.mono (Ex.refl F).le ((e a o ho).trans ho.symm), e3⟩
    · rename_i hh
      rw [if_neg hh] at hm
      exact hm
theorem make_go {c : Nat} {xs : List Val} {vs : List V} {Q : VK} (o : AllOld xs) (S : Stt g F H σ env) (r : RVs g F H σ env xs vs) (go : Go g F σ (mkK c md fn xs env) fun x env' F' H' => ∀ v, RV g F' H' σ env' x v → Q v H') (E : XK)
    {x dx : Addr} (hx : H x = none) (hdx : H dx = none) (hne : dx ≠ x) : SpV g.C (true :: md) fn (.ref x :: vs) (upd (upd H dx (.own x)) x (.ins (g.C.ad c) dx [])) (fun v H2 => v = .non ∧ Q (.ref x) H2) E := by
  have ex : Ex H (upd (upd H dx (.own x)) x (.ins (g.C.ad c) dx [])) := (Ex.new hdx).trans (Ex.new (by rw [upd_ne (Ne.symm hne)]; exact hx))
  unfold mkK at go
  cases hp : prep md xs env with
  | bad => rw [hp] at go; exact go.elim
  | err y e => exact (prep_noerr hp).elim
  | ok ps ee =>
    rw [hp] at go
    have go : Go g F σ (if (lentI md xs).Nodup then _ else _) _ := go
    split at go
    · rename_i nd
      obtain ⟨F1, x1, S1, a, hl, hw⟩ := prep_ok o S r hp
      have hl : lentV md vs = (lentI md xs).map (vAt σ) := hl
      have cellOf : ∀ i ∈ lentI md xs, ∃ ad, vAt σ i = .ref ad ∧ ∃ o, H ad = some o := fun i hi => by
        obtain ⟨b, q, ad, e1, e2, e3⟩ := isOw_at S1 (hw i hi)
        exact ⟨ad, by unfold vAt; rw [e2], e3.cell⟩
      have ndv : (lentV md vs).Nodup := by
        rw [hl]
        refine nodup_map (fun i hi j hj e => ?_) nd
        obtain ⟨b, q, ad, e1, e2, _⟩ := isOw_at S1 (hw i hi)
        obtain ⟨b', q', ad', f1, f2, _⟩ := isOw_at S1 (hw j hj)
        have h1 : vAt σ i = .ref ad := by unfold vAt; rw [e2]
        have h2 : vAt σ j = .ref ad' := by unfold vAt; rw [f2]
        rw [h1, h2] at e
        cases e
        exact S1.inj i j _ _ _ _ ad e1 f1 e2 f2
      have nx : V.ref x ∉ lentV md vs := fun z => by
        rw [hl] at z
        obtain ⟨i, hi, e⟩ := List.mem_map.mp z
        obtain ⟨ad, e1, o', e2⟩ := cellOf i hi
        rw [e1] at e; cases e
        rw [hx] at e2; cases e2
      obtain ⟨n1, n2, n3⟩ := S1.new0 hx
      have S2 := S1.grow ex
      split at go
      · rename_i q outs hf
        split at go
        · rename_i e3 hp3
          have hlv : lentV (true :: md) (.ref x :: vs) = .ref x :: lentV md vs := rfl
          refine ⟨F1, .ins c [] :: ps, .fz .non, q :: outs, S2.sub, S2.tab, ⟨_, _, _, _, rfl, rfl, ?_, a.grow ex⟩, by rw [hlv]; exact List.nodup_cons.mpr ⟨nx, ndv⟩, hf, fun F' H' v x2 fr l tb keep oo rv => ?_⟩
          · rw [if_pos rfl]
            exact ⟨x, rfl, by simp only [R1]; exact ⟨dx, [], upd_same, rfl, Rs.nil⟩, n1⟩
          · rw [hlv] at keep oo
            obtain ⟨q', qr, ad, e1, e2, e3, e4, oo⟩ := oo
            cases e1; cases e2
            have hH : ∀ b, (upd (upd H dx (.own x)) x (.ins (g.C.ad c) dx [])) b = none → H b = none := fun b hb => by
              cases z : H b with
              | none => rfl
              | some o => rw [ex b o z] at hb; cases hb
            rw [hl] at oo keep
            have S3 := S1.after (F' := F') (H' := H') hw nd x2 (fun b o z => (fr b o z).imp id (hH b)) l tb (fun b o z n => keep b o (ex b o z) (fun w => by
              rcases List.mem_cons.mp w with w | w
              · cases w; rw [hx] at z; cases z
              · exact n w)) oo hp3
            have rv : v = .non := by
              have rv : R g.C F' .non v := rv
              unfold R at rv; exact rv
            refine ⟨rv, go F' H' (x1.trans x2) S3 _ ⟨x, rfl, e3, e4, S1.sub_new hx, fun i b q hi hv => ?_⟩⟩
            have hb : ∃ b p, ee[i]? = some (.ow b p) := by
              obtain ⟨_, hat⟩ := putOuts_at hp3
              rcases hat i _ hi with ⟨_, z⟩ | ⟨_, b, p', q', z, _⟩
              · exact ⟨_, _, z⟩
              · exact ⟨_, _, z⟩
            obtain ⟨b', p', hb⟩ := hb
            obtain ⟨a2, f1, f2, _⟩ := S1.ow i b' p' hb
            rw [hv] at f1; cases f1
            obtain ⟨o', ho'⟩ := f2.cell
            rw [hx] at ho'; cases ho'
        · exact go.elim
      · exact go.elim
    · exact go.elim
/-- C(e, ..) -/
theorem se_mk {c : Nat} (cm : C8.Mak X.prog X.w X.K X.mg X.base k x (g.C.ad c) (SpV g.C (true :: md) fn) dvs) (hr : Room j X.A) (hk : k + 1 ≤ j) (hg : Gl X x) (hd : ∀ F, Rs g.C F dps dvs) (ha : PA X (e :: es) (tAs g (dArgs ds)))
    (hdb : (x == ("__debug__" : Str)) = false) (he : starEach (e :: es) X.env = (false, eval e X.env) :: starEach es X.env) (hpl : (backTo pos (starEach es X.env)).any (·.1) = false) :
    PE X (.Call (.Name x p) (e :: es) [] pos) (tE g (dMk c md fn dps ds)) :=
  peImp (C8.pe_mk cm hr hk hg ha hdb he hpl) fun σ H Q ⟨F, env, S, go⟩ => ⟨F, env, S, (Go.bind go).mono fun xs e1 F1 H1 x1 S1 k vs o r x dx hx hdx hne =>
    make_go (AllOld.append o dps_old) S1 (RVs.append r (dps_rvs hd)) k C8.E0 hx hdx hne⟩
end
end
end VL

set_option maxRecDepth 100000
set_option maxHeartbeats 2000000
namespace VL
open PySem PySem.Spec L2
open PyProof.Rows hiding St
/-! ### an expression that only reads the lists of some slots -/
mutual
def noLst : PV → Bool
  | .lst _ => false
  | .scr _ => false
  | .tup xs => noLsts xs
  | .dK _ xs => noLsts xs
  | .dT _ xs => noLsts xs
  | .ins _ xs => noLsts xs
  | .exc _ _ => false
  | _ => true
def noLsts : List PV → Bool
  | [] => true
  | x :: xs => noLst x && noLsts xs
end
def noLst1 : PV → Bool
  | .lst xs => noLsts xs
  | p => noLst p
def hideS : Sl → Sl
  | .ow _ _ => .no
  | s => s
def roE : List Nat → Env' → Option Env'
  | [], e => some (e.map hideS)
  | i :: is, e => match e[i]?, roE is e with
    | some (.ow _ (.lst xs)), some e' => some (e'.set i (.fz (.lst xs)))
    | _, _ => none
def dRo (is : List Nat) (d : Env' → Res Val) : Env' → Res Val := fun e => match roE is e with
  | some e' => match d e' with
    | .ok (.fz p) _ => if noLst p = true then .ok (.fz p) e else .bad
    | .ok (.new p) _ => if noLst1 p = true then .ok (.new p) e else .bad
    | _ => .bad
  | none => .bad
/-- what is known, without some lists -/
def cutF (F : Hp) (as : Addr → Prop) [DecidablePred as] : Hp := fun b => if as b then none else F b
section
variable {C : Ct} {F : Hp} {as : Addr → Prop} [DecidablePred as]
theorem cutF_at {b : Addr} {o : HO} (hl : ∀ a, as a → ∃ vs, F a = some (.lst vs)) (h : F b = some o) (ho : ∀ vs, o ≠ .lst vs) : cutF F as b = some o := by
  unfold cutF
  by_cases hb : as b
  · obtain ⟨vs, e⟩ := hl b hb
    rw [h] at e
    cases e
    exact absurd rfl (ho vs)
  · rw [if_neg hb]; exact h
theorem cutF_rd {b : Addr} {o : HO} (hl : ∀ a, as a → ∃ vs, F a = some (.lst vs)) (h : Rd F b o) (ho : ∀ vs, o ≠ .lst vs) : Rd (cutF F as) b o := by
  rcases h with h | ⟨ob, h⟩
  · exact .inl (cutF_at hl h ho)
  · exact .inr ⟨ob, cutF_at hl h fun vs z => by cases z⟩
mutual
theorem R.cut (hl : ∀ a, as a → ∃ vs, F a = some (.lst vs)) : ∀ {p : PV} {v : V}, noLst p = true → R C F p v → R C (cutF F as) p v
  | .non, v, _, h => by unfold R at h ⊢; exact h
  | .bl _, v, _, h => by unfold R at h ⊢; exact h
  | .int _, v, _, h => by unfold R at h ⊢; exact h
  | .str _, v, _, h => by unfold R at h ⊢; exact h
  | .lst _, v, n, h => by unfold noLst at n; cases n
  | .scr _, v, n, h => by unfold noLst at n; cases n
  | .exc _ _, v, n, h => by unfold noLst at n; cases n
  | .tup xs, v, n, h => by
    unfold noLst at n
    unfold R at h ⊢
    obtain ⟨a, vs, e, q, r⟩ := h
    exact ⟨a, vs, e, cutF_at hl q fun vs z => (by cases z), Rs.cut hl n r⟩
  | .dK ks xs, v, n, h => by
    unfold noLst at n
    unfold R at h ⊢
    obtain ⟨a, kvs, e, q, k, r⟩ := h
    exact ⟨a, kvs, e, cutF_rd hl q fun vs z => (by cases z), k, Rs.cut hl n r⟩
  | .dT ks xs, v, n, h => by
    unfold noLst at n
    unfold R at h ⊢
    obtain ⟨a, kvs, e, q, k, r⟩ := h
    exact ⟨a, kvs, e, cutF_rd hl q fun vs z => (by cases z), k, Rs.cut hl n r⟩
  | .ins c xs, v, n, h => by
    unfold noLst at n
    unfold R at h ⊢
    obtain ⟨a, dx, fs, e, q, k, r⟩ := h
    exact ⟨a, dx, fs, e, cutF_at hl q fun vs z => (by cases z), k, Rs.cut hl n r⟩
theorem Rs.cut (hl : ∀ a, as a → ∃ vs, F a = some (.lst vs)) : ∀ {p : List PV} {v : List V}, noLsts p = true → Rs C F p v → Rs C (cutF F as) p v
  | [], v, _, h => by unfold Rs at h ⊢; exact h
  | x :: xs, v, n, h => by
    unfold noLsts at n
    simp only [Bool.and_eq_true] at n
    unfold Rs at h ⊢
    obtain ⟨y, r, e, q, t⟩ := h
    exact ⟨y, r, e, R.cut hl n.1 q, Rs.cut hl n.2 t⟩
end
end
section
variable {X : Cx} {g : Gm} {pins : List (Addr × Obj)} {F H F' H' F2 H2 : Hp} {σ : St} {env env' e2 : Env'} {s : Shared}
def roG (C : Ct) (F H : Hp) : Gm := ⟨C, F, H, fun _ => none, fun _ _ _ _ _ => True⟩
/-- into it: the lists known -/
theorem ro_enter {g : Gm} {F H : Hp} {σ : St} {env : Env'} (S : Stt g F H σ env) : ∀ {is : List Nat} {env' : Env'}, roE is env = some env' → ∃ F1 : Hp, Ex F F1 ∧ (∀ b o, F1 b = some o → F b = some o ∨ (F b = none ∧ H b = some o ∧ ∃ vs, o = .lst vs)) ∧ Stt (roG g.C F1 H) F1 H σ env'
  | [], env', h => by
    unfold roE at h
    cases h
    refine ⟨F, Ex.refl F, fun b o q => .inl q, by rw [List.length_map]; exact S.len, fun b o q _ => .inl q, fun b ⟨i, z⟩ => (by cases z), Ex.refl F, fun b o q => .inl q, S.sub, fun i p q => ?_, fun i b p q => ?_, fun i j b c p q a hi hj e1 e2 => ?_, S.tab⟩
    · rw [List.getElem?_map] at q
      cases e : env[i]? with
      | none => rw [e] at q; cases q
      | some y =>
        rw [e] at q
        cases y <;> cases q
        exact S.fz i p e
    · rw [List.getElem?_map] at q
      cases e : env[i]? with
      | none => rw [e] at q; cases q
      | some y => rw [e] at q; cases y <;> cases q
    · rw [List.getElem?_map] at hi
      cases e : env[i]? with
      | none => rw [e] at hi; cases hi
      | some y => rw [e] at hi; cases y <;> cases hi
  | i :: is, env', h => by
    unfold roE at h
    split at h
    · rename_i b xs e1 h1 h2
      cases h
      obtain ⟨F1, x1, fr, S1⟩ := ro_enter S h2
      obtain ⟨a, z1, z2, z3, z4⟩ := S.ow i b _ h1
      obtain ⟨vs, z5, z6⟩ := z2
      have hF1 : F1 a = none ∨ F1 a = some (.lst vs) := by
        cases w : F1 a with
        | none => exact .inl rfl
        | some o =>
          rcases fr a o w with y | ⟨_, y, _⟩
          · rw [z3] at y; cases y
          · rw [z5] at y; cases y; exact .inr rfl
      have exF : Ex F1 (upd F1 a (.lst vs)) := fun c o q => by
        by_cases hc : c = a
        · subst hc
          rcases hF1 with w | w
          · rw [w] at q; cases q
          · rw [w] at q; cases q; exact upd_same
        · rw [upd_ne hc]; exact q
      have le1 : Le (upd F1 a (.lst vs)) H := fun c o q => by
        by_cases hc : c = a
        · subst hc; rw [upd_same] at q; cases q; exact .inl (.inl z5)
        · rw [upd_ne hc] at q; exact S1.sub c o q
      refine ⟨upd F1 a (.lst vs), x1.trans exF, fun c o q => ?_, ?_⟩
      · by_cases hc : c = a
        · subst hc; rw [upd_same] at q; cases q; exact .inr ⟨z3, z5, vs, rfl⟩
        · rw [upd_ne hc] at q; exact fr c o q
      · refine ⟨by rw [List.length_set]; exact S1.len, fun b o q _ => .inl q, fun b ⟨i, z⟩ => (by cases z), Ex.refl _, fun b o q => .inl q, le1, fun j p q => ?_, fun j f p q => ?_, fun j k f c p q x hj hk e1 e2 => ?_, S.tab⟩
        · rcases getElem?_set_cases q with ⟨rfl, e, hl⟩ | ⟨hne, e⟩
          · cases e
            refine ⟨_, z1, ?_⟩
            show R g.C _ (.lst xs) (.ref a)
            unfold R
            exact ⟨a, vs, rfl, upd_same, z6.mono (x1.trans exF).le⟩
          · obtain ⟨v, w1, w2⟩ := S1.fz j p e
            exact ⟨v, w1, R.mono exF.le w2⟩
        · rcases getElem?_set_cases q with ⟨rfl, e, hl⟩ | ⟨hne, e⟩
          · cases e
          · obtain ⟨_, _, _, _, w⟩ := S1.ow j f p e
            split at w
            · obtain ⟨x, y1, y2, y3, y4⟩ := S1.ow j f p e
              exfalso
              have : ∀ {is : List Nat} {e' : Env'}, roE is env = some e' → e'[j]? ≠ some (.ow f p) := by
                intro is
                induction is with
                | nil =>
                  intro e' h z
                  unfold roE at h; cases h
                  rw [List.getElem?_map] at z
                  cases w : env[j]? with
                  | none => rw [w] at z; cases z
                  | some y => rw [w] at z; cases y <;> cases z
                | cons k ks ih =>
                  intro e' h z
                  unfold roE at h
                  split at h
                  · rename_i h4 h5
                    cases h
                    rcases getElem?_set_cases z with ⟨_, w, _⟩ | ⟨_, w⟩
                    · cases w
                    · exact ih h5 w
                  · cases h
              exact this h2 e
            · cases w
        · rcases getElem?_set_cases hj with ⟨rfl, e, hl⟩ | ⟨hne, e⟩
          · cases e
          · rcases getElem?_set_cases hk with ⟨rfl, e', hl⟩ | ⟨hne', e'⟩
            · cases e'
            · exact S1.inj j k _ _ _ _ x e e' e1 e2
    · cases h
/-- out of it -/
theorem ro_leave {F1 : Hp} (S : Stt g F H σ env) (x1 : Ex F F1) (fr : ∀ b o, F1 b = some o → F b = some o ∨ (F b = none ∧ H b = some o ∧ ∃ vs, o = .lst vs)) (S2 : Stt (roG g.C F1 H) F2 H2 σ e2) :
    ∃ F3 : Hp, Ex F F3 ∧ Stt g F3 H2 σ env ∧ (∀ {p v}, noLst p = true → R g.C F2 p v → R g.C F3 p v) ∧ (∀ {ps vs}, noLsts ps = true → Rs g.C F2 ps vs → Rs g.C F3 ps vs) ∧ (∀ b, F2 b = none → F3 b = none) := by
  classical
  let as : Addr → Prop := fun b => F b = none ∧ ∃ o, F1 b = some o
  have hl : ∀ a, as a → ∃ vs, F2 a = some (.lst vs) := fun a ⟨h1, o, h2⟩ => by
    rcases fr a o h2 with y | ⟨_, _, vs, rfl⟩
    · rw [h1] at y; cases y
    · exact ⟨vs, S2.ext a _ h2⟩
  have ex : Ex F (cutF F2 as) := fun b o q => by
    unfold cutF
    rw [if_neg (fun ⟨z, _⟩ => by rw [q] at z; cases z)]
    exact S2.ext b o (x1 b o q)
  have keep : ∀ b o, H b = some o → Kpt o (H2 b) := fun b o q => S2.frame b o q fun ⟨i, z⟩ => (by cases z)
  have cut : ∀ {b o}, cutF F2 as b = some o → F2 b = some o ∧ ¬ as b := fun {b o} q => by
    unfold cutF at q
    by_cases hb : as b
    · rw [if_pos hb] at q; cases q
    · rw [if_neg hb] at q; exact ⟨q, hb⟩
  refine ⟨cutF F2 as, ex, ⟨S.len, fun b o q n => (S.frame b o q n).trans fun o' q' => keep b o' q', fun b hb => ?_, S.ext.trans ex, fun b o q => ?_, fun b o q => S2.sub b o (cut q).1, fun i p q => ?_, fun i b p q => ?_, S.inj, S2.tab⟩, fun n r => R.cut hl n r, fun n r => Rs.cut hl n r, fun b hb => ?_⟩
  · obtain ⟨o, q⟩ := S.live b hb
    exact (keep b o q).some
  · obtain ⟨q1, q2⟩ := cut q
    rcases S2.fresh b o q1 with z | z
    · have z : F1 b = some o := z
      rcases fr b o z with y | ⟨y, _⟩
      · exact S.fresh b o y
      · exact (q2 ⟨y, o, z⟩).elim
    · exact .inr (S.sub_new z)
  · obtain ⟨v, h1, h2⟩ := S.fz i p q
    exact ⟨v, h1, h2.mono ex.le⟩
  · obtain ⟨a, h1, h2, h3, h4⟩ := S.ow i b p q
    obtain ⟨o, ho⟩ := h2.cell
    refine ⟨a, h1, h2.mono ex.le (((keep a o ho).eq (h2.pln ho).1).trans ho.symm), ?_, h4⟩
    cases w : cutF F2 as a with
    | none => rfl
    | some o' =>
      obtain ⟨q1, q2⟩ := cut w
      rcases S2.fresh a o' q1 with z | z
      · have z : F1 a = some o' := z
        rcases fr a o' z with y | ⟨y, _⟩
        · rw [h3] at y; cases y
        · exact (q2 ⟨y, o', z⟩).elim
      · have z : H a = none := z
        rw [ho] at z; cases z
  · unfold cutF
    by_cases hb' : as b
    · rw [if_pos hb']
    · rw [if_neg hb']; exact hb
theorem se_ro {e : Expr} {is : List Nat} {d : Env' → Res Val} (h : ∀ g' : Gm, g'.C = g.C → PE X e (tE g' d)) : PE X e (tE g (dRo is d)) :=
  peImp (xE_of h) fun σ H Q ⟨F, env, S, go⟩ => by
    unfold dRo at go
    cases hr : roE is env with
    | none => simp only [hr] at go; exact go.elim
    | some e' =>
      simp only [hr] at go
      obtain ⟨F1, x1, fr, S1⟩ := ro_enter S hr
      refine ⟨roG g.C F1 H, rfl, F1, e', S1, ?_⟩
      cases hd : d e' with
      | bad => rw [hd] at go; exact go.elim
      | err y e2 => rw [hd] at go; exact go.elim
      | ok x e2 =>
        rw [hd] at go
        intro F2 H2 x2 S2 v rv
        obtain ⟨F3, x3, S3, k1, k2, k3⟩ := ro_leave S x1 fr S2
        cases x with
        | bor i => exact go.elim
        | fz p =>
          dsimp only at go
          split at go
          · rename_i hn
            exact go F3 H2 x3 S3 v (k1 hn rv)
          · exact go.elim
        | new p =>
          dsimp only at go
          split at go
          · rename_i hn
            obtain ⟨a, e1, e3, e4, e5, e6⟩ := rv
            have e5 : H a = none := e5
            refine go F3 H2 x3 S3 v ⟨a, e1, ?_, k3 a e4, S.sub_new e5, fun i b q hi hv => ?_⟩
            · cases p with
              | lst xs =>
                obtain ⟨vs, y1, y2⟩ := e3
                exact ⟨vs, y1, k2 hn y2⟩
              | dK ks xs =>
                obtain ⟨vs, y1, y2, y3⟩ := e3
                exact ⟨vs, y1, y2, k2 hn y3⟩
              | dT ks xs =>
                obtain ⟨vs, y1, y2, y3⟩ := e3
                exact ⟨vs, y1, y2, k2 hn y3⟩
              | ins c xs =>
                obtain ⟨dx, fs, y1, y2, y3⟩ := e3
                exact ⟨dx, fs, y1, y2, k2 hn y3⟩
              | _ => exact e3.elim
            · obtain ⟨a2, f1, f2, _⟩ := S.ow i b q hi
              rw [hv] at f1; cases f1
              obtain ⟨o', ho'⟩ := f2.cell
              rw [e5] at ho'; cases ho'
          · exact go.elim
end
end VL

set_option maxRecDepth 100000
set_option maxHeartbeats 2000000
namespace VL
open PySem PySem.Spec L2
open PyProof.Rows hiding St
/-! ### a, b = x, y: values kept side by side -/
def isNew : Val → Bool
  | .new _ => true
  | _ => false
def unb (x : Val) (e : Env') : Res Val := match x with
  | .bor _ => (frz x e).bind fun p e' => .ok (.fz p) e'
  | x => .ok x e
def parL : Bool → List (Env' → Res Val) → Env' → Res (List Val)
  | _, [], e => .ok [] e
  | false, d :: ds, e => (d e).bind fun x e1 => (unb x e1).bind fun y e2 => (parL (isNew y) ds e2).bind fun xs e3 => .ok (y :: xs) e3
  | true, d :: ds, e => match d (blkE [] e) with
    | .ok x e1 => (match x with
      | .bor _ => .bad
      | y => (parL true ds (outE [] e e1)).bind fun xs e3 => .ok (y :: xs) e3)
    | _ => .bad
def storeL : List Nat → List Val → Env' → Res Fl
  | [], [], e => .ok .nx e
  | i :: is, .fz p :: xs, e => storeL is xs (e.set i (.fz p))
  | i :: is, .new p :: xs, e => storeL is xs (e.set i (.ow true p))
  | _, _, _ => .bad
def dPar (is : List Nat) (ds : List (Env' → Res Val)) : Env' → Res Fl := fun e => (parL false ds e).bind fun xs e1 => storeL is xs e1
def tAx (C : Ct) : List (Env' → Res Val) → TA
  | [] => tNil
  | d :: ds => tCons (xE C d) (tAx C ds)
def newsOf : List Val → List V → List V
  | x :: xs, v :: vs => if isNew x = true then v :: newsOf xs vs else newsOf xs vs
  | _, _ => []
def noBor : List Val → Prop
  | [] => True
  | .bor _ :: _ => False
  | _ :: xs => noBor xs
structure Held (g : Gm) (F H : Hp) (σ : St) (env : Env') (xs : List Val) (vs : List V) : Prop where
  r : RVs g F H σ env xs vs
  nb : noBor xs
  nd : (newsOf xs vs).Nodup
section
variable {X : Cx} {g : Gm} {pins : List (Addr × Obj)} {F H F' H' F2 H2 : Hp} {σ : St} {env env' e2 : Env'} {s : Shared}
theorem newsOf_append : ∀ {xs : List Val} {vs : List V} {ys : List Val} {ws : List V}, vs.length = xs.length → newsOf (xs ++ ys) (vs ++ ws) = newsOf xs vs ++ newsOf ys ws
  | [], [], ys, ws, _ => by simp [newsOf]
  | x :: xs, v :: vs, ys, ws, h => by
    have ih := newsOf_append (ys := ys) (ws := ws) (show vs.length = xs.length by simpa using h)
    simp only [List.cons_append, newsOf]
    split
    · rw [ih]; rfl
    · exact ih
  | [], v :: vs, ys, ws, h => by simp at h
  | x :: xs, [], ys, ws, h => by simp at h
theorem noBor_append : ∀ {xs ys : List Val}, noBor xs → noBor ys → noBor (xs ++ ys)
  | [], ys, _, h => h
  | .fz p :: xs, ys, h, t => noBor_append (xs := xs) h t
  | .new p :: xs, ys, h, t => noBor_append (xs := xs) h t
  | .bor i :: xs, ys, h, t => h.elim
theorem newsOf_mem {v : V} : ∀ {xs : List Val} {vs : List V}, RVs g F H σ env xs vs → v ∈ newsOf xs vs → ∃ p a, v = .ref a ∧ R1 g.C F H p a ∧ F a = none ∧ g.H0 a = none ∧ ∀ (i : Nat) b q, env[i]? = some (.ow b q) → σ[i]? ≠ some (some (.ref a))
  | [], vs, r, h => by
    cases (show vs = [] from r)
    simp [newsOf] at h
  | x :: xs, vs, r, h => by
    obtain ⟨w, t, rfl, r1, r2⟩ := r
    unfold newsOf at h
    split at h
    · rename_i hx
      rcases List.mem_cons.mp h with z | z
      · subst z
        cases x with
        | new p => obtain ⟨a, e1, e2, e3, e4, e5⟩ := r1; exact ⟨p, a, e1, e2, e3, e4, e5⟩
        | fz p => cases hx
        | bor i => cases hx
      · exact newsOf_mem r2 z
    · exact newsOf_mem r2 h
/-- what is held, while only old things were touched -/
theorem RVs.sub {env2 : Env'} : ∀ {xs : List Val} {vs : List V}, noBor xs → Stt g F H σ env → Stt (subG g F H σ env) F2 H2 σ env2 → RVs g F H σ env xs vs → RVs g F2 H2 σ (outE [] env env2) xs vs
  | [], vs, _, _, _, r => r
  | x :: xs, vs, nb, S, S2, r => by
    obtain ⟨v, t, rfl, r1, r2⟩ := r
    have nb' : noBor xs := by
      cases x with
      | bor i => exact nb.elim
      | fz p => exact nb
      | new p => exact nb
    refine ⟨v, t, rfl, ?_, RVs.sub nb' S S2 r2⟩
    cases x with
    | bor i => exact nb.elim
    | fz p => exact R.mono S2.ext.le r1
    | new p =>
      obtain ⟨a, e1, e2, e3, e4, e5⟩ := r1
      obtain ⟨o, ho⟩ := e2.cell
      have hO : ¬ (subG g F H σ env).O a := fun z => by
        obtain ⟨i, b, p, h1, h2⟩ := subG_O z
        exact e5 i b p h1 h2
      have hH2 : H2 a = some o := (S2.frame a o ho hO).eq (e2.pln ho).1
      refine ⟨a, e1, e2.mono S2.ext.le (hH2.trans ho.symm), ?_, e4, fun i b q hi hv => ?_⟩
      · cases w : F2 a with
        | none => rfl
        | some o' =>
          rcases S2.fresh a o' w with z | z
          · have z : F a = some o' := z
            rw [e3] at z; cases z
          · have z : H a = none := z
            rw [ho] at z; cases z
      · obtain ⟨hl, e⟩ := outE_at hi
        rw [if_neg (by simp)] at e
        obtain ⟨p0, c, h1, h2⟩ := outS_ow e.symm
        exact e5 i b p0 (getD_at h1 (by simp)) hv
theorem RVs.oldF : ∀ {xs : List Val} {vs : List V}, noBor xs → newsOf xs vs = [] → RVs g F H σ env xs vs → Ex F F' → RVs g F' H' σ env' xs vs
  | [], vs, _, _, r, _ => r
  | x :: xs, vs, nb, hn, r, e => by
    obtain ⟨v, t, rfl, r1, r2⟩ := r
    unfold newsOf at hn
    cases x with
    | bor i => exact nb.elim
    | fz p => exact ⟨v, t, rfl, R.mono e.le r1, RVs.oldF nb hn r2 e⟩
    | new p => simp [isNew] at hn
theorem freeS_nil : freeS [] env = true := rfl
theorem parL_go {g : Gm} {σ : St} : ∀ {ds : List (Env' → Res Val)} {h : Bool} {F H : Hp} {env : Env'} {xs0 : List Val} {vs0 : List V} {Q : List V → Hp → Prop}, Stt g F H σ env → Held g F H σ env xs0 vs0 → (h = false → newsOf xs0 vs0 = []) →
    (Go g F σ (parL h ds env) fun xs env' F' H' => ∀ vs, Held g F' H' σ env' (xs0 ++ xs) (vs0 ++ vs) → Q vs H') → tAx g.C ds σ H Q
  | [], h, F, H, env, xs0, vs0, Q, S, hd, hn, go => by
    have e : parL h [] env = .ok [] env := by cases h <;> rfl
    rw [e] at go
    exact go F H (Ex.refl F) S [] (by rw [List.append_nil, List.append_nil]; exact hd)
  | d :: ds, false, F, H, env, xs0, vs0, Q, S, hd, hn, go => by
    refine ⟨g, rfl, F, env, S, ?_⟩
    unfold parL at go
    refine (Go.bind go).mono fun x e1 F1 H1 x1 S1 k v r => ?_
    have hu : ∃ F2 y e2, Ex F1 F2 ∧ Stt g F2 H1 σ e2 ∧ RV g F2 H1 σ e2 y v ∧ noBor [y] ∧ Go g F2 σ ((parL (isNew y) ds e2).bind fun xs e3 => .ok (y :: xs) e3) fun xs env' F' H' => ∀ vs, Held g F' H' σ env' (xs0 ++ xs) (vs0 ++ vs) → Q vs H' := by
      cases x with
      | fz p => exact ⟨F1, .fz p, e1, Ex.refl F1, S1, r, trivial, k⟩
      | new p => exact ⟨F1, .new p, e1, Ex.refl F1, S1, r, trivial, k⟩
      | bor i =>
        unfold unb at k
        dsimp only at k
        cases hf : frz (.bor i) e1 with
        | bad => rw [hf] at k; exact k.elim
        | err y e => exact (frz_noerr hf).elim
        | ok p e2 =>
          rw [hf] at k
          obtain ⟨F2, x2, S2, r2⟩ := frz_ok S1 r hf
          exact ⟨F2, .fz p, e2, x2, S2, r2, trivial, Go.up k x2⟩
    obtain ⟨F2, y, e2, x2, S2, r2, nb, k2⟩ := hu
    have hold := hd.r.oldF (F' := F2) (H' := H1) (env' := e2) hd.nb (hn rfl) (x1.trans x2)
    have hl := RVs.length hd.r
    have hd2 : Held g F2 H1 σ e2 (xs0 ++ [y]) (vs0 ++ [v]) := ⟨RVs.append hold ⟨v, [], rfl, r2, rfl⟩, noBor_append hd.nb nb, by
      rw [newsOf_append hl, hn rfl, List.nil_append]
      unfold newsOf
      cases isNew y <;> simp [newsOf]⟩
    show tAx g.C ds σ H1 fun vs H' => Q (v :: vs) H'
    refine parL_go S2 hd2 (h := isNew y) (fun hy => ?_) ((Go.bind k2).mono fun xs e3 F3 H3 x3 S3 k3 vs h3 => ?_)
    · rw [newsOf_append hl, hn rfl, List.nil_append]
      unfold newsOf
      rw [if_neg (by rw [hy]; exact Bool.false_ne_true)]
      rfl
    · exact k3 F3 H3 (Ex.refl F3) S3 (v :: vs) (by simpa using h3)
  | d :: ds, true, F, H, env, xs0, vs0, Q, S, hd, hn, go => by
    unfold parL at go
    cases hq : d (blkE [] env) with
    | bad => simp only [hq] at go; exact go.elim
    | err y e => simp only [hq] at go; exact go.elim
    | ok x e1 =>
      simp only [hq] at go
      refine ⟨subG g F H σ env, rfl, F, blkE [] env, S.enter [], ?_⟩
      rw [hq]
      intro F2 H2 x2 S2 v rv
      have S2 : Stt (subG g F H σ env) F2 H2 σ e1 := S2
      obtain ⟨x3, S3⟩ := S.leave S2 freeS_nil rfl
      have hl := RVs.length hd.r
      have hold := hd.r.sub hd.nb S S2
      have step : ∀ y, noBor [y] → RV g F2 H2 σ (outE [] env e1) y v → (isNew y = true → v ∉ newsOf xs0 vs0) → (Go g F σ ((parL true ds (outE [] env e1)).bind fun xs e3 => .ok (y :: xs) e3) fun xs env' F' H' => ∀ vs, Held g F' H' σ env' (xs0 ++ xs) (vs0 ++ vs) → Q vs H') → tAx g.C ds σ H2 fun vs H' => Q (v :: vs) H' := by
        intro y nb ry hy k
        have hd2 : Held g F2 H2 σ (outE [] env e1) (xs0 ++ [y]) (vs0 ++ [v]) := ⟨RVs.append hold ⟨v, [], rfl, ry, rfl⟩, noBor_append hd.nb nb, by
          rw [newsOf_append hl]
          cases hy' : isNew y with
          | false =>
            have : newsOf [y] [v] = [] := by unfold newsOf; rw [if_neg (by rw [hy']; exact Bool.false_ne_true)]; rfl
            rw [this, List.append_nil]; exact hd.nd
          | true =>
            have : newsOf [y] [v] = [v] := by unfold newsOf; rw [if_pos hy']; rfl
            rw [this, List.nodup_append]
            refine ⟨hd.nd, by simp, fun a ha b hb => ?_⟩
            have : b = v := by simpa using hb
            subst this
            exact fun z => hy hy' (z ▸ ha)⟩
        refine parL_go (h := true) S3 hd2 (fun z => by cases z) ((Go.bind (Go.up k x3)).mono fun xs e3 F3 H3 x4 S4 k3 vs h3 => ?_)
        exact k3 F3 H3 (Ex.refl F3) S4 (v :: vs) (by simpa using h3)
      cases x with
      | bor i => exact go.elim
      | fz p => exact step (.fz p) trivial rv (fun z => by cases z) go
      | new p =>
        obtain ⟨a, e1', e2', e3', e4', e5'⟩ := rv
        have e4' : H a = none := e4'
        refine step (.new p) trivial ⟨a, e1', e2', e3', S.sub_new e4', fun i b q hi hv => ?_⟩ (fun _ z => ?_) go
        · obtain ⟨hl, e⟩ := outE_at hi
          rw [if_neg (by simp)] at e
          obtain ⟨p0, c, h1, h2⟩ := outS_ow e.symm
          exact e5' i c q (getD_at h2 (by simp)) hv
        · obtain ⟨p', a', z1, z2, _⟩ := newsOf_mem hd.r z
          subst e1'
          cases z1
          obtain ⟨o, ho⟩ := z2.cell
          rw [e4'] at ho; cases ho
def setAll : List Nat → List V → St → St
  | i :: is, v :: vs, σ => setAll is vs (σ.set i (some v))
  | _, _, σ => σ
theorem Held.tail_fz {i : Nat} {p : PV} {v : V} {xs : List Val} {vs : List V} (r : RVs g F H σ env xs vs) (nb : noBor xs) (hl : σ.length = env.length) : RVs g F H (σ.set i (some v)) (env.set i (.fz p)) xs vs := by
  induction xs generalizing vs with
  | nil => exact r
  | cons x xs ih =>
    obtain ⟨w, t, rfl, r1, r2⟩ := r
    cases x with
    | bor k => exact nb.elim
    | fz q => exact ⟨w, t, rfl, r1, ih r2 nb⟩
    | new q =>
      refine ⟨w, t, rfl, ?_, ih r2 nb⟩
      obtain ⟨a, e1, e2, e3, e4, e5⟩ := r1
      refine ⟨a, e1, e2, e3, e4, fun k b q' hk hv => ?_⟩
      rcases getElem?_set_cases hk with ⟨_, z, _⟩ | ⟨hne, z⟩
      · cases z
      · rw [List.getElem?_set_ne hne] at hv
        exact e5 k b q' z hv
theorem Held.tail_ow {i : Nat} {p : PV} {a1 : Addr} {xs : List Val} {vs : List V} (r : RVs g F H σ env xs vs) (nb : noBor xs) (hl : σ.length = env.length) (hn : V.ref a1 ∉ newsOf xs vs) : RVs g F H (σ.set i (some (.ref a1))) (env.set i (.ow true p)) xs vs := by
  induction xs generalizing vs with
  | nil => exact r
  | cons x xs ih =>
    obtain ⟨w, t, rfl, r1, r2⟩ := r
    unfold newsOf at hn
    cases x with
    | bor k => exact nb.elim
    | fz q => exact ⟨w, t, rfl, r1, ih r2 nb (by simpa [isNew] using hn)⟩
    | new q =>
      rw [if_pos (by rfl)] at hn
      refine ⟨w, t, rfl, ?_, ih r2 nb fun z => hn (List.mem_cons_of_mem _ z)⟩
      obtain ⟨a, e1, e2, e3, e4, e5⟩ := r1
      refine ⟨a, e1, e2, e3, e4, fun k b q' hk hv => ?_⟩
      rcases getElem?_set_cases hk with ⟨ek, z, hlt⟩ | ⟨hne, z⟩
      · subst ek
        rw [List.getElem?_set_self (by rw [hl]; exact hlt)] at hv
        cases hv
        exact hn (by rw [e1]; exact List.mem_cons_self ..)
      · rw [List.getElem?_set_ne hne] at hv
        exact e5 k b q' z hv
theorem storeL_go {D : Ends} : ∀ {is : List Nat} {xs : List Val} {vs : List V} {σ : St} {env : Env'}, Stt g F H σ env → Held g F H σ env xs vs → GoS g F (storeL is xs env) D → vs.length = is.length ∧ D.nx (setAll is vs σ) H
  | [], [], vs, σ, env, S, hd, go => by
    cases (show vs = [] from hd.r)
    exact ⟨rfl, go F H σ (Ex.refl F) S⟩
  | [], x :: xs, vs, σ, env, S, hd, go => by
    unfold storeL at go; exact go.elim
  | i :: is, [], vs, σ, env, S, hd, go => by unfold storeL at go; exact go.elim
  | i :: is, .bor k :: xs, vs, σ, env, S, hd, go => by unfold storeL at go; exact go.elim
  | i :: is, .fz p :: xs, vs, σ, env, S, hd, go => by
    unfold storeL at go
    obtain ⟨v, t, rfl, r1, r2⟩ := hd.r
    have nd : (newsOf xs t).Nodup := hd.nd
    obtain ⟨h1, h2⟩ := storeL_go (S.setFz r1) ⟨Held.tail_fz r2 hd.nb S.len, hd.nb, nd⟩ go
    exact ⟨congrArg Nat.succ h1, h2⟩
  | i :: is, .new p :: xs, vs, σ, env, S, hd, go => by
    unfold storeL at go
    obtain ⟨v, t, rfl, r1, r2⟩ := hd.r
    have nd : (v :: newsOf xs t).Nodup := hd.nd
    obtain ⟨n1, n2⟩ := List.nodup_cons.mp nd
    obtain ⟨a, rfl, e2, e3, e4, e5⟩ := r1
    obtain ⟨h1, h2⟩ := storeL_go (S.setOw e2 e3 e4 e5) ⟨Held.tail_ow r2 hd.nb S.len n1, hd.nb, n2⟩ go
    exact ⟨congrArg Nat.succ h1, h2⟩
theorem tAx_mono {C : Ct} : ∀ {ds : List (Env' → Res Val)} {σ : St} {H : Hp} {Q Q' : List V → Hp → Prop}, (∀ vs H, Q vs H → Q' vs H) → tAx C ds σ H Q → tAx C ds σ H Q'
  | [], σ, H, Q, Q', k, h => k _ _ h
  | d :: ds, σ, H, Q, Q', k, h => by
    obtain ⟨g', hC, q⟩ := h
    exact ⟨g', hC, tE_mono (fun v H1 q1 => tAx_mono (fun vs H2 q2 => k _ _ q2) q1) q⟩
theorem Held.nil (S : Stt g F H σ env) : Held g F H σ env [] [] := ⟨rfl, trivial, List.nodup_nil⟩
/-- the readings of the sides -/
theorem par_go {is : List Nat} {ds : List (Env' → Res Val)} {D : Ends} (S : Stt g F H σ env) (go : GoS g F (dPar is ds env) D) : tAx g.C ds σ H fun vs H' => vs.length = is.length ∧ D.nx (setAll is vs σ) H' :=
  parL_go (h := false) S (Held.nil S) (fun _ => rfl) ((GoS.bindE (σ := σ) go).mono fun xs e1 F1 H1 x1 S1 k vs hd => storeL_go S1 (by simpa using hd) k)
theorem sax_nil : PA X [] (tAx g.C []) := pa_nil
theorem sax_cons {e : Expr} {es : List Expr} {d : Env' → Res Val} {ds : List (Env' → Res Val)} (h : ∀ g' : Gm, g'.C = g.C → PE X e (tE g' d)) (hr : PA X es (tAx g.C ds)) (hs : starEach (e :: es) X.env = (false, eval e X.env) :: starEach es X.env) : PA X (e :: es) (tAx g.C (d :: ds)) :=
  pa_cons (xE_of h) hr hs
theorem ss_par {i j : Nat} {x y : Str} {a b : Expr} {d1 d2 : Env' → Res Val} {px py pt pos : Pos} {kt k2 : Nat} {pt2 : Pos} (ok : Ok X g) (hN : X.N.Nodup) (hi : X.N[i]? = some x) (hj : X.N[j]? = some y) (hij : i ≠ j)
    (hx : X.env.scope.names.lookup x = some .local) (hy : X.env.scope.names.lookup y = some .local) (ha : PA X [a, b] (tAx g.C [d1, d2]))
    (hw : swappedStores [.Tuple [.Name x px, .Name y py] kt pt] (.Tuple [a, b] k2 pt2) X.env = pure (some [x, y]))
    (hs : swapsWithSole [.Tuple [.Name x px, .Name y py] kt pt] (.Tuple [a, b] k2 pt2) pos.line X.env = pure false) :
    PS X (.Assign [.Tuple [.Name x px, .Name y py] kt pt] (.Tuple [a, b] k2 pt2) pos) (tS g (dPar [i, j] [d1, d2])) :=
  psImp (ps_par ok.calm hN hi hj hij hx hy ha hw hs) fun D σ H ⟨F, env, S, go⟩ => by
    have q := par_go S go
    refine tAx_mono (fun vs H' h => ?_) q
    obtain ⟨h1, h2⟩ := h
    match vs, h1, h2 with
    | [v, w], _, h2 => exact ⟨v, w, rfl, h2⟩
theorem ss_par3 {i j l : Nat} {x y z : Str} {a b c : Expr} {d1 d2 d3 : Env' → Res Val} {px py pz pt pos : Pos} {kt k2 : Nat} {pt2 : Pos} (ok : Ok X g) (hN : X.N.Nodup) (hi : X.N[i]? = some x) (hj : X.N[j]? = some y) (hl : X.N[l]? = some z) (hij : i ≠ j) (hil : i ≠ l) (hjl : j ≠ l)
    (hx : X.env.scope.names.lookup x = some .local) (hy : X.env.scope.names.lookup y = some .local) (hz : X.env.scope.names.lookup z = some .local) (ha : PA X [a, b, c] (tAx g.C [d1, d2, d3]))
    (hw : swappedStores [.Tuple [.Name x px, .Name y py, .Name z pz] kt pt] (.Tuple [a, b, c] k2 pt2) X.env = pure (some [x, y, z]))
    (hs : swapsWithSole [.Tuple [.Name x px, .Name y py, .Name z pz] kt pt] (.Tuple [a, b, c] k2 pt2) pos.line X.env = pure false) :
    PS X (.Assign [.Tuple [.Name x px, .Name y py, .Name z pz] kt pt] (.Tuple [a, b, c] k2 pt2) pos) (tS g (dPar [i, j, l] [d1, d2, d3])) :=
  psImp (ps_par3 ok.calm hN hi hj hl hij hil hjl hx hy hz ha hw hs) fun D σ H ⟨F, env, S, go⟩ => by
    have q := par_go S go
    refine tAx_mono (fun vs H' h => ?_) q
    obtain ⟨h1, h2⟩ := h
    match vs, h1, h2 with
    | [v, w, u], _, h2 => exact ⟨v, w, u, rfl, h2⟩
/-! the same, stored from the left (a cell among the names, or constants) -/
def gNames : List Nat → TGs
  | [] => gNil
  | i :: is => gCons (gName i) (gNames is)
theorem gNames_of : ∀ {is : List Nat} {vs : List V} {σ : St} {H : Hp} {Q : St → Hp → Prop}, vs.length = is.length → Q (setAll is vs σ) H → gNames is vs σ H Q
  | [], [], σ, H, Q, _, q => ⟨rfl, q⟩
  | i :: is, v :: vs, σ, H, Q, h, q => ⟨v, vs, rfl, gNames_of (by simpa using h) q⟩
  | [], v :: vs, σ, H, Q, h, q => by simp at h
  | i :: is, [], σ, H, Q, h, q => by simp at h
theorem sgn_nil : PGs X [] (gNames []) := pgs_nil
theorem sgn_cons {i : Nat} {x : Str} {es : List Expr} {is : List Nat} {pos : Pos} (hN : X.N.Nodup) (hi : X.N[i]? = some x) (hx : Loc X.env.scope x) (hf : X.fn x = true ∨ X.env.scope.names.lookup x = some .local) (h2 : PGs X es (gNames is))
    (hs : (assignEach (.Name x pos :: es) X.env).map (·.2) = assign (.Name x pos) X.env :: (assignEach es X.env).map (·.2)) : PGs X (.Name x pos :: es) (gNames (i :: is)) := pgs_cons (pg_name hN hi hx hf) h2 hs
theorem GoS.grow1 {D : Ends} {is : List Nat} {xs : List Val} {vs : List V} {p : Addr} {o : HO} (S : Stt g F H σ env) (hd : Held g F H σ env xs vs) (hp : H p = none) : Stt g F (upd H p o) σ env ∧ Held g F (upd H p o) σ env xs vs := by
  have ex : Ex H (upd H p o) := Ex.new hp
  refine ⟨S.grow ex, ?_, hd.nb, hd.nd⟩
  have r := hd.r
  clear hd
  induction xs generalizing vs with
  | nil => exact r
  | cons x xs ih =>
    obtain ⟨v, t, rfl, r1, r2⟩ := r
    refine ⟨v, t, rfl, ?_, ih r2⟩
    cases x with
    | fz p => exact r1
    | bor i => exact r1
    | new q =>
      obtain ⟨a, e1, e2, e3⟩ := r1
      obtain ⟨o', ho⟩ := e2.cell
      exact ⟨a, e1, e2.mono (Ex.refl F).le ((ex a o' ho).trans ho.symm), e3⟩
theorem par_goT {is : List Nat} {ds : List (Env' → Res Val)} {D : Ends} (hsz : is.length ≤ big) (S : Stt g F H σ env) (go : GoS g F (dPar is ds env) D) : tAx g.C ds σ H fun vs H' => vs.length = is.length ∧ ∀ p, H' p = none → D.nx (setAll is vs σ) (upd H' p (.tup vs)) :=
  parL_go (h := false) S (Held.nil S) (fun _ => rfl) ((GoS.bindE (σ := σ) go).mono fun xs e1 F1 H1 x1 S1 k vs hd => by
    have hd : Held g F1 H1 σ e1 xs vs := by simpa using hd
    refine ⟨?_, fun p hp => ?_⟩
    · exact (storeL_go S1 hd k).1
    · obtain ⟨S2, hd2⟩ := GoS.grow1 (D := D) (is := is) (o := .tup vs) S1 hd hp
      exact (storeL_go S2 hd2 k).2)
theorem ss_parO {is : List Nat} {es ns : List Expr} {ds : List (Env' → Res Val)} {pt pos pt2 : Pos} {kt k2 : Nat} (ok : Ok X g) (hlen : ns.length = is.length) (hsz : is.length ≤ big) (hn : PGs X ns (gNames is)) (ha : PA X es (tAx g.C ds))
    (hn1 : (assignEach ns X.env).length = is.length) (hst : (assignEach ns X.env).findIdx? (·.1) = none)
    (hs : swapsWithSole [.Tuple ns kt pt] (.Tuple es k2 pt2) pos.line X.env = pure false) (hw : swappedStores [.Tuple ns kt pt] (.Tuple es k2 pt2) X.env = pure none)
    (h1 : (assignEach [.Tuple ns kt pt] X.env).map (·.2) = [assign (.Tuple ns kt pt) X.env]) : PS X (.Assign [.Tuple ns kt pt] (.Tuple es k2 pt2) pos) (tS g (dPar is ds)) :=
  psImp (ps_asg (pe_tup ha) (pg_tup ok.calm hn hn1 hst) hs hw h1) fun D σ H ⟨F, env, S, go⟩ => by
    refine tAx_mono (fun vs H' h => ?_) (par_goT hsz S go)
    obtain ⟨h1, h2⟩ := h
    refine ⟨by rw [h1, big_eq]; exact hsz, fun p hp => ⟨p, vs, rfl, .inl (.inl upd_same), h1, gNames_of h1 (h2 p hp)⟩⟩
/-! ### self.f = e -/
def semFldS (C : Ct) (f : Nat) : PV → PV → Option PV
  | .ins c xs, p => if (C.L c)[xs.length]? = some f ∧ xs.length < 999 then some (.ins c (xs ++ [p])) else none
  | _, _ => none
def dFldS (C : Ct) (f i : Nat) (d : Env' → Res Val) : Env' → Res Fl := fun e => (d e).bind fun x e1 => (frz x e1).bind fun p e2 => match e2[i]? with
  | some (.ow b q) => match semFldS C f q p with
    | some q' => .ok .nx (e2.set i (.ow b q'))
    | none => .bad
  | _ => .bad
end
end VL

set_option maxRecDepth 100000
set_option maxHeartbeats 2000000
namespace VL
open PySem PySem.Spec L2
open PyProof.Rows hiding St
/-! ### dict displays -/
def dNewK : Env' → Res Val := fun e => .ok (.new (.dK [] [])) e
def dNewT : Env' → Res Val := fun e => .ok (.new (.dT [] [])) e
def subV (d : Env' → Res Val) (e : Env') : Res PV := match d (blkE [] e) with
  | .ok x e1 => (match frz x e1 with
    | .ok p e2 => .ok p (outE [] e e2)
    | _ => .bad)
  | _ => .bad
def dDisp : List ((Env' → Res Val) × (Env' → Res Val)) → List Key → List PV → Env' → Res Val
  | [], ks, vs, e => .ok (.new (.dK ks vs)) e
  | (dk, dv) :: r, ks, vs, e => match subV dk e with
    | .ok kp e1 => (match keyP kp, subV dv e1 with
      | some k, .ok p e2 => dDisp r (putP ks vs k p).1 (putP ks vs k p).2 e2
      | _, _ => .bad)
    | _ => .bad
/-- a cell of ours that nobody else knows -/
structure PrS (g : Gm) (F H : Hp) (σ : St) (env : Env') (D : Addr) (o : HO) : Prop where
  S : Stt g F H σ env
  cell : H D = some o
  hF : F D = none
  h0 : g.H0 D = none
  hO : ¬ g.O D
  hn : ∀ (i : Nat) b q, env[i]? = some (.ow b q) → σ[i]? ≠ some (some (.ref D))
  np : Pln o
section
variable {X : Cx} {g : Gm} {pins : List (Addr × Obj)} {F H F' H' F2 H2 : Hp} {σ σ2 : St} {env env' env2 : Env'} {s : Shared}
theorem Go.later {α : Type} {r : Res α} {K : α → Env' → Hp → Hp → Prop} (h : Go g F σ r K) : Go g F σ r fun x e F' H' => ∀ F3 H3, Ex F' F3 → Stt g F3 H3 σ e → K x e F3 H3 := by
  cases r with
  | bad => exact h
  | err y e => exact h
  | ok x e => exact fun F' H' a _ F3 H3 b c => h F3 H3 (a.trans b) c
theorem se_dnewK {pos : Pos} : PE X (.Dict [] [] pos) (tE g dNewK) := peImp pe_dnewK fun σ H Q ⟨F, env, S, go⟩ p hp => fin_new (p := .dK [] []) S hp (by simp only [R1]; exact ⟨[], upd_same, rfl, Rs.nil⟩) fun F' H' w x S' r => go F' H' x S' w r
theorem se_dnewT {pos : Pos} : PE X (.Dict [] [] pos) (tE g dNewT) := peImp pe_dnewT fun σ H Q ⟨F, env, S, go⟩ p hp => fin_new (p := .dT [] []) S hp (by simp only [R1]; exact ⟨[], upd_same, rfl, Rs.nil⟩) fun F' H' w x S' r => go F' H' x S' w r
theorem PrS.start (S : Stt g F H σ env) {D : Addr} {o : HO} (np : Pln o) (hD : H D = none) : PrS g F (upd H D o) σ env D o := by
  obtain ⟨n1, n2, n3⟩ := S.new0 hD
  refine ⟨S.grow (ex_alloc hD), upd_same, n1, n2, n3, fun i b q e z => ?_, np⟩
  obtain ⟨a, e1, e2, _⟩ := S.ow i b q e
  rw [z] at e1; cases e1
  obtain ⟨o, ho⟩ := e2.cell
  rw [hD] at ho; cases ho
theorem PrS.turn {D : Addr} {o : HO} (L : PrS g F H σ env D o) (S2 : Stt (subG g F H σ env) F2 H2 σ env2) : Ex F F2 ∧ PrS g F2 H2 σ (outE [] env env2) D o := by
  obtain ⟨x, S'⟩ := L.S.leave (vs := []) S2 freeS_nil rfl
  have nO : ¬ (subG g F H σ env).O D := fun z => by
    obtain ⟨i, b, p, h1, h2⟩ := subG_O z
    exact L.hn i b p h1 h2
  refine ⟨x, S', (S2.frame D _ L.cell nO).eq L.np.1, ?_, L.h0, L.hO, fun i b q e z => ?_, L.np⟩
  · cases q : F2 D with
    | none => rfl
    | some o =>
      rcases S2.fresh D o q with z | z
      · have z : F D = some o := z
        rw [L.hF] at z; cases z
      · have z : H D = none := z
        rw [L.cell] at z; cases z
  · obtain ⟨hl, e⟩ := outE_at e
    rw [if_neg (by simp)] at e
    obtain ⟨p0, c, h1, h2⟩ := outS_ow e.symm
    exact L.hn i b p0 (getD_at h1 (by simp)) z
/-- a value in the block's reading -/
theorem subV_go {d : Env' → Res Val} {p : PV} {e1 : Env'} {D : Addr} {o : HO} {Q : VK} (L : PrS g F H σ env D o) (h : subV d env = .ok p e1)
    (k : ∀ F' H' v, Ex F F' → PrS g F' H' σ e1 D o → R g.C F' p v → Q v H') : xE g.C d σ H Q := by
  unfold subV at h
  refine ⟨subG g F H σ env, rfl, F, blkE [] env, L.S.enter [], ?_⟩
  cases hd : d (blkE [] env) with
  | bad => rw [hd] at h; cases h
  | err y e => rw [hd] at h; cases h
  | ok x e2 =>
    rw [hd] at h
    dsimp only at h
    intro F2 H2 x2 S2 v rv
    cases hf : frz x e2 with
    | bad => rw [hf] at h; cases h
    | err y e => rw [hf] at h; cases h
    | ok q e3 =>
      rw [hf] at h
      cases h
      obtain ⟨F3, x3, S3, r3⟩ := frz_ok S2 rv hf
      obtain ⟨x4, L4⟩ := L.turn (env2 := e3) S3
      exact k F3 H2 v x4 L4 r3
theorem disp_pairs {D : Addr} {K : Val → Env' → Hp → Hp → Prop} : ∀ {prs : List ((Env' → Res Val) × (Env' → Res Val))} {F H : Hp} {env : Env'} {kvs : List (Key × V)} {xs : List PV} {Q : List (V × V) → Hp → Prop}, PrS g F H σ env D (.dK []) → Rs g.C F xs (kvs.map Prod.snd) →
    (Go g F σ (dDisp prs (kvs.map Prod.fst) xs env) fun x env' F' H' => ∀ (more : List (Key × V)), PrS g F' H' σ env' D (.dK []) → (∃ ys, x = .new (.dK ((mergeK kvs more).map Prod.fst) ys) ∧ Rs g.C F' ys ((mergeK kvs more).map Prod.snd)) → more.length = prs.length → Q (more.map fun kv => (kV kv.1, kv.2)) H') →
    tPairs (prs.map fun p => (xE g.C p.1, xE g.C p.2)) σ H Q
  | [], F, H, env, kvs, xs, Q, L, r, go => by
    unfold dDisp at go
    exact go F H (Ex.refl F) L.S [] L ⟨xs, rfl, r⟩ rfl
  | (dk, dv) :: prs, F, H, env, kvs, xs, Q, L, r, go => by
    unfold dDisp at go
    cases h1 : subV dk env with
    | bad => rw [h1] at go; exact go.elim
    | err y e => rw [h1] at go; exact go.elim
    | ok kp e1 =>
      simp only [h1] at go
      cases h2 : keyP kp with
      | none => simp only [h2] at go; exact go.elim
      | some k =>
        cases h3 : subV dv e1 with
        | bad => simp only [h2, h3] at go; exact go.elim
        | err y e => simp only [h2, h3] at go; exact go.elim
        | ok p e2 =>
          simp only [h2, h3] at go
          refine subV_go L h1 fun F1 H1 kv x1 L1 r1 => ?_
          refine subV_go L1 h3 fun F2 H2 v x2 L2 r2 => ?_
          obtain rfl := keyP_r r1 h2
          obtain ⟨z1, z2⟩ := putP_r (k := k) (r.mono (x1.trans x2).le) r2
          rw [← z1] at go
          refine disp_pairs (K := K) L2 z2 ((Go.up go (x1.trans x2)).mono fun x e' F' H' x3 S3 kk more L' hx hl => ?_)
          exact kk ((k, v) :: more) L' hx (by simp [hl])
theorem se_disp {pos : Pos} {keys : List (Option Expr)} {values : List Expr} {prs : List ((Env' → Res Val) × (Env' → Res Val))} (h : PPs X pos keys values (prs.map fun p => (xE g.C p.1, xE g.C p.2))) (hall : keys.all (·.isSome) = true) (hl : keys.length = values.length) (h0 : keys ≠ [])
    (h15 : keys.length ≤ 15) (hp : prs.length ≤ 15) : PE X (.Dict keys values pos) (tE g (dDisp prs [] [])) :=
  peImp (pe_disp h hall hl h0 h15) fun σ H Q ⟨F, env, S, go⟩ D hD => by
    refine disp_pairs (kvs := []) (xs := []) (K := fun _ _ _ _ => True) (PrS.start S ⟨fun _ z => (by cases z), fun _ z => (by cases z)⟩ hD) Rs.nil (go.later.mono fun x e' F' H' x1 S1 k more L hx hlen => ?_)
    obtain ⟨ys, rfl, ry⟩ := hx
    refine ⟨L.cell, more, rfl, by omega, ?_⟩
    have S2 := L.S.poke (o := .dK (mergeK [] more)) L.cell L.np L.hF L.h0 L.hO L.hn
    exact k F' _ (Ex.refl F') S2 (.ref D) ⟨D, rfl, by simp only [R1]; exact ⟨_, upd_same, rfl, ry⟩, L.hF, L.h0, L.hn⟩
theorem spp_cons {pos : Pos} {k v : Expr} {ks : List (Option Expr)} {vs : List Expr} {dk dv : Env' → Res Val} {prs : List ((Env' → Res Val) × (Env' → Res Val))} (hk : ∀ g' : Gm, g'.C = g.C → PE X k (tE g' dk)) (hv : ∀ g' : Gm, g'.C = g.C → PE X v (tE g' dv)) (hr : PPs X pos ks vs (prs.map fun p => (xE g.C p.1, xE g.C p.2))) :
    PPs X pos (some k :: ks) (v :: vs) (((dk, dv) :: prs).map fun p => (xE g.C p.1, xE g.C p.2)) := pps_cons (xE_of hk) (xE_of hv) hr
/-! ### fields -/
theorem ss_fldS {f i : Nat} {n : Str} {L : Nat → List Nat} {o a : Expr} {d : Env' → Res Val} {pos pos' : Pos} (ok : Ok X g) (co : ∀ c, ClsOk g.C c) (hL : g.C.L = L) (hn : g.C.nm f = n) (ho : PE X o (tVar i)) (hv : PE X a (tE g d)) (hs : swapsWith a (some (.Attribute o n pos')) pos.line X.env = pure false) :
    PS X (.Assign [.Attribute o n pos'] a pos) (tS g (dFldS g.C f i d)) :=
  psImp (ps_fld ho hv hs) fun D σ H ⟨F, env, S, go⟩ => ⟨F, env, S, (GoS.bindE (σ := σ) go).mono fun x e F' H' x1 S1 k v r => by
    obtain ⟨F2, p, e2, x2, S2, r2, go2⟩ := GoS_frz S1 r k
    split at go2
    · rename_i b q hi
      split at go2
      · rename_i q' hq
        obtain ⟨ad, w1, w2, w3⟩ := S2.ow i b q hi
        cases q with
        | ins c xs =>
          simp only [semFldS] at hq
          by_cases hc : (g.C.L c)[xs.length]? = some f ∧ xs.length < 999
          · rw [if_pos hc] at hq
            cases hq
            obtain ⟨dx, fs, y1, y2, y3⟩ := w2
            have hlen : fs.length = xs.length := by
              have := y3.length
              rw [List.length_map] at this
              exact this
            have hfx : (g.C.fl c)[xs.length]? = some n := by
              unfold Ct.fl
              rw [List.getElem?_map, hc.1, ← hn]; rfl
            have hnot : n ∉ fs.map Prod.fst := fun z => by
              rw [y2] at z
              obtain ⟨j, hj, e⟩ := List.mem_iff_getElem.mp z
              rw [List.getElem_take] at e
              rw [List.length_take] at hj
              have h1 : (g.C.fl c)[j]? = some n := by rw [← e]; exact List.getElem?_eq_getElem (by omega)
              have := nodup_idx (co c).nd h1 hfx
              omega
            have hput : ∀ {l : List (Str × V)} {w : V}, n ∉ l.map Prod.fst → putF n w l = l ++ [(n, w)] := by
              intro l w
              induction l with
              | nil => intro _; rfl
              | cons z l ih =>
                intro h
                obtain ⟨z1, z2⟩ := z
                rw [List.map_cons, List.mem_cons, not_or] at h
                unfold putF
                rw [if_neg (fun q => h.1 q.symm), ih h.2]; rfl
            refine ⟨.ref ad, w1, ad, g.C.ad c, dx, fs, rfl, y1, by rw [← ok.K]; exact (co c).cls, ?_, by rw [hlen]; omega, ?_⟩
            · rw [← ok.K, ← hn]
              exact (co c).no f (List.mem_of_getElem? hc.1)
            · refine go2 F2 _ σ (Ex.refl F2) (S2.write hi w1 ?_)
              simp only [R1]
              refine ⟨dx, _, upd_same, ?_, ?_⟩
              · rw [hput hnot, List.map_append, y2, List.length_append, List.map_cons, List.map_nil, List.length_singleton]
                rw [List.take_succ, hfx]; rfl
              · rw [hput hnot, List.map_append]
                exact y3.snoc r2
          · rw [if_neg hc] at hq; cases hq
        | _ => simp only [semFldS] at hq; cases hq
      · exact go2.elim
    · exact go2.elim⟩
end
end VL

set_option maxRecDepth 100000
set_option maxHeartbeats 2000000
namespace VL
open PySem PySem.Spec L2
open PyProof.Rows hiding St
/-! ### code that is never come to -/
def dBad : Env' → Res Fl := fun _ => .bad
/-! ### isinstance -/
structure InsF (C : Ct) : Prop where
  ha : ∀ c, PySem.W.findIn C.K (.ref (C.ad c)) "__class__" = some (some (.builtin "object.__class__"))
  hn : PySem.W.specialIn C.K (.builtin "object.__class__") "__get__" = some (some (.builtin "getset_descriptor.__get__"))
  htk : PySem.W.takesIn C.K (.builtin "object.__class__") = some true
  hm : ∀ c, PySem.W.mroIn C.K (C.ad c) (.type "object") = some true
def tyP (C : Ct) : PV → Value
  | .non => .type "NoneType"
  | .bl _ => .type "bool"
  | .int _ => .type "int"
  | .str _ => .type "str"
  | .tup _ => .type "tuple"
  | .lst _ => .type "list"
  | .scr _ => .type "list"
  | .dK _ _ => .type "dict"
  | .dT _ _ => .type "dict"
  | .ins c _ => .ref (C.ad c)
  | .exc c _ => .ref (C.ad c)
def dIsi (ans : PV → Option Bool) (da : Env' → Res Val) : Env' → Res Val := fun e => (stl da e).bind fun x e1 => match (peek x e1).bind ans with
  | some b => .ok (.fz (.bl b)) e1
  | none => .bad
/-- a built-in type asked -/
def ansB (T : String) : PV → Option Bool
  | .non => some false
  | .bl _ => some (T == "bool" || T == "int")
  | .int _ => some (T == "int")
  | .str _ => some (T == "str")
  | .tup _ => some (T == "tuple")
  | .lst _ => some (T == "list")
  | .scr _ => some (T == "list")
  | .dK _ _ => some (T == "dict")
  | .dT _ _ => none
  | .ins _ _ => some false
  | .exc _ _ => none
section
variable {X : Cx} {g : Gm} {pins : List (Addr × Obj)} {F H F' H' F2 H2 : Hp} {σ σ2 : St} {env env' env2 : Env'} {s : Shared} {pos : Pos} {da : Env' → Res Val} {C : Ct}
theorem ss_never {st : Stmt} : PS X st (tS g dBad) := psImp ps_never fun D σ H ⟨F, env, S, go⟩ => go
theorem tyP_ok {p : PV} {v : V} (ok : Ok X g) (co : ∀ c, ClsOk g.C c) (fi : InsF g.C) (r : Rt g.C F H p v) (hd : ∀ ks xs, p ≠ .dT ks xs) (hx : ∀ c xs, p ≠ .exc c xs) : TyX X.K H v (tyP g.C p) := by
  cases p with
  | non => cases r; exact .base .non
  | bl b => cases r; exact .base (.bl b)
  | int i => cases r; exact .base (.int i)
  | str x => cases r; exact .base (.str x)
  | tup xs => obtain ⟨a, vs, rfl, h, _⟩ := r; exact .base (.tup h)
  | lst xs => obtain ⟨a, vs, rfl, h, _⟩ := r; exact .base (.lst h)
  | scr ns =>
    obtain ⟨a, rfl, h⟩ := r
    rw [ok.K] at h
    rcases h with (h | ⟨o, h⟩) | ⟨o, h⟩
    · exact .base (.lst h)
    · exact .base (.frz h)
    · obtain ⟨us, n, h1, h2, _⟩ := h
      exact .kList h1 h2
  | dK ks xs =>
    obtain ⟨a, kvs, rfl, h, _⟩ := r
    rcases h with h | ⟨o, h⟩
    · exact .base (.dK h)
    · exact .fDict h
  | dT ks xs => exact (hd _ _ rfl).elim
  | exc c xs => exact (hx _ _ rfl).elim
  | ins c xs =>
    obtain ⟨a, dx, fs, rfl, h, _⟩ := r
    have cl := (co c).cls
    have h1 := fi.ha c
    have h2 := fi.hn
    have h3 := fi.htk
    have h4 := fi.hm c
    rw [ok.K] at cl h1 h2 h3 h4
    exact .base (.ins h cl h1 h2 h3 h4)
theorem se_isi {c : V} {u : Value} {ans : PV → Option Bool} {e ce : Expr} {p : Pos} (ok : Ok X g) (co : ∀ c, ClsOk g.C c) (fi : InsF g.C) (hans : ∀ p b, ans p = some b → PySem.W.kitOne g.C.K (tyP g.C p) u = some b) (hno : ∀ ks xs, ans (.dT ks xs) = none) (hnx : ∀ c xs, ans (.exc c xs) = none)
    (hm : X.mg "isinstance" = none) (hg : Gl X "isinstance") (ha : PE X e (tE g da)) (hc : PE X ce (tC c)) (hu : ClsV c u) (hs : starEach [e, ce] X.env = (false, eval e X.env) :: starEach [ce] X.env) (hs2 : starEach [ce] X.env = (false, eval ce X.env) :: starEach [] X.env) (hpl : (backTo pos (starEach [ce] X.env)).any (·.1) = false) :
    PE X (.Call (.Name "isinstance" p) [e, ce] [] pos) (tE g (dIsi ans da)) :=
  peImp (pe_callB (call_isi) hg hm boot_isinstance (pa_cons (peo ha) (pa_cons hc pa_nil hs2) hs) (by decide) (by decide) hs hpl) fun σ H Q ⟨F, env, S, go⟩ => ⟨F, env, S, (Go.bind go).mono fun x e1 F1 H1 x1 S1 k v o r => by
    cases hp : peek x e1 with
    | none => simp only [hp] at k; exact k.elim
    | some q =>
      cases hq : ans q with
      | none => simp only [hp, hq, Option.bind] at k; exact k.elim
      | some b =>
        simp only [hp, hq, Option.bind] at k
        exact ⟨v, c, tyP g.C q, u, b, rfl, hu, tyP_ok ok co fi (peek_ok S1 r hp) (fun ks xs z => by rw [z, hno] at hq; cases hq) (fun c xs z => by rw [z, hnx] at hq; cases hq), by rw [← ok.K]; exact hans q b hq, k F1 H1 (Ex.refl F1) S1 _ (by show R _ _ _ _; unfold R; rfl)⟩⟩
end
end VL

set_option maxRecDepth 100000
set_option maxHeartbeats 2000000
namespace VL
open PySem PySem.Spec L2
open PyProof.Rows hiding St
/-! ### sorted -/
theorem srt_uniq {α : Type} [DecidableEq α] {lt : α → α → Bool} (O : SrtO.Swo lt) (anti : ∀ x y, lt x y = false → lt y x = false → x = y) {l m : List α} (p : l.Perm m) (hl : SrtO.Srtd lt l) (hm : SrtO.Srtd lt m) : l = m := by
  refine SrtO.stb_uniq O hl hm ⟨p, fun x => ?_⟩
  have rep : ∀ l : List α, l.filter (SrtO.eqv lt x) = List.replicate (l.filter (SrtO.eqv lt x)).length x := fun l => by
    rw [List.eq_replicate_iff]
    refine ⟨rfl, fun y hy => ?_⟩
    have := (List.mem_filter.mp hy).2
    obtain ⟨h1, h2⟩ := SrtO.eqv_iff.mp this
    first | exact anti y x h1 h2 | exact anti y x h2 h1
  rw [rep l, rep m, (p.filter (SrtO.eqv lt x)).length_eq]
def ltI (x y : Int) : Bool := decide (x < y)
theorem swo_ltI : SrtO.Swo ltI := ⟨fun x y h => by simp only [ltI, decide_eq_true_eq, decide_eq_false_iff_not] at *; omega, fun x y z h1 h2 => by simp only [ltI, decide_eq_false_iff_not] at *; omega⟩
def sortI (ns : List Int) : List Int := ns.mergeSort fun x y => !ltI y x
theorem sortI_perm (ns : List Int) : (sortI ns).Perm ns := List.mergeSort_perm _ _
theorem sortI_srt (ns : List Int) : (sortI ns).Pairwise (· ≤ ·) := by
  have := List.pairwise_mergeSort (le := fun x y => !ltI y x) (fun a b c h1 h2 => by simp only [ltI, Bool.not_eq_true', decide_eq_false_iff_not] at *; omega) (fun a b => by simp only [ltI, Bool.or_eq_true, Bool.not_eq_true', decide_eq_false_iff_not]; omega) ns
  exact this.imp fun h => by simp only [ltI, Bool.not_eq_true', decide_eq_false_iff_not] at h; omega
theorem sortI_uniq {ns ns' : List Int} (p : ns'.Perm ns) (h : ns'.Pairwise (· ≤ ·)) : ns' = sortI ns := by
  refine srt_uniq swo_ltI (fun x y h1 h2 => by simp only [ltI, decide_eq_false_iff_not] at *; omega) (p.trans (sortI_perm ns).symm) (h.imp fun q => ?_) ((sortI_srt ns).imp fun q => ?_)
  all_goals (simp only [ltI, decide_eq_false_iff_not]; omega)
def sortP (ps : List (Int × Int)) : List (Int × Int) := ps.mergeSort fun x y => !SrtO.lexB y x
theorem swo_lexP : SrtO.Swo SrtO.lexB := by
  refine ⟨fun x y h => ?_, fun x y z h1 h2 => ?_⟩
  · have a := SrtO.lexB_iff.mp h
    refine SrtO.lexB_no.mpr ?_
    omega
  · have a := SrtO.lexB_no.mp h1
    have b := SrtO.lexB_no.mp h2
    refine SrtO.lexB_no.mpr ?_
    omega
theorem sortP_perm (ps : List (Int × Int)) : (sortP ps).Perm ps := List.mergeSort_perm _ _
theorem sortP_srt (ps : List (Int × Int)) : SrtO.Srtd SrtO.lexB (sortP ps) := by
  have := List.pairwise_mergeSort (le := fun x y => !SrtO.lexB y x) (fun a b c h1 h2 => by
    simp only [Bool.not_eq_true'] at *
    exact swo_lexP.tr _ _ _ h1 h2) (fun a b => by
    simp only [Bool.or_eq_true, Bool.not_eq_true']
    rcases SrtO.bcase (SrtO.lexB b a) with h | h
    · exact .inr (swo_lexP.asym _ _ h)
    · exact .inl h) ps
  exact this.imp fun h => by simpa using h
theorem sortP_uniq {ps qs : List (Int × Int)} (p : qs.Perm ps) (h : SrtO.Srtd SrtO.lexB qs) : qs = sortP ps :=
  srt_uniq swo_lexP (fun x y h1 h2 => by
    have a := SrtO.lexB_no.mp h1
    have b := SrtO.lexB_no.mp h2
    obtain ⟨x1, x2⟩ := x
    obtain ⟨y1, y2⟩ := y
    simp only at a b
    have e1 : x1 = y1 := by omega
    have e2 : x2 = y2 := by omega
    rw [e1, e2]) (p.trans (sortP_perm ps).symm) h (sortP_srt ps)
def pairP : PV → Option (Int × Int)
  | .tup [.int i, .int j] => some (i, j)
  | _ => none
def pairsP : List PV → Option (List (Int × Int))
  | [] => some []
  | p :: ps => match pairP p, pairsP ps with
    | some a, some r => some (a :: r)
    | _, _ => none
def ofPair (p : Int × Int) : PV := .tup [.int p.1, .int p.2]
theorem pairP_is {p : PV} {a : Int × Int} (h : pairP p = some a) : p = ofPair a := by
  unfold pairP at h
  split at h
  · cases h; rfl
  · cases h
theorem pairsP_is : ∀ {ps : List PV} {l : List (Int × Int)}, pairsP ps = some l → ps = l.map ofPair
  | [], l, h => by cases h; rfl
  | p :: ps, l, h => by
    unfold pairsP at h
    cases h1 : pairP p with
    | none => simp only [h1] at h; cases h
    | some a =>
      cases h2 : pairsP ps with
      | none => simp only [h1, h2] at h; cases h
      | some r =>
        simp only [h1, h2, Option.some.injEq] at h
        subst h
        rw [pairP_is h1, pairsP_is h2]; rfl
def semSorted : List PV → Option Val
  | [.lst xs] => match intsP xs with
    | some ns => some (.new (.lst ((sortI ns).map PV.int)))
    | none => match pairsP xs with
      | some ps => some (.new (.lst ((sortP ps).map ofPair)))
      | none => none
  | _ => none
section
variable {X : Cx} {g : Gm} {pins : List (Addr × Obj)} {F H F' H' F2 H2 : Hp} {σ σ2 : St} {env env' env2 : Env'} {s : Shared} {pos : Pos} {da : Env' → Res Val} {C : Ct}
def keyOf (F : Hp) (v : V) : Int × Int := match v with
  | .ref a => match F a with
    | some (.tup [.int i, .int j]) => (i, j)
    | _ => (0, 0)
  | _ => (0, 0)
theorem pair_r {p : Int × Int} {v : V} (h : R C F (ofPair p) v) : ∃ t, v = .ref t ∧ F t = some (.tup [.int p.1, .int p.2]) ∧ keyOf F v = p := by
  unfold ofPair at h
  unfold R at h
  obtain ⟨a, vs, rfl, h1, h2⟩ := h
  obtain ⟨x, r, rfl, h3, h4⟩ := h2.cons_inv
  obtain ⟨y, r', rfl, h5, h6⟩ := h4.cons_inv
  obtain rfl := h6.nil_inv
  unfold R at h3 h5
  subst h3; subst h5
  refine ⟨a, rfl, h1, ?_⟩
  unfold keyOf
  simp only [h1]
theorem pairs_keys : ∀ {ps : List (Int × Int)} {vs : List V}, Rs C F (ps.map ofPair) vs → vs.map (keyOf F) = ps ∧ ∀ v ∈ vs, R C F (ofPair (keyOf F v)) v
  | [], vs, h => by
    rw [h.nil_inv]
    exact ⟨rfl, fun v hv => by cases hv⟩
  | p :: ps, vs, h => by
    obtain ⟨v, r, rfl, h1, h2⟩ := h.cons_inv
    obtain ⟨i1, i2⟩ := pairs_keys h2
    obtain ⟨t, e1, e2, e3⟩ := pair_r h1
    refine ⟨by rw [List.map_cons, i1, e3], fun u hu => ?_⟩
    rcases List.mem_cons.mp hu with z | z
    · subst z; rw [e3]; exact h1
    · exact i2 u z
theorem rs_of_all {f : V → PV} : ∀ {vs : List V}, (∀ v ∈ vs, R C F (f v) v) → Rs C F (vs.map f) vs
  | [], _ => Rs.nil
  | v :: vs, h => Rs.cons (h v (List.mem_cons_self ..)) (rs_of_all fun u hu => h u (List.mem_cons_of_mem _ hu))
theorem c_sorted (ok : Ok X g) : OpN X g (fun us => PySem.call (.builtin "sorted") us) semSorted := by
  intro pins s σ F H env ps vs us r Q I S rv t e k
  unfold semSorted at e
  split at e
  · rename_i xs
    obtain ⟨v, rfl, h⟩ := rts1 t
    obtain ⟨a, ws, rfl, h1, h2⟩ := h
    cases hi : intsP xs with
    | some ns =>
      rw [hi] at e; cases e
      obtain ⟨b, hb, h2'⟩ := sqI (show Rt g.C F H (.lst xs) (.ref a) from ⟨a, ws, rfl, h1, h2⟩) hi
      cases hb
      refine cr_sortedI pins s σ H _ us Q I rv ⟨a, ns, rfl, SqL.of h2', fun ns' p hp hs hn => ?_⟩
      rw [sortI_uniq hp hs]
      exact fin_lst S hn (Rs.of_ints _) k
    | none =>
      rw [hi] at e
      cases hq : pairsP xs with
      | none => rw [hq] at e; cases e
      | some prs =>
        rw [hq] at e; cases e
        obtain rfl := pairsP_is hq
        obtain ⟨k1, k2⟩ := pairs_keys h2
        refine cr_sortedPO pins s σ H _ us Q I rv ⟨a, ws, keyOf F, rfl, SqL.of h1, fun x hx => ?_, fun ys p hs hb hn => ?_⟩
        · obtain ⟨t', e1, e2, e3⟩ := pair_r (k2 x hx)
          exact ⟨t', e1, S.sub.tup e2⟩
        · have hall : ∀ v ∈ ys, R g.C F (ofPair (keyOf F v)) v := fun v hv => k2 v (hb.perm.mem_iff.mp hv)
          have hk : ys.map (keyOf F) = sortP prs := by
            refine sortP_uniq ?_ (List.pairwise_map.mpr hs)
            rw [← k1]
            exact hb.perm.map _
          have := rs_of_all (f := fun v => ofPair (keyOf F v)) hall
          have e3 : ys.map (fun v => ofPair (keyOf F v)) = (sortP prs).map ofPair := by rw [← hk, List.map_map]; rfl
          rw [e3] at this
          exact fin_lst S hn this k
  · cases e
/-! ### methods that read -/
def semStarts : PV → List PV → Option Val
  | .str a, [.str b] => some (.fz (.bl (Txt.startswith a b)))
  | _, _ => none
theorem semStarts_inv {p : PV} {ps : List PV} {r : Val} (h : semStarts p ps = some r) : ∃ a b, p = .str a ∧ ps = [.str b] ∧ r = .fz (.bl (Txt.startswith a b)) := by
  unfold semStarts at h
  split at h
  · cases h; exact ⟨_, _, rfl, rfl, rfl⟩
  · cases h
theorem m_starts : MRule X g "str" "startswith" semStarts := by
  refine ⟨by decide, "str.startswith", PySem.F.plainAttrs_str, PySem.F.slot_str_startswith, PySem.F.type_str_startswith, ?_⟩
  intro pins s σ F H env p ps v vs vv us r Q I S r1 r2 t1 t2 hk hs k
  obtain ⟨a, b, rfl, rfl, rfl⟩ := semStarts_inv hs
  cases rt_str t1
  obtain ⟨w, rfl, h⟩ := rts1 t2
  cases rt_str h
  exact mt_startswith pins s σ H _ _ vv us Q I r1 r2 ⟨a, b, rfl, rfl, fin_bl S k⟩
def strsP : List PV → Option (List Str)
  | [] => some []
  | .str x :: ps => (strsP ps).map (x :: ·)
  | _ => none
theorem strsP_is : ∀ {ps : List PV} {l : List Str}, strsP ps = some l → ps = l.map PV.str
  | [], l, h => by cases h; rfl
  | p :: ps, l, h => by
    cases p with
    | str x =>
      simp only [strsP, Option.map_eq_some_iff] at h
      obtain ⟨r, h1, rfl⟩ := h
      rw [strsP_is h1]; rfl
    | _ => simp only [strsP] at h; cases h
def joinOk (a : Str) (ys : List Str) : Bool := decide ((ys.map (·.length)).sum + ys.length * a.length ≤ 16777216)
def semJoin : PV → List PV → Option Val
  | .str a, [.lst xs] => (strsP xs).bind fun ys => if joinOk a ys = true then some (.fz (.str (Txt.join a ys))) else none
  | _, _ => none
theorem semJoin_inv {p : PV} {ps : List PV} {r : Val} (h : semJoin p ps = some r) : ∃ a ys, p = .str a ∧ ps = [.lst (ys.map PV.str)] ∧ joinOk a ys = true ∧ r = .fz (.str (Txt.join a ys)) := by
  unfold semJoin at h
  split at h
  · simp only [Option.bind_eq_some_iff] at h
    obtain ⟨ys, h1, h2⟩ := h
    split at h2
    · cases h2
      exact ⟨_, ys, rfl, by rw [strsP_is h1], by assumption, rfl⟩
    · cases h2
  · cases h
theorem m_join (ok : Ok X g) : MRule X g "str" "join" semJoin := by
  refine ⟨by decide, "str.join", PySem.F.plainAttrs_str, PySem.F.slot_str_join, PySem.F.type_str_join, ?_⟩
  intro pins s σ F H env p ps v vs vv us r Q I S r1 r2 t1 t2 hk hs k
  obtain ⟨a, ys, rfl, rfl, hj, rfl⟩ := semJoin_inv hs
  cases rt_str t1
  obtain ⟨w, rfl, h⟩ := rts1 t2
  obtain ⟨b, ws, rfl, h1, h2⟩ := h
  obtain rfl := h2.strs_of
  exact mt_join pins s σ H _ _ vv us Q I r1 r2 ⟨a, b, ys, rfl, rfl, .inl (SqL.of h1), of_decide_eq_true hj, fin_str S k⟩
/-- the first place of a text in a list of texts -/
def idxS (x : Str) : List Str → Nat → Option Nat
  | [], _ => none
  | y :: ys, n => if y = x then some n else idxS x ys (n + 1)
def semIndex : PV → List PV → Option Val
  | .lst xs, [.str x] => (strsP xs).bind fun ys => (ys.idxOf? x).map fun j => .fz (.int (j : Nat))
  | _, _ => none
theorem semIndex_inv {p : PV} {ps : List PV} {r : Val} (h : semIndex p ps = some r) : ∃ (ys : List Str) (x : Str) (j : Nat), p = .lst (ys.map PV.str) ∧ ps = [.str x] ∧ ys.idxOf? x = some j ∧ r = .fz (.int (j : Nat)) := by
  unfold semIndex at h
  split at h
  · simp only [Option.bind_eq_some_iff, Option.map_eq_some_iff] at h
    obtain ⟨ys, h1, j, h2, rfl⟩ := h
    exact ⟨ys, _, j, by rw [strsP_is h1], rfl, h2, rfl⟩
  · cases h
theorem m_index (ok : Ok X g) : MRule X g "list" "index" semIndex := by
  refine ⟨by decide, "list.index", PySem.F.plainAttrs_list, PySem.F.slot_list_index, PySem.F.type_list_index, ?_⟩
  intro pins s σ F H env p ps v vs vv us r Q I S r1 r2 t1 t2 hk hs k
  obtain ⟨ys, x, j, rfl, rfl, hj, rfl⟩ := semIndex_inv hs
  obtain ⟨a, ws, rfl, h1, h2⟩ := t1
  obtain rfl := h2.strs_of
  obtain ⟨w, rfl, h⟩ := rts1 t2
  cases rt_str h
  obtain ⟨hlt, he, hno⟩ := List.findIdx?_eq_some_iff_getElem.mp hj
  have ej : ys[j] = x := by simpa using he
  refine mt_index pins s σ H _ _ vv us Q I r1 r2 ⟨a, ys.map V.str, .str x, j, .str x, rfl, rfl, SqL.of h1, rfl, by simp [List.all_eq_true, flatV], by rw [List.getElem?_map, List.getElem?_eq_getElem hlt, ej]; rfl, by simp [eqV], fun m z' hm hz => ?_, fin_int S k⟩
  rw [List.getElem?_map] at hz
  have hml : m < ys.length := by omega
  rw [List.getElem?_eq_getElem hml] at hz
  cases hz
  have := hno m hm
  simpa [eqV] using this
end
end VL

set_option maxRecDepth 100000
set_option maxHeartbeats 2000000
namespace VL
open PySem PySem.Spec L2
open PyProof.Rows hiding St
def bTys : List String := ["int", "bool", "str", "tuple", "list", "dict"]
/-- what is known of the classes -/
structure CF (C : Ct) (L : Nat → List Nat) (nm : Nat → Str) : Prop where
  L : C.L = L
  nm : C.nm = nm
  cls : ∀ c, ClsOk C c
  ins : InsF C
  kb : ∀ c T, T ∈ bTys → PySem.W.kitOne C.K (.ref (C.ad c)) (.type T) = some false
theorem kitA {K : PySem.W.Frag} : ∀ T ∈ bTys, ∀ b, ∀ a ∈ ["NoneType", "bool", "int", "str", "tuple", "list", "dict"], kitB a T = some b → PySem.W.kitOne K (.type a) (.type T) = some b := fun T hT b a ha h => kit_ty h
theorem kit_table : (bTys.all fun T => (kitB "NoneType" T == some false) && (kitB "bool" T == some (T == "bool" || T == "int")) && (kitB "int" T == some (T == "int")) && (kitB "str" T == some (T == "str")) && (kitB "tuple" T == some (T == "tuple")) && (kitB "list" T == some (T == "list")) && (kitB "dict" T == some (T == "dict"))) = true := by decide +kernel
theorem ansB_ok {C : Ct} {L : Nat → List Nat} {nm : Nat → Str} (cf : CF C L nm) {T : String} (hT : T ∈ bTys) : ∀ p b, ansB T p = some b → PySem.W.kitOne C.K (tyP C p) (.type T) = some b := by
  intro p b h
  have q := List.all_eq_true.mp kit_table T hT
  simp only [Bool.and_eq_true, beq_iff_eq] at q
  obtain ⟨⟨⟨⟨⟨⟨q0, q1⟩, q2⟩, q3⟩, q4⟩, q5⟩, q6⟩ := q
  cases p <;> simp only [ansB] at h <;> try (cases h; done)
  · cases h; exact kit_ty q0
  · cases h; exact kit_ty q1
  · cases h; exact kit_ty q2
  · cases h; exact kit_ty q3
  · cases h; exact kit_ty q4
  · cases h; exact kit_ty q5
  · cases h; exact kit_ty q5
  · cases h; exact kit_ty q6
  · cases h; exact cf.kb _ T hT
theorem boot_ty : ∀ T ∈ bTys, bootBuiltins (Str.ofString T) = some (.type T) := by
  have : (bTys.all fun T => decide (bootBuiltins (Str.ofString T) = some (.type T))) = true := by decide +kernel
  intro T hT
  exact of_decide_eq_true (List.all_eq_true.mp this T hT)
def dFldL (L : Nat → List Nat) (f : Nat) (da : Env' → Res Val) : Env' → Res Val := fun e => (stl da e).bind fun x e1 => match peek x e1 with
  | some (.ins c xs) => match ((L c).idxOf? f).bind fun i => xs[i]? with
    | some p => .ok (.fz p) e1
    | none => .bad
  | _ => .bad
def dFldSL (L : Nat → List Nat) (f i : Nat) (d : Env' → Res Val) : Env' → Res Fl := fun e => (d e).bind fun x e1 => (frz x e1).bind fun p e2 => match e2[i]? with
  | some (.ow b (.ins c xs)) => if (L c)[xs.length]? = some f ∧ xs.length < 999 then .ok .nx (e2.set i (.ow b (.ins c (xs ++ [p])))) else .bad
  | _ => .bad
section
variable {X : Cx} {g : Gm} {da : Env' → Res Val} {C : Ct} {L : Nat → List Nat} {nm : Nat → Str} {k j : Nat} {x m : Str} {md : Md} {fn : List PV → FR} {dvs : List V} {dps : List PV} {p pos apos : Pos} {e o a : Expr} {es : List Expr} {ds : List (Env' → Res Val)}
theorem se_gint {i : Int} (hg : Gl X x) (h : ∃ u, X.mg x = some u ∧ RelV (.int i) u) (hd : (x == ("__debug__" : Str)) = false) : PE X (.Name x pos) (tE g fun e => .ok (.fz (.int i)) e) := by
  obtain ⟨u, h1, h2⟩ := h
  exact se_glob hg h1 h2 (fun F => by unfold R; rfl) hd
theorem se_gstr {i : Str} (hg : Gl X x) (h : ∃ u, X.mg x = some u ∧ RelV (.str i) u) (hd : (x == ("__debug__" : Str)) = false) : PE X (.Name x pos) (tE g fun e => .ok (.fz (.str i)) e) := by
  obtain ⟨u, h1, h2⟩ := h
  exact se_glob hg h1 h2 (fun F => by unfold R; rfl) hd
theorem se_fldC {f : Nat} {n : Str} (hC : g.C = C) (ok : Ok X g) (cf : CF C L nm) (hn : nm f = n) (ha : PE X a (tE g da)) (hb : attributeBase a n X.env (eval a X.env) = eval a X.env) : PE X (.Attribute a n pos) (tE g (dFldL L f da)) := by
  subst hC
  have e := cf.nm
  have e2 := cf.L
  subst e2
  subst hn
  rw [← e] at hb ⊢
  exact se_fld ok cf.cls ha hb
theorem ss_fldSC {f i : Nat} {n : Str} {pos' : Pos} (hC : g.C = C) (ok : Ok X g) (cf : CF C L nm) (hn : nm f = n) (ho : PE X o (tVar i)) (hv : PE X a (tE g da)) (hs : swapsWith a (some (.Attribute o n pos')) pos.line X.env = pure false) : PS X (.Assign [.Attribute o n pos'] a pos) (tS g (dFldSL L f i da)) := by
  subst hC
  have e2 := cf.L
  subst e2
  refine psImp (ss_fldS ok cf.cls rfl (by rw [cf.nm]; exact hn) ho hv hs) fun D σ H ⟨F, env, S, go⟩ => ⟨F, env, S, ?_⟩
  have : dFldSL g.C.L f i da env = dFldS g.C f i da env := by
    unfold dFldSL dFldS
    congr 1
    funext x e1
    congr 1
    funext p e2
    cases q : e2[i]? with
    | none => rfl
    | some sl =>
      cases sl with
      | no => rfl
      | fz z => rfl
      | ow b z =>
        cases z <;> simp only [semFldS] <;> first | rfl | skip
        split <;> rfl
  rw [← this]
  exact go
theorem se_isB {T : String} {ce : Pos} (hC : g.C = C) (ok : Ok X g) (cf : CF C L nm) (hT : T ∈ bTys) (hm : X.mg "isinstance" = none) (hg : Gl X "isinstance") (hmT : X.mg (Str.ofString T) = none) (hgT : Gl X (Str.ofString T)) (ha : PE X e (tE g da))
    (hn : (Str.ofString T) ≠ "__name__") (hd : ((Str.ofString T) == ("__debug__" : Str)) = false)
    (hs : starEach [e, .Name (Str.ofString T) ce] X.env = (false, eval e X.env) :: starEach [.Name (Str.ofString T) ce] X.env) (hs2 : starEach [.Name (Str.ofString T) ce] X.env = (false, eval (.Name (Str.ofString T) ce) X.env) :: starEach [] X.env) (hpl : (backTo pos (starEach [.Name (Str.ofString T) ce] X.env)).any (·.1) = false) :
    PE X (.Call (.Name "isinstance" p) [e, .Name (Str.ofString T) ce] [] pos) (tE g (dIsi (ansB T) da)) := by
  subst hC
  exact se_isi ok cf.cls cf.ins (ansB_ok cf hT) (fun _ _ => rfl) (fun _ _ => rfl) hm hg ha (pe_bltn hgT hmT (boot_ty T hT) (show RelV (.ty T) (.type T) from rfl) hn hd) (.ty T) hs hs2 hpl
theorem se_fnC (hC : g.C = C) (c : C8.Cal X.prog X.w X.K X.mg X.base k x (SpV C md fn) dvs) (hr : Room j X.A) (hk : k ≤ j) (hg : Gl X x) (hd : ∀ F, Rs g.C F dps dvs) (ha : PA X (e :: es) (tAs g (dArgs ds)))
    (hdb : (x == ("__debug__" : Str)) = false) (he : starEach (e :: es) X.env = (false, eval e X.env) :: starEach es X.env) (hpl : (backTo pos (starEach es X.env)).any (·.1) = false) :
    PE X (.Call (.Name x p) (e :: es) [] pos) (tE g (dFn md fn dps ds)) := by
  subst hC; exact se_fn c hr hk hg hd ha hdb he hpl
theorem se_mkC {c : Nat} {ca : Addr} (hC : g.C = C) (hca : C.ad c = ca) (cm : C8.Mak X.prog X.w X.K X.mg X.base k x ca (SpV C (true :: md) fn) dvs) (hr : Room j X.A) (hk : k + 1 ≤ j) (hg : Gl X x) (hd : ∀ F, Rs g.C F dps dvs) (ha : PA X (e :: es) (tAs g (dArgs ds)))
    (hdb : (x == ("__debug__" : Str)) = false) (he : starEach (e :: es) X.env = (false, eval e X.env) :: starEach es X.env) (hpl : (backTo pos (starEach es X.env)).any (·.1) = false) :
    PE X (.Call (.Name x p) (e :: es) [] pos) (tE g (dMk c md fn dps ds)) := by
  subst hC; subst hca; exact se_mk cm hr hk hg hd ha hdb he hpl
theorem rs_nil0 : ∀ F, Rs C F [] [] := fun _ => Rs.nil
theorem rs_non1 : ∀ F, Rs C F [.non] [.non] := fun _ => Rs.cons (by unfold R; rfl) Rs.nil
theorem rs_str1 {x : Str} : ∀ F, Rs C F [.str x] [.str x] := fun _ => Rs.cons (by unfold R; rfl) Rs.nil
theorem rs_int1 {x : Int} : ∀ F, Rs C F [.int x] [.int x] := fun _ => Rs.cons (by unfold R; rfl) Rs.nil
end
end VL

set_option maxRecDepth 100000
set_option maxHeartbeats 2000000
namespace VL
open PySem PySem.Spec L2
open PyProof.Rows hiding St
/-! ### {k: v for t in i if c} -/
def dcL (vs : List Nat) (u : UG) (dt : Option (Env' → Res Bool)) (dk dv : Env' → Res Val) : List PV → List Key → List PV → Env' → Res (List Key × List PV)
  | [], ks, xs, e => .ok (ks, xs) e
  | p :: ps, ks, xs, e => if freeS vs e = true then match u p (blkE vs e) with
    | none => .bad
    | some e1 => match dtO dt e1 with
      | .ok false e2 => dcL vs u dt dk dv ps ks xs (outE vs e e2)
      | .ok true e2 => match dk e2 with
        | .ok kx e3 => match frz kx e3 with
          | .ok kp e4 => match keyP kp with
            | some k => match dv e4 with
              | .ok x e5 => match frz x e5 with
                | .ok q e6 => if ks.length < big then dcL vs u dt dk dv ps (putP ks xs k q).1 (putP ks xs k q).2 (outE vs e e6) else .bad
                | _ => .bad
              | _ => .bad
            | none => .bad
          | _ => .bad
        | _ => .bad
      | _ => .bad
    else .bad
def dDc (vs : List Nat) (di : Env' → Res (List PV)) (u : UG) (dt : Option (Env' → Res Bool)) (dk dv : Env' → Res Val) : Env' → Res Val := fun e => (di e).bind fun ps e1 => (dcL vs u dt dk dv ps [] [] e1).bind fun qs e2 => .ok (.new (.dK qs.1 qs.2)) e2
structure DcS (g : Gm) (F H : Hp) (σ : St) (env : Env') (D : Addr) (ks : List Key) (xs : List PV) : Prop where
  S : Stt g F H σ env
  cell : ∃ kvs, H D = some (.dK kvs) ∧ kvs.map Prod.fst = ks ∧ Rs g.C F xs (kvs.map Prod.snd)
  hF : F D = none
  h0 : g.H0 D = none
  hO : ¬ g.O D
  hn : ∀ (i : Nat) b q, env[i]? = some (.ow b q) → σ[i]? ≠ some (some (.ref D))
section
variable {X : Cx} {g : Gm} {pins : List (Addr × Obj)} {F H F' H' F2 H2 : Hp} {σ σ2 : St} {env env' env2 : Env'} {s : Shared}
theorem DcS.start (S : Stt g F H σ env) {D : Addr} (hD : H D = none) : DcS g F (upd H D (.dK [])) σ env D [] [] := by
  obtain ⟨n1, n2, n3⟩ := S.new0 hD
  refine ⟨S.grow (ex_alloc hD), ⟨[], upd_same, rfl, Rs.nil⟩, n1, n2, n3, fun i b q e z => ?_⟩
  obtain ⟨a, e1, e2, _⟩ := S.ow i b q e
  rw [z] at e1; cases e1
  obtain ⟨o, ho⟩ := e2.cell
  rw [hD] at ho; cases ho
theorem DcS.noO {D : Addr} {ks : List Key} {xs : List PV} (L : DcS g F H σ env D ks xs) : ¬ (subG g F H σ env).O D := fun z => by
  obtain ⟨i, b, p, h1, h2⟩ := subG_O z
  exact L.hn i b p h1 h2
theorem DcS.turn {D : Addr} {ks : List Key} {xs : List PV} {vs : List Nat} (L : DcS g F H σ env D ks xs) (S2 : Stt (subG g F H σ env) F2 H2 σ2 env2) (hf : freeS vs env = true) (hσ : wipe σ2 vs = wipe σ vs) : Ex F F2 ∧ DcS g F2 H2 σ (outE vs env env2) D ks xs := by
  obtain ⟨x, S'⟩ := L.S.leave S2 hf hσ
  obtain ⟨ws, h1, h2, h3⟩ := L.cell
  refine ⟨x, S', ⟨ws, (S2.frame D _ h1 L.noO).eq (fun _ z => by cases z), h2, h3.mono x.le⟩, ?_, L.h0, L.hO, fun i b q e z => ?_⟩
  · cases q : F2 D with
    | none => rfl
    | some o =>
      rcases S2.fresh D o q with z | z
      · have z : F D = some o := z
        rw [L.hF] at z; cases z
      · have z : H D = none := z
        rw [h1] at z; cases z
  · obtain ⟨hl, e⟩ := outE_at e
    split at e
    · exact L.hn i b q (getD_at e.symm (by simp)) z
    · obtain ⟨p0, c, h1, h2⟩ := outS_ow e.symm
      exact L.hn i b p0 (getD_at h1 (by simp)) z
theorem DcS.put {D : Addr} {ks : List Key} {xs : List PV} {y : V} {q : PV} {k : Key} {kvs : List (Key × V)} (L : DcS g F H σ env D ks xs) (hD : H D = some (.dK kvs)) (r : R g.C F q y) : DcS g F (upd H D (.dK (putK kvs k y))) σ env D (putP ks xs k q).1 (putP ks xs k q).2 := by
  obtain ⟨ws', h1, h2, h3⟩ := L.cell
  rw [hD] at h1; cases h1
  obtain ⟨z1, z2⟩ := putP_r (k := k) h3 r
  subst h2
  exact ⟨L.S.poke hD ⟨fun _ z => (by cases z), fun _ z => (by cases z)⟩ L.hF L.h0 L.hO L.hn, ⟨_, upd_same, z1, z2⟩, L.hF, L.h0, L.hO, L.hn⟩
theorem DcS.done {D : Addr} {ks : List Key} {xs : List PV} (L : DcS g F H σ env D ks xs) : RV g F H σ env (.new (.dK ks xs)) (.ref D) := by
  obtain ⟨ws, h1, h2, h3⟩ := L.cell
  exact ⟨D, rfl, by simp only [R1]; exact ⟨ws, h1, h2, h3⟩, L.hF, L.h0, L.hn⟩
theorem dc_turns {vs js : List Nat} {u : UG} {dt : Option (Env' → Res Bool)} {dk dv : Env' → Res Val} {J : It} {ps : List PV} {F1 H1 : Hp} {env1 : Env'} {Q : VK} (hj : ∀ j ∈ js, j ∈ vs)
    (S1 : Stt g F1 H1 σ env1) (w : WalkP g.C J F1 ps) (go : Go g F1 σ ((dcL vs u dt dk dv ps [] [] env1).bind fun qs e2 => .ok (.new (.dK qs.1 qs.2)) e2) fun x env' F' H' => ∀ v, RV g F' H' σ env' x v → Q v H') :
    ∀ D, H1 D = none → ∃ W : Nat → Nat → Hp → Prop, (∃ m, W 0 m (upd H1 D (.dK []))) ∧ ∀ i m H, W i m H →
      (J.stop i H ∧ Q (.ref D) H) ∨ (J.go i H ∧ ∃ Nx : Hp → Prop, (∀ H', Nx H' → ∃ m', m' < m ∧ W (i + 1) m' H') ∧ ∀ x H', J.yld i H x H' → (∃ g' : Gm, g'.C = g.C ∧ tG g' u js x (wipe σ vs) H' fun σ2 H2 => wipe σ2 vs = wipe σ vs ∧ tT g' (dtO dt) σ2 H2 fun b H3 =>
        if b = true then tE g' dk σ2 H3 fun y H4 => tE g' dv σ2 H4 fun z H5 => ∃ kvs k, y = kV k ∧ H5 D = some (.dK kvs) ∧ kvs.length < sizeLine ∧ Nx (upd H5 D (.dK (putK kvs k z))) else Nx H3)) := by
  intro D hD
  refine ⟨fun i m H => ∃ F env ks xs, Ex F1 F ∧ DcS g F H σ env D ks xs ∧ m = ps.length - i ∧ i ≤ ps.length ∧ Go g F σ ((dcL vs u dt dk dv (ps.drop i) ks xs env).bind fun qs e2 => .ok (.new (.dK qs.1 qs.2)) e2) fun x env' F' H' => ∀ v, RV g F' H' σ env' x v → Q v H',
    ⟨ps.length, F1, env1, [], [], Ex.refl F1, DcS.start S1 hD, by omega, Nat.zero_le _, by rw [List.drop_zero]; exact go⟩, ?_⟩
  rintro i m H ⟨F, env, ks, xs, x1, L, rfl, hle, go1⟩
  by_cases hlt : i < ps.length
  · right
    have hd : ps.drop i = ps[i] :: ps.drop (i + 1) := List.drop_eq_getElem_cons hlt
    rw [hd] at go1
    unfold dcL at go1
    split at go1
    · rename_i hf
      have Se := L.S.enter vs
      refine ⟨w.goes (subG g F H σ env) i F H _ _ rfl hlt x1 Se, fun H' => ∃ F env ks xs, Ex F1 F ∧ DcS g F H' σ env D ks xs ∧ Go g F σ ((dcL vs u dt dk dv (ps.drop (i + 1)) ks xs env).bind fun qs e2 => .ok (.new (.dK qs.1 qs.2)) e2) fun x env' F' H' => ∀ v, RV g F' H' σ env' x v → Q v H', fun H' ⟨F, env, ks, xs, x, L, q⟩ => ⟨ps.length - (i + 1), by omega, F, env, ks, xs, x, L, rfl, hlt, q⟩, fun x H' y => ?_⟩
      refine ⟨subG g F H σ env, rfl, ?_⟩
      obtain ⟨F2, x2, S2, r2⟩ := w.ylds (subG g F H σ env) i ps[i] F H _ _ x H' rfl (List.getElem?_eq_getElem hlt) x1 Se y
      cases hu : u ps[i] (blkE vs env) with
      | none => simp only [hu] at go1; exact go1.elim
      | some e1 =>
        simp only [hu] at go1
        refine ⟨F2, _, ps[i], e1, S2, r2, hu, fun σ' S' ln ag => ?_⟩
        have hw : wipe σ' vs = wipe σ vs := wipe_agree (by rw [ln, wipe_length]) hj ag
        refine ⟨hw, F2, e1, S', ?_⟩
        cases ht : dtO dt e1 with
        | bad => simp only [ht] at go1; exact go1.elim
        | err y e' => simp only [ht] at go1; exact go1.elim
        | ok b e2 =>
          simp only [ht] at go1
          intro F3 H3 x3 S3
          cases b with
          | false =>
            obtain ⟨x4, L4⟩ := L.turn S3 hf hw
            exact ⟨F3, _, ks, xs, x1.trans x4, L4, Go.up go1 x4⟩
          | true =>
            refine ⟨F3, e2, S3, ?_⟩
            dsimp only at go1
            cases hd : dk e2 with
            | bad => simp only [hd] at go1; exact go1.elim
            | err y e' => simp only [hd] at go1; exact go1.elim
            | ok z e3 =>
              simp only [hd] at go1
              intro F4 H4 x4 S4 v rv
              cases hq : frz z e3 with
              | bad => simp only [hq] at go1; exact go1.elim
              | err y e' => simp only [hq] at go1; exact go1.elim
              | ok kp e4 =>
                simp only [hq] at go1
                obtain ⟨F5, x5, S5, r5⟩ := frz_ok S4 rv hq
                cases hk : keyP kp with
                | none => simp only [hk] at go1; exact go1.elim
                | some k =>
                  simp only [hk] at go1
                  obtain rfl := keyP_r r5 hk
                  refine ⟨F5, e4, S5, ?_⟩
                  cases hdv : dv e4 with
                  | bad => simp only [hdv] at go1; exact go1.elim
                  | err y e' => simp only [hdv] at go1; exact go1.elim
                  | ok z2 e5 =>
                    simp only [hdv] at go1
                    intro F6 H6 x6 S6 v2 rv2
                    cases hq2 : frz z2 e5 with
                    | bad => simp only [hq2] at go1; exact go1.elim
                    | err y e' => simp only [hq2] at go1; exact go1.elim
                    | ok q e6 =>
                      simp only [hq2] at go1
                      split at go1
                      · rename_i hlen
                        obtain ⟨F7, x7, S7, r7⟩ := frz_ok S6 rv2 hq2
                        obtain ⟨x8, L8⟩ := L.turn S7 hf hw
                        obtain ⟨kvs, c1, c2, c3⟩ := L8.cell
                        refine ⟨kvs, k, rfl, c1, ?_, F7, _, _, _, x1.trans x8, L8.put c1 r7, Go.up go1 x8⟩
                        rw [← c2, List.length_map] at hlen
                        rw [big_eq]; exact hlen
                      · exact go1.elim
    · exact go1.elim
  · left
    have e : i = ps.length := by omega
    subst e
    rw [List.drop_length] at go1
    unfold dcL at go1
    exact ⟨w.stops g F H σ env rfl x1 L.S, go1 F H (Ex.refl F) L.S _ L.done⟩
theorem tDc_of {vs js : List Nat} {di : Env' → Res (List PV)} {u : UG} {dt : Option (Env' → Res Bool)} {dk dv : Env' → Res Val} (hj : ∀ j ∈ js, j ∈ vs) {Q : VK} (h : tE g (dDc vs di u dt dk dv) σ H Q) :
    tDc (tI g di) (xG g.C u js) (xT g.C (dtO dt)) (xE g.C dk) (xE g.C dv) vs σ H Q := by
  obtain ⟨F, env, S, go⟩ := h
  refine ⟨F, env, S, (Go.bind go).mono fun ps e1 F1 H1 x1 S1 k J w => ?_⟩
  intro D hD
  obtain ⟨W, w0, turn⟩ := dc_turns hj S1 w k D hD
  refine ⟨W, w0, fun i m H hw => ?_⟩
  rcases turn i m H hw with z | ⟨go, Nx, hN, step⟩
  · exact .inl z
  · refine .inr ⟨go, Nx, hN, fun x H' y => ?_⟩
    obtain ⟨g', hC, q⟩ := step x H' y
    refine ⟨g', hC, tG_mono (fun σ2 H2 ⟨hw, q2⟩ => ⟨hw, g', hC, tT_mono (fun b H3 q3 => ?_) q2⟩) q⟩
    cases b with
    | false => exact q3
    | true => exact ⟨g', hC, tE_mono (fun y H4 q4 => ⟨g', hC, q4⟩) q3⟩
theorem se_dc {kx vx tg iter : Expr} {ifs : List Expr} {scope : Scope} {pos : Pos} {vs js : List Nat} {di : Env' → Res (List PV)} {u : UG} {dt : Option (Env' → Res Bool)} {dk dv : Env' → Res Val} (own : List (Str × Nat)) (ok : Ok X g) (hN : X.N.Nodup)
    (hi : PI X tg iter (tI g di)) (bk : BlkOk X.N X.env.scope scope own) (hv : own.map (·.2) = vs) (hj : ∀ j ∈ js, j ∈ vs)
    (hg : ∀ (s : Shared) (H : Hp) (C : Addr) (cl : List (Str × Addr)) (fp : List Addr) (g' : Gm), g'.C = g.C → Ok (X.blk s H scope (compEnvC scope cl C X.env) fp) g' → PG (X.blk s H scope (compEnvC scope cl C X.env) fp) tg (tG g' u js))
    (ht : ∀ (s : Shared) (H : Hp) (C : Addr) (cl : List (Str × Addr)) (fp : List Addr) (g' : Gm), g'.C = g.C → Ok (X.blk s H scope (compEnvC scope cl C X.env) fp) g' → PTs (X.blk s H scope (compEnvC scope cl C X.env) fp) ifs (tT g' (dtO dt)))
    (hk : ∀ (s : Shared) (H : Hp) (C : Addr) (cl : List (Str × Addr)) (fp : List Addr) (g' : Gm), g'.C = g.C → Ok (X.blk s H scope (compEnvC scope cl C X.env) fp) g' → PE (X.blk s H scope (compEnvC scope cl C X.env) fp) kx (tE g' dk))
    (he : ∀ (s : Shared) (H : Hp) (C : Addr) (cl : List (Str × Addr)) (fp : List Addr) (g' : Gm), g'.C = g.C → Ok (X.blk s H scope (compEnvC scope cl C X.env) fp) g' → PE (X.blk s H scope (compEnvC scope cl C X.env) fp) vx (tE g' dv))
    (hs : ∀ x, foldedSetIterable iter X.env x = pure x) : PE X (.DictComp kx vx [⟨tg, iter, ifs, 0⟩] scope pos) (tE g (dDc vs di u dt dk dv)) := by
  subst hv
  exact peImp (pe_dc ok.calm hN hi bk (fun s H C cl fp => xG_of fun g' hC => hg s H C cl fp g' hC (ok_blk ok hC)) (fun s H C cl fp => xT_of fun g' hC => ht s H C cl fp g' hC (ok_blk ok hC)) (fun s H C cl fp => xE_of fun g' hC => hk s H C cl fp g' hC (ok_blk ok hC)) (fun s H C cl fp => xE_of fun g' hC => he s H C cl fp g' hC (ok_blk ok hC)) hs) fun σ H Q h => tDc_of hj h
end
end VL

set_option maxRecDepth 100000
set_option maxHeartbeats 2000000
namespace VL
open PySem PySem.Spec L2
open PyProof.Rows hiding St
/-! ### a comprehension's clauses, one rule for each of them -/
/-- the code of one turn of a clause: rest is what is done with the item stored, and the next turn -/
def turnOf (it : Value) (env : Env) (p : Pos) (t : Expr) (rest : Sem PySem.Fin) : Sem PySem.Fin := do
  standAt p
  match ← pyNext it with
  | none => pure (.done .next)
  | some v =>
    letOwnedTupleGo t it v
    assign t env v
    rest
/-- the tests of a clause, then something, then the next turn -/
def restOf (cs : List Expr) (env : Env) (act : Sem Unit) (c : Code) : Sem PySem.Fin := do
  let mut ok := true
  for e in cs do
    if ok then ok ← isTrue e env (eval e env)
  if ok then
    act
  again c
section
variable {Y : Cx} {tg : Expr} {fp : List Addr} {it : Addr} {tn : Nat → Heap → Prop} {J : It} {g : TG} {pins : List (Addr × Obj)} {E : Expr} {l : Nat} {acc : Value} {p : Pos} {rest : Sem PySem.Fin} {R : Result → Shared → Prop} {σ : L2.St}
/-- what stands at the beginning of a turn -/
def AtTurn (Y : Cx) (pins : List (Addr × Obj)) (fp : List Addr) (tn : Nat → Heap → Prop) (σ : L2.St) (W : Nat → Nat → Hp → Prop) (m : Nat) (s : Shared) : Prop :=
  ∃ i H, Inv Y pins σ H s ∧ tn i s.heap ∧ (∀ b ∈ fp, H b = none) ∧ W i m H
/-- slots that know what σ knows -/
def Knows (σ τ : L2.St) : Prop := σ.length = τ.length ∧ ∀ (j : Nat) v, σ[j]? = some (some v) → τ[j]? = some (some v)
/-- ONE CLAUSE: the turns go by W, which falls; each turn's rest comes back to the clause's code with the next W -/
theorem one_clause (hx : ∀ e s, ¬ Y.xe e s) (hc : Y.calm = true) (T : Turn Y.prog Y.w Y.K tg J fp it tn) (pg : PG Y tg g) (hE : compTurn E l (.ref it) acc Y.env = turnOf (.ref it) Y.env p tg rest) (hl : (Code.compLoop E l (.ref it) acc Y.env).quiet = true)
    (hden : (model Y.prog Y.w).den (.compLoop E l (.ref it) acc Y.env) = (compTurn E l (.ref it) acc Y.env).onRaise (fun x => do noteFrame x Y.env; theTreesLotGoes x)) (hu : Y.A.under (.compLoop E l (.ref it) acc Y.env) = Y.A)
    {W : Nat → Nat → Hp → Prop} {Z : Hp → Prop} (hfp : ∀ {H : Hp} {s : Shared}, Inv Y pins σ H s → (∀ b ∈ fp, H b = none) → ∀ b ∈ fp, FpOk Y pins H b)
    (turn : ∀ i m H, W i m H → (J.stop i H ∧ Z H) ∨ (J.go i H ∧ ∃ Nx : Hp → Prop, (∀ H', Nx H' → ∃ m', m' < m ∧ W (i + 1) m' H') ∧ ∀ x H1, J.yld i H x H1 → ∃ Φ, g x σ H1 Φ ∧ ∀ σ2 H2, Φ σ2 H2 → ∀ (more : List (Addr × Obj)) (s : Shared), Inv Y (pins ++ more) σ2 H2 s →
      wpAny (model Y.prog Y.w) Y.A rest (fun f s' => f = .again (.compLoop E l (.ref it) acc Y.env) ∧ ∃ σ3 H3, Inv Y (pins ++ more) σ3 H3 s' ∧ Knows σ σ3 ∧ Nx H3) (fun _ _ => False) s))
    (out : ∀ H s, Inv Y pins σ H s → Z H → R (.ok .next) s) {m : Nat} {s : Shared} (h : AtTurn Y pins fp tn σ W m s) : codeAny (model Y.prog Y.w) Y.A (.compLoop E l (.ref it) acc Y.env) R s := by
  refine codeAny_loop hl (AtTurn Y pins fp tn σ W) (fun m s ⟨i, H, I, st, no, w⟩ => ?_) m h
  rw [hu, hden, hE]
  refine wpAny_noted (wpAny_bind (wpAny_standAt (wpAny_bind ?_)))
  cases turn i m H w with
  | inl q =>
    refine thnF (T.done Y rfl rfl rfl hc i pins s σ H _ I (hfp I no) st q.1) ?_
    rintro r s1 ⟨rfl, I1⟩
    exact wpAny_pure (out H s1 I1 q.2)
  | inr q =>
    obtain ⟨go, Nx, fall, step⟩ := q
    refine thnF (T.item Y rfl rfl rfl hc i pins s σ H _ I (hfp I no) st go) ?_
    rintro r s1 ⟨u, rfl, hu1⟩
    refine wpAny_bind (thnF hu1 ?_)
    rintro _ s2 ⟨x, H2, I2, ru, y2, st2, no2⟩
    have P2 := I2.pinned (hfp I2 no2) (T.obj _ _ st2)
    obtain ⟨Φ, hΦ, k⟩ := step x H2 y2
    refine wpAny_bind (wpAny_mono (pg.run _ s2 σ H2 x u _ P2 ru hΦ) ?_ fun e s' z => (hx e s' z).elim)
    rintro _ s3 ⟨σ3, H3, I3, kΦ⟩
    refine thnF (k σ3 H3 kΦ _ s3 I3) ?_
    rintro f s4 ⟨rfl, σ4, H4, I4, ⟨len, kn⟩, nx⟩
    obtain ⟨m', lt, w'⟩ := fall H4 nx
    have pin : ∀ b ∈ fp, ∀ o, s2.heap.get? b = some o → s4.heap.get? b = some o ∧ H4 b = none := fun b hb o e => by
      have z := I4.pin (b, o) (List.mem_append_right _ (List.mem_append_right _ (mem_pinsAt hb e)))
      exact ⟨z.1, z.2.1⟩
    refine ⟨rfl, m', lt, i + 1, H4, I4.unpinned.weak len kn, T.keep _ _ _ st2 fun b hb o e => (pin b hb o e).1, fun b hb => ?_, w'⟩
    obtain ⟨o, e, _⟩ := T.obj _ _ st2 b hb
    exact (pin b hb o e).2
/-- the rest of a turn: tests, then an act, then the next turn -/
theorem rest_ok {cs : List Expr} {tt : TT} {act : Sem Unit} {c : Code} {σ2 : L2.St} {H2 : Hp} {s : Shared} {P : PySem.Fin → Shared → Prop} (hx : ∀ e s, ¬ Y.xe e s) (pt : PTs Y cs tt) (I : Inv Y pins σ2 H2 s) {Φ : Bool → Hp → Prop} (ht : tt σ2 H2 Φ) (h : ∀ b H3, Φ b H3 → ∀ s', Inv Y pins σ2 H3 s' →
      if b = true then wpAny (model Y.prog Y.w) Y.A act (fun _ s'' => P (.again c) s'') (fun _ _ => False) s' else P (.again c) s') :
    wpAny (model Y.prog Y.w) Y.A (restOf cs Y.env act c) P (fun _ _ => False) s := by
  refine wpAny_bind (wpAny_mono (pt.run pins s σ2 H2 _ I ht) ?_ fun e s' z => (hx e s' z).elim)
  rintro b s1 ⟨H3, I3, q⟩
  have q := h b H3 q s1 I3
  cases b with
  | false =>
    rw [if_neg Bool.false_ne_true] at q
    exact wpAny_pure q
  | true =>
    rw [if_pos rfl] at q
    exact wpAny_bind (wpAny_mono q (fun _ _ z => wpAny_pure z) fun _ _ z => z)
end
/-! ### {k: v for t0 in i0 if .. for t1 in i1 if ..} -/
abbrev dc2X (kx vx t0 i0 t1 i1 : Expr) (c0 c1 : List Expr) (sc : Scope) (pos : Pos) : Expr := .DictComp kx vx [⟨t0, i0, c0, 0⟩, ⟨t1, i1, c1, 0⟩] sc pos
/-- the first clause's rest: tests, then the second clause is begun -/
def restOut (cs : List Expr) (E i1 : Expr) (acc : Value) (env : Env) (c : Code) : Sem PySem.Fin := do
  let mut ok := true
  for e in cs do
    if ok then ok ← isTrue e env (eval e env)
  if ok then
    let x ← eval i1 env
    standAt i1.pos
    let x ← foldedSetIterable i1 env x
    let _ ← runOwn (.compStart E 1 (← holding [x] (pyIter x)) acc env) env
  again c
/-- an entry is put in -/
def actIn (kx vx : Expr) (D : Addr) (env : Env) : Sem Unit := do
  let k ← eval kx env
  let v ← holding [k] (eval vx env)
  standAt { kx.pos with endLine := vx.pos.endLine, endCol := vx.pos.endCol }
  holding [k, v] (dictSet D k v)
section
variable {kx vx t0 i0 t1 i1 : Expr} {c0 c1 : List Expr} {sc : Scope} {pos : Pos} {it acc : Value} {env : Env} {D : Addr}
theorem turn_out : compTurn (dc2X kx vx t0 i0 t1 i1 c0 c1 sc pos) 0 it acc env = turnOf it env i0.pos t0 (restOut c0 (dc2X kx vx t0 i0 t1 i1 c0 c1 sc pos) i1 acc env (.compLoop (dc2X kx vx t0 i0 t1 i1 c0 c1 sc pos) 0 it acc env)) := by rfl
theorem turn_in : compTurn (dc2X kx vx t0 i0 t1 i1 c0 c1 sc pos) 1 it (.ref D) env = turnOf it env i1.pos t1 (restOf c1 env (actIn kx vx D env) (.compLoop (dc2X kx vx t0 i0 t1 i1 c0 c1 sc pos) 1 it (.ref D) env)) := by rfl
/-- the second clause's code, from its loop -/
theorem start_in {prog : Program} {w : World} {A : Around} {R : Result → Shared → Prop} {s : Shared} (h0 : codeAny (model prog w) A (.compLoop (dc2X kx vx t0 i0 t1 i1 c0 c1 sc pos) 1 it acc env) R s)
    (hi : ∀ (Q : Value → Shared → Prop) (E : Value → Shared → Prop), Q it s → wpAny (model prog w) A (pyIter it) Q E s) : codeAny (model prog w) A (.compStart (dc2X kx vx t0 i0 t1 i1 c0 c1 sc pos) 1 it acc env) R s := by
  refine codeAny_of_tree ?_
  show wpAny _ _ ((compStart (dc2X kx vx t0 i0 t1 i1 c0 c1 sc pos) 1 it acc env).onRaise fun x => do noteFrame x env; standAt theWindowsPlace) _ _ s
  refine wpAny_notedAt ?_
  unfold compStart
  refine wpAny_bind (m := ask) (wpAny_askSetting (wpAny_ite ?_))
  split
  · first | exact wpAny_pure ⟨rfl, h0⟩ | exact wpAny_bind (wpAny_pure (wpAny_pure ⟨rfl, h0⟩))
  · refine wpAny_bind (wpAny_rule ?_)
    show wpAny _ _ (standAt i1.pos >>= _) _ _ s
    exact wpAny_bind (wpAny_standAt (wpAny_bind (hi _ _ (wpAny_pure ⟨rfl, h0⟩))))
end
section
variable {Y : Cx} {E i1 : Expr} {acc : Value} {cs : List Expr} {tt : TT} {c : Code} {σ2 : L2.St} {H2 : Hp} {s : Shared} {P : PySem.Fin → Shared → Prop} {pins : List (Addr × Obj)} {tg1 : Expr} {wi1 : TI}
theorem restOut_ok (hx : ∀ e s, ¬ Y.xe e s) (pt : PTs Y cs tt) (pi : PI Y tg1 i1 wi1) (hs : ∀ x, foldedSetIterable i1 Y.env x = pure x) (I : Inv Y pins σ2 H2 s)
    {Φ : Bool → Hp → Prop} (ht : tt σ2 H2 Φ) (h : ∀ b H3, Φ b H3 → if b = true then ∃ Ψ, wi1 σ2 H3 Ψ ∧ ∀ J H4, Ψ J H4 → ∀ (it : Addr) (fp : List Addr) (tn : Nat → Heap → Prop) (s' : Shared), Inv Y pins σ2 H4 s' → Turn Y.prog Y.w Y.K tg1 J fp it tn → tn 0 s'.heap → (∀ b ∈ fp, FpOk Y pins H4 b) →
        codeAny (model Y.prog Y.w) Y.A (.compStart E 1 (.ref it) acc Y.env) (fun r s'' => (∃ f, r = .ok f) ∧ P (.again c) s'') s'
      else ∀ s', Inv Y pins σ2 H3 s' → P (.again c) s') :
    wpAny (model Y.prog Y.w) Y.A (restOut cs E i1 acc Y.env c) P (fun _ _ => False) s := by
  refine wpAny_bind (wpAny_mono (pt.run pins s σ2 H2 _ I ht) ?_ fun e s' z => (hx e s' z).elim)
  rintro b s1 ⟨H3, I3, q⟩
  have q := h b H3 q
  cases b with
  | false =>
    rw [if_neg Bool.false_ne_true] at q
    exact wpAny_pure (q s1 I3)
  | true =>
    rw [if_pos rfl] at q
    obtain ⟨Ψ, hΨ, k⟩ := q
    refine wpAny_bind (wpAny_mono (pi.run pins s1 σ2 H3 _ I3 hΨ) ?_ fun e s' z => (hx e s' z).elim)
    intro x s2 hit
    refine wpAny_bind (wpAny_standAt (wpAny_bind (wpAny_of_eq (hs x) (wpAny_bind (wpAny_holding (wpAny_mono hit ?_ fun e s' z => (hx e s' z).elim))))))
    rintro itv s3 ⟨it, fp, tn, J, H4, rfl, I4, T, st, f, kΨ⟩
    refine wpAny_bind (wpAny_runOwn ?_)
    rw [Around.mark_none]
    refine codeAny_mono (k J H4 kΨ it fp tn s3 I4 T st f) ?_
    rintro r s4 ⟨⟨f, rfl⟩, z⟩
    first | exact wpAny_pure z | exact wpAny_bind (wpAny_pure (wpAny_pure z))
end
/-- what a rule asks of a part of the block -/
abbrev InB (X : Cx) (sc : Scope) (P : Cx → Prop) : Prop := ∀ (s : Shared) (H : Hp) (C : Addr) (cl : List (Str × Addr)) (fp : List Addr), P (X.blk s H sc (compEnvC sc cl C X.env) fp)
section
variable {X : Cx}
/-- the readings: the first source's walk W, behind each store and test the second source's walk W1 -/
def tDc2 (wi : TI) (g : TG) (tt : TT) (wi1 : TI) (g1 : TG) (tt1 : TT) (tk tv : TE) (vs vs1 : List Nat) : TE := fun σ H Q => wi σ H fun J Ha => ∀ D, Ha D = none → ∃ W : Nat → Nat → Hp → Prop, (∃ m, W 0 m (upd Ha D (.dK []))) ∧ ∀ i m H, W i m H →
  (J.stop i H ∧ Q (.ref D) H) ∨ (J.go i H ∧ ∃ N : Hp → Prop, (∀ H', N H' → ∃ m', m' < m ∧ W (i + 1) m' H') ∧ ∀ x H', J.yld i H x H' → g x (wipe σ vs) H' fun τ Hb => wipe τ vs = wipe σ vs ∧ tt τ Hb fun b Hc =>
    if b = true then wi1 τ Hc fun J1 Hd => ∃ W1 : Nat → Nat → Hp → Prop, (∃ m, W1 0 m Hd) ∧ ∀ j k H, W1 j k H →
      (J1.stop j H ∧ N H) ∨ (J1.go j H ∧ ∃ N1 : Hp → Prop, (∀ H', N1 H' → ∃ k', k' < k ∧ W1 (j + 1) k' H') ∧ ∀ x H', J1.yld j H x H' → g1 x (wipe τ vs1) H' fun υ He => wipe υ vs1 = wipe τ vs1 ∧ tt1 υ He fun b Hf =>
        if b = true then tk υ Hf fun y Hg => tv υ Hg fun z Hh => ∃ kvs k, y = kV k ∧ Hh D = some (.dK kvs) ∧ kvs.length < sizeLine ∧ N1 (upd Hh D (.dK (putK kvs k z))) else N1 Hf)
    else N Hc)
theorem knows_wipe (σ : L2.St) (vs : List Nat) : Knows (wipe σ vs) σ := ⟨wipe_length _ _, fun j v e => (wipe_some e).1⟩
theorem knows_of {σ τ : L2.St} {vs : List Nat} (h : wipe τ vs = wipe σ vs) : Knows (wipe σ vs) τ := h ▸ knows_wipe τ vs
theorem knows_sub {σ τ : L2.St} {vs vs1 : List Nat} (hv : ∀ i ∈ vs1, i ∈ vs) (h : wipe τ vs = wipe σ vs) : Knows (wipe σ vs) (wipe τ vs1) := by
  refine ⟨?_, fun j v e => ?_⟩
  · rw [← h, wipe_length, wipe_length]
  · rw [← h] at e
    obtain ⟨e1, e2⟩ := wipe_some e
    rw [wipe_out fun z => e2 (hv j z)]
    exact e1
theorem Knows.trans {σ τ υ : L2.St} (h : Knows σ τ) (k : Knows τ υ) : Knows σ υ := ⟨h.1.trans k.1, fun j v e => k.2 j v (h.2 j v e)⟩
section
variable {pins : List (Addr × Obj)} {s : Shared} {σ : L2.St} {H : Hp} {kx vx tg iter tg1 iter1 : Expr} {ifs ifs1 : List Expr} {scope : Scope} {own : List (Str × Nat)} {vs1 : List Nat} {pos pos' : Pos} {wi wi1 : TI} {g g1 : TG} {tt tt1 : TT} {tk tv : TE}
/-- the block's frame, entered at s -/
abbrev blkEnv (X : Cx) (scope : Scope) (s : Shared) : Env := compEnvC scope (cellsFrom (s.heap.objs.size + 1) scope.names (cloFrom X.env.cells scope.names [])) s.heap.objs.size X.env
abbrev blkS (scope : Scope) (s : Shared) : Shared := { s with heap := pushCells (s.heap.push { cls := .type "dict", data := .dict #[] }) scope.names }
/-- both loops, from a state in which the new dict stands at D -/
theorem dc2_loops (hc : X.calm = true) (hN : X.N.Nodup) (I : Inv X pins σ H s) (ok : BlkOk X.N X.env.scope scope own) (hv : ∀ i ∈ vs1, i ∈ own.map (·.2)) (hg : InB X scope fun Y => PG Y tg g) (ht : InB X scope fun Y => PTs Y ifs tt)
    (hk : InB X scope fun Y => PE Y kx tk) (he : InB X scope fun Y => PE Y vx tv) (hi1 : InB X scope fun Y => PI Y tg1 iter1 wi1) (hg1 : InB X scope fun Y => PG Y tg1 g1) (ht1 : InB X scope fun Y => PTs Y ifs1 tt1) (hs1 : ∀ env x, foldedSetIterable iter1 env x = pure x)
    {it : Addr} {fp : List Addr} {tn : Nat → Heap → Prop} {J : It} (T : Turn X.prog X.w X.K tg J fp it tn) (st : tn 0 s.heap) (hf : ∀ b ∈ fp, FpOk X pins H b ∧ b < s.heap.objs.size) {D : Addr} {W : Nat → Nat → Hp → Prop} {Z : Hp → Prop} {m0 : Nat} (w0 : W 0 m0 H)
    (turn : ∀ i m H, W i m H → (J.stop i H ∧ Z H) ∨ (J.go i H ∧ ∃ N : Hp → Prop, (∀ H', N H' → ∃ m', m' < m ∧ W (i + 1) m' H') ∧ ∀ x H', J.yld i H x H' → g x (wipe σ (own.map (·.2))) H' fun τ Hb => wipe τ (own.map (·.2)) = wipe σ (own.map (·.2)) ∧ tt τ Hb fun b Hc =>
      if b = true then wi1 τ Hc fun J1 Hd => ∃ W1 : Nat → Nat → Hp → Prop, (∃ m, W1 0 m Hd) ∧ ∀ j k H, W1 j k H →
        (J1.stop j H ∧ N H) ∨ (J1.go j H ∧ ∃ N1 : Hp → Prop, (∀ H', N1 H' → ∃ k', k' < k ∧ W1 (j + 1) k' H') ∧ ∀ x H', J1.yld j H x H' → g1 x (wipe τ vs1) H' fun υ He => wipe υ vs1 = wipe τ vs1 ∧ tt1 υ He fun b Hf =>
          if b = true then tk υ Hf fun y Hg => tv υ Hg fun z Hh => ∃ kvs k, y = kV k ∧ Hh D = some (.dK kvs) ∧ kvs.length < sizeLine ∧ N1 (upd Hh D (.dK (putK kvs k z))) else N1 Hf)
      else N Hc))
    {R : Result → Shared → Prop} (out : ∀ s' m H', Inv X pins σ H' s' → Z H' → s'.heap.Ns s.heap.objs.size m → FpOk X pins H' s.heap.objs.size → R (.ok .next) s') :
    codeAny (model X.prog X.w) X.A (.compLoop (dc2X kx vx tg iter tg1 iter1 ifs ifs1 scope pos) 0 (.ref it) (.ref D) (blkEnv X scope s)) R (blkS scope s) := by
  have I4 := block_start I ok hN hf
  refine one_clause (Y := X.blk s H scope (blkEnv X scope s) fp) (pins := []) (σ := wipe σ (own.map (·.2))) (fun _ _ z => z) hc T (hg s H _ _ fp) turn_out rfl rfl rfl ?_ (W := W) (Z := Z) ?_ ?_
    ⟨0, H, I4, T.keep _ _ _ st fun b _ o e => pushCells_keeps _ _ _ _ (Heap.get?_push_of_some _ e), fun b hb => (hf b hb).1.1, w0⟩
  · intro H' s' I' no b hb
    exact ⟨no b hb, (I'.ok.exf b hb).1, I'.ok.exfs b hb, .inl hb, fun x c e => (I'.ok.exf b hb).2 x c e, fun p hp => absurd (show p ∈ ([] : List (Addr × Obj)) ++ [] from hp) (by simp)⟩
  · intro i m H5 w
    refine (turn i m H5 w).imp id ?_
    rintro ⟨go, N, fall, step⟩
    refine ⟨go, N, fall, fun x H6 y => ⟨_, step x H6 y, ?_⟩⟩
    rintro τ Hb ⟨hw, htt⟩ more s6 I6
    refine restOut_ok (fun _ _ z => z) (ht s H _ _ fp) (hi1 s H _ _ fp) (hs1 _) I6 htt ?_
    intro b Hc q
    cases b with
    | false => exact fun s7 I7 => ⟨rfl, τ, Hc, I7, knows_of hw, q⟩
    | true =>
      refine ⟨_, q, ?_⟩
      rintro J1 Hd ⟨W1, ⟨m1, w1⟩, turn1⟩ it1 fp1 tn1 s7 I7 T1 st1 f1
      refine start_in ?_ fun Q' E' hq => T1.self _ 0 _ _ _ st1 hq
      refine one_clause (Y := X.blk s H scope (blkEnv X scope s) fp) (pins := [] ++ more) (σ := wipe τ vs1) (fun _ _ z => z) hc T1 (hg1 s H _ _ fp) turn_in rfl rfl rfl (fun I' no b hb => ⟨no b hb, (f1 b hb).2⟩) (W := W1) (Z := N) ?_
        (fun H' s' I' z => ⟨⟨_, rfl⟩, rfl, wipe τ vs1, H', I', knows_sub hv hw, z⟩) ⟨0, Hd, I7.weak (wipe_length _ _) fun j v e => (wipe_some e).1, st1, fun b hb => (f1 b hb).1, w1⟩
      intro j k H8 w8
      refine (turn1 j k H8 w8).imp id ?_
      rintro ⟨go1, N1, fall1, step1⟩
      refine ⟨go1, N1, fall1, fun x1 H9 y1 => ⟨_, step1 x1 H9 y1, ?_⟩⟩
      rintro υ He ⟨hw1, htt1⟩ more1 s9 I9
      refine rest_ok (fun _ _ z => z) (ht1 s H _ _ fp) I9 htt1 ?_
      intro b Hf q1 s10 I10
      cases b with
      | false => exact ⟨rfl, υ, Hf, I10, knows_of hw1, q1⟩
      | true =>
        rw [if_pos rfl]
        rw [if_pos rfl] at q1
        refine wpAny_bind (wpAny_mono ((hk s H _ _ fp).run _ s10 υ Hf _ I10 q1) ?_ fun _ _ z => z.elim)
        rintro kv s11 ⟨yk, Hg, I11, rk, q2⟩
        refine wpAny_bind (wpAny_holding (wpAny_mono ((he s H _ _ fp).run _ s11 υ Hg _ I11 q2) ?_ fun _ _ z => z.elim))
        rintro vv s12 ⟨yv, Hh, I12, rv, kvs, ky, rfl, hD, hz, nx⟩
        exact wpAny_bind (wpAny_standAt (wpAny_holding (d_dictSet (X := X.blk s H scope (blkEnv X scope s) fp) I12 hD hz rk rv fun s13 I13 => ⟨rfl, υ, _, I13, knows_of hw1, nx⟩)))
  · intro H' s' I' z
    have Ix : Inv X pins σ H' s' := I.call' (ch := fp) I'.os I'.base I'.hok I'.bare fun b hb => ⟨(hf b hb).1.2.2.2.1, (hf b hb).1.2.1, (hf b hb).1.2.2.2.2.1, (hf b hb).1.2.2.2.2.2⟩
    have free : H' s.heap.objs.size = none := I'.free
    obtain ⟨m, hm, _⟩ := I'.loc
    exact out s' m H' Ix z hm (I.fpOk (Nat.le_refl _) free)
theorem dc2_core {Q : VK} {use : Option (Value → Sem Unit)} {Qf : Value → Shared → Prop} (hc : X.calm = true) (hN : X.N.Nodup) (I : Inv X pins σ H s) (hi : PI X tg iter wi) (ok : BlkOk X.N X.env.scope scope own) (hv : ∀ i ∈ vs1, i ∈ own.map (·.2)) (hg : InB X scope fun Y => PG Y tg g)
    (ht : InB X scope fun Y => PTs Y ifs tt) (hk : InB X scope fun Y => PE Y kx tk) (he : InB X scope fun Y => PE Y vx tv) (hs : ∀ x, foldedSetIterable iter X.env x = pure x) (hi1 : InB X scope fun Y => PI Y tg1 iter1 wi1) (hg1 : InB X scope fun Y => PG Y tg1 g1)
    (ht1 : InB X scope fun Y => PTs Y ifs1 tt1) (hs1 : ∀ env x, foldedSetIterable iter1 env x = pure x) (h : tDc2 wi g tt wi1 g1 tt1 tk tv (own.map (·.2)) vs1 σ H Q)
    (fin : ∀ D C s' m H', Inv X pins σ H' s' → Q (.ref D) H' → s'.heap.Ns C m → FpOk X pins H' C → compPost (model X.prog X.w) X.A X.xe use Qf (.ref D) C (.ok .next) s') :
    wpAny (model X.prog X.w) X.A (comprehension (dc2X kx vx tg iter tg1 iter1 ifs ifs1 scope pos) scope X.env pos' newDict false (eval iter X.env) use) Qf X.xe s := by
  have caps : ∀ y ∈ scope.names, y.2 = .free → ∃ c, X.env.cells.lookup y.1 = some c := fun y hy e => (ok.free y hy e).elim (fun k => I.ok.has _ (.inl k)) fun k => I.ok.has _ (.inr k)
  refine wpAny_comprehension_free (use := use) rfl hs (closure_ok caps) ok.kind (fun y hy e => by rw [ok.uniq y hy, e]) (thn (hi.run pins s σ H _ I h) fun _ s1 a => thn a ?_)
  rintro _ s2 ⟨it, fp, tn, J, H2, rfl, I2, T, st2, f2, q⟩
  refine wpAny_newObj_type (newEnv_comp ?_)
  obtain ⟨D, hD⟩ : ∃ D, D = s2.heap.objs.size := ⟨_, rfl⟩
  have dn : H2 D = none := I2.hok.fresh (Nat.le_of_eq hD.symm)
  obtain ⟨W, ⟨m0, w0⟩, turn⟩ := q D dn
  obtain ⟨s3, hs3⟩ : ∃ s3 : Shared, s3 = { s2 with heap := s2.heap.push { cls := .type "dict", data := .dict #[] } } := ⟨_, rfl⟩
  have keep : ∀ b o, s2.heap.get? b = some o → s3.heap.get? b = some o := fun b o e => by rw [hs3]; exact Heap.get?_push_of_some _ e
  have I3 : Inv X pins σ (upd H2 D (.dK [])) s3 := by
    rw [hs3, hD]
    exact I2.laid (t' := s2.toks) (fun b o e => Heap.get?_push_of_some _ e) (Nat.le_refl _) (dk_empty s2.heap I2.big)
  have lt : ∀ b ∈ fp, b < s2.heap.objs.size := fun b hb => let ⟨_, e, _⟩ := T.obj _ _ st2 b hb; Heap.lt_size e
  have f3 : ∀ b ∈ fp, FpOk X pins (upd H2 D (.dK [])) b ∧ b < s3.heap.objs.size := fun b hb => by
    have l := lt b hb
    refine ⟨⟨?_, (f2 b hb).2⟩, ?_⟩
    · rw [upd_ne (fun z => absurd l (by rw [z, hD]; exact Nat.lt_irrefl _))]
      exact (f2 b hb).1
    · rw [hs3, Heap.size_push]
      exact Nat.lt_succ_of_lt l
  have key := dc2_loops (pos := pos) (iter := iter) hc hN I3 ok hv hg ht hk he hi1 hg1 ht1 hs1 T (T.keep _ _ _ st2 fun b _ o e => keep b o e) f3 (D := D) (Z := fun H => Q (.ref D) H) w0 turn (R := compPost (model X.prog X.w) X.A X.xe use Qf (.ref D) s3.heap.objs.size) fun s' m H' I' z hn f => fin D _ s' m H' I' z hn f
  have st4 : tn 0 (blkS scope s3).heap := T.keep _ _ _ st2 fun b _ o e => pushCells_keeps _ _ _ _ (Heap.get?_push_of_some _ (keep b o e))
  have key2 := codeAny_compStart_dict key (T.self X.A 0 _ _ _ st4 key)
  rw [hs3] at key2
  rw [hD] at key2
  exact key2
/-- as a value -/
theorem pe_dc2 (hc : X.calm = true) (hN : X.N.Nodup) (hi : PI X tg iter wi) (ok : BlkOk X.N X.env.scope scope own) (hv : ∀ i ∈ vs1, i ∈ own.map (·.2)) (hg : InB X scope fun Y => PG Y tg g) (ht : InB X scope fun Y => PTs Y ifs tt) (hi1 : InB X scope fun Y => PI Y tg1 iter1 wi1)
    (hg1 : InB X scope fun Y => PG Y tg1 g1) (ht1 : InB X scope fun Y => PTs Y ifs1 tt1) (hk : InB X scope fun Y => PE Y kx tk) (he : InB X scope fun Y => PE Y vx tv) (hs : ∀ x, foldedSetIterable iter X.env x = pure x := by intro _; rfl) (hs1 : ∀ env x, foldedSetIterable iter1 env x = pure x := by intro _ _; rfl) :
    PE X (dc2X kx vx tg iter tg1 iter1 ifs ifs1 scope pos) (tDc2 wi g tt wi1 g1 tt1 tk tv (own.map (·.2)) vs1) := by
  refine ⟨fun pins s σ H Q I h => ?_⟩
  unfold dc2X
  rw [arm_eval_DictComp]
  refine dc2_core hc hN I hi ok hv hg ht hk he hs hi1 hg1 ht1 hs1 h ?_
  rintro D C s' m H' I' q hn ⟨f0, f1, f2, f3, f4, f5⟩
  exact ⟨m, hn, fun h2 sb => ⟨.ref D, H', I'.turned (t' := s'.toks) (fun b o hb e => (sb.2 b hb).trans e) f0 f1 f3 f4 f5, rfl, q⟩⟩
end
end
end VL

set_option maxRecDepth 100000
set_option maxHeartbeats 2000000
namespace VL
open PySem PySem.Spec L2
open PyProof.Rows hiding St
/-! ### comprehensions with two fors -/
/-- no container that the block itself has made -/
def lentB (e : Env') : Bool := e.all fun s => match s with
  | .ow true _ => false
  | _ => true
/-- an accumulating cell of ours -/
structure PrV (g : Gm) (F H : Hp) (σ : St) (env : Env') (D : Addr) (A : Hp → HO → Prop) : Prop where
  S : Stt g F H σ env
  cell : ∃ o, H D = some o ∧ A F o
  hF : F D = none
  h0 : g.H0 D = none
  hO : ¬ g.O D
  hn : ∀ (i : Nat) b q, env[i]? = some (.ow b q) → σ[i]? ≠ some (some (.ref D))
structure Acc (A : Hp → HO → Prop) : Prop where
  mono : ∀ F F' o, Ex F F' → A F o → A F' o
  pln : ∀ F o, A F o → Pln o
def aL (C : Ct) (acc : List PV) : Hp → HO → Prop := fun F o => ∃ vs, o = .lst vs ∧ Rs C F acc vs
def aD (C : Ct) (ks : List Key) (xs : List PV) : Hp → HO → Prop := fun F o => ∃ kvs, o = .dK kvs ∧ kvs.map Prod.fst = ks ∧ Rs C F xs (kvs.map Prod.snd)
theorem acc_l {C : Ct} {acc : List PV} : Acc (aL C acc) := ⟨fun F F' o x ⟨vs, e, r⟩ => ⟨vs, e, r.mono x.le⟩, fun F o ⟨vs, e, r⟩ => by subst e; exact ⟨fun _ z => (by cases z), fun _ z => (by cases z)⟩⟩
theorem acc_d {C : Ct} {ks : List Key} {xs : List PV} : Acc (aD C ks xs) := ⟨fun F F' o x ⟨vs, e, k, r⟩ => ⟨vs, e, k, r.mono x.le⟩, fun F o ⟨vs, e, k, r⟩ => by subst e; exact ⟨fun _ z => (by cases z), fun _ z => (by cases z)⟩⟩
section
variable {X : Cx} {g : Gm} {pins : List (Addr × Obj)} {F H F' H' F2 H2 F3 H3 : Hp} {σ σ2 σ3 : St} {env env' env2 b b3 : Env'} {s : Shared} {A A' : Hp → HO → Prop} {D : Addr} {vs vs1 : List Nat}
theorem lentB_no {i : Nat} {p : PV} (h : lentB env = true) : env[i]? ≠ some (.ow true p) := fun z => by
  unfold lentB at h
  have := List.all_eq_true.mp h _ (List.mem_of_getElem? z)
  cases this
theorem PrV.start (S : Stt g F H σ env) {o : HO} (hD : H D = none) (ha : A F o) : PrV g F (upd H D o) σ env D A := by
  obtain ⟨n1, n2, n3⟩ := S.new0 hD
  refine ⟨S.grow (ex_alloc hD), ⟨o, upd_same, ha⟩, n1, n2, n3, fun i b q e z => ?_⟩
  obtain ⟨a, e1, e2, _⟩ := S.ow i b q e
  rw [z] at e1; cases e1
  obtain ⟨o, ho⟩ := e2.cell
  rw [hD] at ho; cases ho
theorem PrV.noO (L : PrV g F H σ env D A) : ¬ (subG g F H σ env).O D := fun z => by
  obtain ⟨i, b, p, h1, h2⟩ := subG_O z
  exact L.hn i b p h1 h2
theorem PrV.turn (hA : Acc A) (L : PrV g F H σ env D A) (S2 : Stt (subG g F H σ env) F2 H2 σ2 env2) (hf : freeS vs env = true) (hσ : wipe σ2 vs = wipe σ vs) : Ex F F2 ∧ PrV g F2 H2 σ (outE vs env env2) D A := by
  obtain ⟨x, S'⟩ := L.S.leave S2 hf hσ
  obtain ⟨o, h1, h2⟩ := L.cell
  refine ⟨x, S', ⟨o, (S2.frame D _ h1 L.noO).eq (hA.pln _ _ h2).1, hA.mono _ _ _ x h2⟩, ?_, L.h0, L.hO, fun i b q e z => ?_⟩
  · cases q : F2 D with
    | none => rfl
    | some o =>
      rcases S2.fresh D o q with z | z
      · have z : F D = some o := z
        rw [L.hF] at z; cases z
      · have z : H D = none := z
        rw [h1] at z; cases z
  · obtain ⟨hl, e⟩ := outE_at e
    split at e
    · exact L.hn i b q (getD_at e.symm (by simp)) z
    · obtain ⟨p0, c, h1, h2⟩ := outS_ow e.symm
      exact L.hn i b p0 (getD_at h1 (by simp)) z
theorem PrV.put (hA : Acc A) {o u : HO} (L : PrV g F H σ env D A) (hD : H D = some u) (ha : A' F o) : PrV g F (upd H D o) σ env D A' := by
  obtain ⟨ws', h1, h2⟩ := L.cell
  rw [hD] at h1; cases h1
  exact ⟨L.S.poke hD (hA.pln _ _ h2) L.hF L.h0 L.hO L.hn, ⟨_, upd_same, ha⟩, L.hF, L.h0, L.hO, L.hn⟩
/-- the block's state on a new base -/
theorem Stt.rebase {F0 H0 : Hp} {env0 : Env'} (L : Stt g F H' σ env') (B : Stt (subG g F0 H0 σ env0) F H σ2 b) (hl : lentB b = true) (hH : ∀ a, a ≠ D → H' a = H a) (hn : ∀ (i : Nat) c q, env0[i]? = some (.ow c q) → σ[i]? ≠ some (some (.ref D)))
    (hE : ∀ (i : Nat) c q d r, b[i]? = some (.ow c q) → env0[i]? = some (.ow d r) → ∃ d r, env'[i]? = some (.ow d r)) : Stt (subG g F H' σ env') F H' σ2 b where
  len := B.len
  frame := fun b o q _ => .inl q
  live := fun b hb => by
    obtain ⟨i, f, p, h1, h2⟩ := subG_O hb
    obtain ⟨a, e1, e2, _⟩ := L.ow i f p h1
    rw [h2] at e1; cases e1
    exact e2.cell
  ext := Ex.refl F
  fresh := fun b o q => .inl q
  sub := L.sub
  fz := B.fz
  ow := fun i c p q => by
    obtain ⟨a, h1, h2, h3, h4⟩ := B.ow i c p q
    cases c with
    | true => exact (lentB_no hl q).elim
    | false =>
      rw [if_neg Bool.false_ne_true] at h4
      have ho : ∃ (d : Bool) (r : PV), env0[i]? = some (.ow d r) ∧ σ[i]? = some (some (.ref a)) := by
        unfold subG at h4
        dsimp only at h4
        split at h4
        · rename_i d r a' k1 k2
          cases h4
          exact ⟨d, r, k1, k2⟩
        · cases h4
      obtain ⟨d, r, k1, k2⟩ := ho
      have ne : a ≠ D := fun z => hn i d r k1 (z ▸ k2)
      obtain ⟨d', r', k3⟩ := hE i _ _ _ _ q k1
      refine ⟨a, h1, h2.mono (Ex.refl F).le (hH a ne), h3, ?_⟩
      rw [if_neg Bool.false_ne_true]
      show (match env'[i]?, σ[i]? with | some (.ow _ _), some (some (.ref a)) => some a | _, _ => none) = some a
      rw [k3, k2]
  inj := B.inj
  tab := L.tab
theorem outE_ow {i : Nat} {c d : Bool} {q r : PV} (hf : freeS vs env = true) (h2 : b[i]? = some (.ow c q)) (h1 : env[i]? = some (.ow d r)) : (outE vs env b)[i]? = some (.ow d q) := by
  have hl : i < env.length := by
    rcases Nat.lt_or_ge i env.length with z | z
    · exact z
    · rw [List.getElem?_eq_none z] at h1; cases h1
  unfold outE
  rw [List.getElem?_map, List.getElem?_range hl]
  have ni : i ∉ vs := fun z => freeS_no hf z h1
  simp only [Option.map_some, if_neg ni, List.getD_eq_getElem?_getD, h1, h2, Option.getD_some, outS]
theorem outE_in {i : Nat} {x : Sl} (hi : i ∈ vs) (h : (outE vs env b)[i]? = some x) : env[i]? = some x ∨ x = .no := by
  obtain ⟨hl, e⟩ := outE_at h
  rw [if_pos hi] at e
  by_cases hx : x = .no
  · exact .inr hx
  · exact .inl (getD_at e.symm hx)
theorem freeS_out (hf : freeS vs env = true) : freeS vs (outE vs env b) = true := by
  unfold freeS
  refine List.all_eq_true.mpr fun i hi => ?_
  cases q : (outE vs env b)[i]? with
  | none => rfl
  | some x =>
    cases x with
    | ow c p =>
      rcases outE_in hi q with z | z
      · exact (freeS_no hf hi z).elim
      · cases z
    | _ => rfl
theorem lentB_out (h1 : lentB b = true) (h2 : lentB b3 = true) : lentB (outE vs1 b b3) = true := by
  unfold lentB
  refine List.all_eq_true.mpr fun x hx => ?_
  obtain ⟨i, hi⟩ := List.getElem?_of_mem hx
  cases x with
  | ow c p =>
    cases c with
    | false => rfl
    | true =>
      obtain ⟨hl, e⟩ := outE_at hi
      split at e
      · exact (lentB_no h1 (getD_at e.symm (by simp))).elim
      · obtain ⟨p0, c, k1, k2⟩ := outS_ow e.symm
        exact (lentB_no h1 (getD_at k1 (by simp))).elim
  | _ => rfl
/-- names of the block forgotten -/
theorem Stt.wiped (S : Stt g F H σ env) (vs : List Nat) : Stt g F H (wipe σ vs) (wipeE env vs) := by
  have at1 : ∀ {i : Nat} {x : Sl}, (wipeE env vs)[i]? = some x → x ≠ .no → i ∉ vs ∧ env[i]? = some x := fun {i x} h hx => by
    by_cases hi : i ∈ vs
    · rcases wipeE_out (e := env) hi with z | z
      · rw [z] at h; cases h
      · rw [z] at h; cases h; exact (hx rfl).elim
    · rcases wipeE_in h with z | z
      · exact (hx z).elim
      · exact ⟨hi, z⟩
  refine ⟨by rw [wipe_length, wipeE_len, S.len], S.frame, S.live, S.ext, S.fresh, S.sub, fun i p q => ?_, fun i c p q => ?_, fun i j c d p q a hi hj e1 e2 => ?_, S.tab⟩
  · obtain ⟨ni, q⟩ := at1 q (by simp)
    rw [wipe_out ni]; exact S.fz i p q
  · obtain ⟨ni, q⟩ := at1 q (by simp)
    rw [wipe_out ni]; exact S.ow i c p q
  · obtain ⟨ni, hi⟩ := at1 hi (by simp)
    obtain ⟨nj, hj⟩ := at1 hj (by simp)
    rw [wipe_out ni] at e1
    rw [wipe_out nj] at e2
    exact S.inj i j c d p q a hi hj e1 e2
theorem Stt.back (S : Stt g F H σ2 b) (S3 : Stt g F3 H3 σ3 b3) (x : Ex F F3) (hw : wipe σ3 vs1 = wipe σ2 vs1) (hf : freeS vs1 b = true) (hl : lentB b = true) (hl3 : lentB b3 = true) : Stt g F3 H3 σ2 (outE vs1 b b3) := by
  have hat : ∀ {i : Nat}, i ∉ vs1 → σ3[i]? = σ2[i]? := fun {i} hi => by rw [← wipe_out (σ := σ3) hi, ← wipe_out (σ := σ2) hi, hw]
  refine ⟨by simp [outE, S.len], S3.frame, S3.live, S3.ext, S3.fresh, S3.sub, fun i p q => ?_, fun i c p q => ?_, fun i j c d p q a hi hj e1 e2 => ?_, S3.tab⟩
  · obtain ⟨hl, e⟩ := outE_at q
    split at e
    · obtain ⟨v, h1, h2⟩ := S.fz i p (getD_at e.symm (by simp))
      exact ⟨v, h1, h2.mono x.le⟩
    · rename_i ni
      obtain ⟨v, h1, h2⟩ := S3.fz i p (getD_at (outS_fz e.symm) (by simp))
      exact ⟨v, by rw [← hat ni]; exact h1, h2⟩
  · obtain ⟨_, e⟩ := outE_at q
    split at e
    · rename_i hi
      exact (freeS_no hf hi (getD_at e.symm (by simp))).elim
    · rename_i ni
      obtain ⟨p0, c', h1, h2⟩ := outS_ow e.symm
      have h1 := getD_at h1 (by simp)
      have h2 := getD_at h2 (by simp)
      cases c with
      | true => exact (lentB_no hl h1).elim
      | false =>
        cases c' with
        | true => exact (lentB_no hl3 h2).elim
        | false =>
          obtain ⟨a, e1, e2⟩ := S3.ow i false p h2
          exact ⟨a, by rw [← hat ni]; exact e1, e2⟩
  · obtain ⟨_, x1⟩ := outE_at hi
    obtain ⟨_, x2⟩ := outE_at hj
    split at x1
    · rename_i hi
      exact (freeS_no hf hi (getD_at x1.symm (by simp))).elim
    · split at x2
      · rename_i hj
        exact (freeS_no hf hj (getD_at x2.symm (by simp))).elim
      · rename_i ni nj
        obtain ⟨_, _, _, h1⟩ := outS_ow x1.symm
        obtain ⟨_, _, _, h2⟩ := outS_ow x2.symm
        exact S3.inj i j _ _ _ _ a (getD_at h1 (by simp)) (getD_at h2 (by simp)) (by rw [hat ni]; exact e1) (by rw [hat nj]; exact e2)
/-- within the inner loop -/
structure InS (g : Gm) (F H : Hp) (σ : St) (env : Env') (D : Addr) (A : Hp → HO → Prop) (vs : List Nat) (σ2 : St) (b : Env') : Prop where
  L : PrV g F H σ env D A
  B : Stt (subG g F H σ env) F H σ2 b
  hf : freeS vs env = true
  hσ : wipe σ2 vs = wipe σ vs
  hl : lentB b = true
theorem InS.start (hA : Acc A) (L : PrV g F H σ env D A) (S2 : Stt (subG g F H σ env) F2 H2 σ2 b) (hf : freeS vs env = true) (hσ : wipe σ2 vs = wipe σ vs) (hl : lentB b = true) : Ex F F2 ∧ InS g F2 H2 σ (outE vs env b) D A vs σ2 b := by
  obtain ⟨x, L2⟩ := L.turn hA S2 hf hσ
  exact ⟨x, L2, L2.S.rebase (D := D) S2 hl (fun a _ => rfl) L.hn (fun i c q d r h1 h2 => ⟨_, _, outE_ow hf h1 h2⟩), freeS_out hf, hσ, hl⟩
theorem InS.step (hA : Acc A) (I : InS g F H σ env D A vs σ2 b) (S3 : Stt (subG g F H σ env) F3 H3 σ3 b3) (x : Ex F F3) (hw : wipe σ3 vs1 = wipe σ2 vs1) (hf1 : freeS vs1 b = true) (hl3 : lentB b3 = true) :
    InS g F3 H3 σ (outE vs env (outE vs1 b b3)) D A vs σ2 (outE vs1 b b3) := (InS.start hA I.L (I.B.back S3 x hw hf1 I.hl hl3) I.hf I.hσ (lentB_out I.hl hl3)).2
theorem InS.put (hA : Acc A) {o u : HO} (I : InS g F H σ env D A vs σ2 b) (hD : H D = some u) (ha : A' F o) : InS g F (upd H D o) σ env D A' vs σ2 b :=
  have L := I.L.put (o := o) hA hD ha
  ⟨L, L.S.rebase (D := D) I.B I.hl (fun a ne => upd_ne ne) I.L.hn (fun i c q d r h1 h2 => ⟨_, _, h2⟩), I.hf, I.hσ, I.hl⟩
end
end VL

set_option maxRecDepth 100000
set_option maxHeartbeats 2000000
namespace VL
open PySem PySem.Spec L2
open PyProof.Rows hiding St
/-! ### {k: v for t in i if c for t1 in i1 if c1} -/
def dcIn (vs vs1 : List Nat) (u1 : UG) (dt1 : Option (Env' → Res Bool)) (dk dv : Env' → Res Val) : List PV → List Key → List PV → Env' → Env' → Option ((List Key × List PV) × Env' × Env')
  | [], ks, xs, e, b => some ((ks, xs), e, b)
  | p :: ps, ks, xs, e, b => if freeS vs1 b = true then match u1 p (wipeE b vs1) with
    | none => none
    | some e1 => match dtO dt1 e1 with
      | .ok false e2 => if lentB e2 = true then dcIn vs vs1 u1 dt1 dk dv ps ks xs (outE vs e (outE vs1 b e2)) (outE vs1 b e2) else none
      | .ok true e2 => match dk e2 with
        | .ok kx e3 => match frz kx e3 with
          | .ok kp e4 => match keyP kp with
            | some k => match dv e4 with
              | .ok x e5 => match frz x e5 with
                | .ok q e6 => if lentB e6 = true ∧ ks.length < big then dcIn vs vs1 u1 dt1 dk dv ps (putP ks xs k q).1 (putP ks xs k q).2 (outE vs e (outE vs1 b e6)) (outE vs1 b e6) else none
                | _ => none
              | _ => none
            | none => none
          | _ => none
        | _ => none
      | _ => none
    else none
def dcOut (vs vs1 : List Nat) (u : UG) (dt : Option (Env' → Res Bool)) (di1 : Env' → Res (List PV)) (u1 : UG) (dt1 : Option (Env' → Res Bool)) (dk dv : Env' → Res Val) : List PV → List Key → List PV → Env' → Res (List Key × List PV)
  | [], ks, xs, e => .ok (ks, xs) e
  | p :: ps, ks, xs, e => if freeS vs e = true then match u p (blkE vs e) with
    | none => .bad
    | some e1 => match dtO dt e1 with
      | .ok false e2 => dcOut vs vs1 u dt di1 u1 dt1 dk dv ps ks xs (outE vs e e2)
      | .ok true e2 => match di1 e2 with
        | .ok ps1 e3 => if lentB e3 = true then match dcIn vs vs1 u1 dt1 dk dv ps1 ks xs (outE vs e e3) e3 with
            | some (kx, e', _) => dcOut vs vs1 u dt di1 u1 dt1 dk dv ps kx.1 kx.2 e'
            | none => .bad
          else .bad
        | _ => .bad
      | _ => .bad
    else .bad
def dDc2 (vs vs1 : List Nat) (di : Env' → Res (List PV)) (u : UG) (dt : Option (Env' → Res Bool)) (di1 : Env' → Res (List PV)) (u1 : UG) (dt1 : Option (Env' → Res Bool)) (dk dv : Env' → Res Val) : Env' → Res Val :=
  fun e => (di e).bind fun ps e1 => (dcOut vs vs1 u dt di1 u1 dt1 dk dv ps [] [] e1).bind fun qs e2 => .ok (.new (.dK qs.1 qs.2)) e2
def xI (C : Ct) (di : Env' → Res (List PV)) : TI := fun σ H Rr => ∃ g' : Gm, g'.C = C ∧ tI g' di σ H Rr
section
variable {X : Cx} {g : Gm} {pins : List (Addr × Obj)} {F H F' H' F2 H2 F3 H3 : Hp} {σ σ2 σ3 : St} {env env' env2 b b' b3 : Env'} {s : Shared} {D : Addr} {vs vs1 js js1 : List Nat}
theorem xI_of {C : Ct} {t e : Expr} {d : Env' → Res (List PV)} (h : ∀ g' : Gm, g'.C = C → PI X t e (tI g' d)) : PI X t e (xI C d) := ⟨fun pins s σ H Q I ⟨g', hc, q⟩ => (h g' hc).run pins s σ H Q I q⟩
theorem aD_put {F : Hp} {C : Ct} {ks : List Key} {xs : List PV} {kvs : List (Key × V)} {k : Key} {y : V} {q : PV} (hk : kvs.map Prod.fst = ks) (r : Rs C F xs (kvs.map Prod.snd)) (rq : R C F q y) : aD C (putP ks xs k q).1 (putP ks xs k q).2 F (.dK (putK kvs k y)) := by
  obtain ⟨z1, z2⟩ := putP_r (k := k) r rq
  subst hk
  exact ⟨_, rfl, z1, z2⟩
theorem dc_in {u1 : UG} {dt1 : Option (Env' → Res Bool)} {dk dv : Env' → Res Val} {J : It} {ps : List PV} {ks ks' : List Key} {xs xs' : List PV} {Nx : Hp → Prop} (hj : ∀ j ∈ js1, j ∈ vs1)
    (I : InS g F2 H2 σ env D (aD g.C ks xs) vs σ2 b) (w : WalkP g.C J F2 ps) (hin : dcIn vs vs1 u1 dt1 dk dv ps ks xs env b = some ((ks', xs'), env', b')) (nx : ∀ F H, Ex F2 F → PrV g F H σ env' D (aD g.C ks' xs') → Nx H) :
    ∃ W1 : Nat → Nat → Hp → Prop, (∃ m, W1 0 m H2) ∧ ∀ j k H, W1 j k H →
      (J.stop j H ∧ Nx H) ∨ (J.go j H ∧ ∃ Nx1 : Hp → Prop, (∀ H', Nx1 H' → ∃ k', k' < k ∧ W1 (j + 1) k' H') ∧ ∀ x H', J.yld j H x H' → xG g.C u1 js1 x (wipe σ2 vs1) H' fun σ3 H5 => wipe σ3 vs1 = wipe σ2 vs1 ∧ xT g.C (dtO dt1) σ3 H5 fun b H6 =>
        if b = true then xE g.C dk σ3 H6 fun y H7 => xE g.C dv σ3 H7 fun z H8 => ∃ kvs k, y = kV k ∧ H8 D = some (.dK kvs) ∧ kvs.length < sizeLine ∧ Nx1 (upd H8 D (.dK (putK kvs k z))) else Nx1 H6) := by
  refine ⟨fun i m H => ∃ F env b ks xs, Ex F2 F ∧ InS g F H σ env D (aD g.C ks xs) vs σ2 b ∧ m = ps.length - i ∧ i ≤ ps.length ∧ dcIn vs vs1 u1 dt1 dk dv (ps.drop i) ks xs env b = some ((ks', xs'), env', b'), ⟨ps.length, F2, env, b, ks, xs, Ex.refl F2, I, by omega, Nat.zero_le _, by rw [List.drop_zero]; exact hin⟩, ?_⟩
  rintro i m H ⟨F, env, b, ks, xs, x1, I, rfl, hle, go1⟩
  by_cases hlt : i < ps.length
  · right
    have hd : ps.drop i = ps[i] :: ps.drop (i + 1) := List.drop_eq_getElem_cons hlt
    rw [hd] at go1
    unfold dcIn at go1
    split at go1
    · rename_i hf
      have Sw := I.B.wiped vs1
      refine ⟨w.goes (subG g F H σ env) i F H _ _ rfl hlt x1 Sw, fun H' => ∃ F env b ks xs, Ex F2 F ∧ InS g F H' σ env D (aD g.C ks xs) vs σ2 b ∧ dcIn vs vs1 u1 dt1 dk dv (ps.drop (i + 1)) ks xs env b = some ((ks', xs'), env', b'), fun H' ⟨F, env, b, ks, xs, x, I, q⟩ => ⟨ps.length - (i + 1), by omega, F, env, b, ks, xs, x, I, rfl, hlt, q⟩, fun x H' y => ?_⟩
      obtain ⟨F3, x3, S3, r3⟩ := w.ylds (subG g F H σ env) i ps[i] F H _ _ x H' rfl (List.getElem?_eq_getElem hlt) x1 Sw y
      cases hu : u1 ps[i] (wipeE b vs1) with
      | none => simp only [hu] at go1; cases go1
      | some e1 =>
        simp only [hu] at go1
        refine ⟨subG g F H σ env, rfl, F3, _, ps[i], e1, S3, r3, hu, fun σ' S' ln ag => ?_⟩
        have hw : wipe σ' vs1 = wipe σ2 vs1 := wipe_agree (by rw [ln, wipe_length]) hj ag
        refine ⟨hw, subG g F H σ env, rfl, F3, e1, S', ?_⟩
        cases ht : dtO dt1 e1 with
        | bad => simp only [ht] at go1; cases go1
        | err y e' => simp only [ht] at go1; cases go1
        | ok bb e2 =>
          simp only [ht] at go1
          intro F4 H4 x4 S4
          cases bb with
          | false =>
            dsimp only at go1
            split at go1
            · rename_i hl3
              rw [if_neg Bool.false_ne_true]
              exact ⟨F4, _, _, ks, xs, x1.trans (x3.trans x4), I.step acc_d S4 (x3.trans x4) hw hf hl3, go1⟩
            · cases go1
          | true =>
            rw [if_pos rfl]
            refine ⟨subG g F H σ env, rfl, F4, e2, S4, ?_⟩
            dsimp only at go1
            cases hd : dk e2 with
            | bad => simp only [hd] at go1; cases go1
            | err y e' => simp only [hd] at go1; cases go1
            | ok z e3 =>
              simp only [hd] at go1
              intro F5 H5 x5 S5 v rv
              cases hq : frz z e3 with
              | bad => simp only [hq] at go1; cases go1
              | err y e' => simp only [hq] at go1; cases go1
              | ok kp e4 =>
                simp only [hq] at go1
                obtain ⟨F6, x6, S6, r6⟩ := frz_ok S5 rv hq
                cases hk : keyP kp with
                | none => simp only [hk] at go1; cases go1
                | some k =>
                  simp only [hk] at go1
                  obtain rfl := keyP_r r6 hk
                  refine ⟨subG g F H σ env, rfl, F6, e4, S6, ?_⟩
                  cases hdv : dv e4 with
                  | bad => simp only [hdv] at go1; cases go1
                  | err y e' => simp only [hdv] at go1; cases go1
                  | ok z2 e5 =>
                    simp only [hdv] at go1
                    intro F7 H7 x7 S7 v2 rv2
                    cases hq2 : frz z2 e5 with
                    | bad => simp only [hq2] at go1; cases go1
                    | err y e' => simp only [hq2] at go1; cases go1
                    | ok q e6 =>
                      simp only [hq2] at go1
                      split at go1
                      · rename_i hc
                        obtain ⟨F8, x8, S8, r8⟩ := frz_ok S7 rv2 hq2
                        have xx : Ex F F8 := x3.trans (x4.trans (x5.trans (x6.trans (x7.trans x8))))
                        have I8 := I.step acc_d S8 xx hw hf hc.1
                        obtain ⟨o, c1, kvs, rfl, c2, c3⟩ := I8.L.cell
                        refine ⟨kvs, k, rfl, c1, ?_, F8, _, _, _, _, x1.trans xx, I8.put acc_d c1 (aD_put c2 c3 r8), go1⟩
                        have hlen := hc.2
                        rw [← c2, List.length_map] at hlen
                        rw [big_eq]; exact hlen
                      · cases go1
    · cases go1
  · left
    have e : i = ps.length := by omega
    subst e
    rw [List.drop_length] at go1
    unfold dcIn at go1
    cases go1
    exact ⟨w.stops (subG g F H σ env') F H _ _ rfl x1 I.B, nx F H x1 I.L⟩
theorem dc2_turns {u : UG} {dt : Option (Env' → Res Bool)} {di1 : Env' → Res (List PV)} {u1 : UG} {dt1 : Option (Env' → Res Bool)} {dk dv : Env' → Res Val} {J : It} {ps : List PV} {F1 H1 : Hp} {env1 : Env'} {Q : VK} (hj : ∀ j ∈ js, j ∈ vs) (hj1 : ∀ j ∈ js1, j ∈ vs1)
    (S1 : Stt g F1 H1 σ env1) (w : WalkP g.C J F1 ps) (go : Go g F1 σ ((dcOut vs vs1 u dt di1 u1 dt1 dk dv ps [] [] env1).bind fun qs e2 => .ok (.new (.dK qs.1 qs.2)) e2) fun x env' F' H' => ∀ v, RV g F' H' σ env' x v → Q v H') :
    ∀ D, H1 D = none → ∃ W : Nat → Nat → Hp → Prop, (∃ m, W 0 m (upd H1 D (.dK []))) ∧ ∀ i m H, W i m H →
      (J.stop i H ∧ Q (.ref D) H) ∨ (J.go i H ∧ ∃ Nx : Hp → Prop, (∀ H', Nx H' → ∃ m', m' < m ∧ W (i + 1) m' H') ∧ ∀ x H', J.yld i H x H' → xG g.C u js x (wipe σ vs) H' fun σ2 H2 => wipe σ2 vs = wipe σ vs ∧ xT g.C (dtO dt) σ2 H2 fun b H3 =>
        if b = true then xI g.C di1 σ2 H3 fun J1 H4 => ∃ W1 : Nat → Nat → Hp → Prop, (∃ m, W1 0 m H4) ∧ ∀ j k H, W1 j k H →
          (J1.stop j H ∧ Nx H) ∨ (J1.go j H ∧ ∃ Nx1 : Hp → Prop, (∀ H', Nx1 H' → ∃ k', k' < k ∧ W1 (j + 1) k' H') ∧ ∀ x H', J1.yld j H x H' → xG g.C u1 js1 x (wipe σ2 vs1) H' fun σ3 H5 => wipe σ3 vs1 = wipe σ2 vs1 ∧ xT g.C (dtO dt1) σ3 H5 fun b H6 =>
            if b = true then xE g.C dk σ3 H6 fun y H7 => xE g.C dv σ3 H7 fun z H8 => ∃ kvs k, y = kV k ∧ H8 D = some (.dK kvs) ∧ kvs.length < sizeLine ∧ Nx1 (upd H8 D (.dK (putK kvs k z))) else Nx1 H6)
        else Nx H3) := by
  intro D hD
  refine ⟨fun i m H => ∃ F env ks xs, Ex F1 F ∧ PrV g F H σ env D (aD g.C ks xs) ∧ m = ps.length - i ∧ i ≤ ps.length ∧ Go g F σ ((dcOut vs vs1 u dt di1 u1 dt1 dk dv (ps.drop i) ks xs env).bind fun qs e2 => .ok (.new (.dK qs.1 qs.2)) e2) fun x env' F' H' => ∀ v, RV g F' H' σ env' x v → Q v H',
    ⟨ps.length, F1, env1, [], [], Ex.refl F1, PrV.start S1 hD ⟨[], rfl, rfl, Rs.nil⟩, by omega, Nat.zero_le _, by rw [List.drop_zero]; exact go⟩, ?_⟩
  rintro i m H ⟨F, env, ks, xs, x1, L, rfl, hle, go1⟩
  by_cases hlt : i < ps.length
  · right
    have hd : ps.drop i = ps[i] :: ps.drop (i + 1) := List.drop_eq_getElem_cons hlt
    rw [hd] at go1
    unfold dcOut at go1
    split at go1
    · rename_i hf
      have Se := L.S.enter vs
      refine ⟨w.goes (subG g F H σ env) i F H _ _ rfl hlt x1 Se, fun H' => ∃ F env ks xs, Ex F1 F ∧ PrV g F H' σ env D (aD g.C ks xs) ∧ Go g F σ ((dcOut vs vs1 u dt di1 u1 dt1 dk dv (ps.drop (i + 1)) ks xs env).bind fun qs e2 => .ok (.new (.dK qs.1 qs.2)) e2) fun x env' F' H' => ∀ v, RV g F' H' σ env' x v → Q v H', fun H' ⟨F, env, ks, xs, x, L, q⟩ => ⟨ps.length - (i + 1), by omega, F, env, ks, xs, x, L, rfl, hlt, q⟩, fun x H' y => ?_⟩
      obtain ⟨F2, x2, S2, r2⟩ := w.ylds (subG g F H σ env) i ps[i] F H _ _ x H' rfl (List.getElem?_eq_getElem hlt) x1 Se y
      cases hu : u ps[i] (blkE vs env) with
      | none => simp only [hu] at go1; exact go1.elim
      | some e1 =>
        simp only [hu] at go1
        refine ⟨subG g F H σ env, rfl, F2, _, ps[i], e1, S2, r2, hu, fun σ' S' ln ag => ?_⟩
        have hw : wipe σ' vs = wipe σ vs := wipe_agree (by rw [ln, wipe_length]) hj ag
        refine ⟨hw, subG g F H σ env, rfl, F2, e1, S', ?_⟩
        cases ht : dtO dt e1 with
        | bad => simp only [ht] at go1; exact go1.elim
        | err y e' => simp only [ht] at go1; exact go1.elim
        | ok bb e2 =>
          simp only [ht] at go1
          intro F3 H3 x3 S3
          cases bb with
          | false =>
            rw [if_neg Bool.false_ne_true]
            obtain ⟨x4, L4⟩ := L.turn acc_d S3 hf hw
            exact ⟨F3, _, ks, xs, x1.trans x4, L4, Go.up go1 x4⟩
          | true =>
            rw [if_pos rfl]
            refine ⟨subG g F H σ env, rfl, F3, e2, S3, ?_⟩
            dsimp only at go1
            cases hd : di1 e2 with
            | bad => simp only [hd] at go1; exact go1.elim
            | err y e' => simp only [hd] at go1; exact go1.elim
            | ok ps1 e3 =>
              simp only [hd] at go1
              intro F4 H4 x4 S4 J1 w1
              split at go1
              · rename_i hl3
                cases hin : dcIn vs vs1 u1 dt1 dk dv ps1 ks xs (outE vs env e3) e3 with
                | none => simp only [hin] at go1; exact go1.elim
                | some r =>
                  obtain ⟨⟨ks', xs'⟩, e', b'⟩ := r
                  simp only [hin] at go1
                  obtain ⟨x5, I5⟩ := InS.start acc_d L S4 hf hw hl3
                  exact dc_in hj1 I5 w1 hin fun F6 H6 x6 L6 => ⟨F6, e', ks', xs', x1.trans (x5.trans x6), L6, Go.up go1 (x5.trans x6)⟩
              · exact go1.elim
    · exact go1.elim
  · left
    have e : i = ps.length := by omega
    subst e
    rw [List.drop_length] at go1
    unfold dcOut at go1
    refine ⟨w.stops g F H σ env rfl x1 L.S, go1 F H (Ex.refl F) L.S _ ?_⟩
    obtain ⟨o, c1, kvs, rfl, c2, c3⟩ := L.cell
    exact ⟨D, rfl, by simp only [R1]; exact ⟨kvs, c1, c2, c3⟩, L.hF, L.h0, L.hn⟩
theorem se_dc2 {kx vx tg iter tg1 iter1 : Expr} {ifs ifs1 : List Expr} {scope : Scope} {pos : Pos} {di : Env' → Res (List PV)} {u : UG} {dt : Option (Env' → Res Bool)} {di1 : Env' → Res (List PV)} {u1 : UG} {dt1 : Option (Env' → Res Bool)} {dk dv : Env' → Res Val} (own : List (Str × Nat)) (ok : Ok X g) (hN : X.N.Nodup)
    (hi : PI X tg iter (tI g di)) (bk : BlkOk X.N X.env.scope scope own) (hv : own.map (·.2) = vs) (hj : ∀ j ∈ js, j ∈ vs) (hj1 : ∀ j ∈ js1, j ∈ vs1) (hv1 : ∀ j ∈ vs1, j ∈ vs)
    (hg : ∀ (s : Shared) (H : Hp) (C : Addr) (cl : List (Str × Addr)) (fp : List Addr) (g' : Gm), g'.C = g.C → Ok (X.blk s H scope (compEnvC scope cl C X.env) fp) g' → PG (X.blk s H scope (compEnvC scope cl C X.env) fp) tg (tG g' u js))
    (ht : ∀ (s : Shared) (H : Hp) (C : Addr) (cl : List (Str × Addr)) (fp : List Addr) (g' : Gm), g'.C = g.C → Ok (X.blk s H scope (compEnvC scope cl C X.env) fp) g' → PTs (X.blk s H scope (compEnvC scope cl C X.env) fp) ifs (tT g' (dtO dt)))
    (hi1 : ∀ (s : Shared) (H : Hp) (C : Addr) (cl : List (Str × Addr)) (fp : List Addr) (g' : Gm), g'.C = g.C → Ok (X.blk s H scope (compEnvC scope cl C X.env) fp) g' → PI (X.blk s H scope (compEnvC scope cl C X.env) fp) tg1 iter1 (tI g' di1))
    (hg1 : ∀ (s : Shared) (H : Hp) (C : Addr) (cl : List (Str × Addr)) (fp : List Addr) (g' : Gm), g'.C = g.C → Ok (X.blk s H scope (compEnvC scope cl C X.env) fp) g' → PG (X.blk s H scope (compEnvC scope cl C X.env) fp) tg1 (tG g' u1 js1))
    (ht1 : ∀ (s : Shared) (H : Hp) (C : Addr) (cl : List (Str × Addr)) (fp : List Addr) (g' : Gm), g'.C = g.C → Ok (X.blk s H scope (compEnvC scope cl C X.env) fp) g' → PTs (X.blk s H scope (compEnvC scope cl C X.env) fp) ifs1 (tT g' (dtO dt1)))
    (hk : ∀ (s : Shared) (H : Hp) (C : Addr) (cl : List (Str × Addr)) (fp : List Addr) (g' : Gm), g'.C = g.C → Ok (X.blk s H scope (compEnvC scope cl C X.env) fp) g' → PE (X.blk s H scope (compEnvC scope cl C X.env) fp) kx (tE g' dk))
    (he : ∀ (s : Shared) (H : Hp) (C : Addr) (cl : List (Str × Addr)) (fp : List Addr) (g' : Gm), g'.C = g.C → Ok (X.blk s H scope (compEnvC scope cl C X.env) fp) g' → PE (X.blk s H scope (compEnvC scope cl C X.env) fp) vx (tE g' dv))
    (hs : ∀ x, foldedSetIterable iter X.env x = pure x) (hs1 : ∀ env x, foldedSetIterable iter1 env x = pure x) :
    PE X (.DictComp kx vx [⟨tg, iter, ifs, 0⟩, ⟨tg1, iter1, ifs1, 0⟩] scope pos) (tE g (dDc2 vs vs1 di u dt di1 u1 dt1 dk dv)) := by
  subst hv
  refine peImp (pe_dc2 ok.calm hN hi bk hv1 (fun s H C cl fp => xG_of fun g' hC => hg s H C cl fp g' hC (ok_blk ok hC)) (fun s H C cl fp => xT_of fun g' hC => ht s H C cl fp g' hC (ok_blk ok hC))
    (fun s H C cl fp => xI_of fun g' hC => hi1 s H C cl fp g' hC (ok_blk ok hC)) (fun s H C cl fp => xG_of fun g' hC => hg1 s H C cl fp g' hC (ok_blk ok hC)) (fun s H C cl fp => xT_of fun g' hC => ht1 s H C cl fp g' hC (ok_blk ok hC))
    (fun s H C cl fp => xE_of fun g' hC => hk s H C cl fp g' hC (ok_blk ok hC)) (fun s H C cl fp => xE_of fun g' hC => he s H C cl fp g' hC (ok_blk ok hC)) hs hs1) fun σ H Q h => ?_
  obtain ⟨F, env, S, go⟩ := h
  exact ⟨F, env, S, (Go.bind go).mono fun ps e1 F1 H1 x1 S1 k J w => dc2_turns hj hj1 S1 w k⟩
end
end VL

set_option maxRecDepth 100000
set_option maxHeartbeats 2000000
namespace VL
open PySem PySem.Spec L2
open PyProof.Rows hiding St
/-! ### sorted(x, key=lambda y: (len(y), y)): shorter texts first -/
/-- the texts to be sorted -/
def keysS : List Key → Option (List Str)
  | [] => some []
  | .inr x :: ks => (keysS ks).map (x :: ·)
  | _ => none
theorem keysS_is : ∀ {ks : List Key} {l : List Str}, keysS ks = some l → ks = l.map Sum.inr
  | [], l, h => by cases h; rfl
  | .inr x :: ks, l, h => by
    simp only [keysS, Option.map_eq_some_iff] at h
    obtain ⟨r, h1, rfl⟩ := h
    rw [keysS_is h1]; rfl
  | .inl i :: ks, l, h => by simp [keysS] at h
def txtsP : PV → Option (List Str)
  | .lst xs => strsP xs
  | .dK ks _ => keysS ks
  | _ => none
def lnK (x : Str) : PyData := .tuple [.int x.cps.size, .str x]
/-- the order of the kit's rule (sorted_key_data) at this key -/
def sortLn (xs : List Str) : List Str := xs.mergeSort (PySem.W.dataLe false lnK)
def semLn : PV → Option PV := fun p => (txtsP p).bind fun xs => if xs.all (fun x => decide (x.cps.size < 4611686018427387904)) = true then some (.lst ((sortLn xs).map PV.str)) else none
def dSortLn (d : Env' → Res Val) : Env' → Res Val := fun e => (d e).bind fun x e1 => match peek x e1 with
  | some p => match semLn p with
    | some q => .ok (.new q) e1
    | none => .bad
  | none => .bad
end VL

set_option maxRecDepth 100000
set_option maxHeartbeats 2000000
namespace VL
open PySem PySem.Spec L2
open PyProof.Rows hiding St
section
variable {X : Cx}
/-- the dict comprehension's run, when what comes out of it is used on the spot -/
abbrev dcRun (X : Cx) (y : Str) (py : Pos) (kx vx : Expr) (tg iter : Expr) (ifs : List Expr) (gs : List Comprehension) (scope : Scope) (pos : Pos) : Sem Value :=
  comprehension (.DictComp kx vx (⟨tg, iter, ifs, 0⟩ :: gs) scope pos) scope X.env (firstIterPos (⟨tg, iter, ifs, 0⟩ :: gs) pos) newDict false (eval iter X.env) (some (assign (.Name y py) X.env))
/-- y = {..}: from what the run needs, whatever the clauses -/
theorem ps_setRun {i : Nat} {y : Str} {py pos spos : Pos} {kx vx : Expr} {tg iter : Expr} {ifs : List Expr} {gs : List Comprehension} {scope : Scope} {t : TE} (hN : X.N.Nodup) (hy : X.N[i]? = some y) (hyl : X.env.scope.names.lookup y = some .local) (hsw : swapsWith (.DictComp kx vx (⟨tg, iter, ifs, 0⟩ :: gs) scope pos) (some (.Name y py)) spos.line X.env = pure true)
    (run : ∀ {pins : List (Addr × Obj)} {s : Shared} {σ : St} {H : Hp} {Q : VK} {Qf : Value → Shared → Prop}, Inv X pins σ H s → t σ H Q →
      (∀ L C s' m H', Inv X pins σ H' s' → Q (.ref L) H' → s'.heap.Ns C m → FpOk X pins H' C → compPost (model X.prog X.w) X.A X.xe (some (assign (.Name y py) X.env)) Qf (.ref L) C (.ok .next) s') →
      wpAny (model X.prog X.w) X.A (dcRun X y py kx vx tg iter ifs gs scope pos) Qf X.xe s) :
    PS X (.Assign [.Name y py] (.DictComp kx vx (⟨tg, iter, ifs, 0⟩ :: gs) scope pos) spos) (tAsg t (gName i)) := by
  constructor
  intro pins s σ H D I h
  rw [exec_Assign_Name_used _ _ _ _ hsw]
  refine wpAny_bind (wpAny_standAt (wpAny_bind ?_))
  show wpAny _ X.A (do let _ ← dcRun X y py kx vx tg iter ifs gs scope pos) _ _ s
  refine wpAny_bind (wpAny_mono (run (Qf := fun _ s1 => SP X pins D .next s1) I h ?_) (fun _ s1 hq => wpAny_pure (wpAny_pure hq)) fun _ _ z => z)
  intro L C s1 m H1 I1 q hn fo
  obtain ⟨g0, g1, g2, g3, g4, g5⟩ := fo
  show wpAny _ _ (assign (.Name y py) X.env (.ref L)) _ _ _
  apply wpAny_assign_Name
  apply store_ok2 (v := V.ref L) I1 hN hy (.inl hyl) rfl ?_ (.inr hyl)
  rintro s2 I2 ⟨a, sb, ha⟩
  refine ⟨m, hn.sameBut sb ?_, fun s3 sb3 => ⟨_, H1, I2.turned (t' := s2.toks) (fun b o hb e => (sb3.2 b hb).trans e) g0 g1 g3 g4 g5, q⟩⟩
  intro e
  cases ha with
  | inl z => exact g1 (e.trans z).symm.symm
  | inr z => exact g4 y a z e.symm
theorem ps_setDc {i : Nat} {y : Str} {py : Pos} {kx vx tg iter : Expr} {ifs : List Expr} {scope : Scope} {own : List (Str × Nat)} {pos spos : Pos} {wi : TI} {g : TG} {tt : TT} {tk tv : TE} (hc : X.calm = true) (hN : X.N.Nodup) (hy : X.N[i]? = some y) (hyl : X.env.scope.names.lookup y = some .local)
    (hsw : swapsWith (.DictComp kx vx [⟨tg, iter, ifs, 0⟩] scope pos) (some (.Name y py)) spos.line X.env = pure true) (hi : PI X tg iter wi) (ok : BlkOk X.N X.env.scope scope own)
    (hg : InB X scope fun Y => PG Y tg g) (ht : InB X scope fun Y => PTs Y ifs tt) (hk : InB X scope fun Y => PE Y kx tk) (he : InB X scope fun Y => PE Y vx tv) (hs : ∀ x, foldedSetIterable iter X.env x = pure x := by intro _; rfl) :
    PS X (.Assign [.Name y py] (.DictComp kx vx [⟨tg, iter, ifs, 0⟩] scope pos) spos) (tAsg (tDc wi g tt tk tv (own.map (·.2))) (gName i)) :=
  ps_setRun hN hy hyl hsw fun I h fin => dc_core hc hN I hi ok hg ht hk he hs h fin
theorem ps_setDc2 {i : Nat} {y : Str} {py : Pos} {kx vx tg iter tg1 iter1 : Expr} {ifs ifs1 : List Expr} {scope : Scope} {own : List (Str × Nat)} {vs1 : List Nat} {pos spos : Pos} {wi wi1 : TI} {g g1 : TG} {tt tt1 : TT} {tk tv : TE} (hc : X.calm = true) (hN : X.N.Nodup) (hy : X.N[i]? = some y) (hyl : X.env.scope.names.lookup y = some .local)
    (hsw : swapsWith (.DictComp kx vx [⟨tg, iter, ifs, 0⟩, ⟨tg1, iter1, ifs1, 0⟩] scope pos) (some (.Name y py)) spos.line X.env = pure true) (hi : PI X tg iter wi) (ok : BlkOk X.N X.env.scope scope own) (hv : ∀ i ∈ vs1, i ∈ own.map (·.2))
    (hg : InB X scope fun Y => PG Y tg g) (ht : InB X scope fun Y => PTs Y ifs tt) (hi1 : InB X scope fun Y => PI Y tg1 iter1 wi1) (hg1 : InB X scope fun Y => PG Y tg1 g1) (ht1 : InB X scope fun Y => PTs Y ifs1 tt1) (hk : InB X scope fun Y => PE Y kx tk) (he : InB X scope fun Y => PE Y vx tv)
    (hs : ∀ x, foldedSetIterable iter X.env x = pure x := by intro _; rfl) (hs1 : ∀ env x, foldedSetIterable iter1 env x = pure x := by intro _ _; rfl) :
    PS X (.Assign [.Name y py] (dc2X kx vx tg iter tg1 iter1 ifs ifs1 scope pos) spos) (tAsg (tDc2 wi g tt wi1 g1 tt1 tk tv (own.map (·.2)) vs1) (gName i)) :=
  ps_setRun hN hy hyl hsw fun I h fin => dc2_core hc hN I hi ok hv hg ht hk he hs hi1 hg1 ht1 hs1 h fin
/-- the statement's own line, a function's own name, not one of the block's names: the swap is taken -/
theorem sw_trueD {kx vx : Expr} {gs : List Comprehension} {scope : Scope} {pos py : Pos} {y : Str} {l : Nat} {env : Env} (hk : env.scope.kind = .function) (hy : env.scope.names.lookup y = some .local) (hl : (py.line == pos.line) = true)
    (ha : (scope.names.any fun (n, k) => n == y && (k == .local || k == .cell)) = false) : swapsWith (.DictComp kx vx gs scope pos) (some (.Name y py)) l env = pure true := by
  have ky : env.kindOf y = some .local := hy
  have hb : env.blockKind = .function := by unfold Env.blockKind; rw [hk]; rfl
  unfold swapsWith
  simp only [hb, ky, ha, Expr.pos, hl]
  rfl
end
section
variable {X : Cx} {g : Gm} {σ : St} {H : Hp} {vs vs1 js js1 : List Nat}
theorem tDc2_of {di di1 : Env' → Res (List PV)} {u u1 : UG} {dt dt1 : Option (Env' → Res Bool)} {dk dv : Env' → Res Val} (hj : ∀ j ∈ js, j ∈ vs) (hj1 : ∀ j ∈ js1, j ∈ vs1) {Q : VK} (h : tE g (dDc2 vs vs1 di u dt di1 u1 dt1 dk dv) σ H Q) :
    tDc2 (tI g di) (xG g.C u js) (xT g.C (dtO dt)) (xI g.C di1) (xG g.C u1 js1) (xT g.C (dtO dt1)) (xE g.C dk) (xE g.C dv) vs vs1 σ H Q := by
  obtain ⟨F, env, S, go⟩ := h
  exact ⟨F, env, S, (Go.bind go).mono fun ps e1 F1 H1 x1 S1 k J w => dc2_turns hj hj1 S1 w k⟩
theorem ss_setDc {i : Nat} {y : Str} {py spos : Pos} {kx vx tg iter : Expr} {ifs : List Expr} {scope : Scope} {pos : Pos} {di : Env' → Res (List PV)} {u : UG} {dt : Option (Env' → Res Bool)} {dk dv : Env' → Res Val} (own : List (Str × Nat)) (ok : Ok X g) (hN : X.N.Nodup)
    (hy : X.N[i]? = some y) (hyl : X.env.scope.names.lookup y = some .local) (hsw : swapsWith (.DictComp kx vx [⟨tg, iter, ifs, 0⟩] scope pos) (some (.Name y py)) spos.line X.env = pure true)
    (hi : PI X tg iter (tI g di)) (bk : BlkOk X.N X.env.scope scope own) (hv : own.map (·.2) = vs) (hj : ∀ j ∈ js, j ∈ vs)
    (hg : ∀ (s : Shared) (H : Hp) (C : Addr) (cl : List (Str × Addr)) (fp : List Addr) (g' : Gm), g'.C = g.C → Ok (X.blk s H scope (compEnvC scope cl C X.env) fp) g' → PG (X.blk s H scope (compEnvC scope cl C X.env) fp) tg (tG g' u js)) (ht : ∀ (s : Shared) (H : Hp) (C : Addr) (cl : List (Str × Addr)) (fp : List Addr) (g' : Gm), g'.C = g.C → Ok (X.blk s H scope (compEnvC scope cl C X.env) fp) g' → PTs (X.blk s H scope (compEnvC scope cl C X.env) fp) ifs (tT g' (dtO dt))) (hk : ∀ (s : Shared) (H : Hp) (C : Addr) (cl : List (Str × Addr)) (fp : List Addr) (g' : Gm), g'.C = g.C → Ok (X.blk s H scope (compEnvC scope cl C X.env) fp) g' → PE (X.blk s H scope (compEnvC scope cl C X.env) fp) kx (tE g' dk)) (he : ∀ (s : Shared) (H : Hp) (C : Addr) (cl : List (Str × Addr)) (fp : List Addr) (g' : Gm), g'.C = g.C → Ok (X.blk s H scope (compEnvC scope cl C X.env) fp) g' → PE (X.blk s H scope (compEnvC scope cl C X.env) fp) vx (tE g' dv))
    (hs : ∀ x, foldedSetIterable iter X.env x = pure x) : PS X (.Assign [.Name y py] (.DictComp kx vx [⟨tg, iter, ifs, 0⟩] scope pos) spos) (tS g (dSet i (dDc vs di u dt dk dv))) := by
  subst hv
  refine psImp (ps_setDc ok.calm hN hy hyl hsw hi bk (fun s H C cl fp => xG_of fun g' hC => hg s H C cl fp g' hC (ok_blk ok hC)) (fun s H C cl fp => xT_of fun g' hC => ht s H C cl fp g' hC (ok_blk ok hC)) (fun s H C cl fp => xE_of fun g' hC => hk s H C cl fp g' hC (ok_blk ok hC)) (fun s H C cl fp => xE_of fun g' hC => he s H C cl fp g' hC (ok_blk ok hC)) hs) fun D σ H h => ?_
  obtain ⟨F, env, S, go⟩ := h
  exact tDc_of hj ⟨F, env, S, (GoS.bindE (σ := σ) go).mono fun x e F' H' x1 S1 k v r => store_go S1 r k⟩
theorem ss_setDc2 {i : Nat} {y : Str} {py spos : Pos} {kx vx tg iter tg1 iter1 : Expr} {ifs ifs1 : List Expr} {scope : Scope} {pos : Pos} {di di1 : Env' → Res (List PV)} {u u1 : UG} {dt dt1 : Option (Env' → Res Bool)} {dk dv : Env' → Res Val} (own : List (Str × Nat)) (ok : Ok X g) (hN : X.N.Nodup)
    (hy : X.N[i]? = some y) (hyl : X.env.scope.names.lookup y = some .local) (hsw : swapsWith (.DictComp kx vx [⟨tg, iter, ifs, 0⟩, ⟨tg1, iter1, ifs1, 0⟩] scope pos) (some (.Name y py)) spos.line X.env = pure true)
    (hi : PI X tg iter (tI g di)) (bk : BlkOk X.N X.env.scope scope own) (hv : own.map (·.2) = vs) (hj : ∀ j ∈ js, j ∈ vs) (hj1 : ∀ j ∈ js1, j ∈ vs1) (hv1 : ∀ j ∈ vs1, j ∈ vs)
    (hg : ∀ (s : Shared) (H : Hp) (C : Addr) (cl : List (Str × Addr)) (fp : List Addr) (g' : Gm), g'.C = g.C → Ok (X.blk s H scope (compEnvC scope cl C X.env) fp) g' → PG (X.blk s H scope (compEnvC scope cl C X.env) fp) tg (tG g' u js)) (ht : ∀ (s : Shared) (H : Hp) (C : Addr) (cl : List (Str × Addr)) (fp : List Addr) (g' : Gm), g'.C = g.C → Ok (X.blk s H scope (compEnvC scope cl C X.env) fp) g' → PTs (X.blk s H scope (compEnvC scope cl C X.env) fp) ifs (tT g' (dtO dt))) (hi1 : ∀ (s : Shared) (H : Hp) (C : Addr) (cl : List (Str × Addr)) (fp : List Addr) (g' : Gm), g'.C = g.C → Ok (X.blk s H scope (compEnvC scope cl C X.env) fp) g' → PI (X.blk s H scope (compEnvC scope cl C X.env) fp) tg1 iter1 (tI g' di1)) (hg1 : ∀ (s : Shared) (H : Hp) (C : Addr) (cl : List (Str × Addr)) (fp : List Addr) (g' : Gm), g'.C = g.C → Ok (X.blk s H scope (compEnvC scope cl C X.env) fp) g' → PG (X.blk s H scope (compEnvC scope cl C X.env) fp) tg1 (tG g' u1 js1)) (ht1 : ∀ (s : Shared) (H : Hp) (C : Addr) (cl : List (Str × Addr)) (fp : List Addr) (g' : Gm), g'.C = g.C → Ok (X.blk s H scope (compEnvC scope cl C X.env) fp) g' → PTs (X.blk s H scope (compEnvC scope cl C X.env) fp) ifs1 (tT g' (dtO dt1))) (hk : ∀ (s : Shared) (H : Hp) (C : Addr) (cl : List (Str × Addr)) (fp : List Addr) (g' : Gm), g'.C = g.C → Ok (X.blk s H scope (compEnvC scope cl C X.env) fp) g' → PE (X.blk s H scope (compEnvC scope cl C X.env) fp) kx (tE g' dk)) (he : ∀ (s : Shared) (H : Hp) (C : Addr) (cl : List (Str × Addr)) (fp : List Addr) (g' : Gm), g'.C = g.C → Ok (X.blk s H scope (compEnvC scope cl C X.env) fp) g' → PE (X.blk s H scope (compEnvC scope cl C X.env) fp) vx (tE g' dv))
    (hs : ∀ x, foldedSetIterable iter X.env x = pure x) (hs1 : ∀ env x, foldedSetIterable iter1 env x = pure x) : PS X (.Assign [.Name y py] (.DictComp kx vx [⟨tg, iter, ifs, 0⟩, ⟨tg1, iter1, ifs1, 0⟩] scope pos) spos) (tS g (dSet i (dDc2 vs vs1 di u dt di1 u1 dt1 dk dv))) := by
  subst hv
  refine psImp (ps_setDc2 ok.calm hN hy hyl hsw hi bk hv1 (fun s H C cl fp => xG_of fun g' hC => hg s H C cl fp g' hC (ok_blk ok hC)) (fun s H C cl fp => xT_of fun g' hC => ht s H C cl fp g' hC (ok_blk ok hC))
    (fun s H C cl fp => xI_of fun g' hC => hi1 s H C cl fp g' hC (ok_blk ok hC)) (fun s H C cl fp => xG_of fun g' hC => hg1 s H C cl fp g' hC (ok_blk ok hC)) (fun s H C cl fp => xT_of fun g' hC => ht1 s H C cl fp g' hC (ok_blk ok hC))
    (fun s H C cl fp => xE_of fun g' hC => hk s H C cl fp g' hC (ok_blk ok hC)) (fun s H C cl fp => xE_of fun g' hC => he s H C cl fp g' hC (ok_blk ok hC)) hs hs1) fun D σ H h => ?_
  obtain ⟨F, env, S, go⟩ := h
  exact tDc2_of hj hj1 ⟨F, env, S, (GoS.bindE (σ := σ) go).mono fun x e F' H' x1 S1 k v r => store_go S1 r k⟩
end
end VL

set_option maxRecDepth 100000
set_option maxHeartbeats 2000000
namespace VL
open PySem PySem.Spec L2
open PyProof.Rows hiding St
/-! ### the lambda's body: (len(v), v) -/
theorem ln_body {prog : Program} {w : World} {A : Around} {E : Value → Shared → Prop} {s : Shared} {env : Env} {v : Str} {x : Str} {t : Tok} {m mg mb : Str → Option Value} {p1 p2 p3 p4 p5 : Pos} {k : Nat}
    (hk : env.scope.kind = .function) (hv : env.kindOf v = some .local) (hl : env.kindOf (Str.ofString "len") = some .globalImplicit) (hn : s.heap.Ns env.locals m) (hm : m v = some (.str x t))
    (hg : s.heap.Ns env.globals mg) (hmg : mg (Str.ofString "len") = none) (hb : s.heap.Ns env.builtins mb) (hmb : mb (Str.ofString "len") = some (.builtin "len")) (hx : x.cps.size < 2 ^ 62) (hd : (v == ("__debug__" : Str)) = false) :
    wpAny (model prog w) A (eval (.Tuple [.Call (.Name (Str.ofString "len") p1) [.Name v p2] [] p3, .Name v p4] k p5) env) (fun u s' => PySem.W.KeyPure (lnK x) s u s') E s := by
  refine wpAny_Tuple (wpAny_items_cons ?_)
  refine Call_Name1 (Calls.Name_function_global hk hl (Calls.loadGlobal_builtin hg hmg hb hmb ?_))
  refine Calls.callWith_builtin rfl (Calls.evalArgs_plain (Calls.spliced_cons (wpAny_Name (wpAny_loadName_local hk hv hn hm (Calls.spliced_nil ?_)) hd)))
  have hfit : ¬ ((x.length : Int) ≥ 2 ^ 63) := by
    have : x.length = x.cps.size := rfl
    omega
  refine len_str hfit ?_
  refine wpAny_items_cons (wpAny_Name (wpAny_loadName_local (s := { s with toks := s.toks + 1 + 1 }) hk hv hn hm (wpAny_items_nil ?_)) hd)
  refine ⟨by show 2 ≤ sizeLine; decide, _, _, rfl, fun b o e => Heap.get?_push_of_some _ e, ?_⟩
  refine Reads.tuple (as := []) (Heap.get?_push_size _ rfl) rfl rfl ?_
  exact ReadsAll.cons (Reads.int _ _) (ReadsAll.cons (Reads.str _ _) ReadsAll.nil)
/-- the lambda called: its key -/
theorem ln_call {prog : Program} {w : World} {A : Around} {E : Value → Shared → Prop} {s : Shared} {f c' : Addr} {q : Str} {params : Arguments} {scope : Scope} {pm ctv : Value} {v : Str} {x : Str} {t : Tok} {mg mb : Str → Option Value} {p1 p2 p3 p4 p5 : Pos} {k : Nat} {fd : FuncData}
    (hroom : A.depth < recursionLimit) (ofd : fd = PySem.W.kla_fn "<lambda>" q params (.Tuple [.Call (.Name (Str.ofString "len") p1) [.Name v p2] [] p3, .Name v p4] k p5) scope [] pm (.ref c') ctv)
    (of : s.heap.get? f = some { cls := .type "function", data := .func fd }) (hcd : s.heap.CodeRec (.ref c') q) (hlim : s.heap.NoLimit) (hbind : bindArgs fd ⟨[.str x t], []⟩ = pure [(v, .str x t)])
    (hk : scope.kind = .function) (hco : scope.isCoroutine = false) (hgen : scope.isGenerator = false) (hcell : ∀ y ∈ scope.names, y.2 ≠ .cell) (hv : scope.names.lookup v = some .local) (hl : scope.names.lookup (Str.ofString "len") = some .globalImplicit)
    (hg : s.heap.Ns fd.globals mg) (hmg : mg (Str.ofString "len") = none) (hb : s.heap.Ns fd.builtins mb) (hmb : mb (Str.ofString "len") = some (.builtin "len")) (hx : x.cps.size < 2 ^ 62) (hd : (v == ("__debug__" : Str)) = false) :
    wpAny (model prog w) A (call (.ref f) [.str x t]) (PySem.W.KeyPure (lnK x) s) E s := by
  subst ofd
  refine wpAny_call (PySem.W.kla_callFunE hroom of rfl hco hgen rfl hcd ?_)
  rw [hbind]
  refine wpAny_pure (wpAny_newFunctionEnv hcell (fun y hy => ?_) (fun h₁ hns hsb => ⟨hlim.keeps ?_, ?_⟩) hk)
  · rcases List.mem_singleton.mp hy with rfl
    exact hv
  · exact fun b o e => hsb.extBut b o (Nat.ne_of_lt (Heap.lt_size e)) (Heap.get?_push_of_some _ e)
  · have kp : ∀ b o, s.heap.get? b = some o → h₁.get? b = some o := fun b o e => hsb.extBut b o (Nat.ne_of_lt (Heap.lt_size e)) (Heap.get?_push_of_some _ e)
    refine PySem.W.kla_codeExpr (wpAny_mono (ln_body (x := x) (t := t) hk hv hl hns (by simp) (hg.keeps kp) hmg (hb.keeps kp) hmb hx hd) (fun u s' hq => ?_) fun e s' hq => hq)
    obtain ⟨h', tk, e, k1, r⟩ := hq
    subst e
    exact ⟨h', tk, rfl, fun b o q => k1 b o (kp b o q), r⟩
end VL

set_option maxRecDepth 100000
set_option maxHeartbeats 2000000
namespace VL
open PySem PySem.Spec L2 LamX
open PyProof.Rows hiding St
/-! ### a lambda is made: what stood stays, tables may grow -/
def KptN (H H' : Hp) : Prop := ∀ b o, H b = some o → Kpt o (H' b)
theorem KptN.refl (H : Hp) : KptN H H := fun _ _ h => .inl h
/-- one entry more in a table -/
def entryV (ps : Array Value) (pos : Pos) (d : Addr) : Array Value := ps ++ #[rawInt pos.line, rawInt pos.col, .ref d]
theorem entryV_list (ps : Array Value) (pos : Pos) (d : Addr) : (entryV ps pos d).toList = ps.toList ++ [rawInt pos.line, rawInt pos.col, .ref d] := by
  simp [entryV]
/-- the abstract heap behind it -/
def withCode (H : Hp) (P d : Addr) (ps : Array Value) (pos : Pos) (x : Str) : Hp := upd (upd H P (.tbl (entryV ps pos d))) d (CodeO d x)
section
variable {H : Hp} {P d : Addr} {ps : Array Value} {pos : Pos} {x : Str}
theorem withCode_new : withCode H P d ps pos x d = some (CodeO d x) := upd_same
theorem withCode_tab (hP : H P = some (.tbl ps)) (hd : H d = none) : withCode H P d ps pos x P = some (.tbl (entryV ps pos d)) := by
  unfold withCode
  rw [upd_ne (ne_of_none hP hd)]
  exact upd_same
theorem withCode_old {b : Addr} (h1 : b ≠ P) (h2 : b ≠ d) : withCode H P d ps pos x b = H b := by
  unfold withCode
  rw [upd_ne h2, upd_ne h1]
theorem kpt_withCode (hP : H P = some (.tbl ps)) (hd : H d = none) : KptN H (withCode H P d ps pos x) := by
  intro b o hb
  have h2 : b ≠ d := ne_of_none hb hd
  by_cases h1 : b = P
  · rw [h1, hP] at hb
    cases hb
    rw [h1, withCode_tab hP hd]
    exact .inr ⟨ps, _, rfl, rfl⟩
  · rw [withCode_old h1 h2]
    exact .inl hb
/-- a code object that was known is known still -/
theorem code_withCode {c : Addr} {y : Str} (hP : H P = some (.tbl ps)) (hd : H d = none) (h : H c = some (CodeO c y)) : withCode H P d ps pos x c = some (CodeO c y) := by
  rw [withCode_old (fun z => ?_) (ne_of_none h hd)]
  · exact h
  · rw [z, hP] at h
    unfold CodeO at h
    cases h
theorem tabs_withCode {T : List (Addr × Str)} (hT : Tabs T H) (hP : H P = some (.tbl ps)) (hd : H d = none) (hx : ∀ p ∈ T, p.1 = P → p.2 = x) : Tabs T (withCode H P d ps pos x) := by
  intro p hp
  obtain ⟨qs, hq, ok, kn⟩ := hT p hp
  by_cases e : p.1 = P
  · rw [e, hP] at hq
    cases hq
    rw [hx p hp e] at kn ⊢
    refine ⟨_, by rw [e]; exact withCode_tab hP hd, by rw [entryV_list]; exact PySem.TriplesOk_snoc _ _ _ _ ok, ?_⟩
    intro pos' cv hcv
    rw [entryV_list] at hcv
    rcases among_app _ ok hcv with old | rfl
    · obtain ⟨c, rfl, hc⟩ := kn pos' cv old
      exact ⟨c, rfl, code_withCode hP hd hc⟩
    · exact ⟨d, rfl, withCode_new⟩
  · refine ⟨qs, by rw [withCode_old e (ne_of_none hq hd)]; exact hq, ok, ?_⟩
    intro pos' cv hcv
    obtain ⟨c, rfl, hc⟩ := kn pos' cv hcv
    exact ⟨c, rfl, code_withCode hP hd hc⟩
end
section
variable {X : Cx} {pins : List (Addr × Obj)} {σ : L2.St} {H : Hp} {s : Shared}
/-- no frame that runs stands where something new is laid -/
theorem not_frame (I : Inv X pins σ H s) {f : Addr} (hf : s.heap.objs.size ≤ f) : f ∉ frs X.stack := by
  intro hm
  cases List.mem_cons.mp (I.stkSub _ hm) with
  | inl e => exact absurd (e ▸ I.lt) (Nat.not_lt.mpr hf)
  | inr e => exact I.nofs hf e
theorem lam_make3 {T : List (Addr × Str)} {c P : Addr} {params : Arguments} {body : Expr} {scope : Scope} {pos : Pos} {E Q : Value → Shared → Prop} (I : Inv X pins σ H s) (tb : TabB X.base X.mg c P) (hc : X.env.code = .ref c) (mem : (P, X.env.qual ++ "<lambda>") ∈ T)
    (uniq : ∀ p ∈ T, p.1 = P → p.2 = X.env.qual ++ "<lambda>") (hT : Tabs T H) (nod : defaultsOf params X.env = ([], [])) (fr : ∀ y ∈ scope.names, y.2 = .free → ∃ c, X.env.cells.lookup y.1 = some c)
    (k : ∀ (f d : Addr) (pm ct : Value) (H1 : Hp) (s1 : Shared), Inv X pins σ H1 s1 → KptN H H1 → Tabs T H1 → s1.heap.get? f = some (PySem.W.kla_obj "<lambda>" (X.env.qual ++ "<lambda>") params body scope (cloFrom X.env.cells scope.names []) pm d ct) → H1 f = none → f ∉ frs X.stack → H1 d = some (CodeO d (X.env.qual ++ "<lambda>")) → Q (.ref f) s1) :
    wpAny (model X.prog X.w) X.A (eval (.Lambda params body scope pos) X.env) Q E s := by
  obtain ⟨ps, hP, ok, kn⟩ := hT _ mem
  have atP : s.heap.get? P = some { cls := .none, data := .fields ps } := I.hok P _ hP
  have hd0 := tb.code.keeps I.bk
  have bm0 : s.heap.BuiltinsAt X.mg P := tb.bm.keeps I.bk
  have gl := I.mod.glob.keeps I.bk
  refine PySem.W.kla_eval nod ?_
  by_cases hit : ∃ cv, codeAmong pos ps.toList = some cv
  · obtain ⟨cv, hcv⟩ := hit
    obtain ⟨d, rfl, hd⟩ := kn pos cv hcv
    refine PySem.W.kla_makeFunctionHit (mg := X.mg) (P := P) (ps := ps) (closure_ok fr) I.ok.glob gl hc hd0 atP ok hcv bm0 fun ct g tk keep le => ?_
    refine k _ d _ ct H _ (I.kept (t' := tk) fun b o e => Heap.get?_push_of_some _ (keep b o e)) (KptN.refl H) hT (Heap.get?_push_size _ rfl) (I.hok.fresh le) (not_frame I le) hd
  · have none_ : codeAmong pos ps.toList = none := by
      cases q : codeAmong pos ps.toList with
      | none => rfl
      | some cv => exact absurd ⟨cv, q⟩ hit
    refine PySem.W.kla_makeFunction (mg := X.mg) (P := P) (ps := ps) (closure_ok fr) I.ok.glob gl hc hd0 atP ok none_ tb.gP bm0 fun d ct g tk ext dge dlt rec tabg => ?_
    obtain ⟨d', oc, vs, t, e, hoc, hdat, hname⟩ := rec
    cases e
    have dn : H d = none := I.hok.fresh dge
    have gge : s.heap.objs.size ≤ g.objs.size := by omega
    have fnew : withCode H P d ps pos (X.env.qual ++ "<lambda>") g.objs.size = none := by
      rw [withCode_old (Nat.ne_of_gt (Nat.lt_of_lt_of_le (Heap.lt_size atP) gge)) (Nat.ne_of_gt dlt)]
      exact I.hok.fresh gge
    refine k g.objs.size d _ ct (withCode H P d ps pos (X.env.qual ++ "<lambda>")) _ ?_ (kpt_withCode hP dn) (tabs_withCode hT hP dn uniq) (Heap.get?_push_size _ rfl) fnew (not_frame I gge) withCode_new
    refine inv_table (t' := tk) (more := #[rawInt pos.line, rawInt pos.col, .ref d]) I hP (fun b o hb e => ?_) (Heap.get?_push_of_some _ tabg) dge ⟨oc, vs, t, Heap.get?_push_of_some _ hoc, hdat, hname⟩
    exact Heap.get?_push_of_some _ (ext b o hb e)
end
section
variable {g : Gm} {F H H1 : Hp} {σ : L2.St} {env : Env'}
theorem Stt.lam (S : Stt g F H σ env) (k : KptN H H1) (T : LamX.Tabs g.C.T H1) : Stt g F H1 σ env where
  len := S.len
  frame := fun b o q n => (S.frame b o q n).trans fun o' q' => k b o' q'
  live := fun b hb => let ⟨o, q⟩ := S.live b hb; (k b o q).some
  ext := S.ext
  fresh := S.fresh
  sub := fun b o q => by
    rcases S.sub b o q with z | ⟨d, ob, z⟩
    · exact .inl (z.trans fun o' q' => k b o' q')
    · exact .inr ⟨d, ob, (k b _ z).eq fun ps e => by cases e⟩
  fz := S.fz
  ow := fun i b p q => by
    obtain ⟨a, h1, h2, h3, h4⟩ := S.ow i b p q
    obtain ⟨o, ho⟩ := h2.cell
    have e := (k a o ho).eq (h2.pln ho).1
    exact ⟨a, h1, h2.mono (Ex.refl F).le (by rw [e, ho]), h3, h4⟩
  inj := S.inj
  tab := T
end
end VL

set_option maxRecDepth 100000
set_option maxHeartbeats 2000000
namespace VL.Srt
open PySem PySem.Calls PySem.W PyProof.Rows
/-! ### sorted(u, key=f), u anything that is collected -/
abbrev IsS (v : Value) (x : Str) : Prop := ∃ t : Tok, v = .str x t
abbrev Keeps (h h' : Heap) : Prop := ∀ b o, h.get? b = some o → h'.get? b = some o
section
variable {prog : Program} {w : World} {A : Around} {E : Value → Shared → Prop} {s : Shared} {Q : Value → Shared → Prop}
theorem srt_ln {u : Value} {f : Addr} {xs : List Str} (hL : xs.length ≤ sizeLine) (hu : A.units + 3 < cLine)
    (hcol : ∀ (E' : Value → Shared → Prop) (Q' : List Value → Shared → Prop), (∀ h1 tk vs, Keeps s.heap h1 → EachIs IsS vs xs → Q' vs { s with heap := h1, toks := tk }) → wpAny (model prog w) A.in1 (collect u) Q' E' s)
    (turn : ∀ x, x ∈ xs → ∀ (t : Tok) (h : Heap) (tk : Nat), Keeps s.heap h → wpAny (model prog w) A.in1.in1 (call (.ref f) [.str x t]) (KeyPure (lnK x) { s with heap := h, toks := tk }) (fun _ _ => False) { s with heap := h, toks := tk })
    (h : ∀ out c h1 h' tk p, Keeps s.heap h1 → Keeps h1 h' → h1.objs.size ≤ p → h'.get? p = some (seqObj "list" (List.toArray out) c) → EachIs IsS out (xs.mergeSort (dataLe false lnK)) → Q (.ref p) { s with heap := h', toks := tk }) :
    wpAny (model prog w) A (call (.builtin "sorted") [u] [(Str.ofString "key", .ref f)]) Q E s := by
  refine call_function_entry_kw kind_sorted plain_sorted entry_sorted (ksk_s1 _ _) ?_
  unfold Builtin.«sorted»
  refine wpAny_bind (m := checkCount "sorted" 1 1 _) (wpAny_pure ?_)
  refine wpAny_bind (hcol _ _ fun h1 tk vs kp hr => ?_)
  have hlen : vs.length ≤ sizeLine := by rw [hr.length]; exact hL
  refine wpAny_bind (wpAny_newList ?_ hlen)
  have hat : (h1.push (seqObj "list" vs.toArray 0)).get? h1.objs.size = some (seqObj "list" vs.toArray 0) := Heap.get?_push_size _ rfl
  have kp2 : Keeps s.heap (h1.push (seqObj "list" vs.toArray 0)) := fun b o e => Heap.get?_push_of_some _ (kp b o e)
  have up : ∀ {g : Heap}, KeepsBut h1.objs.size (h1.push (seqObj "list" vs.toArray 0)) g → Keeps s.heap g := fun {g} k b o q =>
    k b o (Nat.ne_of_lt (Heap.lt_size (kp b o q))) (kp2 b o q)
  have up1 : ∀ {g : Heap}, KeepsBut h1.objs.size (h1.push (seqObj "list" vs.toArray 0)) g → Keeps h1 g := fun {g} k b o q =>
    k b o (Nat.ne_of_lt (Heap.lt_size q)) (Heap.get?_push_of_some _ q)
  refine wpAny_bind (wpAny_holding (wpAny_call_entry_kw slot_list_sort ⟨_, hat, rfl⟩ entry_list_sort ?body (ksk_l1 _ _)))
  case body =>
    rw [ksk_t1]
    have al : ∀ a b : Str, alike (lnK a) (lnK b) = true := fun a b => by simp [lnK, alike, alikeAll]
    refine wpAny_mono (keyH_tree (kz := xs.map lnK) (s := { s with heap := h1.push (seqObj "list" vs.toArray 0), toks := tk }) (P := fun fin s' => ∃ v, fin = .done (.ret v) ∧ Q (.ref h1.objs.size) s') hat (by rw [List.length_map]; exact hr.length.symm) hlen
      (AllAlike.of (bs := xs) fun a b => al a b) (Sortable.tuples fun x => ⟨_, _, rfl⟩) (fun d hd => ?_)
      (keyH_turns (k := lnK) (s := { s with heap := h1.push (seqObj "list" vs.toArray 0), toks := tk }) hr fun v x ⟨t, hv⟩ hx h tk k => by subst hv; exact turn x hx t h tk (up k)) fun h' tk out c k hD ko => ⟨.none, rfl, ?_⟩) (fun fin s' ⟨v, e, q⟩ => ?_) fun _ _ e => e
    · obtain ⟨x, _, rfl⟩ := List.mem_map.mp hd
      have : (lnK x).depth = 1 := by simp [lnK, PyData.depth, PyData.depthAll]
      show A.units + 2 + (lnK x).depth < cLine
      omega
    · exact h out c h1 h' tk _ kp (up1 k) (Nat.le_refl _) hD (keyedOut_each lnK ko hr)
    · exact ⟨v, e, wpAny_pure ⟨_, rfl, q⟩⟩
end
theorem each_get {α β : Type} {R : α → β → Prop} : ∀ {l : List α} {m : List β}, l.length = m.length → (∀ (j : Nat) (a : α) (b : β), l[j]? = some a → m[j]? = some b → R a b) → EachIs R l m
  | [], [], _, _ => .nil
  | [], _ :: _, h, _ => by simp at h
  | _ :: _, [], h, _ => by simp at h
  | a :: l, b :: m, h, k => .cons (k 0 a b rfl rfl) (each_get (by simpa using h) fun j x y e1 e2 => k (j + 1) x y (by simpa using e1) (by simpa using e2))
theorem collect_list_k {prog : Program} {w : World} {A : Around} {E : Value → Shared → Prop} {s : Shared} {l : Addr} {vs : List Value} {Q : List Value → Shared → Prop} (hl : s.heap.IsList l vs.toArray) (hz : vs.length ≤ sizeLine)
    (h : ∀ h1, Keeps s.heap h1 → Q vs { s with heap := h1 }) : wpAny (model prog w) A (collect (.ref l)) Q E s := by
  refine collect_list hl (h _ fun b o e => ?_) hz
  have hb : b ≠ s.heap.objs.size := Nat.ne_of_lt (Heap.lt_size e)
  rw [Heap.get?_update_ne _ _ _ _ hb]
  exact Heap.get?_push_of_some _ e
end VL.Srt
namespace VL
open PySem PySem.Spec L2
open PyProof.Rows hiding St
open PySem.W (EachIs)
theorem vals_each : ∀ {xs : List Str} {its : List Value}, Vals (xs.map V.str) its → EachIs Srt.IsS its xs
  | [], _, h => by cases h; exact .nil
  | x :: xs, _, h => by
    cases h with
    | cons r t => exact .cons r (vals_each t)
theorem each_vals : ∀ {xs : List Str} {its : List Value}, EachIs Srt.IsS its xs → Vals (xs.map V.str) its
  | _, _, .nil => .nil
  | _, _, .cons r t => .cons r (each_vals t)
theorem rs_strs {C : Ct} {F : Hp} : ∀ (xs : List Str), Rs C F (xs.map PV.str) (xs.map V.str)
  | [] => Rs.nil
  | x :: xs => Rs.cons (by unfold R; rfl) (rs_strs xs)
theorem RV.lam {g : Gm} {F H H1 : Hp} {σ : L2.St} {env : Env'} {x : Val} {v : V} (r : RV g F H σ env x v) (k : KptN H H1) : RV g F H1 σ env x v := by
  cases x with
  | fz p => exact r
  | bor i => exact r
  | new p =>
    obtain ⟨a, e, h, r2⟩ := r
    obtain ⟨o, ho⟩ := h.cell
    exact ⟨a, e, h.mono (Ex.refl F).le (((k a o ho).eq (h.pln ho).1).trans ho.symm), r2⟩
theorem lst_strs {ps : List PV} {xs : List Str} (h : txtsP (.lst ps) = some xs) : ps = xs.map PV.str := strsP_is h
theorem keys_strs {ks : List Key} {vs : List PV} {xs : List Str} (h : txtsP (.dK ks vs) = some xs) : ks = xs.map Sum.inr := keysS_is h
end VL

set_option maxRecDepth 100000
set_option maxHeartbeats 2000000
namespace VL
open PySem PySem.Spec L2 LamX
open PyProof.Rows hiding St
open PySem.W (EachIs)
/-- a lambda's scope: one parameter v, len a global -/
structure LnSc (scope : Scope) (v : Str) : Prop where
  kind : scope.kind = .function
  co : scope.isCoroutine = false
  gen : scope.isGenerator = false
  cell : ∀ y ∈ scope.names, y.2 ≠ .cell
  free : ∀ y ∈ scope.names, y.2 ≠ .free
  v : scope.names.lookup v = some .local
  len : scope.names.lookup (Str.ofString "len") = some .globalImplicit
theorem clo_nil {cells : List (Str × Addr)} : ∀ {names : List (Str × NameKind)} {acc : List (Str × Addr)}, (∀ y ∈ names, y.2 ≠ .free) → cloFrom cells names acc = acc
  | [], acc, _ => rfl
  | (n, k) :: r, acc, h => by
    unfold cloFrom
    have hk : (k == NameKind.free) = false := by
      have := h (n, k) (List.mem_cons_self ..)
      cases k <;> first | rfl | exact absurd rfl this
    rw [if_neg (by rw [hk]; exact Bool.false_ne_true)]
    exact clo_nil fun y hy => h y (List.mem_cons_of_mem _ hy)
theorem paired_at {α β : Type} {R : α → β → Prop} : ∀ {l : List α} {m : List β} {j : Nat} {a : α} {b : β}, Paired R l m → l[j]? = some a → m[j]? = some b → R a b
  | _, _, j, a, b, .nil, h, _ => by simp at h
  | _, _, 0, a, b, .cons r t, h, k => by simp at h k; subst h; subst k; exact r
  | _, _, j + 1, a, b, .cons r t, h, k => paired_at t (by simpa using h) (by simpa using k)
section
variable {X : Cx} {g : Gm} {pins : List (Addr × Obj)} {F H : Hp} {σ : L2.St} {env : Env'} {s : Shared} {d : Env' → Res Val}
/-- what is sorted is collected: its texts -/
theorem ln_coll {p : PV} {v : V} {u : Value} {xs : List Str} {A : Around} (hcalm : X.calm = true) (hK : g.C.K = X.K) (I : Inv X pins σ H s) (t : Rt g.C F H p v) (ru : RelV v u) (hp : txtsP p = some xs) (hA : A.handled = none) :
    xs.length ≤ sizeLine ∧ ∀ (E' : Value → Shared → Prop) (Q' : List Value → Shared → Prop), (∀ h1 tk vs, Srt.Keeps s.heap h1 → EachIs Srt.IsS vs xs → Q' vs { s with heap := h1, toks := tk }) → wpAny (model X.prog X.w) A (PySem.collect u) Q' E' s := by
  cases p with
  | lst ps =>
    obtain ⟨a, vs, rfl, h1, h2⟩ := t
    obtain rfl := lst_strs hp
    obtain rfl := h2.strs_of
    obtain rfl : u = Value.ref a := ru
    obtain ⟨its, rv, pl, hz⟩ := I.list (show SqL X.K H a _ from SqL.of h1)
    have hl : (xs.map V.str).length = xs.length := List.length_map _
    refine ⟨by omega, fun E' Q' k => Srt.collect_list_k pl.isList (by rw [← rv.length]; exact hz) fun h1 kp => k h1 s.toks its kp (vals_each rv)⟩
  | dK ks ps =>
    obtain ⟨a, kvs, rfl, h1, hk, h2⟩ := t
    obtain rfl := keys_strs hp
    obtain rfl : u = Value.ref a := ru
    obtain ⟨hz, hs, vs', kv, hd⟩ := (show ObjOk X.prog X.w H s.heap a (.dK kvs) from h1.ok I.hok)
    obtain ⟨ep, hda⟩ := hd.dictAt
    have lk : kvs.length = xs.length := by rw [← List.length_map (f := Prod.fst) (as := kvs), hk, List.length_map]
    have l2 : kvs.length = vs'.length := Paired.length kv
    refine ⟨by omega, fun E' Q' k => PySem.W.kdu_collect (PySem.W.kdl_dict hs) hA hda (by omega) fun h' tk acc kp it => k h' tk acc.toList kp ?_⟩
    refine Srt.each_get (by rw [Array.length_toList, it.1]; omega) fun j w x e1 e2 => ?_
    obtain ⟨key, val, e3, e4⟩ := it.2 j w (by rw [← Array.getElem?_toList]; exact e1)
    have e5 : (kvs.map Prod.fst)[j]? = some (Sum.inr x) := by rw [hk, List.getElem?_map, e2]; rfl
    rw [List.getElem?_map] at e5
    cases q : kvs[j]? with
    | none => rw [q] at e5; cases e5
    | some kv0 =>
      rw [q] at e5
      have e6 : kv0.1 = Sum.inr x := Option.some.inj e5
      have e7 : kv0.1 = key := (paired_at kv q e3).1
      rw [e6] at e7
      have e4 : keyIs key w = true := e4
      rcases keyIs_shape e4 with ⟨i, t, rfl, z⟩ | ⟨y, t, rfl, z⟩
      · cases e7
      · cases e7; exact ⟨t, z⟩
  | _ => cases hp
/-- THE RULE: sorted(x, key=lambda v: (len(v), v)) -/
theorem se_sortLn {x : Expr} {v : Str} {params : Arguments} {scope : Scope} {k j : Nat} {c P : Addr} {p1 p2 pos lp q1 q2 q3 q4 q5 : Pos} (ok : Ok X g) (TB : TabB X.base X.mg c P) (hcode : X.env.code = .ref c) (hm : (P, X.env.qual ++ "<lambda>") ∈ g.C.T) (hu : ∀ p ∈ g.C.T, p.1 = P → p.2 = X.env.qual ++ "<lambda>")
    (hdef : defaultsOf params X.env = ([], [])) (sc : LnSc scope v)
    (hbind : ∀ (q : Str) (pm cv ct u : Value), bindArgs (PySem.W.kla_fn "<lambda>" q params (.Tuple [.Call (.Name (Str.ofString "len") q1) [.Name v q2] [] q3, .Name v q4] k q5) scope [] pm cv ct) ⟨[u], []⟩ = pure [(v, u)])
    (hd : (v == ("__debug__" : Str)) = false) (hr : Room j X.A) (hgs : Gl X "sorted") (hms : X.mg "sorted" = none) (hml : X.mg "len" = none) (ha : PE X x (tE g d))
    (he : backTo pos (starEach [x] X.env) = (false, eval x X.env) :: backTo pos (starEach [] X.env)) (hpl : (backTo pos (starEach [x] X.env)).any (·.1) = false) :
    PE X (.Call (.Name "sorted" p1) [x] [⟨some "key", .Lambda params (.Tuple [.Call (.Name (Str.ofString "len") q1) [.Name v q2] [] q3, .Name v q4] k q5) scope lp, p2⟩] pos) (tE g (dSortLn d)) := by
  refine ⟨fun pins s σ H Q I ⟨F, env, S, go⟩ => ?_⟩
  refine wpAny_Call_Name_kw (ld_blt I hgs hms boot_sorted ?_)
  refine callWith_kw ?_ he hpl rfl rfl
  rw [he]
  refine Calls.spliced_cons (thn (ha.run pins s σ H (fun v H1 => ∃ F1 env1 y, Ex F F1 ∧ Stt g F1 H1 σ env1 ∧ RV g F1 H1 σ env1 y v ∧ Go g F1 σ (match peek y env1 with
    | some p => match semLn p with
      | some q => .ok (.new q) env1
      | none => .bad
    | none => .bad) fun x env' F' H' => ∀ v, RV g F' H' σ env' x v → Q v H') I ⟨F, env, S, (Go.bind go).mono fun y e F1 H1 x1 S1 k v r => ⟨F1, e, y, x1, S1, r, k⟩⟩) fun u s1 ⟨v1, H1, I1, r1, F1, env1, y, x1, S1, rv, go1⟩ => ?_)
  refine Calls.spliced_nil (kws_cons ?_)
  have hfree : ∀ y ∈ scope.names, y.2 = .free → ∃ c, X.env.cells.lookup y.1 = some c := fun y hy e => absurd e (sc.free y hy)
  refine lam_make3 I1 TB hcode hm hu S1.tab hdef hfree fun f c' pm ctv H2 s2 I2 kpt T2 of fn nofr hc' => ?_
  refine kws_nil ?_
  show wpAny _ _ (PySem.call (.builtin "sorted") [u] [(Str.ofString "key", .ref f)]) _ _ _
  have S2 := S1.lam kpt T2
  have rv2 := RV.lam rv kpt
  cases hp : peek y env1 with
  | none => rw [hp] at go1; exact go1.elim
  | some p =>
    have t := peek_ok S2 rv2 hp
    rw [hp] at go1
    cases hx : txtsP p with
    | none =>
      have : semLn p = none := by unfold semLn; rw [hx]; rfl
      simp only [this] at go1; exact go1.elim
    | some xs =>
      by_cases hall : xs.all (fun x => decide (x.cps.size < 4611686018427387904)) = true
      · have e : semLn p = some (.lst ((sortLn xs).map PV.str)) := by unfold semLn; rw [hx]; simp only [Option.bind_some, hall, if_true]
        simp only [e] at go1
        have hall' : ∀ x ∈ xs, x.cps.size < 2 ^ 62 := fun x hx => by
          have := of_decide_eq_true (List.all_eq_true.mp hall x hx)
          omega
        have rl : RelV v1 u := r1
        obtain ⟨hz, hcol⟩ := ln_coll (A := X.A.in1) ok.calm ok.K I2 t rl hx (I2.ok.hd ok.calm)
        have hdep : X.A.depth < recursionLimit := hr.depth
        have huu := ok.u
        obtain ⟨⟨oc, cvs, ct, hoc, hdc, hvc⟩, _, _⟩ := I2.hok c' _ hc'
        rw [clo_nil sc.free] at of
        obtain ⟨mb, hb1, hb2⟩ := I2.mod.blt
        refine Srt.srt_ln hz (by omega) hcol (fun x hx t h tk kp => ?_) fun out c0 h1 h' tk p k1 k2 hle hget each => ?_
        · refine ln_call (s := { s2 with heap := h, toks := tk }) (x := x) (t := t) (f := f) (c' := c') (mg := X.mg) (mb := mb) hdep rfl (kp _ _ of) ⟨c', oc, cvs, ct, rfl, kp _ _ hoc, hdc, hvc⟩ (I2.nolimit.keeps kp) (hbind _ _ _ _ _) sc.kind sc.co sc.gen sc.cell sc.v sc.len
            ((I2.mod.glob.keeps I2.bk).keeps kp) hml ((hb1.keeps I2.bk).keeps kp) ((hb2 _ (by decide)).trans boot_len) (hall' x hx) hd
        · have I3 := (I2.kept (t' := s2.toks) k1).laid (t' := tk) (a := p) (o := .lst ((sortLn xs).map V.str)) (h' := h') k2 hle ⟨by
            rw [List.length_map]
            unfold sortLn
            rw [List.length_mergeSort]; exact hz, out, c0, each_vals each, hget⟩
          refine ⟨.ref p, _, I3, rfl, ?_⟩
          exact fin_lst S2 (Inv.hok (I2.kept (t' := s2.toks) k1) |>.fresh hle) (rs_strs _) fun F' H' w x3 S3 r3 => go1 F' H' x3 S3 w r3
      · have : semLn p = none := by unfold semLn; rw [hx]; simp only [Option.bind_some]; rw [if_neg hall]
        simp only [this] at go1; exact go1.elim
end
/-- the name of a lambda made in the def x -/
def lamQ (x : Str) : Str := (x ++ ".<locals>.") ++ "<lambda>"
/-- what is known of a def x that makes a lambda: its code object at c, its table -/
structure LamF (base : Heap) (mg : Str → Option Value) (C : Ct) (x : Str) (c : Addr) : Prop where
  ex : ∃ P, TabB base mg c P ∧ (P, lamQ x) ∈ C.T ∧ ∀ p ∈ C.T, p.1 = P → p.2 = lamQ x
section
variable {C : Ct}
/-- a def whose code object is known, by its body -/
theorem fnVc {P : Program} {w : World} {K : PySem.W.Frag} {mg : Str → Option Value} {base : Heap} {x qual : Str} {params : Arguments} {body : List Stmt} {scope : Scope} {dvs : List V} {kws : List (Str × V)} {f c : Addr} {fd : FuncData} {N ps : List Str} {md : Md} {k : Nat} {d : Env' → Res Fl}
    (Fd : FunD K x qual params body scope dvs kws f fd) (hc : fd.code = .ref c) (S : FnScope N ps scope) (hmd : md.length = ps.length) (hn : md.length ≤ N.length) (hK : C.K = K)
    (hb : ∀ (A : Around) (outer : List Env) (s : Shared) (H : Hp) (E : XK) (g : Gm), g.C = C → Room k (cxOf C8.CX0 P w K mg base N qual scope f (.ref c) A outer s H E).nox.A → Ok (cxOf C8.CX0 P w K mg base N qual scope f (.ref c) A outer s H E).nox g →
      PSs (cxOf C8.CX0 P w K mg base N qual scope f (.ref c) A outer s H E).nox body (tS g d)) : FnOk P w K mg base C8.CX0 (k + 1) f fd ps (SpV C md (callFn N.length md d)) := by
  obtain ⟨oc, od, dV, kV, doc, pm, an, cdv, ct, osl, rfl, lk, hcd, _, _⟩ := Fd.ex
  obtain rfl : cdv = .ref c := hc
  refine fn_of lk hcd S (fun vs H Q E h => by rw [SpV.len vs H Q E h, hmd]) fun A outer s H vs Q E hr h => ?_
  obtain ⟨F, q⟩ := body_ok (E := E) hn h
  exact ⟨_, PSs.nox (hb A outer s H E (callG C F H md vs) rfl hr ⟨hK, by have := hr.un; show A.units + 3 + 65 < cLine; have : (A.deeper (envOfC qual scope s.heap.objs.size f (.ref c))).units = A.units + 3 := rfl; omega, rfl⟩), q⟩
end
end VL

set_option maxRecDepth 100000
set_option maxHeartbeats 2000000
namespace VL
open PySem PySem.Spec L2 LamX
open PyProof.Rows hiding St
/-! ### the law's own call -/
theorem spv_law {C : Ct} {fn : List PV → FR} {ns : List Int} {a : Addr} {H : Hp} (hS : SqL C.K H a (ns.map V.int)) (hT : Tabs C.T H) (hf : fn [.scr ns] = .ok (.fz (.bl true)) []) : SpV C [false] fn [.ref a] H (fun v _ => v = .bl true) fun _ _ _ => False := by
  have ha : (fun b => if b = a then H b else none : Hp) a = H a := if_pos rfl
  refine ⟨fun b => if b = a then H b else none, [.scr ns], .fz (.bl true), [], fun b o (e : (if b = a then H b else none) = some o) => ?_, hT, ⟨_, _, _, _, rfl, rfl, ?_, rfl, rfl⟩, List.nodup_nil, hf, fun F' H' v _ _ _ _ _ _ r => ?_⟩
  · by_cases hb : b = a
    · rw [if_pos hb] at e
      exact .inl (.inl e)
    · rw [if_neg hb] at e; cases e
  · rw [if_neg Bool.false_ne_true]
    unfold R
    refine ⟨a, rfl, ?_⟩
    rcases hS with h | h
    · rcases h with h | ⟨o, h⟩
      · exact .inl (.inl (ha.trans h))
      · exact .inl (.inr ⟨o, ha.trans h⟩)
    · exact .inr h
  · have r : R C F' (.bl true) v := r
    unfold R at r
    exact r
theorem tabs_nil {T : List (Addr × Str)} {H : Hp} (h : ∀ p ∈ T, H p.1 = some (.tbl #[])) : Tabs T H := fun p hp => TabS.nil (h p hp)
/-- a def that makes a lambda, from the head's facts -/
theorem code_at {K : PySem.W.Frag} {x qual : Str} {params : Arguments} {body : List Stmt} {scope : Scope} {dvs : List V} {kws : List (Str × V)} {p : Str × Option Str} {fd : FuncData} (F : FunD K x qual params body scope dvs kws (He.fAd K p) fd) : fd.code = .ref (He.cT K p).1 := by
  obtain ⟨oc, od, dV, kV, doc, pm, an, cdv, ct, osl, e, lk, hcd, _, _⟩ := F.ex
  obtain ⟨c, hc⟩ := He.codeIn_ref hcd
  have e1 : fd.code = .ref c := by rw [e]; exact hc
  rw [e1]
  exact congrArg Value.ref (He.codeOf_eq lk e1).symm
theorem rel_int {mg : Str → Option Value} {x : Str} {i : Int} (h : ∃ t, mg x = some (.int i t)) : ∃ u, mg x = some u ∧ RelV (.int i) u := let ⟨t, e⟩ := h; ⟨_, e, t, rfl⟩
theorem rel_str {mg : Str → Option Value} {x z : Str} (h : ∃ t, mg x = some (.str z t)) : ∃ u, mg x = some u ∧ RelV (.str z) u := let ⟨t, e⟩ := h; ⟨_, e, t, rfl⟩
end VL

set_option maxRecDepth 100000
set_option maxHeartbeats 2000000
namespace VL
open PySem PySem.Spec L2
open PyProof.Rows hiding St
/-! ### < of two pairs of numbers -/
def semLtP : PV → PV → Option Val
  | .tup [.int a, .int b], .tup [.int c, .int d] => some (.fz (.bl (if a = c then decide (b < d) else decide (a < c))))
  | _, _ => none
theorem semLtP_inv {p q : PV} {x : Val} (h : semLtP p q = some x) : ∃ a b c d : Int, p = .tup [.int a, .int b] ∧ q = .tup [.int c, .int d] ∧ x = .fz (.bl (if a = c then decide (b < d) else decide (a < c))) := by
  unfold semLtP at h
  split at h
  · cases h; exact ⟨_, _, _, _, rfl, rfl, rfl⟩
  · cases h
section
variable {X : Cx} {g : Gm} {F H : Hp}
theorem rt_pair {C : Ct} {a b : Int} {v : V} (h : Rt C F H (.tup [.int a, .int b]) v) : ∃ ad, v = .ref ad ∧ H ad = some (.tup [.int a, .int b]) := by
  obtain ⟨ad, vs, rfl, h1, h2, _⟩ := h
  obtain rfl : vs = [a, b].map V.int := Rs.ints_of (ns := [a, b]) h2
  exact ⟨ad, rfl, h1⟩
theorem two_at {its : List Value} {a b : Int} (h : Vals [V.int a, V.int b] its) : ∃ t u, its = [.int a t, .int b u] := by
  cases h with
  | cons h1 h2 =>
    cases h2 with
    | cons h3 h4 =>
      cases h4
      obtain ⟨t, rfl⟩ := h1
      obtain ⟨u, rfl⟩ := h3
      exact ⟨t, u, rfl⟩
theorem int_eqv (a b : Int) : (a == b) = decide (a = b) := by
  by_cases h : a = b
  · rw [decide_eq_true h, h]; exact beq_self_eq_true b
  · rw [decide_eq_false h]; exact beq_eq_false_iff_ne.mpr h
theorem o_ltP (ok : Ok X g) : Op2 X g (compareOp .Lt) semLtP := by
  intro pins s σ F H env p q v u vv uu r Q I S r1 r2 t1 t2 e k
  obtain ⟨a, b, c, d, rfl, rfl, rfl⟩ := semLtP_inv e
  obtain ⟨x, rfl, hx⟩ := rt_pair t1
  obtain ⟨y, rfl, hy⟩ := rt_pair t2
  cases r1; cases r2
  obtain ⟨its, v1, p1, _⟩ := I.tuple (SqT.of hx)
  obtain ⟨its2, v2, p2, _⟩ := I.tuple (SqT.of hy)
  obtain ⟨ta, tb, rfl⟩ := two_at v1
  obtain ⟨tc, td, rfl⟩ := two_at v2
  have R := Ob.RcOp.tuples_lt (A := X.A) (s := s) (e := fun j => if j = 0 then decide (a = c) else decide (b = d)) (r := fun j => if j = 0 then decide (a < c) else decide (b < d)) p1 p2 (by have := ok.u1; omega)
    (fun j h1 h2 => by
      match j, h1, h2 with
      | 0, _, _ => show SeqAt.EqAt X.A.in1 s (.int a ta) (.int c tc) (decide (a = c)); rw [← int_eqv]; exact SeqAt.EqAt.int_int _ _ _ _
      | 1, _, _ => show SeqAt.EqAt X.A.in1 s (.int b tb) (.int d td) (decide (b = d)); rw [← int_eqv]; exact SeqAt.EqAt.int_int _ _ _ _
      | n + 2, h, _ => exact absurd h (by simp))
    (fun j h1 h2 _ => by
      match j, h1, h2 with
      | 0, _, _ => exact Ob.RcOp.lt_int _ _ _ _
      | 1, _, _ => exact Ob.RcOp.lt_int _ _ _ _
      | n + 2, h, _ => exact absurd h (by simp))
  have hb : Ob.lexAt (fun j => if j = 0 then decide (a = c) else decide (b = d)) (fun j => if j = 0 then decide (a < c) else decide (b < d)) (decide ([Value.int a ta, .int b tb].toArray.size < [Value.int c tc, .int d td].toArray.size)) 0 (min [Value.int a ta, .int b tb].toArray.size [Value.int c tc, .int d td].toArray.size)
      = (if a = c then decide (b < d) else decide (a < c)) := by
    show Ob.lexAt _ _ (decide (2 < 2)) 0 2 = _
    simp only [Ob.lexAt]
    by_cases h : a = c
    · by_cases h' : b = d
      · simp [h, h']
      · simp [h, h']
    · simp [h]
  rw [hb] at R
  exact R X.prog X.w X.xe _ ⟨.bl _, H, I, rfl, fin_bl S k⟩
end
end VL

set_option maxRecDepth 100000
set_option maxHeartbeats 2000000
namespace VL
open PySem PySem.Spec L2
open PyProof.Rows hiding St
/-! ### a token is out -/
theorem tkM {α : Type} {M : Model} {A : Around} {t : Sem α} {s : Shared} {Q Q' : α → Shared → Prop} {E E' : Value → Shared → Prop} (hk : 1 ≤ s.toks) (h : wpAny M A t Q E s) (hE : ∀ e s', E e s' → E' e s') (k : ∀ a s', 1 ≤ s'.toks → Q a s' → Q' a s') :
    wpAny M A t Q' E' s := wpAny_mono (wpAny_toks_of hk h) (fun a s' q => k a s' q.1 q.2) fun e s' q => hE e s' q.2
/-- what is read gives a token out -/
def PEf (X : Cx) (e : Expr) (t : TE) : Prop :=
  ∀ (pins : List (Addr × Obj)) (s : Shared) (σ : St) (H : Hp) (Q : VK), Inv X pins σ H s → t σ H Q → wpAny (model X.prog X.w) X.A (eval e X.env) (fun v s' => 1 ≤ s'.toks ∧ EP X pins σ Q v s') X.xe s
def PAf (X : Cx) (es : List Expr) (t : TA) : Prop :=
  ∀ (pos : Pos) (pins : List (Addr × Obj)) (s : Shared) (σ : St) (H : Hp) (Q : List V → Hp → Prop), Inv X pins σ H s → t σ H Q → wpAny (model X.prog X.w) X.A (spliced (backTo pos (starEach es X.env))) (fun vs s' => 1 ≤ s'.toks ∧ AP X pins σ Q vs s') X.xe s
def PSf (X : Cx) (st : Stmt) (t : TS) : Prop :=
  ∀ (pins : List (Addr × Obj)) (s : Shared) (σ : St) (H : Hp) (D : Ends), Inv X pins σ H s → t D σ H → wpAny (model X.prog X.w) X.A (exec st X.env) (fun f s' => 1 ≤ s'.toks ∧ SP X pins D f s') X.xe s
section
variable {X : Cx} {g : Gm} {e : Expr} {es : List Expr} {te : TE} {ta : TA} {st : Stmt} {rest : List Stmt} {t u : TS} {pos : Pos}
theorem peF (h : PEf X e te) : PE X e te := ⟨fun pins s σ H Q I q => wpAny_mono (h pins s σ H Q I q) (fun _ _ z => z.2) fun _ _ z => z⟩
/-- a number written out gives one -/
theorem paF_int {i : Int} {j : Nat} {cpos : Pos} (hr : PA X es ta) (hs : starEach (.Constant (.int i) j cpos :: es) X.env = (false, eval (.Constant (.int i) j cpos) X.env) :: starEach es X.env) :
    PAf X (.Constant (.int i) j cpos :: es) (tCons (tC (.int i)) ta) := by
  intro pos pins s σ H Q I h
  rw [hs]
  show wpAny _ _ (spliced ((false, eval (.Constant (.int i) j cpos) X.env) :: backTo pos (starEach es X.env))) _ _ s
  refine Calls.spliced_cons ?_
  refine wpAny_Constant_int ?_
  have I1 : Inv X pins σ H { s with toks := s.toks + 1 } := I.tok _
  exact tkM (by show 1 ≤ s.toks + 1; omega) (hr.run pos pins _ σ H _ I1 h) (fun _ _ z => z) fun us s' hk ⟨xs, H2, I2, r, q⟩ => ⟨hk, .int i :: xs, H2, I2, .cons ⟨_, rfl⟩ r, q⟩
/-- what follows keeps it -/
theorem paF_fst (ha : PEf X e te) (hr : PA X es ta) (hs : starEach (e :: es) X.env = (false, eval e X.env) :: starEach es X.env) : PAf X (e :: es) (tCons te ta) := by
  intro pos pins s σ H Q I h
  rw [hs]
  show wpAny _ _ (spliced ((false, eval e X.env) :: backTo pos (starEach es X.env))) _ _ s
  refine Calls.spliced_cons (wpAny_mono (ha pins s σ H _ I h) (fun v s1 z => ?_) fun _ _ z => z)
  obtain ⟨hk, x, H1, I1, r1, q⟩ := z
  exact tkM hk (hr.run pos pins s1 σ H1 _ I1 q) (fun _ _ z => z) fun us s' hk' ⟨xs, H2, I2, r, q2⟩ => ⟨hk', _, H2, I2, .cons r1 r, q2⟩
theorem paF_snd (ha : PE X e te) (hr : PAf X es ta) (hs : starEach (e :: es) X.env = (false, eval e X.env) :: starEach es X.env) : PAf X (e :: es) (tCons te ta) := by
  intro pos pins s σ H Q I h
  rw [hs]
  show wpAny _ _ (spliced ((false, eval e X.env) :: backTo pos (starEach es X.env))) _ _ s
  refine Calls.spliced_cons (thn (ha.run pins s σ H _ I h) fun v s1 z => ?_)
  obtain ⟨x, H1, I1, r1, q⟩ := z
  exact thn (hr pos pins s1 σ H1 _ I1 q) fun us s' ⟨hk', xs, H2, I2, r, q2⟩ => ⟨hk', _, H2, I2, .cons r1 r, q2⟩
theorem peF_lst (h : PAf X es ta) : PEf X (.List es pos) (tLst ta) := by
  intro pins s σ H Q I hq
  refine wpAny_List_spliced (thn (h pos pins s σ H _ I hq) fun us s1 ⟨hk, xs, H1, I1, r, z, q⟩ => ⟨by rw [← r.length]; exact z, hk, ?_⟩)
  have new : H1 s1.heap.objs.size = none := I1.hok.fresh (Nat.le_refl _)
  have I2 := I1.laid (a := s1.heap.objs.size) (o := .lst xs) (h' := s1.heap.push { cls := .type "list", data := .seq us.toArray }) (t' := s1.toks) (fun b u z => Heap.get?_push_of_some _ z) (Nat.le_refl _) ⟨z, us, 0, r, Heap.get?_push_size _ rfl⟩
  exact ⟨.ref s1.heap.objs.size, _, I2, rfl, q _ new⟩
theorem peF_fn {k j : Nat} {x : Str} {p : Pos} {sp : Sp} {dvs : List V} (c : C8.Cal X.prog X.w X.K X.mg X.base k x sp dvs) (hr : Room j X.A) (hk : k ≤ j) (hg : Gl X x) (ha : PAf X (e :: es) ta)
    (hdb : (x == ("__debug__" : Str)) = false) (he : starEach (e :: es) X.env = (false, eval e X.env) :: starEach es X.env) (hpl : (backTo pos (starEach es X.env)).any (·.1) = false) :
    PEf X (.Call (.Name x p) (e :: es) [] pos) (tCall sp dvs C8.E0 ta) := by
  obtain ⟨f, fd, ps, ds, F, hm, kp, b, d⟩ := c.ex
  intro pins s σ H Q I h
  refine wpAny_Call_Name_kw (ld_glob I hg hm ?_ hdb)
  refine PySem.W.callWith_K (h₀ := X.base) I.ok.mod.kin kp (thn (ha pos pins s σ H _ I h) fun us s1 z => ?_) he hpl
  obtain ⟨tk, vs, H1, I1, r, q⟩ := z
  exact ⟨I1.kIn, tkM tk (run_fn F (hr.mono hk) b d C8.pass0 I1 r q) (fun _ _ z => z) fun _ _ h1 h2 => ⟨h1, h2⟩⟩
theorem psF_set {i : Nat} {x : Str} {pos' : Pos} (hN : X.N.Nodup) (hi : X.N[i]? = some x) (hx : Loc X.env.scope x) (he : PEf X e te) (hs : swapsWith e (some (.Name x pos')) pos.line X.env = pure false) (hf : X.fn x = true ∨ X.env.scope.names.lookup x = some .local) :
    PSf X (.Assign [.Name x pos'] e pos) (tAsg te (gName i)) := by
  intro pins s σ H D I h
  refine wpAny_Assign_Name (thn (he pins s σ H _ I h) fun v s1 z => ?_) hs
  obtain ⟨tk, y, H1, I1, r1, q1⟩ := z
  exact tkM tk (store_ok (Q := fun _ s2 => SP X pins D .next s2) I1 hN hi hx r1 (fun s2 I2 => ⟨_, H1, I2, q1⟩) hf) (fun _ _ z => z) fun _ _ h1 h2 => ⟨h1, h2⟩
theorem pssF_cons (h1 : PSf X st t) (h2 : PSsT X rest u) : PSs X (st :: rest) (tSeq t u) := by
  refine ⟨fun pins s σ H D I h => wpAny_execs_cons (thn (h1 pins s σ H { D with nx := u D } I h) fun f s1 z => ?_)⟩
  obtain ⟨tk, z⟩ := z
  cases f with
  | next =>
    obtain ⟨σ', H', I', q⟩ := z
    exact h2 pins s1 σ' H' D tk I' q
  | ret v => exact z
  | brk => exact z
  | cont => exact z
theorem petImp {t t' : TE} (h : PET X e t) (k : ∀ σ H Q, t' σ H Q → t σ H Q) : PET X e t' := fun pins s σ H Q h0 I q => h pins s σ H Q h0 I (k σ H Q q)
theorem pstImp {t t' : TS} (h : PST X st t) (k : ∀ D σ H, t' D σ H → t D σ H) : PST X st t' := fun pins s σ H D h0 I q => h pins s σ H D h0 I (k D σ H q)
theorem psstImp {t t' : TS} (h : PSsT X rest t) (k : ∀ D σ H, t' D σ H → t D σ H) : PSsT X rest t' := fun pins s σ H D h0 I q => h pins s σ H D h0 I (k D σ H q)
/-! ### replace -/
def semRepl (y z : Str) : PV → Option Val
  | .str x => if x.length + (x.length + 1) * z.length ≤ 16777216 then some (.fz (.str (Txt.replace x y z))) else none
  | _ => none
theorem tRepl_of {da : Env' → Res Val} {y z : Str} {σ : St} {H : Hp} {Q : VK} (h : tE g (dUn (semRepl y z) da) σ H Q) : CwR.tReplC (tE g da) y z σ H Q := by
  obtain ⟨F, env, S, go⟩ := h
  refine ⟨F, env, S, ?_⟩
  unfold dUn at go
  rw [stl_bind] at go
  refine (Go.bind go).mono fun x e F' H' e1 S1 k v r => ?_
  refine settle (Q := fun _ _ => True) S1 r fun F2 e2 S2 r2 => ?_
  cases hp : peek x.stl e with
  | none => rw [hp] at k; exact k.elim
  | some p =>
    rw [hp] at k
    have t := peek_ok S2 r2 hp
    dsimp only at k
    cases hq : semRepl y z p with
    | none => rw [hq] at k; exact k.elim
    | some w =>
      rw [hq] at k
      cases p with
      | str x =>
        unfold semRepl at hq
        dsimp only at hq
        split at hq
        · rename_i hl
          cases hq
          cases rt_str t
          exact ⟨x, rfl, hl, k F2 H' e2 S2 _ (by show R _ _ _ _; unfold R; rfl)⟩
        · cases hq
      | _ => cases hq
theorem set_repl {o : Expr} {y z : Str} {j k : Nat} {c0 c1 apos pos : Pos} {da : Env' → Res Val} (ho : PET X o (tE g da)) (hyz : (y == z) = false)
    (hst : starEach [.Constant (.str y) j c0, .Constant (.str z) k c1] X.env = [(false, eval (.Constant (.str y) j c0) X.env), (false, eval (.Constant (.str z) k c1) X.env)])
    (hbase : attributeBase o "replace" X.env (eval o X.env) = eval o X.env) (hline : (apos.endLine == pos.line) = true) :
    PET X (.Call (.Attribute o "replace" apos) [.Constant (.str y) j c0, .Constant (.str z) k c1] [] pos) (tE g (dUn (semRepl y z) da)) :=
  petImp (CwR.pet_replT ho hyz hst hbase hline) fun _ _ _ => tRepl_of
theorem set_of {da : Env' → Res Val} (h : PE X e (tE g da)) : PET X e (tE g da) := CwR.PET.of h
end
end VL

set_option maxRecDepth 100000
set_option maxHeartbeats 2000000
namespace VL
open PySem PySem.Spec L2
open PyProof.Rows hiding St
/-! ### a comprehension whose items want a token that is out -/
/-- what holds at the head of each turn of a block Y -/
structure TkH (Y : Cx) (τ : St) (tn : Nat → Heap → Prop) (fp : List Addr) (W : Nat → Nat → Hp → Prop) (n : Nat) (s : Shared) : Prop where
  out : 1 ≤ s.toks
  at_ : ∃ i H, Inv Y [] τ H s ∧ tn i s.heap ∧ (∀ b ∈ fp, H b = none) ∧ W i n H
section
variable {Y : Cx} {τ σ0 : St} {vs : List Nat} {tn : Nat → Heap → Prop} {fp : List Addr} {it D : Addr} {J : It} {W : Nat → Nat → Hp → Prop} {tg elt : Expr} {ifs : List Expr} {g : TG} {tt : TT} {te : TE} {Z : Hp → Prop} {R : Result → Shared → Prop} {EE : Value → Shared → Prop} {e0 : Env}
/-- the pins that a turn holds are given back -/
theorem tk_back (hτ : τ = wipe σ0 vs) (T : Turn Y.prog Y.w Y.K tg J fp it tn) {i n : Nat} {σ8 : St} {H' : Hp} {s7 s' : Shared} {Nx : Hp → Prop} (hN : ∀ H', Nx H' → ∃ m', m' < n ∧ W (i + 1) m' H') (st : tn (i + 1) s7.heap) (hw : wipe σ8 vs = τ)
    (hk : 1 ≤ s'.toks) (I : Inv Y ([] ++ pinsAt fp s7.heap) σ8 H' s') (nx : Nx H') : ∃ m, m < n ∧ TkH Y τ tn fp W m s' := by
  have stood : ∀ b ∈ fp, ∀ o, s7.heap.get? b = some o → s'.heap.get? b = some o ∧ H' b = none := by
    intro b hb o e
    obtain ⟨z1, z2, _⟩ := I.pin (b, o) (List.mem_append_right _ (List.mem_append_right _ (mem_pinsAt hb e)))
    exact ⟨z1, z2⟩
  obtain ⟨m, lt, w⟩ := hN H' nx
  refine ⟨m, lt, hk, i + 1, H', (I.unpinned (pins := [])).weak ?_ ?_, ?_, ?_, w⟩
  · rw [← hw, wipe_length]
  · intro j v e
    rw [← hw] at e
    exact (wipe_some e).1
  · exact T.keep _ _ _ st fun b hb o e => (stood b hb o e).1
  · intro b hb
    obtain ⟨o, e, _⟩ := T.obj _ _ st b hb
    exact (stood b hb o e).2
/-- one turn -/
theorem tk_turn (hτ : τ = wipe σ0 vs) (hx : Y.xe = fun _ _ => False) (hcal : Y.calm = true) (T : Turn Y.prog Y.w Y.K tg J fp it tn) (pg : PG Y tg g) (pt : PTs Y ifs tt) (pe : PET Y elt te)
    (stat : ∀ {σ' : St} {H' : Hp} {s' : Shared}, Inv Y [] σ' H' s' → (∀ b ∈ fp, H' b = none) → ∀ b ∈ fp, FpOk Y [] H' b)
    (hW : ∀ i m H, W i m H → (J.stop i H ∧ Z H) ∨ (J.go i H ∧ ∃ Nx : Hp → Prop, (∀ H', Nx H' → ∃ m', m' < m ∧ W (i + 1) m' H') ∧ ∀ x H', J.yld i H x H' → g x τ H' fun σ2 H2 => wipe σ2 vs = τ ∧ tt σ2 H2 fun b H3 =>
      if b = true then te σ2 H3 fun y H4 => ∃ acc, H4 D = some (.lst acc) ∧ acc.length < sizeLine ∧ Nx (upd H4 D (.lst (acc ++ [y]))) else Nx H3))
    (fin : ∀ s' H', Inv Y [] τ H' s' → Z H' → R (.ok .next) s') (n : Nat) (s : Shared) (h : TkH Y τ tn fp W n s) :
    wpAny (model Y.prog Y.w) Y.A (pyNext (.ref it)) (fun r s₁ => match r with
      | none => R (.ok .next) s₁
      | some v => wpAny (model Y.prog Y.w) Y.A (letOwnedTupleGo tg (.ref it) v) (fun _ s₂ => wpAny (model Y.prog Y.w) Y.A (assign tg Y.env v) (fun _ s₃ =>
          wpAny (model Y.prog Y.w) Y.A (forIn ifs true fun c r => if r = true then do let ok ← isTrue c Y.env (eval c Y.env); pure (ForInStep.yield ok) else pure (ForInStep.yield r)) (fun ok s₄ =>
            if ok = true then wpAny (model Y.prog Y.w) Y.A (eval elt Y.env) (fun x s₅ =>
              wpAny (model Y.prog Y.w) Y.A (call (.builtin "list.append") [.ref D, x]) (fun _ s₆ => ∃ m, m < n ∧ TkH Y τ tn fp W m s₆) EE s₅) EE s₄
            else ∃ m, m < n ∧ TkH Y τ tn fp W m s₄) EE s₃) EE s₂) EE s₁) EE s := by
  obtain ⟨hk, i, H, I, st, nn, w⟩ := h
  have no : ∀ e s', Y.xe e s' → EE e s' := fun e s' z => by rw [hx] at z; exact z.elim
  rcases hW i n H w with ⟨stop, z⟩ | ⟨go, Nx, hN, step⟩
  · refine tkM hk (T.done Y rfl rfl rfl hcal i [] s _ H Y.xe I (stat I nn) st stop) no fun r s1 _ ⟨hr, I1⟩ => ?_
    subst hr
    exact fin s1 H I1 z
  · refine tkM hk (T.item Y rfl rfl rfl hcal i [] s _ H Y.xe I (stat I nn) st go) no fun r s1 k1 ⟨u, hr, q1⟩ => ?_
    subst hr
    refine tkM k1 q1 no fun _ s2 k2 ⟨x, H2, I2, rx, y2, st2, n2⟩ => ?_
    have P2 := I2.pinned (stat I2 n2) (T.obj _ _ st2)
    refine tkM k2 (pg.run _ s2 _ H2 x u _ P2 rx (step x H2 y2)) no fun _ s3 k3 ⟨σ3, H3, I3, hw3, q3⟩ => ?_
    refine tkM k3 (pt.run _ s3 σ3 H3 _ I3 q3) no fun b s4 k4 ⟨H4, I4, q4⟩ => ?_
    cases b with
    | false => exact tk_back hτ T hN st2 hw3 k4 I4 (by simpa using q4)
    | true =>
      rw [if_pos rfl] at q4 ⊢
      refine tkM k4 (pe _ s4 σ3 H4 _ k4 I4 q4) no fun v s5 k5 ⟨yv, H5, I5, r5, acc, hD5, hz5, nx⟩ => ?_
      exact wpAny_with_toks k5 (app_ok I5 hD5 hz5 r5 fun s6 I6 k6 => tk_back hτ T hN st2 hw3 k6 I6 nx)
end
section
variable {X : Cx} {pins : List (Addr × Obj)} {s : Shared} {σ : St} {H : Hp} {Q : VK} {elt tg iter : Expr} {ifs : List Expr} {scope : Scope} {own : List (Str × Nat)} {pos pos' : Pos} {wi : TI} {g : TG} {tt : TT} {te : TE}
theorem tk_comp {use : Option (Value → Sem Unit)} {Qf : Value → Shared → Prop} (hk : 1 ≤ s.toks) (hcal : X.calm = true) (hN : X.N.Nodup) (I : Inv X pins σ H s) (hi : PI X tg iter wi) (bk : BlkOk X.N X.env.scope scope own)
    (hg : ∀ (s : Shared) (H : Hp) (C : Addr) (cl : List (Str × Addr)) (fp : List Addr), PG (X.blk s H scope (compEnvC scope cl C X.env) fp) tg g) (ht : ∀ (s : Shared) (H : Hp) (C : Addr) (cl : List (Str × Addr)) (fp : List Addr), PTs (X.blk s H scope (compEnvC scope cl C X.env) fp) ifs tt)
    (he : ∀ (s : Shared) (H : Hp) (C : Addr) (cl : List (Str × Addr)) (fp : List Addr), PET (X.blk s H scope (compEnvC scope cl C X.env) fp) elt te) (hs : ∀ x, foldedSetIterable iter X.env x = pure x)
    (h : tLc wi g tt te (own.map (·.2)) σ H Q)
    (last : ∀ D C s' m H', Inv X pins σ H' s' → Q (.ref D) H' → s'.heap.Ns C m → FpOk X pins H' C → compPost (model X.prog X.w) X.A X.xe use Qf (.ref D) C (.ok .next) s') :
    wpAny (model X.prog X.w) X.A (comprehension (.ListComp elt [⟨tg, iter, ifs, 0⟩] scope pos) scope X.env pos' (newList []) false (eval iter X.env) use) Qf X.xe s := by
  have cl : closureFor scope X.env = pure (cloFrom X.env.cells scope.names []) := closure_ok fun y hy e => I.ok.has _ (bk.free y hy e)
  refine wpAny_comprehension_free (use := use) rfl hs cl bk.kind (fun y hy e => e ▸ bk.uniq y hy) ?_
  refine tkM hk (hi.run pins s σ H _ I h) (fun _ _ z => z) fun xv s1 k1 z1 => tkM k1 z1 (fun _ _ z => z) fun itv s2 k2 ⟨it, fp, tn, J, H2, ev, I2, T, st2, f2, q⟩ => ?_
  subst ev
  refine wpAny_newObj_type (newEnv_comp ?_) (by show 0 ≤ sizeLine; decide)
  have hDn : H2 s2.heap.objs.size = none := I2.hok.fresh (Nat.le_refl _)
  obtain ⟨W, ⟨m0, w0⟩, turn⟩ := q _ hDn
  -- behind the new list
  generalize es3 : ({ s2 with heap := s2.heap.push { cls := .type "list", data := .seq ([] : List Value).toArray } } : Shared) = s3
  have hh3 : s3.heap = s2.heap.push { cls := .type "list", data := .seq ([] : List Value).toArray } := by rw [← es3]
  have k3 : 1 ≤ s3.toks := by rw [← es3]; exact k2
  have I3 : Inv X pins σ (upd H2 s2.heap.objs.size (.lst [])) s3 := by
    rw [← es3]
    exact I2.laid (t' := s2.toks) (fun b o z => Heap.get?_push_of_some _ z) (Nat.le_refl _) ⟨Nat.zero_le _, [], 0, .nil, Heap.get?_push_size _ rfl⟩
  have low : ∀ b ∈ fp, b < s2.heap.objs.size := fun b hb => (T.obj _ _ st2 b hb).elim fun _ z => Heap.lt_size z.1
  have f3 : ∀ b ∈ fp, FpOk X pins (upd H2 s2.heap.objs.size (.lst [])) b ∧ b < s3.heap.objs.size := by
    intro b hb
    have lt := low b hb
    obtain ⟨z1, z2⟩ := f2 b hb
    exact ⟨⟨by rw [upd_ne (Nat.ne_of_lt lt)]; exact z1, z2⟩, by rw [hh3, Heap.size_push]; exact Nat.lt_succ_of_lt lt⟩
  have st3 : tn 0 s3.heap := T.keep _ _ _ st2 fun b _ o z => by rw [hh3]; exact Heap.get?_push_of_some _ z
  generalize eH3 : upd H2 s2.heap.objs.size (.lst []) = H3 at I3 f3 w0
  have I4 := block_start I3 bk hN f3
  -- the block
  have pg := hg s3 H3 s3.heap.objs.size (cellsFrom (s3.heap.objs.size + 1) scope.names (cloFrom X.env.cells scope.names [])) fp
  have pt := ht s3 H3 s3.heap.objs.size (cellsFrom (s3.heap.objs.size + 1) scope.names (cloFrom X.env.cells scope.names [])) fp
  have pe := he s3 H3 s3.heap.objs.size (cellsFrom (s3.heap.objs.size + 1) scope.names (cloFrom X.env.cells scope.names [])) fp
  generalize ece : compEnvC scope (cellsFrom (s3.heap.objs.size + 1) scope.names (cloFrom X.env.cells scope.names [])) s3.heap.objs.size X.env = ce at I4 pg pt pe
  have cL : ce.locals = s3.heap.objs.size := by rw [← ece]; rfl
  generalize es4 : ({ s3 with heap := pushCells (s3.heap.push { cls := .type "dict", data := .dict #[] }) scope.names } : Shared) = s4 at I4
  have k4 : 1 ≤ s4.toks := by rw [← es4]; exact k3
  have st4 : tn 0 s4.heap := T.keep _ _ _ st3 fun b _ o z => by rw [← es4]; exact pushCells_keeps _ _ _ _ (Heap.get?_push_of_some _ z)
  have stat : ∀ {σ' : St} {H' : Hp} {s' : Shared}, Inv (X.blk s3 H3 scope ce fp) [] σ' H' s' → (∀ b ∈ fp, H' b = none) → ∀ b ∈ fp, FpOk (X.blk s3 H3 scope ce fp) [] H' b := by
    intro σ' H' s' J' nn b hb
    obtain ⟨z1, z2⟩ := J'.ok.exf b hb
    exact ⟨nn b hb, z1, J'.ok.exfs b hb, .inl hb, fun x c e => z2 x c e, fun p hp => by cases hp⟩
  have start : TkH (X.blk s3 H3 scope ce fp) (wipe σ (own.map (·.2))) tn fp W m0 s4 := ⟨k4, 0, H3, I4, st4, fun b hb => (f3 b hb).1.1, w0⟩
  have loop : codeAny (model X.prog X.w) X.A (.compLoop (.ListComp elt [⟨tg, iter, ifs, 0⟩] scope pos) 0 (.ref it) (.ref s2.heap.objs.size) ce) (compPost (model X.prog X.w) X.A X.xe use Qf (.ref s2.heap.objs.size) s3.heap.objs.size) s4 := by
    refine compLoop_any (TkH (X.blk s3 H3 scope ce fp) (wipe σ (own.map (·.2))) tn fp W) (fun n s5 z5 => ?_) m0 start
    refine tk_turn (Y := X.blk s3 H3 scope ce fp) (σ0 := σ) rfl rfl hcal T pg pt pe stat turn (fun s6 H6 I6 z => ?_) n s5 z5
    have nC : H6 s3.heap.objs.size = none := by rw [← cL]; exact I6.free
    obtain ⟨m, hn, _⟩ := I6.loc
    have hn : s6.heap.Ns ce.locals m := hn
    rw [cL] at hn
    refine last _ _ s6 m H6 (I3.call' (ch := fp) I6.os I6.base I6.hok I6.bare fun b hb => ?_) z hn (I3.fpOk (Nat.le_refl _) nC)
    obtain ⟨z0, z1, z2, z3, z4, z5⟩ := (f3 b hb).1
    exact ⟨z3, z1, z4, z5⟩
  have all := codeAny_compStart_list loop (T.self X.A 0 _ _ _ st4 loop)
  rw [← ece] at all
  exact all
/-- y = [..], y a local -/
theorem tk_setLc {i : Nat} {y : Str} {py spos : Pos} (hcal : X.calm = true) (hN : X.N.Nodup) (hy : X.N[i]? = some y) (hyl : X.env.scope.names.lookup y = some .local)
    (hsw : swapsWith (.ListComp elt [⟨tg, iter, ifs, 0⟩] scope pos) (some (.Name y py)) spos.line X.env = pure true) (hi : PI X tg iter wi) (bk : BlkOk X.N X.env.scope scope own)
    (hg : ∀ (s : Shared) (H : Hp) (C : Addr) (cl : List (Str × Addr)) (fp : List Addr), PG (X.blk s H scope (compEnvC scope cl C X.env) fp) tg g) (ht : ∀ (s : Shared) (H : Hp) (C : Addr) (cl : List (Str × Addr)) (fp : List Addr), PTs (X.blk s H scope (compEnvC scope cl C X.env) fp) ifs tt)
    (he : ∀ (s : Shared) (H : Hp) (C : Addr) (cl : List (Str × Addr)) (fp : List Addr), PET (X.blk s H scope (compEnvC scope cl C X.env) fp) elt te) (hs : ∀ x, foldedSetIterable iter X.env x = pure x) :
    PST X (.Assign [.Name y py] (.ListComp elt [⟨tg, iter, ifs, 0⟩] scope pos) spos) (tAsg (tLc wi g tt te (own.map (·.2))) (gName i)) := by
  intro pins s σ H D hk I h
  rw [exec_Assign_Name_used _ _ _ _ hsw]
  refine wpAny_bind (wpAny_standAt (wpAny_bind ?_))
  have h : tLc wi g tt te (own.map (·.2)) σ H (fun x H1 => gName i x σ H1 D.nx) := h
  show wpAny _ X.A (do let _ ← comprehension (.ListComp elt [⟨tg, iter, ifs, 0⟩] scope pos) scope X.env (firstIterPos [⟨tg, iter, ifs, 0⟩] pos) (newList []) false (eval iter X.env) (some (assign (.Name y py) X.env))) _ _ s
  refine wpAny_bind (wpAny_mono (tk_comp (Qf := fun _ s' => SP X pins D .next s') hk hcal hN I hi bk hg ht he hs h fun L C s' m H' I' q hn f => ?_) (fun _ s' z => wpAny_pure (wpAny_pure z)) fun _ _ z => z)
  obtain ⟨f0, f1, f2, f3, f4, f5⟩ := f
  refine wpAny_assign_Name (store_ok2 (v := V.ref L) I' hN hy (.inl hyl) rfl (fun s2 I2 ⟨a, sb, ha⟩ => ?_) (.inr hyl))
  have other : C ≠ a := ha.elim (fun z => z ▸ f1) fun z e => f4 y a z e.symm
  exact ⟨m, hn.sameBut sb other, fun h3 sb3 => ⟨_, H', I2.turned (t' := s2.toks) (fun b o hb z => (sb3.2 b hb).trans z) f0 f1 f3 f4 f5, q⟩⟩
end
end VL

set_option maxRecDepth 100000
set_option maxHeartbeats 2000000
namespace VL
open PySem PySem.Spec L2
open PyProof.Rows hiding St
/-! ### tokens: the walk's rows -/
section
variable {X : Cx} {g : Gm} {F H : Hp} {σ : St} {env : Env'} {C : Ct} {e a : Expr} {es : List Expr} {d da : Env' → Res Val} {ds : List (Env' → Res Val)} {st : Stmt} {r : List Stmt} {d1 d2 : Env' → Res Fl} {pos p : Pos}
theorem tCons_of {Q : List V → Hp → Prop} (h : tAs g (dArgs (d :: ds)) σ H Q) : tCons (tE g d) (tAs g (dArgs ds)) σ H Q := by
  obtain ⟨F, env, S, go⟩ := h
  unfold dArgs at go
  rw [stl_bind] at go
  refine ⟨F, env, S, (Go.bind go).mono fun x e1 F1 H1 x1 S1 k v rv => ?_⟩
  refine settle (Q := fun _ _ => True) S1 rv fun F2 x2 S2 r2 => ?_
  refine ⟨F2, e1, S2, (Go.bind (Go.up k x2)).mono fun xs e3 F3 H3 x3 S3 k3 vs o3 rv3 => ?_⟩
  exact k3 F3 H3 (Ex.refl F3) S3 (v :: vs) ⟨x.stl_old, o3⟩ ⟨v, vs, rfl, r2.later x.stl_old x3, rv3⟩
theorem pafImp {t t' : TA} (h : PAf X es t) (k : ∀ σ H Q, t' σ H Q → t σ H Q) : PAf X es t' := fun pos pins s σ H Q I q => h pos pins s σ H Q I (k σ H Q q)
theorem pefImp {t t' : TE} (h : PEf X e t) (k : ∀ σ H Q, t' σ H Q → t σ H Q) : PEf X e t' := fun pins s σ H Q I q => h pins s σ H Q I (k σ H Q q)
theorem psfImp {t t' : TS} (h : PSf X st t) (k : ∀ D σ H, t' D σ H → t D σ H) : PSf X st t' := fun pins s σ H D I q => h pins s σ H D I (k D σ H q)
theorem saF_int {i : Int} {j : Nat} {cpos : Pos} (hr : PA X es (tAs g (dArgs ds))) (hs : starEach (.Constant (.int i) j cpos :: es) X.env = (false, eval (.Constant (.int i) j cpos) X.env) :: starEach es X.env) :
    PAf X (.Constant (.int i) j cpos :: es) (tAs g (dArgs ((fun e => .ok (.fz (.int i)) e) :: ds))) :=
  pafImp (paF_int hr hs) fun σ H Q h => by
    obtain ⟨F, env, S, go⟩ := tCons_of h
    exact go F H (Ex.refl F) S (.int i) (by show R _ _ _ _; unfold R; rfl)
theorem saF_fst (ha : PEf X e (tE g d)) (hr : PA X es (tAs g (dArgs ds))) (hs : starEach (e :: es) X.env = (false, eval e X.env) :: starEach es X.env) : PAf X (e :: es) (tAs g (dArgs (d :: ds))) := pafImp (paF_fst ha hr hs) fun _ _ _ => tCons_of
theorem saF_snd (ha : PE X e (tE g d)) (hr : PAf X es (tAs g (dArgs ds))) (hs : starEach (e :: es) X.env = (false, eval e X.env) :: starEach es X.env) : PAf X (e :: es) (tAs g (dArgs (d :: ds))) := pafImp (paF_snd ha hr hs) fun _ _ _ => tCons_of
theorem seF_lst (h : PAf X es (tAs g (dArgs ds))) : PEf X (.List es pos) (tE g (dLst ds)) :=
  pefImp (peF_lst h) fun σ H Q ⟨F, env, S, go⟩ => ⟨F, env, S, (Go.bind go).mono fun xs e1 F1 H1 x1 S1 k vs o rv => by
    obtain ⟨F2, ps, e2, x2, S2, q2, hl, k2⟩ := disp_go o S1 rv k
    exact ⟨hl, fun p hp => fin_lst S2 hp q2 fun F3 H3 w x3 S3 rw => k2 F3 H3 x3 S3 w rw⟩⟩
theorem seF_fnC {k j : Nat} {x : Str} {md : Md} {fn : List PV → FR} {dvs : List V} {dps : List PV} (hC : g.C = C) (c : C8.Cal X.prog X.w X.K X.mg X.base k x (SpV C md fn) dvs) (hr : Room j X.A) (hk : k ≤ j) (hg : Gl X x) (hd : ∀ F, Rs g.C F dps dvs) (ha : PAf X (e :: es) (tAs g (dArgs ds)))
    (hdb : (x == ("__debug__" : Str)) = false) (he : starEach (e :: es) X.env = (false, eval e X.env) :: starEach es X.env) (hpl : (backTo pos (starEach es X.env)).any (·.1) = false) :
    PEf X (.Call (.Name x p) (e :: es) [] pos) (tE g (dFn md fn dps ds)) := by
  subst hC
  exact pefImp (peF_fn c hr hk hg ha hdb he hpl) fun σ H Q ⟨F, env, S, go⟩ => ⟨F, env, S, (Go.bind go).mono fun xs e1 F1 H1 x1 S1 k vs o r =>
    call_go (AllOld.append o dps_old) S1 (RVs.append r (dps_rvs hd)) k C8.E0⟩
theorem ssF_set {i : Nat} {x : Str} {pos' : Pos} (hN : X.N.Nodup) (hi : X.N[i]? = some x) (hx : Loc X.env.scope x) (he : PEf X a (tE g da)) (hs : swapsWith a (some (.Name x pos')) pos.line X.env = pure false) (hf : X.fn x = true ∨ X.env.scope.names.lookup x = some .local) :
    PSf X (.Assign [.Name x pos'] a pos) (tS g (dSet i da)) :=
  psfImp (psF_set hN hi hx he hs hf) fun D σ H ⟨F, env, S, go⟩ => ⟨F, env, S, (GoS.bindE (σ := σ) go).mono fun x e F' H' x1 S1 k v r => store_go S1 r k⟩
theorem ssF_cons (h1 : PSf X st (tS g d1)) (h2 : PSsT X r (tS g d2)) : PSs X (st :: r) (tS g (dSeq d1 d2)) := pssImp (pssF_cons h1 h2) fun D σ H ⟨F, env, S, go⟩ => ⟨F, env, S, go.seq⟩
theorem ssT_cons (h1 : PST X st (tS g d1)) (h2 : PSsT X r (tS g d2)) : PSsT X (st :: r) (tS g (dSeq d1 d2)) := psstImp (psst_cons h1 h2) fun D σ H ⟨F, env, S, go⟩ => ⟨F, env, S, go.seq⟩
theorem ssT_of {t : TS} (h : PSs X r t) : PSsT X r t := PSsT.of h
theorem sT_of {t : TS} (h : PS X st t) : PST X st t := PST.of h
/-- y = [..], y a local, a token out -/
theorem sT_setLc {i : Nat} {y : Str} {py spos : Pos} {elt tg iter : Expr} {ifs : List Expr} {scope : Scope} {pos : Pos} {vs js : List Nat} {di : Env' → Res (List PV)} {u : UG} {dt : Option (Env' → Res Bool)} {de : Env' → Res Val} (own : List (Str × Nat)) (ok : Ok X g) (hN : X.N.Nodup)
    (hy : X.N[i]? = some y) (hyl : X.env.scope.names.lookup y = some .local) (hsw : swapsWith (.ListComp elt [⟨tg, iter, ifs, 0⟩] scope pos) (some (.Name y py)) spos.line X.env = pure true)
    (hi : PI X tg iter (tI g di)) (bk : BlkOk X.N X.env.scope scope own) (hv : own.map (·.2) = vs) (hj : ∀ j ∈ js, j ∈ vs)
    (hg : ∀ (s : Shared) (H : Hp) (C : Addr) (cl : List (Str × Addr)) (fp : List Addr) (g' : Gm), g'.C = g.C → Ok (X.blk s H scope (compEnvC scope cl C X.env) fp) g' → PG (X.blk s H scope (compEnvC scope cl C X.env) fp) tg (tG g' u js))
    (ht : ∀ (s : Shared) (H : Hp) (C : Addr) (cl : List (Str × Addr)) (fp : List Addr) (g' : Gm), g'.C = g.C → Ok (X.blk s H scope (compEnvC scope cl C X.env) fp) g' → PTs (X.blk s H scope (compEnvC scope cl C X.env) fp) ifs (tT g' (dtO dt)))
    (he : ∀ (s : Shared) (H : Hp) (C : Addr) (cl : List (Str × Addr)) (fp : List Addr) (g' : Gm), g'.C = g.C → Ok (X.blk s H scope (compEnvC scope cl C X.env) fp) g' → PET (X.blk s H scope (compEnvC scope cl C X.env) fp) elt (tE g' de))
    (hs : ∀ x, foldedSetIterable iter X.env x = pure x) : PST X (.Assign [.Name y py] (.ListComp elt [⟨tg, iter, ifs, 0⟩] scope pos) spos) (tS g (dSet i (dLc vs di u dt de))) := by
  subst hv
  refine pstImp (tk_setLc ok.calm hN hy hyl hsw hi bk (fun s H C cl fp => xG_of fun g' hC => hg s H C cl fp g' hC (ok_blk ok hC)) (fun s H C cl fp => xT_of fun g' hC => ht s H C cl fp g' hC (ok_blk ok hC)) (te := xE g.C de) (fun s H C cl fp => fun pins s1 σ1 H1 Q h0 I ⟨g', hC, q⟩ => he s H C cl fp g' hC (ok_blk ok hC) pins s1 σ1 H1 Q h0 I q) hs) fun D σ H h => ?_
  obtain ⟨F, env, S, go⟩ := h
  exact tLc_of hj ⟨F, env, S, (GoS.bindE (σ := σ) go).mono fun x e F' H' x1 S1 k v r => store_go S1 r k⟩
end
end VL

set_option maxRecDepth 100000
set_option maxHeartbeats 2000000
namespace VL
open PySem PySem.Spec L2
open PyProof.Rows hiding St
/-! ### an own == -/
section
variable {prog : Program} {w : World} {A : Around} {E : Value → Shared → Prop} {s : Shared} {K : PySem.W.Frag} {x C L f : Addr} {h₀ : Heap} {m : Str → Option Value} {ox : Obj} {od : Option Obj} {b tb : Value}
/-- object's != asks the own == -/
theorem ask_eq {Q : Fin → Shared → Prop} (hu : A.units < cLine) (X : K.In s.heap) (I : PySem.W.InstAt s.heap x ox C od) (hs : PySem.W.findIn K (.ref C) "__eq__" = some (some (.ref f))) (hf : PySem.W.isFn K (.ref f) = true)
    (h : wpAny (model prog w) A (call (.ref f) [.ref x, b]) (fun v s' => ∃ t, v = .bool t ∧ Q (.done (.ret (.bool (!t)))) s') E s) : wpAny (model prog w) A (Builtin.«object.__ne__» ⟨[.ref x, b], []⟩) Q E s := by
  unfold Builtin.«object.__ne__»
  repeat (first
    | with_reducible refine wpAny_cRoomFor hu ?_
    | (refine wpAny_bind (m := callSpecialIfBound? (.ref x) (Str.ofString "__eq__") [b]) (PySem.W.ifBound_K X I hs hf (wpAny_mono h (fun v s' z => ?_) fun _ _ z => z))
       obtain ⟨t, hv, q⟩ := z
       subst hv
       repeat (first | exact q | exact wpAny_pure q | exact wpAny_truthy_bool q | (refine wpAny_bind (m := truthy (.bool _)) (wpAny_truthy_bool ?_)) | wp_step))
    | wp_step)
theorem bound_ne {M : Model} {args : List Value} {Q : Option Value → Shared → Prop} (X : K.In s.heap) (I : PySem.W.InstAt s.heap x ox C od) (hs : PySem.W.findIn K (.ref C) "__ne__" = some (some (.builtin "object.__ne__")))
    (h : wpAny M A (call (.builtin "object.__ne__") (.ref x :: args)) (fun v => Q (some v)) E s) : wpAny M A (callSpecialIfBound? (.ref x) "__ne__" args) Q E s := by
  simp only [callSpecialIfBound?, bindSpecialIfBound?]
  have run : wpAny M A (call (.builtin "object.__ne__") ([.ref x] ++ args) >>= fun v => pure (some v)) Q E s := wpAny_bind (wpAny_mono h (fun _ _ z => wpAny_pure z) fun _ _ z => z)
  refine wpAny_holding (wpAny_bind (wpAny_bind (wpAny_bind (I.type.here ((PySem.W.looks_findIn X hs).here (wpAny_bind (wpAny_askSetting (wpAny_ite ?_))))))))
  split
  · exact wpAny_bind (wpAny_of_eq (F.cmp_object.ne.bind _) (wpAny_pure (by exact run)))
  · exact wpAny_tryCatch (wpAny_bind (wpAny_of_eq (F.cmp_object.ne.bind _) (wpAny_pure (by exact run))))
theorem ne_own {Q : Value → Shared → Prop} (hu : A.units + 1 < cLine) (Fm : Fr h₀ L s.heap m) (X₀ : K.In h₀) (I : PySem.W.InstAt s.heap x ox C od) (hb : PySem.W.Looks (model prog w) s.heap (typeOf b) tb) (hn : PySem.W.notFirst K C tb = true)
    (hm : PySem.W.mroIn K C (.type "object") = some true) (hne : PySem.W.findIn K (.ref C) "__ne__" = some (some (.builtin "object.__ne__"))) (hs : PySem.W.findIn K (.ref C) "__eq__" = some (some (.ref f))) (hf : PySem.W.isFn K (.ref f) = true)
    (h : wpAny (model prog w) A.in1 (call (.ref f) [.ref x, b]) (fun v s' => ∃ t, v = .bool t ∧ Q (.bool (!t)) s') E s) : wpAny (model prog w) A (richCompare .NotEq (.ref x) b) Q E s := by
  have X := X₀.keeps Fm.keep
  have one : wpAny (model prog w) A (tryCompare (.ref x) "__ne__" b) (fun r s' => ∃ v, r = some v ∧ Q v s') E s := by
    unfold tryCompare
    refine wpAny_bind (bound_ne X I hne (wpAny_call (codeAny_call_builtin F.cmp_object.ne.plain F.cmpEntry_ne (PySem.W.check_slot F.cmpKind_ne F.cmpSplit_ne (I.type.andThen (PySem.W.looks_mroIn X hm)) (F.cmpArgs_ne _ _)
      (ask_eq (A := A.in1) (by show A.units + 1 < cLine; exact hu) X I hs hf (wpAny_mono h (fun v s' z => ?_) fun _ _ z => z))))))
    obtain ⟨t, hv, q⟩ := z
    exact ⟨t, hv, wpAny_pure ⟨_, rfl, q⟩⟩
  unfold richCompare
  simp only [oneThing_ref]
  refine wpAny_holding (wpAny_bind (wpAny_cRoomFor (by omega) ?_))
  rw [cmpInfo_NotEq]
  refine wpAny_bind (I.type.here (wpAny_bind (hb.here ?_)))
  split
  · rename_i q
    have e : PySem.W.subIn K tb (.ref C) = some false := by
      rcases Bool.or_eq_true_iff.mp hn with e | e
      · rw [beq_iff_eq.mp e] at q; simp at q
      · exact beq_iff_eq.mp e
    refine wpAny_bind ((PySem.W.looks_subIn X e).here ?_)
    simp only [Bool.false_eq_true, if_false]
    refine wpAny_bind (wpAny_mono one (fun r s' z => ?_) fun _ _ z => z)
    obtain ⟨v, hv, q⟩ := z
    subst hv
    exact wpAny_pure q
  · refine wpAny_bind (wpAny_pure ?_)
    simp only [Bool.false_eq_true, if_false]
    refine wpAny_bind (wpAny_mono one (fun r s' z => ?_) fun _ _ z => z)
    obtain ⟨v, hv, q⟩ := z
    subst hv
    exact wpAny_pure q
end
end VL

set_option maxRecDepth 100000
set_option maxHeartbeats 2000000
namespace VL
open PySem PySem.Spec L2
open PyProof.Rows hiding St
/-! ### a == b, a != b, a of an own class with an own == -/
def cmpN : Bool → CmpOp
  | true => .NotEq
  | false => .Eq
/-- what may stand on the right -/
def rightQ (c : Nat) : PV → Bool
  | .ins c' _ => decide (c' = c)
  | .dT _ _ => false
  | .exc _ _ => false
  | _ => true
def dOwnQ (neg : Bool) (c : Nat) (fn : List PV → FR) (da db : Env' → Res Val) : Env' → Res Val := fun e => (stl da e).bind fun x e1 => (stl db e1).bind fun y e2 => if insAt c 0 x e2 = true ∧ (peek y e2).map (rightQ c) = some true then
    (callK [false, false] fn [x, y] e2).bind fun r e3 => match r with
      | .fz (.bl b) => .ok (.fz (.bl (if neg = true then !b else b))) e3
      | _ => .bad
  else .bad
theorem not_first (K : PySem.W.Frag) (C : Addr) : ∀ T ∈ ["NoneType", "bool", "int", "str", "tuple", "list", "dict"], PySem.W.notFirst K C (.type T) = true := by
  have go : ∀ T : String, (fastBuiltinMro T).isSome = true → ((fastBuiltinMro T).getD []).all (fun v => match v with | .ref _ => false | _ => true) = true → PySem.W.notFirst K C (.type T) = true := by
    intro T h1 h2
    unfold PySem.W.notFirst
    have : PySem.W.subIn K (.type T) (.ref C) = some false := by
      show (fastBuiltinMro T).map (·.contains (.ref C)) = some false
      cases h : fastBuiltinMro T with
      | none => rw [h] at h1; cases h1
      | some l =>
        rw [h] at h2
        simp only [Option.map_some, Option.some.injEq]
        rw [List.contains_eq_any_beq, List.any_eq_false]
        intro v hv
        have := List.all_eq_true.mp h2 v hv
        cases v <;> simp_all
    rw [this]
    simp
  intro T hT
  simp only [List.mem_cons, List.not_mem_nil, or_false] at hT
  rcases hT with rfl | rfl | rfl | rfl | rfl | rfl | rfl
  all_goals exact go _ (by decide +kernel) (by decide +kernel)
section
variable {X : Cx} {g : Gm} {pins : List (Addr × Obj)} {F H : Hp} {σ : St} {env : Env'} {s : Shared} {a b : Expr} {da db : Env' → Res Val} {pos : Pos}
theorem tyP_first {p : PV} {c : Nat} (h : rightQ c p = true) : PySem.W.notFirst X.K (g.C.ad c) (tyP g.C p) = true := by
  cases p <;> simp only [rightQ] at h <;> simp only [tyP]
  all_goals try exact not_first _ _ _ (by simp)
  · have := of_decide_eq_true h
    subst this
    unfold PySem.W.notFirst
    simp
  · cases h
theorem own_run {k j : Nat} {c : Nat} {sp : Sp} (neg : Bool) (cm : C8.Met X.prog X.w X.K X.mg X.base k (g.C.ad c) "__eq__" sp []) (hr : Room j X.A) (hk : k + 1 ≤ j) (ok : Ok X g) (co : ∀ c, ClsOk g.C c) (fi : InsF g.C)
    (hne : neg = true → PySem.W.findIn X.K (.ref (g.C.ad c)) "__ne__" = some (some (.builtin "object.__ne__"))) {ad dx : Addr} {fs : List (Str × V)} {q : PV} {y : V} {u : Value} {Q : VK} (I : Inv X pins σ H s) (ha : H ad = some (.ins (g.C.ad c) dx fs)) (ru : RelV y u) (t : Rt g.C F H q y) (hq : rightQ c q = true)
    (h : sp [.ref ad, y] H (fun v H' => ∃ b, v = .bl b ∧ Q (.bl (if neg = true then !b else b)) H') C8.E0) : wpAny (model X.prog X.w) X.A (compareOp (cmpN neg) (.ref ad) u) (EP X pins σ Q) X.xe s := by
  obtain ⟨f, fd, ps, ds, cl, me, Fn, bi, d⟩ := cm.ex
  cases d
  obtain ⟨mA, J, _⟩ := ins_get I.hok ha
  obtain ⟨od, J, _⟩ := J.look
  obtain ⟨m, hF⟩ := I.fr
  have tx := tyP_ok ok co fi t (fun ks xs z => by rw [z] at hq; cases hq) fun c xs z => by rw [z] at hq; cases hq
  obtain ⟨P, kit, hp, _⟩ := kit_of I ru tx
  have lk : PySem.W.Looks (model X.prog X.w) s.heap (typeOf u) (tyP g.C q) := kit.ty _ _ I.kIn hp
  have nf : PySem.W.notFirst X.K (g.C.ad c) (tyP g.C q) = true := tyP_first hq
  have hl := Fn.len _ _ _ _ h
  have rr : Vals [V.ref ad, y] [Value.ref ad, u] := .cons rfl (.cons ru .nil)
  have call : ∀ (B : Around), B.frames = X.A.frames → Room k B → wpAny (model X.prog X.w) B (call (.ref f) [.ref ad, u]) (fun v s' => ∃ t, v = .bool t ∧ EP X pins σ Q (.bool (if neg = true then !t else t)) s') X.xe s := by
    intro B hB rB
    have e0 : Env0 X.prog X.w X.K X.mg X.base B X.stack s H := by
      have e := I.env0
      exact ⟨by rw [hB]; exact e.frames, e.mod, e.bs, e.bsz, e.funs, e.frf, e.hok, e.bare⟩
    refine wpAny_call (codeAny_mono (Fn.run B X.stack s H ⟨[.ref ad, u], []⟩ [.ref ad, u] _ _ C8.E0 rB e0 (by
      have := bi s [.ref ad, u] I.kIn (by simpa using hl)
      simpa using this) rr h) fun r s' z => ?_)
    cases r with
    | error e => exact C8.pass0 (X := X) (E := C8.E0) pins σ H s e s' I z
    | ok fl =>
      cases fl with
      | ret w =>
        obtain ⟨v, H', I', rv, b, e, q⟩ := I.after z
        subst e
        cases rv
        exact ⟨b, rfl, .bl (if neg = true then !b else b), H', I', rfl, q⟩
      | next => exact False.elim z
      | brk => exact False.elim z
      | cont => exact False.elim z
  have u1 := ok.u1
  cases neg with
  | false =>
    show wpAny _ _ (richCompare .Eq (.ref ad) u) _ _ _
    refine PySem.W.cmp_K (op := .Eq) (tb := tyP g.C q) (by omega) hF I.ok.mod.kin J lk nf me.at_ me.fn (wpAny_mono (call X.A rfl (hr.mono (by omega))) (fun v s' z => ?_) fun _ _ z => z)
    obtain ⟨t, hv, q⟩ := z
    subst hv
    exact q
  | true =>
    show wpAny _ _ (richCompare .NotEq (.ref ad) u) _ _ _
    refine ne_own u1 hF I.ok.mod.kin J lk nf ?_ (hne rfl) me.at_ me.fn (call X.A.in1 rfl (hr.mono hk).in1)
    have := fi.hm c
    rw [ok.K] at this
    exact this
theorem own_k {neg : Bool} {k j : Nat} {c : Nat} {fn : List PV → FR} (cm : C8.Met X.prog X.w X.K X.mg X.base k (g.C.ad c) "__eq__" (SpV g.C [false, false] fn) []) (hr : Room j X.A) (hk : k + 1 ≤ j) (ok : Ok X g) (co : ∀ c, ClsOk g.C c) (fi : InsF g.C)
    (hne : neg = true → PySem.W.findIn X.K (.ref (g.C.ad c)) "__ne__" = some (some (.builtin "object.__ne__"))) {K : Val → Env' → Hp → Hp → Prop} {x y : Val} {v w : V} {vv ww : Value} (I : Inv X pins σ H s) (S : Stt g F H σ env) (r1 : RelV v vv) (r2 : RelV w ww) (o1 : x.old) (o2 : y.old) (rx : RV g F H σ env x v) (ry : RV g F H σ env y w)
    (go : Go g F σ (if insAt c 0 x env = true ∧ (peek y env).map (rightQ c) = some true then (callK [false, false] fn [x, y] env).bind fun r e3 => (match r with | .fz (.bl b) => Res.ok (.fz (.bl (if neg = true then !b else b))) e3 | _ => .bad) else .bad) K) :
    wpAny (model X.prog X.w) X.A (compareOp (cmpN neg) vv ww) (EP X pins σ fun z H' => ∃ (b : Bool) (F' : Hp) (e' : Env'), z = .bl b ∧ Ex F F' ∧ Stt g F' H' σ e' ∧ K (.fz (.bl b)) e' F' H') X.xe s := by
  split at go
  · rename_i hh
    obtain ⟨h1, h2⟩ := hh
    obtain ⟨ad, dx, fs, n, rfl, ha, _⟩ := insAt_is S rx h1
    cases r1
    cases hp : peek y env with
    | none => rw [hp] at h2; cases h2
    | some q =>
      rw [hp] at h2
      refine own_run neg cm hr hk ok co fi hne I ha r2 (peek_ok S ry hp) (Option.some.inj h2) ?_
      have k := Go.bind go
      refine call_go (xs := [x, y]) ⟨o1, o2, True.intro⟩ S ⟨_, _, rfl, rx, _, _, rfl, ry, rfl⟩ (k.mono fun r e3 F3 H3 x3 S3 k3 z rz => ?_) C8.E0
      cases r with
      | bor i => exact k3.elim
      | new p => exact k3.elim
      | fz p =>
        cases p <;> try exact k3.elim
        rename_i bb
        have e : z = .bl bb := by
          have : R g.C F3 (.bl bb) z := rz
          unfold R at this; exact this
        exact ⟨bb, e, _, F3, e3, rfl, x3, S3, k3 F3 H3 (Ex.refl F3) S3⟩
  · exact go.elim
theorem se_ownQ (neg : Bool) {op : CmpOp} (hop : cmpN neg = op) {k j : Nat} {c : Nat} {fn : List PV → FR} (cm : C8.Met X.prog X.w X.K X.mg X.base k (g.C.ad c) "__eq__" (SpV g.C [false, false] fn) []) (hr : Room j X.A) (hk : k + 1 ≤ j) (ok : Ok X g) (co : ∀ c, ClsOk g.C c) (fi : InsF g.C)
    (hne : neg = true → PySem.W.findIn X.K (.ref (g.C.ad c)) "__ne__" = some (some (.builtin "object.__ne__"))) (ha : PE X a (tE g da)) (hb : PE X b (tE g db)) (hm : behindInMarks op b = false) : PE X (.Compare a [op] [b] pos) (tE g (dOwnQ neg c fn da db)) := by
  subst hop
  refine ⟨fun pins s σ H Q I ⟨F, env, S, go⟩ => wpAny_Compare1 (thn (peGo ha I S go) fun v s1 ⟨v', H1, I1, r1, F1, e1, x, x1, S1, o1, rv1, go1⟩ => ?_) hm⟩
  refine thn (peGo hb I1 S1 go1) fun u s2 ⟨u', H2, I2, r2, F2, e2, y, x2, S2, o2, rv2, go2⟩ => ?_
  refine thn (own_k cm hr hk ok co fi hne I2 S2 r1 r2 o1 o2 (rv1.later o1 x2) rv2 go2) fun w s3 ⟨w', H3, I3, r3, bb, F3, e3, ew, x3, S3, k3⟩ => ⟨w', H3, I3, r3, k3 w' ?_⟩
  subst ew
  show R _ _ _ _
  unfold R; rfl
theorem st_ownQ (neg : Bool) {op : CmpOp} (hop : cmpN neg = op) {k j : Nat} {c : Nat} {fn : List PV → FR} (cm : C8.Met X.prog X.w X.K X.mg X.base k (g.C.ad c) "__eq__" (SpV g.C [false, false] fn) []) (hr : Room j X.A) (hk : k + 1 ≤ j) (ok : Ok X g) (co : ∀ c, ClsOk g.C c) (fi : InsF g.C)
    (hne : neg = true → PySem.W.findIn X.K (.ref (g.C.ad c)) "__ne__" = some (some (.builtin "object.__ne__"))) (ha : PE X a (tE g da)) (hb : PE X b (tE g db)) (hm : behindInMarks op b = false) : PT X (.Compare a [op] [b] pos) (tT g (asB (dOwnQ neg c fn da db))) := by
  subst hop
  refine ⟨fun pins s σ H Q I ⟨F, env, S, go⟩ => ?_⟩
  have go := Go.bind go
  refine wpAny_isTrue_Compare1 (thn (peGo ha I S go) fun v s1 ⟨v', H1, I1, r1, F1, e1, x, x1, S1, o1, rv1, go1⟩ => ?_) hm
  refine thn (peGo hb I1 S1 go1) fun u s2 ⟨u', H2, I2, r2, F2, e2, y, x2, S2, o2, rv2, go2⟩ => ?_
  refine thn (own_k cm hr hk ok co fi hne I2 S2 r1 r2 o1 o2 (rv1.later o1 x2) rv2 go2) fun w s3 ⟨w', H3, I3, r3, bb, F3, e3, ew, x3, S3, k3⟩ => ?_
  subst ew
  cases r3
  exact wpAny_truthy_bool ⟨H3, I3, k3 F3 H3 (Ex.refl F3) S3⟩
end
/-! ### isinstance(x, c), c an own class -/
def ansO (n c0 : Nat) : PV → Option Bool
  | .ins c _ => if c < n then some (decide (c = c0)) else none
  | .dT _ _ => none
  | .exc _ _ => none
  | _ => some false
/-- which own class is which: n of them -/
structure OwnC (C : Ct) (n c0 : Nat) : Prop where
  own : ∀ c, c < n → PySem.W.kitOne C.K (.ref (C.ad c)) (.ref (C.ad c0)) = some (decide (c = c0))
  oth : ∀ T ∈ ["NoneType", "bool", "int", "str", "tuple", "list", "dict"], PySem.W.kitOne C.K (.type T) (.ref (C.ad c0)) = some false
theorem ansO_ok {C : Ct} {n c0 : Nat} (oc : OwnC C n c0) : ∀ p b, ansO n c0 p = some b → PySem.W.kitOne C.K (tyP C p) (.ref (C.ad c0)) = some b := by
  intro p b h
  cases p <;> simp only [ansO] at h
  case dT => cases h
  case exc => cases h
  case ins c xs =>
    split at h
    · rename_i hc
      cases h
      exact oc.own c hc
    · cases h
  all_goals
    cases h
    exact oc.oth _ (by simp)
section
variable {X : Cx} {g : Gm} {C : Ct} {L : Nat → List Nat} {nm : Nat → Str} {e : Expr} {x : Str} {da : Env' → Res Val} {pos p ce : Pos}
theorem se_isO {n c0 : Nat} (hC : g.C = C) (ok : Ok X g) (cf : CF C L nm) (oc : OwnC C n c0) (hm : X.mg "isinstance" = none) (hg : Gl X "isinstance") (hmT : X.mg x = some (.ref (C.ad c0))) (hgT : Gl X x) (ha : PE X e (tE g da)) (hd : (x == ("__debug__" : Str)) = false)
    (hs : starEach [e, .Name x ce] X.env = (false, eval e X.env) :: starEach [.Name x ce] X.env) (hs2 : starEach [.Name x ce] X.env = (false, eval (.Name x ce) X.env) :: starEach [] X.env) (hpl : (backTo pos (starEach [.Name x ce] X.env)).any (·.1) = false) :
    PE X (.Call (.Name "isinstance" p) [e, .Name x ce] [] pos) (tE g (dIsi (ansO n c0) da)) := by
  subst hC
  exact se_isi ok cf.cls cf.ins (ansO_ok oc) (fun _ _ => rfl) (fun _ _ => rfl) hm hg ha (pe_glob hgT hmT (show RelV (.ref (g.C.ad c0)) (.ref (g.C.ad c0)) from rfl) hd) (by constructor) hs hs2 hpl
end
end VL
namespace VL
open PySem PySem.Spec L2
open PyProof.Rows hiding St
section
variable {X : Cx} {g : Gm} {C : Ct} {L : Nat → List Nat} {nm : Nat → Str} {a b : Expr} {da db : Env' → Res Val} {pos : Pos}
theorem se_ownQC (neg : Bool) {op : CmpOp} (hop : cmpN neg = op) {k j : Nat} {c : Nat} {fn : List PV → FR} (hC : g.C = C) (cm : C8.Met X.prog X.w X.K X.mg X.base k (C.ad c) "__eq__" (SpV C [false, false] fn) []) (hr : Room j X.A) (hk : k + 1 ≤ j) (ok : Ok X g) (cf : CF C L nm)
    (hne : PySem.W.findIn X.K (.ref (C.ad c)) "__ne__" = some (some (.builtin "object.__ne__"))) (ha : PE X a (tE g da)) (hb : PE X b (tE g db)) (hm : behindInMarks op b = false) : PE X (.Compare a [op] [b] pos) (tE g (dOwnQ neg c fn da db)) := by
  subst hC
  exact se_ownQ neg hop cm hr hk ok cf.cls cf.ins (fun _ => hne) ha hb hm
theorem st_ownQC (neg : Bool) {op : CmpOp} (hop : cmpN neg = op) {k j : Nat} {c : Nat} {fn : List PV → FR} (hC : g.C = C) (cm : C8.Met X.prog X.w X.K X.mg X.base k (C.ad c) "__eq__" (SpV C [false, false] fn) []) (hr : Room j X.A) (hk : k + 1 ≤ j) (ok : Ok X g) (cf : CF C L nm)
    (hne : PySem.W.findIn X.K (.ref (C.ad c)) "__ne__" = some (some (.builtin "object.__ne__"))) (ha : PE X a (tE g da)) (hb : PE X b (tE g db)) (hm : behindInMarks op b = false) : PT X (.Compare a [op] [b] pos) (tT g (asB (dOwnQ neg c fn da db))) := by
  subst hC
  exact st_ownQ neg hop cm hr hk ok cf.cls cf.ins (fun _ => hne) ha hb hm
end
end VL

set_option maxRecDepth 100000
set_option maxHeartbeats 4000000
namespace K37
open PySem PySem.Spec L2 VL
open PyProof.Rows hiding St
def top (i : Nat) : Stmt := PySem.Challenge.pw_leastjoined_k37_words_of_codes.main.body.getD i (.Pass ⟨0, 0, 0, 0⟩)
def mth (i j : Nat) : Stmt := (C8.clsBody (top i)).getD j (.Pass ⟨0, 0, 0, 0⟩)
def lay : Nat → List Nat
  | 0 => [0, 1, 2, 3]
  | _ => [0, 1, 2, 3]
def nam : Nat → Str
  | 0 => "lengths"
  | 1 => "words"
  | 2 => "size"
  | 3 => "longest"
  | _ => ""
theorem ok_c {X : Cx} {g g' : Gm} (ok : Ok X g) (h : g'.C = g.C) : Ok X g' := ⟨by rw [h]; exact ok.K, ok.u, ok.calm⟩
structure Fx (mg : Str → Option Value) : Prop where
  n_abs : mg "abs" = none
  n_all : mg "all" = none
  n_bool : mg "bool" = none
  n_enumerate : mg "enumerate" = none
  n_int : mg "int" = none
  n_isinstance : mg "isinstance" = none
  n_len : mg "len" = none
  n_list : mg "list" = none
  n_max : mg "max" = none
  n_range : mg "range" = none
  n_sorted : mg "sorted" = none
  n_str : mg "str" = none
  n_sum : mg "sum" = none
  n_tuple : mg "tuple" = none
  c_MOST_SIGNS : ∃ u, mg "MOST_SIGNS" = some u ∧ RelV (.int 26) u
  c_MOST_LENGTH : ∃ u, mg "MOST_LENGTH" = some u ∧ RelV (.int 25) u
structure Dx (K : PySem.W.Frag) (mg : Str → Option Value) (C : Ct) : Prop where
  hK : C.K = K
  d_is_whole : ∃ f fd, mg "is_whole" = some (.ref f) ∧ FunD K "is_whole" "is_whole" (defArgs (top 10)) (defBody (top 10)) (defScope (top 10)) [] [] f fd
  d_two_to : ∃ f fd, mg "two_to" = some (.ref f) ∧ FunD K "two_to" "two_to" (defArgs (top 11)) (defBody (top 11)) (defScope (top 11)) [] [] f fd
  d_check_signs : ∃ f fd, mg "check_signs" = some (.ref f) ∧ FunD K "check_signs" "check_signs" (defArgs (top 12)) (defBody (top 12)) (defScope (top 12)) [] [] f fd
  d_bits_of : ∃ f fd, mg "bits_of" = some (.ref f) ∧ FunD K "bits_of" "bits_of" (defArgs (top 13)) (defBody (top 13)) (defScope (top 13)) [] [] f fd
  d_canonical : ∃ f fd, mg "canonical" = some (.ref f) ∧ FunD K "canonical" "canonical" (defArgs (top 14)) (defBody (top 14)) (defScope (top 14)) [] [] f fd
  d_is_word : ∃ f fd, mg "is_word" = some (.ref f) ∧ FunD K "is_word" "is_word" (defArgs (top 15)) (defBody (top 15)) (defScope (top 15)) [] [] f fd
  d_checked_words : ∃ f fd, mg "checked_words" = some (.ref f) ∧ FunD K "checked_words" "checked_words" (defArgs (top 16)) (defBody (top 16)) (defScope (top 16)) [] [] f fd
  d_Code___init__ : ∃ f fd, Mk K (C.ad 0) f ∧ mg "Code" = some (.ref (C.ad 0)) ∧ FunD K "__init__" "Code.__init__" (defArgs (mth 17 0)) (defBody (mth 17 0)) (defScope (mth 17 0)) [.non] [] f fd
  d_Code___eq__ : ∃ f fd, Cls K (C.ad 0) ∧ Meth K (C.ad 0) "__eq__" f ∧ FunD K "__eq__" "Code.__eq__" (defArgs (mth 17 1)) (defBody (mth 17 1)) (defScope (mth 17 1)) [] [] f fd
  d_law_pen_of : ∃ f fd, mg "_law_pen_of" = some (.ref f) ∧ FunD K "_law_pen_of" "_law_pen_of" (defArgs (top 19)) (defBody (top 19)) (defScope (top 19)) [] [] f fd
  d_law_draw : ∃ f fd, mg "_law_draw" = some (.ref f) ∧ FunD K "_law_draw" "_law_draw" (defArgs (top 20)) (defBody (top 20)) (defScope (top 20)) [] [] f fd
  d_law_pick : ∃ f fd, mg "_law_pick" = some (.ref f) ∧ FunD K "_law_pick" "_law_pick" (defArgs (top 21)) (defBody (top 21)) (defScope (top 21)) [] [] f fd
  d_law_lengths_of : ∃ f fd, mg "_law_lengths_of" = some (.ref f) ∧ FunD K "_law_lengths_of" "_law_lengths_of" (defArgs (top 22)) (defBody (top 22)) (defScope (top 22)) [] [] f fd
  d_law_two_to : ∃ f fd, mg "_law_two_to" = some (.ref f) ∧ FunD K "_law_two_to" "_law_two_to" (defArgs (top 23)) (defBody (top 23)) (defScope (top 23)) [] [] f fd
  d_law_words : ∃ f fd, mg "_law_words" = some (.ref f) ∧ FunD K "_law_words" "_law_words" (defArgs (top 24)) (defBody (top 24)) (defScope (top 24)) [] [] f fd
  d_law : ∃ f fd, mg "law" = some (.ref f) ∧ FunD K "law" "law" (defArgs (top 25)) (defBody (top 25)) (defScope (top 25)) [] [] f fd
  m_Code : mg "Code" = some (.ref (C.ad 0))
  o_Code : OwnC C 1 0
  ne_Code : PySem.W.findIn K (.ref (C.ad 0)) "__ne__" = some (some (.builtin "object.__ne__"))
structure Lx (K : PySem.W.Frag) (mg : Str → Option Value) (base : Heap) (C : Ct) : Prop where
  one : True
/-! ### is_whole -/
def N_is_whole : List Str := ["value", "least"]
theorem nd_is_whole : N_is_whole.Nodup := by decide
def d_is_whole : Env' → Res Fl := (dRet (dBool true (dIsi (ansB "int") (dVar 0)) (dBool true (dNot (dIsi (ansB "bool") (dVar 0))) (dBin semGe (dVar 0) (dVar 1)))))
def F_is_whole : List PV → FR := callFn 2 [false, false] d_is_whole
theorem fn_is_whole {P : Program} {w : World} {K : PySem.W.Frag} {mg : Str → Option Value} {base : Heap} {C : Ct} (fx : Fx mg) (dx : Dx K mg C) (cf : CF C lay nam) (lx : Lx K mg base C) {f : Addr} {fd : FuncData} (Fd : FunD K "is_whole" "is_whole" (defArgs (top 10)) (defBody (top 10)) (defScope (top 10)) [] [] f fd) : FnOk P w K mg base C8.CX0 1 f fd ["value", "least"] (SpV C [false, false] F_is_whole) :=
  fnV (N := N_is_whole) (k := 0) Fd (C8.fnScope_by (by decide +kernel)) rfl (by decide) dx.hK fun cdv A outer s H E g hC hr ok =>
    (ss_one (ss_ret (se_and ok.K (se_isB (T := "int") hC ok cf (by decide) fx.n_isinstance rfl fx.n_int rfl (se_var (i := 0) (by rfl) ((by first | exact .inl rfl | exact .inr (.inl rfl) | exact .inr (.inr rfl))) (by decide) (by decide)) (by decide) (by decide) (by rfl) (by rfl) (by rfl)) (se_and ok.K (se_un (se_isB (T := "bool") hC ok cf (by decide) fx.n_isinstance rfl fx.n_bool rfl (se_var (i := 0) (by rfl) ((by first | exact .inl rfl | exact .inr (.inl rfl) | exact .inr (.inr rfl))) (by decide) (by decide)) (by decide) (by decide) (by rfl) (by rfl) (by rfl)) (op_not ok.K)) (se_one (se_cmp (se_var (i := 0) (by rfl) ((by first | exact .inl rfl | exact .inr (.inl rfl) | exact .inr (.inr rfl))) (by decide) (by decide)) (se_var (i := 1) (by rfl) ((by first | exact .inl rfl | exact .inr (.inl rfl) | exact .inr (.inr rfl))) (by decide) (by decide)) o_ge rfl))))))
theorem cal_is_whole {P : Program} {w : World} {K : PySem.W.Frag} {mg : Str → Option Value} {base : Heap} {C : Ct} (fx : Fx mg) (dx : Dx K mg C) (cf : CF C lay nam) (lx : Lx K mg base C) : C8.Cal P w K mg base 1 "is_whole" (SpV C [false, false] F_is_whole) [] := by
  obtain ⟨f, fd, hm, Fd⟩ := dx.d_is_whole
  exact ⟨f, fd, ["value", "least"], [], fn_is_whole fx dx cf lx Fd, hm, Fd.kp, (Fd.bindsN (ps := ["value", "least"]) fun _ _ _ _ _ _ us hl => match us, hl with | [_, _], _ => rfl), .nil⟩
/-! ### two_to -/
def N_two_to : List Str := ["many", "found", "turn"]
theorem nd_two_to : N_two_to.Nodup := by decide
def d_two_to : Env' → Res Fl := (dSeq (dSet 1 (fun e => .ok (.fz (.int 1)) e)) (dSeq (dFor (dRng1 (dVar 0)) (uNm 2) (dAug 1 aMul (fun e => .ok (.fz (.int 2)) e))) (dRet (dVar 1))))
def F_two_to : List PV → FR := callFn 3 [false] d_two_to
theorem fn_two_to {P : Program} {w : World} {K : PySem.W.Frag} {mg : Str → Option Value} {base : Heap} {C : Ct} (fx : Fx mg) (dx : Dx K mg C) (cf : CF C lay nam) (lx : Lx K mg base C) {f : Addr} {fd : FuncData} (Fd : FunD K "two_to" "two_to" (defArgs (top 11)) (defBody (top 11)) (defScope (top 11)) [] [] f fd) : FnOk P w K mg base C8.CX0 1 f fd ["many"] (SpV C [false] F_two_to) :=
  fnV (N := N_two_to) (k := 0) Fd (C8.fnScope_by (by decide +kernel)) rfl (by decide) dx.hK fun cdv A outer s H E g hC hr ok =>
    (ss_cons (ss_set (i := 1) nd_two_to rfl ((by first | exact .inl rfl | exact .inr rfl)) se_int rfl ((by first | exact .inr rfl | exact .inl rfl)))
    (ss_cons (ss_for PassesOwn.never ok (si_range1 rfl fx.n_range (sa_cons (se_var (i := 0) (by rfl) ((by first | exact .inl rfl | exact .inr (.inl rfl) | exact .inr (.inr rfl))) (by decide) (by decide)) sa_nil rfl) rfl) (sg_name (i := 2) nd_two_to rfl ((by first | exact .inl rfl | exact .inr rfl)) ((by first | exact .inr rfl | exact .inl rfl))) (ss_one (ss_aug (i := 1) nd_two_to rfl ((by first | exact .inl rfl | exact .inr rfl)) se_int ip_mulO ((by first | exact .inr rfl | exact .inl rfl)))) (fun _ => rfl))
    (ss_one (ss_ret (se_var (i := 1) (by rfl) ((by first | exact .inl rfl | exact .inr (.inl rfl) | exact .inr (.inr rfl))) (by decide) (by decide))))))
theorem cal_two_to {P : Program} {w : World} {K : PySem.W.Frag} {mg : Str → Option Value} {base : Heap} {C : Ct} (fx : Fx mg) (dx : Dx K mg C) (cf : CF C lay nam) (lx : Lx K mg base C) : C8.Cal P w K mg base 1 "two_to" (SpV C [false] F_two_to) [] := by
  obtain ⟨f, fd, hm, Fd⟩ := dx.d_two_to
  exact ⟨f, fd, ["many"], [], fn_two_to fx dx cf lx Fd, hm, Fd.kp, (Fd.bindsN (ps := ["many"]) fun _ _ _ _ _ _ us hl => match us, hl with | [_], _ => rfl), .nil⟩
/-! ### check_signs -/
def N_check_signs : List Str := ["many"]
theorem nd_check_signs : N_check_signs.Nodup := by decide
def d_check_signs : Env' → Res Fl := (dIfS (dNotT (asB (dChain semLe semLe (fun e => .ok (.fz (.int 2)) e) (dVar 0) (fun e => .ok (.fz (.int 26)) e)))) dBad (fun e => .ok .nx e))
def F_check_signs : List PV → FR := callFn 1 [false] d_check_signs
theorem fn_check_signs {P : Program} {w : World} {K : PySem.W.Frag} {mg : Str → Option Value} {base : Heap} {C : Ct} (fx : Fx mg) (dx : Dx K mg C) (cf : CF C lay nam) (lx : Lx K mg base C) {f : Addr} {fd : FuncData} (Fd : FunD K "check_signs" "check_signs" (defArgs (top 12)) (defBody (top 12)) (defScope (top 12)) [] [] f fd) : FnOk P w K mg base C8.CX0 1 f fd ["many"] (SpV C [false] F_check_signs) :=
  fnV (N := N_check_signs) (k := 0) Fd (C8.fnScope_by (by decide +kernel)) rfl (by decide) dx.hK fun cdv A outer s H E g hC hr ok =>
    (ss_one (ss_if (st_not (st_chain se_int (se_var (i := 0) (by rfl) ((by first | exact .inl rfl | exact .inr (.inl rfl) | exact .inr (.inr rfl))) (by decide) (by decide)) (se_gint (by rfl) fx.c_MOST_SIGNS (by decide)) o_le o_le rfl)) (ss_one ss_never) ss_nil))
theorem cal_check_signs {P : Program} {w : World} {K : PySem.W.Frag} {mg : Str → Option Value} {base : Heap} {C : Ct} (fx : Fx mg) (dx : Dx K mg C) (cf : CF C lay nam) (lx : Lx K mg base C) : C8.Cal P w K mg base 1 "check_signs" (SpV C [false] F_check_signs) [] := by
  obtain ⟨f, fd, hm, Fd⟩ := dx.d_check_signs
  exact ⟨f, fd, ["many"], [], fn_check_signs fx dx cf lx Fd, hm, Fd.kp, (Fd.bindsN (ps := ["many"]) fun _ _ _ _ _ _ us hl => match us, hl with | [_], _ => rfl), .nil⟩
/-! ### bits_of -/
def N_bits_of : List Str := ["number", "size", "found", "turn"]
theorem nd_bits_of : N_bits_of.Nodup := by decide
def d_bits_of : Env' → Res Fl := (dSeq (dSet 2 (fun e => .ok (.fz (.str "")) e)) (dSeq (dFor (dRng1 (dVar 1)) (uNm 3) (dSeq (dSet 2 (dBin semAdd (dCall semStr [(dBin semMod (dVar 0) (fun e => .ok (.fz (.int 2)) e))]) (dVar 2))) (dSet 0 (dBin semDiv (dVar 0) (fun e => .ok (.fz (.int 2)) e))))) (dRet (dVar 2))))
def F_bits_of : List PV → FR := callFn 4 [false, false] d_bits_of
theorem fn_bits_of {P : Program} {w : World} {K : PySem.W.Frag} {mg : Str → Option Value} {base : Heap} {C : Ct} (fx : Fx mg) (dx : Dx K mg C) (cf : CF C lay nam) (lx : Lx K mg base C) {f : Addr} {fd : FuncData} (Fd : FunD K "bits_of" "bits_of" (defArgs (top 13)) (defBody (top 13)) (defScope (top 13)) [] [] f fd) : FnOk P w K mg base C8.CX0 1 f fd ["number", "size"] (SpV C [false, false] F_bits_of) :=
  fnV (N := N_bits_of) (k := 0) Fd (C8.fnScope_by (by decide +kernel)) rfl (by decide) dx.hK fun cdv A outer s H E g hC hr ok =>
    (ss_cons (ss_set (i := 2) nd_bits_of rfl ((by first | exact .inl rfl | exact .inr rfl)) se_str rfl ((by first | exact .inr rfl | exact .inl rfl)))
    (ss_cons (ss_for PassesOwn.never ok (si_range1 rfl fx.n_range (sa_cons (se_var (i := 1) (by rfl) ((by first | exact .inl rfl | exact .inr (.inl rfl) | exact .inr (.inr rfl))) (by decide) (by decide)) sa_nil rfl) rfl) (sg_name (i := 3) nd_bits_of rfl ((by first | exact .inl rfl | exact .inr rfl)) ((by first | exact .inr rfl | exact .inl rfl))) (ss_cons (ss_set (i := 2) nd_bits_of rfl ((by first | exact .inl rfl | exact .inr rfl)) (se_bin (se_callTy (c_str) rfl fx.n_str boot_str (sa_cons (se_bin (se_var (i := 0) (by rfl) ((by first | exact .inl rfl | exact .inr (.inl rfl) | exact .inr (.inr rfl))) (by decide) (by decide)) se_int o_mod) sa_nil rfl) (by decide) (by decide) rfl rfl) (se_var (i := 2) (by rfl) ((by first | exact .inl rfl | exact .inr (.inl rfl) | exact .inr (.inr rfl))) (by decide) (by decide)) o_add) rfl ((by first | exact .inr rfl | exact .inl rfl)))
    (ss_one (ss_set (i := 0) nd_bits_of rfl ((by first | exact .inl rfl | exact .inr rfl)) (se_bin (se_var (i := 0) (by rfl) ((by first | exact .inl rfl | exact .inr (.inl rfl) | exact .inr (.inr rfl))) (by decide) (by decide)) se_int o_div) rfl ((by first | exact .inr rfl | exact .inl rfl))))) (fun _ => rfl))
    (ss_one (ss_ret (se_var (i := 2) (by rfl) ((by first | exact .inl rfl | exact .inr (.inl rfl) | exact .inr (.inr rfl))) (by decide) (by decide))))))
theorem cal_bits_of {P : Program} {w : World} {K : PySem.W.Frag} {mg : Str → Option Value} {base : Heap} {C : Ct} (fx : Fx mg) (dx : Dx K mg C) (cf : CF C lay nam) (lx : Lx K mg base C) : C8.Cal P w K mg base 1 "bits_of" (SpV C [false, false] F_bits_of) [] := by
  obtain ⟨f, fd, hm, Fd⟩ := dx.d_bits_of
  exact ⟨f, fd, ["number", "size"], [], fn_bits_of fx dx cf lx Fd, hm, Fd.kp, (Fd.bindsN (ps := ["number", "size"]) fun _ _ _ _ _ _ us hl => match us, hl with | [_, _], _ => rfl), .nil⟩
/-! ### canonical -/
def N_canonical : List Str := ["lengths", "found", "number", "size", "length", "sign"]
theorem nd_canonical : N_canonical.Nodup := by decide
def d_canonical : Env' → Res Fl := (dSeq (dSet 1 dNewK) (dSeq (dPar [2, 3] [(fun e => .ok (.fz (.int 0)) e), (fun e => .ok (.fz (.int 0)) e)]) (dSeq (dFor (dItems (dCall semSorted [(dLc [5, 4] (dEnum (dVar 0)) (uTup 2 (uCons (uNm 5) (uCons (uNm 4) uNil))) none (dTup [(dVar 4), (dVar 5)]))])) (uTup 2 (uCons (uNm 4) (uCons (uNm 5) uNil))) (dSeq (dSet 2 (dBin semMul (dVar 2) (dFn [false] F_two_to [] [(dBin semSub (dVar 4) (dVar 3))]))) (dSeq (dSet 3 (dVar 4)) (dSeq (dPut 1 (dVar 5) (dFn [false, false] F_bits_of [] [(dVar 2), (dVar 3)])) (dAug 2 aAdd (fun e => .ok (.fz (.int 1)) e)))))) (dRet (dCall semTuple [(dLc [5] (dRng1 (dCall semLen [(dVar 0)])) (uNm 5) none (dBin semIx (dVar 1) (dVar 5)))])))))
def F_canonical : List PV → FR := callFn 6 [false] d_canonical
theorem fn_canonical {P : Program} {w : World} {K : PySem.W.Frag} {mg : Str → Option Value} {base : Heap} {C : Ct} (fx : Fx mg) (dx : Dx K mg C) (cf : CF C lay nam) (lx : Lx K mg base C) {f : Addr} {fd : FuncData} (Fd : FunD K "canonical" "canonical" (defArgs (top 14)) (defBody (top 14)) (defScope (top 14)) [] [] f fd) : FnOk P w K mg base C8.CX0 2 f fd ["lengths"] (SpV C [false] F_canonical) :=
  fnV (N := N_canonical) (k := 1) Fd (C8.fnScope_by (by decide +kernel)) rfl (by decide) dx.hK fun cdv A outer s H E g hC hr ok =>
    (ss_cons (ss_set (i := 1) nd_canonical rfl ((by first | exact .inl rfl | exact .inr rfl)) se_dnewK rfl ((by first | exact .inr rfl | exact .inl rfl)))
    (ss_cons (ss_parO ok rfl (by decide) (sgn_cons (i := 2) nd_canonical rfl ((by first | exact .inl rfl | exact .inr rfl)) ((by first | exact .inr rfl | exact .inl rfl)) (sgn_cons (i := 3) nd_canonical rfl ((by first | exact .inl rfl | exact .inr rfl)) ((by first | exact .inr rfl | exact .inl rfl)) sgn_nil rfl) rfl) (sax_cons (fun g1 h1 => have ok1 := ok_c ok h1; se_int) (sax_cons (fun g1 h1 => have ok1 := ok_c ok h1; se_int) sax_nil rfl) rfl) rfl rfl rfl rfl rfl)
    (ss_cons (ss_for PassesOwn.never ok (si_val ok.K (se_callB (c_sorted ok) rfl fx.n_sorted boot_sorted (sa_cons (se_lc (vs := [5, 4]) [("sign", 5), ("length", 4)] ok nd_canonical (si_enum ok.K rfl fx.n_enumerate (sa_cons (se_var (i := 0) (by rfl) ((by first | exact .inl rfl | exact .inr (.inl rfl) | exact .inr (.inr rfl))) (by decide) (by decide)) sa_nil rfl) rfl) (blkOk_by (by rfl)) rfl (by decide) (fun _ _ _ _ _ g1 h1 ok1 => (sg_tup ok1 ok1.calm (sgs_cons (sg_name (i := 5) nd_canonical rfl ((by first | exact .inl rfl | exact .inr rfl)) ((by first | exact .inr rfl | exact .inl rfl))) (sgs_cons (sg_name (i := 4) nd_canonical rfl ((by first | exact .inl rfl | exact .inr rfl)) ((by first | exact .inr rfl | exact .inl rfl))) sgs_nil rfl) rfl) rfl rfl)) (fun _ _ _ _ _ g1 h1 ok1 => sts_nil) (fun _ _ _ _ _ g1 h1 ok1 => (se_tup (sa_cons (se_var (i := 4) (by rfl) ((by first | exact .inl rfl | exact .inr (.inl rfl) | exact .inr (.inr rfl))) (by decide) (by decide)) (sa_cons (se_var (i := 5) (by rfl) ((by first | exact .inl rfl | exact .inr (.inl rfl) | exact .inr (.inr rfl))) (by decide) (by decide)) sa_nil rfl) rfl))) (fun _ => rfl)) sa_nil rfl) (by decide) (by decide) rfl rfl)) (sg_tup ok ok.calm (sgs_cons (sg_name (i := 4) nd_canonical rfl ((by first | exact .inl rfl | exact .inr rfl)) ((by first | exact .inr rfl | exact .inl rfl))) (sgs_cons (sg_name (i := 5) nd_canonical rfl ((by first | exact .inl rfl | exact .inr rfl)) ((by first | exact .inr rfl | exact .inl rfl))) sgs_nil rfl) rfl) rfl rfl) (ss_cons (ss_set (i := 2) nd_canonical rfl ((by first | exact .inl rfl | exact .inr rfl)) (se_bin (se_var (i := 2) (by rfl) ((by first | exact .inl rfl | exact .inr (.inl rfl) | exact .inr (.inr rfl))) (by decide) (by decide)) (se_fnC hC (cal_two_to fx dx cf lx) hr (by decide) rfl rs_nil0 (sa_cons (se_bin (se_var (i := 4) (by rfl) ((by first | exact .inl rfl | exact .inr (.inl rfl) | exact .inr (.inr rfl))) (by decide) (by decide)) (se_var (i := 3) (by rfl) ((by first | exact .inl rfl | exact .inr (.inl rfl) | exact .inr (.inr rfl))) (by decide) (by decide)) o_sub) sa_nil rfl) (by decide) rfl rfl) o_mul) rfl ((by first | exact .inr rfl | exact .inl rfl)))
    (ss_cons (ss_set (i := 3) nd_canonical rfl ((by first | exact .inl rfl | exact .inr rfl)) (se_var (i := 4) (by rfl) ((by first | exact .inl rfl | exact .inr (.inl rfl) | exact .inr (.inr rfl))) (by decide) (by decide)) rfl ((by first | exact .inr rfl | exact .inl rfl)))
    (ss_cons (ss_put (i := 1) ok (pe_var (i := 1) (by rfl) ((by first | exact .inl rfl | exact .inr (.inl rfl) | exact .inr (.inr rfl))) (by decide) (by decide)) (se_var (i := 5) (by rfl) ((by first | exact .inl rfl | exact .inr (.inl rfl) | exact .inr (.inr rfl))) (by decide) (by decide)) (se_fnC hC (cal_bits_of fx dx cf lx) hr (by decide) rfl rs_nil0 (sa_cons (se_var (i := 2) (by rfl) ((by first | exact .inl rfl | exact .inr (.inl rfl) | exact .inr (.inr rfl))) (by decide) (by decide)) (sa_cons (se_var (i := 3) (by rfl) ((by first | exact .inl rfl | exact .inr (.inl rfl) | exact .inr (.inr rfl))) (by decide) (by decide)) sa_nil rfl) rfl) (by decide) rfl rfl) rfl rfl rfl (fun _ => rfl))
    (ss_one (ss_aug (i := 2) nd_canonical rfl ((by first | exact .inl rfl | exact .inr rfl)) se_int ip_addO ((by first | exact .inr rfl | exact .inl rfl))))))) (fun _ => rfl))
    (ss_one (ss_ret (se_callTy (c_tuple) rfl fx.n_tuple boot_tuple (sa_cons (se_lc (vs := [5]) [("sign", 5)] ok nd_canonical (si_range1 rfl fx.n_range (sa_cons (se_callB (c_len ok) rfl fx.n_len boot_len (sa_cons (se_var (i := 0) (by rfl) ((by first | exact .inl rfl | exact .inr (.inl rfl) | exact .inr (.inr rfl))) (by decide) (by decide)) sa_nil rfl) (by decide) (by decide) rfl rfl) sa_nil rfl) rfl) (blkOk_by (by rfl)) rfl (by decide) (fun _ _ _ _ _ g1 h1 ok1 => (sg_name (i := 5) nd_canonical rfl ((by first | exact .inl rfl | exact .inr rfl)) ((by first | exact .inr rfl | exact .inl rfl)))) (fun _ _ _ _ _ g1 h1 ok1 => sts_nil) (fun _ _ _ _ _ g1 h1 ok1 => (se_ix (o_ix ok1) (se_var (i := 1) (by rfl) ((by first | exact .inl rfl | exact .inr (.inl rfl) | exact .inr (.inr rfl))) (by decide) (by decide)) (se_var (i := 5) (by rfl) ((by first | exact .inl rfl | exact .inr (.inl rfl) | exact .inr (.inr rfl))) (by decide) (by decide)) (fun _ _ => rfl))) (fun _ => rfl)) sa_nil rfl) (by decide) (by decide) rfl rfl))))))
theorem cal_canonical {P : Program} {w : World} {K : PySem.W.Frag} {mg : Str → Option Value} {base : Heap} {C : Ct} (fx : Fx mg) (dx : Dx K mg C) (cf : CF C lay nam) (lx : Lx K mg base C) : C8.Cal P w K mg base 2 "canonical" (SpV C [false] F_canonical) [] := by
  obtain ⟨f, fd, hm, Fd⟩ := dx.d_canonical
  exact ⟨f, fd, ["lengths"], [], fn_canonical fx dx cf lx Fd, hm, Fd.kp, (Fd.bindsN (ps := ["lengths"]) fun _ _ _ _ _ _ us hl => match us, hl with | [_], _ => rfl), .nil⟩
/-! ### is_word -/
def N_is_word : List Str := ["value", "size", "bit"]
theorem nd_is_word : N_is_word.Nodup := by decide
def d_is_word : Env' → Res Fl := (dRet (dBool true (dIsi (ansB "str") (dVar 0)) (dBool true (dBin semEq (dCall semLen [(dVar 0)]) (dVar 1)) (dCall semAll [(dLc [2] (dItems (dVar 0)) (uNm 2) none (dBin semIn (dVar 2) (dTup [(fun e => .ok (.fz (.str "0")) e), (fun e => .ok (.fz (.str "1")) e)])))]))))
def F_is_word : List PV → FR := callFn 3 [false, false] d_is_word
theorem fn_is_word {P : Program} {w : World} {K : PySem.W.Frag} {mg : Str → Option Value} {base : Heap} {C : Ct} (fx : Fx mg) (dx : Dx K mg C) (cf : CF C lay nam) (lx : Lx K mg base C) {f : Addr} {fd : FuncData} (Fd : FunD K "is_word" "is_word" (defArgs (top 15)) (defBody (top 15)) (defScope (top 15)) [] [] f fd) : FnOk P w K mg base C8.CX0 1 f fd ["value", "size"] (SpV C [false, false] F_is_word) :=
  fnV (N := N_is_word) (k := 0) Fd (C8.fnScope_by (by decide +kernel)) rfl (by decide) dx.hK fun cdv A outer s H E g hC hr ok =>
    (ss_one (ss_ret (se_and ok.K (se_isB (T := "str") hC ok cf (by decide) fx.n_isinstance rfl fx.n_str rfl (se_var (i := 0) (by rfl) ((by first | exact .inl rfl | exact .inr (.inl rfl) | exact .inr (.inr rfl))) (by decide) (by decide)) (by decide) (by decide) (by rfl) (by rfl) (by rfl)) (se_and ok.K (se_cmp (se_callB (c_len ok) rfl fx.n_len boot_len (sa_cons (se_var (i := 0) (by rfl) ((by first | exact .inl rfl | exact .inr (.inl rfl) | exact .inr (.inr rfl))) (by decide) (by decide)) sa_nil rfl) (by decide) (by decide) rfl rfl) (se_var (i := 1) (by rfl) ((by first | exact .inl rfl | exact .inr (.inl rfl) | exact .inr (.inr rfl))) (by decide) (by decide)) (o_eq ok) rfl) (se_one (se_callB (c_all ok) rfl fx.n_all boot_all (sa_cons (se_lc (vs := [2]) [("bit", 2)] ok nd_is_word (si_val ok.K (se_var (i := 0) (by rfl) ((by first | exact .inl rfl | exact .inr (.inl rfl) | exact .inr (.inr rfl))) (by decide) (by decide))) (blkOk_by (by rfl)) rfl (by decide) (fun _ _ _ _ _ g1 h1 ok1 => (sg_name (i := 2) nd_is_word rfl ((by first | exact .inl rfl | exact .inr rfl)) ((by first | exact .inr rfl | exact .inl rfl)))) (fun _ _ _ _ _ g1 h1 ok1 => sts_nil) (fun _ _ _ _ _ g1 h1 ok1 => (se_cmp (se_var (i := 2) (by rfl) ((by first | exact .inl rfl | exact .inr (.inl rfl) | exact .inr (.inr rfl))) (by decide) (by decide)) (se_tup (sa_cons se_str (sa_cons se_str sa_nil rfl) rfl)) (o_in ok1) rfl)) (fun _ => rfl)) sa_nil rfl) (by decide) (by decide) rfl rfl))))))
theorem cal_is_word {P : Program} {w : World} {K : PySem.W.Frag} {mg : Str → Option Value} {base : Heap} {C : Ct} (fx : Fx mg) (dx : Dx K mg C) (cf : CF C lay nam) (lx : Lx K mg base C) : C8.Cal P w K mg base 1 "is_word" (SpV C [false, false] F_is_word) [] := by
  obtain ⟨f, fd, hm, Fd⟩ := dx.d_is_word
  exact ⟨f, fd, ["value", "size"], [], fn_is_word fx dx cf lx Fd, hm, Fd.kp, (Fd.bindsN (ps := ["value", "size"]) fun _ _ _ _ _ _ us hl => match us, hl with | [_, _], _ => rfl), .nil⟩
/-! ### checked_words -/
def N_checked_words : List Str := ["lengths", "words", "index", "length", "word", "other"]
theorem nd_checked_words : N_checked_words.Nodup := by decide
def d_checked_words : Env' → Res Fl := (dSeq (dFor (dEnum (dVar 0)) (uTup 2 (uCons (uNm 2) (uCons (uNm 3) uNil))) (dIfS (dNotT (dTru (dFn [false, false] F_is_word [] [(dBin semIx (dVar 1) (dVar 2)), (dVar 3)]))) dBad (fun e => .ok .nx e))) (dSeq (dFor (dEnum (dVar 1)) (uTup 2 (uCons (uNm 2) (uCons (uNm 4) uNil))) (dFor (dRng2 (dBin semAdd (dVar 2) (fun e => .ok (.fz (.int 1)) e)) (dCall semLen [(dVar 1)])) (uNm 5) (dIfS (dOrT (dTru (dMeth "str" semStarts (dVar 4) [(dBin semIx (dVar 1) (dVar 5))])) (dTru (dMeth "str" semStarts (dBin semIx (dVar 1) (dVar 5)) [(dVar 4)]))) dBad (fun e => .ok .nx e)))) (dRet (dCall semTuple [(dVar 1)]))))
def F_checked_words : List PV → FR := callFn 6 [false, false] d_checked_words
theorem fn_checked_words {P : Program} {w : World} {K : PySem.W.Frag} {mg : Str → Option Value} {base : Heap} {C : Ct} (fx : Fx mg) (dx : Dx K mg C) (cf : CF C lay nam) (lx : Lx K mg base C) {f : Addr} {fd : FuncData} (Fd : FunD K "checked_words" "checked_words" (defArgs (top 16)) (defBody (top 16)) (defScope (top 16)) [] [] f fd) : FnOk P w K mg base C8.CX0 2 f fd ["lengths", "words"] (SpV C [false, false] F_checked_words) :=
  fnV (N := N_checked_words) (k := 1) Fd (C8.fnScope_by (by decide +kernel)) rfl (by decide) dx.hK fun cdv A outer s H E g hC hr ok =>
    (ss_cons (ss_for PassesOwn.never ok (si_enum ok.K rfl fx.n_enumerate (sa_cons (se_var (i := 0) (by rfl) ((by first | exact .inl rfl | exact .inr (.inl rfl) | exact .inr (.inr rfl))) (by decide) (by decide)) sa_nil rfl) rfl) (sg_tup ok ok.calm (sgs_cons (sg_name (i := 2) nd_checked_words rfl ((by first | exact .inl rfl | exact .inr rfl)) ((by first | exact .inr rfl | exact .inl rfl))) (sgs_cons (sg_name (i := 3) nd_checked_words rfl ((by first | exact .inl rfl | exact .inr rfl)) ((by first | exact .inr rfl | exact .inl rfl))) sgs_nil rfl) rfl) rfl rfl) (ss_one (ss_if (st_not (st_val ok.K (se_fnC hC (cal_is_word fx dx cf lx) hr (by decide) rfl rs_nil0 (sa_cons (se_ix (o_ix ok) (se_var (i := 1) (by rfl) ((by first | exact .inl rfl | exact .inr (.inl rfl) | exact .inr (.inr rfl))) (by decide) (by decide)) (se_var (i := 2) (by rfl) ((by first | exact .inl rfl | exact .inr (.inl rfl) | exact .inr (.inr rfl))) (by decide) (by decide)) (fun _ _ => rfl)) (sa_cons (se_var (i := 3) (by rfl) ((by first | exact .inl rfl | exact .inr (.inl rfl) | exact .inr (.inr rfl))) (by decide) (by decide)) sa_nil rfl) rfl) (by decide) rfl rfl) (fun _ => rfl))) (ss_one ss_never) ss_nil)) (fun _ => rfl))
    (ss_cons (ss_for PassesOwn.never ok (si_enum ok.K rfl fx.n_enumerate (sa_cons (se_var (i := 1) (by rfl) ((by first | exact .inl rfl | exact .inr (.inl rfl) | exact .inr (.inr rfl))) (by decide) (by decide)) sa_nil rfl) rfl) (sg_tup ok ok.calm (sgs_cons (sg_name (i := 2) nd_checked_words rfl ((by first | exact .inl rfl | exact .inr rfl)) ((by first | exact .inr rfl | exact .inl rfl))) (sgs_cons (sg_name (i := 4) nd_checked_words rfl ((by first | exact .inl rfl | exact .inr rfl)) ((by first | exact .inr rfl | exact .inl rfl))) sgs_nil rfl) rfl) rfl rfl) (ss_one (ss_for PassesOwn.never ok (si_range2 rfl fx.n_range (sa_cons (se_bin (se_var (i := 2) (by rfl) ((by first | exact .inl rfl | exact .inr (.inl rfl) | exact .inr (.inr rfl))) (by decide) (by decide)) se_int o_add) (sa_cons (se_callB (c_len ok) rfl fx.n_len boot_len (sa_cons (se_var (i := 1) (by rfl) ((by first | exact .inl rfl | exact .inr (.inl rfl) | exact .inr (.inr rfl))) (by decide) (by decide)) sa_nil rfl) (by decide) (by decide) rfl rfl) sa_nil rfl) rfl) rfl rfl) (sg_name (i := 5) nd_checked_words rfl ((by first | exact .inl rfl | exact .inr rfl)) ((by first | exact .inr rfl | exact .inl rfl))) (ss_one (ss_if (PW.pt (sw_or (st_val ok.K (se_meth ok (m_starts) (se_var (i := 4) (by rfl) ((by first | exact .inl rfl | exact .inr (.inl rfl) | exact .inr (.inr rfl))) (by decide) (by decide)) (sa_cons (se_ix (o_ix ok) (se_var (i := 1) (by rfl) ((by first | exact .inl rfl | exact .inr (.inl rfl) | exact .inr (.inr rfl))) (by decide) (by decide)) (se_var (i := 5) (by rfl) ((by first | exact .inl rfl | exact .inr (.inl rfl) | exact .inr (.inr rfl))) (by decide) (by decide)) (fun _ _ => rfl)) sa_nil rfl) rfl rfl rfl rfl rfl) (fun _ => rfl)) (sw_or1 (st_val ok.K (se_meth ok (m_starts) (se_ix (o_ix ok) (se_var (i := 1) (by rfl) ((by first | exact .inl rfl | exact .inr (.inl rfl) | exact .inr (.inr rfl))) (by decide) (by decide)) (se_var (i := 5) (by rfl) ((by first | exact .inl rfl | exact .inr (.inl rfl) | exact .inr (.inr rfl))) (by decide) (by decide)) (fun _ _ => rfl)) (sa_cons (se_var (i := 4) (by rfl) ((by first | exact .inl rfl | exact .inr (.inl rfl) | exact .inr (.inr rfl))) (by decide) (by decide)) sa_nil rfl) rfl rfl rfl rfl rfl) (fun _ => rfl))))) (ss_one ss_never) ss_nil)) (fun _ => rfl))) (fun _ => rfl))
    (ss_one (ss_ret (se_callTy (c_tuple) rfl fx.n_tuple boot_tuple (sa_cons (se_var (i := 1) (by rfl) ((by first | exact .inl rfl | exact .inr (.inl rfl) | exact .inr (.inr rfl))) (by decide) (by decide)) sa_nil rfl) (by decide) (by decide) rfl rfl)))))
theorem cal_checked_words {P : Program} {w : World} {K : PySem.W.Frag} {mg : Str → Option Value} {base : Heap} {C : Ct} (fx : Fx mg) (dx : Dx K mg C) (cf : CF C lay nam) (lx : Lx K mg base C) : C8.Cal P w K mg base 2 "checked_words" (SpV C [false, false] F_checked_words) [] := by
  obtain ⟨f, fd, hm, Fd⟩ := dx.d_checked_words
  exact ⟨f, fd, ["lengths", "words"], [], fn_checked_words fx dx cf lx Fd, hm, Fd.kp, (Fd.bindsN (ps := ["lengths", "words"]) fun _ _ _ _ _ _ us hl => match us, hl with | [_, _], _ => rfl), .nil⟩
/-! ### Code.__init__ -/
def N_Code___init__ : List Str := ["self", "lengths", "words", "index", "length"]
theorem nd_Code___init__ : N_Code___init__.Nodup := by decide
def d_Code___init__ : Env' → Res Fl := (dSeq (dExpr (dFn [false] F_check_signs [] [(dCall semLen [(dVar 1)])])) (dSeq (dFor (dEnum (dVar 1)) (uTup 2 (uCons (uNm 3) (uCons (uNm 4) uNil))) (dIfS (dOrT (dNotT (dTru (dFn [false, false] F_is_whole [] [(dVar 4), (fun e => .ok (.fz (.int 1)) e)]))) (asB (dBin semGt (dVar 4) (fun e => .ok (.fz (.int 25)) e)))) dBad (fun e => .ok .nx e))) (dSeq (dIfS (asB (dBin semNe (dCall semSum [(dLc [4] (dItems (dVar 1)) (uNm 4) none (dFn [false] F_two_to [] [(dBin semSub (fun e => .ok (.fz (.int 25)) e) (dVar 4))]))]) (dFn [false] F_two_to [] [(fun e => .ok (.fz (.int 25)) e)]))) dBad (fun e => .ok .nx e)) (dSeq (dFldSL lay 0 0 (dCall semTuple [(dVar 1)])) (dSeq (dFldSL lay 1 0 (dIf (asB (dBin semIs (dVar 2) (fun e => .ok (.fz .non) e))) (dFn [false] F_canonical [] [(dFldL lay 0 (dVar 0))]) (dFn [false, false] F_checked_words [] [(dFldL lay 0 (dVar 0)), (dVar 2)]))) (dSeq (dFldSL lay 2 0 (dCall semLen [(dFldL lay 0 (dVar 0))])) (dFldSL lay 3 0 (dCall semMax [(dFldL lay 0 (dVar 0))]))))))))
def F_Code___init__ : List PV → FR := callFn 5 [true, false, false] d_Code___init__
theorem fn_Code___init__ {P : Program} {w : World} {K : PySem.W.Frag} {mg : Str → Option Value} {base : Heap} {C : Ct} (fx : Fx mg) (dx : Dx K mg C) (cf : CF C lay nam) (lx : Lx K mg base C) {f : Addr} {fd : FuncData} (Fd : FunD K "__init__" "Code.__init__" (defArgs (mth 17 0)) (defBody (mth 17 0)) (defScope (mth 17 0)) [.non] [] f fd) : FnOk P w K mg base C8.CX0 3 f fd ["self", "lengths", "words"] (SpV C [true, false, false] F_Code___init__) :=
  fnV (N := N_Code___init__) (k := 2) Fd (C8.fnScope_by (by decide +kernel)) rfl (by decide) dx.hK fun cdv A outer s H E g hC hr ok =>
    (ss_cons (ss_expr (se_fnC hC (cal_check_signs fx dx cf lx) hr (by decide) rfl rs_nil0 (sa_cons (se_callB (c_len ok) rfl fx.n_len boot_len (sa_cons (se_var (i := 1) (by rfl) ((by first | exact .inl rfl | exact .inr (.inl rfl) | exact .inr (.inr rfl))) (by decide) (by decide)) sa_nil rfl) (by decide) (by decide) rfl rfl) sa_nil rfl) (by decide) rfl rfl) rfl)
    (ss_cons (ss_for PassesOwn.never ok (si_enum ok.K rfl fx.n_enumerate (sa_cons (se_var (i := 1) (by rfl) ((by first | exact .inl rfl | exact .inr (.inl rfl) | exact .inr (.inr rfl))) (by decide) (by decide)) sa_nil rfl) rfl) (sg_tup ok ok.calm (sgs_cons (sg_name (i := 3) nd_Code___init__ rfl ((by first | exact .inl rfl | exact .inr rfl)) ((by first | exact .inr rfl | exact .inl rfl))) (sgs_cons (sg_name (i := 4) nd_Code___init__ rfl ((by first | exact .inl rfl | exact .inr rfl)) ((by first | exact .inr rfl | exact .inl rfl))) sgs_nil rfl) rfl) rfl rfl) (ss_one (ss_if (PW.pt (sw_or (st_not (st_val ok.K (se_fnC hC (cal_is_whole fx dx cf lx) hr (by decide) rfl rs_nil0 (sa_cons (se_var (i := 4) (by rfl) ((by first | exact .inl rfl | exact .inr (.inl rfl) | exact .inr (.inr rfl))) (by decide) (by decide)) (sa_cons se_int sa_nil rfl) rfl) (by decide) rfl rfl) (fun _ => rfl))) (sw_or1 (st_cmp (se_var (i := 4) (by rfl) ((by first | exact .inl rfl | exact .inr (.inl rfl) | exact .inr (.inr rfl))) (by decide) (by decide)) (se_gint (by rfl) fx.c_MOST_LENGTH (by decide)) o_gt rfl)))) (ss_one ss_never) ss_nil)) (fun _ => rfl))
    (ss_cons (ss_if (st_cmp (se_callB (c_sum ok) rfl fx.n_sum boot_sum (sa_cons (se_lc (vs := [4]) [("length", 4)] ok nd_Code___init__ (si_val ok.K (se_var (i := 1) (by rfl) ((by first | exact .inl rfl | exact .inr (.inl rfl) | exact .inr (.inr rfl))) (by decide) (by decide))) (blkOk_by (by rfl)) rfl (by decide) (fun _ _ _ _ _ g1 h1 ok1 => (sg_name (i := 4) nd_Code___init__ rfl ((by first | exact .inl rfl | exact .inr rfl)) ((by first | exact .inr rfl | exact .inl rfl)))) (fun _ _ _ _ _ g1 h1 ok1 => sts_nil) (fun _ _ _ _ _ g1 h1 ok1 => (se_fnC (h1.trans hC) (cal_two_to fx dx cf lx) hr (by decide) rfl rs_nil0 (sa_cons (se_bin (se_gint (by rfl) fx.c_MOST_LENGTH (by decide)) (se_var (i := 4) (by rfl) ((by first | exact .inl rfl | exact .inr (.inl rfl) | exact .inr (.inr rfl))) (by decide) (by decide)) o_sub) sa_nil rfl) (by decide) rfl rfl)) (fun _ => rfl)) sa_nil rfl) (by decide) (by decide) rfl rfl) (se_fnC hC (cal_two_to fx dx cf lx) hr (by decide) rfl rs_nil0 (sa_cons (se_gint (by rfl) fx.c_MOST_LENGTH (by decide)) sa_nil rfl) (by decide) rfl rfl) (o_ne ok) rfl) (ss_one ss_never) ss_nil)
    (ss_cons (ss_fldSC (f := 0) (i := 0) hC ok cf rfl (pe_var (i := 0) (by rfl) ((by first | exact .inl rfl | exact .inr (.inl rfl) | exact .inr (.inr rfl))) (by decide) (by decide)) (se_callTy (c_tuple) rfl fx.n_tuple boot_tuple (sa_cons (se_var (i := 1) (by rfl) ((by first | exact .inl rfl | exact .inr (.inl rfl) | exact .inr (.inr rfl))) (by decide) (by decide)) sa_nil rfl) (by decide) (by decide) rfl rfl) rfl)
    (ss_cons (ss_fldSC (f := 1) (i := 0) hC ok cf rfl (pe_var (i := 0) (by rfl) ((by first | exact .inl rfl | exact .inr (.inl rfl) | exact .inr (.inr rfl))) (by decide) (by decide)) (se_if (st_cmp (se_var (i := 2) (by rfl) ((by first | exact .inl rfl | exact .inr (.inl rfl) | exact .inr (.inr rfl))) (by decide) (by decide)) se_non o_is rfl) (se_fnC hC (cal_canonical fx dx cf lx) hr (by decide) rfl rs_nil0 (sa_cons (se_fldC (f := 0) hC ok cf rfl (se_var (i := 0) (by rfl) ((by first | exact .inl rfl | exact .inr (.inl rfl) | exact .inr (.inr rfl))) (by decide) (by decide)) rfl) sa_nil rfl) (by decide) rfl rfl) (se_fnC hC (cal_checked_words fx dx cf lx) hr (by decide) rfl rs_nil0 (sa_cons (se_fldC (f := 0) hC ok cf rfl (se_var (i := 0) (by rfl) ((by first | exact .inl rfl | exact .inr (.inl rfl) | exact .inr (.inr rfl))) (by decide) (by decide)) rfl) (sa_cons (se_var (i := 2) (by rfl) ((by first | exact .inl rfl | exact .inr (.inl rfl) | exact .inr (.inr rfl))) (by decide) (by decide)) sa_nil rfl) rfl) (by decide) rfl rfl)) rfl)
    (ss_cons (ss_fldSC (f := 2) (i := 0) hC ok cf rfl (pe_var (i := 0) (by rfl) ((by first | exact .inl rfl | exact .inr (.inl rfl) | exact .inr (.inr rfl))) (by decide) (by decide)) (se_callB (c_len ok) rfl fx.n_len boot_len (sa_cons (se_fldC (f := 0) hC ok cf rfl (se_var (i := 0) (by rfl) ((by first | exact .inl rfl | exact .inr (.inl rfl) | exact .inr (.inr rfl))) (by decide) (by decide)) rfl) sa_nil rfl) (by decide) (by decide) rfl rfl) rfl)
    (ss_one (ss_fldSC (f := 3) (i := 0) hC ok cf rfl (pe_var (i := 0) (by rfl) ((by first | exact .inl rfl | exact .inr (.inl rfl) | exact .inr (.inr rfl))) (by decide) (by decide)) (se_callB (c_max ok) rfl fx.n_max boot_max (sa_cons (se_fldC (f := 0) hC ok cf rfl (se_var (i := 0) (by rfl) ((by first | exact .inl rfl | exact .inr (.inl rfl) | exact .inr (.inr rfl))) (by decide) (by decide)) rfl) sa_nil rfl) (by decide) (by decide) rfl rfl) rfl))))))))
theorem mak_Code {P : Program} {w : World} {K : PySem.W.Frag} {mg : Str → Option Value} {base : Heap} {C : Ct} (fx : Fx mg) (dx : Dx K mg C) (cf : CF C lay nam) (lx : Lx K mg base C) : C8.Mak P w K mg base 3 "Code" (C.ad 0) (SpV C [true, false, false] F_Code___init__) [] := by
  obtain ⟨f, fd, M, hm, Fd⟩ := dx.d_Code___init__
  obtain ⟨ds, vds, bds⟩ := Fd.binds1 (ps := ["self", "lengths", "words"]) 3 1 (by simp) rfl (fun T kV doc pm an cdv ct us its h1 h2 => match us, its, h1, h2 with | [_, _, _], [_], _, _ => ⟨_, rfl, rfl⟩)
  exact ⟨f, fd, ["self", "lengths", "words"], ds, M, fn_Code___init__ fx dx cf lx Fd, hm, bds, vds⟩
theorem mak_Code_1 {P : Program} {w : World} {K : PySem.W.Frag} {mg : Str → Option Value} {base : Heap} {C : Ct} (fx : Fx mg) (dx : Dx K mg C) (cf : CF C lay nam) (lx : Lx K mg base C) : C8.Mak P w K mg base 3 "Code" (C.ad 0) (SpV C [true, false, false] F_Code___init__) [.non] := by
  obtain ⟨f, fd, M, hm, Fd⟩ := dx.d_Code___init__
  obtain ⟨ds, vds, bds⟩ := Fd.binds1 (ps := ["self", "lengths", "words"]) 2 0 (by simp) rfl (fun T kV doc pm an cdv ct us its h1 h2 => match us, its, h1, h2 with | [_, _], [_], _, _ => ⟨_, rfl, rfl⟩)
  exact ⟨f, fd, ["self", "lengths", "words"], ds, M, fn_Code___init__ fx dx cf lx Fd, hm, bds, vds⟩
/-! ### Code.__eq__ -/
def N_Code___eq__ : List Str := ["self", "other"]
theorem nd_Code___eq__ : N_Code___eq__.Nodup := by decide
def d_Code___eq__ : Env' → Res Fl := (dRet (dBool true (dIsi (ansO 1 0) (dVar 1)) (dBin semEq (dFldL lay 1 (dVar 0)) (dFldL lay 1 (dVar 1)))))
def F_Code___eq__ : List PV → FR := callFn 2 [false, false] d_Code___eq__
theorem fn_Code___eq__ {P : Program} {w : World} {K : PySem.W.Frag} {mg : Str → Option Value} {base : Heap} {C : Ct} (fx : Fx mg) (dx : Dx K mg C) (cf : CF C lay nam) (lx : Lx K mg base C) {f : Addr} {fd : FuncData} (Fd : FunD K "__eq__" "Code.__eq__" (defArgs (mth 17 1)) (defBody (mth 17 1)) (defScope (mth 17 1)) [] [] f fd) : FnOk P w K mg base C8.CX0 1 f fd ["self", "other"] (SpV C [false, false] F_Code___eq__) :=
  fnV (N := N_Code___eq__) (k := 0) Fd (C8.fnScope_by (by decide +kernel)) rfl (by decide) dx.hK fun cdv A outer s H E g hC hr ok =>
    (ss_one (ss_ret (se_and ok.K (se_isO (n := 1) (c0 := 0) hC ok cf dx.o_Code fx.n_isinstance rfl dx.m_Code rfl (se_var (i := 1) (by rfl) ((by first | exact .inl rfl | exact .inr (.inl rfl) | exact .inr (.inr rfl))) (by decide) (by decide)) (by decide) rfl rfl (by rfl)) (se_one (se_cmp (se_fldC (f := 1) hC ok cf rfl (se_var (i := 0) (by rfl) ((by first | exact .inl rfl | exact .inr (.inl rfl) | exact .inr (.inr rfl))) (by decide) (by decide)) rfl) (se_fldC (f := 1) hC ok cf rfl (se_var (i := 1) (by rfl) ((by first | exact .inl rfl | exact .inr (.inl rfl) | exact .inr (.inr rfl))) (by decide) (by decide)) rfl) (o_eq ok) rfl)))))
theorem met_Code___eq__ {P : Program} {w : World} {K : PySem.W.Frag} {mg : Str → Option Value} {base : Heap} {C : Ct} (fx : Fx mg) (dx : Dx K mg C) (cf : CF C lay nam) (lx : Lx K mg base C) : C8.Met P w K mg base 1 (C.ad 0) "__eq__" (SpV C [false, false] F_Code___eq__) [] := by
  obtain ⟨f, fd, cl, me, Fd⟩ := dx.d_Code___eq__
  exact ⟨f, fd, ["self", "other"], [], cl, me, fn_Code___eq__ fx dx cf lx Fd, (Fd.bindsN (ps := ["self", "other"]) fun _ _ _ _ _ _ us hl => match us, hl with | [_, _], _ => rfl), .nil⟩
/-! ### _law_pen_of -/
def N_law_pen_of : List Str := ["_law_script"]
theorem nd_law_pen_of : N_law_pen_of.Nodup := by decide
def d_law_pen_of : Env' → Res Fl := (dRet (dDisp [((fun e => .ok (.fz (.str "cells")) e), (dCall semList [(dSl (dVar 0) none (some (fun e => .ok (.fz (.int 63)) e)))])), ((fun e => .ok (.fz (.str "next")) e), (fun e => .ok (.fz (.int 0)) e)), ((fun e => .ok (.fz (.str "left")) e), (fun e => .ok (.fz (.int 0)) e))] [] []))
def F_law_pen_of : List PV → FR := callFn 1 [false] d_law_pen_of
theorem fn_law_pen_of {P : Program} {w : World} {K : PySem.W.Frag} {mg : Str → Option Value} {base : Heap} {C : Ct} (fx : Fx mg) (dx : Dx K mg C) (cf : CF C lay nam) (lx : Lx K mg base C) {f : Addr} {fd : FuncData} (Fd : FunD K "_law_pen_of" "_law_pen_of" (defArgs (top 19)) (defBody (top 19)) (defScope (top 19)) [] [] f fd) : FnOk P w K mg base C8.CX0 1 f fd ["_law_script"] (SpV C [false] F_law_pen_of) :=
  fnV (N := N_law_pen_of) (k := 0) Fd (C8.fnScope_by (by decide +kernel)) rfl (by decide) dx.hK fun cdv A outer s H E g hC hr ok =>
    (ss_one (ss_ret (se_disp (prs := [((fun e => .ok (.fz (.str "cells")) e), (dCall semList [(dSl (dVar 0) none (some (fun e => .ok (.fz (.int 63)) e)))])), ((fun e => .ok (.fz (.str "next")) e), (fun e => .ok (.fz (.int 0)) e)), ((fun e => .ok (.fz (.str "left")) e), (fun e => .ok (.fz (.int 0)) e))]) (spp_cons (fun g1 h1 => have ok1 := ok_c ok h1; se_str) (fun g1 h1 => have ok1 := ok_c ok h1; (se_callTy (c_list ok1) rfl fx.n_list boot_list (sa_cons (se_slice ok1 (se_var (i := 0) (by rfl) ((by first | exact .inl rfl | exact .inr (.inl rfl) | exact .inr (.inr rfl))) (by decide) (by decide)) spo_none (spo_some se_int)) sa_nil rfl) (by decide) (by decide) rfl rfl)) (spp_cons (fun g1 h1 => have ok1 := ok_c ok h1; se_str) (fun g1 h1 => have ok1 := ok_c ok h1; se_int) (spp_cons (fun g1 h1 => have ok1 := ok_c ok h1; se_str) (fun g1 h1 => have ok1 := ok_c ok h1; se_int) pps_nil))) rfl rfl (by simp) (by decide) (by decide))))
theorem cal_law_pen_of {P : Program} {w : World} {K : PySem.W.Frag} {mg : Str → Option Value} {base : Heap} {C : Ct} (fx : Fx mg) (dx : Dx K mg C) (cf : CF C lay nam) (lx : Lx K mg base C) : C8.Cal P w K mg base 1 "_law_pen_of" (SpV C [false] F_law_pen_of) [] := by
  obtain ⟨f, fd, hm, Fd⟩ := dx.d_law_pen_of
  exact ⟨f, fd, ["_law_script"], [], fn_law_pen_of fx dx cf lx Fd, hm, Fd.kp, (Fd.bindsN (ps := ["_law_script"]) fun _ _ _ _ _ _ us hl => match us, hl with | [_], _ => rfl), .nil⟩
/-! ### _law_draw -/
def N_law_draw : List Str := ["_law_pen", "_law_many", "_law_digit", "_law_index", "_law_size", "_law_cell", "_law_mixed"]
theorem nd_law_draw : N_law_draw.Nodup := by decide
def d_law_draw : Env' → Res Fl := (dSeq (dIfS (asB (dBin semGt (dBin semIx (dVar 0) (fun e => .ok (.fz (.str "left")) e)) (fun e => .ok (.fz (.int 0)) e))) (dSeq (dSet 2 (dBin semMod (dCall semInt [(dBin semIx (dVar 0) (fun e => .ok (.fz (.str "left")) e))]) (dVar 1))) (dSeq (dPut 0 (fun e => .ok (.fz (.str "left")) e) (dBin semDiv (dBin semIx (dVar 0) (fun e => .ok (.fz (.str "left")) e)) (dVar 1))) (dRet (dVar 2)))) (fun e => .ok .nx e)) (dSeq (dPar [3, 4] [(dBin semIx (dVar 0) (fun e => .ok (.fz (.str "next")) e)), (dCall semLen [(dBin semIx (dVar 0) (fun e => .ok (.fz (.str "cells")) e))])]) (dSeq (dPut 0 (fun e => .ok (.fz (.str "next")) e) (dBin semAdd (dVar 3) (fun e => .ok (.fz (.int 1)) e))) (dSeq (dIfS (asB (dBin semEq (dVar 4) (fun e => .ok (.fz (.int 0)) e))) (dRet (dBin semMod (dCall semInt [(dBin semAdd (dBin semMul (fun e => .ok (.fz (.int 7)) e) (dVar 3)) (fun e => .ok (.fz (.int 3)) e))]) (dVar 1))) (fun e => .ok .nx e)) (dSeq (dSet 5 (dBin semIx (dBin semIx (dVar 0) (fun e => .ok (.fz (.str "cells")) e)) (dBin semMod (dCall semInt [(dVar 3)]) (dVar 4)))) (dSeq (dIfS (dAndT (asB (dBin semLt (dVar 3) (dVar 4))) (asB (dBin semGe (dCall semAbs [(dVar 5)]) (dBin semPow (fun e => .ok (.fz (.int 10)) e) (fun e => .ok (.fz (.int 18)) e))))) (dSeq (dPut 0 (fun e => .ok (.fz (.str "left")) e) (dBin semDiv (dBin semSub (dCall semAbs [(dVar 5)]) (dBin semPow (fun e => .ok (.fz (.int 10)) e) (fun e => .ok (.fz (.int 18)) e))) (dVar 1))) (dRet (dBin semMod (dCall semInt [(dBin semSub (dCall semAbs [(dVar 5)]) (dBin semPow (fun e => .ok (.fz (.int 10)) e) (fun e => .ok (.fz (.int 18)) e)))]) (dVar 1)))) (fun e => .ok .nx e)) (dSeq (dSet 6 (dBin semAdd (dBin semMul (dBin semMod (dCall semInt [(dVar 5)]) (fun e => .ok (.fz (.int 4294967197)) e)) (fun e => .ok (.fz (.int 52711)) e)) (dBin semMul (dBin semMul (fun e => .ok (.fz (.int 20353)) e) (dVar 3)) (dVar 3)))) (dSeq (dSet 6 (dBin semMod (dCall semInt [(dBin semAdd (dBin semAdd (dVar 6) (dBin semMul (fun e => .ok (.fz (.int 1531)) e) (dVar 3))) (fun e => .ok (.fz (.int 11)) e))]) (fun e => .ok (.fz (.int 4294967189)) e))) (dSeq (dSet 6 (dBin semMod (dCall semInt [(dBin semAdd (dBin semAdd (dBin semAdd (dBin semMul (dVar 6) (dVar 6)) (dBin semMul (fun e => .ok (.fz (.int 68903)) e) (dVar 6))) (dBin semMul (fun e => .ok (.fz (.int 23)) e) (dVar 3))) (fun e => .ok (.fz (.int 7)) e))]) (fun e => .ok (.fz (.int 4294967161)) e))) (dRet (dBin semMod (dCall semInt [(dBin semDiv (dBin semMod (dCall semInt [(dBin semMul (dVar 6) (dBin semAdd (dVar 6) (fun e => .ok (.fz (.int 57037)) e)))]) (fun e => .ok (.fz (.int 4294967143)) e)) (fun e => .ok (.fz (.int 64)) e))]) (dVar 1))))))))))))
def F_law_draw : List PV → FR := callFn 7 [true, false] d_law_draw
theorem fn_law_draw {P : Program} {w : World} {K : PySem.W.Frag} {mg : Str → Option Value} {base : Heap} {C : Ct} (fx : Fx mg) (dx : Dx K mg C) (cf : CF C lay nam) (lx : Lx K mg base C) {f : Addr} {fd : FuncData} (Fd : FunD K "_law_draw" "_law_draw" (defArgs (top 20)) (defBody (top 20)) (defScope (top 20)) [] [] f fd) : FnOk P w K mg base C8.CX0 1 f fd ["_law_pen", "_law_many"] (SpV C [true, false] F_law_draw) :=
  fnV (N := N_law_draw) (k := 0) Fd (C8.fnScope_by (by decide +kernel)) rfl (by decide) dx.hK fun cdv A outer s H E g hC hr ok =>
    (ss_cons (ss_if (st_cmp (se_ix (o_ix ok) (se_var (i := 0) (by rfl) ((by first | exact .inl rfl | exact .inr (.inl rfl) | exact .inr (.inr rfl))) (by decide) (by decide)) se_str (fun _ _ => rfl)) se_int o_gt rfl) (ss_cons (ss_set (i := 2) nd_law_draw rfl ((by first | exact .inl rfl | exact .inr rfl)) (se_bin (se_callTy (c_int) rfl fx.n_int boot_int (sa_cons (se_ix (o_ix ok) (se_var (i := 0) (by rfl) ((by first | exact .inl rfl | exact .inr (.inl rfl) | exact .inr (.inr rfl))) (by decide) (by decide)) se_str (fun _ _ => rfl)) sa_nil rfl) (by decide) (by decide) rfl rfl) (se_var (i := 1) (by rfl) ((by first | exact .inl rfl | exact .inr (.inl rfl) | exact .inr (.inr rfl))) (by decide) (by decide)) o_mod) rfl ((by first | exact .inr rfl | exact .inl rfl)))
    (ss_cons (ss_put (i := 0) ok (pe_var (i := 0) (by rfl) ((by first | exact .inl rfl | exact .inr (.inl rfl) | exact .inr (.inr rfl))) (by decide) (by decide)) se_str (se_bin (se_ix (o_ix ok) (se_var (i := 0) (by rfl) ((by first | exact .inl rfl | exact .inr (.inl rfl) | exact .inr (.inr rfl))) (by decide) (by decide)) se_str (fun _ _ => rfl)) (se_var (i := 1) (by rfl) ((by first | exact .inl rfl | exact .inr (.inl rfl) | exact .inr (.inr rfl))) (by decide) (by decide)) o_div) rfl rfl rfl (fun _ => rfl))
    (ss_one (ss_ret (se_var (i := 2) (by rfl) ((by first | exact .inl rfl | exact .inr (.inl rfl) | exact .inr (.inr rfl))) (by decide) (by decide)))))) ss_nil)
    (ss_cons (ss_par (i := 3) (j := 4) ok nd_law_draw rfl rfl (by decide) rfl rfl (sax_cons (fun g1 h1 => have ok1 := ok_c ok h1; (se_ix (o_ix ok1) (se_var (i := 0) (by rfl) ((by first | exact .inl rfl | exact .inr (.inl rfl) | exact .inr (.inr rfl))) (by decide) (by decide)) se_str (fun _ _ => rfl))) (sax_cons (fun g1 h1 => have ok1 := ok_c ok h1; (se_callB (c_len ok1) rfl fx.n_len boot_len (sa_cons (se_ix (o_ix ok1) (se_var (i := 0) (by rfl) ((by first | exact .inl rfl | exact .inr (.inl rfl) | exact .inr (.inr rfl))) (by decide) (by decide)) se_str (fun _ _ => rfl)) sa_nil rfl) (by decide) (by decide) rfl rfl)) sax_nil rfl) rfl) rfl rfl)
    (ss_cons (ss_put (i := 0) ok (pe_var (i := 0) (by rfl) ((by first | exact .inl rfl | exact .inr (.inl rfl) | exact .inr (.inr rfl))) (by decide) (by decide)) se_str (se_bin (se_var (i := 3) (by rfl) ((by first | exact .inl rfl | exact .inr (.inl rfl) | exact .inr (.inr rfl))) (by decide) (by decide)) se_int o_add) rfl rfl rfl (fun _ => rfl))
    (ss_cons (ss_if (st_cmp (se_var (i := 4) (by rfl) ((by first | exact .inl rfl | exact .inr (.inl rfl) | exact .inr (.inr rfl))) (by decide) (by decide)) se_int (o_eq ok) rfl) (ss_one (ss_ret (se_bin (se_callTy (c_int) rfl fx.n_int boot_int (sa_cons (se_bin (se_bin se_int (se_var (i := 3) (by rfl) ((by first | exact .inl rfl | exact .inr (.inl rfl) | exact .inr (.inr rfl))) (by decide) (by decide)) o_mul) se_int o_add) sa_nil rfl) (by decide) (by decide) rfl rfl) (se_var (i := 1) (by rfl) ((by first | exact .inl rfl | exact .inr (.inl rfl) | exact .inr (.inr rfl))) (by decide) (by decide)) o_mod))) ss_nil)
    (ss_cons (ss_set (i := 5) nd_law_draw rfl ((by first | exact .inl rfl | exact .inr rfl)) (se_ix (o_ix ok) (se_ix (o_ix ok) (se_var (i := 0) (by rfl) ((by first | exact .inl rfl | exact .inr (.inl rfl) | exact .inr (.inr rfl))) (by decide) (by decide)) se_str (fun _ _ => rfl)) (se_bin (se_callTy (c_int) rfl fx.n_int boot_int (sa_cons (se_var (i := 3) (by rfl) ((by first | exact .inl rfl | exact .inr (.inl rfl) | exact .inr (.inr rfl))) (by decide) (by decide)) sa_nil rfl) (by decide) (by decide) rfl rfl) (se_var (i := 4) (by rfl) ((by first | exact .inl rfl | exact .inr (.inl rfl) | exact .inr (.inr rfl))) (by decide) (by decide)) o_mod) (fun _ _ => rfl)) rfl ((by first | exact .inr rfl | exact .inl rfl)))
    (ss_cons (ss_if (PW.pt (sw_and (st_cmp (se_var (i := 3) (by rfl) ((by first | exact .inl rfl | exact .inr (.inl rfl) | exact .inr (.inr rfl))) (by decide) (by decide)) (se_var (i := 4) (by rfl) ((by first | exact .inl rfl | exact .inr (.inl rfl) | exact .inr (.inr rfl))) (by decide) (by decide)) o_lt rfl) (sw_and1 (st_cmp (se_callB (c_abs) rfl fx.n_abs boot_abs (sa_cons (se_var (i := 5) (by rfl) ((by first | exact .inl rfl | exact .inr (.inl rfl) | exact .inr (.inr rfl))) (by decide) (by decide)) sa_nil rfl) (by decide) (by decide) rfl rfl) (se_bin se_int se_int o_pow) o_ge rfl)))) (ss_cons (ss_put (i := 0) ok (pe_var (i := 0) (by rfl) ((by first | exact .inl rfl | exact .inr (.inl rfl) | exact .inr (.inr rfl))) (by decide) (by decide)) se_str (se_bin (se_bin (se_callB (c_abs) rfl fx.n_abs boot_abs (sa_cons (se_var (i := 5) (by rfl) ((by first | exact .inl rfl | exact .inr (.inl rfl) | exact .inr (.inr rfl))) (by decide) (by decide)) sa_nil rfl) (by decide) (by decide) rfl rfl) (se_bin se_int se_int o_pow) o_sub) (se_var (i := 1) (by rfl) ((by first | exact .inl rfl | exact .inr (.inl rfl) | exact .inr (.inr rfl))) (by decide) (by decide)) o_div) rfl rfl rfl (fun _ => rfl))
    (ss_one (ss_ret (se_bin (se_callTy (c_int) rfl fx.n_int boot_int (sa_cons (se_bin (se_callB (c_abs) rfl fx.n_abs boot_abs (sa_cons (se_var (i := 5) (by rfl) ((by first | exact .inl rfl | exact .inr (.inl rfl) | exact .inr (.inr rfl))) (by decide) (by decide)) sa_nil rfl) (by decide) (by decide) rfl rfl) (se_bin se_int se_int o_pow) o_sub) sa_nil rfl) (by decide) (by decide) rfl rfl) (se_var (i := 1) (by rfl) ((by first | exact .inl rfl | exact .inr (.inl rfl) | exact .inr (.inr rfl))) (by decide) (by decide)) o_mod)))) ss_nil)
    (ss_cons (ss_set (i := 6) nd_law_draw rfl ((by first | exact .inl rfl | exact .inr rfl)) (se_bin (se_bin (se_bin (se_callTy (c_int) rfl fx.n_int boot_int (sa_cons (se_var (i := 5) (by rfl) ((by first | exact .inl rfl | exact .inr (.inl rfl) | exact .inr (.inr rfl))) (by decide) (by decide)) sa_nil rfl) (by decide) (by decide) rfl rfl) se_int o_mod) se_int o_mul) (se_bin (se_bin se_int (se_var (i := 3) (by rfl) ((by first | exact .inl rfl | exact .inr (.inl rfl) | exact .inr (.inr rfl))) (by decide) (by decide)) o_mul) (se_var (i := 3) (by rfl) ((by first | exact .inl rfl | exact .inr (.inl rfl) | exact .inr (.inr rfl))) (by decide) (by decide)) o_mul) o_add) rfl ((by first | exact .inr rfl | exact .inl rfl)))
    (ss_cons (ss_set (i := 6) nd_law_draw rfl ((by first | exact .inl rfl | exact .inr rfl)) (se_bin (se_callTy (c_int) rfl fx.n_int boot_int (sa_cons (se_bin (se_bin (se_var (i := 6) (by rfl) ((by first | exact .inl rfl | exact .inr (.inl rfl) | exact .inr (.inr rfl))) (by decide) (by decide)) (se_bin se_int (se_var (i := 3) (by rfl) ((by first | exact .inl rfl | exact .inr (.inl rfl) | exact .inr (.inr rfl))) (by decide) (by decide)) o_mul) o_add) se_int o_add) sa_nil rfl) (by decide) (by decide) rfl rfl) se_int o_mod) rfl ((by first | exact .inr rfl | exact .inl rfl)))
    (ss_cons (ss_set (i := 6) nd_law_draw rfl ((by first | exact .inl rfl | exact .inr rfl)) (se_bin (se_callTy (c_int) rfl fx.n_int boot_int (sa_cons (se_bin (se_bin (se_bin (se_bin (se_var (i := 6) (by rfl) ((by first | exact .inl rfl | exact .inr (.inl rfl) | exact .inr (.inr rfl))) (by decide) (by decide)) (se_var (i := 6) (by rfl) ((by first | exact .inl rfl | exact .inr (.inl rfl) | exact .inr (.inr rfl))) (by decide) (by decide)) o_mul) (se_bin se_int (se_var (i := 6) (by rfl) ((by first | exact .inl rfl | exact .inr (.inl rfl) | exact .inr (.inr rfl))) (by decide) (by decide)) o_mul) o_add) (se_bin se_int (se_var (i := 3) (by rfl) ((by first | exact .inl rfl | exact .inr (.inl rfl) | exact .inr (.inr rfl))) (by decide) (by decide)) o_mul) o_add) se_int o_add) sa_nil rfl) (by decide) (by decide) rfl rfl) se_int o_mod) rfl ((by first | exact .inr rfl | exact .inl rfl)))
    (ss_one (ss_ret (se_bin (se_callTy (c_int) rfl fx.n_int boot_int (sa_cons (se_bin (se_bin (se_callTy (c_int) rfl fx.n_int boot_int (sa_cons (se_bin (se_var (i := 6) (by rfl) ((by first | exact .inl rfl | exact .inr (.inl rfl) | exact .inr (.inr rfl))) (by decide) (by decide)) (se_bin (se_var (i := 6) (by rfl) ((by first | exact .inl rfl | exact .inr (.inl rfl) | exact .inr (.inr rfl))) (by decide) (by decide)) se_int o_add) o_mul) sa_nil rfl) (by decide) (by decide) rfl rfl) se_int o_mod) se_int o_div) sa_nil rfl) (by decide) (by decide) rfl rfl) (se_var (i := 1) (by rfl) ((by first | exact .inl rfl | exact .inr (.inl rfl) | exact .inr (.inr rfl))) (by decide) (by decide)) o_mod))))))))))))
theorem cal_law_draw {P : Program} {w : World} {K : PySem.W.Frag} {mg : Str → Option Value} {base : Heap} {C : Ct} (fx : Fx mg) (dx : Dx K mg C) (cf : CF C lay nam) (lx : Lx K mg base C) : C8.Cal P w K mg base 1 "_law_draw" (SpV C [true, false] F_law_draw) [] := by
  obtain ⟨f, fd, hm, Fd⟩ := dx.d_law_draw
  exact ⟨f, fd, ["_law_pen", "_law_many"], [], fn_law_draw fx dx cf lx Fd, hm, Fd.kp, (Fd.bindsN (ps := ["_law_pen", "_law_many"]) fun _ _ _ _ _ _ us hl => match us, hl with | [_, _], _ => rfl), .nil⟩
/-! ### _law_pick -/
def N_law_pick : List Str := ["_law_pen", "_law_items"]
theorem nd_law_pick : N_law_pick.Nodup := by decide
def d_law_pick : Env' → Res Fl := (dRet (dBin semIx (dVar 1) (dFn [true, false] F_law_draw [] [(dVar 0), (dCall semLen [(dVar 1)])])))
def F_law_pick : List PV → FR := callFn 2 [true, false] d_law_pick
theorem fn_law_pick {P : Program} {w : World} {K : PySem.W.Frag} {mg : Str → Option Value} {base : Heap} {C : Ct} (fx : Fx mg) (dx : Dx K mg C) (cf : CF C lay nam) (lx : Lx K mg base C) {f : Addr} {fd : FuncData} (Fd : FunD K "_law_pick" "_law_pick" (defArgs (top 21)) (defBody (top 21)) (defScope (top 21)) [] [] f fd) : FnOk P w K mg base C8.CX0 2 f fd ["_law_pen", "_law_items"] (SpV C [true, false] F_law_pick) :=
  fnV (N := N_law_pick) (k := 1) Fd (C8.fnScope_by (by decide +kernel)) rfl (by decide) dx.hK fun cdv A outer s H E g hC hr ok =>
    (ss_one (ss_ret (se_ix (o_ix ok) (se_var (i := 1) (by rfl) ((by first | exact .inl rfl | exact .inr (.inl rfl) | exact .inr (.inr rfl))) (by decide) (by decide)) (se_fnC hC (cal_law_draw fx dx cf lx) hr (by decide) rfl rs_nil0 (sa_cons (se_var (i := 0) (by rfl) ((by first | exact .inl rfl | exact .inr (.inl rfl) | exact .inr (.inr rfl))) (by decide) (by decide)) (sa_cons (se_callB (c_len ok) rfl fx.n_len boot_len (sa_cons (se_var (i := 1) (by rfl) ((by first | exact .inl rfl | exact .inr (.inl rfl) | exact .inr (.inr rfl))) (by decide) (by decide)) sa_nil rfl) (by decide) (by decide) rfl rfl) sa_nil rfl) rfl) (by decide) rfl rfl) (fun _ _ => rfl))))
theorem cal_law_pick {P : Program} {w : World} {K : PySem.W.Frag} {mg : Str → Option Value} {base : Heap} {C : Ct} (fx : Fx mg) (dx : Dx K mg C) (cf : CF C lay nam) (lx : Lx K mg base C) : C8.Cal P w K mg base 2 "_law_pick" (SpV C [true, false] F_law_pick) [] := by
  obtain ⟨f, fd, hm, Fd⟩ := dx.d_law_pick
  exact ⟨f, fd, ["_law_pen", "_law_items"], [], fn_law_pick fx dx cf lx Fd, hm, Fd.kp, (Fd.bindsN (ps := ["_law_pen", "_law_items"]) fun _ _ _ _ _ _ us hl => match us, hl with | [_, _], _ => rfl), .nil⟩
/-! ### _law_lengths_of -/
def N_law_lengths_of : List Str := ["_law_pen", "_law_many", "_law_found", "_law_k", "_law_at"]
theorem nd_law_lengths_of : N_law_lengths_of.Nodup := by decide
def d_law_lengths_of : Env' → Res Fl := (dSeq (dSet 2 (dLst [(fun e => .ok (.fz (.int 1)) e), (fun e => .ok (.fz (.int 1)) e)])) (dSeq (dFor (dRng1 (dBin semSub (dVar 1) (fun e => .ok (.fz (.int 2)) e))) (uNm 3) (dSeq (dSet 4 (dFn [true, false] F_law_draw [] [(dVar 0), (dCall semLen [(dVar 2)])])) (dSeq (dPut 2 (dVar 4) (dBin semAdd (dBin semIx (dVar 2) (dVar 4)) (fun e => .ok (.fz (.int 1)) e))) (dExpr (dMut "list" semAppend 2 [(dBin semIx (dVar 2) (dVar 4))]))))) (dRet (dVar 2))))
def F_law_lengths_of : List PV → FR := callFn 5 [true, false] d_law_lengths_of
theorem fn_law_lengths_of {P : Program} {w : World} {K : PySem.W.Frag} {mg : Str → Option Value} {base : Heap} {C : Ct} (fx : Fx mg) (dx : Dx K mg C) (cf : CF C lay nam) (lx : Lx K mg base C) {f : Addr} {fd : FuncData} (Fd : FunD K "_law_lengths_of" "_law_lengths_of" (defArgs (top 22)) (defBody (top 22)) (defScope (top 22)) [] [] f fd) : FnOk P w K mg base C8.CX0 2 f fd ["_law_pen", "_law_many"] (SpV C [true, false] F_law_lengths_of) :=
  fnV (N := N_law_lengths_of) (k := 1) Fd (C8.fnScope_by (by decide +kernel)) rfl (by decide) dx.hK fun cdv A outer s H E g hC hr ok =>
    (ss_cons (ss_set (i := 2) nd_law_lengths_of rfl ((by first | exact .inl rfl | exact .inr rfl)) (se_lst (sa_cons se_int (sa_cons se_int sa_nil rfl) rfl)) rfl ((by first | exact .inr rfl | exact .inl rfl)))
    (ss_cons (ss_for PassesOwn.never ok (si_range1 rfl fx.n_range (sa_cons (se_bin (se_var (i := 1) (by rfl) ((by first | exact .inl rfl | exact .inr (.inl rfl) | exact .inr (.inr rfl))) (by decide) (by decide)) se_int o_sub) sa_nil rfl) rfl) (sg_name (i := 3) nd_law_lengths_of rfl ((by first | exact .inl rfl | exact .inr rfl)) ((by first | exact .inr rfl | exact .inl rfl))) (ss_cons (ss_set (i := 4) nd_law_lengths_of rfl ((by first | exact .inl rfl | exact .inr rfl)) (se_fnC hC (cal_law_draw fx dx cf lx) hr (by decide) rfl rs_nil0 (sa_cons (se_var (i := 0) (by rfl) ((by first | exact .inl rfl | exact .inr (.inl rfl) | exact .inr (.inr rfl))) (by decide) (by decide)) (sa_cons (se_callB (c_len ok) rfl fx.n_len boot_len (sa_cons (se_var (i := 2) (by rfl) ((by first | exact .inl rfl | exact .inr (.inl rfl) | exact .inr (.inr rfl))) (by decide) (by decide)) sa_nil rfl) (by decide) (by decide) rfl rfl) sa_nil rfl) rfl) (by decide) rfl rfl) rfl ((by first | exact .inr rfl | exact .inl rfl)))
    (ss_cons (ss_put (i := 2) ok (pe_var (i := 2) (by rfl) ((by first | exact .inl rfl | exact .inr (.inl rfl) | exact .inr (.inr rfl))) (by decide) (by decide)) (se_var (i := 4) (by rfl) ((by first | exact .inl rfl | exact .inr (.inl rfl) | exact .inr (.inr rfl))) (by decide) (by decide)) (se_bin (se_ix (o_ix ok) (se_var (i := 2) (by rfl) ((by first | exact .inl rfl | exact .inr (.inl rfl) | exact .inr (.inr rfl))) (by decide) (by decide)) (se_var (i := 4) (by rfl) ((by first | exact .inl rfl | exact .inr (.inl rfl) | exact .inr (.inr rfl))) (by decide) (by decide)) (fun _ _ => rfl)) se_int o_add) rfl rfl rfl (fun _ => rfl))
    (ss_one (ss_expr (se_mut ok w_append (pe_var (i := 2) (by rfl) ((by first | exact .inl rfl | exact .inr (.inl rfl) | exact .inr (.inr rfl))) (by decide) (by decide)) (sa_cons (se_ix (o_ix ok) (se_var (i := 2) (by rfl) ((by first | exact .inl rfl | exact .inr (.inl rfl) | exact .inr (.inr rfl))) (by decide) (by decide)) (se_var (i := 4) (by rfl) ((by first | exact .inl rfl | exact .inr (.inl rfl) | exact .inr (.inr rfl))) (by decide) (by decide)) (fun _ _ => rfl)) sa_nil rfl) rfl rfl rfl rfl rfl) rfl)))) (fun _ => rfl))
    (ss_one (ss_ret (se_var (i := 2) (by rfl) ((by first | exact .inl rfl | exact .inr (.inl rfl) | exact .inr (.inr rfl))) (by decide) (by decide))))))
theorem cal_law_lengths_of {P : Program} {w : World} {K : PySem.W.Frag} {mg : Str → Option Value} {base : Heap} {C : Ct} (fx : Fx mg) (dx : Dx K mg C) (cf : CF C lay nam) (lx : Lx K mg base C) : C8.Cal P w K mg base 2 "_law_lengths_of" (SpV C [true, false] F_law_lengths_of) [] := by
  obtain ⟨f, fd, hm, Fd⟩ := dx.d_law_lengths_of
  exact ⟨f, fd, ["_law_pen", "_law_many"], [], fn_law_lengths_of fx dx cf lx Fd, hm, Fd.kp, (Fd.bindsN (ps := ["_law_pen", "_law_many"]) fun _ _ _ _ _ _ us hl => match us, hl with | [_, _], _ => rfl), .nil⟩
/-! ### _law_two_to -/
def N_law_two_to : List Str := ["_law_many", "_law_found", "_law_turn"]
theorem nd_law_two_to : N_law_two_to.Nodup := by decide
def d_law_two_to : Env' → Res Fl := (dSeq (dSet 1 (fun e => .ok (.fz (.int 1)) e)) (dSeq (dFor (dRng1 (dVar 0)) (uNm 2) (dSet 1 (dBin semMul (dVar 1) (fun e => .ok (.fz (.int 2)) e)))) (dRet (dVar 1))))
def F_law_two_to : List PV → FR := callFn 3 [false] d_law_two_to
theorem fn_law_two_to {P : Program} {w : World} {K : PySem.W.Frag} {mg : Str → Option Value} {base : Heap} {C : Ct} (fx : Fx mg) (dx : Dx K mg C) (cf : CF C lay nam) (lx : Lx K mg base C) {f : Addr} {fd : FuncData} (Fd : FunD K "_law_two_to" "_law_two_to" (defArgs (top 23)) (defBody (top 23)) (defScope (top 23)) [] [] f fd) : FnOk P w K mg base C8.CX0 1 f fd ["_law_many"] (SpV C [false] F_law_two_to) :=
  fnV (N := N_law_two_to) (k := 0) Fd (C8.fnScope_by (by decide +kernel)) rfl (by decide) dx.hK fun cdv A outer s H E g hC hr ok =>
    (ss_cons (ss_set (i := 1) nd_law_two_to rfl ((by first | exact .inl rfl | exact .inr rfl)) se_int rfl ((by first | exact .inr rfl | exact .inl rfl)))
    (ss_cons (ss_for PassesOwn.never ok (si_range1 rfl fx.n_range (sa_cons (se_var (i := 0) (by rfl) ((by first | exact .inl rfl | exact .inr (.inl rfl) | exact .inr (.inr rfl))) (by decide) (by decide)) sa_nil rfl) rfl) (sg_name (i := 2) nd_law_two_to rfl ((by first | exact .inl rfl | exact .inr rfl)) ((by first | exact .inr rfl | exact .inl rfl))) (ss_one (ss_set (i := 1) nd_law_two_to rfl ((by first | exact .inl rfl | exact .inr rfl)) (se_bin (se_var (i := 1) (by rfl) ((by first | exact .inl rfl | exact .inr (.inl rfl) | exact .inr (.inr rfl))) (by decide) (by decide)) se_int o_mul) rfl ((by first | exact .inr rfl | exact .inl rfl)))) (fun _ => rfl))
    (ss_one (ss_ret (se_var (i := 1) (by rfl) ((by first | exact .inl rfl | exact .inr (.inl rfl) | exact .inr (.inr rfl))) (by decide) (by decide))))))
theorem cal_law_two_to {P : Program} {w : World} {K : PySem.W.Frag} {mg : Str → Option Value} {base : Heap} {C : Ct} (fx : Fx mg) (dx : Dx K mg C) (cf : CF C lay nam) (lx : Lx K mg base C) : C8.Cal P w K mg base 1 "_law_two_to" (SpV C [false] F_law_two_to) [] := by
  obtain ⟨f, fd, hm, Fd⟩ := dx.d_law_two_to
  exact ⟨f, fd, ["_law_many"], [], fn_law_two_to fx dx cf lx Fd, hm, Fd.kp, (Fd.bindsN (ps := ["_law_many"]) fun _ _ _ _ _ _ us hl => match us, hl with | [_], _ => rfl), .nil⟩
/-! ### _law_words -/
def N_law_words : List Str := ["_law_lengths", "_law_found", "_law_sign", "_law_size", "_law_number", "_law_other", "_law_bits", "_law_turn"]
theorem nd_law_words : N_law_words.Nodup := by decide
def d_law_words : Env' → Res Fl := (dSeq (dSet 1 (dLst [])) (dSeq (dFor (dRng1 (dCall semLen [(dVar 0)])) (uNm 2) (dSeq (dPar [3, 4] [(dBin semIx (dVar 0) (dVar 2)), (fun e => .ok (.fz (.int 0)) e)]) (dSeq (dFor (dRng1 (dCall semLen [(dVar 0)])) (uNm 5) (dIfS (asB (dBin semLtP (dTup [(dBin semIx (dVar 0) (dVar 5)), (dVar 5)]) (dTup [(dVar 3), (dVar 2)]))) (dSet 4 (dBin semAdd (dVar 4) (dFn [false] F_law_two_to [] [(dBin semSub (dVar 3) (dBin semIx (dVar 0) (dVar 5)))]))) (fun e => .ok .nx e))) (dSeq (dSet 6 (fun e => .ok (.fz (.str "")) e)) (dSeq (dFor (dRng1 (dVar 3)) (uNm 7) (dPar [6, 4] [(dBin semAdd (dCall semStr [(dBin semMod (dCall semInt [(dVar 4)]) (fun e => .ok (.fz (.int 2)) e))]) (dVar 6)), (dBin semDiv (dVar 4) (fun e => .ok (.fz (.int 2)) e))])) (dExpr (dMut "list" semAppend 1 [(dVar 6)]))))))) (dRet (dCall semTuple [(dVar 1)]))))
def F_law_words : List PV → FR := callFn 8 [false] d_law_words
theorem fn_law_words {P : Program} {w : World} {K : PySem.W.Frag} {mg : Str → Option Value} {base : Heap} {C : Ct} (fx : Fx mg) (dx : Dx K mg C) (cf : CF C lay nam) (lx : Lx K mg base C) {f : Addr} {fd : FuncData} (Fd : FunD K "_law_words" "_law_words" (defArgs (top 24)) (defBody (top 24)) (defScope (top 24)) [] [] f fd) : FnOk P w K mg base C8.CX0 2 f fd ["_law_lengths"] (SpV C [false] F_law_words) :=
  fnV (N := N_law_words) (k := 1) Fd (C8.fnScope_by (by decide +kernel)) rfl (by decide) dx.hK fun cdv A outer s H E g hC hr ok =>
    (ss_cons (ss_set (i := 1) nd_law_words rfl ((by first | exact .inl rfl | exact .inr rfl)) (se_lst sa_nil) rfl ((by first | exact .inr rfl | exact .inl rfl)))
    (ss_cons (ss_for PassesOwn.never ok (si_range1 rfl fx.n_range (sa_cons (se_callB (c_len ok) rfl fx.n_len boot_len (sa_cons (se_var (i := 0) (by rfl) ((by first | exact .inl rfl | exact .inr (.inl rfl) | exact .inr (.inr rfl))) (by decide) (by decide)) sa_nil rfl) (by decide) (by decide) rfl rfl) sa_nil rfl) rfl) (sg_name (i := 2) nd_law_words rfl ((by first | exact .inl rfl | exact .inr rfl)) ((by first | exact .inr rfl | exact .inl rfl))) (ss_cons (ss_par (i := 3) (j := 4) ok nd_law_words rfl rfl (by decide) rfl rfl (sax_cons (fun g1 h1 => have ok1 := ok_c ok h1; (se_ix (o_ix ok1) (se_var (i := 0) (by rfl) ((by first | exact .inl rfl | exact .inr (.inl rfl) | exact .inr (.inr rfl))) (by decide) (by decide)) (se_var (i := 2) (by rfl) ((by first | exact .inl rfl | exact .inr (.inl rfl) | exact .inr (.inr rfl))) (by decide) (by decide)) (fun _ _ => rfl))) (sax_cons (fun g1 h1 => have ok1 := ok_c ok h1; se_int) sax_nil rfl) rfl) rfl rfl)
    (ss_cons (ss_for PassesOwn.never ok (si_range1 rfl fx.n_range (sa_cons (se_callB (c_len ok) rfl fx.n_len boot_len (sa_cons (se_var (i := 0) (by rfl) ((by first | exact .inl rfl | exact .inr (.inl rfl) | exact .inr (.inr rfl))) (by decide) (by decide)) sa_nil rfl) (by decide) (by decide) rfl rfl) sa_nil rfl) rfl) (sg_name (i := 5) nd_law_words rfl ((by first | exact .inl rfl | exact .inr rfl)) ((by first | exact .inr rfl | exact .inl rfl))) (ss_one (ss_if (st_cmp (se_tup (sa_cons (se_ix (o_ix ok) (se_var (i := 0) (by rfl) ((by first | exact .inl rfl | exact .inr (.inl rfl) | exact .inr (.inr rfl))) (by decide) (by decide)) (se_var (i := 5) (by rfl) ((by first | exact .inl rfl | exact .inr (.inl rfl) | exact .inr (.inr rfl))) (by decide) (by decide)) (fun _ _ => rfl)) (sa_cons (se_var (i := 5) (by rfl) ((by first | exact .inl rfl | exact .inr (.inl rfl) | exact .inr (.inr rfl))) (by decide) (by decide)) sa_nil rfl) rfl)) (se_tup (sa_cons (se_var (i := 3) (by rfl) ((by first | exact .inl rfl | exact .inr (.inl rfl) | exact .inr (.inr rfl))) (by decide) (by decide)) (sa_cons (se_var (i := 2) (by rfl) ((by first | exact .inl rfl | exact .inr (.inl rfl) | exact .inr (.inr rfl))) (by decide) (by decide)) sa_nil rfl) rfl)) (o_ltP ok) rfl) (ss_one (ss_set (i := 4) nd_law_words rfl ((by first | exact .inl rfl | exact .inr rfl)) (se_bin (se_var (i := 4) (by rfl) ((by first | exact .inl rfl | exact .inr (.inl rfl) | exact .inr (.inr rfl))) (by decide) (by decide)) (se_fnC hC (cal_law_two_to fx dx cf lx) hr (by decide) rfl rs_nil0 (sa_cons (se_bin (se_var (i := 3) (by rfl) ((by first | exact .inl rfl | exact .inr (.inl rfl) | exact .inr (.inr rfl))) (by decide) (by decide)) (se_ix (o_ix ok) (se_var (i := 0) (by rfl) ((by first | exact .inl rfl | exact .inr (.inl rfl) | exact .inr (.inr rfl))) (by decide) (by decide)) (se_var (i := 5) (by rfl) ((by first | exact .inl rfl | exact .inr (.inl rfl) | exact .inr (.inr rfl))) (by decide) (by decide)) (fun _ _ => rfl)) o_sub) sa_nil rfl) (by decide) rfl rfl) o_add) rfl ((by first | exact .inr rfl | exact .inl rfl)))) ss_nil)) (fun _ => rfl))
    (ss_cons (ss_set (i := 6) nd_law_words rfl ((by first | exact .inl rfl | exact .inr rfl)) se_str rfl ((by first | exact .inr rfl | exact .inl rfl)))
    (ss_cons (ss_for PassesOwn.never ok (si_range1 rfl fx.n_range (sa_cons (se_var (i := 3) (by rfl) ((by first | exact .inl rfl | exact .inr (.inl rfl) | exact .inr (.inr rfl))) (by decide) (by decide)) sa_nil rfl) rfl) (sg_name (i := 7) nd_law_words rfl ((by first | exact .inl rfl | exact .inr rfl)) ((by first | exact .inr rfl | exact .inl rfl))) (ss_one (ss_par (i := 6) (j := 4) ok nd_law_words rfl rfl (by decide) rfl rfl (sax_cons (fun g1 h1 => have ok1 := ok_c ok h1; (se_bin (se_callTy (c_str) rfl fx.n_str boot_str (sa_cons (se_bin (se_callTy (c_int) rfl fx.n_int boot_int (sa_cons (se_var (i := 4) (by rfl) ((by first | exact .inl rfl | exact .inr (.inl rfl) | exact .inr (.inr rfl))) (by decide) (by decide)) sa_nil rfl) (by decide) (by decide) rfl rfl) se_int o_mod) sa_nil rfl) (by decide) (by decide) rfl rfl) (se_var (i := 6) (by rfl) ((by first | exact .inl rfl | exact .inr (.inl rfl) | exact .inr (.inr rfl))) (by decide) (by decide)) o_add)) (sax_cons (fun g1 h1 => have ok1 := ok_c ok h1; (se_bin (se_var (i := 4) (by rfl) ((by first | exact .inl rfl | exact .inr (.inl rfl) | exact .inr (.inr rfl))) (by decide) (by decide)) se_int o_div)) sax_nil rfl) rfl) rfl rfl)) (fun _ => rfl))
    (ss_one (ss_expr (se_mut ok w_append (pe_var (i := 1) (by rfl) ((by first | exact .inl rfl | exact .inr (.inl rfl) | exact .inr (.inr rfl))) (by decide) (by decide)) (sa_cons (se_var (i := 6) (by rfl) ((by first | exact .inl rfl | exact .inr (.inl rfl) | exact .inr (.inr rfl))) (by decide) (by decide)) sa_nil rfl) rfl rfl rfl rfl rfl) rfl)))))) (fun _ => rfl))
    (ss_one (ss_ret (se_callTy (c_tuple) rfl fx.n_tuple boot_tuple (sa_cons (se_var (i := 1) (by rfl) ((by first | exact .inl rfl | exact .inr (.inl rfl) | exact .inr (.inr rfl))) (by decide) (by decide)) sa_nil rfl) (by decide) (by decide) rfl rfl)))))
theorem cal_law_words {P : Program} {w : World} {K : PySem.W.Frag} {mg : Str → Option Value} {base : Heap} {C : Ct} (fx : Fx mg) (dx : Dx K mg C) (cf : CF C lay nam) (lx : Lx K mg base C) : C8.Cal P w K mg base 2 "_law_words" (SpV C [false] F_law_words) [] := by
  obtain ⟨f, fd, hm, Fd⟩ := dx.d_law_words
  exact ⟨f, fd, ["_law_lengths"], [], fn_law_words fx dx cf lx Fd, hm, Fd.kp, (Fd.bindsN (ps := ["_law_lengths"]) fun _ _ _ _ _ _ us hl => match us, hl with | [_], _ => rfl), .nil⟩
/-! ### law -/
def N_law : List Str := ["_law_script", "_law_pen", "_law_turn", "_law_many", "_law_lengths", "_law_handed", "_law_due", "_law_turned", "_law_word", "_law_code", "_law_other", "_law_words_here", "_law_at", "_law_more"]
theorem nd_law : N_law.Nodup := by decide
def d_law : Env' → Res Fl := (dSeq (dSet 1 (dFn [false] F_law_pen_of [] [(dVar 0)])) (dSeq (dFor (dRng1 (fun e => .ok (.fz (.int 6)) e)) (uNm 2) (dSeq (dSet 3 (dFn [true, false] F_law_pick [] [(dVar 1), (dLst [(fun e => .ok (.fz (.int 2)) e), (fun e => .ok (.fz (.int 3)) e), (fun e => .ok (.fz (.int 4)) e), (fun e => .ok (.fz (.int 5)) e), (fun e => .ok (.fz (.int 7)) e), (fun e => .ok (.fz (.int 12)) e), (fun e => .ok (.fz (.int 26)) e)])])) (dSeq (dSet 4 (dFn [true, false] F_law_lengths_of [] [(dVar 1), (dVar 3)])) (dSeq (dPar [5, 6] [(dCall semList [(dVar 4)]), (dRo [4] (dFn [false] F_law_words [] [(dVar 4)]))]) (dSeq (dSet 7 (dLc [8] (dItems (dVar 6)) (uNm 8) none (dUn (semRepl "2" "1") (dUn (semRepl "1" "0") (dUn (semRepl "0" "2") (dVar 8)))))) (dSeq (dPar [9, 10, 11] [(dRo [5] (dMk 0 [false, false] F_Code___init__ [.non] [(dVar 5)])), (dRo [7, 4] (dMk 0 [false, false] F_Code___init__ [] [(dCall semTuple [(dVar 4)]), (dVar 7)])), (dCall semList [(dVar 7)])]) (dSeq (dExpr (dMut "list" semClear 5 [])) (dSeq (dIfS (dOrT (asB (dBin semNe (dFldL lay 0 (dVar 9)) (dCall semTuple [(dVar 4)]))) (dOrT (asB (dBin semNe (dFldL lay 1 (dVar 9)) (dVar 6))) (dOrT (asB (dBin semNe (dFldL lay 2 (dVar 9)) (dVar 3))) (asB (dBin semNe (dFldL lay 3 (dVar 9)) (dCall semMax [(dVar 4)])))))) (dRet (fun e => .ok (.fz (.bl false)) e)) (fun e => .ok .nx e)) (dSeq (dIfS (dOrT (asB (dBin semNe (dFldL lay 0 (dVar 10)) (dFldL lay 0 (dVar 9)))) (dOrT (asB (dBin semNe (dFldL lay 1 (dVar 10)) (dCall semTuple [(dVar 11)]))) (asB (dBin semNe (dFldL lay 2 (dVar 10)) (dVar 3))))) (dRet (fun e => .ok (.fz (.bl false)) e)) (fun e => .ok .nx e)) (dSeq (dExpr (dMut "list" semClear 7 [])) (dSeq (dIfS (dOrT (asB (dBin semNe (dFldL lay 1 (dVar 10)) (dCall semTuple [(dVar 11)]))) (dOrT (asB (dBin semNe (dFldL lay 3 (dVar 10)) (dFldL lay 3 (dVar 9)))) (dNotT (dTru (dIsi (ansB "tuple") (dFldL lay 1 (dVar 10))))))) (dRet (fun e => .ok (.fz (.bl false)) e)) (fun e => .ok .nx e)) (dSeq (dIfS (dOrT (asB (dOwnQ true 0 F_Code___eq__ (dVar 9) (dMk 0 [false, false] F_Code___init__ [] [(dVar 4), (dVar 6)]))) (dOrT (asB (dOwnQ true 0 F_Code___eq__ (dMk 0 [false, false] F_Code___init__ [] [(dCall semTuple [(dVar 4)]), (dFldL lay 1 (dVar 9))]) (dVar 9))) (asB (dOwnQ false 0 F_Code___eq__ (dVar 9) (dVar 10))))) (dRet (fun e => .ok (.fz (.bl false)) e)) (fun e => .ok .nx e)) (dSeq (dIfS (dOrT (asB (dOwnQ true 0 F_Code___eq__ (dVar 10) (dMk 0 [false, false] F_Code___init__ [] [(dVar 4), (dVar 11)]))) (asB (dOwnQ false 0 F_Code___eq__ (dVar 9) (dFldL lay 0 (dVar 9))))) (dRet (fun e => .ok (.fz (.bl false)) e)) (fun e => .ok .nx e)) (dSeq (dSet 12 (dFn [true, false] F_law_draw [] [(dVar 1), (dVar 3)])) (dSeq (dSet 13 (dBin semAdd (dSl (dVar 4) (some (dVar 12)) none) (dSl (dVar 4) none (some (dVar 12))))) (dIfS (asB (dBin semNe (dOwnQ false 0 F_Code___eq__ (dMk 0 [false, false] F_Code___init__ [.non] [(dVar 13)]) (dVar 9)) (dBin semEq (dVar 13) (dVar 4)))) (dRet (fun e => .ok (.fz (.bl false)) e)) (fun e => .ok .nx e))))))))))))))))) (dRet (fun e => .ok (.fz (.bl true)) e))))
def F_law : List PV → FR := callFn 14 [false] d_law
theorem fn_law {P : Program} {w : World} {K : PySem.W.Frag} {mg : Str → Option Value} {base : Heap} {C : Ct} (fx : Fx mg) (dx : Dx K mg C) (cf : CF C lay nam) (lx : Lx K mg base C) {f : Addr} {fd : FuncData} (Fd : FunD K "law" "law" (defArgs (top 25)) (defBody (top 25)) (defScope (top 25)) [] [] f fd) : FnOk P w K mg base C8.CX0 5 f fd ["_law_script"] (SpV C [false] F_law) :=
  fnV (N := N_law) (k := 4) Fd (C8.fnScope_by (by decide +kernel)) rfl (by decide) dx.hK fun cdv A outer s H E g hC hr ok =>
    (ss_cons (ss_set (i := 1) nd_law rfl ((by first | exact .inl rfl | exact .inr rfl)) (se_fnC hC (cal_law_pen_of fx dx cf lx) hr (by decide) rfl rs_nil0 (sa_cons (se_var (i := 0) (by rfl) ((by first | exact .inl rfl | exact .inr (.inl rfl) | exact .inr (.inr rfl))) (by decide) (by decide)) sa_nil rfl) (by decide) rfl rfl) rfl ((by first | exact .inr rfl | exact .inl rfl)))
    (ss_cons (ss_for PassesOwn.never ok (si_range1 rfl fx.n_range (sa_cons se_int sa_nil rfl) rfl) (sg_name (i := 2) nd_law rfl ((by first | exact .inl rfl | exact .inr rfl)) ((by first | exact .inr rfl | exact .inl rfl))) (ssF_cons (ssF_set (i := 3) nd_law rfl ((by first | exact .inl rfl | exact .inr rfl)) (seF_fnC hC (cal_law_pick fx dx cf lx) hr (by decide) rfl rs_nil0 (saF_snd (se_var (i := 1) (by rfl) ((by first | exact .inl rfl | exact .inr (.inl rfl) | exact .inr (.inr rfl))) (by decide) (by decide)) (saF_fst (seF_lst (saF_int (sa_cons se_int (sa_cons se_int (sa_cons se_int (sa_cons se_int (sa_cons se_int (sa_cons se_int sa_nil rfl) rfl) rfl) rfl) rfl) rfl) rfl)) sa_nil rfl) rfl) (by decide) rfl rfl) rfl ((by first | exact .inr rfl | exact .inl rfl)))
    (ssT_cons (sT_of (ss_set (i := 4) nd_law rfl ((by first | exact .inl rfl | exact .inr rfl)) (se_fnC hC (cal_law_lengths_of fx dx cf lx) hr (by decide) rfl rs_nil0 (sa_cons (se_var (i := 1) (by rfl) ((by first | exact .inl rfl | exact .inr (.inl rfl) | exact .inr (.inr rfl))) (by decide) (by decide)) (sa_cons (se_var (i := 3) (by rfl) ((by first | exact .inl rfl | exact .inr (.inl rfl) | exact .inr (.inr rfl))) (by decide) (by decide)) sa_nil rfl) rfl) (by decide) rfl rfl) rfl ((by first | exact .inr rfl | exact .inl rfl))))
    (ssT_cons (sT_of (ss_par (i := 5) (j := 6) ok nd_law rfl rfl (by decide) rfl rfl (sax_cons (fun g1 h1 => have ok1 := ok_c ok h1; (se_callTy (c_list ok1) rfl fx.n_list boot_list (sa_cons (se_var (i := 4) (by rfl) ((by first | exact .inl rfl | exact .inr (.inl rfl) | exact .inr (.inr rfl))) (by decide) (by decide)) sa_nil rfl) (by decide) (by decide) rfl rfl)) (sax_cons (fun g1 h1 => have ok1 := ok_c ok h1; (se_ro (is := [4]) (fun g2 h2 => have ok2 := ok_c ok1 h2; (se_fnC (h2.trans (h1.trans hC)) (cal_law_words fx dx cf lx) hr (by decide) rfl rs_nil0 (sa_cons (se_var (i := 4) (by rfl) ((by first | exact .inl rfl | exact .inr (.inl rfl) | exact .inr (.inr rfl))) (by decide) (by decide)) sa_nil rfl) (by decide) rfl rfl)))) sax_nil rfl) rfl) rfl rfl))
    (ssT_cons (sT_setLc (i := 7) (vs := [8]) [("_law_word", 8)] ok nd_law rfl rfl (sw_true rfl rfl rfl rfl) (si_val ok.K (se_var (i := 6) (by rfl) ((by first | exact .inl rfl | exact .inr (.inl rfl) | exact .inr (.inr rfl))) (by decide) (by decide))) (blkOk_by (by rfl)) rfl (by decide) (fun _ _ _ _ _ g1 h1 ok1 => (sg_name (i := 8) nd_law rfl ((by first | exact .inl rfl | exact .inr rfl)) ((by first | exact .inr rfl | exact .inl rfl)))) (fun _ _ _ _ _ g1 h1 ok1 => sts_nil) (fun _ _ _ _ _ g1 h1 ok1 => (set_repl (set_repl (set_repl (set_of (se_var (i := 8) (by rfl) ((by first | exact .inl rfl | exact .inr (.inl rfl) | exact .inr (.inr rfl))) (by decide) (by decide))) (by decide) rfl rfl rfl) (by decide) rfl rfl rfl) (by decide) rfl rfl rfl)) (fun _ => rfl))
    (ssT_of (ss_cons (ss_par3 (i := 9) (j := 10) (l := 11) ok nd_law rfl rfl rfl (by decide) (by decide) (by decide) rfl rfl rfl (sax_cons (fun g1 h1 => have ok1 := ok_c ok h1; (se_ro (is := [5]) (fun g2 h2 => have ok2 := ok_c ok1 h2; (se_mkC (c := 0) (h2.trans (h1.trans hC)) rfl (mak_Code_1 fx dx cf lx) hr (by decide) rfl rs_non1 (sa_cons (se_var (i := 5) (by rfl) ((by first | exact .inl rfl | exact .inr (.inl rfl) | exact .inr (.inr rfl))) (by decide) (by decide)) sa_nil rfl) (by decide) rfl rfl)))) (sax_cons (fun g1 h1 => have ok1 := ok_c ok h1; (se_ro (is := [7, 4]) (fun g2 h2 => have ok2 := ok_c ok1 h2; (se_mkC (c := 0) (h2.trans (h1.trans hC)) rfl (mak_Code fx dx cf lx) hr (by decide) rfl rs_nil0 (sa_cons (se_callTy (c_tuple) rfl fx.n_tuple boot_tuple (sa_cons (se_var (i := 4) (by rfl) ((by first | exact .inl rfl | exact .inr (.inl rfl) | exact .inr (.inr rfl))) (by decide) (by decide)) sa_nil rfl) (by decide) (by decide) rfl rfl) (sa_cons (se_var (i := 7) (by rfl) ((by first | exact .inl rfl | exact .inr (.inl rfl) | exact .inr (.inr rfl))) (by decide) (by decide)) sa_nil rfl) rfl) (by decide) rfl rfl)))) (sax_cons (fun g1 h1 => have ok1 := ok_c ok h1; (se_callTy (c_list ok1) rfl fx.n_list boot_list (sa_cons (se_var (i := 7) (by rfl) ((by first | exact .inl rfl | exact .inr (.inl rfl) | exact .inr (.inr rfl))) (by decide) (by decide)) sa_nil rfl) (by decide) (by decide) rfl rfl)) sax_nil rfl) rfl) rfl) rfl rfl)
    (ss_cons (ss_expr (se_mut0 ok w_clear (pe_var (i := 5) (by rfl) ((by first | exact .inl rfl | exact .inr (.inl rfl) | exact .inr (.inr rfl))) (by decide) (by decide)) rfl rfl) rfl)
    (ss_cons (ss_if (PW.pt (sw_or (st_cmp (se_fldC (f := 0) hC ok cf rfl (se_var (i := 9) (by rfl) ((by first | exact .inl rfl | exact .inr (.inl rfl) | exact .inr (.inr rfl))) (by decide) (by decide)) rfl) (se_callTy (c_tuple) rfl fx.n_tuple boot_tuple (sa_cons (se_var (i := 4) (by rfl) ((by first | exact .inl rfl | exact .inr (.inl rfl) | exact .inr (.inr rfl))) (by decide) (by decide)) sa_nil rfl) (by decide) (by decide) rfl rfl) (o_ne ok) rfl) (sw_or (st_cmp (se_fldC (f := 1) hC ok cf rfl (se_var (i := 9) (by rfl) ((by first | exact .inl rfl | exact .inr (.inl rfl) | exact .inr (.inr rfl))) (by decide) (by decide)) rfl) (se_var (i := 6) (by rfl) ((by first | exact .inl rfl | exact .inr (.inl rfl) | exact .inr (.inr rfl))) (by decide) (by decide)) (o_ne ok) rfl) (sw_or (st_cmp (se_fldC (f := 2) hC ok cf rfl (se_var (i := 9) (by rfl) ((by first | exact .inl rfl | exact .inr (.inl rfl) | exact .inr (.inr rfl))) (by decide) (by decide)) rfl) (se_var (i := 3) (by rfl) ((by first | exact .inl rfl | exact .inr (.inl rfl) | exact .inr (.inr rfl))) (by decide) (by decide)) (o_ne ok) rfl) (sw_or1 (st_cmp (se_fldC (f := 3) hC ok cf rfl (se_var (i := 9) (by rfl) ((by first | exact .inl rfl | exact .inr (.inl rfl) | exact .inr (.inr rfl))) (by decide) (by decide)) rfl) (se_callB (c_max ok) rfl fx.n_max boot_max (sa_cons (se_var (i := 4) (by rfl) ((by first | exact .inl rfl | exact .inr (.inl rfl) | exact .inr (.inr rfl))) (by decide) (by decide)) sa_nil rfl) (by decide) (by decide) rfl rfl) (o_ne ok) rfl)))))) (ss_one (ss_ret se_bl)) ss_nil)
    (ss_cons (ss_if (PW.pt (sw_or (st_cmp (se_fldC (f := 0) hC ok cf rfl (se_var (i := 10) (by rfl) ((by first | exact .inl rfl | exact .inr (.inl rfl) | exact .inr (.inr rfl))) (by decide) (by decide)) rfl) (se_fldC (f := 0) hC ok cf rfl (se_var (i := 9) (by rfl) ((by first | exact .inl rfl | exact .inr (.inl rfl) | exact .inr (.inr rfl))) (by decide) (by decide)) rfl) (o_ne ok) rfl) (sw_or (st_cmp (se_fldC (f := 1) hC ok cf rfl (se_var (i := 10) (by rfl) ((by first | exact .inl rfl | exact .inr (.inl rfl) | exact .inr (.inr rfl))) (by decide) (by decide)) rfl) (se_callTy (c_tuple) rfl fx.n_tuple boot_tuple (sa_cons (se_var (i := 11) (by rfl) ((by first | exact .inl rfl | exact .inr (.inl rfl) | exact .inr (.inr rfl))) (by decide) (by decide)) sa_nil rfl) (by decide) (by decide) rfl rfl) (o_ne ok) rfl) (sw_or1 (st_cmp (se_fldC (f := 2) hC ok cf rfl (se_var (i := 10) (by rfl) ((by first | exact .inl rfl | exact .inr (.inl rfl) | exact .inr (.inr rfl))) (by decide) (by decide)) rfl) (se_var (i := 3) (by rfl) ((by first | exact .inl rfl | exact .inr (.inl rfl) | exact .inr (.inr rfl))) (by decide) (by decide)) (o_ne ok) rfl))))) (ss_one (ss_ret se_bl)) ss_nil)
    (ss_cons (ss_expr (se_mut0 ok w_clear (pe_var (i := 7) (by rfl) ((by first | exact .inl rfl | exact .inr (.inl rfl) | exact .inr (.inr rfl))) (by decide) (by decide)) rfl rfl) rfl)
    (ss_cons (ss_if (PW.pt (sw_or (st_cmp (se_fldC (f := 1) hC ok cf rfl (se_var (i := 10) (by rfl) ((by first | exact .inl rfl | exact .inr (.inl rfl) | exact .inr (.inr rfl))) (by decide) (by decide)) rfl) (se_callTy (c_tuple) rfl fx.n_tuple boot_tuple (sa_cons (se_var (i := 11) (by rfl) ((by first | exact .inl rfl | exact .inr (.inl rfl) | exact .inr (.inr rfl))) (by decide) (by decide)) sa_nil rfl) (by decide) (by decide) rfl rfl) (o_ne ok) rfl) (sw_or (st_cmp (se_fldC (f := 3) hC ok cf rfl (se_var (i := 10) (by rfl) ((by first | exact .inl rfl | exact .inr (.inl rfl) | exact .inr (.inr rfl))) (by decide) (by decide)) rfl) (se_fldC (f := 3) hC ok cf rfl (se_var (i := 9) (by rfl) ((by first | exact .inl rfl | exact .inr (.inl rfl) | exact .inr (.inr rfl))) (by decide) (by decide)) rfl) (o_ne ok) rfl) (sw_or1 (st_not (st_val ok.K (se_isB (T := "tuple") hC ok cf (by decide) fx.n_isinstance rfl fx.n_tuple rfl (se_fldC (f := 1) hC ok cf rfl (se_var (i := 10) (by rfl) ((by first | exact .inl rfl | exact .inr (.inl rfl) | exact .inr (.inr rfl))) (by decide) (by decide)) rfl) (by decide) (by decide) (by rfl) (by rfl) (by rfl)) (fun _ => rfl))))))) (ss_one (ss_ret se_bl)) ss_nil)
    (ss_cons (ss_if (PW.pt (sw_or (st_ownQC true rfl (c := 0) hC (met_Code___eq__ fx dx cf lx) hr (by decide) ok cf dx.ne_Code (se_var (i := 9) (by rfl) ((by first | exact .inl rfl | exact .inr (.inl rfl) | exact .inr (.inr rfl))) (by decide) (by decide)) (se_mkC (c := 0) hC rfl (mak_Code fx dx cf lx) hr (by decide) rfl rs_nil0 (sa_cons (se_var (i := 4) (by rfl) ((by first | exact .inl rfl | exact .inr (.inl rfl) | exact .inr (.inr rfl))) (by decide) (by decide)) (sa_cons (se_var (i := 6) (by rfl) ((by first | exact .inl rfl | exact .inr (.inl rfl) | exact .inr (.inr rfl))) (by decide) (by decide)) sa_nil rfl) rfl) (by decide) rfl rfl) rfl) (sw_or (st_ownQC true rfl (c := 0) hC (met_Code___eq__ fx dx cf lx) hr (by decide) ok cf dx.ne_Code (se_mkC (c := 0) hC rfl (mak_Code fx dx cf lx) hr (by decide) rfl rs_nil0 (sa_cons (se_callTy (c_tuple) rfl fx.n_tuple boot_tuple (sa_cons (se_var (i := 4) (by rfl) ((by first | exact .inl rfl | exact .inr (.inl rfl) | exact .inr (.inr rfl))) (by decide) (by decide)) sa_nil rfl) (by decide) (by decide) rfl rfl) (sa_cons (se_fldC (f := 1) hC ok cf rfl (se_var (i := 9) (by rfl) ((by first | exact .inl rfl | exact .inr (.inl rfl) | exact .inr (.inr rfl))) (by decide) (by decide)) rfl) sa_nil rfl) rfl) (by decide) rfl rfl) (se_var (i := 9) (by rfl) ((by first | exact .inl rfl | exact .inr (.inl rfl) | exact .inr (.inr rfl))) (by decide) (by decide)) rfl) (sw_or1 (st_ownQC false rfl (c := 0) hC (met_Code___eq__ fx dx cf lx) hr (by decide) ok cf dx.ne_Code (se_var (i := 9) (by rfl) ((by first | exact .inl rfl | exact .inr (.inl rfl) | exact .inr (.inr rfl))) (by decide) (by decide)) (se_var (i := 10) (by rfl) ((by first | exact .inl rfl | exact .inr (.inl rfl) | exact .inr (.inr rfl))) (by decide) (by decide)) rfl))))) (ss_one (ss_ret se_bl)) ss_nil)
    (ss_cons (ss_if (PW.pt (sw_or (st_ownQC true rfl (c := 0) hC (met_Code___eq__ fx dx cf lx) hr (by decide) ok cf dx.ne_Code (se_var (i := 10) (by rfl) ((by first | exact .inl rfl | exact .inr (.inl rfl) | exact .inr (.inr rfl))) (by decide) (by decide)) (se_mkC (c := 0) hC rfl (mak_Code fx dx cf lx) hr (by decide) rfl rs_nil0 (sa_cons (se_var (i := 4) (by rfl) ((by first | exact .inl rfl | exact .inr (.inl rfl) | exact .inr (.inr rfl))) (by decide) (by decide)) (sa_cons (se_var (i := 11) (by rfl) ((by first | exact .inl rfl | exact .inr (.inl rfl) | exact .inr (.inr rfl))) (by decide) (by decide)) sa_nil rfl) rfl) (by decide) rfl rfl) rfl) (sw_or1 (st_ownQC false rfl (c := 0) hC (met_Code___eq__ fx dx cf lx) hr (by decide) ok cf dx.ne_Code (se_var (i := 9) (by rfl) ((by first | exact .inl rfl | exact .inr (.inl rfl) | exact .inr (.inr rfl))) (by decide) (by decide)) (se_fldC (f := 0) hC ok cf rfl (se_var (i := 9) (by rfl) ((by first | exact .inl rfl | exact .inr (.inl rfl) | exact .inr (.inr rfl))) (by decide) (by decide)) rfl) rfl)))) (ss_one (ss_ret se_bl)) ss_nil)
    (ss_cons (ss_set (i := 12) nd_law rfl ((by first | exact .inl rfl | exact .inr rfl)) (se_fnC hC (cal_law_draw fx dx cf lx) hr (by decide) rfl rs_nil0 (sa_cons (se_var (i := 1) (by rfl) ((by first | exact .inl rfl | exact .inr (.inl rfl) | exact .inr (.inr rfl))) (by decide) (by decide)) (sa_cons (se_var (i := 3) (by rfl) ((by first | exact .inl rfl | exact .inr (.inl rfl) | exact .inr (.inr rfl))) (by decide) (by decide)) sa_nil rfl) rfl) (by decide) rfl rfl) rfl ((by first | exact .inr rfl | exact .inl rfl)))
    (ss_cons (ss_set (i := 13) nd_law rfl ((by first | exact .inl rfl | exact .inr rfl)) (se_bin (se_slice ok (se_var (i := 4) (by rfl) ((by first | exact .inl rfl | exact .inr (.inl rfl) | exact .inr (.inr rfl))) (by decide) (by decide)) (spo_some (se_var (i := 12) (by rfl) ((by first | exact .inl rfl | exact .inr (.inl rfl) | exact .inr (.inr rfl))) (by decide) (by decide))) spo_none) (se_slice ok (se_var (i := 4) (by rfl) ((by first | exact .inl rfl | exact .inr (.inl rfl) | exact .inr (.inr rfl))) (by decide) (by decide)) spo_none (spo_some (se_var (i := 12) (by rfl) ((by first | exact .inl rfl | exact .inr (.inl rfl) | exact .inr (.inr rfl))) (by decide) (by decide)))) o_add) rfl ((by first | exact .inr rfl | exact .inl rfl)))
    (ss_one (ss_if (st_cmp (se_ownQC false rfl (c := 0) hC (met_Code___eq__ fx dx cf lx) hr (by decide) ok cf dx.ne_Code (se_mkC (c := 0) hC rfl (mak_Code_1 fx dx cf lx) hr (by decide) rfl rs_non1 (sa_cons (se_var (i := 13) (by rfl) ((by first | exact .inl rfl | exact .inr (.inl rfl) | exact .inr (.inr rfl))) (by decide) (by decide)) sa_nil rfl) (by decide) rfl rfl) (se_var (i := 9) (by rfl) ((by first | exact .inl rfl | exact .inr (.inl rfl) | exact .inr (.inr rfl))) (by decide) (by decide)) rfl) (se_cmp (se_var (i := 13) (by rfl) ((by first | exact .inl rfl | exact .inr (.inl rfl) | exact .inr (.inr rfl))) (by decide) (by decide)) (se_var (i := 4) (by rfl) ((by first | exact .inl rfl | exact .inr (.inl rfl) | exact .inr (.inr rfl))) (by decide) (by decide)) (o_eq ok) rfl) (o_ne ok) rfl) (ss_one (ss_ret se_bl)) ss_nil))))))))))))))))) (fun _ => rfl))
    (ss_one (ss_ret se_bl))))
theorem cal_law {P : Program} {w : World} {K : PySem.W.Frag} {mg : Str → Option Value} {base : Heap} {C : Ct} (fx : Fx mg) (dx : Dx K mg C) (cf : CF C lay nam) (lx : Lx K mg base C) : C8.Cal P w K mg base 5 "law" (SpV C [false] F_law) [] := by
  obtain ⟨f, fd, hm, Fd⟩ := dx.d_law
  exact ⟨f, fd, ["_law_script"], [], fn_law fx dx cf lx Fd, hm, Fd.kp, (Fd.bindsN (ps := ["_law_script"]) fun _ _ _ _ _ _ us hl => match us, hl with | [_], _ => rfl), .nil⟩
end K37

set_option maxRecDepth 100000
set_option maxHeartbeats 2000000
namespace VL
open PySem PySem.Spec L2
open PyProof.Rows hiding St
/-! ### what the denotations give, applied -/
/-- a continuation, held: simp does not look into it (a witness depends on it) -/
inductive Wit {γ : Type} (f : γ) : Type where
  | mk
def Res.bh {α β : Type} (r : Res α) (f : α → Env' → Res β) (_ : Wit f := .mk) : Res β := r.bind f
section
variable {α β : Type} {e e' : Env'} {d d1 d2 d3 : Env' → Res Val} {s1 s2 : Env' → Res Fl} {t t1 t2 : Env' → Res Bool} {di : Env' → Res (List PV)} {u : UG} {i j k : Nat}
theorem bind_k {x : α} {f : α → Env' → Res β} : (Res.ok x e).bind f = f x e := id rfl
theorem bh_k {x : α} {f : α → Env' → Res β} {w : Wit f} : (Res.ok x e).bh f w = f x e := id rfl
theorem bind_b {f : α → Env' → Res β} : (Res.bad : Res α).bind f = .bad := id rfl
def seqK (s : Env' → Res Fl) (f : Fl) (e : Env') : Res Fl := match f with
  | .nx => s e
  | x => .ok x e
theorem seqK_n {s : Env' → Res Fl} : seqK s .nx e = s e := id rfl
theorem seqK_r {s : Env' → Res Fl} {x : Val} : seqK s (.rt x) e = .ok (.rt x) e := id rfl
theorem seq_e : dSeq s1 s2 e = (s1 e).bind (seqK s2) := by
  unfold dSeq seqK
  congr 1
theorem expr_e : dExpr d e = (d e).bh fun _ e' => .ok .nx e' := id rfl
theorem ret_e : dRet d e = (d e).bind retV := id rfl
theorem retV_f {p : PV} : retV (.fz p) e = .ok (.rt (.fz p)) e := id rfl
theorem retV_n {p : PV} : retV (.new p) e = .ok (.rt (.new p)) e := id rfl
theorem retV_b : retV (.bor i) e = match e[i]? with
    | some (.fz p) => .ok (.rt (.fz p)) e
    | some (.ow true p) => .ok (.rt (.new p)) (e.set i .no)
    | _ => .bad := id rfl
def ifK (s1 s2 : Env' → Res α) (b : Bool) (e : Env') : Res α := if b = true then s1 e else s2 e
theorem ifK_t {s1 s2 : Env' → Res α} : ifK s1 s2 true e = s1 e := id rfl
theorem ifK_f {s1 s2 : Env' → Res α} : ifK s1 s2 false e = s2 e := id rfl
theorem ifS_e : dIfS t s1 s2 e = (t e).bind (ifK s1 s2) := id rfl
theorem if_e : dIf t d1 d2 e = (t e).bind (ifK d1 d2) := id rfl
theorem set_e : dSet i d e = (d e).bind (store i) := id rfl
theorem store_f {p : PV} : store i (.fz p) e = .ok .nx (e.set i (.fz p)) := id rfl
theorem store_n {p : PV} : store i (.new p) e = .ok .nx (e.set i (.ow true p)) := id rfl
theorem store_b : store i (.bor j) e = match e[j]? with
  | some (.fz p) => .ok .nx (e.set i (.fz p))
  | some (.ow true p) => .ok .nx ((e.set j (.fz p)).set i (.fz p))
  | _ => .bad := id rfl
theorem var_e : dVar i e = match e[i]? with
  | some (.fz p) => .ok (.fz p) e
  | some (.ow _ _) => .ok (.bor i) e
  | _ => .bad := id rfl
theorem stl_e : stl d e = (d e).bh fun x e' => .ok x.stl e' := id rfl
theorem stl_f {p : PV} : (Val.fz p).stl = .fz p := id rfl
theorem stl_n {p : PV} : (Val.new p).stl = .fz p := id rfl
theorem stl_b : (Val.bor i).stl = .bor i := id rfl
theorem peek_f {p : PV} : peek (.fz p) e = some p := id rfl
theorem peek_n {p : PV} : peek (.new p) e = some p := id rfl
theorem peek_b : peek (.bor i) e = match e[i]? with
    | some (.ow _ p) => some p
    | some (.fz p) => some p
    | _ => none := id rfl
theorem frz_f {p : PV} : frz (.fz p) e = .ok p e := id rfl
theorem frz_n {p : PV} : frz (.new p) e = .ok p e := id rfl
theorem frz_b : frz (.bor i) e = match e[i]? with
    | some (.fz p) => .ok p e
    | some (.ow true p) => .ok p (e.set i (.fz p))
    | _ => .bad := id rfl
theorem bin_e {sem : PV → PV → Option Val} : dBin sem d1 d2 e = (stl d1 e).bh fun x e1 => (stl d2 e1).bh fun y e2 => op2 sem x y e2 := id rfl
theorem op2_e {sem : PV → PV → Option Val} {x y : Val} {p q : PV} (h1 : peek x e = some p) (h2 : peek y e = some q) : op2 sem x y e = toVal (sem p q) e := by unfold op2; rw [h1, h2]
theorem op2_d {sem : PV → PV → Option Val} {x y : Val} : op2 sem x y e = match peek x e, peek y e with
  | some p, some q => toVal (sem p q) e
  | _, _ => .bad := id rfl
theorem toVal_s {x : Val} : toVal (some x) e = .ok x e := id rfl
theorem asB_e : asB d e = (d e).bh fun x e1 => match x with
  | .fz (.bl b) => .ok b e1
  | _ => .bad := id rfl
theorem chain_e {sem sem' : PV → PV → Option Val} : dChain sem sem' d1 d2 d3 e = (stl d1 e).bh fun x e1 => (stl d2 e1).bh fun y e2 => (op2 sem x y e2).bh fun r e3 => match r with
  | .fz (.bl true) => (stl d3 e3).bh fun z e4 => op2 sem' y z e4
  | .fz (.bl false) => .ok (.fz (.bl false)) e3
  | _ => .bad := by
  unfold dChain
  congr 1
theorem un_e {sem : PV → Option Val} : dUn sem d e = (stl d e).bh fun x e1 => match peek x e1 with
  | some p => toVal (sem p) e1
  | none => .bad := by
  unfold dUn
  congr 1
theorem not_e : dNot d e = dUn (fun p => (truthPV p).map fun b => .fz (.bl (!b))) d e := id rfl
theorem notT_e : dNotT t e = (t e).bh fun b e1 => .ok (!b) e1 := id rfl
theorem andT_e : dAndT t1 t2 e = (t1 e).bind (ifK t2 (fun e1 => .ok false e1)) := id rfl
theorem orT_e : dOrT t1 t2 e = (t1 e).bind (ifK (fun e1 => .ok true e1) t2) := id rfl
theorem args_n : dArgs [] e = .ok [] e := id rfl
theorem args_c {ds : List (Env' → Res Val)} : dArgs (d :: ds) e = (stl d e).bh fun x e1 => (dArgs ds e1).bh fun xs e2 => .ok (x :: xs) e2 := id rfl
theorem frzs_n : frzs [] e = .ok [] e := id rfl
theorem frzs_c {x : Val} {xs : List Val} : frzs (x :: xs) e = (frz x e).bh fun p e1 => (frzs xs e1).bh fun ps e2 => .ok (p :: ps) e2 := id rfl
theorem lst_e {ds : List (Env' → Res Val)} : dLst ds e = (dArgs ds e).bh fun xs e1 => (frzs xs e1).bh fun ps e2 => if ps.length ≤ big then .ok (.new (.lst ps)) e2 else .bad := id rfl
theorem tup_e {ds : List (Env' → Res Val)} : dTup ds e = (dArgs ds e).bh fun xs e1 => (frzs xs e1).bh fun ps e2 => if ps.length ≤ big then .ok (.fz (.tup ps)) e2 else .bad := id rfl
theorem call_e {sem : List PV → Option Val} {ds : List (Env' → Res Val)} : dCall sem ds e = (dArgs ds e).bh fun xs e1 => opN sem xs e1 := id rfl
theorem peeks_n : peeks e [] = some [] := id rfl
theorem peeks_c {x : Val} {xs : List Val} : peeks e (x :: xs) = match peek x e, peeks e xs with
    | some p, some ps => some (p :: ps)
    | _, _ => none := id rfl
theorem opN_e {sem : List PV → Option Val} {xs : List Val} : opN sem xs e = match peeks e xs with
  | some ps => toVal (sem ps) e
  | none => .bad := id rfl
theorem sl_e {lo hi : Option (Env' → Res Val)} : dSl d lo hi e = (stl d e).bh fun x e1 => (partOf lo e1).bh fun l e2 => (partOf hi e2).bh fun h e3 => match peek x e3 with
  | some p => toVal (semSl p l h) e3
  | none => .bad := id rfl
theorem part_n : partOf none e = .ok none e := id rfl
theorem part_s : partOf (some d) e = (stl d e).bh fun x e1 => match x with
    | .fz (.int i) => .ok (some i) e1
    | _ => .bad := id rfl
theorem meth_e {T : String} {sem : PV → List PV → Option Val} {ds : List (Env' → Res Val)} : dMeth T sem d ds e = (stl d e).bh fun x e1 => if (peek x e1).map kd = some T then
    (dArgs ds e1).bh fun xs e2 => match peek x e2, peeks e2 xs with
      | some p, some ps => if kd p = T then toVal (sem p ps) e2 else .bad
      | _, _ => .bad
  else .bad := id rfl
theorem for_e : dFor di u s1 e = (di e).bh fun ps e1 => forL u s1 ps e1 := id rfl
theorem asgT_e : dAsgT d u e = (d e).bh fun x e1 => (frz x e1).bh fun p e2 => match u p e2 with
  | some e3 => .ok .nx e3
  | none => .bad := id rfl
theorem uNm_e {p : PV} : uNm i p e = some (e.set i (.fz p)) := id rfl
theorem uTup_e {n : Nat} {us : List PV → Env' → Option Env'} {ps : List PV} : uTup n us (.tup ps) e = if ps.length = n then us ps e else none := id rfl
theorem uCons_e {us : List PV → Env' → Option Env'} {p : PV} {ps : List PV} : uCons u us (p :: ps) e = (u p e).bind (us ps) := id rfl
theorem uNil_e : uNil [] e = some e := id rfl
theorem put_e : dPut i d1 d2 e = (d2 e).bh fun x e1 => (frz x e1).bh fun p e2 => if isOw i e2 = true then (stl d1 e2).bh fun y e3 => putS i p y e3 else .bad := id rfl
theorem putS_e {p : PV} {y : Val} : putS i p y e = match e[i]?, peek y e with
  | some (.ow b q), some k => (match semPut q k p with
    | some q' => .ok .nx (e.set i (.ow b q'))
    | none => .bad)
  | _, _ => .bad := id rfl
theorem isOw_e : isOw i e = match e[i]? with
  | some (.ow _ _) => true
  | _ => false := id rfl
theorem mut_e {T : String} {sem : PV → List PV → Option (PV × PV)} {ds : List (Env' → Res Val)} : dMut T sem i ds e = if kdAt i e = T then (dArgs ds e).bh fun xs e1 => (frzs xs e1).bh fun ps e2 => mutK T sem i ps e2 else .bad := id rfl
theorem kdAt_e : kdAt i e = match e[i]? with
  | some (.ow _ q) => kd q
  | _ => "" := id rfl
theorem mutK_e {T : String} {sem : PV → List PV → Option (PV × PV)} {ps : List PV} : mutK T sem i ps e = match e[i]? with
  | some (.ow b q) => if kd q = T then (match sem q ps with
      | some (q', r) => .ok (.fz r) (e.set i (.ow b q'))
      | none => .bad)
    else .bad
  | _ => .bad := by
  unfold mutK
  rfl
theorem items_e : dItems d e = (stl d e).bh fun x e1 => (frz x e1).bh fun p e2 => match itemsP p with
  | some ps => .ok ps e2
  | none => .bad := id rfl
theorem enum_e : dEnum d e = (dArgs [d] e).bh fun xs e1 => (frzs xs e1).bh fun ps e2 => match ps with
  | [.lst xs] => .ok (numL xs) e2
  | [.tup xs] => .ok (numL xs) e2
  | [.str z] => .ok (numL (chars z)) e2
  | _ => .bad := id rfl
theorem rng1_e : dRng1 d e = (dArgs [d] e).bh fun xs e1 => match peeks e1 xs with
  | some [.int j] => if r62 j = true then .ok (rngP 0 j.toNat) e1 else .bad
  | _ => .bad := id rfl
theorem rng2_e : dRng2 d1 d2 e = (dArgs [d1, d2] e).bh fun xs e1 => match peeks e1 xs with
  | some [.int i, .int j] => if r62 i = true ∧ r62 j = true then .ok (rngP i (j - i).toNat) e1 else .bad
  | _ => .bad := id rfl
theorem lc_e {vs : List Nat} {dt : Option (Env' → Res Bool)} : dLc vs di u dt d e = (di e).bh fun ps e1 => (lcL vs u dt d ps [] e1).bh fun qs e2 => .ok (.new (.lst qs)) e2 := id rfl
theorem dc_e {vs : List Nat} {dt : Option (Env' → Res Bool)} : dDc vs di u dt d1 d2 e = (di e).bh fun ps e1 => (dcL vs u dt d1 d2 ps [] [] e1).bh fun qs e2 => .ok (.new (.dK qs.1 qs.2)) e2 := id rfl
theorem par_e {is : List Nat} {ds : List (Env' → Res Val)} : dPar is ds e = (parL false ds e).bh fun xs e1 => storeL is xs e1 := id rfl
theorem parL_n {b : Bool} : parL b [] e = .ok [] e := by cases b <;> rfl
theorem parL_f {ds : List (Env' → Res Val)} : parL false (d :: ds) e = (d e).bh fun x e1 => (unb x e1).bh fun y e2 => (parL (isNew y) ds e2).bh fun xs e3 => .ok (y :: xs) e3 := id rfl
theorem parL_t {ds : List (Env' → Res Val)} : parL true (d :: ds) e = match d (blkE [] e) with
    | .ok x e1 => (match x with
      | .bor _ => .bad
      | y => (parL true ds (outE [] e e1)).bh fun xs e3 => .ok (y :: xs) e3)
    | _ => .bad := id rfl
theorem unb_f {p : PV} : unb (.fz p) e = .ok (.fz p) e := id rfl
theorem unb_n {p : PV} : unb (.new p) e = .ok (.new p) e := id rfl
theorem unb_b : unb (.bor i) e = (frz (.bor i) e).bh fun p e' => .ok (.fz p) e' := id rfl
theorem isNew_f {p : PV} : isNew (.fz p) = false := id rfl
theorem isNew_n {p : PV} : isNew (.new p) = true := id rfl
theorem storeL_n : storeL [] [] e = .ok .nx e := id rfl
theorem storeL_f {is : List Nat} {xs : List Val} {p : PV} : storeL (i :: is) (.fz p :: xs) e = storeL is xs (e.set i (.fz p)) := id rfl
theorem storeL_w {is : List Nat} {xs : List Val} {p : PV} : storeL (i :: is) (.new p :: xs) e = storeL is xs (e.set i (.ow true p)) := id rfl
theorem fn_e {md : Md} {fn : List PV → FR} {dps : List PV} {ds : List (Env' → Res Val)} : dFn md fn dps ds e = (dArgs ds e).bh fun xs e1 => callK md fn (xs ++ dps.map Val.fz) e1 := id rfl
theorem mk_e {c : Nat} {md : Md} {fn : List PV → FR} {dps : List PV} {ds : List (Env' → Res Val)} : dMk c md fn dps ds e = (dArgs ds e).bh fun xs e1 => mkK c md fn (xs ++ dps.map Val.fz) e1 := id rfl
def frK (is : List Nat) (e : Env') (r : FR) : Res Val := match r with
  | .ok (.fz p) outs => (match putOuts is outs e with
    | some e3 => .ok (.fz p) e3
    | none => .bad)
  | .ok (.new p) outs => (match putOuts is outs e with
    | some e3 => .ok (.new p) e3
    | none => .bad)
  | _ => .bad
theorem callK_e {md : Md} {fn : List PV → FR} {xs : List Val} : callK md fn xs e = (prep md xs e).bh fun ps e2 => if (lentI md xs).Nodup then frK (lentI md xs) e2 (fn ps) else .bad := id rfl
theorem frK_f {is : List Nat} {p : PV} {outs : List PV} : frK is e (.ok (.fz p) outs) = match putOuts is outs e with
    | some e3 => .ok (.fz p) e3
    | none => .bad := id rfl
theorem frK_n {is : List Nat} {p : PV} {outs : List PV} : frK is e (.ok (.new p) outs) = match putOuts is outs e with
    | some e3 => .ok (.new p) e3
    | none => .bad := id rfl
def mkF (is : List Nat) (e : Env') (r : FR) : Res Val := match r with
  | .ok (.fz .non) (q :: outs) => (match putOuts is outs e with
    | some e3 => .ok (.new q) e3
    | none => .bad)
  | _ => .bad
theorem mkK_e {c : Nat} {md : Md} {fn : List PV → FR} {xs : List Val} : mkK c md fn xs e = (prep md xs e).bh fun ps e2 => if (lentI md xs).Nodup then mkF (lentI md xs) e2 (fn (.ins c [] :: ps)) else .bad := id rfl
theorem mkF_e {is : List Nat} {q : PV} {outs : List PV} : mkF is e (.ok (.fz .non) (q :: outs)) = match putOuts is outs e with
    | some e3 => .ok (.new q) e3
    | none => .bad := id rfl
theorem prep_f {ms : Md} {x : Val} {xs : List Val} : prep (false :: ms) (x :: xs) e = (frz x e).bh fun p e1 => (prep ms xs e1).bh fun ps e2 => .ok (p :: ps) e2 := id rfl
theorem prep_t {ms : Md} {xs : List Val} : prep (true :: ms) (.bor i :: xs) e = (prep ms xs e).bh fun ps e2 => match e2[i]? with
    | some (.ow _ p) => .ok (p :: ps) e2
    | _ => .bad := id rfl
theorem prep_n : prep [] [] e = .ok [] e := id rfl
theorem lentI_f {ms : Md} {x : Val} {xs : List Val} : lentI (false :: ms) (x :: xs) = lentI ms xs := id rfl
theorem lentI_t {ms : Md} {xs : List Val} : lentI (true :: ms) (.bor i :: xs) = i :: lentI ms xs := id rfl
theorem lentI_n : lentI [] [] = [] := id rfl
theorem putOuts_n : putOuts [] [] e = some e := id rfl
theorem putOuts_c {is : List Nat} {q : PV} {qs : List PV} : putOuts (i :: is) (q :: qs) e = match e[i]? with
    | some (.ow b _) => putOuts is qs (e.set i (.ow b q))
    | _ => none := id rfl
theorem isi_e {ans : PV → Option Bool} : dIsi ans d e = (stl d e).bh fun x e1 => match (peek x e1).bind ans with
  | some b => .ok (.fz (.bl b)) e1
  | none => .bad := by
  unfold dIsi
  congr 1
theorem fld_e {L : Nat → List Nat} {f : Nat} : dFldL L f d e = (stl d e).bh fun x e1 => match peek x e1 with
  | some (.ins c xs) => (match ((L c).idxOf? f).bind fun i => xs[i]? with
    | some p => .ok (.fz p) e1
    | none => .bad)
  | _ => .bad := id rfl
theorem fldS_e {L : Nat → List Nat} {f : Nat} : dFldSL L f i d e = (d e).bh fun x e1 => (frz x e1).bh fun p e2 => match e2[i]? with
  | some (.ow b (.ins c xs)) => if (L c)[xs.length]? = some f ∧ xs.length < 999 then .ok .nx (e2.set i (.ow b (.ins c (xs ++ [p])))) else .bad
  | _ => .bad := id rfl
theorem tru_e : dTru d e = (stl d e).bh fun x e1 => match (peek x e1).bind truthPV with
  | some b => .ok b e1
  | none => .bad := by
  unfold dTru
  congr 1
theorem bool_e {a : Bool} : dBool a d1 d2 e = (stl d1 e).bh fun x e1 => match (peek x e1).bind truthPV with
  | some b => if b = a then d2 e1 else .ok x e1
  | none => .bad := by
  unfold dBool
  congr 1
theorem aug_e {sem : Int → Int → Option Int} : dAug i sem d e = match e[i]? with
  | some (.fz (.int k)) => (stl d e).bh fun x e1 => (match x with
    | .fz (.int n) => (match sem k n with
      | some m => .ok .nx (e1.set i (.fz (.int m)))
      | none => .bad)
    | _ => .bad)
  | _ => .bad := id rfl
theorem sortLn_e : dSortLn d e = (d e).bh fun x e1 => match peek x e1 with
  | some p => (match semLn p with
    | some q => .ok (.new q) e1
    | none => .bad)
  | none => .bad := id rfl
/-- a call's end -/
def finF (md : Md) (r : Res Fl) : FR := match r with
  | .ok .nx e => (match outsAt 0 md e with
    | some outs => .ok (.fz .non) outs
    | none => .bad)
  | .ok (.rt (.fz p)) e => (match outsAt 0 md e with
    | some outs => .ok (.fz p) outs
    | none => .bad)
  | .ok (.rt (.new p)) e => (match outsAt 0 md e with
    | some outs => .ok (.new p) outs
    | none => .bad)
  | _ => .bad
theorem callFn_e {n : Nat} {md : Md} {d : Env' → Res Fl} {args : List PV} : callFn n md d args = finF md (d (entry n md args)) := id rfl
theorem finF_x {md : Md} : finF md (.ok .nx e) = match outsAt 0 md e with
    | some outs => .ok (.fz .non) outs
    | none => .bad := id rfl
theorem finF_f {md : Md} {p : PV} : finF md (.ok (.rt (.fz p)) e) = match outsAt 0 md e with
    | some outs => .ok (.fz p) outs
    | none => .bad := id rfl
theorem finF_n {md : Md} {p : PV} : finF md (.ok (.rt (.new p)) e) = match outsAt 0 md e with
    | some outs => .ok (.new p) outs
    | none => .bad := id rfl
end
end VL

set_option maxRecDepth 100000
set_option maxHeartbeats 2000000
namespace VL
open PySem PySem.Spec L2
open PyProof.Rows hiding St
/-! ### operations on plain values -/
section
variable {i j : Int} {p : PV} {xs ys : List PV} {x y : Str}
theorem add_i : semAdd (.int i) (.int j) = some (.fz (.int (i + j))) := id rfl
theorem add_s (h : x.length + y.length ≤ big) : semAdd (.str x) (.str y) = some (.fz (.str (x ++ y))) := if_pos h
theorem add_l (h : xs.length + ys.length ≤ big) : semAdd (.lst xs) (.lst ys) = some (.new (.lst (xs ++ ys))) := if_pos h
theorem sub_i : semSub (.int i) (.int j) = some (.fz (.int (i - j))) := id rfl
theorem mul_i (h : CMulX i j) : semMul (.int i) (.int j) = some (.fz (.int (i * j))) := if_pos h
theorem div_i (h : CDivW i j) : semDiv (.int i) (.int j) = some (.fz (.int (i / j))) := if_pos h
theorem mod_i (h : 0 < j) : semMod (.int i) (.int j) = some (.fz (.int (i % j))) := if_pos h
theorem lt_i : semLt (.int i) (.int j) = some (.fz (.bl (decide (i < j)))) := id rfl
theorem le_i : semLe (.int i) (.int j) = some (.fz (.bl (decide (i ≤ j)))) := id rfl
theorem gt_i : semGt (.int i) (.int j) = some (.fz (.bl (decide (j < i)))) := id rfl
theorem ge_i : semGe (.int i) (.int j) = some (.fz (.bl (decide (j ≤ i)))) := id rfl
theorem len_l : semLen [.lst xs] = some (.fz (.int xs.length)) := id rfl
theorem len_t : semLen [.tup xs] = some (.fz (.int xs.length)) := id rfl
theorem len_r {ns : List Int} : semLen [.scr ns] = some (.fz (.int ns.length)) := id rfl
theorem len_s (h : x.length ≤ big) : semLen [.str x] = some (.fz (.int x.length)) := if_pos h
theorem int_i : semInt [.int i] = some (.fz (.int i)) := id rfl
theorem abs_i : semAbs [.int i] = some (.fz (.int i.natAbs)) := by
  show some (Val.fz (PV.int (if i < 0 then -i else i))) = _
  congr 3
  split <;> omega
theorem min_i : semMin [.int i, .int j] = some (.fz (.int (min i j))) := by
  show some (Val.fz (PV.int (if j < i then j else i))) = _
  congr 3
  split <;> omega
theorem list_l : semList [.lst xs] = some (.new (.lst xs)) := id rfl
theorem list_t : semList [.tup xs] = some (.new (.lst xs)) := id rfl
theorem list_r {ns : List Int} : semList [.scr ns] = some (.new (.lst (ns.map .int))) := id rfl
theorem tuple_l : semTuple [.lst xs] = some (.fz (.tup xs)) := id rfl
theorem tuple_t : semTuple [.tup xs] = some (.fz (.tup xs)) := id rfl
theorem app_l {p : PV} (h : xs.length < big) : semAppend (.lst xs) [p] = some (.lst (xs ++ [p]), .non) := if_pos h
theorem pop_i (h0 : 0 ≤ i) (h1 : i < xs.length) (hb : xs.length < 16777216) (hk : xs[i.toNat]? = some p) : semPop (.lst xs) [.int i] = some (.lst (xs.eraseIdx i.toNat), p) := by
  have e : semPop (.lst xs) [.int i] = if r62 i = true then (ixN xs.length i).bind fun k => xs[k]?.map fun y => ((PV.lst (xs.eraseIdx k), y) : PV × PV) else none := rfl
  rw [e, if_pos (r62_of (by omega) (by omega))]
  unfold ixN
  rw [if_pos h0, if_pos h1, Option.bind_some, hk]
  rfl
theorem mod_pow : semPow (.int 10) (.int 18) = some (.fz (.int 1000000000000000000)) := by
  show (if CPow 10 18 then some (Val.fz (PV.int (10 ^ (18 : Int).toNat))) else none) = _
  rw [if_pos ⟨by decide, by decide, by decide⟩]
  rfl
theorem key_s : keyP (.str x) = some (.inr x) := id rfl
theorem key_i : keyP (.int i) = some (.inl i) := id rfl
theorem items_l : itemsP (.lst xs) = some xs := id rfl
theorem items_t : itemsP (.tup xs) = some xs := id rfl
theorem items_s : itemsP (.str x) = some (chars x) := id rfl
theorem ix_l : semIx (.lst xs) (.int i) = (atI xs i).map .fz := id rfl
theorem ix_t : semIx (.tup xs) (.int i) = (atI xs i).map .fz := id rfl
theorem ix_k {ks : List Key} {p : PV} : semIx (.dK ks xs) p = (keyP p).bind fun k => (look ks xs k).map .fz := id rfl
theorem put_k {ks : List Key} {q v : PV} : semPut (.dK ks xs) q v = match keyP q with
    | some k => if ks.length < big then some (.dK (putP ks xs k v).1 (putP ks xs k v).2) else none
    | none => none := id rfl
theorem is_n : semIs .non .non = some (.fz (.bl true)) := id rfl
theorem is_l : semIs (.lst xs) .non = some (.fz (.bl false)) := id rfl
theorem is_i : semIs (.int i) .non = some (.fz (.bl false)) := id rfl
theorem isnot_n : semIsNot .non .non = some (.fz (.bl false)) := id rfl
theorem isnot_i : semIsNot (.int i) .non = some (.fz (.bl true)) := id rfl
theorem in_k {ks : List Key} : semIn (.str x) (.dK ks xs) = some (.fz (.bl (look ks xs (.inr x)).isSome)) := id rfl
theorem sl_r {ns : List Int} {lo hi : Option Int} : semSl (.scr ns) lo hi = some (.new (.lst ((cutL ns lo hi).map .int))) := id rfl
theorem sl_s {lo hi : Option Int} (h : x.length ≤ big) : semSl (.str x) lo hi = some (.fz (.str (Txt.slice x lo hi))) := if_pos h
theorem tru_l : truthPV (.lst xs) = some (!xs.isEmpty) := id rfl
theorem tru_b {b : Bool} : truthPV (.bl b) = some b := id rfl
theorem big_v : big = 16777216 := id rfl
theorem nsz {a b : Nat} : (a ≤ b) = (a ≤ b) := id rfl
/-- small factors -/
theorem bits_le {i : Int} {n : Nat} (h : i.natAbs < 2 ^ n) : Builtin.Int.intBits i ≤ n := by
  unfold Builtin.Int.intBits
  split
  · omega
  · rename_i hi
    have h0 : i.natAbs ≠ 0 := fun z => hi (by have : i = 0 := by omega
                                              rw [this]; rfl)
    have := (Nat.log2_lt h0).mpr h
    omega
theorem cmul {i j : Int} (h1 : i.natAbs < 2 ^ 1000) (h2 : j.natAbs < 2 ^ 1000) : CMulX i j := by
  unfold CMulX
  have := bits_le h1
  have := bits_le h2
  omega
theorem cdiv {i j : Int} (h1 : 0 < j) (h2 : j.natAbs < 2 ^ 1000) : CDivW i j := by
  refine ⟨h1, ?_⟩
  have : j.natAbs ≠ 0 := by omega
  have := (Nat.log2_lt this).mpr h2
  omega
theorem small {i : Int} (h1 : -10000000000000000000000000000000000000000 < i) (h2 : i < 10000000000000000000000000000000000000000) : i.natAbs < 2 ^ 1000 := by
  have h : i.natAbs < 10000000000000000000000000000000000000000 := by omega
  have h2 : 10000000000000000000000000000000000000000 < 2 ^ 200 := by decide
  have : (2:Nat) ^ 200 ≤ 2 ^ 1000 := Nat.pow_le_pow_right (by omega) (by omega)
  omega
/-- an index that is there -/
theorem at_i {α : Type} {l : List α} {n : Nat} (h : n < l.length) : atI l (n : Int) = some l[n] := by
  unfold atI
  unfold ixN
  rw [if_pos (by omega), if_pos (by omega)]
  simp [h]
theorem at_z {α : Type} {l : List α} {i : Int} (h0 : 0 ≤ i) (h : i < l.length) : ∃ (h' : i.toNat < l.length), atI l i = some l[i.toNat] := by
  have h' : i.toNat < l.length := by omega
  refine ⟨h', ?_⟩
  have := at_i h'
  rwa [Int.toNat_of_nonneg h0] at this
end
end VL

set_option maxRecDepth 100000
set_option maxHeartbeats 2000000
namespace VL
open PySem PySem.Spec L2
open PyProof.Rows hiding St
/-! ### equality of data -/
/-- the data of these values: flat, of texts that are texts -/
def okD : PyData → Bool
  | .none => true
  | .bool _ => true
  | .int _ => true
  | .str x => PyData.strOk x
  | _ => false
theorem flat_lay : ∀ {ds : List PyData}, (∀ d ∈ ds, okD d = true) → PyData.canLayAll0 ds = true ∧ PyData.depthAll ds = 0
  | [], _ => ⟨rfl, rfl⟩
  | d :: ds, h => by
    obtain ⟨h1, h2⟩ := flat_lay fun x hx => h x (List.mem_cons_of_mem _ hx)
    have hd := h d (List.mem_cons_self ..)
    unfold PyData.canLayAll0 PyData.depthAll
    rw [h1, h2]
    cases d <;> simp_all [okD, PyData.canLay0, PyData.depth]
theorem shaped_list {ds : List PyData} (h : ∀ d ∈ ds, okD d = true) : SeqAt.shaped (.list ds) = true := by
  obtain ⟨h1, h2⟩ := flat_lay h
  unfold SeqAt.shaped
  simp only [PyData.canLay0, PyData.depth, h1, h2]
  decide
theorem shaped_tup {ds : List PyData} (h : ∀ d ∈ ds, okD d = true) : SeqAt.shaped (.tuple ds) = true := by
  obtain ⟨h1, h2⟩ := flat_lay h
  unfold SeqAt.shaped
  simp only [PyData.canLay0, PyData.depth, h1, h2]
  decide
theorem eqP_same {p : PV} {d : PyData} (h : toD p = some d) (hs : SeqAt.shaped d = true) : eqP p p = some true := by
  unfold eqP
  rw [h]
  dsimp only
  rw [if_pos ⟨hs, hs⟩, SeqAt.eqv_refl d (SeqAt.canLay_of_shaped hs)]
theorem ne_same {p : PV} {d : PyData} (h : toD p = some d) (hs : SeqAt.shaped d = true) : semNe p p = some (.fz (.bl false)) := by
  unfold semNe
  rw [eqP_same h hs]; rfl
theorem eq_same {p : PV} {d : PyData} (h : toD p = some d) (hs : SeqAt.shaped d = true) : semEq p p = some (.fz (.bl true)) := by
  unfold semEq
  rw [eqP_same h hs]; rfl
theorem toDs_map {α : Type} {f : α → PV} {g : α → PyData} : ∀ {xs : List α}, (∀ x ∈ xs, toD (f x) = some (g x)) → toDs (xs.map f) = some (xs.map g)
  | [], _ => rfl
  | x :: xs, h => by
    simp only [List.map_cons, toDs, h x (List.mem_cons_self ..), toDs_map (fun y hy => h y (List.mem_cons_of_mem _ hy))]
theorem toDs_ints (ns : List Int) : toDs (ns.map PV.int) = some (ns.map PyData.int) := toDs_map fun _ _ => rfl
theorem toDs_strs (ns : List Str) : toDs (ns.map PV.str) = some (ns.map PyData.str) := toDs_map fun _ _ => rfl
theorem eqP_nil {xs : List PV} {ds : List PyData} (h : toDs xs = some ds) (hs : ∀ d ∈ ds, okD d = true) : eqP (.lst xs) (.lst []) = some xs.isEmpty := by
  unfold eqP
  simp only [toD, h, Option.map_some, toDs]
  rw [if_pos ⟨shaped_list hs, by rfl⟩]
  cases xs with
  | nil => cases h; rfl
  | cons x xs =>
    cases ds with
    | nil =>
      unfold toDs at h
      split at h <;> cases h
    | cons d ds => rfl
theorem eq_ints_nil (ns : List Int) : semEq (.lst (ns.map PV.int)) (.lst []) = some (.fz (.bl ns.isEmpty)) := by
  unfold semEq
  rw [eqP_nil (toDs_ints ns) fun d hd => by obtain ⟨n, _, rfl⟩ := List.mem_map.mp hd; rfl]
  cases ns <;> rfl
theorem eq_nil_nil : semEq (.lst []) (.lst []) = some (.fz (.bl true)) := eq_ints_nil []
theorem ne_strs_nil {ns : List Str} (h : ∀ x ∈ ns, PyData.strOk x = true) : semNe (.lst (ns.map PV.str)) (.lst []) = some (.fz (.bl (!ns.isEmpty))) := by
  unfold semNe
  rw [eqP_nil (toDs_strs ns) fun d hd => by obtain ⟨n, hn, rfl⟩ := List.mem_map.mp hd; exact h n hn]
  cases ns <;> rfl
theorem ne_nil_nil : semNe (.lst []) (.lst []) = some (.fz (.bl false)) := ne_strs_nil (ns := []) (fun _ h => by cases h)
end VL

set_option maxRecDepth 100000
set_option maxHeartbeats 2000000
namespace VL
open PySem PySem.Spec L2
open PyProof.Rows hiding St
open TL (tl ext_tl tl_append len_tl tl_join join_eq joinL)
/-! ### texts of bits -/
abbrev Wd := List Bool
def bc (b : Bool) : Nat := if b = true then 49 else 48
def bs (w : Wd) : Str := ⟨(w.map bc).toArray⟩
abbrev sB (w : Wd) : PV := .str (bs w)
theorem tl_bs (w : Wd) : tl (bs w) = w.map bc := by simp [tl, bs]
theorem bs_e : (Str.ofString "") = bs [] := by decide +kernel
theorem bs_0 : (Str.ofString "0") = bs [false] := by decide +kernel
theorem bs_1 : (Str.ofString "1") = bs [true] := by decide +kernel
theorem bs_01 : (Str.ofString "01") = bs [false, true] := by decide +kernel
theorem bs_app (a b : Wd) : bs a ++ bs b = bs (a ++ b) := ext_tl (by rw [tl_append, tl_bs, tl_bs, tl_bs, List.map_append])
theorem bs_len (w : Wd) : (bs w).length = w.length := by rw [len_tl, tl_bs, List.length_map]
theorem bs_sz (w : Wd) : (bs w).cps.size = w.length := bs_len w
theorem bc_inj : ∀ a b : Bool, bc a = bc b → a = b := by decide
theorem bs_inj {a b : Wd} (h : bs a = bs b) : a = b := by
  have := congrArg tl h
  rw [tl_bs, tl_bs] at this
  exact (List.map_inj_right (fun x y => bc_inj x y)).mp this
theorem bs_iff {a b : Wd} : bs a = bs b ↔ a = b := ⟨bs_inj, fun h => by rw [h]⟩
theorem bs_ok (w : Wd) : PyData.strOk (bs w) = true := by
  unfold PyData.strOk bs
  simp only [List.all_toArray, List.all_map, List.all_eq_true]
  intro b _
  cases b <;> decide
theorem bs_chars (w : Wd) : chars (bs w) = w.map fun b => sB [b] := by
  unfold chars
  show ((tl (bs w)).map fun c => PV.str ⟨#[c]⟩) = _
  rw [tl_bs, List.map_map]
  rfl
theorem bs_cons (b : Bool) (w : Wd) : bs (b :: w) = bs [b] ++ bs w := by rw [bs_app]; rfl
theorem bs_join (ws : List Wd) : Txt.join (bs []) (ws.map bs) = bs ws.flatten := by
  rw [join_eq]
  refine ext_tl ?_
  rw [tl_join, tl_bs, tl_bs]
  have : ∀ ls : List Wd, joinL [] ((ls.map bs).map tl) = ls.flatten.map bc := fun ls => by
    induction ls with
    | nil => rfl
    | cons a r ih =>
      cases r with
      | nil => simp only [List.map_cons, List.map_nil, joinL, tl_bs, List.flatten_cons, List.flatten_nil, List.append_nil]
      | cons b r =>
        simp only [List.map_cons, joinL, tl_bs, List.flatten_cons, List.map_append, List.nil_append] at ih ⊢
        rw [ih]
  exact this ws
theorem joinOk_bs {ws : List Wd} (h : ws.flatten.length ≤ 16777216) : joinOk (bs []) (ws.map bs) = true := by
  unfold joinOk
  rw [decide_eq_true_eq, bs_len]
  have : ((ws.map bs).map (·.length)).sum = ws.flatten.length := by
    rw [List.map_map, List.length_flatten]
    congr 1
    exact List.map_congr_left fun w _ => bs_len w
  rw [this]
  simpa using h
theorem bs_starts (a b : Wd) : Txt.startswith (bs a) (bs b) = b.isPrefixOf a := by
  unfold Txt.startswith
  rw [StrLaws.subAt_eq, bs_len, bs_len]
  show (decide (0 + b.length ≤ a.length) && ((((tl (bs a)).drop 0).take b.length) == tl (bs b))) = _
  rw [tl_bs, tl_bs, List.drop_zero, Bool.eq_iff_iff, Bool.and_eq_true, decide_eq_true_eq, beq_iff_eq, List.isPrefixOf_iff_prefix, List.prefix_iff_eq_take, ← List.map_take]
  constructor
  · intro ⟨_, h⟩
    exact ((List.map_inj_right (fun x y => bc_inj x y)).mp h).symm
  · intro h
    rw [← h]
    refine ⟨?_, rfl⟩
    have := congrArg List.length h
    rw [List.length_take] at this
    omega
theorem bs_slice (w : Wd) (k : Nat) : Txt.slice (bs w) none (some (k : Int)) = bs (w.take k) := by
  have h := SX.slice_to (a := w.map bc) (i := (k : Int)) (by omega)
  rw [Int.toNat_natCast, ← List.map_take] at h
  exact h
/-! ### texts in lists, dicts -/
abbrev lB (ws : List Wd) : PV := .lst (ws.map sB)
abbrev tW (ws : List Wd) : PV := .tup (ws.map sB)
theorem flats_bs (ws : List Wd) : flats (ws.map sB) = some (ws.map fun w => V.str (bs w)) := by
  induction ws with
  | nil => rfl
  | cons w ws ih => simp only [List.map_cons, flats, flatP, ih]
theorem inV_bs (x : Wd) (ws : List Wd) : inV (.str (bs x)) (ws.map fun w => V.str (bs w)) = decide (x ∈ ws) := by
  unfold inV
  rw [List.any_map, Bool.eq_iff_iff, List.any_eq_true, decide_eq_true_eq]
  constructor
  · intro ⟨w, hw, h⟩
    have h : (bs w == bs x) = true := h
    rw [beq_iff_eq, bs_iff] at h
    exact h ▸ hw
  · intro h
    refine ⟨x, h, ?_⟩
    show (bs x == bs x) = true
    exact beq_self_eq_true _
theorem in_lB (x : Wd) (ws : List Wd) : semIn (sB x) (lB ws) = some (.fz (.bl (decide (x ∈ ws)))) := by
  unfold semIn inP
  simp only [flatP, flats_bs, inV_bs, Option.map_some]
theorem in_tB (x : Wd) (ws : List Wd) : semIn (sB x) (tW ws) = some (.fz (.bl (decide (x ∈ ws)))) := by
  unfold semIn inP
  simp only [flatP, flats_bs, inV_bs, Option.map_some]
theorem notIn_lB (x : Wd) (ws : List Wd) : semNotIn (sB x) (lB ws) = some (.fz (.bl (!decide (x ∈ ws)))) := by
  unfold semNotIn inP
  simp only [flatP, flats_bs, inV_bs, Option.map_some]
theorem notIn_tB (x : Wd) (ws : List Wd) : semNotIn (sB x) (tW ws) = some (.fz (.bl (!decide (x ∈ ws)))) := by
  unfold semNotIn inP
  simp only [flatP, flats_bs, inV_bs, Option.map_some]
theorem notIn_01 (b : Bool) : semNotIn (sB [b]) (.str (bs [false, true])) = some (.fz (.bl false)) := by cases b <;> rfl
theorem strs_bs (ws : List Wd) : strsP (ws.map sB) = some (ws.map bs) := by
  induction ws with
  | nil => rfl
  | cons w ws ih => simp only [List.map_cons, strsP, ih, Option.map_some]
theorem idxOf_bs (x : Wd) (ws : List Wd) : (ws.map bs).idxOf? (bs x) = ws.idxOf? x := by
  unfold List.idxOf?
  rw [List.findIdx?_map]
  congr 1
  funext w
  show (bs w == bs x) = (w == x)
  rw [Bool.eq_iff_iff, beq_iff_eq, beq_iff_eq, bs_iff]
theorem index_lB {x : Wd} {ws : List Wd} {j : Nat} (h : ws.idxOf? x = some j) : semIndex (lB ws) [sB x] = some (.fz (.int (j : Nat))) := by
  unfold semIndex
  simp only [strs_bs, Option.bind_some, idxOf_bs, h, Option.map_some]
theorem join_lB {ws : List Wd} (h : ws.flatten.length ≤ 16777216) : semJoin (sB []) [lB ws] = some (.fz (sB ws.flatten)) := by
  unfold semJoin
  simp only [strs_bs, Option.bind_some, joinOk_bs h, if_true, bs_join]
theorem starts_bs (a b : Wd) : semStarts (sB a) [sB b] = some (.fz (.bl (b.isPrefixOf a))) := by
  show some (Val.fz (PV.bl (Txt.startswith (bs a) (bs b)))) = _
  rw [bs_starts]
theorem look_bs (x : Wd) : ∀ (ws : List Wd) (vs : List PV), vs.length = ws.length → look (ws.map fun w => (Sum.inr (bs w) : Key)) vs (.inr (bs x)) = (ws.idxOf? x).bind fun j => vs[j]?
  | [], vs, h => by
    have : vs = [] := List.eq_nil_of_length_eq_zero h
    subst this; rfl
  | w :: ws, [], h => by simp at h
  | w :: ws, v :: vs, h => by
    simp only [List.map_cons, look]
    by_cases e : w = x
    · subst e
      simp [List.idxOf?_cons]
    · have e' : ¬ (Sum.inr (bs w) : Key) = Sum.inr (bs x) := fun z => e (bs_inj (Sum.inr.inj z))
      rw [if_neg e', look_bs x ws vs (by simpa using h), List.idxOf?_cons]
      have : (w == x) = false := by simpa using e
      rw [this]
      cases ws.idxOf? x <;> simp
theorem eq_bs (a b : Wd) : semEq (sB a) (sB b) = some (.fz (.bl (decide (a = b)))) := by
  unfold semEq eqP
  have h : ∀ w, SeqAt.shaped (.str (bs w)) = true := fun w => by
    unfold SeqAt.shaped
    simp only [PyData.canLay0, bs_ok, PyData.depth]
    rfl
  simp only [toD, h, and_self, if_true, Option.map_some]
  congr 3
  show (bs a == bs b) = _
  rw [Bool.eq_iff_iff, beq_iff_eq, decide_eq_true_eq, bs_iff]
theorem toDs_bs (ws : List Wd) : toDs (ws.map sB) = some (ws.map fun w => PyData.str (bs w)) := toDs_map fun _ _ => rfl
theorem ne_lB_nil (ws : List Wd) : semNe (lB ws) (.lst []) = some (.fz (.bl (!ws.isEmpty))) := by
  have := ne_strs_nil (ns := ws.map bs) fun x hx => by obtain ⟨w, _, rfl⟩ := List.mem_map.mp hx; exact bs_ok w
  rw [List.map_map] at this
  rw [show lB ws = .lst (ws.map (PV.str ∘ bs)) from rfl, this]
  cases ws <;> rfl
/-! ### loops -/
theorem forL_inv {u : UG} {db : Env' → Res Fl} {ps : List PV} (I : Nat → Env' → Prop) (step : ∀ (i : Nat) (p : PV) (e : Env'), ps[i]? = some p → I i e → ∃ e1 e2, u p e = some e1 ∧ db e1 = .ok .nx e2 ∧ I (i + 1) e2) {e : Env'} (h0 : I 0 e) :
    ∃ e', forL u db ps e = .ok .nx e' ∧ I ps.length e' := by
  have key : ∀ (qs : List PV) (i : Nat) (e : Env'), i + qs.length = ps.length → ps.drop i = qs → I i e → ∃ e', forL u db qs e = .ok .nx e' ∧ I ps.length e' := by
    intro qs
    induction qs with
    | nil =>
      intro i e hl hd hI
      have : i = ps.length := by simpa using hl
      subst this
      exact ⟨e, rfl, hI⟩
    | cons q qs ih =>
      intro i e hl hd hI
      have hq : ps[i]? = some q := by rw [← List.head?_drop, hd]; rfl
      obtain ⟨e1, e2, h1, h2, h3⟩ := step i q e hq hI
      have hd' : ps.drop (i + 1) = qs := by rw [← List.tail_drop, hd]; rfl
      obtain ⟨e', h4, h5⟩ := ih (i + 1) e2 (by simp at hl; omega) hd' h3
      refine ⟨e', ?_, h5⟩
      unfold forL
      rw [h1]
      simp only [h2]
      exact h4
  exact key ps 0 e (by simp) rfl h0
theorem lcL_inv {vs : List Nat} {u : UG} {dt : Option (Env' → Res Bool)} {de : Env' → Res Val} {ps : List PV} (I : Nat → List PV → Env' → Prop)
    (step : ∀ (i : Nat) (p : PV) (acc : List PV) (e : Env'), ps[i]? = some p → I i acc e → freeS vs e = true ∧ ∃ e1, u p (blkE vs e) = some e1 ∧
      ((∃ e2, dtO dt e1 = .ok false e2 ∧ I (i + 1) acc (outE vs e e2)) ∨ ∃ e2 x e3 q e4, dtO dt e1 = .ok true e2 ∧ de e2 = .ok x e3 ∧ frz x e3 = .ok q e4 ∧ acc.length < big ∧ I (i + 1) (acc ++ [q]) (outE vs e e4)))
    {acc : List PV} {e : Env'} (h0 : I 0 acc e) : ∃ acc' e', lcL vs u dt de ps acc e = .ok acc' e' ∧ I ps.length acc' e' := by
  have key : ∀ (qs : List PV) (i : Nat) (acc : List PV) (e : Env'), i + qs.length = ps.length → ps.drop i = qs → I i acc e → ∃ acc' e', lcL vs u dt de qs acc e = .ok acc' e' ∧ I ps.length acc' e' := by
    intro qs
    induction qs with
    | nil =>
      intro i acc e hl hd hI
      have : i = ps.length := by simpa using hl
      subst this
      exact ⟨acc, e, rfl, hI⟩
    | cons q qs ih =>
      intro i acc e hl hd hI
      have hq : ps[i]? = some q := by rw [← List.head?_drop, hd]; rfl
      obtain ⟨hf, e1, h1, h2⟩ := step i q acc e hq hI
      have hd' : ps.drop (i + 1) = qs := by rw [← List.tail_drop, hd]; rfl
      rcases h2 with ⟨e2, h2, h3⟩ | ⟨e2, x, e3, r, e4, h2, h3, h4, hb, h5⟩
      · obtain ⟨acc', e', h6, h7⟩ := ih (i + 1) _ _ (by simp at hl; omega) hd' h3
        refine ⟨acc', e', ?_, h7⟩
        unfold lcL
        rw [if_pos hf, h1]
        simp only [h2]
        exact h6
      · obtain ⟨acc', e', h6, h7⟩ := ih (i + 1) _ _ (by simp at hl; omega) hd' h5
        refine ⟨acc', e', ?_, h7⟩
        unfold lcL
        rw [if_pos hf, h1]
        simp only [h2, h3, h4, hb, if_true]
        exact h6
  exact key ps 0 acc e (by simp) rfl h0
theorem while_inv {dt : Env' → Res Bool} {db : Env' → Res Fl} (I : Nat → Env' → Prop) (Z : Env' → Prop)
    (step : ∀ (m : Nat) (e : Env'), I m e → (∃ e1, dt e = .ok false e1 ∧ Z e1) ∨ ∃ e1 e2 m', dt e = .ok true e1 ∧ db e1 = .ok .nx e2 ∧ m' < m ∧ I m' e2) :
    ∀ (n m : Nat) (e : Env'), m < n → I m e → ∃ e', dWhile dt db n e = .ok .nx e' ∧ Z e'
  | 0, m, e, h, _ => by omega
  | n + 1, m, e, h, hI => by
    rcases step m e hI with ⟨e1, h1, h2⟩ | ⟨e1, e2, m', h1, h2, h3, h4⟩
    · refine ⟨e1, ?_, h2⟩
      unfold dWhile
      rw [h1]
      rfl
    · obtain ⟨e', h5, h6⟩ := while_inv I Z step n m' e2 (by omega) h4
      refine ⟨e', ?_, h6⟩
      unfold dWhile
      rw [h1]
      show (db e1).bind _ = _
      rw [h2]
      exact h5
end VL

set_option maxRecDepth 100000
set_option maxHeartbeats 2000000
namespace VL
open PySem PySem.Spec L2
open PyProof.Rows hiding St
/-! ### within a comprehension -/
def outZ (vs : List Nat) : Nat → Env' → Env' → Env'
  | k, a :: e, b :: e2 => (if k ∈ vs then a else outS a b) :: outZ vs (k + 1) e e2
  | _, _, _ => []
theorem outZ_at (vs : List Nat) : ∀ (e e2 : Env') (k i : Nat), e2.length = e.length → (outZ vs k e e2)[i]? = if i < e.length then some (if k + i ∈ vs then e.getD i .no else outS (e.getD i .no) (e2.getD i .no)) else none
  | [], [], k, i, _ => by simp [outZ]
  | [], _ :: _, k, i, h => by simp at h
  | _ :: _, [], k, i, h => by simp at h
  | a :: e, b :: e2, k, 0, h => by simp [outZ]
  | a :: e, b :: e2, k, i + 1, h => by
    have := outZ_at vs e e2 (k + 1) i (by simpa using h)
    simp only [outZ, List.getElem?_cons_succ, this, List.length_cons, Nat.add_lt_add_iff_right, List.getD_cons_succ]
    rw [show k + 1 + i = k + (i + 1) by omega]
theorem outE_z {vs : List Nat} {e e2 : Env'} (h : e2.length = e.length) : outE vs e e2 = outZ vs 0 e e2 := by
  apply List.ext_getElem?
  intro i
  rw [outZ_at vs e e2 0 i h]
  unfold outE
  rw [List.getElem?_map, Nat.zero_add]
  by_cases hi : i < e.length
  · rw [List.getElem?_range hi, if_pos hi]; rfl
  · rw [List.getElem?_eq_none (by simpa using hi), if_neg hi]; rfl
theorem outZ_c {vs : List Nat} {k : Nat} {a b : Sl} {e e2 : Env'} : outZ vs k (a :: e) (b :: e2) = (if k ∈ vs then a else outS a b) :: outZ vs (k + 1) e e2 := id rfl
theorem outZ_n {vs : List Nat} {k : Nat} : outZ vs k [] [] = [] := id rfl
theorem outS_w {b c : Bool} {p q : PV} : outS (.ow b p) (.ow c q) = .ow b q := id rfl
theorem outS_f {s : Sl} {q : PV} : outS s (.fz q) = .fz q := by cases s <;> exact id rfl
theorem outS_o {s : Sl} : outS s .no = .no := by cases s <;> exact id rfl
theorem lend_w {b : Bool} {p : PV} : lendS (.ow b p) = .ow false p := id rfl
theorem lend_f {p : PV} : lendS (.fz p) = .fz p := id rfl
theorem lend_n : lendS .no = .no := id rfl
theorem blk_e {vs : List Nat} {e : Env'} : blkE vs e = wipeE (e.map lendS) vs := id rfl
theorem wipe_n {e : Env'} : wipeE e [] = e := id rfl
theorem wipe_c {e : Env'} {i : Nat} {is : List Nat} : wipeE e (i :: is) = wipeE (e.set i .no) is := id rfl
theorem free_e {vs : List Nat} {e : Env'} : freeS vs e = vs.all fun i => match e[i]? with
  | some (.ow _ _) => false
  | _ => true := id rfl
theorem dtO_n {e : Env'} : dtO none e = .ok true e := id rfl
theorem dtO_s {e : Env'} {dt : Env' → Res Bool} : dtO (some dt) e = dt e := id rfl
theorem entry_e {n : Nat} {md : Md} {args : List PV} : entry n md args = entryE md args ++ List.replicate (n - args.length) .no := id rfl
theorem entryE_t {ms : Md} {p : PV} {ps : List PV} : entryE (true :: ms) (p :: ps) = .ow false p :: entryE ms ps := id rfl
theorem entryE_f {ms : Md} {p : PV} {ps : List PV} : entryE (false :: ms) (p :: ps) = .fz p :: entryE ms ps := id rfl
theorem entryE_n : entryE [] [] = [] := id rfl
theorem repl_s {n : Nat} : List.replicate (n + 1) Sl.no = .no :: List.replicate n .no := id rfl
theorem repl_z : List.replicate 0 Sl.no = [] := id rfl
theorem outsAt_n {i : Nat} {e : Env'} : outsAt i [] e = some [] := id rfl
theorem outsAt_f {i : Nat} {ms : Md} {e : Env'} : outsAt i (false :: ms) e = outsAt (i + 1) ms e := id rfl
theorem outsAt_t {i : Nat} {ms : Md} {e : Env'} : outsAt i (true :: ms) e = match e[i]?, outsAt (i + 1) ms e with
    | some (.ow false q), some r => some (q :: r)
    | _, _ => none := id rfl
end VL

set_option maxRecDepth 100000
set_option maxHeartbeats 2000000
namespace VL
open PySem PySem.Spec L2
open PyProof.Rows hiding St
/-! ### dict comprehensions -/
theorem dcL_inv {vs : List Nat} {u : UG} {dk dv : Env' → Res Val} {ps : List PV} (I : Nat → List Key → List PV → Env' → Prop)
    (step : ∀ (i : Nat) (p : PV) (ks : List Key) (xs : List PV) (e : Env'), ps[i]? = some p → I i ks xs e → freeS vs e = true ∧ ∃ e1 kx e3 kp e4 k x e5 q e6, u p (blkE vs e) = some e1 ∧ dk e1 = .ok kx e3 ∧ frz kx e3 = .ok kp e4 ∧ keyP kp = some k ∧ dv e4 = .ok x e5 ∧ frz x e5 = .ok q e6 ∧ ks.length < big ∧ I (i + 1) (putP ks xs k q).1 (putP ks xs k q).2 (outE vs e e6))
    {ks : List Key} {xs : List PV} {e : Env'} (h0 : I 0 ks xs e) : ∃ ks' xs' e', dcL vs u none dk dv ps ks xs e = .ok (ks', xs') e' ∧ I ps.length ks' xs' e' := by
  have key : ∀ (qs : List PV) (i : Nat) (ks : List Key) (xs : List PV) (e : Env'), i + qs.length = ps.length → ps.drop i = qs → I i ks xs e → ∃ ks' xs' e', dcL vs u none dk dv qs ks xs e = .ok (ks', xs') e' ∧ I ps.length ks' xs' e' := by
    intro qs
    induction qs with
    | nil =>
      intro i ks xs e hl hd hI
      have : i = ps.length := by simpa using hl
      subst this
      exact ⟨ks, xs, e, rfl, hI⟩
    | cons q qs ih =>
      intro i ks xs e hl hd hI
      have hq : ps[i]? = some q := by rw [← List.head?_drop, hd]; rfl
      obtain ⟨hf, e1, kx, e3, kp, e4, k, x, e5, r, e6, h1, h2, h3, h4, h5, h6, h7, h8⟩ := step i q ks xs e hq hI
      have hd' : ps.drop (i + 1) = qs := by rw [← List.tail_drop, hd]; rfl
      obtain ⟨ks', xs', e', h9, h10⟩ := ih (i + 1) _ _ _ (by simp at hl; omega) hd' h8
      refine ⟨ks', xs', e', ?_, h10⟩
      unfold dcL
      rw [if_pos hf, h1]
      simp only [dtO_n, h2, h3, h4, h5, h6, h7, if_true]
      exact h9
  exact key ps 0 ks xs e (by simp) rfl h0
theorem dcIn_inv {vs vs1 : List Nat} {u1 : UG} {dk dv : Env' → Res Val} {ps : List PV} (I : Nat → List Key → List PV → Env' → Env' → Prop)
    (step : ∀ (i : Nat) (p : PV) (ks : List Key) (xs : List PV) (e b : Env'), ps[i]? = some p → I i ks xs e b → freeS vs1 b = true ∧ ∃ e1 kx e3 kp e4 k x e5 q e6, u1 p (wipeE b vs1) = some e1 ∧ dk e1 = .ok kx e3 ∧ frz kx e3 = .ok kp e4 ∧ keyP kp = some k ∧ dv e4 = .ok x e5 ∧ frz x e5 = .ok q e6 ∧ lentB e6 = true ∧ ks.length < big ∧
      I (i + 1) (putP ks xs k q).1 (putP ks xs k q).2 (outE vs e (outE vs1 b e6)) (outE vs1 b e6))
    {ks : List Key} {xs : List PV} {e b : Env'} (h0 : I 0 ks xs e b) : ∃ ks' xs' e' b', dcIn vs vs1 u1 none dk dv ps ks xs e b = some ((ks', xs'), e', b') ∧ I ps.length ks' xs' e' b' := by
  have key : ∀ (qs : List PV) (i : Nat) (ks : List Key) (xs : List PV) (e b : Env'), i + qs.length = ps.length → ps.drop i = qs → I i ks xs e b → ∃ ks' xs' e' b', dcIn vs vs1 u1 none dk dv qs ks xs e b = some ((ks', xs'), e', b') ∧ I ps.length ks' xs' e' b' := by
    intro qs
    induction qs with
    | nil =>
      intro i ks xs e b hl hd hI
      have : i = ps.length := by simpa using hl
      subst this
      exact ⟨ks, xs, e, b, rfl, hI⟩
    | cons q qs ih =>
      intro i ks xs e b hl hd hI
      have hq : ps[i]? = some q := by rw [← List.head?_drop, hd]; rfl
      obtain ⟨hf, e1, kx, e3, kp, e4, k, x, e5, r, e6, h1, h2, h3, h4, h5, h6, h7, h7b, h8⟩ := step i q ks xs e b hq hI
      have hd' : ps.drop (i + 1) = qs := by rw [← List.tail_drop, hd]; rfl
      obtain ⟨ks', xs', e', b', h9, h10⟩ := ih (i + 1) _ _ _ _ (by simp at hl; omega) hd' h8
      refine ⟨ks', xs', e', b', ?_, h10⟩
      unfold dcIn
      rw [if_pos hf, h1]
      simp only [dtO_n, h2, h3, h4, h5, h6, h7, h7b, and_self, if_true]
      exact h9
  exact key ps 0 ks xs e b (by simp) rfl h0
theorem dcOut_inv {vs vs1 : List Nat} {u u1 : UG} {di1 : Env' → Res (List PV)} {dk dv : Env' → Res Val} {ps : List PV} (I : Nat → List Key → List PV → Env' → Prop)
    (step : ∀ (i : Nat) (p : PV) (ks : List Key) (xs : List PV) (e : Env'), ps[i]? = some p → I i ks xs e → freeS vs e = true ∧ ∃ e1 ps1 e3 ks' xs' e' b', u p (blkE vs e) = some e1 ∧ di1 e1 = .ok ps1 e3 ∧ lentB e3 = true ∧ dcIn vs vs1 u1 none dk dv ps1 ks xs (outE vs e e3) e3 = some ((ks', xs'), e', b') ∧ I (i + 1) ks' xs' e')
    {ks : List Key} {xs : List PV} {e : Env'} (h0 : I 0 ks xs e) : ∃ ks' xs' e', dcOut vs vs1 u none di1 u1 none dk dv ps ks xs e = .ok (ks', xs') e' ∧ I ps.length ks' xs' e' := by
  have key : ∀ (qs : List PV) (i : Nat) (ks : List Key) (xs : List PV) (e : Env'), i + qs.length = ps.length → ps.drop i = qs → I i ks xs e → ∃ ks' xs' e', dcOut vs vs1 u none di1 u1 none dk dv qs ks xs e = .ok (ks', xs') e' ∧ I ps.length ks' xs' e' := by
    intro qs
    induction qs with
    | nil =>
      intro i ks xs e hl hd hI
      have : i = ps.length := by simpa using hl
      subst this
      exact ⟨ks, xs, e, rfl, hI⟩
    | cons q qs ih =>
      intro i ks xs e hl hd hI
      have hq : ps[i]? = some q := by rw [← List.head?_drop, hd]; rfl
      obtain ⟨hf, e1, ps1, e3, ks1, xs1, e4, b4, h1, h2, h3, h4, h8⟩ := step i q ks xs e hq hI
      have hd' : ps.drop (i + 1) = qs := by rw [← List.tail_drop, hd]; rfl
      obtain ⟨ks', xs', e', h9, h10⟩ := ih (i + 1) _ _ _ (by simp at hl; omega) hd' h8
      refine ⟨ks', xs', e', ?_, h10⟩
      unfold dcOut
      rw [if_pos hf, h1]
      simp only [dtO_n, h2, h3, h4, if_true]
      exact h9
  exact key ps 0 ks xs e (by simp) rfl h0
theorem dc2_e {vs vs1 : List Nat} {di di1 : Env' → Res (List PV)} {u u1 : UG} {dk dv : Env' → Res Val} {e : Env'} : dDc2 vs vs1 di u none di1 u1 none dk dv e = (di e).bh fun ps e1 => (dcOut vs vs1 u none di1 u1 none dk dv ps [] [] e1).bh fun qs e2 => .ok (.new (.dK qs.1 qs.2)) e2 := id rfl
/-! ### dicts of texts -/
abbrev kB (w : Wd) : Key := .inr (bs w)
theorem kB_mem {x : Wd} {ns : List Wd} : kB x ∈ ns.map kB ↔ x ∈ ns := by
  constructor
  · intro h
    obtain ⟨w, hw, e⟩ := List.mem_map.mp h
    have := bs_inj (Sum.inr.inj e)
    subst this; exact hw
  · exact fun h => List.mem_map_of_mem h
theorem zip_true (k : Key) : ∀ ns : List Wd, List.zipWith (fun j x => if j = k then PV.bl true else x) (ns.map kB) (ns.map fun _ => PV.bl true) = ns.map fun _ => PV.bl true
  | [] => rfl
  | n :: ns => by
    simp only [List.map_cons, List.zipWith_cons_cons, zip_true k ns]
    split <;> rfl
/-- a node is put in -/
def addW (ns : List Wd) (x : Wd) : List Wd := if x ∈ ns then ns else ns ++ [x]
theorem putP_true (ns : List Wd) (x : Wd) : putP (ns.map kB) (ns.map fun _ => PV.bl true) (kB x) (.bl true) = ((addW ns x).map kB, (addW ns x).map fun _ => PV.bl true) := by
  unfold putP addW
  by_cases h : x ∈ ns
  · rw [if_pos (kB_mem.mpr h), if_pos h, zip_true]
  · rw [if_neg (fun z => h (kB_mem.mp z)), if_neg h]
    simp
theorem addW_mem {ns : List Wd} {x y : Wd} : y ∈ addW ns x ↔ y ∈ ns ∨ y = x := by
  unfold addW
  split
  · constructor
    · exact .inl
    · rintro (h | rfl) <;> assumption
  · simp
theorem addW_len (ns : List Wd) (x : Wd) : (addW ns x).length ≤ ns.length + 1 := by
  unfold addW
  split
  · omega
  · simp
theorem putP_new {ns : List Wd} {vs : List PV} {x : Wd} {v : PV} (h : x ∉ ns) : putP (ns.map kB) vs (kB x) v = ((ns ++ [x]).map kB, vs ++ [v]) := by
  unfold putP
  rw [if_neg (fun z => h (kB_mem.mp z))]
  simp
end VL

set_option maxRecDepth 100000
set_option maxHeartbeats 2000000
namespace VL
/-! ### full codes of words -/
def Apart (a b : Wd) : Prop := ¬ a <+: b ∧ ¬ b <+: a
theorem Apart.symm {a b : Wd} (h : Apart a b) : Apart b a := ⟨h.2, h.1⟩
structure Good (ws : List Wd) : Prop where
  pre : ws.Pairwise Apart
  ne : ∀ w ∈ ws, w ≠ []
  len : ∀ w ∈ ws, w.length + 1 ≤ ws.length
  kraft : (ws.map fun w => 2 ^ (25 - w.length)).sum = 33554432
theorem Good.start : Good [[false], [true]] := by
  refine ⟨?_, ?_, ?_, by decide⟩
  · refine List.Pairwise.cons (fun b hb => ?_) (List.pairwise_singleton ..)
    have : b = [true] := by simpa using hb
    subst this
    exact ⟨by decide, by decide⟩
  · intro w hw; rintro rfl; simp at hw
  · intro w hw
    simp at hw
    rcases hw with rfl | rfl <;> decide
theorem Good.perm {ws ws' : List Wd} (p : ws'.Perm ws) (h : Good ws) : Good ws' where
  pre := (p.pairwise_iff (R := Apart) Apart.symm).mpr h.pre
  ne := fun w hw => h.ne w (p.mem_iff.mp hw)
  len := fun w hw => by rw [p.length_eq]; exact h.len w (p.mem_iff.mp hw)
  kraft := by rw [← h.kraft]; exact (p.map _).sum_nat
theorem Good.split1 {w : Wd} {r : List Wd} (h : Good (w :: r)) (hl : r.length ≤ 24) : Good ((w ++ [false]) :: (w ++ [true]) :: r) := by
  have hp := List.pairwise_cons.mp h.pre
  have ap : ∀ (b : Bool) (x : Wd), Apart w x → Apart (w ++ [b]) x := fun b x hx => by
    refine ⟨fun z => hx.1 ((List.prefix_append w [b]).trans z), fun z => ?_⟩
    rcases List.prefix_concat_iff.mp z with e | e
    · exact hx.1 (e ▸ List.prefix_append w [b])
    · exact hx.2 e
  have hw := h.len w (List.mem_cons_self ..)
  simp only [List.length_cons] at hw
  refine ⟨?_, ?_, ?_, ?_⟩
  · refine List.Pairwise.cons (fun x hx => ?_) (List.Pairwise.cons (fun x hx => ap _ _ (hp.1 x hx)) hp.2)
    rcases List.mem_cons.mp hx with rfl | hx
    · refine ⟨fun z => ?_, fun z => ?_⟩
      · have := (List.prefix_append_right_inj w).mp z
        exact absurd this (by decide)
      · have := (List.prefix_append_right_inj w).mp z
        exact absurd this (by decide)
    · exact ap _ _ (hp.1 x hx)
  · intro x hx
    rcases List.mem_cons.mp hx with rfl | hx
    · simp
    · rcases List.mem_cons.mp hx with rfl | hx
      · simp
      · exact h.ne x (List.mem_cons_of_mem _ hx)
  · intro x hx
    rcases List.mem_cons.mp hx with rfl | hx
    · simp; omega
    · rcases List.mem_cons.mp hx with rfl | hx
      · simp; omega
      · have := h.len x (List.mem_cons_of_mem _ hx)
        simp at this ⊢
        omega
  · have := h.kraft
    simp only [List.map_cons, List.sum_cons, List.length_append, List.length_cons, List.length_nil] at this ⊢
    have e : 2 ^ (25 - w.length) = 2 ^ (25 - (w.length + (0 + 1))) + 2 ^ (25 - (w.length + (0 + 1))) := by
      have : 25 - w.length = (25 - (w.length + (0 + 1))) + 1 := by omega
      rw [this, Nat.pow_succ]; omega
    omega
theorem erase_perm {α : Type} : ∀ (l : List α) (i : Nat) (h : i < l.length), (l[i] :: l.eraseIdx i).Perm l
  | a :: l, 0, _ => by simp
  | a :: l, i + 1, h => by
    have := erase_perm l i (by simpa using h)
    simp only [List.getElem_cons_succ, List.eraseIdx_cons_succ]
    exact (List.Perm.swap a _ _).trans (this.cons a)
theorem map_erase {α β : Type} (f : α → β) : ∀ (l : List α) (i : Nat), (l.map f).eraseIdx i = (l.eraseIdx i).map f
  | [], _ => rfl
  | _ :: _, 0 => rfl
  | a :: l, i + 1 => by simp only [List.map_cons, List.eraseIdx_cons_succ, map_erase f l i]
theorem Good.split {ws : List Wd} (h : Good ws) {i : Nat} (hi : i < ws.length) (hl : ws.length ≤ 25) : Good (ws.eraseIdx i ++ [ws[i] ++ [false], ws[i] ++ [true]]) := by
  have g := (h.perm (erase_perm ws i hi)).split1 (by rw [List.length_eraseIdx]; simp [hi]; omega)
  exact g.perm List.perm_append_comm
theorem Good.nodup {ws : List Wd} (h : Good ws) : ws.Nodup := by
  refine List.Pairwise.imp ?_ h.pre
  rintro a b q rfl
  exact q.1 List.prefix_rfl
theorem idx_some {x : Wd} : ∀ {ws : List Wd}, x ∈ ws → ws.idxOf? x = some (ws.idxOf x)
  | [], h => by cases h
  | w :: ws, h => by
    rw [List.idxOf?_cons, List.idxOf_cons]
    cases e : (w == x) with
    | true => rfl
    | false =>
      have hx : x ∈ ws := by
        rcases List.mem_cons.mp h with rfl | h
        · simp at e
        · exact h
      rw [idx_some hx]; rfl
theorem wd_at {ws : List Wd} {s : Nat} (h : s < ws.length) : ws.getD s [] = ws[s] := by simp [List.getD, h]
/-- a word that begins a word is it -/
theorem Good.eq_of {ws : List Wd} (h : Good ws) {a b : Wd} (ha : a ∈ ws) (hb : b ∈ ws) (p : a <+: b) : a = b := by
  obtain ⟨i, hi, rfl⟩ := List.getElem_of_mem ha
  obtain ⟨j, hj, rfl⟩ := List.getElem_of_mem hb
  have q := List.pairwise_iff_getElem.mp h.pre
  rcases Nat.lt_trichotomy i j with e | e | e
  · exact absurd p (q i j hi hj e).1
  · subst e; rfl
  · exact absurd p (q j i hj hi e).2
/-! ### reading -/
/-- one bit: the node, the sign read -/
def mv (ws : List Wd) (nd : Wd) (b : Bool) : Wd × Option Nat := if nd ++ [b] ∈ ws then ([], ws.idxOf? (nd ++ [b])) else (nd ++ [b], none)
/-- all bits, from the k-th on: signs, ends, the node -/
def rdg (ws : List Wd) : Wd → Nat → List Bool → List Nat × List Nat × Wd
  | nd, _, [] => ([], [], nd)
  | nd, k, b :: r => match ws.idxOf? (nd ++ [b]) with
    | some j => let q := rdg ws [] (k + 1) r; (j :: q.1, (k + 1) :: q.2.1, q.2.2)
    | none => rdg ws (nd ++ [b]) (k + 1) r
theorem rdg_app (ws : List Wd) : ∀ (a b : List Bool) (nd : Wd) (k : Nat), rdg ws nd k (a ++ b) = (let q := rdg ws nd k a; let r := rdg ws q.2.2 (k + a.length) b; (q.1 ++ r.1, q.2.1 ++ r.2.1, r.2.2))
  | [], b, nd, k => by simp [rdg]
  | x :: a, b, nd, k => by
    simp only [List.cons_append, rdg]
    cases ws.idxOf? (nd ++ [x]) with
    | none =>
      simp only [rdg_app ws a b, List.length_cons]
      rw [show k + 1 + a.length = k + (a.length + 1) by omega]
    | some j =>
      simp only [rdg_app ws a b, List.length_cons, List.cons_append]
      rw [show k + 1 + a.length = k + (a.length + 1) by omega]
theorem idx_none {ws : List Wd} {x : Wd} (h : x ∉ ws) : ws.idxOf? x = none := by
  rw [List.idxOf?_eq_none_iff]; exact h
/-- a word's rest is read to its end -/
theorem Good.rest {ws : List Wd} (g : Good ws) {w : Wd} (hw : w ∈ ws) : ∀ (b a : Wd) (k : Nat), a ++ b = w → b ≠ [] → rdg ws a k b = ([ws.idxOf w], [k + b.length], [])
  | [], _, _, _, h => absurd rfl h
  | x :: b, a, k, e, _ => by
    unfold rdg
    by_cases hb : b = []
    · subst hb
      have : ws.idxOf? (a ++ [x]) = some (ws.idxOf w) := by
        rw [e]
        exact idx_some hw
      rw [this]
      simp [rdg]
    · have hn : a ++ [x] ∉ ws := fun hm => by
        have p : a ++ [x] <+: w := by rw [← e]; exact ⟨b, by simp⟩
        have := g.eq_of hm hw p
        rw [← e] at this
        have := congrArg List.length this
        simp at this
        exact hb this
      rw [idx_none hn]
      have ih := Good.rest g hw b (a ++ [x]) (k + 1) (by rw [← e]; simp) hb
      simp only [ih, List.length_cons]
      rw [show k + 1 + b.length = k + (b.length + 1) by omega]
/-- the words of signs are read back -/
theorem Good.back {ws : List Wd} (g : Good ws) : ∀ (ss : List Nat) (k : Nat) (h : ∀ s ∈ ss, s < ws.length), ∃ ends, rdg ws [] k (ss.map fun s => ws.getD s []).flatten = (ss, ends, [])
  | [], k, _ => ⟨[], rfl⟩
  | s :: ss, k, h => by
    have hs := h s (List.mem_cons_self ..)
    have hw : ws.getD s [] ∈ ws := by rw [wd_at hs]; exact List.getElem_mem ..
    obtain ⟨ends, ih⟩ := Good.back g ss (k + (ws.getD s []).length) fun t ht => h t (List.mem_cons_of_mem _ ht)
    have r := g.rest hw (ws.getD s []) [] k (by simp) (g.ne _ hw)
    have hi : ws.idxOf (ws.getD s []) = s := by
      rw [wd_at hs]
      exact g.nodup.idxOf_getElem s hs
    refine ⟨(k + (ws.getD s []).length) :: ends, ?_⟩
    rw [List.map_cons, List.flatten_cons, rdg_app, r]
    simp only [ih, hi, List.singleton_append]
end VL

set_option maxRecDepth 100000
set_option maxHeartbeats 2000000
namespace VL
/-! ### numbers as bits, the greatest first -/
def loW (n : Nat) : Nat → Wd
  | 0 => []
  | i + 1 => ((n / 2 ^ i) % 2 == 1) :: loW n i
theorem loW_len (n : Nat) : ∀ i, (loW n i).length = i
  | 0 => rfl
  | i + 1 => by simp [loW, loW_len n i]
theorem loW_take (n i : Nat) : ∀ k, (loW n (i + k)).take k = loW (n / 2 ^ i) k
  | 0 => by simp [loW]
  | k + 1 => by
    show ((((n / 2 ^ (i + k)) % 2 == 1) :: loW n (i + k)).take (k + 1)) = _
    rw [List.take_succ_cons, loW_take n i k]
    show _ = (((n / 2 ^ i) / 2 ^ k) % 2 == 1) :: loW (n / 2 ^ i) k
    rw [Nat.div_div_eq_div_mul, ← Nat.pow_add]
def valW : Wd → Nat
  | [] => 0
  | b :: w => (if b = true then 1 else 0) * 2 ^ w.length + valW w
theorem valW_lo (n : Nat) : ∀ i, valW (loW n i) = n % 2 ^ i
  | 0 => by simp [loW, valW, Nat.mod_one]
  | i + 1 => by
    simp only [loW, valW, loW_len, valW_lo n i]
    rw [Nat.mod_pow_succ]
    have h : (n / 2 ^ i) % 2 = 0 ∨ (n / 2 ^ i) % 2 = 1 := by omega
    rcases h with h | h <;> simp [h] <;> omega
theorem loW_inj {a b i : Nat} (ha : a < 2 ^ i) (hb : b < 2 ^ i) (h : loW a i = loW b i) : a = b := by
  have := congrArg valW h
  rw [valW_lo, valW_lo, Nat.mod_eq_of_lt ha, Nat.mod_eq_of_lt hb] at this
  exact this
/-! ### lengths with their signs, in order -/
def pl (a b : Nat × Nat) : Bool := if a.1 = b.1 then decide (a.2 < b.2) else decide (a.1 < b.1)
theorem pl_irr (a : Nat × Nat) : pl a a = false := by simp [pl]
theorem pl_le {a b : Nat × Nat} (h : pl a b = true) : a.1 ≤ b.1 := by
  unfold pl at h
  split at h
  · omega
  · have := of_decide_eq_true h; omega
theorem pl_tr {a b c : Nat × Nat} (h : pl a b = true) (h2 : pl b c = true) : pl a c = true := by
  unfold pl at *
  split at h <;> split at h2 <;> split <;> simp only [decide_eq_true_eq] at * <;> omega
theorem pl_as {a b : Nat × Nat} (h : pl a b = true) : pl b a = false := by
  unfold pl at *
  split at h <;> split <;> simp only [decide_eq_true_eq, decide_eq_false_iff_not] at * <;> omega
theorem pl_tot {a b : Nat × Nat} (h : a ≠ b) : pl a b = true ∨ pl b a = true := by
  obtain ⟨a1, a2⟩ := a
  obtain ⟨b1, b2⟩ := b
  have : a1 ≠ b1 ∨ a2 ≠ b2 := by
    by_cases e : a1 = b1
    · right; rintro rfl; exact h (by rw [e])
    · exact .inl e
  unfold pl
  dsimp only
  split <;> split <;> simp only [decide_eq_true_eq] <;> omega
def prs (ls : List Nat) : List (Nat × Nat) := ls.zipIdx
/-- the widths ahead of p, in p's -/
def fw (ps : List (Nat × Nat)) (p : Nat × Nat) : Nat := ((ps.filter fun q => pl q p).map fun q => 2 ^ (p.1 - q.1)).sum
def wordOf (ls : List Nat) (p : Nat × Nat) : Wd := loW (fw (prs ls) p) p.1
def wordsOf (ls : List Nat) : List Wd := (prs ls).map (wordOf ls)
theorem fsum_le (f : Nat × Nat → Nat) (P : Nat × Nat → Bool) : ∀ ps : List (Nat × Nat), ((ps.filter P).map f).sum ≤ (ps.map f).sum
  | [] => by simp
  | a :: ps => by
    have := fsum_le f P ps
    rw [List.filter_cons]
    split <;> simp only [List.map_cons, List.sum_cons] <;> omega
theorem fsum_lt (f : Nat × Nat → Nat) {P : Nat × Nat → Bool} {p : Nat × Nat} (hp : P p = false) : ∀ ps : List (Nat × Nat), p ∈ ps → ((ps.filter P).map f).sum + f p ≤ (ps.map f).sum
  | [], h => by cases h
  | a :: ps, h => by
    rw [List.filter_cons]
    by_cases e : p = a
    · subst e
      rw [hp]
      simp only [Bool.false_eq_true, if_false, List.map_cons, List.sum_cons]
      have := fsum_le f P ps
      omega
    · have hm : p ∈ ps := by
        rcases List.mem_cons.mp h with z | z
        · exact absurd z e
        · exact z
      have := fsum_lt f hp ps hm
      split <;> simp only [List.map_cons, List.sum_cons] <;> omega
theorem sum_mul (f : Nat × Nat → Nat) (c : Nat) : ∀ ps : List (Nat × Nat), (ps.map f).sum * c = (ps.map fun q => f q * c).sum
  | [] => by simp
  | a :: ps => by simp only [List.map_cons, List.sum_cons, Nat.add_mul, sum_mul f c ps]
/-- lengths of a full code that was parted -/
structure GL (ls : List Nat) : Prop where
  pos : ∀ l ∈ ls, 1 ≤ l
  le : ∀ l ∈ ls, l + 1 ≤ ls.length
  kraft : (ls.map fun l => 2 ^ (25 - l)).sum = 33554432
theorem prs_fst (ls : List Nat) : (prs ls).map (·.1) = ls := by simp [prs]
theorem prs_len (ls : List Nat) : (prs ls).length = ls.length := by simp [prs]
theorem prs_at {ls : List Nat} {i : Nat} (h : i < ls.length) : (prs ls)[i]? = some (ls[i], i) := by simp [prs, h]
theorem mem_prs {ls : List Nat} {p : Nat × Nat} (h : p ∈ prs ls) : ∃ h : p.2 < ls.length, p.1 = ls[p.2] := by
  obtain ⟨i, hi, e⟩ := List.getElem_of_mem h
  rw [prs_len] at hi
  have := prs_at hi
  rw [List.getElem?_eq_getElem (by rw [prs_len]; exact hi), e] at this
  cases this
  exact ⟨hi, rfl⟩
theorem prs_fst_mem {ls : List Nat} {p : Nat × Nat} (h : p ∈ prs ls) : p.1 ∈ ls := by
  obtain ⟨h, e⟩ := mem_prs h
  rw [e]; exact List.getElem_mem h
theorem prs_nodup (ls : List Nat) : (prs ls).Nodup := by
  have : ((prs ls).map (·.2)).Nodup := by
    have : (prs ls).map (·.2) = List.range' 0 ls.length := by simp [prs]
    rw [this]
    exact List.nodup_range'
  exact (List.pairwise_map.mp this).imp fun h e => h (by rw [e])
section
variable {ls : List Nat}
theorem GL.le25 (g : GL ls) (h : ls.length ≤ 26) {p : Nat × Nat} (hp : p ∈ prs ls) : p.1 ≤ 25 := by
  have := g.le _ (prs_fst_mem hp); omega
theorem GL.sum (g : GL ls) : ((prs ls).map fun q => 2 ^ (25 - q.1)).sum = 33554432 := by
  rw [← g.kraft]
  conv => rhs; rw [← prs_fst ls]
  rw [List.map_map]
  rfl
theorem pow_split {a b c : Nat} (h1 : a ≤ b) (h2 : b ≤ c) : 2 ^ (b - a) * 2 ^ (c - b) = 2 ^ (c - a) := by
  rw [← Nat.pow_add]
  congr 1
  omega
theorem fw_mul {ps : List (Nat × Nat)} {p : Nat × Nat} {c : Nat} (h : p.1 ≤ c) : fw ps p * 2 ^ (c - p.1) = ((ps.filter fun q => pl q p).map fun q => 2 ^ (c - q.1)).sum := by
  unfold fw
  rw [sum_mul]
  congr 1
  refine List.map_congr_left fun q hq => ?_
  have := pl_le (List.mem_filter.mp hq).2
  exact pow_split this h
theorem GL.fw_lt (g : GL ls) (h : ls.length ≤ 26) {p : Nat × Nat} (hp : p ∈ prs ls) : fw (prs ls) p < 2 ^ p.1 := by
  have h25 := g.le25 h hp
  have a := fsum_lt (fun q => 2 ^ (25 - q.1)) (P := fun q => pl q p) (pl_irr p) (prs ls) hp
  rw [g.sum, ← fw_mul h25] at a
  have e : (33554432 : Nat) = 2 ^ p.1 * 2 ^ (25 - p.1) := by
    rw [← Nat.pow_add, show p.1 + (25 - p.1) = 25 by omega]
  rw [e, ← Nat.succ_mul] at a
  exact Nat.le_of_mul_le_mul_right a (Nat.pow_pos (by omega))
theorem fw_mono {ps : List (Nat × Nat)} {p q : Nat × Nat} (hp : p ∈ ps) (h : pl p q = true) : (fw ps p + 1) * 2 ^ (q.1 - p.1) ≤ fw ps q := by
  have a := fsum_lt (fun o => 2 ^ (q.1 - o.1)) (P := fun o => pl o p) (pl_irr p) (ps.filter fun o => pl o q) (List.mem_filter.mpr ⟨hp, h⟩)
  rw [List.filter_filter] at a
  have e : (ps.filter fun o => pl o p && pl o q) = ps.filter fun o => pl o p := by
    refine List.filter_congr fun o _ => ?_
    cases z : pl o p with
    | false => rfl
    | true => rw [pl_tr z h]; rfl
  rw [e, ← fw_mul (pl_le h)] at a
  rw [Nat.succ_mul]
  exact a
theorem word_len (p : Nat × Nat) : (wordOf ls p).length = p.1 := loW_len _ _
theorem GL.apart1 (g : GL ls) (h : ls.length ≤ 26) {p q : Nat × Nat} (hp : p ∈ prs ls) (hq : q ∈ prs ls) (hl : pl p q = true) : ¬ wordOf ls p <+: wordOf ls q := by
  intro z
  have le := pl_le hl
  have e := List.prefix_iff_eq_take.mp z
  rw [word_len] at e
  unfold wordOf at e
  have ek : q.1 = (q.1 - p.1) + p.1 := by omega
  have t := loW_take (fw (prs ls) q) (q.1 - p.1) p.1
  rw [← ek] at t
  rw [t] at e
  have b1 := g.fw_lt h hp
  have b2 := g.fw_lt h hq
  have mono := fw_mono hp hl
  have b3 : fw (prs ls) q / 2 ^ (q.1 - p.1) < 2 ^ p.1 := by
    rw [Nat.div_lt_iff_lt_mul (Nat.pow_pos (by omega)), ← Nat.pow_add, show p.1 + (q.1 - p.1) = q.1 by omega]
    exact b2
  have eq := loW_inj b1 b3 e
  have := (Nat.le_div_iff_mul_le (Nat.pow_pos (n := q.1 - p.1) (by omega : 0 < 2))).mpr mono
  omega
theorem GL.apart (g : GL ls) (h : ls.length ≤ 26) {p q : Nat × Nat} (hp : p ∈ prs ls) (hq : q ∈ prs ls) (hne : p ≠ q) : Apart (wordOf ls p) (wordOf ls q) := by
  have key : ∀ {p q : Nat × Nat}, p ∈ prs ls → q ∈ prs ls → pl p q = true → Apart (wordOf ls p) (wordOf ls q) := by
    intro p q hp hq hl
    refine ⟨g.apart1 h hp hq hl, fun z => ?_⟩
    have l1 := z.length_le
    rw [word_len, word_len] at l1
    have l2 := pl_le hl
    have e := z.eq_of_length (by rw [word_len, word_len]; omega)
    exact g.apart1 h hp hq hl (by rw [e]; exact List.prefix_rfl)
  rcases pl_tot hne with z | z
  · exact key hp hq z
  · exact (key hq hp z).symm
theorem GL.words (g : GL ls) (h : ls.length ≤ 26) : (wordsOf ls).Pairwise Apart := by
  unfold wordsOf
  rw [List.pairwise_map]
  exact List.Pairwise.imp_of_mem (fun hp hq hne => g.apart h hp hq hne) (prs_nodup ls)
theorem words_len : (wordsOf ls).length = ls.length := by simp [wordsOf, prs_len]
theorem words_lens : (wordsOf ls).map List.length = ls := by
  unfold wordsOf
  rw [List.map_map]
  conv => rhs; rw [← prs_fst ls]
  exact List.map_congr_left fun p _ => word_len p
theorem words_inj {ms : List Nat} (h : wordsOf ls = wordsOf ms) : ls = ms := by
  rw [← words_lens (ls := ls), h, words_lens]
/-! ### sorted -/
theorem srt_take : ∀ {Q : List (Nat × Nat)} {k : Nat} (hs : Q.Pairwise fun a b => pl a b = true) (hk : k < Q.length), (Q.filter fun q => pl q Q[k]) = Q.take k
  | [], k, _, hk => by simp at hk
  | a :: Q, 0, hs, _ => by
    obtain ⟨h1, h2⟩ := List.pairwise_cons.mp hs
    simp only [List.getElem_cons_zero, List.take_zero, List.filter_cons, pl_irr]
    simp only [Bool.false_eq_true, if_false]
    rw [List.filter_eq_nil_iff]
    intro q hq
    rw [pl_as (h1 q hq)]
    decide
  | a :: Q, k + 1, hs, hk => by
    obtain ⟨h1, h2⟩ := List.pairwise_cons.mp hs
    have hk' : k < Q.length := by simpa using hk
    simp only [List.getElem_cons_succ, List.take_succ_cons, List.filter_cons]
    rw [h1 _ (List.getElem_mem hk')]
    simp only [if_true]
    rw [srt_take h2 hk']
theorem fw_perm {Q ps : List (Nat × Nat)} (h : Q.Perm ps) (p : Nat × Nat) : fw Q p = fw ps p := ((h.filter _).map _).sum_nat
/-- in order: what is summed up ahead of the k-th -/
theorem fw_srt {Q : List (Nat × Nat)} {k : Nat} (hp : Q.Perm (prs ls)) (hs : Q.Pairwise fun a b => pl a b = true) (hk : k < Q.length) : fw (prs ls) Q[k] = ((Q.take k).map fun q => 2 ^ (Q[k].1 - q.1)).sum := by
  rw [← fw_perm hp]
  unfold fw
  rw [srt_take hs hk]
end
end VL

set_option maxRecDepth 100000
set_option maxHeartbeats 2000000
namespace VL
open PySem PySem.Spec L2
open PyProof.Rows hiding St
/-! ### a sign replaced by a sign -/
def mapC (c d : Nat) (l : List Nat) : List Nat := l.map fun k => if k = c then d else k
theorem mapC_free (c d : Nat) : ∀ l : List Nat, c ∉ l → mapC c d l = l
  | [], _ => rfl
  | k :: r, h => by
    have h1 : ¬ k = c := fun e => h (e ▸ List.mem_cons_self ..)
    unfold mapC
    rw [List.map_cons, if_neg h1]
    congr 1
    exact mapC_free c d r fun m => h (List.mem_cons_of_mem _ m)
theorem mapC_join (c d : Nat) : ∀ parts : List Str, (∀ p ∈ parts, c ∉ p.cps.toList) → mapC c d (Str.join ⟨#[c]⟩ parts).cps.toList = (Str.join ⟨#[d]⟩ parts).cps.toList
  | [], _ => rfl
  | [p], h => mapC_free c d _ (h p (List.mem_singleton.mpr rfl))
  | p :: q :: r, h => by
    have ih := mapC_join c d (q :: r) fun a ha => h a (List.mem_cons_of_mem _ ha)
    show mapC c d (p ++ ⟨#[c]⟩ ++ Str.join ⟨#[c]⟩ (q :: r)).cps.toList = (p ++ ⟨#[d]⟩ ++ Str.join ⟨#[d]⟩ (q :: r)).cps.toList
    simp only [Str.cps_append, Array.toList_append]
    unfold mapC at ih ⊢
    rw [List.map_append, List.map_append, ih]
    have := mapC_free c d _ (h p (List.mem_cons_self ..))
    unfold mapC at this
    rw [this]
    simp
theorem repl_map (x : Str) (c d : Nat) : (Txt.replace x ⟨#[c]⟩ ⟨#[d]⟩).cps.toList = mapC c d x.cps.toList := by
  rw [StrLaws.replace_one, ← mapC_join c d _ (StrLaws.split_free x c), StrLaws.join_split]
theorem repl_st (l : List Nat) (c d : Nat) : Txt.replace ⟨l.toArray⟩ ⟨#[c]⟩ ⟨#[d]⟩ = ⟨(mapC c d l).toArray⟩ := by
  have := repl_map ⟨l.toArray⟩ c d
  have e : (⟨l.toArray⟩ : Str).cps.toList = l := rfl
  rw [e] at this
  rw [← this]
def ntW (w : Wd) : Wd := w.map (!·)
theorem str_0 : (Str.ofString "0") = ⟨#[48]⟩ := by decide +kernel
theorem str_1 : (Str.ofString "1") = ⟨#[49]⟩ := by decide +kernel
theorem str_2 : (Str.ofString "2") = ⟨#[50]⟩ := by decide +kernel
theorem turned_bs (w : Wd) : Txt.replace (Txt.replace (Txt.replace (bs w) (Str.ofString "0") (Str.ofString "2")) (Str.ofString "1") (Str.ofString "0")) (Str.ofString "2") (Str.ofString "1") = bs (ntW w) := by
  rw [str_0, str_1, str_2]
  unfold bs
  rw [repl_st, repl_st, repl_st]
  congr 2
  unfold mapC ntW
  rw [List.map_map, List.map_map, List.map_map, List.map_map]
  refine List.map_congr_left fun b _ => ?_
  cases b <;> decide
theorem repl_len1 (l : List Nat) (c d : Nat) : (⟨(mapC c d l).toArray⟩ : Str).length = l.length := by simp [Str.length, mapC]
theorem turned_sem {w : Wd} (h : w.length ≤ 1000) : ((semRepl "0" "2" (sB w)).bind fun x => (peek x []).bind fun p => (semRepl "1" "0" p).bind fun x => (peek x []).bind fun p => semRepl "2" "1" p) = some (.fz (sB (ntW w))) := by
  have l1 : (bs w).length + ((bs w).length + 1) * (Str.ofString "2").length ≤ 16777216 := by
    rw [str_2, bs_len]; show w.length + (w.length + 1) * 1 ≤ _; omega
  have e1 : semRepl "0" "2" (sB w) = some (.fz (.str (Txt.replace (bs w) (Str.ofString "0") (Str.ofString "2")))) := if_pos l1
  have q1 : Txt.replace (bs w) (Str.ofString "0") (Str.ofString "2") = ⟨(mapC 48 50 (w.map bc)).toArray⟩ := by rw [str_0, str_2]; exact repl_st _ _ _
  have n1 : (Txt.replace (bs w) (Str.ofString "0") (Str.ofString "2")).length = w.length := by rw [q1, repl_len1, List.length_map]
  have q2 : Txt.replace (Txt.replace (bs w) (Str.ofString "0") (Str.ofString "2")) (Str.ofString "1") (Str.ofString "0") = ⟨(mapC 49 48 (mapC 48 50 (w.map bc))).toArray⟩ := by rw [q1, str_0, str_1]; exact repl_st _ _ _
  have n2 : (Txt.replace (Txt.replace (bs w) (Str.ofString "0") (Str.ofString "2")) (Str.ofString "1") (Str.ofString "0")).length = w.length := by rw [q2, repl_len1]; simp [mapC]
  have l2 : (Txt.replace (bs w) (Str.ofString "0") (Str.ofString "2")).length + ((Txt.replace (bs w) (Str.ofString "0") (Str.ofString "2")).length + 1) * (Str.ofString "0").length ≤ 16777216 := by
    rw [n1, str_0]; show w.length + (w.length + 1) * 1 ≤ _; omega
  have l3 : (Txt.replace (Txt.replace (bs w) (Str.ofString "0") (Str.ofString "2")) (Str.ofString "1") (Str.ofString "0")).length + ((Txt.replace (Txt.replace (bs w) (Str.ofString "0") (Str.ofString "2")) (Str.ofString "1") (Str.ofString "0")).length + 1) * (Str.ofString "1").length ≤ 16777216 := by
    rw [n2, str_1]; show w.length + (w.length + 1) * 1 ≤ _; omega
  have e2 : semRepl "1" "0" (.str (Txt.replace (bs w) (Str.ofString "0") (Str.ofString "2"))) = some (.fz (.str (Txt.replace (Txt.replace (bs w) (Str.ofString "0") (Str.ofString "2")) (Str.ofString "1") (Str.ofString "0")))) := if_pos l2
  have e3 : semRepl "2" "1" (.str (Txt.replace (Txt.replace (bs w) (Str.ofString "0") (Str.ofString "2")) (Str.ofString "1") (Str.ofString "0"))) = some (.fz (sB (ntW w))) := by
    rw [show sB (ntW w) = .str (bs (ntW w)) from rfl, ← turned_bs]
    exact if_pos l3
  simp only [e1, Option.bind_some, peek_f, e2, e3]
theorem turned_e {w : Wd} (h : w.length ≤ 1000) {i : Nat} {e : Env'} (hi : e[i]? = some (.fz (sB w))) : dUn (semRepl "2" "1") (dUn (semRepl "1" "0") (dUn (semRepl "0" "2") (dVar i))) e = .ok (.fz (sB (ntW w))) e := by
  have hs := turned_sem h
  cases h1 : semRepl "0" "2" (sB w) with
  | none => rw [h1] at hs; cases hs
  | some x1 =>
    have s1 : ∃ p, x1 = .fz p := by
      unfold semRepl at h1
      dsimp only at h1
      split at h1
      · cases h1; exact ⟨_, rfl⟩
      · cases h1
    obtain ⟨p1, rfl⟩ := s1
    rw [h1] at hs
    have hs : (semRepl "1" "0" p1).bind (fun x => (peek x []).bind fun p => semRepl "2" "1" p) = some (.fz (sB (ntW w))) := hs
    cases h2 : semRepl "1" "0" p1 with
    | none => rw [h2] at hs; cases hs
    | some x2 =>
      have s2 : ∃ p, x2 = .fz p := by
        unfold semRepl at h2
        cases p1 <;> dsimp only at h2 <;> try (cases h2; done)
        split at h2
        · cases h2; exact ⟨_, rfl⟩
        · cases h2
      obtain ⟨p2, rfl⟩ := s2
      rw [h2] at hs
      have hs : semRepl "2" "1" p2 = some (.fz (sB (ntW w))) := hs
      simp only [un_e, stl_e, var_e, hi, bh_k, stl_f, peek_f, h1, toVal_s, h2, hs]
/-! ### equality of lists of flat data -/
theorem eqvAll_map {α : Type} [DecidableEq α] {f : α → PyData} (hf : ∀ a b, PyData.eqv (f a) (f b) = decide (a = b)) : ∀ a b : List α, PyData.eqvAll (a.map f) (b.map f) = decide (a = b)
  | [], [] => rfl
  | [], b :: bs => rfl
  | a :: as, [] => rfl
  | a :: as, b :: bs => by
    simp only [List.map_cons, PyData.eqvAll, hf, eqvAll_map hf as bs]
    rw [Bool.eq_iff_iff, Bool.and_eq_true, decide_eq_true_eq, decide_eq_true_eq, decide_eq_true_eq, List.cons.injEq]
theorem eqv_bs (a b : Wd) : PyData.eqv (.str (bs a)) (.str (bs b)) = decide (a = b) := by
  show (bs a == bs b) = _
  rw [Bool.eq_iff_iff, beq_iff_eq, decide_eq_true_eq, bs_iff]
theorem eqv_nat (a b : Nat) : PyData.eqv (.int (a : Nat)) (.int (b : Nat)) = decide (a = b) := by
  show (((a : Nat) : Int) == ((b : Nat) : Int)) = _
  rw [Bool.eq_iff_iff, beq_iff_eq, decide_eq_true_eq]
  omega
theorem okd_bs (ws : List Wd) : ∀ d ∈ ws.map (fun w => PyData.str (bs w)), okD d = true := fun d hd => by
  obtain ⟨w, _, rfl⟩ := List.mem_map.mp hd
  exact bs_ok w
theorem okd_nat (ns : List Nat) : ∀ d ∈ ns.map (fun n => PyData.int (n : Nat)), okD d = true := fun d hd => by
  obtain ⟨w, _, rfl⟩ := List.mem_map.mp hd
  rfl
theorem toDs_nat (ns : List Nat) : toDs (ns.map fun n => PV.int (n : Nat)) = some (ns.map fun n => PyData.int (n : Nat)) := toDs_map fun _ _ => rfl
theorem eqP_tW (a b : List Wd) : eqP (tW a) (tW b) = some (decide (a = b)) := by
  unfold eqP
  simp only [toD, toDs_bs, Option.map_some]
  rw [if_pos ⟨shaped_tup (okd_bs a), shaped_tup (okd_bs b)⟩]
  congr 1
  exact eqvAll_map eqv_bs a b
abbrev tN (ns : List Nat) : PV := .tup (ns.map fun n => PV.int (n : Nat))
abbrev lN (ns : List Nat) : PV := .lst (ns.map fun n => PV.int (n : Nat))
theorem eqP_tN (a b : List Nat) : eqP (tN a) (tN b) = some (decide (a = b)) := by
  unfold eqP
  simp only [toD, toDs_nat, Option.map_some]
  rw [if_pos ⟨shaped_tup (okd_nat a), shaped_tup (okd_nat b)⟩]
  congr 1
  exact eqvAll_map eqv_nat a b
theorem eqP_lN (a b : List Nat) : eqP (lN a) (lN b) = some (decide (a = b)) := by
  unfold eqP
  simp only [toD, toDs_nat, Option.map_some]
  rw [if_pos ⟨shaped_list (okd_nat a), shaped_list (okd_nat b)⟩]
  congr 1
  exact eqvAll_map eqv_nat a b
theorem eq_tW (a b : List Wd) : semEq (tW a) (tW b) = some (.fz (.bl (decide (a = b)))) := by unfold semEq; rw [eqP_tW]; rfl
theorem ne_tW (a b : List Wd) : semNe (tW a) (tW b) = some (.fz (.bl (!decide (a = b)))) := by unfold semNe; rw [eqP_tW]; rfl
theorem ne_tN (a b : List Nat) : semNe (tN a) (tN b) = some (.fz (.bl (!decide (a = b)))) := by unfold semNe; rw [eqP_tN]; rfl
theorem eq_lN (a b : List Nat) : semEq (lN a) (lN b) = some (.fz (.bl (decide (a = b)))) := by unfold semEq; rw [eqP_lN]; rfl
theorem ne_bl (a b : Bool) : semNe (.bl a) (.bl b) = some (.fz (.bl (!decide (a = b)))) := by cases a <;> cases b <;> rfl
end VL

set_option maxRecDepth 100000
set_option maxHeartbeats 2000000
namespace VL
open PySem PySem.Spec L2
open PyProof.Rows hiding St
theorem nuL_len (ps : List PV) : (numL ps).length = ps.length := by simp [numL]
theorem nuL_at {ps : List PV} {i : Nat} {q : PV} (h : (numL ps)[i]? = some q) : ∃ (h : i < ps.length), q = .tup [.int (i : Nat), ps[i]] := by
  unfold numL at h
  rw [List.getElem?_map, List.getElem?_zipIdx] at h
  by_cases hi : i < ps.length
  · rw [List.getElem?_eq_getElem hi] at h
    cases h
    exact ⟨hi, by simp⟩
  · rw [List.getElem?_eq_none (by omega)] at h; cases h
theorem eqP_i (i j : Int) : eqP (.int i) (.int j) = some (decide (i = j)) := by
  unfold eqP
  simp only [toD]
  rw [if_pos ⟨by rfl, by rfl⟩]
  show some (i == j) = _
  congr 1
theorem eq_i (i j : Int) : semEq (.int i) (.int j) = some (.fz (.bl (decide (i = j)))) := by unfold semEq; rw [eqP_i]; rfl
theorem ne_i (i j : Int) : semNe (.int i) (.int j) = some (.fz (.bl (!decide (i = j)))) := by unfold semNe; rw [eqP_i]; rfl
theorem bools_all {α : Type} (l : List α) : boolsP (l.map fun _ => PV.bl true) = some (l.map fun _ => true) := by
  induction l with
  | nil => rfl
  | cons a l ih => simp only [List.map_cons, boolsP, ih, Option.map_some]
theorem all_true {α : Type} (l : List α) : semAll [.lst (l.map fun _ => PV.bl true)] = some (.fz (.bl true)) := by
  show (boolsP _).map _ = _
  rw [bools_all]
  simp only [Option.map_some]
  congr 3
  rw [List.all_eq_true]
  intro x hx
  obtain ⟨_, _, rfl⟩ := List.mem_map.mp hx
  rfl
theorem intsP_map {α : Type} (f : α → Int) (l : List α) : intsP (l.map fun a => PV.int (f a)) = some (l.map f) := by
  induction l with
  | nil => rfl
  | cons a l ih => simp only [List.map_cons, intsP, ih, Option.map_some]
theorem sum_map {α : Type} (f : α → Int) (l : List α) : semSum [.lst (l.map fun a => PV.int (f a))] = some (.fz (.int (l.map f).sum)) := by
  show (intsP _).map _ = _
  rw [intsP_map]; rfl
theorem isi_s {x : Str} : ansB "str" (.str x) = some true := by rfl
theorem isi_ii {i : Int} : ansB "int" (.int i) = some true := by rfl
theorem isi_bi {i : Int} : ansB "bool" (.int i) = some false := by rfl
theorem tru_i {b : Bool} : truthPV (.bl b) = some b := rfl
theorem aMul_i {i j : Int} (h : CMulX i j) : aMul i j = some (i * j) := if_pos h
theorem rng_len (k : Nat) : (rngP 0 k).length = k := by simp [rngP]
theorem rng_at {k i : Nat} {p : PV} (h : (rngP 0 k)[i]? = some p) : p = .int (i : Nat) ∧ i < k := by
  unfold rngP at h
  rw [List.getElem?_map] at h
  by_cases hi : i < k
  · rw [List.getElem?_range hi] at h
    cases h
    exact ⟨by simp, hi⟩
  · rw [List.getElem?_eq_none (by simpa using hi)] at h; cases h
theorem atI_map {α : Type} {f : α → PV} {l : List α} {i : Nat} (h : i < l.length) : atI (l.map f) ((i : Nat) : Int) = some (f l[i]) := by
  have := at_i (l := l.map f) (n := i) (by rw [List.length_map]; exact h)
  rw [this, List.getElem_map]
theorem outS_l {s : Sl} : outS s (lendS s) = s := by cases s <;> exact id rfl
theorem max_t {xs : List PV} {n : Int} {ns : List Int} (h : intsP xs = some (n :: ns)) : semMax [.tup xs] = some (.fz (.int (maxL (n :: ns)))) := by
  simp only [semMax, h]
theorem sum_cast {α : Type} (g : α → Nat) : ∀ l : List α, (l.map fun a => ((g a : Nat) : Int)).sum = (((l.map g).sum : Nat) : Int)
  | [] => rfl
  | a :: l => by simp only [List.map_cons, List.sum_cons, sum_cast g l]; omega
theorem map_at {α : Type} {f : α → PV} {l : List α} {i : Nat} {q : PV} (h : (l.map f)[i]? = some q) : ∃ (hi : i < l.length), q = f l[i] := by
  rw [List.getElem?_map] at h
  by_cases hi : i < l.length
  · rw [List.getElem?_eq_getElem hi] at h
    cases h
    exact ⟨hi, rfl⟩
  · rw [List.getElem?_eq_none (by omega)] at h; cases h
theorem disp_n {ks : List Key} {vs : List PV} {e : Env'} : dDisp [] ks vs e = .ok (.new (.dK ks vs)) e := id rfl
theorem disp_c {dk dv : Env' → Res Val} {r : List ((Env' → Res Val) × (Env' → Res Val))} {ks : List Key} {vs : List PV} {e : Env'} : dDisp ((dk, dv) :: r) ks vs e = match subV dk e with
    | .ok kp e1 => (match keyP kp, subV dv e1 with
      | some k, .ok p e2 => dDisp r (putP ks vs k p).1 (putP ks vs k p).2 e2
      | _, _ => .bad)
    | _ => .bad := by
  (conv => lhs; unfold dDisp) <;> rfl
theorem subV_e {d : Env' → Res Val} {e : Env'} : subV d e = match d (blkE [] e) with
  | .ok x e1 => (match frz x e1 with
    | .ok p e2 => .ok p (outE [] e e2)
    | _ => .bad)
  | _ => .bad := by
  unfold subV
  rfl
theorem put_new {ks : List Key} {vs : List PV} {k : Key} {p : PV} (h : k ∉ ks) : putP ks vs k p = (ks ++ [k], vs ++ [p]) := if_neg h
end VL

set_option maxRecDepth 100000
set_option maxHeartbeats 2000000
namespace K37
open PySem PySem.Spec L2 VL
open PyProof.Rows hiding St
/-- the pen -/
def pen (cs : List Int) (o l : Int) : PV := .dK [.inr "cells", .inr "next", .inr "left"] [.lst (cs.map .int), .int o, .int l]
theorem look_c {a b c : PV} : look [(.inr "cells" : Key), .inr "next", .inr "left"] [a, b, c] (.inr "cells") = some a := by rfl
theorem look_o {a b c : PV} : look [(.inr "cells" : Key), .inr "next", .inr "left"] [a, b, c] (.inr "next") = some b := by rfl
theorem look_f {a b c : PV} : look [(.inr "cells" : Key), .inr "next", .inr "left"] [a, b, c] (.inr "left") = some c := by rfl
theorem put_o {a b c d : PV} : putP [(.inr "cells" : Key), .inr "next", .inr "left"] [a, b, c] (.inr "next") d = ([.inr "cells", .inr "next", .inr "left"], [a, d, c]) := by rfl
theorem put_f {a b c d : PV} : putP [(.inr "cells" : Key), .inr "next", .inr "left"] [a, b, c] (.inr "left") d = ([.inr "cells", .inr "next", .inr "left"], [a, b, d]) := by rfl
theorem draw_ok {cs : List Int} {o l m : Int} (hm : 0 < m) (hm2 : m < 1000000000000000000000000000000) (ho : 0 ≤ o) (ho2 : o < 1000000000000000000) : ∃ r o' l', F_law_draw [pen cs o l, .int m] = .ok (.fz (.int r)) [pen cs o' l'] ∧ 0 ≤ r ∧ r < m ∧ 0 ≤ o' ∧ o' ≤ o + 1 := by
  have hv : ∀ x : Int, CDivW x m := fun x => cdiv hm (small (by omega) (by omega))
  have md : ∀ x : Int, 0 ≤ x % m ∧ x % m < m := fun x => ⟨Int.emod_nonneg _ (by omega), Int.emod_lt_of_pos _ hm⟩
  have sm : ∀ {x y : Int}, -10000000000000000000000000000000000000000 < x → x < 10000000000000000000000000000000000000000 → -10000000000000000000000000000000000000000 < y → y < 10000000000000000000000000000000000000000 → CMulX x y := fun h1 h2 h3 h4 => cmul (small h1 h2) (small h3 h4)
  by_cases hl : 0 < l
  · have hd : decide (0 < l) = true := decide_eq_true hl
    refine ⟨l % m, o, l / m, ?_, (md l).1, (md l).2, ho, by omega⟩
    unfold F_law_draw d_law_draw pen
    simp only [bind_k, bh_k, seqK_n, seqK_r, seq_e, expr_e, ret_e, retV_f, retV_n, retV_b, ifK_t, ifK_f, ifS_e, if_e, set_e, store_f, store_n, store_b, var_e, stl_e, stl_f, stl_n, stl_b, peek_f, peek_n, peek_b, frz_f, frz_n, frz_b, bin_e, op2_d, toVal_s, asB_e, chain_e, un_e, not_e, notT_e, andT_e, orT_e, args_n, args_c, frzs_n, frzs_c, lst_e, tup_e, call_e, peeks_n, peeks_c, opN_e, sl_e, part_n, part_s, meth_e, for_e, asgT_e, uNm_e, uTup_e, uCons_e, uNil_e, put_e, putS_e, isOw_e, mut_e, kdAt_e, mutK_e, items_e, enum_e, rng1_e, rng2_e, lc_e, dc_e, par_e, parL_n, parL_f, parL_t, unb_f, unb_n, unb_b, isNew_f, isNew_n, storeL_n, storeL_f, storeL_w, fn_e, mk_e, callK_e, frK_f, frK_n, mkK_e, mkF_e, prep_f, prep_t, prep_n, lentI_f, lentI_t, lentI_n, putOuts_n, putOuts_c, isi_e, fld_e, fldS_e, tru_e, bool_e, aug_e, sortLn_e, callFn_e, finF_x, finF_f, finF_n, outE_z, outZ_c, outZ_n, outS_w, outS_f, outS_o, lend_w, lend_f, lend_n, blk_e, wipe_n, wipe_c, free_e, dtO_n, dtO_s, entry_e, entryE_t, entryE_f, entryE_n, repl_z, outsAt_n, outsAt_f, outsAt_t, List.getElem?_cons_zero, List.getElem?_cons_succ, List.set_cons_zero, List.set_cons_succ, List.map_nil, List.map_cons, List.nil_append, List.cons_append, List.nodup_cons, List.nodup_nil, List.not_mem_nil, List.mem_cons, not_false_eq_true, and_self, and_true, true_and, or_false, false_or, if_true, reduceIte, Bool.false_eq_true, Option.bind_some, Option.map_some, List.length_cons, List.length_nil, Option.some.injEq, kd, Option.map_none, Option.bind_none, reduceCtorEq, Bool.not_true, Bool.not_false, decide_true, decide_false, Nat.reduceAdd, Nat.reduceLT, Nat.reduceLeDiff, Nat.zero_add, Nat.reduceEqDiff, List.replicate, Nat.reduceSub, List.all_cons, List.all_nil, Bool.and_true, Bool.and_self, List.append_nil, lB, tW, List.map_append, entry, entryE, List.replicate, outsAt, ix_k, key_s, look_c, look_o, look_f, put_o, put_f, gt_i, hd, mod_i hm, div_i (hv _), int_i, put_k, big_v]
  · have hd : decide (0 < l) = false := decide_eq_false hl
    by_cases hc : (((cs.map PV.int).length : Nat) : Int) = 0
    · have he : decide ((((cs.map PV.int).length : Nat) : Int) = 0) = true := decide_eq_true hc
      have q1 : CMulX 7 o := sm (by omega) (by omega) (by omega) (by omega)
      refine ⟨(7 * o + 3) % m, o + 1, l, ?_, (md _).1, (md _).2, by omega, by omega⟩
      unfold F_law_draw d_law_draw pen
      simp only [bind_k, bh_k, seqK_n, seqK_r, seq_e, expr_e, ret_e, retV_f, retV_n, retV_b, ifK_t, ifK_f, ifS_e, if_e, set_e, store_f, store_n, store_b, var_e, stl_e, stl_f, stl_n, stl_b, peek_f, peek_n, peek_b, frz_f, frz_n, frz_b, bin_e, op2_d, toVal_s, asB_e, chain_e, un_e, not_e, notT_e, andT_e, orT_e, args_n, args_c, frzs_n, frzs_c, lst_e, tup_e, call_e, peeks_n, peeks_c, opN_e, sl_e, part_n, part_s, meth_e, for_e, asgT_e, uNm_e, uTup_e, uCons_e, uNil_e, put_e, putS_e, isOw_e, mut_e, kdAt_e, mutK_e, items_e, enum_e, rng1_e, rng2_e, lc_e, dc_e, par_e, parL_n, parL_f, parL_t, unb_f, unb_n, unb_b, isNew_f, isNew_n, storeL_n, storeL_f, storeL_w, fn_e, mk_e, callK_e, frK_f, frK_n, mkK_e, mkF_e, prep_f, prep_t, prep_n, lentI_f, lentI_t, lentI_n, putOuts_n, putOuts_c, isi_e, fld_e, fldS_e, tru_e, bool_e, aug_e, sortLn_e, callFn_e, finF_x, finF_f, finF_n, outE_z, outZ_c, outZ_n, outS_w, outS_f, outS_o, lend_w, lend_f, lend_n, blk_e, wipe_n, wipe_c, free_e, dtO_n, dtO_s, entry_e, entryE_t, entryE_f, entryE_n, repl_z, outsAt_n, outsAt_f, outsAt_t, List.getElem?_cons_zero, List.getElem?_cons_succ, List.set_cons_zero, List.set_cons_succ, List.map_nil, List.map_cons, List.nil_append, List.cons_append, List.nodup_cons, List.nodup_nil, List.not_mem_nil, List.mem_cons, not_false_eq_true, and_self, and_true, true_and, or_false, false_or, if_true, reduceIte, Bool.false_eq_true, Option.bind_some, Option.map_some, List.length_cons, List.length_nil, Option.some.injEq, kd, Option.map_none, Option.bind_none, reduceCtorEq, Bool.not_true, Bool.not_false, decide_true, decide_false, Nat.reduceAdd, Nat.reduceLT, Nat.reduceLeDiff, Nat.zero_add, Nat.reduceEqDiff, List.replicate, Nat.reduceSub, List.all_cons, List.all_nil, Bool.and_true, Bool.and_self, List.append_nil, lB, tW, List.map_append, entry, entryE, List.replicate, outsAt, ix_k, key_s, look_c, look_o, look_f, put_o, put_f, gt_i, hd, mod_i hm, div_i (hv _), int_i, put_k, big_v, add_i, len_l, eq_i, he, mul_i q1]
    · have he : decide ((((cs.map PV.int).length : Nat) : Int) = 0) = false := decide_eq_false hc
      have h0 : (0 : Int) < ((cs.map PV.int).length : Nat) := by omega
      obtain ⟨hx, hat⟩ := at_z (l := cs.map PV.int) (i := o % ((cs.map PV.int).length : Nat)) (Int.emod_nonneg _ (by omega)) (Int.emod_lt_of_pos _ h0)
      rw [List.getElem_map] at hat
      generalize cs[(o % ((cs.map PV.int).length : Nat)).toNat]'(by simpa using hx) = c at hat
      by_cases hb : o < ((cs.map PV.int).length : Nat) ∧ (1000000000000000000 : Int) ≤ (c.natAbs : Int)
      · have hb1 : decide (o < ((cs.map PV.int).length : Nat)) = true := decide_eq_true hb.1
        have hb2 : decide ((1000000000000000000 : Int) ≤ (c.natAbs : Int)) = true := decide_eq_true hb.2
        refine ⟨((c.natAbs : Int) - 1000000000000000000) % m, o + 1, ((c.natAbs : Int) - 1000000000000000000) / m, ?_, (md _).1, (md _).2, by omega, by omega⟩
        unfold F_law_draw d_law_draw pen
        simp only [bind_k, bh_k, seqK_n, seqK_r, seq_e, expr_e, ret_e, retV_f, retV_n, retV_b, ifK_t, ifK_f, ifS_e, if_e, set_e, store_f, store_n, store_b, var_e, stl_e, stl_f, stl_n, stl_b, peek_f, peek_n, peek_b, frz_f, frz_n, frz_b, bin_e, op2_d, toVal_s, asB_e, chain_e, un_e, not_e, notT_e, andT_e, orT_e, args_n, args_c, frzs_n, frzs_c, lst_e, tup_e, call_e, peeks_n, peeks_c, opN_e, sl_e, part_n, part_s, meth_e, for_e, asgT_e, uNm_e, uTup_e, uCons_e, uNil_e, put_e, putS_e, isOw_e, mut_e, kdAt_e, mutK_e, items_e, enum_e, rng1_e, rng2_e, lc_e, dc_e, par_e, parL_n, parL_f, parL_t, unb_f, unb_n, unb_b, isNew_f, isNew_n, storeL_n, storeL_f, storeL_w, fn_e, mk_e, callK_e, frK_f, frK_n, mkK_e, mkF_e, prep_f, prep_t, prep_n, lentI_f, lentI_t, lentI_n, putOuts_n, putOuts_c, isi_e, fld_e, fldS_e, tru_e, bool_e, aug_e, sortLn_e, callFn_e, finF_x, finF_f, finF_n, outE_z, outZ_c, outZ_n, outS_w, outS_f, outS_o, lend_w, lend_f, lend_n, blk_e, wipe_n, wipe_c, free_e, dtO_n, dtO_s, entry_e, entryE_t, entryE_f, entryE_n, repl_z, outsAt_n, outsAt_f, outsAt_t, List.getElem?_cons_zero, List.getElem?_cons_succ, List.set_cons_zero, List.set_cons_succ, List.map_nil, List.map_cons, List.nil_append, List.cons_append, List.nodup_cons, List.nodup_nil, List.not_mem_nil, List.mem_cons, not_false_eq_true, and_self, and_true, true_and, or_false, false_or, if_true, reduceIte, Bool.false_eq_true, Option.bind_some, Option.map_some, List.length_cons, List.length_nil, Option.some.injEq, kd, Option.map_none, Option.bind_none, reduceCtorEq, Bool.not_true, Bool.not_false, decide_true, decide_false, Nat.reduceAdd, Nat.reduceLT, Nat.reduceLeDiff, Nat.zero_add, Nat.reduceEqDiff, List.replicate, Nat.reduceSub, List.all_cons, List.all_nil, Bool.and_true, Bool.and_self, List.append_nil, lB, tW, List.map_append, entry, entryE, List.replicate, outsAt, ix_k, key_s, look_c, look_o, look_f, put_o, put_f, gt_i, hd, mod_i hm, mod_i h0, div_i (hv _), int_i, put_k, big_v, add_i, sub_i, eq_i, he, len_l, ix_l, hat, lt_i, ge_i, abs_i, mod_pow, hb1, hb2]
      · have q2 : CMulX (c % 4294967197) 52711 := sm (by omega) (by omega) (by omega) (by omega)
        have q3 : CMulX 20353 o := sm (by omega) (by omega) (by omega) (by omega)
        have q4 : CMulX (20353 * o) o := sm (by omega) (by omega) (by omega) (by omega)
        have q5 : CMulX 1531 o := sm (by omega) (by omega) (by omega) (by omega)
        have q6 : CMulX 23 o := sm (by omega) (by omega) (by omega) (by omega)
        obtain ⟨x0, hx0⟩ : ∃ x0, x0 = c % 4294967197 * 52711 + 20353 * o * o := ⟨_, rfl⟩
        obtain ⟨x1, hx1⟩ : ∃ x1, x1 = (x0 + 1531 * o + 11) % 4294967189 := ⟨_, rfl⟩
        have b1 : 0 ≤ x1 ∧ x1 < 4294967189 := by rw [hx1]; exact ⟨Int.emod_nonneg _ (by omega), Int.emod_lt_of_pos _ (by omega)⟩
        have q7 : CMulX x1 x1 := sm (by omega) (by omega) (by omega) (by omega)
        have q8 : CMulX 68903 x1 := sm (by omega) (by omega) (by omega) (by omega)
        obtain ⟨x2, hx2⟩ : ∃ x2, x2 = (x1 * x1 + 68903 * x1 + 23 * o + 7) % 4294967161 := ⟨_, rfl⟩
        have b2 : 0 ≤ x2 ∧ x2 < 4294967161 := by rw [hx2]; exact ⟨Int.emod_nonneg _ (by omega), Int.emod_lt_of_pos _ (by omega)⟩
        have q9 : CMulX x2 (x2 + 57037) := sm (by omega) (by omega) (by omega) (by omega)
        have d64 : ∀ x : Int, CDivW x 64 := fun x => cdiv (by omega) (small (by omega) (by omega))
        have m1 : (0 : Int) < 4294967197 := by omega
        have m2 : (0 : Int) < 4294967189 := by omega
        have m3 : (0 : Int) < 4294967161 := by omega
        have m4 : (0 : Int) < 4294967143 := by omega
        refine ⟨(x2 * (x2 + 57037)) % 4294967143 / 64 % m, o + 1, l, ?_, (md _).1, (md _).2, by omega, by omega⟩
        by_cases hb1 : o < ((cs.map PV.int).length : Nat)
        · have hb2 : decide ((1000000000000000000 : Int) ≤ (c.natAbs : Int)) = false := decide_eq_false fun z => hb ⟨hb1, z⟩
          have hb1 : decide (o < ((cs.map PV.int).length : Nat)) = true := decide_eq_true hb1
          unfold F_law_draw d_law_draw pen
          simp only [bind_k, bh_k, seqK_n, seqK_r, seq_e, expr_e, ret_e, retV_f, retV_n, retV_b, ifK_t, ifK_f, ifS_e, if_e, set_e, store_f, store_n, store_b, var_e, stl_e, stl_f, stl_n, stl_b, peek_f, peek_n, peek_b, frz_f, frz_n, frz_b, bin_e, op2_d, toVal_s, asB_e, chain_e, un_e, not_e, notT_e, andT_e, orT_e, args_n, args_c, frzs_n, frzs_c, lst_e, tup_e, call_e, peeks_n, peeks_c, opN_e, sl_e, part_n, part_s, meth_e, for_e, asgT_e, uNm_e, uTup_e, uCons_e, uNil_e, put_e, putS_e, isOw_e, mut_e, kdAt_e, mutK_e, items_e, enum_e, rng1_e, rng2_e, lc_e, dc_e, par_e, parL_n, parL_f, parL_t, unb_f, unb_n, unb_b, isNew_f, isNew_n, storeL_n, storeL_f, storeL_w, fn_e, mk_e, callK_e, frK_f, frK_n, mkK_e, mkF_e, prep_f, prep_t, prep_n, lentI_f, lentI_t, lentI_n, putOuts_n, putOuts_c, isi_e, fld_e, fldS_e, tru_e, bool_e, aug_e, sortLn_e, callFn_e, finF_x, finF_f, finF_n, outE_z, outZ_c, outZ_n, outS_w, outS_f, outS_o, lend_w, lend_f, lend_n, blk_e, wipe_n, wipe_c, free_e, dtO_n, dtO_s, entry_e, entryE_t, entryE_f, entryE_n, repl_z, outsAt_n, outsAt_f, outsAt_t, List.getElem?_cons_zero, List.getElem?_cons_succ, List.set_cons_zero, List.set_cons_succ, List.map_nil, List.map_cons, List.nil_append, List.cons_append, List.nodup_cons, List.nodup_nil, List.not_mem_nil, List.mem_cons, not_false_eq_true, and_self, and_true, true_and, or_false, false_or, if_true, reduceIte, Bool.false_eq_true, Option.bind_some, Option.map_some, List.length_cons, List.length_nil, Option.some.injEq, kd, Option.map_none, Option.bind_none, reduceCtorEq, Bool.not_true, Bool.not_false, decide_true, decide_false, Nat.reduceAdd, Nat.reduceLT, Nat.reduceLeDiff, Nat.zero_add, Nat.reduceEqDiff, List.replicate, Nat.reduceSub, List.all_cons, List.all_nil, Bool.and_true, Bool.and_self, List.append_nil, lB, tW, List.map_append, entry, entryE, List.replicate, outsAt, ix_k, key_s, look_c, look_o, look_f, put_o, put_f, gt_i, hd, mod_i hm, mod_i h0, div_i (hv _), int_i, put_k, big_v, add_i, sub_i, eq_i, he, len_l, ix_l, hat, lt_i, ge_i, abs_i, mod_pow, hb1, hb2, mul_i q2, mul_i q3, mul_i q4, mul_i q5, mul_i q6, mod_i m1, mod_i m2, mod_i m3, mod_i m4, ← hx0, ← hx1, mul_i q7, mul_i q8, ← hx2, mul_i q9, div_i (d64 _)]
        · have hb1 : decide (o < ((cs.map PV.int).length : Nat)) = false := decide_eq_false hb1
          unfold F_law_draw d_law_draw pen
          simp only [bind_k, bh_k, seqK_n, seqK_r, seq_e, expr_e, ret_e, retV_f, retV_n, retV_b, ifK_t, ifK_f, ifS_e, if_e, set_e, store_f, store_n, store_b, var_e, stl_e, stl_f, stl_n, stl_b, peek_f, peek_n, peek_b, frz_f, frz_n, frz_b, bin_e, op2_d, toVal_s, asB_e, chain_e, un_e, not_e, notT_e, andT_e, orT_e, args_n, args_c, frzs_n, frzs_c, lst_e, tup_e, call_e, peeks_n, peeks_c, opN_e, sl_e, part_n, part_s, meth_e, for_e, asgT_e, uNm_e, uTup_e, uCons_e, uNil_e, put_e, putS_e, isOw_e, mut_e, kdAt_e, mutK_e, items_e, enum_e, rng1_e, rng2_e, lc_e, dc_e, par_e, parL_n, parL_f, parL_t, unb_f, unb_n, unb_b, isNew_f, isNew_n, storeL_n, storeL_f, storeL_w, fn_e, mk_e, callK_e, frK_f, frK_n, mkK_e, mkF_e, prep_f, prep_t, prep_n, lentI_f, lentI_t, lentI_n, putOuts_n, putOuts_c, isi_e, fld_e, fldS_e, tru_e, bool_e, aug_e, sortLn_e, callFn_e, finF_x, finF_f, finF_n, outE_z, outZ_c, outZ_n, outS_w, outS_f, outS_o, lend_w, lend_f, lend_n, blk_e, wipe_n, wipe_c, free_e, dtO_n, dtO_s, entry_e, entryE_t, entryE_f, entryE_n, repl_z, outsAt_n, outsAt_f, outsAt_t, List.getElem?_cons_zero, List.getElem?_cons_succ, List.set_cons_zero, List.set_cons_succ, List.map_nil, List.map_cons, List.nil_append, List.cons_append, List.nodup_cons, List.nodup_nil, List.not_mem_nil, List.mem_cons, not_false_eq_true, and_self, and_true, true_and, or_false, false_or, if_true, reduceIte, Bool.false_eq_true, Option.bind_some, Option.map_some, List.length_cons, List.length_nil, Option.some.injEq, kd, Option.map_none, Option.bind_none, reduceCtorEq, Bool.not_true, Bool.not_false, decide_true, decide_false, Nat.reduceAdd, Nat.reduceLT, Nat.reduceLeDiff, Nat.zero_add, Nat.reduceEqDiff, List.replicate, Nat.reduceSub, List.all_cons, List.all_nil, Bool.and_true, Bool.and_self, List.append_nil, lB, tW, List.map_append, entry, entryE, List.replicate, outsAt, ix_k, key_s, look_c, look_o, look_f, put_o, put_f, gt_i, hd, mod_i hm, mod_i h0, div_i (hv _), int_i, put_k, big_v, add_i, sub_i, eq_i, he, len_l, ix_l, hat, lt_i, ge_i, abs_i, mod_pow, hb1, mul_i q2, mul_i q3, mul_i q4, mul_i q5, mul_i q6, mod_i m1, mod_i m2, mod_i m3, mod_i m4, ← hx0, ← hx1, mul_i q7, mul_i q8, ← hx2, mul_i q9, div_i (d64 _)]
/-- a pen of at most n openings -/
def IsPen (n : Int) (p : PV) : Prop := ∃ cs o l, p = pen cs o l ∧ 0 ≤ o ∧ o ≤ n
theorem IsPen.mono {n m : Int} {p : PV} (h : IsPen n p) (l : n ≤ m) : IsPen m p := let ⟨cs, o, l', e, h0, h1⟩ := h; ⟨cs, o, l', e, h0, by omega⟩
theorem drawP {n m : Int} {p : PV} (h : IsPen n p) (hn : n < 1000000000000000000) (hm : 0 < m) (hm2 : m < 1000000000000000000000000000000) : ∃ r p', F_law_draw [p, .int m] = .ok (.fz (.int r)) [p'] ∧ 0 ≤ r ∧ r < m ∧ IsPen (n + 1) p' := by
  obtain ⟨cs, o, l, rfl, h0, h1⟩ := h
  obtain ⟨r, o', l', e, a, b, c, d⟩ := draw_ok (cs := cs) (l := l) hm hm2 h0 (by omega)
  exact ⟨r, _, e, a, b, cs, o', l', rfl, c, by omega⟩
theorem pick_ok {n : Int} {p : PV} {xs : List PV} (h : IsPen n p) (hn : n < 1000000000000000000) (hx : 0 < xs.length) (hl : xs.length < 16777216) : ∃ (i : Nat) (hi : i < xs.length) (p' : PV), F_law_pick [p, .lst xs] = .ok (.fz xs[i]) [p'] ∧ IsPen (n + 1) p' := by
  obtain ⟨r, p', e, h0, h1, hp⟩ := drawP (m := (xs.length : Nat)) h hn (by omega) (by omega)
  obtain ⟨hr, hat⟩ := at_z (l := xs) h0 h1
  refine ⟨r.toNat, hr, p', ?_, hp⟩
  unfold F_law_pick d_law_pick
  simp only [bind_k, bh_k, seqK_n, seqK_r, seq_e, expr_e, ret_e, retV_f, retV_n, retV_b, ifK_t, ifK_f, ifS_e, if_e, set_e, store_f, store_n, store_b, var_e, stl_e, stl_f, stl_n, stl_b, peek_f, peek_n, peek_b, frz_f, frz_n, frz_b, bin_e, op2_d, toVal_s, asB_e, chain_e, un_e, not_e, notT_e, andT_e, orT_e, args_n, args_c, frzs_n, frzs_c, lst_e, tup_e, call_e, peeks_n, peeks_c, opN_e, sl_e, part_n, part_s, meth_e, for_e, asgT_e, uNm_e, uTup_e, uCons_e, uNil_e, put_e, putS_e, isOw_e, mut_e, kdAt_e, mutK_e, items_e, enum_e, rng1_e, rng2_e, lc_e, dc_e, par_e, parL_n, parL_f, parL_t, unb_f, unb_n, unb_b, isNew_f, isNew_n, storeL_n, storeL_f, storeL_w, fn_e, mk_e, callK_e, frK_f, frK_n, mkK_e, mkF_e, prep_f, prep_t, prep_n, lentI_f, lentI_t, lentI_n, putOuts_n, putOuts_c, isi_e, fld_e, fldS_e, tru_e, bool_e, aug_e, sortLn_e, callFn_e, finF_x, finF_f, finF_n, outE_z, outZ_c, outZ_n, outS_w, outS_f, outS_o, lend_w, lend_f, lend_n, blk_e, wipe_n, wipe_c, free_e, dtO_n, dtO_s, entry_e, entryE_t, entryE_f, entryE_n, repl_z, outsAt_n, outsAt_f, outsAt_t, List.getElem?_cons_zero, List.getElem?_cons_succ, List.set_cons_zero, List.set_cons_succ, List.map_nil, List.map_cons, List.nil_append, List.cons_append, List.nodup_cons, List.nodup_nil, List.not_mem_nil, List.mem_cons, not_false_eq_true, and_self, and_true, true_and, or_false, false_or, if_true, reduceIte, Bool.false_eq_true, Option.bind_some, Option.map_some, List.length_cons, List.length_nil, Option.some.injEq, kd, Option.map_none, Option.bind_none, reduceCtorEq, Bool.not_true, Bool.not_false, decide_true, decide_false, Nat.reduceAdd, Nat.reduceLT, Nat.reduceLeDiff, Nat.zero_add, Nat.reduceEqDiff, List.replicate, Nat.reduceSub, List.all_cons, List.all_nil, Bool.and_true, Bool.and_self, List.append_nil, lB, tW, List.map_append, len_l, e, ix_l, hat]
theorem pen_ok (ns : List Int) : ∃ p, F_law_pen_of [.scr ns] = .ok (.new p) [] ∧ IsPen 0 p := by
  refine ⟨pen (cutL ns none (some 63)) 0 0, ?_, _, _, _, rfl, by omega, by omega⟩
  have p1 : ∀ p : PV, putP ([] : List Key) [] (.inr "cells") p = ([.inr "cells"], [p]) := fun p => rfl
  have p2 : ∀ a p : PV, putP ([.inr "cells"] : List Key) [a] (.inr "next") p = ([.inr "cells", .inr "next"], [a, p]) := fun a p => rfl
  have p3 : ∀ a b p : PV, putP ([.inr "cells", .inr "next"] : List Key) [a, b] (.inr "left") p = ([.inr "cells", .inr "next", .inr "left"], [a, b, p]) := fun a b p => rfl
  unfold F_law_pen_of d_law_pen_of pen
  simp only [bind_k, bh_k, seqK_n, seqK_r, seq_e, expr_e, ret_e, retV_f, retV_n, retV_b, ifK_t, ifK_f, ifS_e, if_e, set_e, store_f, store_n, store_b, var_e, stl_e, stl_f, stl_n, stl_b, peek_f, peek_n, peek_b, frz_f, frz_n, frz_b, bin_e, op2_d, toVal_s, asB_e, chain_e, un_e, not_e, notT_e, andT_e, orT_e, args_n, args_c, frzs_n, frzs_c, lst_e, tup_e, call_e, peeks_n, peeks_c, opN_e, sl_e, part_n, part_s, meth_e, for_e, asgT_e, uNm_e, uTup_e, uCons_e, uNil_e, put_e, putS_e, isOw_e, mut_e, kdAt_e, mutK_e, items_e, enum_e, rng1_e, rng2_e, lc_e, dc_e, par_e, parL_n, parL_f, parL_t, unb_f, unb_n, unb_b, isNew_f, isNew_n, storeL_n, storeL_f, storeL_w, fn_e, mk_e, callK_e, frK_f, frK_n, mkK_e, mkF_e, prep_f, prep_t, prep_n, lentI_f, lentI_t, lentI_n, putOuts_n, putOuts_c, isi_e, fld_e, fldS_e, tru_e, bool_e, aug_e, sortLn_e, callFn_e, finF_x, finF_f, finF_n, outE_z, outZ_c, outZ_n, outS_w, outS_f, outS_o, lend_w, lend_f, lend_n, blk_e, wipe_n, wipe_c, free_e, dtO_n, dtO_s, entry_e, entryE_t, entryE_f, entryE_n, repl_z, outsAt_n, outsAt_f, outsAt_t, List.getElem?_cons_zero, List.getElem?_cons_succ, List.set_cons_zero, List.set_cons_succ, List.map_nil, List.map_cons, List.nil_append, List.cons_append, List.nodup_cons, List.nodup_nil, List.not_mem_nil, List.mem_cons, not_false_eq_true, and_self, and_true, true_and, or_false, false_or, if_true, reduceIte, Bool.false_eq_true, Option.bind_some, Option.map_some, List.length_cons, List.length_nil, Option.some.injEq, kd, Option.map_none, Option.bind_none, reduceCtorEq, Bool.not_true, Bool.not_false, decide_true, decide_false, Nat.reduceAdd, Nat.reduceLT, Nat.reduceLeDiff, Nat.zero_add, Nat.reduceEqDiff, List.replicate, Nat.reduceSub, List.all_cons, List.all_nil, Bool.and_true, Bool.and_self, List.append_nil, lB, tW, List.map_append, disp_c, disp_n, subV_e, key_s, sl_r, list_l, p1, p2, p3]
end K37

set_option maxRecDepth 100000
set_option maxHeartbeats 2000000
namespace VL
open PySem PySem.Spec L2
open PyProof.Rows hiding St
theorem ixN_at {n : Nat} {i : Nat} (h : i < n) : ixN n (i : Nat) = some i := by
  unfold ixN
  rw [if_pos (by omega), if_pos (by omega)]
  simp
theorem put_l {xs : List PV} {i : Nat} {v : PV} (h : i < xs.length) : semPut (.lst xs) (.int (i : Nat)) v = some (.lst (xs.set i v)) := by
  show (ixN xs.length (i : Nat)).map _ = _
  rw [ixN_at h]; rfl
theorem str_b (n : Nat) : semStr [.int ((n : Nat) % 2 : Int)] = some (.fz (sB [n % 2 == 1])) := by
  have h : n % 2 = 0 ∨ n % 2 = 1 := by omega
  have e : ((n : Nat) % 2 : Int) = ((n % 2 : Nat) : Int) := by omega
  rw [e]
  have e0 : semStr [PV.int ((0 : Nat) : Int)] = some (.fz (.str (Str.ofString (toString (0 : Int))))) := by
    unfold semStr
    exact if_pos (by decide)
  have e1 : semStr [PV.int ((1 : Nat) : Int)] = some (.fz (.str (Str.ofString (toString (1 : Int))))) := by
    unfold semStr
    exact if_pos (by decide)
  rcases h with h | h <;> rw [h]
  · rw [e0]
    congr 3
  · rw [e1]
    congr 3
theorem div_p (n i : Nat) : (((n / 2 ^ i : Nat) : Int)) / 2 = ((n / 2 ^ (i + 1) : Nat) : Int) := by
  rw [Nat.pow_succ, ← Nat.div_div_eq_div_mul]
  omega
theorem sum_set (f : Nat → Nat) : ∀ (ls : List Nat) (i x : Nat) (h : i < ls.length), ((ls.set i x).map f).sum + f ls[i] = (ls.map f).sum + f x
  | a :: ls, 0, x, _ => by simp only [List.set_cons_zero, List.map_cons, List.sum_cons, List.getElem_cons_zero]; omega
  | a :: ls, i + 1, x, h => by
    have := sum_set f ls i x (by simpa using h)
    simp only [List.set_cons_succ, List.map_cons, List.sum_cons, List.getElem_cons_succ]
    omega
theorem GL.start : GL [1, 1] := ⟨by simp, by simp, by decide⟩
theorem GL.step {ls : List Nat} (g : GL ls) {i : Nat} (h : i < ls.length) (hl : ls.length ≤ 25) : GL (ls.set i (ls[i] + 1) ++ [ls[i] + 1]) := by
  have hm := List.getElem_mem h
  have h1 := g.le _ hm
  have mem : ∀ l ∈ ls.set i (ls[i] + 1) ++ [ls[i] + 1], l ∈ ls ∨ l = ls[i] + 1 := by
    intro l hl
    rcases List.mem_append.mp hl with z | z
    · exact List.mem_or_eq_of_mem_set z
    · exact .inr (by simpa using z)
  refine ⟨fun l hl => ?_, fun l hl => ?_, ?_⟩
  · rcases mem l hl with z | z
    · exact g.pos l z
    · omega
  · rw [List.length_append, List.length_set]
    rcases mem l hl with z | z
    · have := g.le l z
      simp only [List.length_cons, List.length_nil]; omega
    · simp only [List.length_cons, List.length_nil]; omega
  · have k := g.kraft
    have s := sum_set (fun l => 2 ^ (25 - l)) ls i (ls[i] + 1) h
    have e : 2 ^ (25 - ls[i]) = 2 ^ (25 - (ls[i] + 1)) + 2 ^ (25 - (ls[i] + 1)) := by
      have : 25 - ls[i] = (25 - (ls[i] + 1)) + 1 := by omega
      rw [this, Nat.pow_succ]; omega
    rw [List.map_append, List.sum_append]
    simp only [List.map_cons, List.map_nil, List.sum_cons, List.sum_nil]
    omega
theorem lN_set (ls : List Nat) (i x : Nat) : (ls.map fun n => PV.int (n : Nat)).set i (.int (x : Nat)) = (ls.set i x).map fun n => PV.int (n : Nat) := by
  rw [List.map_set]
end VL
namespace K37
open PySem PySem.Spec L2 VL
open PyProof.Rows hiding St
theorem lens_ok {n : Int} {m : Nat} {p : PV} (h : IsPen n p) (hn : n + 100 < 1000000000000000000) (hm : 2 ≤ m) (hm2 : m ≤ 26) : ∃ ls p', F_law_lengths_of [p, .int (m : Nat)] = .ok (.new (lN ls)) [p'] ∧ GL ls ∧ ls.length = m ∧ IsPen (n + 50) p' := by
  obtain ⟨e', h1, ls, p', s3, s4, rfl, hg, hlen, hp⟩ := forL_inv (u := uNm 3) (ps := rngP 0 (m - 2)) (db := (dSeq (dSet 4 (dFn [true, false] F_law_draw [] [(dVar 0), (dCall semLen [(dVar 2)])])) (dSeq (dPut 2 (dVar 4) (dBin semAdd (dBin semIx (dVar 2) (dVar 4)) (fun e => .ok (.fz (.int 1)) e))) (dExpr (dMut "list" semAppend 2 [(dBin semIx (dVar 2) (dVar 4))])))))
    (fun i e => ∃ ls p' s3 s4, e = [.ow false p', .fz (.int (m : Nat)), .ow true (lN ls), s3, s4] ∧ GL ls ∧ ls.length = i + 2 ∧ IsPen (n + i) p')
    (fun i q e hq ⟨ls, p', s3, s4, he, hg, hlen, hp⟩ => by
      subst he
      obtain ⟨rfl, hi⟩ := rng_at hq
      obtain ⟨r, p2, e2, r0, r1, hp2⟩ := drawP (m := ((ls.map fun n => PV.int (n : Nat)).length : Nat)) hp (by omega) (by rw [List.length_map]; omega) (by rw [List.length_map]; omega)
      rw [List.length_map] at r1
      obtain ⟨k, rfl⟩ : ∃ k : Nat, r = (k : Nat) := ⟨r.toNat, by omega⟩
      have hk : k < ls.length := by omega
      have hat := atI_map (f := fun n : Nat => PV.int (n : Nat)) hk
      have hput := put_l (xs := ls.map fun n : Nat => PV.int (n : Nat)) (i := k) (v := .int ((ls[k] + 1 : Nat) : Int)) (by rw [List.length_map]; exact hk)
      rw [lN_set] at hput
      have hat2 := atI_map (f := fun n : Nat => PV.int (n : Nat)) (l := ls.set k (ls[k] + 1)) (i := k) (by rw [List.length_set]; exact hk)
      rw [List.getElem_set_self] at hat2
      have happ : semAppend (.lst ((ls.set k (ls[k] + 1)).map fun n : Nat => PV.int (n : Nat))) [.int ((ls[k] + 1 : Nat) : Int)] = some (.lst ((ls.set k (ls[k] + 1)).map (fun n : Nat => PV.int (n : Nat)) ++ [.int ((ls[k] + 1 : Nat) : Int)]), .non) := app_l (by rw [List.length_map, List.length_set, big_v]; omega)
      refine ⟨[.ow false p', .fz (.int (m : Nat)), .ow true (lN ls), .fz (.int (i : Nat)), s4], [.ow false p2, .fz (.int (m : Nat)), .ow true (lN (ls.set k (ls[k] + 1) ++ [ls[k] + 1])), .fz (.int (i : Nat)), .fz (.int (k : Nat))], ?_, ?_, _, p2, _, _, rfl, hg.step hk (by omega), ?_, hp2.mono (by omega)⟩
      · simp only [bind_k, bh_k, seqK_n, seqK_r, seq_e, expr_e, ret_e, retV_f, retV_n, retV_b, ifK_t, ifK_f, ifS_e, if_e, set_e, store_f, store_n, store_b, var_e, stl_e, stl_f, stl_n, stl_b, peek_f, peek_n, peek_b, frz_f, frz_n, frz_b, bin_e, op2_d, toVal_s, asB_e, chain_e, un_e, not_e, notT_e, andT_e, orT_e, args_n, args_c, frzs_n, frzs_c, lst_e, tup_e, call_e, peeks_n, peeks_c, opN_e, sl_e, part_n, part_s, meth_e, for_e, asgT_e, uNm_e, uTup_e, uCons_e, uNil_e, put_e, putS_e, isOw_e, mut_e, kdAt_e, mutK_e, items_e, enum_e, rng1_e, rng2_e, lc_e, dc_e, par_e, parL_n, parL_f, parL_t, unb_f, unb_n, unb_b, isNew_f, isNew_n, storeL_n, storeL_f, storeL_w, fn_e, mk_e, callK_e, frK_f, frK_n, mkK_e, mkF_e, prep_f, prep_t, prep_n, lentI_f, lentI_t, lentI_n, putOuts_n, putOuts_c, isi_e, fld_e, fldS_e, tru_e, bool_e, aug_e, sortLn_e, callFn_e, finF_x, finF_f, finF_n, outE_z, outZ_c, outZ_n, outS_w, outS_f, outS_o, lend_w, lend_f, lend_n, blk_e, wipe_n, wipe_c, free_e, dtO_n, dtO_s, entry_e, entryE_t, entryE_f, entryE_n, repl_z, outsAt_n, outsAt_f, outsAt_t, List.getElem?_cons_zero, List.getElem?_cons_succ, List.set_cons_zero, List.set_cons_succ, List.map_nil, List.map_cons, List.nil_append, List.cons_append, List.nodup_cons, List.nodup_nil, List.not_mem_nil, List.mem_cons, not_false_eq_true, and_self, and_true, true_and, or_false, false_or, if_true, reduceIte, Bool.false_eq_true, Option.bind_some, Option.map_some, List.length_cons, List.length_nil, Option.some.injEq, kd, Option.map_none, Option.bind_none, reduceCtorEq, Bool.not_true, Bool.not_false, decide_true, decide_false, Nat.reduceAdd, Nat.reduceLT, Nat.reduceLeDiff, Nat.zero_add, Nat.reduceEqDiff, List.replicate, Nat.reduceSub, List.all_cons, List.all_nil, Bool.and_true, Bool.and_self, List.append_nil, lB, tW, List.map_append]
      · have ea : ((ls[k] : Nat) : Int) + 1 = ((ls[k] + 1 : Nat) : Int) := by omega
        simp only [bind_k, bh_k, seqK_n, seqK_r, seq_e, expr_e, ret_e, retV_f, retV_n, retV_b, ifK_t, ifK_f, ifS_e, if_e, set_e, store_f, store_n, store_b, var_e, stl_e, stl_f, stl_n, stl_b, peek_f, peek_n, peek_b, frz_f, frz_n, frz_b, bin_e, op2_d, toVal_s, asB_e, chain_e, un_e, not_e, notT_e, andT_e, orT_e, args_n, args_c, frzs_n, frzs_c, lst_e, tup_e, call_e, peeks_n, peeks_c, opN_e, sl_e, part_n, part_s, meth_e, for_e, asgT_e, uNm_e, uTup_e, uCons_e, uNil_e, put_e, putS_e, isOw_e, mut_e, kdAt_e, mutK_e, items_e, enum_e, rng1_e, rng2_e, lc_e, dc_e, par_e, parL_n, parL_f, parL_t, unb_f, unb_n, unb_b, isNew_f, isNew_n, storeL_n, storeL_f, storeL_w, fn_e, mk_e, callK_e, frK_f, frK_n, mkK_e, mkF_e, prep_f, prep_t, prep_n, lentI_f, lentI_t, lentI_n, putOuts_n, putOuts_c, isi_e, fld_e, fldS_e, tru_e, bool_e, aug_e, sortLn_e, callFn_e, finF_x, finF_f, finF_n, outE_z, outZ_c, outZ_n, outS_w, outS_f, outS_o, lend_w, lend_f, lend_n, blk_e, wipe_n, wipe_c, free_e, dtO_n, dtO_s, entry_e, entryE_t, entryE_f, entryE_n, repl_z, outsAt_n, outsAt_f, outsAt_t, List.getElem?_cons_zero, List.getElem?_cons_succ, List.set_cons_zero, List.set_cons_succ, List.map_nil, List.map_cons, List.nil_append, List.cons_append, List.nodup_cons, List.nodup_nil, List.not_mem_nil, List.mem_cons, not_false_eq_true, and_self, and_true, true_and, or_false, false_or, if_true, reduceIte, Bool.false_eq_true, Option.bind_some, Option.map_some, List.length_cons, List.length_nil, Option.some.injEq, kd, Option.map_none, Option.bind_none, reduceCtorEq, Bool.not_true, Bool.not_false, decide_true, decide_false, Nat.reduceAdd, Nat.reduceLT, Nat.reduceLeDiff, Nat.zero_add, Nat.reduceEqDiff, List.replicate, Nat.reduceSub, List.all_cons, List.all_nil, Bool.and_true, Bool.and_self, List.append_nil, lB, tW, List.map_append, lN, len_l, e2, ix_l, hat, add_i, ea, hput, hat2, happ]
      · rw [List.length_append, List.length_set]; simp only [List.length_cons, List.length_nil]; omega)
    (e := [.ow false p, .fz (.int (m : Nat)), .ow true (lN [1, 1]), .no, .no]) ⟨[1, 1], p, _, _, rfl, GL.start, rfl, h.mono (by omega)⟩
  rw [rng_len] at hlen hp
  refine ⟨ls, p', ?_, hg, by omega, hp.mono (by omega)⟩
  have hc : r62 (((m : Nat) : Int) - 2) = true := r62_of (by omega) (by omega)
  have ht : ((((m : Nat) : Int) - 2)).toNat = m - 2 := by omega
  have h1 : forL (uNm 3) _ (rngP 0 (m - 2)) [.ow false p, .fz (.int (m : Nat)), .ow true (.lst [.int 1, .int 1]), .no, .no] = _ := h1
  unfold F_law_lengths_of d_law_lengths_of
  simp only [bind_k, bh_k, seqK_n, seqK_r, seq_e, expr_e, ret_e, retV_f, retV_n, retV_b, ifK_t, ifK_f, ifS_e, if_e, set_e, store_f, store_n, store_b, var_e, stl_e, stl_f, stl_n, stl_b, peek_f, peek_n, peek_b, frz_f, frz_n, frz_b, bin_e, op2_d, toVal_s, asB_e, chain_e, un_e, not_e, notT_e, andT_e, orT_e, args_n, args_c, frzs_n, frzs_c, lst_e, tup_e, call_e, peeks_n, peeks_c, opN_e, sl_e, part_n, part_s, meth_e, for_e, asgT_e, uNm_e, uTup_e, uCons_e, uNil_e, put_e, putS_e, isOw_e, mut_e, kdAt_e, mutK_e, items_e, enum_e, rng1_e, rng2_e, lc_e, dc_e, par_e, parL_n, parL_f, parL_t, unb_f, unb_n, unb_b, isNew_f, isNew_n, storeL_n, storeL_f, storeL_w, fn_e, mk_e, callK_e, frK_f, frK_n, mkK_e, mkF_e, prep_f, prep_t, prep_n, lentI_f, lentI_t, lentI_n, putOuts_n, putOuts_c, isi_e, fld_e, fldS_e, tru_e, bool_e, aug_e, sortLn_e, callFn_e, finF_x, finF_f, finF_n, outE_z, outZ_c, outZ_n, outS_w, outS_f, outS_o, lend_w, lend_f, lend_n, blk_e, wipe_n, wipe_c, free_e, dtO_n, dtO_s, entry_e, entryE_t, entryE_f, entryE_n, repl_z, outsAt_n, outsAt_f, outsAt_t, List.getElem?_cons_zero, List.getElem?_cons_succ, List.set_cons_zero, List.set_cons_succ, List.map_nil, List.map_cons, List.nil_append, List.cons_append, List.nodup_cons, List.nodup_nil, List.not_mem_nil, List.mem_cons, not_false_eq_true, and_self, and_true, true_and, or_false, false_or, if_true, reduceIte, Bool.false_eq_true, Option.bind_some, Option.map_some, List.length_cons, List.length_nil, Option.some.injEq, kd, Option.map_none, Option.bind_none, reduceCtorEq, Bool.not_true, Bool.not_false, decide_true, decide_false, Nat.reduceAdd, Nat.reduceLT, Nat.reduceLeDiff, Nat.zero_add, Nat.reduceEqDiff, List.replicate, Nat.reduceSub, List.all_cons, List.all_nil, Bool.and_true, Bool.and_self, List.append_nil, lB, tW, List.map_append, sub_i, hc, ht, h1, big_v]
theorem signs_ok {n : Int} (h1 : 2 ≤ n) (h2 : n ≤ 26) : F_check_signs [.int n] = .ok (.fz .non) [] := by
  have a : decide (2 ≤ n) = true := decide_eq_true h1
  have b : decide (n ≤ 26) = true := decide_eq_true h2
  unfold F_check_signs d_check_signs
  simp only [bind_k, bh_k, seqK_n, seqK_r, seq_e, expr_e, ret_e, retV_f, retV_n, retV_b, ifK_t, ifK_f, ifS_e, if_e, set_e, store_f, store_n, store_b, var_e, stl_e, stl_f, stl_n, stl_b, peek_f, peek_n, peek_b, frz_f, frz_n, frz_b, bin_e, op2_d, toVal_s, asB_e, chain_e, un_e, not_e, notT_e, andT_e, orT_e, args_n, args_c, frzs_n, frzs_c, lst_e, tup_e, call_e, peeks_n, peeks_c, opN_e, sl_e, part_n, part_s, meth_e, for_e, asgT_e, uNm_e, uTup_e, uCons_e, uNil_e, put_e, putS_e, isOw_e, mut_e, kdAt_e, mutK_e, items_e, enum_e, rng1_e, rng2_e, lc_e, dc_e, par_e, parL_n, parL_f, parL_t, unb_f, unb_n, unb_b, isNew_f, isNew_n, storeL_n, storeL_f, storeL_w, fn_e, mk_e, callK_e, frK_f, frK_n, mkK_e, mkF_e, prep_f, prep_t, prep_n, lentI_f, lentI_t, lentI_n, putOuts_n, putOuts_c, isi_e, fld_e, fldS_e, tru_e, bool_e, aug_e, sortLn_e, callFn_e, finF_x, finF_f, finF_n, outE_z, outZ_c, outZ_n, outS_w, outS_f, outS_o, lend_w, lend_f, lend_n, blk_e, wipe_n, wipe_c, free_e, dtO_n, dtO_s, entry_e, entryE_t, entryE_f, entryE_n, repl_z, outsAt_n, outsAt_f, outsAt_t, List.getElem?_cons_zero, List.getElem?_cons_succ, List.set_cons_zero, List.set_cons_succ, List.map_nil, List.map_cons, List.nil_append, List.cons_append, List.nodup_cons, List.nodup_nil, List.not_mem_nil, List.mem_cons, not_false_eq_true, and_self, and_true, true_and, or_false, false_or, if_true, reduceIte, Bool.false_eq_true, Option.bind_some, Option.map_some, List.length_cons, List.length_nil, Option.some.injEq, kd, Option.map_none, Option.bind_none, reduceCtorEq, Bool.not_true, Bool.not_false, decide_true, decide_false, Nat.reduceAdd, Nat.reduceLT, Nat.reduceLeDiff, Nat.zero_add, Nat.reduceEqDiff, List.replicate, Nat.reduceSub, List.all_cons, List.all_nil, Bool.and_true, Bool.and_self, List.append_nil, lB, tW, List.map_append, le_i, a, b]
theorem whole_ok {n : Int} (h1 : 1 ≤ n) : F_is_whole [.int n, .int 1] = .ok (.fz (.bl true)) [] := by
  have a : decide (1 ≤ n) = true := decide_eq_true h1
  unfold F_is_whole d_is_whole
  simp only [bind_k, bh_k, seqK_n, seqK_r, seq_e, expr_e, ret_e, retV_f, retV_n, retV_b, ifK_t, ifK_f, ifS_e, if_e, set_e, store_f, store_n, store_b, var_e, stl_e, stl_f, stl_n, stl_b, peek_f, peek_n, peek_b, frz_f, frz_n, frz_b, bin_e, op2_d, toVal_s, asB_e, chain_e, un_e, not_e, notT_e, andT_e, orT_e, args_n, args_c, frzs_n, frzs_c, lst_e, tup_e, call_e, peeks_n, peeks_c, opN_e, sl_e, part_n, part_s, meth_e, for_e, asgT_e, uNm_e, uTup_e, uCons_e, uNil_e, put_e, putS_e, isOw_e, mut_e, kdAt_e, mutK_e, items_e, enum_e, rng1_e, rng2_e, lc_e, dc_e, par_e, parL_n, parL_f, parL_t, unb_f, unb_n, unb_b, isNew_f, isNew_n, storeL_n, storeL_f, storeL_w, fn_e, mk_e, callK_e, frK_f, frK_n, mkK_e, mkF_e, prep_f, prep_t, prep_n, lentI_f, lentI_t, lentI_n, putOuts_n, putOuts_c, isi_e, fld_e, fldS_e, tru_e, bool_e, aug_e, sortLn_e, callFn_e, finF_x, finF_f, finF_n, outE_z, outZ_c, outZ_n, outS_w, outS_f, outS_o, lend_w, lend_f, lend_n, blk_e, wipe_n, wipe_c, free_e, dtO_n, dtO_s, entry_e, entryE_t, entryE_f, entryE_n, repl_z, outsAt_n, outsAt_f, outsAt_t, List.getElem?_cons_zero, List.getElem?_cons_succ, List.set_cons_zero, List.set_cons_succ, List.map_nil, List.map_cons, List.nil_append, List.cons_append, List.nodup_cons, List.nodup_nil, List.not_mem_nil, List.mem_cons, not_false_eq_true, and_self, and_true, true_and, or_false, false_or, if_true, reduceIte, Bool.false_eq_true, Option.bind_some, Option.map_some, List.length_cons, List.length_nil, Option.some.injEq, kd, Option.map_none, Option.bind_none, reduceCtorEq, Bool.not_true, Bool.not_false, decide_true, decide_false, Nat.reduceAdd, Nat.reduceLT, Nat.reduceLeDiff, Nat.zero_add, Nat.reduceEqDiff, List.replicate, Nat.reduceSub, List.all_cons, List.all_nil, Bool.and_true, Bool.and_self, List.append_nil, lB, tW, List.map_append, isi_ii, isi_bi, tru_b, ge_i, a]
theorem two_ok {k : Nat} (hk : k ≤ 30) : F_two_to [.int (k : Nat)] = .ok (.fz (.int ((2 ^ k : Nat) : Int))) [] := by
  obtain ⟨e', h1, x, s2, rfl, hx⟩ := forL_inv (u := uNm 2) (ps := rngP 0 k) (db := (dAug 1 aMul (fun e => .ok (.fz (.int 2)) e)))
    (fun i e => ∃ (x : Nat) (s2 : Sl), e = [.fz (.int (k : Nat)), .fz (.int (x : Nat)), s2] ∧ x = 2 ^ i)
    (fun i q e hq ⟨x, s2, he, hx⟩ => by
      subst he
      obtain ⟨rfl, hi⟩ := rng_at hq
      have hb : x ≤ 1073741824 := by
        rw [hx]
        exact Nat.pow_le_pow_right (n := 2) (by omega) (show i ≤ 30 by omega)
      have hm : CMulX (x : Nat) 2 := cmul (small (by omega) (by omega)) (small (by omega) (by omega))
      refine ⟨[.fz (.int (k : Nat)), .fz (.int (x : Nat)), .fz (.int (i : Nat))], [.fz (.int (k : Nat)), .fz (.int ((x * 2 : Nat) : Nat)), .fz (.int (i : Nat))], ?_, ?_, x * 2, _, rfl, by rw [hx, Nat.pow_succ]⟩
      · simp only [bind_k, bh_k, seqK_n, seqK_r, seq_e, expr_e, ret_e, retV_f, retV_n, retV_b, ifK_t, ifK_f, ifS_e, if_e, set_e, store_f, store_n, store_b, var_e, stl_e, stl_f, stl_n, stl_b, peek_f, peek_n, peek_b, frz_f, frz_n, frz_b, bin_e, op2_d, toVal_s, asB_e, chain_e, un_e, not_e, notT_e, andT_e, orT_e, args_n, args_c, frzs_n, frzs_c, lst_e, tup_e, call_e, peeks_n, peeks_c, opN_e, sl_e, part_n, part_s, meth_e, for_e, asgT_e, uNm_e, uTup_e, uCons_e, uNil_e, put_e, putS_e, isOw_e, mut_e, kdAt_e, mutK_e, items_e, enum_e, rng1_e, rng2_e, lc_e, dc_e, par_e, parL_n, parL_f, parL_t, unb_f, unb_n, unb_b, isNew_f, isNew_n, storeL_n, storeL_f, storeL_w, fn_e, mk_e, callK_e, frK_f, frK_n, mkK_e, mkF_e, prep_f, prep_t, prep_n, lentI_f, lentI_t, lentI_n, putOuts_n, putOuts_c, isi_e, fld_e, fldS_e, tru_e, bool_e, aug_e, sortLn_e, callFn_e, finF_x, finF_f, finF_n, outE_z, outZ_c, outZ_n, outS_w, outS_f, outS_o, lend_w, lend_f, lend_n, blk_e, wipe_n, wipe_c, free_e, dtO_n, dtO_s, entry_e, entryE_t, entryE_f, entryE_n, repl_z, outsAt_n, outsAt_f, outsAt_t, List.getElem?_cons_zero, List.getElem?_cons_succ, List.set_cons_zero, List.set_cons_succ, List.map_nil, List.map_cons, List.nil_append, List.cons_append, List.nodup_cons, List.nodup_nil, List.not_mem_nil, List.mem_cons, not_false_eq_true, and_self, and_true, true_and, or_false, false_or, if_true, reduceIte, Bool.false_eq_true, Option.bind_some, Option.map_some, List.length_cons, List.length_nil, Option.some.injEq, kd, Option.map_none, Option.bind_none, reduceCtorEq, Bool.not_true, Bool.not_false, decide_true, decide_false, Nat.reduceAdd, Nat.reduceLT, Nat.reduceLeDiff, Nat.zero_add, Nat.reduceEqDiff, List.replicate, Nat.reduceSub, List.all_cons, List.all_nil, Bool.and_true, Bool.and_self, List.append_nil, lB, tW, List.map_append]
      · simp only [bind_k, bh_k, seqK_n, seqK_r, seq_e, expr_e, ret_e, retV_f, retV_n, retV_b, ifK_t, ifK_f, ifS_e, if_e, set_e, store_f, store_n, store_b, var_e, stl_e, stl_f, stl_n, stl_b, peek_f, peek_n, peek_b, frz_f, frz_n, frz_b, bin_e, op2_d, toVal_s, asB_e, chain_e, un_e, not_e, notT_e, andT_e, orT_e, args_n, args_c, frzs_n, frzs_c, lst_e, tup_e, call_e, peeks_n, peeks_c, opN_e, sl_e, part_n, part_s, meth_e, for_e, asgT_e, uNm_e, uTup_e, uCons_e, uNil_e, put_e, putS_e, isOw_e, mut_e, kdAt_e, mutK_e, items_e, enum_e, rng1_e, rng2_e, lc_e, dc_e, par_e, parL_n, parL_f, parL_t, unb_f, unb_n, unb_b, isNew_f, isNew_n, storeL_n, storeL_f, storeL_w, fn_e, mk_e, callK_e, frK_f, frK_n, mkK_e, mkF_e, prep_f, prep_t, prep_n, lentI_f, lentI_t, lentI_n, putOuts_n, putOuts_c, isi_e, fld_e, fldS_e, tru_e, bool_e, aug_e, sortLn_e, callFn_e, finF_x, finF_f, finF_n, outE_z, outZ_c, outZ_n, outS_w, outS_f, outS_o, lend_w, lend_f, lend_n, blk_e, wipe_n, wipe_c, free_e, dtO_n, dtO_s, entry_e, entryE_t, entryE_f, entryE_n, repl_z, outsAt_n, outsAt_f, outsAt_t, List.getElem?_cons_zero, List.getElem?_cons_succ, List.set_cons_zero, List.set_cons_succ, List.map_nil, List.map_cons, List.nil_append, List.cons_append, List.nodup_cons, List.nodup_nil, List.not_mem_nil, List.mem_cons, not_false_eq_true, and_self, and_true, true_and, or_false, false_or, if_true, reduceIte, Bool.false_eq_true, Option.bind_some, Option.map_some, List.length_cons, List.length_nil, Option.some.injEq, kd, Option.map_none, Option.bind_none, reduceCtorEq, Bool.not_true, Bool.not_false, decide_true, decide_false, Nat.reduceAdd, Nat.reduceLT, Nat.reduceLeDiff, Nat.zero_add, Nat.reduceEqDiff, List.replicate, Nat.reduceSub, List.all_cons, List.all_nil, Bool.and_true, Bool.and_self, List.append_nil, lB, tW, List.map_append, aMul_i hm]
        rfl)
    (e := [.fz (.int (k : Nat)), .fz (.int 1), .no]) ⟨1, .no, rfl, rfl⟩
  rw [rng_len] at hx
  have hc : r62 ((k : Nat) : Int) = true := r62_of (by omega) (by omega)
  rw [← hx]
  unfold F_two_to d_two_to
  simp only [bind_k, bh_k, seqK_n, seqK_r, seq_e, expr_e, ret_e, retV_f, retV_n, retV_b, ifK_t, ifK_f, ifS_e, if_e, set_e, store_f, store_n, store_b, var_e, stl_e, stl_f, stl_n, stl_b, peek_f, peek_n, peek_b, frz_f, frz_n, frz_b, bin_e, op2_d, toVal_s, asB_e, chain_e, un_e, not_e, notT_e, andT_e, orT_e, args_n, args_c, frzs_n, frzs_c, lst_e, tup_e, call_e, peeks_n, peeks_c, opN_e, sl_e, part_n, part_s, meth_e, for_e, asgT_e, uNm_e, uTup_e, uCons_e, uNil_e, put_e, putS_e, isOw_e, mut_e, kdAt_e, mutK_e, items_e, enum_e, rng1_e, rng2_e, lc_e, dc_e, par_e, parL_n, parL_f, parL_t, unb_f, unb_n, unb_b, isNew_f, isNew_n, storeL_n, storeL_f, storeL_w, fn_e, mk_e, callK_e, frK_f, frK_n, mkK_e, mkF_e, prep_f, prep_t, prep_n, lentI_f, lentI_t, lentI_n, putOuts_n, putOuts_c, isi_e, fld_e, fldS_e, tru_e, bool_e, aug_e, sortLn_e, callFn_e, finF_x, finF_f, finF_n, outE_z, outZ_c, outZ_n, outS_w, outS_f, outS_o, lend_w, lend_f, lend_n, blk_e, wipe_n, wipe_c, free_e, dtO_n, dtO_s, entry_e, entryE_t, entryE_f, entryE_n, repl_z, outsAt_n, outsAt_f, outsAt_t, List.getElem?_cons_zero, List.getElem?_cons_succ, List.set_cons_zero, List.set_cons_succ, List.map_nil, List.map_cons, List.nil_append, List.cons_append, List.nodup_cons, List.nodup_nil, List.not_mem_nil, List.mem_cons, not_false_eq_true, and_self, and_true, true_and, or_false, false_or, if_true, reduceIte, Bool.false_eq_true, Option.bind_some, Option.map_some, List.length_cons, List.length_nil, Option.some.injEq, kd, Option.map_none, Option.bind_none, reduceCtorEq, Bool.not_true, Bool.not_false, decide_true, decide_false, Nat.reduceAdd, Nat.reduceLT, Nat.reduceLeDiff, Nat.zero_add, Nat.reduceEqDiff, List.replicate, Nat.reduceSub, List.all_cons, List.all_nil, Bool.and_true, Bool.and_self, List.append_nil, lB, tW, List.map_append, hc, Int.toNat_natCast, h1]
theorem ltwo_ok {k : Nat} (hk : k ≤ 30) : F_law_two_to [.int (k : Nat)] = .ok (.fz (.int ((2 ^ k : Nat) : Int))) [] := by
  obtain ⟨e', h1, x, s2, rfl, hx⟩ := forL_inv (u := uNm 2) (ps := rngP 0 k) (db := (dSet 1 (dBin semMul (dVar 1) (fun e => .ok (.fz (.int 2)) e))))
    (fun i e => ∃ (x : Nat) (s2 : Sl), e = [.fz (.int (k : Nat)), .fz (.int (x : Nat)), s2] ∧ x = 2 ^ i)
    (fun i q e hq ⟨x, s2, he, hx⟩ => by
      subst he
      obtain ⟨rfl, hi⟩ := rng_at hq
      have hb : x ≤ 1073741824 := by
        rw [hx]
        exact Nat.pow_le_pow_right (n := 2) (by omega) (show i ≤ 30 by omega)
      have hm : CMulX (x : Nat) 2 := cmul (small (by omega) (by omega)) (small (by omega) (by omega))
      refine ⟨[.fz (.int (k : Nat)), .fz (.int (x : Nat)), .fz (.int (i : Nat))], [.fz (.int (k : Nat)), .fz (.int ((x * 2 : Nat) : Nat)), .fz (.int (i : Nat))], ?_, ?_, x * 2, _, rfl, by rw [hx, Nat.pow_succ]⟩
      · simp only [bind_k, bh_k, seqK_n, seqK_r, seq_e, expr_e, ret_e, retV_f, retV_n, retV_b, ifK_t, ifK_f, ifS_e, if_e, set_e, store_f, store_n, store_b, var_e, stl_e, stl_f, stl_n, stl_b, peek_f, peek_n, peek_b, frz_f, frz_n, frz_b, bin_e, op2_d, toVal_s, asB_e, chain_e, un_e, not_e, notT_e, andT_e, orT_e, args_n, args_c, frzs_n, frzs_c, lst_e, tup_e, call_e, peeks_n, peeks_c, opN_e, sl_e, part_n, part_s, meth_e, for_e, asgT_e, uNm_e, uTup_e, uCons_e, uNil_e, put_e, putS_e, isOw_e, mut_e, kdAt_e, mutK_e, items_e, enum_e, rng1_e, rng2_e, lc_e, dc_e, par_e, parL_n, parL_f, parL_t, unb_f, unb_n, unb_b, isNew_f, isNew_n, storeL_n, storeL_f, storeL_w, fn_e, mk_e, callK_e, frK_f, frK_n, mkK_e, mkF_e, prep_f, prep_t, prep_n, lentI_f, lentI_t, lentI_n, putOuts_n, putOuts_c, isi_e, fld_e, fldS_e, tru_e, bool_e, aug_e, sortLn_e, callFn_e, finF_x, finF_f, finF_n, outE_z, outZ_c, outZ_n, outS_w, outS_f, outS_o, lend_w, lend_f, lend_n, blk_e, wipe_n, wipe_c, free_e, dtO_n, dtO_s, entry_e, entryE_t, entryE_f, entryE_n, repl_z, outsAt_n, outsAt_f, outsAt_t, List.getElem?_cons_zero, List.getElem?_cons_succ, List.set_cons_zero, List.set_cons_succ, List.map_nil, List.map_cons, List.nil_append, List.cons_append, List.nodup_cons, List.nodup_nil, List.not_mem_nil, List.mem_cons, not_false_eq_true, and_self, and_true, true_and, or_false, false_or, if_true, reduceIte, Bool.false_eq_true, Option.bind_some, Option.map_some, List.length_cons, List.length_nil, Option.some.injEq, kd, Option.map_none, Option.bind_none, reduceCtorEq, Bool.not_true, Bool.not_false, decide_true, decide_false, Nat.reduceAdd, Nat.reduceLT, Nat.reduceLeDiff, Nat.zero_add, Nat.reduceEqDiff, List.replicate, Nat.reduceSub, List.all_cons, List.all_nil, Bool.and_true, Bool.and_self, List.append_nil, lB, tW, List.map_append]
      · simp only [bind_k, bh_k, seqK_n, seqK_r, seq_e, expr_e, ret_e, retV_f, retV_n, retV_b, ifK_t, ifK_f, ifS_e, if_e, set_e, store_f, store_n, store_b, var_e, stl_e, stl_f, stl_n, stl_b, peek_f, peek_n, peek_b, frz_f, frz_n, frz_b, bin_e, op2_d, toVal_s, asB_e, chain_e, un_e, not_e, notT_e, andT_e, orT_e, args_n, args_c, frzs_n, frzs_c, lst_e, tup_e, call_e, peeks_n, peeks_c, opN_e, sl_e, part_n, part_s, meth_e, for_e, asgT_e, uNm_e, uTup_e, uCons_e, uNil_e, put_e, putS_e, isOw_e, mut_e, kdAt_e, mutK_e, items_e, enum_e, rng1_e, rng2_e, lc_e, dc_e, par_e, parL_n, parL_f, parL_t, unb_f, unb_n, unb_b, isNew_f, isNew_n, storeL_n, storeL_f, storeL_w, fn_e, mk_e, callK_e, frK_f, frK_n, mkK_e, mkF_e, prep_f, prep_t, prep_n, lentI_f, lentI_t, lentI_n, putOuts_n, putOuts_c, isi_e, fld_e, fldS_e, tru_e, bool_e, aug_e, sortLn_e, callFn_e, finF_x, finF_f, finF_n, outE_z, outZ_c, outZ_n, outS_w, outS_f, outS_o, lend_w, lend_f, lend_n, blk_e, wipe_n, wipe_c, free_e, dtO_n, dtO_s, entry_e, entryE_t, entryE_f, entryE_n, repl_z, outsAt_n, outsAt_f, outsAt_t, List.getElem?_cons_zero, List.getElem?_cons_succ, List.set_cons_zero, List.set_cons_succ, List.map_nil, List.map_cons, List.nil_append, List.cons_append, List.nodup_cons, List.nodup_nil, List.not_mem_nil, List.mem_cons, not_false_eq_true, and_self, and_true, true_and, or_false, false_or, if_true, reduceIte, Bool.false_eq_true, Option.bind_some, Option.map_some, List.length_cons, List.length_nil, Option.some.injEq, kd, Option.map_none, Option.bind_none, reduceCtorEq, Bool.not_true, Bool.not_false, decide_true, decide_false, Nat.reduceAdd, Nat.reduceLT, Nat.reduceLeDiff, Nat.zero_add, Nat.reduceEqDiff, List.replicate, Nat.reduceSub, List.all_cons, List.all_nil, Bool.and_true, Bool.and_self, List.append_nil, lB, tW, List.map_append, mul_i hm]
        rfl)
    (e := [.fz (.int (k : Nat)), .fz (.int 1), .no]) ⟨1, .no, rfl, rfl⟩
  rw [rng_len] at hx
  have hc : r62 ((k : Nat) : Int) = true := r62_of (by omega) (by omega)
  rw [← hx]
  unfold F_law_two_to d_law_two_to
  simp only [bind_k, bh_k, seqK_n, seqK_r, seq_e, expr_e, ret_e, retV_f, retV_n, retV_b, ifK_t, ifK_f, ifS_e, if_e, set_e, store_f, store_n, store_b, var_e, stl_e, stl_f, stl_n, stl_b, peek_f, peek_n, peek_b, frz_f, frz_n, frz_b, bin_e, op2_d, toVal_s, asB_e, chain_e, un_e, not_e, notT_e, andT_e, orT_e, args_n, args_c, frzs_n, frzs_c, lst_e, tup_e, call_e, peeks_n, peeks_c, opN_e, sl_e, part_n, part_s, meth_e, for_e, asgT_e, uNm_e, uTup_e, uCons_e, uNil_e, put_e, putS_e, isOw_e, mut_e, kdAt_e, mutK_e, items_e, enum_e, rng1_e, rng2_e, lc_e, dc_e, par_e, parL_n, parL_f, parL_t, unb_f, unb_n, unb_b, isNew_f, isNew_n, storeL_n, storeL_f, storeL_w, fn_e, mk_e, callK_e, frK_f, frK_n, mkK_e, mkF_e, prep_f, prep_t, prep_n, lentI_f, lentI_t, lentI_n, putOuts_n, putOuts_c, isi_e, fld_e, fldS_e, tru_e, bool_e, aug_e, sortLn_e, callFn_e, finF_x, finF_f, finF_n, outE_z, outZ_c, outZ_n, outS_w, outS_f, outS_o, lend_w, lend_f, lend_n, blk_e, wipe_n, wipe_c, free_e, dtO_n, dtO_s, entry_e, entryE_t, entryE_f, entryE_n, repl_z, outsAt_n, outsAt_f, outsAt_t, List.getElem?_cons_zero, List.getElem?_cons_succ, List.set_cons_zero, List.set_cons_succ, List.map_nil, List.map_cons, List.nil_append, List.cons_append, List.nodup_cons, List.nodup_nil, List.not_mem_nil, List.mem_cons, not_false_eq_true, and_self, and_true, true_and, or_false, false_or, if_true, reduceIte, Bool.false_eq_true, Option.bind_some, Option.map_some, List.length_cons, List.length_nil, Option.some.injEq, kd, Option.map_none, Option.bind_none, reduceCtorEq, Bool.not_true, Bool.not_false, decide_true, decide_false, Nat.reduceAdd, Nat.reduceLT, Nat.reduceLeDiff, Nat.zero_add, Nat.reduceEqDiff, List.replicate, Nat.reduceSub, List.all_cons, List.all_nil, Bool.and_true, Bool.and_self, List.append_nil, lB, tW, List.map_append, hc, Int.toNat_natCast, h1]
theorem bits_ok {x k : Nat} (hk : k ≤ 30) (hx : x < 1000000000000) : F_bits_of [.int (x : Nat), .int (k : Nat)] = .ok (.fz (sB (loW x k))) [] := by
  obtain ⟨e', h1, s3, rfl⟩ := forL_inv (u := uNm 3) (ps := rngP 0 k) (db := (dSeq (dSet 2 (dBin semAdd (dCall semStr [(dBin semMod (dVar 0) (fun e => .ok (.fz (.int 2)) e))]) (dVar 2))) (dSet 0 (dBin semDiv (dVar 0) (fun e => .ok (.fz (.int 2)) e)))))
    (fun i e => ∃ s3 : Sl, e = [.fz (.int ((x / 2 ^ i : Nat) : Int)), .fz (.int (k : Nat)), .fz (sB (loW x i)), s3])
    (fun i q e hq ⟨s3, he⟩ => by
      subst he
      obtain ⟨rfl, hi⟩ := rng_at hq
      have hm : (0 : Int) < 2 := by omega
      have hd : CDivW ((x / 2 ^ i : Nat) : Int) 2 := cdiv (by omega) (small (by omega) (by omega))
      have hl : (bs [(x / 2 ^ i) % 2 == 1]).length + (bs (loW x i)).length ≤ big := by rw [bs_len, bs_len, loW_len, big_v]; simp only [List.length_cons, List.length_nil]; omega
      have ea : [(x / 2 ^ i) % 2 == 1] ++ loW x i = loW x (i + 1) := rfl
      refine ⟨[.fz (.int ((x / 2 ^ i : Nat) : Int)), .fz (.int (k : Nat)), .fz (sB (loW x i)), .fz (.int (i : Nat))], [.fz (.int ((x / 2 ^ (i + 1) : Nat) : Int)), .fz (.int (k : Nat)), .fz (sB (loW x (i + 1))), .fz (.int (i : Nat))], ?_, ?_, _, rfl⟩
      · simp only [bind_k, bh_k, seqK_n, seqK_r, seq_e, expr_e, ret_e, retV_f, retV_n, retV_b, ifK_t, ifK_f, ifS_e, if_e, set_e, store_f, store_n, store_b, var_e, stl_e, stl_f, stl_n, stl_b, peek_f, peek_n, peek_b, frz_f, frz_n, frz_b, bin_e, op2_d, toVal_s, asB_e, chain_e, un_e, not_e, notT_e, andT_e, orT_e, args_n, args_c, frzs_n, frzs_c, lst_e, tup_e, call_e, peeks_n, peeks_c, opN_e, sl_e, part_n, part_s, meth_e, for_e, asgT_e, uNm_e, uTup_e, uCons_e, uNil_e, put_e, putS_e, isOw_e, mut_e, kdAt_e, mutK_e, items_e, enum_e, rng1_e, rng2_e, lc_e, dc_e, par_e, parL_n, parL_f, parL_t, unb_f, unb_n, unb_b, isNew_f, isNew_n, storeL_n, storeL_f, storeL_w, fn_e, mk_e, callK_e, frK_f, frK_n, mkK_e, mkF_e, prep_f, prep_t, prep_n, lentI_f, lentI_t, lentI_n, putOuts_n, putOuts_c, isi_e, fld_e, fldS_e, tru_e, bool_e, aug_e, sortLn_e, callFn_e, finF_x, finF_f, finF_n, outE_z, outZ_c, outZ_n, outS_w, outS_f, outS_o, lend_w, lend_f, lend_n, blk_e, wipe_n, wipe_c, free_e, dtO_n, dtO_s, entry_e, entryE_t, entryE_f, entryE_n, repl_z, outsAt_n, outsAt_f, outsAt_t, List.getElem?_cons_zero, List.getElem?_cons_succ, List.set_cons_zero, List.set_cons_succ, List.map_nil, List.map_cons, List.nil_append, List.cons_append, List.nodup_cons, List.nodup_nil, List.not_mem_nil, List.mem_cons, not_false_eq_true, and_self, and_true, true_and, or_false, false_or, if_true, reduceIte, Bool.false_eq_true, Option.bind_some, Option.map_some, List.length_cons, List.length_nil, Option.some.injEq, kd, Option.map_none, Option.bind_none, reduceCtorEq, Bool.not_true, Bool.not_false, decide_true, decide_false, Nat.reduceAdd, Nat.reduceLT, Nat.reduceLeDiff, Nat.zero_add, Nat.reduceEqDiff, List.replicate, Nat.reduceSub, List.all_cons, List.all_nil, Bool.and_true, Bool.and_self, List.append_nil, lB, tW, List.map_append]
      · simp only [bind_k, bh_k, seqK_n, seqK_r, seq_e, expr_e, ret_e, retV_f, retV_n, retV_b, ifK_t, ifK_f, ifS_e, if_e, set_e, store_f, store_n, store_b, var_e, stl_e, stl_f, stl_n, stl_b, peek_f, peek_n, peek_b, frz_f, frz_n, frz_b, bin_e, op2_d, toVal_s, asB_e, chain_e, un_e, not_e, notT_e, andT_e, orT_e, args_n, args_c, frzs_n, frzs_c, lst_e, tup_e, call_e, peeks_n, peeks_c, opN_e, sl_e, part_n, part_s, meth_e, for_e, asgT_e, uNm_e, uTup_e, uCons_e, uNil_e, put_e, putS_e, isOw_e, mut_e, kdAt_e, mutK_e, items_e, enum_e, rng1_e, rng2_e, lc_e, dc_e, par_e, parL_n, parL_f, parL_t, unb_f, unb_n, unb_b, isNew_f, isNew_n, storeL_n, storeL_f, storeL_w, fn_e, mk_e, callK_e, frK_f, frK_n, mkK_e, mkF_e, prep_f, prep_t, prep_n, lentI_f, lentI_t, lentI_n, putOuts_n, putOuts_c, isi_e, fld_e, fldS_e, tru_e, bool_e, aug_e, sortLn_e, callFn_e, finF_x, finF_f, finF_n, outE_z, outZ_c, outZ_n, outS_w, outS_f, outS_o, lend_w, lend_f, lend_n, blk_e, wipe_n, wipe_c, free_e, dtO_n, dtO_s, entry_e, entryE_t, entryE_f, entryE_n, repl_z, outsAt_n, outsAt_f, outsAt_t, List.getElem?_cons_zero, List.getElem?_cons_succ, List.set_cons_zero, List.set_cons_succ, List.map_nil, List.map_cons, List.nil_append, List.cons_append, List.nodup_cons, List.nodup_nil, List.not_mem_nil, List.mem_cons, not_false_eq_true, and_self, and_true, true_and, or_false, false_or, if_true, reduceIte, Bool.false_eq_true, Option.bind_some, Option.map_some, List.length_cons, List.length_nil, Option.some.injEq, kd, Option.map_none, Option.bind_none, reduceCtorEq, Bool.not_true, Bool.not_false, decide_true, decide_false, Nat.reduceAdd, Nat.reduceLT, Nat.reduceLeDiff, Nat.zero_add, Nat.reduceEqDiff, List.replicate, Nat.reduceSub, List.all_cons, List.all_nil, Bool.and_true, Bool.and_self, List.append_nil, lB, tW, List.map_append, mod_i hm, str_b, add_s hl, bs_app, div_i hd, div_p]
        rw [← ea]
        rfl)
    (e := [.fz (.int (x : Nat)), .fz (.int (k : Nat)), .fz (sB []), .no]) ⟨.no, by simp [loW]⟩
  have hc : r62 ((k : Nat) : Int) = true := r62_of (by omega) (by omega)
  rw [rng_len] at h1
  unfold F_bits_of d_bits_of
  simp only [bind_k, bh_k, seqK_n, seqK_r, seq_e, expr_e, ret_e, retV_f, retV_n, retV_b, ifK_t, ifK_f, ifS_e, if_e, set_e, store_f, store_n, store_b, var_e, stl_e, stl_f, stl_n, stl_b, peek_f, peek_n, peek_b, frz_f, frz_n, frz_b, bin_e, op2_d, toVal_s, asB_e, chain_e, un_e, not_e, notT_e, andT_e, orT_e, args_n, args_c, frzs_n, frzs_c, lst_e, tup_e, call_e, peeks_n, peeks_c, opN_e, sl_e, part_n, part_s, meth_e, for_e, asgT_e, uNm_e, uTup_e, uCons_e, uNil_e, put_e, putS_e, isOw_e, mut_e, kdAt_e, mutK_e, items_e, enum_e, rng1_e, rng2_e, lc_e, dc_e, par_e, parL_n, parL_f, parL_t, unb_f, unb_n, unb_b, isNew_f, isNew_n, storeL_n, storeL_f, storeL_w, fn_e, mk_e, callK_e, frK_f, frK_n, mkK_e, mkF_e, prep_f, prep_t, prep_n, lentI_f, lentI_t, lentI_n, putOuts_n, putOuts_c, isi_e, fld_e, fldS_e, tru_e, bool_e, aug_e, sortLn_e, callFn_e, finF_x, finF_f, finF_n, outE_z, outZ_c, outZ_n, outS_w, outS_f, outS_o, lend_w, lend_f, lend_n, blk_e, wipe_n, wipe_c, free_e, dtO_n, dtO_s, entry_e, entryE_t, entryE_f, entryE_n, repl_z, outsAt_n, outsAt_f, outsAt_t, List.getElem?_cons_zero, List.getElem?_cons_succ, List.set_cons_zero, List.set_cons_succ, List.map_nil, List.map_cons, List.nil_append, List.cons_append, List.nodup_cons, List.nodup_nil, List.not_mem_nil, List.mem_cons, not_false_eq_true, and_self, and_true, true_and, or_false, false_or, if_true, reduceIte, Bool.false_eq_true, Option.bind_some, Option.map_some, List.length_cons, List.length_nil, Option.some.injEq, kd, Option.map_none, Option.bind_none, reduceCtorEq, Bool.not_true, Bool.not_false, decide_true, decide_false, Nat.reduceAdd, Nat.reduceLT, Nat.reduceLeDiff, Nat.zero_add, Nat.reduceEqDiff, List.replicate, Nat.reduceSub, List.all_cons, List.all_nil, Bool.and_true, Bool.and_self, List.append_nil, lB, tW, List.map_append, hc, Int.toNat_natCast, bs_e, h1]
end K37

set_option maxRecDepth 100000
set_option maxHeartbeats 4000000
namespace VL
open PySem PySem.Spec L2
open PyProof.Rows hiding St
/-! ### pairs of numbers -/
theorem pl_int (a b c d : Nat) : (if ((a : Nat) : Int) = ((c : Nat) : Int) then decide (((b : Nat) : Int) < ((d : Nat) : Int)) else decide (((a : Nat) : Int) < ((c : Nat) : Int))) = pl (a, b) (c, d) := by
  unfold pl
  dsimp only
  by_cases h : a = c
  · rw [if_pos (by omega), if_pos h]
    congr 1
    exact propext (by omega)
  · rw [if_neg (by omega), if_neg h]
    congr 1
    exact propext (by omega)
theorem ltP_n (a b c d : Nat) : semLtP (.tup [.int (a : Nat), .int (b : Nat)]) (.tup [.int (c : Nat), .int (d : Nat)]) = some (.fz (.bl (pl (a, b) (c, d)))) := by
  rw [← pl_int]; rfl
def castP (p : Nat × Nat) : Int × Int := (((p.1 : Nat) : Int), ((p.2 : Nat) : Int))
abbrev cpP (p : Nat × Nat) : PV := .tup [.int (p.1 : Nat), .int (p.2 : Nat)]
theorem lex_cast (p q : Nat × Nat) : SrtO.lexB (castP p) (castP q) = pl p q := pl_int p.1 p.2 q.1 q.2
def srtL (ls : List Nat) : List (Nat × Nat) := (prs ls).mergeSort fun x y => !pl y x
theorem srtL_perm (ls : List Nat) : (srtL ls).Perm (prs ls) := List.mergeSort_perm _ _
theorem srtL_weak (ls : List Nat) : (srtL ls).Pairwise fun a b => pl b a = false := by
  have tot : ∀ a b : Nat × Nat, (!pl b a || !pl a b) = true := fun a b => by
    cases h : pl b a with
    | false => rfl
    | true => rw [pl_as h]; rfl
  have tr : ∀ a b c : Nat × Nat, (!pl b a) = true → (!pl c b) = true → (!pl c a) = true := fun a b c h1 h2 => by
    simp only [Bool.not_eq_true'] at *
    cases h : pl c a with
    | false => rfl
    | true =>
      by_cases e : a = b
      · subst e; rw [h] at h2; cases h2
      · rcases pl_tot e with z | z
        · have := pl_tr h z; rw [this] at h2; cases h2
        · rw [z] at h1; cases h1
  exact (List.pairwise_mergeSort (le := fun x y => !pl y x) tr tot (prs ls)).imp fun h => by simpa using h
theorem srtL_srt (ls : List Nat) : (srtL ls).Pairwise fun a b => pl a b = true := by
  have nd : (srtL ls).Pairwise fun a b => a ≠ b := (srtL_perm ls).nodup_iff.mpr (prs_nodup ls)
  refine ((srtL_weak ls).and nd).imp fun h => ?_
  rcases pl_tot h.2 with z | z
  · exact z
  · rw [h.1] at z; cases z
theorem pairsP_cast : ∀ l : List (Nat × Nat), pairsP (l.map cpP) = some (l.map castP)
  | [] => rfl
  | p :: l => by simp only [List.map_cons, pairsP, pairP, pairsP_cast l]; rfl
theorem sorted_prs {ls : List Nat} (h : ls ≠ []) : semSorted [.lst ((prs ls).map cpP)] = some (.new (.lst ((srtL ls).map cpP))) := by
  have e0 : intsP ((prs ls).map cpP) = none := by
    cases ls with
    | nil => exact absurd rfl h
    | cons a r => simp only [prs, List.zipIdx_cons, List.map_cons, intsP]
  unfold semSorted
  simp only [e0, pairsP_cast]
  have u : (srtL ls).map castP = sortP ((prs ls).map castP) := sortP_uniq ((srtL_perm ls).map castP) (by
    show ((srtL ls).map castP).Pairwise _
    rw [List.pairwise_map]
    exact (srtL_weak ls).imp fun h => by rw [lex_cast]; exact h)
  rw [← u, List.map_map]
  rfl
theorem look_inl {f : Nat × Nat → PV} {q : Nat × Nat} : ∀ {L : List (Nat × Nat)}, q ∈ L → (∀ q' ∈ L, q'.2 = q.2 → q' = q) → look (L.map fun p => (Sum.inl ((p.2 : Nat) : Int) : Key)) (L.map f) (.inl ((q.2 : Nat) : Int)) = some (f q)
  | [], h, _ => by cases h
  | a :: L, h, u => by
    simp only [List.map_cons, look]
    by_cases e : a.2 = q.2
    · rw [if_pos (by rw [e]), u a (List.mem_cons_self ..) e]
    · rw [if_neg (fun z => e (by have := Sum.inl.inj z; omega))]
      refine look_inl ?_ fun q' hq' => u q' (List.mem_cons_of_mem _ hq')
      rcases List.mem_cons.mp h with z | z
      · exact absurd (by rw [z]) e
      · exact z
theorem prs_uniq {ls : List Nat} {p q : Nat × Nat} (hp : p ∈ prs ls) (hq : q ∈ prs ls) (h : p.2 = q.2) : p = q := by
  obtain ⟨_, e1⟩ := mem_prs hp
  obtain ⟨_, e2⟩ := mem_prs hq
  obtain ⟨p1, p2⟩ := p
  obtain ⟨q1, q2⟩ := q
  dsimp only at *
  subst h
  rw [e1, e2]
theorem prs_get {ls : List Nat} {i : Nat} (h : i < ls.length) : (ls[i], i) ∈ prs ls := List.mem_of_getElem? (prs_at h)
theorem take_at {α : Type} {l : List α} {i : Nat} (h : i < l.length) : l.take (i + 1) = l.take i ++ [l[i]] := by rw [List.take_add_one, List.getElem?_eq_getElem h]; rfl
theorem prs_take {ls : List Nat} {i : Nat} (h : i < ls.length) : (prs ls).take (i + 1) = (prs ls).take i ++ [(ls[i], i)] := by
  rw [List.take_add_one, prs_at h]; rfl
theorem words_at {ls : List Nat} {i : Nat} (h : i < ls.length) : (wordsOf ls)[i]? = some (wordOf ls (ls[i], i)) := by
  unfold wordsOf
  rw [List.getElem?_map, prs_at h]; rfl
theorem words_take {ls : List Nat} {i : Nat} (h : i < ls.length) : (wordsOf ls).take (i + 1) = (wordsOf ls).take i ++ [wordOf ls (ls[i], i)] := by
  rw [List.take_add_one, words_at h]; rfl
/-- what the law adds up ahead of the k-th -/
def psum (ls : List Nat) (p : Nat × Nat) (k : Nat) : Nat := ((((prs ls).take k).filter fun q => pl q p).map fun q => 2 ^ (p.1 - q.1)).sum
theorem psum_all (ls : List Nat) (p : Nat × Nat) : psum ls p ls.length = fw (prs ls) p := by
  unfold psum fw
  rw [List.take_of_length_le (by rw [prs_len]; exact Nat.le_refl _)]
theorem psum_s {ls : List Nat} {p : Nat × Nat} {k : Nat} (h : k < ls.length) (hp : pl (ls[k], k) p = true) : psum ls p (k + 1) = psum ls p k + 2 ^ (p.1 - ls[k]) := by
  unfold psum
  rw [prs_take h, List.filter_append, List.map_append, List.sum_append]
  simp only [List.filter_cons, hp, if_true, List.filter_nil, List.map_cons, List.map_nil, List.sum_cons, List.sum_nil, Nat.add_zero]
theorem psum_n {ls : List Nat} {p : Nat × Nat} {k : Nat} (h : k < ls.length) (hp : pl (ls[k], k) p = false) : psum ls p (k + 1) = psum ls p k := by
  unfold psum
  rw [prs_take h, List.filter_append, List.map_append, List.sum_append]
  simp only [List.filter_cons, hp, Bool.false_eq_true, if_false, List.filter_nil, List.map_nil, List.sum_nil, Nat.add_zero]
end VL
namespace K37
open PySem PySem.Spec L2 VL
open PyProof.Rows hiding St
theorem lwords_ok {ls : List Nat} (g : GL ls) (h26 : ls.length ≤ 26) : F_law_words [lN ls] = .ok (.fz (tW (wordsOf ls))) [] := by
  have hln : (ls.map fun n => PV.int (n : Nat)).length = ls.length := List.length_map ..
  have hc0 : r62 ((ls.length : Nat) : Int) = true := r62_of (by omega) (by omega)
  obtain ⟨e', h1, s2, s3, s4, s5, s6, s7, rfl⟩ := forL_inv (u := uNm 2) (ps := rngP 0 ls.length) (db := (dSeq (dPar [3, 4] [(dBin semIx (dVar 0) (dVar 2)), (fun e => .ok (.fz (.int 0)) e)]) (dSeq (dFor (dRng1 (dCall semLen [(dVar 0)])) (uNm 5) (dIfS (asB (dBin semLtP (dTup [(dBin semIx (dVar 0) (dVar 5)), (dVar 5)]) (dTup [(dVar 3), (dVar 2)]))) (dSet 4 (dBin semAdd (dVar 4) (dFn [false] F_law_two_to [] [(dBin semSub (dVar 3) (dBin semIx (dVar 0) (dVar 5)))]))) (fun e => .ok .nx e))) (dSeq (dSet 6 (fun e => .ok (.fz (.str "")) e)) (dSeq (dFor (dRng1 (dVar 3)) (uNm 7) (dPar [6, 4] [(dBin semAdd (dCall semStr [(dBin semMod (dCall semInt [(dVar 4)]) (fun e => .ok (.fz (.int 2)) e))]) (dVar 6)), (dBin semDiv (dVar 4) (fun e => .ok (.fz (.int 2)) e))])) (dExpr (dMut "list" semAppend 1 [(dVar 6)])))))))
    (fun i e => ∃ s2 s3 s4 s5 s6 s7, e = [.fz (lN ls), .ow true (.lst (((wordsOf ls).take i).map sB)), s2, s3, s4, s5, s6, s7])
    (fun i q e hq ⟨s2, s3, s4, s5, s6, s7, he⟩ => by
      subst he
      obtain ⟨rfl, hi⟩ := rng_at hq
      have hat := atI_map (f := fun n : Nat => PV.int (n : Nat)) hi
      have h25 := g.le25 h26 (prs_get hi)
      dsimp only at h25
      obtain ⟨e1, f1, t5, rfl⟩ := forL_inv (u := uNm 5) (ps := rngP 0 ls.length) (db := (dIfS (asB (dBin semLtP (dTup [(dBin semIx (dVar 0) (dVar 5)), (dVar 5)]) (dTup [(dVar 3), (dVar 2)]))) (dSet 4 (dBin semAdd (dVar 4) (dFn [false] F_law_two_to [] [(dBin semSub (dVar 3) (dBin semIx (dVar 0) (dVar 5)))]))) (fun e => .ok .nx e)))
        (fun k e => ∃ t5, e = [.fz (lN ls), .ow true (.lst (((wordsOf ls).take i).map sB)), .fz (.int (i : Nat)), .fz (.int (ls[i] : Nat)), .fz (.int (psum ls (ls[i], i) k : Nat)), t5, s6, s7])
        (fun k q e hq ⟨t5, he⟩ => by
          subst he
          obtain ⟨rfl, hk⟩ := rng_at hq
          have hatk := atI_map (f := fun n : Nat => PV.int (n : Nat)) hk
          have hlt := ltP_n ls[k] k ls[i] i
          refine ⟨[.fz (lN ls), .ow true (.lst (((wordsOf ls).take i).map sB)), .fz (.int (i : Nat)), .fz (.int (ls[i] : Nat)), .fz (.int (psum ls (ls[i], i) k : Nat)), .fz (.int (k : Nat)), s6, s7], [.fz (lN ls), .ow true (.lst (((wordsOf ls).take i).map sB)), .fz (.int (i : Nat)), .fz (.int (ls[i] : Nat)), .fz (.int (psum ls (ls[i], i) (k + 1) : Nat)), .fz (.int (k : Nat)), s6, s7], ?_, ?_, _, rfl⟩
          · simp only [bind_k, bh_k, seqK_n, seqK_r, seq_e, expr_e, ret_e, retV_f, retV_n, retV_b, ifK_t, ifK_f, ifS_e, if_e, set_e, store_f, store_n, store_b, var_e, stl_e, stl_f, stl_n, stl_b, peek_f, peek_n, peek_b, frz_f, frz_n, frz_b, bin_e, op2_d, toVal_s, asB_e, chain_e, un_e, not_e, notT_e, andT_e, orT_e, args_n, args_c, frzs_n, frzs_c, lst_e, tup_e, call_e, peeks_n, peeks_c, opN_e, sl_e, part_n, part_s, meth_e, for_e, asgT_e, uNm_e, uTup_e, uCons_e, uNil_e, put_e, putS_e, isOw_e, mut_e, kdAt_e, mutK_e, items_e, enum_e, rng1_e, rng2_e, lc_e, dc_e, par_e, parL_n, parL_f, parL_t, unb_f, unb_n, unb_b, isNew_f, isNew_n, storeL_n, storeL_f, storeL_w, fn_e, mk_e, callK_e, frK_f, frK_n, mkK_e, mkF_e, prep_f, prep_t, prep_n, lentI_f, lentI_t, lentI_n, putOuts_n, putOuts_c, isi_e, fld_e, fldS_e, tru_e, bool_e, aug_e, sortLn_e, callFn_e, finF_x, finF_f, finF_n, outE_z, outZ_c, outZ_n, outS_w, outS_f, outS_o, lend_w, lend_f, lend_n, blk_e, wipe_n, wipe_c, free_e, dtO_n, dtO_s, entry_e, entryE_t, entryE_f, entryE_n, repl_z, outsAt_n, outsAt_f, outsAt_t, List.getElem?_cons_zero, List.getElem?_cons_succ, List.set_cons_zero, List.set_cons_succ, List.map_nil, List.map_cons, List.nil_append, List.cons_append, List.nodup_cons, List.nodup_nil, List.not_mem_nil, List.mem_cons, not_false_eq_true, and_self, and_true, true_and, or_false, false_or, if_true, reduceIte, Bool.false_eq_true, Option.bind_some, Option.map_some, List.length_cons, List.length_nil, Option.some.injEq, kd, Option.map_none, Option.bind_none, reduceCtorEq, Bool.not_true, Bool.not_false, decide_true, decide_false, Nat.reduceAdd, Nat.reduceLT, Nat.reduceLeDiff, Nat.zero_add, Nat.reduceEqDiff, List.replicate, Nat.reduceSub, List.all_cons, List.all_nil, Bool.and_true, Bool.and_self, List.append_nil, lB, tW, List.map_append]
          · cases hb : pl (ls[k], k) (ls[i], i) with
            | false =>
              rw [hb] at hlt
              rw [psum_n hk hb]
              simp only [bind_k, bh_k, seqK_n, seqK_r, seq_e, expr_e, ret_e, retV_f, retV_n, retV_b, ifK_t, ifK_f, ifS_e, if_e, set_e, store_f, store_n, store_b, var_e, stl_e, stl_f, stl_n, stl_b, peek_f, peek_n, peek_b, frz_f, frz_n, frz_b, bin_e, op2_d, toVal_s, asB_e, chain_e, un_e, not_e, notT_e, andT_e, orT_e, args_n, args_c, frzs_n, frzs_c, lst_e, tup_e, call_e, peeks_n, peeks_c, opN_e, sl_e, part_n, part_s, meth_e, for_e, asgT_e, uNm_e, uTup_e, uCons_e, uNil_e, put_e, putS_e, isOw_e, mut_e, kdAt_e, mutK_e, items_e, enum_e, rng1_e, rng2_e, lc_e, dc_e, par_e, parL_n, parL_f, parL_t, unb_f, unb_n, unb_b, isNew_f, isNew_n, storeL_n, storeL_f, storeL_w, fn_e, mk_e, callK_e, frK_f, frK_n, mkK_e, mkF_e, prep_f, prep_t, prep_n, lentI_f, lentI_t, lentI_n, putOuts_n, putOuts_c, isi_e, fld_e, fldS_e, tru_e, bool_e, aug_e, sortLn_e, callFn_e, finF_x, finF_f, finF_n, outE_z, outZ_c, outZ_n, outS_w, outS_f, outS_o, lend_w, lend_f, lend_n, blk_e, wipe_n, wipe_c, free_e, dtO_n, dtO_s, entry_e, entryE_t, entryE_f, entryE_n, repl_z, outsAt_n, outsAt_f, outsAt_t, List.getElem?_cons_zero, List.getElem?_cons_succ, List.set_cons_zero, List.set_cons_succ, List.map_nil, List.map_cons, List.nil_append, List.cons_append, List.nodup_cons, List.nodup_nil, List.not_mem_nil, List.mem_cons, not_false_eq_true, and_self, and_true, true_and, or_false, false_or, if_true, reduceIte, Bool.false_eq_true, Option.bind_some, Option.map_some, List.length_cons, List.length_nil, Option.some.injEq, kd, Option.map_none, Option.bind_none, reduceCtorEq, Bool.not_true, Bool.not_false, decide_true, decide_false, Nat.reduceAdd, Nat.reduceLT, Nat.reduceLeDiff, Nat.zero_add, Nat.reduceEqDiff, List.replicate, Nat.reduceSub, List.all_cons, List.all_nil, Bool.and_true, Bool.and_self, List.append_nil, lB, tW, List.map_append, lN, ix_l, hatk, big_v, hlt]
            | true =>
              rw [hb] at hlt
              have hle := pl_le hb
              dsimp only at hle
              have hsub : ((ls[i] : Nat) : Int) - ((ls[k] : Nat) : Int) = ((ls[i] - ls[k] : Nat) : Int) := by omega
              have h2 := ltwo_ok (k := ls[i] - ls[k]) (by omega)
              have hadd : ((psum ls (ls[i], i) k : Nat) : Int) + ((2 ^ (ls[i] - ls[k]) : Nat) : Int) = ((psum ls (ls[i], i) k + 2 ^ (ls[i] - ls[k]) : Nat) : Int) := by omega
              have hs := psum_s hk hb
              dsimp only at hs
              rw [hs]
              simp only [bind_k, bh_k, seqK_n, seqK_r, seq_e, expr_e, ret_e, retV_f, retV_n, retV_b, ifK_t, ifK_f, ifS_e, if_e, set_e, store_f, store_n, store_b, var_e, stl_e, stl_f, stl_n, stl_b, peek_f, peek_n, peek_b, frz_f, frz_n, frz_b, bin_e, op2_d, toVal_s, asB_e, chain_e, un_e, not_e, notT_e, andT_e, orT_e, args_n, args_c, frzs_n, frzs_c, lst_e, tup_e, call_e, peeks_n, peeks_c, opN_e, sl_e, part_n, part_s, meth_e, for_e, asgT_e, uNm_e, uTup_e, uCons_e, uNil_e, put_e, putS_e, isOw_e, mut_e, kdAt_e, mutK_e, items_e, enum_e, rng1_e, rng2_e, lc_e, dc_e, par_e, parL_n, parL_f, parL_t, unb_f, unb_n, unb_b, isNew_f, isNew_n, storeL_n, storeL_f, storeL_w, fn_e, mk_e, callK_e, frK_f, frK_n, mkK_e, mkF_e, prep_f, prep_t, prep_n, lentI_f, lentI_t, lentI_n, putOuts_n, putOuts_c, isi_e, fld_e, fldS_e, tru_e, bool_e, aug_e, sortLn_e, callFn_e, finF_x, finF_f, finF_n, outE_z, outZ_c, outZ_n, outS_w, outS_f, outS_o, lend_w, lend_f, lend_n, blk_e, wipe_n, wipe_c, free_e, dtO_n, dtO_s, entry_e, entryE_t, entryE_f, entryE_n, repl_z, outsAt_n, outsAt_f, outsAt_t, List.getElem?_cons_zero, List.getElem?_cons_succ, List.set_cons_zero, List.set_cons_succ, List.map_nil, List.map_cons, List.nil_append, List.cons_append, List.nodup_cons, List.nodup_nil, List.not_mem_nil, List.mem_cons, not_false_eq_true, and_self, and_true, true_and, or_false, false_or, if_true, reduceIte, Bool.false_eq_true, Option.bind_some, Option.map_some, List.length_cons, List.length_nil, Option.some.injEq, kd, Option.map_none, Option.bind_none, reduceCtorEq, Bool.not_true, Bool.not_false, decide_true, decide_false, Nat.reduceAdd, Nat.reduceLT, Nat.reduceLeDiff, Nat.zero_add, Nat.reduceEqDiff, List.replicate, Nat.reduceSub, List.all_cons, List.all_nil, Bool.and_true, Bool.and_self, List.append_nil, lB, tW, List.map_append, lN, ix_l, hatk, big_v, hlt, sub_i, hsub, h2, add_i, hadd])
        (e := [.fz (lN ls), .ow true (.lst (((wordsOf ls).take i).map sB)), .fz (.int (i : Nat)), .fz (.int (ls[i] : Nat)), .fz (.int 0), s5, s6, s7]) ⟨s5, by simp [psum]⟩
      rw [rng_len, psum_all] at f1
      generalize hx : fw (prs ls) (ls[i], i) = x at f1
      obtain ⟨e2, f2, t7, rfl⟩ := forL_inv (u := uNm 7) (ps := rngP 0 ls[i]) (db := (dPar [6, 4] [(dBin semAdd (dCall semStr [(dBin semMod (dCall semInt [(dVar 4)]) (fun e => .ok (.fz (.int 2)) e))]) (dVar 6)), (dBin semDiv (dVar 4) (fun e => .ok (.fz (.int 2)) e))]))
        (fun k e => ∃ t7, e = [.fz (lN ls), .ow true (.lst (((wordsOf ls).take i).map sB)), .fz (.int (i : Nat)), .fz (.int (ls[i] : Nat)), .fz (.int (x / 2 ^ k : Nat)), t5, .fz (sB (loW x k)), t7])
        (fun k q e hq ⟨t7, he⟩ => by
          subst he
          obtain ⟨rfl, hk⟩ := rng_at hq
          have hm : (0 : Int) < 2 := by omega
          have hd : CDivW ((x / 2 ^ k : Nat) : Int) 2 := cdiv (by omega) (small (by omega) (by omega))
          have hl : (bs [(x / 2 ^ k) % 2 == 1]).length + (bs (loW x k)).length ≤ big := by rw [bs_len, bs_len, loW_len, big_v]; simp only [List.length_cons, List.length_nil]; omega
          have ea : [(x / 2 ^ k) % 2 == 1] ++ loW x k = loW x (k + 1) := rfl
          refine ⟨[.fz (lN ls), .ow true (.lst (((wordsOf ls).take i).map sB)), .fz (.int (i : Nat)), .fz (.int (ls[i] : Nat)), .fz (.int (x / 2 ^ k : Nat)), t5, .fz (sB (loW x k)), .fz (.int (k : Nat))], [.fz (lN ls), .ow true (.lst (((wordsOf ls).take i).map sB)), .fz (.int (i : Nat)), .fz (.int (ls[i] : Nat)), .fz (.int (x / 2 ^ (k + 1) : Nat)), t5, .fz (sB (loW x (k + 1))), .fz (.int (k : Nat))], ?_, ?_, _, rfl⟩
          · simp only [bind_k, bh_k, seqK_n, seqK_r, seq_e, expr_e, ret_e, retV_f, retV_n, retV_b, ifK_t, ifK_f, ifS_e, if_e, set_e, store_f, store_n, store_b, var_e, stl_e, stl_f, stl_n, stl_b, peek_f, peek_n, peek_b, frz_f, frz_n, frz_b, bin_e, op2_d, toVal_s, asB_e, chain_e, un_e, not_e, notT_e, andT_e, orT_e, args_n, args_c, frzs_n, frzs_c, lst_e, tup_e, call_e, peeks_n, peeks_c, opN_e, sl_e, part_n, part_s, meth_e, for_e, asgT_e, uNm_e, uTup_e, uCons_e, uNil_e, put_e, putS_e, isOw_e, mut_e, kdAt_e, mutK_e, items_e, enum_e, rng1_e, rng2_e, lc_e, dc_e, par_e, parL_n, parL_f, parL_t, unb_f, unb_n, unb_b, isNew_f, isNew_n, storeL_n, storeL_f, storeL_w, fn_e, mk_e, callK_e, frK_f, frK_n, mkK_e, mkF_e, prep_f, prep_t, prep_n, lentI_f, lentI_t, lentI_n, putOuts_n, putOuts_c, isi_e, fld_e, fldS_e, tru_e, bool_e, aug_e, sortLn_e, callFn_e, finF_x, finF_f, finF_n, outE_z, outZ_c, outZ_n, outS_w, outS_f, outS_o, lend_w, lend_f, lend_n, blk_e, wipe_n, wipe_c, free_e, dtO_n, dtO_s, entry_e, entryE_t, entryE_f, entryE_n, repl_z, outsAt_n, outsAt_f, outsAt_t, List.getElem?_cons_zero, List.getElem?_cons_succ, List.set_cons_zero, List.set_cons_succ, List.map_nil, List.map_cons, List.nil_append, List.cons_append, List.nodup_cons, List.nodup_nil, List.not_mem_nil, List.mem_cons, not_false_eq_true, and_self, and_true, true_and, or_false, false_or, if_true, reduceIte, Bool.false_eq_true, Option.bind_some, Option.map_some, List.length_cons, List.length_nil, Option.some.injEq, kd, Option.map_none, Option.bind_none, reduceCtorEq, Bool.not_true, Bool.not_false, decide_true, decide_false, Nat.reduceAdd, Nat.reduceLT, Nat.reduceLeDiff, Nat.zero_add, Nat.reduceEqDiff, List.replicate, Nat.reduceSub, List.all_cons, List.all_nil, Bool.and_true, Bool.and_self, List.append_nil, lB, tW, List.map_append]
          · simp only [bind_k, bh_k, seqK_n, seqK_r, seq_e, expr_e, ret_e, retV_f, retV_n, retV_b, ifK_t, ifK_f, ifS_e, if_e, set_e, store_f, store_n, store_b, var_e, stl_e, stl_f, stl_n, stl_b, peek_f, peek_n, peek_b, frz_f, frz_n, frz_b, bin_e, op2_d, toVal_s, asB_e, chain_e, un_e, not_e, notT_e, andT_e, orT_e, args_n, args_c, frzs_n, frzs_c, lst_e, tup_e, call_e, peeks_n, peeks_c, opN_e, sl_e, part_n, part_s, meth_e, for_e, asgT_e, uNm_e, uTup_e, uCons_e, uNil_e, put_e, putS_e, isOw_e, mut_e, kdAt_e, mutK_e, items_e, enum_e, rng1_e, rng2_e, lc_e, dc_e, par_e, parL_n, parL_f, parL_t, unb_f, unb_n, unb_b, isNew_f, isNew_n, storeL_n, storeL_f, storeL_w, fn_e, mk_e, callK_e, frK_f, frK_n, mkK_e, mkF_e, prep_f, prep_t, prep_n, lentI_f, lentI_t, lentI_n, putOuts_n, putOuts_c, isi_e, fld_e, fldS_e, tru_e, bool_e, aug_e, sortLn_e, callFn_e, finF_x, finF_f, finF_n, outE_z, outZ_c, outZ_n, outS_w, outS_f, outS_o, lend_w, lend_f, lend_n, blk_e, wipe_n, wipe_c, free_e, dtO_n, dtO_s, entry_e, entryE_t, entryE_f, entryE_n, repl_z, outsAt_n, outsAt_f, outsAt_t, List.getElem?_cons_zero, List.getElem?_cons_succ, List.set_cons_zero, List.set_cons_succ, List.map_nil, List.map_cons, List.nil_append, List.cons_append, List.nodup_cons, List.nodup_nil, List.not_mem_nil, List.mem_cons, not_false_eq_true, and_self, and_true, true_and, or_false, false_or, if_true, reduceIte, Bool.false_eq_true, Option.bind_some, Option.map_some, List.length_cons, List.length_nil, Option.some.injEq, kd, Option.map_none, Option.bind_none, reduceCtorEq, Bool.not_true, Bool.not_false, decide_true, decide_false, Nat.reduceAdd, Nat.reduceLT, Nat.reduceLeDiff, Nat.zero_add, Nat.reduceEqDiff, List.replicate, Nat.reduceSub, List.all_cons, List.all_nil, Bool.and_true, Bool.and_self, List.append_nil, lB, tW, List.map_append, int_i, mod_i hm, str_b, add_s hl, bs_app, div_i hd, div_p]
            rw [← ea]
            rfl)
        (e := [.fz (lN ls), .ow true (.lst (((wordsOf ls).take i).map sB)), .fz (.int (i : Nat)), .fz (.int (ls[i] : Nat)), .fz (.int (x : Nat)), t5, .fz (sB []), s7]) ⟨s7, by simp [loW]⟩
      rw [rng_len] at f2
      have hc2 : r62 ((ls[i] : Nat) : Int) = true := r62_of (by omega) (by omega)
      have happ : semAppend (.lst (((wordsOf ls).take i).map sB)) [sB (loW x ls[i])] = some (.lst (((wordsOf ls).take i).map sB ++ [sB (loW x ls[i])]), .non) := app_l (by rw [List.length_map, List.length_take, big_v]; omega)
      have hw : wordOf ls (ls[i], i) = loW x ls[i] := by unfold wordOf; rw [hx]
      refine ⟨[.fz (lN ls), .ow true (.lst (((wordsOf ls).take i).map sB)), .fz (.int (i : Nat)), s3, s4, s5, s6, s7], [.fz (lN ls), .ow true (.lst (((wordsOf ls).take (i + 1)).map sB)), .fz (.int (i : Nat)), .fz (.int (ls[i] : Nat)), .fz (.int (x / 2 ^ ls[i] : Nat)), t5, .fz (sB (loW x ls[i])), t7], ?_, ?_, .fz (.int (i : Nat)), .fz (.int (ls[i] : Nat)), .fz (.int (x / 2 ^ ls[i] : Nat)), t5, .fz (sB (loW x ls[i])), t7, rfl⟩
      · simp only [bind_k, bh_k, seqK_n, seqK_r, seq_e, expr_e, ret_e, retV_f, retV_n, retV_b, ifK_t, ifK_f, ifS_e, if_e, set_e, store_f, store_n, store_b, var_e, stl_e, stl_f, stl_n, stl_b, peek_f, peek_n, peek_b, frz_f, frz_n, frz_b, bin_e, op2_d, toVal_s, asB_e, chain_e, un_e, not_e, notT_e, andT_e, orT_e, args_n, args_c, frzs_n, frzs_c, lst_e, tup_e, call_e, peeks_n, peeks_c, opN_e, sl_e, part_n, part_s, meth_e, for_e, asgT_e, uNm_e, uTup_e, uCons_e, uNil_e, put_e, putS_e, isOw_e, mut_e, kdAt_e, mutK_e, items_e, enum_e, rng1_e, rng2_e, lc_e, dc_e, par_e, parL_n, parL_f, parL_t, unb_f, unb_n, unb_b, isNew_f, isNew_n, storeL_n, storeL_f, storeL_w, fn_e, mk_e, callK_e, frK_f, frK_n, mkK_e, mkF_e, prep_f, prep_t, prep_n, lentI_f, lentI_t, lentI_n, putOuts_n, putOuts_c, isi_e, fld_e, fldS_e, tru_e, bool_e, aug_e, sortLn_e, callFn_e, finF_x, finF_f, finF_n, outE_z, outZ_c, outZ_n, outS_w, outS_f, outS_o, lend_w, lend_f, lend_n, blk_e, wipe_n, wipe_c, free_e, dtO_n, dtO_s, entry_e, entryE_t, entryE_f, entryE_n, repl_z, outsAt_n, outsAt_f, outsAt_t, List.getElem?_cons_zero, List.getElem?_cons_succ, List.set_cons_zero, List.set_cons_succ, List.map_nil, List.map_cons, List.nil_append, List.cons_append, List.nodup_cons, List.nodup_nil, List.not_mem_nil, List.mem_cons, not_false_eq_true, and_self, and_true, true_and, or_false, false_or, if_true, reduceIte, Bool.false_eq_true, Option.bind_some, Option.map_some, List.length_cons, List.length_nil, Option.some.injEq, kd, Option.map_none, Option.bind_none, reduceCtorEq, Bool.not_true, Bool.not_false, decide_true, decide_false, Nat.reduceAdd, Nat.reduceLT, Nat.reduceLeDiff, Nat.zero_add, Nat.reduceEqDiff, List.replicate, Nat.reduceSub, List.all_cons, List.all_nil, Bool.and_true, Bool.and_self, List.append_nil, lB, tW, List.map_append]
      · rw [words_take hi, hw]
        simp only [bind_k, bh_k, seqK_n, seqK_r, seq_e, expr_e, ret_e, retV_f, retV_n, retV_b, ifK_t, ifK_f, ifS_e, if_e, set_e, store_f, store_n, store_b, var_e, stl_e, stl_f, stl_n, stl_b, peek_f, peek_n, peek_b, frz_f, frz_n, frz_b, bin_e, op2_d, toVal_s, asB_e, chain_e, un_e, not_e, notT_e, andT_e, orT_e, args_n, args_c, frzs_n, frzs_c, lst_e, tup_e, call_e, peeks_n, peeks_c, opN_e, sl_e, part_n, part_s, meth_e, for_e, asgT_e, uNm_e, uTup_e, uCons_e, uNil_e, put_e, putS_e, isOw_e, mut_e, kdAt_e, mutK_e, items_e, enum_e, rng1_e, rng2_e, lc_e, dc_e, par_e, parL_n, parL_f, parL_t, unb_f, unb_n, unb_b, isNew_f, isNew_n, storeL_n, storeL_f, storeL_w, fn_e, mk_e, callK_e, frK_f, frK_n, mkK_e, mkF_e, prep_f, prep_t, prep_n, lentI_f, lentI_t, lentI_n, putOuts_n, putOuts_c, isi_e, fld_e, fldS_e, tru_e, bool_e, aug_e, sortLn_e, callFn_e, finF_x, finF_f, finF_n, outE_z, outZ_c, outZ_n, outS_w, outS_f, outS_o, lend_w, lend_f, lend_n, blk_e, wipe_n, wipe_c, free_e, dtO_n, dtO_s, entry_e, entryE_t, entryE_f, entryE_n, repl_z, outsAt_n, outsAt_f, outsAt_t, List.getElem?_cons_zero, List.getElem?_cons_succ, List.set_cons_zero, List.set_cons_succ, List.map_nil, List.map_cons, List.nil_append, List.cons_append, List.nodup_cons, List.nodup_nil, List.not_mem_nil, List.mem_cons, not_false_eq_true, and_self, and_true, true_and, or_false, false_or, if_true, reduceIte, Bool.false_eq_true, Option.bind_some, Option.map_some, List.length_cons, List.length_nil, Option.some.injEq, kd, Option.map_none, Option.bind_none, reduceCtorEq, Bool.not_true, Bool.not_false, decide_true, decide_false, Nat.reduceAdd, Nat.reduceLT, Nat.reduceLeDiff, Nat.zero_add, Nat.reduceEqDiff, List.replicate, Nat.reduceSub, List.all_cons, List.all_nil, Bool.and_true, Bool.and_self, List.append_nil, lB, tW, List.map_append, lN, ix_l, hat, len_l, hln, hc0, Int.toNat_natCast, bs_e] at f1 f2 ⊢
        simp only [bind_k, bh_k, seqK_n, seqK_r, seq_e, expr_e, ret_e, retV_f, retV_n, retV_b, ifK_t, ifK_f, ifS_e, if_e, set_e, store_f, store_n, store_b, var_e, stl_e, stl_f, stl_n, stl_b, peek_f, peek_n, peek_b, frz_f, frz_n, frz_b, bin_e, op2_d, toVal_s, asB_e, chain_e, un_e, not_e, notT_e, andT_e, orT_e, args_n, args_c, frzs_n, frzs_c, lst_e, tup_e, call_e, peeks_n, peeks_c, opN_e, sl_e, part_n, part_s, meth_e, for_e, asgT_e, uNm_e, uTup_e, uCons_e, uNil_e, put_e, putS_e, isOw_e, mut_e, kdAt_e, mutK_e, items_e, enum_e, rng1_e, rng2_e, lc_e, dc_e, par_e, parL_n, parL_f, parL_t, unb_f, unb_n, unb_b, isNew_f, isNew_n, storeL_n, storeL_f, storeL_w, fn_e, mk_e, callK_e, frK_f, frK_n, mkK_e, mkF_e, prep_f, prep_t, prep_n, lentI_f, lentI_t, lentI_n, putOuts_n, putOuts_c, isi_e, fld_e, fldS_e, tru_e, bool_e, aug_e, sortLn_e, callFn_e, finF_x, finF_f, finF_n, outE_z, outZ_c, outZ_n, outS_w, outS_f, outS_o, lend_w, lend_f, lend_n, blk_e, wipe_n, wipe_c, free_e, dtO_n, dtO_s, entry_e, entryE_t, entryE_f, entryE_n, repl_z, outsAt_n, outsAt_f, outsAt_t, List.getElem?_cons_zero, List.getElem?_cons_succ, List.set_cons_zero, List.set_cons_succ, List.map_nil, List.map_cons, List.nil_append, List.cons_append, List.nodup_cons, List.nodup_nil, List.not_mem_nil, List.mem_cons, not_false_eq_true, and_self, and_true, true_and, or_false, false_or, if_true, reduceIte, Bool.false_eq_true, Option.bind_some, Option.map_some, List.length_cons, List.length_nil, Option.some.injEq, kd, Option.map_none, Option.bind_none, reduceCtorEq, Bool.not_true, Bool.not_false, decide_true, decide_false, Nat.reduceAdd, Nat.reduceLT, Nat.reduceLeDiff, Nat.zero_add, Nat.reduceEqDiff, List.replicate, Nat.reduceSub, List.all_cons, List.all_nil, Bool.and_true, Bool.and_self, List.append_nil, lB, tW, List.map_append, f1, hc2, Int.toNat_natCast, f2, happ])
    (e := [.fz (lN ls), .ow true (.lst []), .no, .no, .no, .no, .no, .no]) ⟨.no, .no, .no, .no, .no, .no, rfl⟩
  rw [rng_len, List.take_of_length_le (by rw [words_len]; exact Nat.le_refl _)] at h1
  unfold F_law_words d_law_words
  simp only [bind_k, bh_k, seqK_n, seqK_r, seq_e, expr_e, ret_e, retV_f, retV_n, retV_b, ifK_t, ifK_f, ifS_e, if_e, set_e, store_f, store_n, store_b, var_e, stl_e, stl_f, stl_n, stl_b, peek_f, peek_n, peek_b, frz_f, frz_n, frz_b, bin_e, op2_d, toVal_s, asB_e, chain_e, un_e, not_e, notT_e, andT_e, orT_e, args_n, args_c, frzs_n, frzs_c, lst_e, tup_e, call_e, peeks_n, peeks_c, opN_e, sl_e, part_n, part_s, meth_e, for_e, asgT_e, uNm_e, uTup_e, uCons_e, uNil_e, put_e, putS_e, isOw_e, mut_e, kdAt_e, mutK_e, items_e, enum_e, rng1_e, rng2_e, lc_e, dc_e, par_e, parL_n, parL_f, parL_t, unb_f, unb_n, unb_b, isNew_f, isNew_n, storeL_n, storeL_f, storeL_w, fn_e, mk_e, callK_e, frK_f, frK_n, mkK_e, mkF_e, prep_f, prep_t, prep_n, lentI_f, lentI_t, lentI_n, putOuts_n, putOuts_c, isi_e, fld_e, fldS_e, tru_e, bool_e, aug_e, sortLn_e, callFn_e, finF_x, finF_f, finF_n, outE_z, outZ_c, outZ_n, outS_w, outS_f, outS_o, lend_w, lend_f, lend_n, blk_e, wipe_n, wipe_c, free_e, dtO_n, dtO_s, entry_e, entryE_t, entryE_f, entryE_n, repl_z, outsAt_n, outsAt_f, outsAt_t, List.getElem?_cons_zero, List.getElem?_cons_succ, List.set_cons_zero, List.set_cons_succ, List.map_nil, List.map_cons, List.nil_append, List.cons_append, List.nodup_cons, List.nodup_nil, List.not_mem_nil, List.mem_cons, not_false_eq_true, and_self, and_true, true_and, or_false, false_or, if_true, reduceIte, Bool.false_eq_true, Option.bind_some, Option.map_some, List.length_cons, List.length_nil, Option.some.injEq, kd, Option.map_none, Option.bind_none, reduceCtorEq, Bool.not_true, Bool.not_false, decide_true, decide_false, Nat.reduceAdd, Nat.reduceLT, Nat.reduceLeDiff, Nat.zero_add, Nat.reduceEqDiff, List.replicate, Nat.reduceSub, List.all_cons, List.all_nil, Bool.and_true, Bool.and_self, List.append_nil, lB, tW, List.map_append, lN] at h1
  simp only [bind_k, bh_k, seqK_n, seqK_r, seq_e, expr_e, ret_e, retV_f, retV_n, retV_b, ifK_t, ifK_f, ifS_e, if_e, set_e, store_f, store_n, store_b, var_e, stl_e, stl_f, stl_n, stl_b, peek_f, peek_n, peek_b, frz_f, frz_n, frz_b, bin_e, op2_d, toVal_s, asB_e, chain_e, un_e, not_e, notT_e, andT_e, orT_e, args_n, args_c, frzs_n, frzs_c, lst_e, tup_e, call_e, peeks_n, peeks_c, opN_e, sl_e, part_n, part_s, meth_e, for_e, asgT_e, uNm_e, uTup_e, uCons_e, uNil_e, put_e, putS_e, isOw_e, mut_e, kdAt_e, mutK_e, items_e, enum_e, rng1_e, rng2_e, lc_e, dc_e, par_e, parL_n, parL_f, parL_t, unb_f, unb_n, unb_b, isNew_f, isNew_n, storeL_n, storeL_f, storeL_w, fn_e, mk_e, callK_e, frK_f, frK_n, mkK_e, mkF_e, prep_f, prep_t, prep_n, lentI_f, lentI_t, lentI_n, putOuts_n, putOuts_c, isi_e, fld_e, fldS_e, tru_e, bool_e, aug_e, sortLn_e, callFn_e, finF_x, finF_f, finF_n, outE_z, outZ_c, outZ_n, outS_w, outS_f, outS_o, lend_w, lend_f, lend_n, blk_e, wipe_n, wipe_c, free_e, dtO_n, dtO_s, entry_e, entryE_t, entryE_f, entryE_n, repl_z, outsAt_n, outsAt_f, outsAt_t, List.getElem?_cons_zero, List.getElem?_cons_succ, List.set_cons_zero, List.set_cons_succ, List.map_nil, List.map_cons, List.nil_append, List.cons_append, List.nodup_cons, List.nodup_nil, List.not_mem_nil, List.mem_cons, not_false_eq_true, and_self, and_true, true_and, or_false, false_or, if_true, reduceIte, Bool.false_eq_true, Option.bind_some, Option.map_some, List.length_cons, List.length_nil, Option.some.injEq, kd, Option.map_none, Option.bind_none, reduceCtorEq, Bool.not_true, Bool.not_false, decide_true, decide_false, Nat.reduceAdd, Nat.reduceLT, Nat.reduceLeDiff, Nat.zero_add, Nat.reduceEqDiff, List.replicate, Nat.reduceSub, List.all_cons, List.all_nil, Bool.and_true, Bool.and_self, List.append_nil, lB, tW, List.map_append, lN, len_l, hln, hc0, Int.toNat_natCast, big_v, h1, tuple_l]
end K37

set_option maxRecDepth 100000
set_option maxHeartbeats 4000000
namespace K37
open PySem PySem.Spec L2 VL
open PyProof.Rows hiding St
theorem newK_e {e : Env'} : dNewK e = .ok (.new (.dK [] [])) e := id rfl
abbrev keyS (q : Nat × Nat) : Key := Sum.inl ((q.2 : Nat) : Int)
theorem canon_ok {ls : List Nat} (g : GL ls) (h26 : ls.length ≤ 26) (h2 : 2 ≤ ls.length) : F_canonical [tN ls] = .ok (.fz (tW (wordsOf ls))) [] := by
  have hln : (ls.map fun n => PV.int (n : Nat)).length = ls.length := List.length_map ..
  have hc0 : r62 ((ls.length : Nat) : Int) = true := r62_of (by omega) (by omega)
  have hne : ls ≠ [] := by rintro rfl; simp at h2
  have hQl : (srtL ls).length = ls.length := by rw [(srtL_perm ls).length_eq, prs_len]
  have hQm : ∀ {q}, q ∈ srtL ls → q ∈ prs ls := fun h => (srtL_perm ls).mem_iff.mp h
  -- the pairs
  obtain ⟨acc, e0, f0, ha, rfl⟩ := lcL_inv (vs := [5, 4]) (u := uTup 2 (uCons (uNm 5) (uCons (uNm 4) uNil))) (dt := none) (de := (dTup [(dVar 4), (dVar 5)])) (ps := numL (ls.map fun n => PV.int (n : Nat)))
    (fun i acc e => acc = ((prs ls).take i).map cpP ∧ e = [.fz (tN ls), .ow true (.dK [] []), .fz (.int 0), .fz (.int 0), .no, .no])
    (fun i q acc e hq ⟨ha, he⟩ => by
      subst ha he
      obtain ⟨hi, rfl⟩ := nuL_at hq
      rw [hln] at hi
      rw [List.getElem_map]
      refine ⟨rfl, [.fz (tN ls), .ow false (.dK [] []), .fz (.int 0), .fz (.int 0), .fz (.int (ls[i] : Nat)), .fz (.int (i : Nat))], ?_, .inr ⟨[.fz (tN ls), .ow false (.dK [] []), .fz (.int 0), .fz (.int 0), .fz (.int (ls[i] : Nat)), .fz (.int (i : Nat))], .fz (cpP (ls[i], i)), [.fz (tN ls), .ow false (.dK [] []), .fz (.int 0), .fz (.int 0), .fz (.int (ls[i] : Nat)), .fz (.int (i : Nat))], cpP (ls[i], i), [.fz (tN ls), .ow false (.dK [] []), .fz (.int 0), .fz (.int 0), .fz (.int (ls[i] : Nat)), .fz (.int (i : Nat))], rfl, ?_, rfl, ?_, ?_, ?_⟩⟩
      · simp only [bind_k, bh_k, seqK_n, seqK_r, seq_e, expr_e, ret_e, retV_f, retV_n, retV_b, ifK_t, ifK_f, ifS_e, if_e, set_e, store_f, store_n, store_b, var_e, stl_e, stl_f, stl_n, stl_b, peek_f, peek_n, peek_b, frz_f, frz_n, frz_b, bin_e, op2_d, toVal_s, asB_e, chain_e, un_e, not_e, notT_e, andT_e, orT_e, args_n, args_c, frzs_n, frzs_c, lst_e, tup_e, call_e, peeks_n, peeks_c, opN_e, sl_e, part_n, part_s, meth_e, for_e, asgT_e, uNm_e, uTup_e, uCons_e, uNil_e, put_e, putS_e, isOw_e, mut_e, kdAt_e, mutK_e, items_e, enum_e, rng1_e, rng2_e, lc_e, dc_e, par_e, parL_n, parL_f, parL_t, unb_f, unb_n, unb_b, isNew_f, isNew_n, storeL_n, storeL_f, storeL_w, fn_e, mk_e, callK_e, frK_f, frK_n, mkK_e, mkF_e, prep_f, prep_t, prep_n, lentI_f, lentI_t, lentI_n, putOuts_n, putOuts_c, isi_e, fld_e, fldS_e, tru_e, bool_e, aug_e, sortLn_e, callFn_e, finF_x, finF_f, finF_n, outE_z, outZ_c, outZ_n, outS_w, outS_f, outS_o, lend_w, lend_f, lend_n, blk_e, wipe_n, wipe_c, free_e, dtO_n, dtO_s, entry_e, entryE_t, entryE_f, entryE_n, repl_z, outsAt_n, outsAt_f, outsAt_t, List.getElem?_cons_zero, List.getElem?_cons_succ, List.set_cons_zero, List.set_cons_succ, List.map_nil, List.map_cons, List.nil_append, List.cons_append, List.nodup_cons, List.nodup_nil, List.not_mem_nil, List.mem_cons, not_false_eq_true, and_self, and_true, true_and, or_false, false_or, if_true, reduceIte, Bool.false_eq_true, Option.bind_some, Option.map_some, List.length_cons, List.length_nil, Option.some.injEq, kd, Option.map_none, Option.bind_none, reduceCtorEq, Bool.not_true, Bool.not_false, decide_true, decide_false, Nat.reduceAdd, Nat.reduceLT, Nat.reduceLeDiff, Nat.zero_add, Nat.reduceEqDiff, List.replicate, Nat.reduceSub, List.all_cons, List.all_nil, Bool.and_true, Bool.and_self, List.append_nil, lB, tW, List.map_append]
      · simp only [bind_k, bh_k, seqK_n, seqK_r, seq_e, expr_e, ret_e, retV_f, retV_n, retV_b, ifK_t, ifK_f, ifS_e, if_e, set_e, store_f, store_n, store_b, var_e, stl_e, stl_f, stl_n, stl_b, peek_f, peek_n, peek_b, frz_f, frz_n, frz_b, bin_e, op2_d, toVal_s, asB_e, chain_e, un_e, not_e, notT_e, andT_e, orT_e, args_n, args_c, frzs_n, frzs_c, lst_e, tup_e, call_e, peeks_n, peeks_c, opN_e, sl_e, part_n, part_s, meth_e, for_e, asgT_e, uNm_e, uTup_e, uCons_e, uNil_e, put_e, putS_e, isOw_e, mut_e, kdAt_e, mutK_e, items_e, enum_e, rng1_e, rng2_e, lc_e, dc_e, par_e, parL_n, parL_f, parL_t, unb_f, unb_n, unb_b, isNew_f, isNew_n, storeL_n, storeL_f, storeL_w, fn_e, mk_e, callK_e, frK_f, frK_n, mkK_e, mkF_e, prep_f, prep_t, prep_n, lentI_f, lentI_t, lentI_n, putOuts_n, putOuts_c, isi_e, fld_e, fldS_e, tru_e, bool_e, aug_e, sortLn_e, callFn_e, finF_x, finF_f, finF_n, outE_z, outZ_c, outZ_n, outS_w, outS_f, outS_o, lend_w, lend_f, lend_n, blk_e, wipe_n, wipe_c, free_e, dtO_n, dtO_s, entry_e, entryE_t, entryE_f, entryE_n, repl_z, outsAt_n, outsAt_f, outsAt_t, List.getElem?_cons_zero, List.getElem?_cons_succ, List.set_cons_zero, List.set_cons_succ, List.map_nil, List.map_cons, List.nil_append, List.cons_append, List.nodup_cons, List.nodup_nil, List.not_mem_nil, List.mem_cons, not_false_eq_true, and_self, and_true, true_and, or_false, false_or, if_true, reduceIte, Bool.false_eq_true, Option.bind_some, Option.map_some, List.length_cons, List.length_nil, Option.some.injEq, kd, Option.map_none, Option.bind_none, reduceCtorEq, Bool.not_true, Bool.not_false, decide_true, decide_false, Nat.reduceAdd, Nat.reduceLT, Nat.reduceLeDiff, Nat.zero_add, Nat.reduceEqDiff, List.replicate, Nat.reduceSub, List.all_cons, List.all_nil, Bool.and_true, Bool.and_self, List.append_nil, lB, tW, List.map_append, big_v]
      · rw [List.length_map, List.length_take, big_v]; omega
      · rw [prs_take hi, List.map_append]; rfl
      · simp only [bind_k, bh_k, seqK_n, seqK_r, seq_e, expr_e, ret_e, retV_f, retV_n, retV_b, ifK_t, ifK_f, ifS_e, if_e, set_e, store_f, store_n, store_b, var_e, stl_e, stl_f, stl_n, stl_b, peek_f, peek_n, peek_b, frz_f, frz_n, frz_b, bin_e, op2_d, toVal_s, asB_e, chain_e, un_e, not_e, notT_e, andT_e, orT_e, args_n, args_c, frzs_n, frzs_c, lst_e, tup_e, call_e, peeks_n, peeks_c, opN_e, sl_e, part_n, part_s, meth_e, for_e, asgT_e, uNm_e, uTup_e, uCons_e, uNil_e, put_e, putS_e, isOw_e, mut_e, kdAt_e, mutK_e, items_e, enum_e, rng1_e, rng2_e, lc_e, dc_e, par_e, parL_n, parL_f, parL_t, unb_f, unb_n, unb_b, isNew_f, isNew_n, storeL_n, storeL_f, storeL_w, fn_e, mk_e, callK_e, frK_f, frK_n, mkK_e, mkF_e, prep_f, prep_t, prep_n, lentI_f, lentI_t, lentI_n, putOuts_n, putOuts_c, isi_e, fld_e, fldS_e, tru_e, bool_e, aug_e, sortLn_e, callFn_e, finF_x, finF_f, finF_n, outE_z, outZ_c, outZ_n, outS_w, outS_f, outS_o, lend_w, lend_f, lend_n, blk_e, wipe_n, wipe_c, free_e, dtO_n, dtO_s, entry_e, entryE_t, entryE_f, entryE_n, repl_z, outsAt_n, outsAt_f, outsAt_t, List.getElem?_cons_zero, List.getElem?_cons_succ, List.set_cons_zero, List.set_cons_succ, List.map_nil, List.map_cons, List.nil_append, List.cons_append, List.nodup_cons, List.nodup_nil, List.not_mem_nil, List.mem_cons, not_false_eq_true, and_self, and_true, true_and, or_false, false_or, if_true, reduceIte, Bool.false_eq_true, Option.bind_some, Option.map_some, List.length_cons, List.length_nil, Option.some.injEq, kd, Option.map_none, Option.bind_none, reduceCtorEq, Bool.not_true, Bool.not_false, decide_true, decide_false, Nat.reduceAdd, Nat.reduceLT, Nat.reduceLeDiff, Nat.zero_add, Nat.reduceEqDiff, List.replicate, Nat.reduceSub, List.all_cons, List.all_nil, Bool.and_true, Bool.and_self, List.append_nil, lB, tW, List.map_append])
    (acc := []) (e := [.fz (tN ls), .ow true (.dK [] []), .fz (.int 0), .fz (.int 0), .no, .no]) ⟨by simp, rfl⟩
  rw [nuL_len, hln, List.take_of_length_le (by rw [prs_len]; exact Nat.le_refl _)] at ha
  subst ha
  -- the words in order
  obtain ⟨e1, f1, x, sz, s4, s5, rfl, _, _, _, hs5⟩ := forL_inv (u := uTup 2 (uCons (uNm 4) (uCons (uNm 5) uNil))) (ps := (srtL ls).map cpP) (db := (dSeq (dSet 2 (dBin semMul (dVar 2) (dFn [false] F_two_to [] [(dBin semSub (dVar 4) (dVar 3))]))) (dSeq (dSet 3 (dVar 4)) (dSeq (dPut 1 (dVar 5) (dFn [false, false] F_bits_of [] [(dVar 2), (dVar 3)])) (dAug 2 aAdd (fun e => .ok (.fz (.int 1)) e))))))
    (fun k e => ∃ x sz s4 s5, e = [.fz (tN ls), .ow true (.dK (((srtL ls).take k).map keyS) (((srtL ls).take k).map fun q => sB (wordOf ls q))), .fz (.int (x : Nat)), .fz (.int (sz : Nat)), s4, s5] ∧
      x = (((srtL ls).take k).map fun q => 2 ^ (sz - q.1)).sum ∧ (∀ q ∈ (srtL ls).take k, q.1 ≤ sz) ∧ (∀ j (h : j < (srtL ls).length), k ≤ j → sz ≤ (srtL ls)[j].1) ∧ (s5 = .no ∨ ∃ p, s5 = .fz p))
    (fun k q e hq ⟨x, sz, s4, s5, he, hx, hle, hnx, _⟩ => by
      subst he
      obtain ⟨hk, rfl⟩ := map_at hq
      have hm := hQm (List.getElem_mem hk)
      have h25 := g.le25 h26 hm
      have hsz := hnx k hk (Nat.le_refl _)
      have srt := srtL_srt ls
      have hfw := fw_srt (ls := ls) (srtL_perm ls) srt hk
      have hlt := g.fw_lt h26 hm
      have hx2 : x * 2 ^ ((srtL ls)[k].1 - sz) = fw (prs ls) (srtL ls)[k] := by
        rw [hx, sum_mul, hfw]
        congr 1
        exact List.map_congr_left fun q hq => pow_split (hle q hq) hsz
      have hb25 : 2 ^ (srtL ls)[k].1 ≤ 33554432 := Nat.pow_le_pow_right (n := 2) (by omega) (show (srtL ls)[k].1 ≤ 25 from h25)
      have hp1 : 1 ≤ 2 ^ ((srtL ls)[k].1 - sz) := Nat.pow_pos (by omega)
      have hp2 : 2 ^ ((srtL ls)[k].1 - sz) ≤ 33554432 := Nat.pow_le_pow_right (n := 2) (by omega) (show (srtL ls)[k].1 - sz ≤ 25 by omega)
      have hxb : x ≤ 33554432 := by
        have := Nat.le_mul_of_pos_right x hp1
        omega
      have h2t := two_ok (k := (srtL ls)[k].1 - sz) (by omega)
      have hsub : (((srtL ls)[k].1 : Nat) : Int) - ((sz : Nat) : Int) = (((srtL ls)[k].1 - sz : Nat) : Int) := by omega
      have hmul : CMulX ((x : Nat) : Int) ((2 ^ ((srtL ls)[k].1 - sz) : Nat) : Int) := cmul (small (by omega) (by omega)) (small (by omega) (by omega))
      have hmu : ((x : Nat) : Int) * ((2 ^ ((srtL ls)[k].1 - sz) : Nat) : Int) = ((fw (prs ls) (srtL ls)[k] : Nat) : Int) := by rw [← hx2]; exact (Int.natCast_mul _ _).symm
      have hbits := bits_ok (x := fw (prs ls) (srtL ls)[k]) (k := (srtL ls)[k].1) (by omega) (by omega)
      have hw : loW (fw (prs ls) (srtL ls)[k]) (srtL ls)[k].1 = wordOf ls (srtL ls)[k] := rfl
      rw [hw] at hbits
      have hnk : keyS (srtL ls)[k] ∉ ((srtL ls).take k).map keyS := by
        intro z
        obtain ⟨q, hq, e⟩ := List.mem_map.mp z
        have e2 : q.2 = (srtL ls)[k].2 := by have := Sum.inl.inj e; omega
        have := prs_uniq (hQm (List.mem_of_mem_take hq)) hm e2
        subst this
        have hh := srt_take srt hk
        rw [← hh] at hq
        have := (List.mem_filter.mp hq).2
        rw [pl_irr] at this
        cases this
      have hput : semPut (.dK (((srtL ls).take k).map keyS) (((srtL ls).take k).map fun q => sB (wordOf ls q))) (.int ((srtL ls)[k].2 : Nat)) (sB (wordOf ls (srtL ls)[k])) = some (.dK (((srtL ls).take (k + 1)).map keyS) (((srtL ls).take (k + 1)).map fun q => sB (wordOf ls q))) := by
        rw [put_k, key_i]
        dsimp only
        rw [if_pos (by rw [List.length_map, List.length_take, big_v]; omega), put_new hnk, take_at hk, List.map_append, List.map_append]
        rfl
      have hadd : aAdd ((fw (prs ls) (srtL ls)[k] : Nat) : Int) 1 = some ((fw (prs ls) (srtL ls)[k] + 1 : Nat) : Int) := rfl
      refine ⟨[.fz (tN ls), .ow true (.dK (((srtL ls).take k).map keyS) (((srtL ls).take k).map fun q => sB (wordOf ls q))), .fz (.int (x : Nat)), .fz (.int (sz : Nat)), .fz (.int ((srtL ls)[k].1 : Nat)), .fz (.int ((srtL ls)[k].2 : Nat))],
        [.fz (tN ls), .ow true (.dK (((srtL ls).take (k + 1)).map keyS) (((srtL ls).take (k + 1)).map fun q => sB (wordOf ls q))), .fz (.int (fw (prs ls) (srtL ls)[k] + 1 : Nat)), .fz (.int ((srtL ls)[k].1 : Nat)), .fz (.int ((srtL ls)[k].1 : Nat)), .fz (.int ((srtL ls)[k].2 : Nat))], ?_, ?_, fw (prs ls) (srtL ls)[k] + 1, (srtL ls)[k].1, _, _, rfl, ?_, ?_, ?_, .inr ⟨_, rfl⟩⟩
      · simp only [bind_k, bh_k, seqK_n, seqK_r, seq_e, expr_e, ret_e, retV_f, retV_n, retV_b, ifK_t, ifK_f, ifS_e, if_e, set_e, store_f, store_n, store_b, var_e, stl_e, stl_f, stl_n, stl_b, peek_f, peek_n, peek_b, frz_f, frz_n, frz_b, bin_e, op2_d, toVal_s, asB_e, chain_e, un_e, not_e, notT_e, andT_e, orT_e, args_n, args_c, frzs_n, frzs_c, lst_e, tup_e, call_e, peeks_n, peeks_c, opN_e, sl_e, part_n, part_s, meth_e, for_e, asgT_e, uNm_e, uTup_e, uCons_e, uNil_e, put_e, putS_e, isOw_e, mut_e, kdAt_e, mutK_e, items_e, enum_e, rng1_e, rng2_e, lc_e, dc_e, par_e, parL_n, parL_f, parL_t, unb_f, unb_n, unb_b, isNew_f, isNew_n, storeL_n, storeL_f, storeL_w, fn_e, mk_e, callK_e, frK_f, frK_n, mkK_e, mkF_e, prep_f, prep_t, prep_n, lentI_f, lentI_t, lentI_n, putOuts_n, putOuts_c, isi_e, fld_e, fldS_e, tru_e, bool_e, aug_e, sortLn_e, callFn_e, finF_x, finF_f, finF_n, outE_z, outZ_c, outZ_n, outS_w, outS_f, outS_o, lend_w, lend_f, lend_n, blk_e, wipe_n, wipe_c, free_e, dtO_n, dtO_s, entry_e, entryE_t, entryE_f, entryE_n, repl_z, outsAt_n, outsAt_f, outsAt_t, List.getElem?_cons_zero, List.getElem?_cons_succ, List.set_cons_zero, List.set_cons_succ, List.map_nil, List.map_cons, List.nil_append, List.cons_append, List.nodup_cons, List.nodup_nil, List.not_mem_nil, List.mem_cons, not_false_eq_true, and_self, and_true, true_and, or_false, false_or, if_true, reduceIte, Bool.false_eq_true, Option.bind_some, Option.map_some, List.length_cons, List.length_nil, Option.some.injEq, kd, Option.map_none, Option.bind_none, reduceCtorEq, Bool.not_true, Bool.not_false, decide_true, decide_false, Nat.reduceAdd, Nat.reduceLT, Nat.reduceLeDiff, Nat.zero_add, Nat.reduceEqDiff, List.replicate, Nat.reduceSub, List.all_cons, List.all_nil, Bool.and_true, Bool.and_self, List.append_nil, lB, tW, List.map_append]
      · simp only [bind_k, bh_k, seqK_n, seqK_r, seq_e, expr_e, ret_e, retV_f, retV_n, retV_b, ifK_t, ifK_f, ifS_e, if_e, set_e, store_f, store_n, store_b, var_e, stl_e, stl_f, stl_n, stl_b, peek_f, peek_n, peek_b, frz_f, frz_n, frz_b, bin_e, op2_d, toVal_s, asB_e, chain_e, un_e, not_e, notT_e, andT_e, orT_e, args_n, args_c, frzs_n, frzs_c, lst_e, tup_e, call_e, peeks_n, peeks_c, opN_e, sl_e, part_n, part_s, meth_e, for_e, asgT_e, uNm_e, uTup_e, uCons_e, uNil_e, put_e, putS_e, isOw_e, mut_e, kdAt_e, mutK_e, items_e, enum_e, rng1_e, rng2_e, lc_e, dc_e, par_e, parL_n, parL_f, parL_t, unb_f, unb_n, unb_b, isNew_f, isNew_n, storeL_n, storeL_f, storeL_w, fn_e, mk_e, callK_e, frK_f, frK_n, mkK_e, mkF_e, prep_f, prep_t, prep_n, lentI_f, lentI_t, lentI_n, putOuts_n, putOuts_c, isi_e, fld_e, fldS_e, tru_e, bool_e, aug_e, sortLn_e, callFn_e, finF_x, finF_f, finF_n, outE_z, outZ_c, outZ_n, outS_w, outS_f, outS_o, lend_w, lend_f, lend_n, blk_e, wipe_n, wipe_c, free_e, dtO_n, dtO_s, entry_e, entryE_t, entryE_f, entryE_n, repl_z, outsAt_n, outsAt_f, outsAt_t, List.getElem?_cons_zero, List.getElem?_cons_succ, List.set_cons_zero, List.set_cons_succ, List.map_nil, List.map_cons, List.nil_append, List.cons_append, List.nodup_cons, List.nodup_nil, List.not_mem_nil, List.mem_cons, not_false_eq_true, and_self, and_true, true_and, or_false, false_or, if_true, reduceIte, Bool.false_eq_true, Option.bind_some, Option.map_some, List.length_cons, List.length_nil, Option.some.injEq, kd, Option.map_none, Option.bind_none, reduceCtorEq, Bool.not_true, Bool.not_false, decide_true, decide_false, Nat.reduceAdd, Nat.reduceLT, Nat.reduceLeDiff, Nat.zero_add, Nat.reduceEqDiff, List.replicate, Nat.reduceSub, List.all_cons, List.all_nil, Bool.and_true, Bool.and_self, List.append_nil, lB, tW, List.map_append, sub_i, hsub, h2t, mul_i hmul, hmu, hbits, hput, hadd]
      · rw [take_at hk, List.map_append, List.sum_append, hfw]
        simp
      · intro q hq
        rw [take_at hk] at hq
        rcases List.mem_append.mp hq with z | z
        · have := hle q z; omega
        · have : q = (srtL ls)[k] := by simpa using z
          rw [this]; exact Nat.le_refl _
      · intro j hj hkj
        exact pl_le (List.pairwise_iff_getElem.mp srt k j hk hj (by omega)))
    (e := [.fz (tN ls), .ow true (.dK [] []), .fz (.int 0), .fz (.int 0), .no, .no]) ⟨0, 0, .no, .no, rfl, rfl, (fun _ h => (by cases h)), (fun _ _ _ => Nat.zero_le _), .inl rfl⟩
  rw [List.length_map, List.take_of_length_le (Nat.le_refl _)] at f1
  -- told by the signs
  have hfr : freeS [5] [.fz (tN ls), .ow true (.dK ((srtL ls).map keyS) ((srtL ls).map fun q => sB (wordOf ls q))), .fz (.int (x : Nat)), .fz (.int (sz : Nat)), s4, s5] = true := by
    rcases hs5 with rfl | ⟨p, rfl⟩ <;> rfl
  obtain ⟨acc2, e2, f2, ha2, rfl⟩ := lcL_inv (vs := [5]) (u := uNm 5) (dt := none) (de := (dBin semIx (dVar 1) (dVar 5))) (ps := rngP 0 ls.length)
    (fun i acc e => acc = ((wordsOf ls).take i).map sB ∧ e = [.fz (tN ls), .ow true (.dK ((srtL ls).map keyS) ((srtL ls).map fun q => sB (wordOf ls q))), .fz (.int (x : Nat)), .fz (.int (sz : Nat)), s4, s5])
    (fun i q acc e hq ⟨ha, he⟩ => by
      subst ha he
      obtain ⟨rfl, hi⟩ := rng_at hq
      have hmem : (ls[i], i) ∈ srtL ls := (srtL_perm ls).mem_iff.mpr (prs_get hi)
      have hlk := look_inl (f := fun q => sB (wordOf ls q)) hmem fun q' hq' e => prs_uniq (hQm hq') (prs_get hi) e
      have hlk : look ((srtL ls).map keyS) ((srtL ls).map fun q => sB (wordOf ls q)) (.inl ((i : Nat) : Int)) = some (sB (wordOf ls (ls[i], i))) := hlk
      refine ⟨hfr, [.fz (tN ls), .ow false (.dK ((srtL ls).map keyS) ((srtL ls).map fun q => sB (wordOf ls q))), .fz (.int (x : Nat)), .fz (.int (sz : Nat)), lendS s4, .fz (.int (i : Nat))], ?_, .inr ⟨[.fz (tN ls), .ow false (.dK ((srtL ls).map keyS) ((srtL ls).map fun q => sB (wordOf ls q))), .fz (.int (x : Nat)), .fz (.int (sz : Nat)), lendS s4, .fz (.int (i : Nat))], .fz (sB (wordOf ls (ls[i], i))), [.fz (tN ls), .ow false (.dK ((srtL ls).map keyS) ((srtL ls).map fun q => sB (wordOf ls q))), .fz (.int (x : Nat)), .fz (.int (sz : Nat)), lendS s4, .fz (.int (i : Nat))], sB (wordOf ls (ls[i], i)), [.fz (tN ls), .ow false (.dK ((srtL ls).map keyS) ((srtL ls).map fun q => sB (wordOf ls q))), .fz (.int (x : Nat)), .fz (.int (sz : Nat)), lendS s4, .fz (.int (i : Nat))], rfl, ?_, rfl, ?_, ?_, ?_⟩⟩
      · simp only [bind_k, bh_k, seqK_n, seqK_r, seq_e, expr_e, ret_e, retV_f, retV_n, retV_b, ifK_t, ifK_f, ifS_e, if_e, set_e, store_f, store_n, store_b, var_e, stl_e, stl_f, stl_n, stl_b, peek_f, peek_n, peek_b, frz_f, frz_n, frz_b, bin_e, op2_d, toVal_s, asB_e, chain_e, un_e, not_e, notT_e, andT_e, orT_e, args_n, args_c, frzs_n, frzs_c, lst_e, tup_e, call_e, peeks_n, peeks_c, opN_e, sl_e, part_n, part_s, meth_e, for_e, asgT_e, uNm_e, uTup_e, uCons_e, uNil_e, put_e, putS_e, isOw_e, mut_e, kdAt_e, mutK_e, items_e, enum_e, rng1_e, rng2_e, lc_e, dc_e, par_e, parL_n, parL_f, parL_t, unb_f, unb_n, unb_b, isNew_f, isNew_n, storeL_n, storeL_f, storeL_w, fn_e, mk_e, callK_e, frK_f, frK_n, mkK_e, mkF_e, prep_f, prep_t, prep_n, lentI_f, lentI_t, lentI_n, putOuts_n, putOuts_c, isi_e, fld_e, fldS_e, tru_e, bool_e, aug_e, sortLn_e, callFn_e, finF_x, finF_f, finF_n, outE_z, outZ_c, outZ_n, outS_w, outS_f, outS_o, lend_w, lend_f, lend_n, blk_e, wipe_n, wipe_c, free_e, dtO_n, dtO_s, entry_e, entryE_t, entryE_f, entryE_n, repl_z, outsAt_n, outsAt_f, outsAt_t, List.getElem?_cons_zero, List.getElem?_cons_succ, List.set_cons_zero, List.set_cons_succ, List.map_nil, List.map_cons, List.nil_append, List.cons_append, List.nodup_cons, List.nodup_nil, List.not_mem_nil, List.mem_cons, not_false_eq_true, and_self, and_true, true_and, or_false, false_or, if_true, reduceIte, Bool.false_eq_true, Option.bind_some, Option.map_some, List.length_cons, List.length_nil, Option.some.injEq, kd, Option.map_none, Option.bind_none, reduceCtorEq, Bool.not_true, Bool.not_false, decide_true, decide_false, Nat.reduceAdd, Nat.reduceLT, Nat.reduceLeDiff, Nat.zero_add, Nat.reduceEqDiff, List.replicate, Nat.reduceSub, List.all_cons, List.all_nil, Bool.and_true, Bool.and_self, List.append_nil, lB, tW, List.map_append]
      · simp only [bind_k, bh_k, seqK_n, seqK_r, seq_e, expr_e, ret_e, retV_f, retV_n, retV_b, ifK_t, ifK_f, ifS_e, if_e, set_e, store_f, store_n, store_b, var_e, stl_e, stl_f, stl_n, stl_b, peek_f, peek_n, peek_b, frz_f, frz_n, frz_b, bin_e, op2_d, toVal_s, asB_e, chain_e, un_e, not_e, notT_e, andT_e, orT_e, args_n, args_c, frzs_n, frzs_c, lst_e, tup_e, call_e, peeks_n, peeks_c, opN_e, sl_e, part_n, part_s, meth_e, for_e, asgT_e, uNm_e, uTup_e, uCons_e, uNil_e, put_e, putS_e, isOw_e, mut_e, kdAt_e, mutK_e, items_e, enum_e, rng1_e, rng2_e, lc_e, dc_e, par_e, parL_n, parL_f, parL_t, unb_f, unb_n, unb_b, isNew_f, isNew_n, storeL_n, storeL_f, storeL_w, fn_e, mk_e, callK_e, frK_f, frK_n, mkK_e, mkF_e, prep_f, prep_t, prep_n, lentI_f, lentI_t, lentI_n, putOuts_n, putOuts_c, isi_e, fld_e, fldS_e, tru_e, bool_e, aug_e, sortLn_e, callFn_e, finF_x, finF_f, finF_n, outE_z, outZ_c, outZ_n, outS_w, outS_f, outS_o, lend_w, lend_f, lend_n, blk_e, wipe_n, wipe_c, free_e, dtO_n, dtO_s, entry_e, entryE_t, entryE_f, entryE_n, repl_z, outsAt_n, outsAt_f, outsAt_t, List.getElem?_cons_zero, List.getElem?_cons_succ, List.set_cons_zero, List.set_cons_succ, List.map_nil, List.map_cons, List.nil_append, List.cons_append, List.nodup_cons, List.nodup_nil, List.not_mem_nil, List.mem_cons, not_false_eq_true, and_self, and_true, true_and, or_false, false_or, if_true, reduceIte, Bool.false_eq_true, Option.bind_some, Option.map_some, List.length_cons, List.length_nil, Option.some.injEq, kd, Option.map_none, Option.bind_none, reduceCtorEq, Bool.not_true, Bool.not_false, decide_true, decide_false, Nat.reduceAdd, Nat.reduceLT, Nat.reduceLeDiff, Nat.zero_add, Nat.reduceEqDiff, List.replicate, Nat.reduceSub, List.all_cons, List.all_nil, Bool.and_true, Bool.and_self, List.append_nil, lB, tW, List.map_append, ix_k, key_i, hlk]
      · rw [List.length_map, List.length_take, big_v]; omega
      · rw [words_take hi, List.map_append]; rfl
      · simp only [bind_k, bh_k, seqK_n, seqK_r, seq_e, expr_e, ret_e, retV_f, retV_n, retV_b, ifK_t, ifK_f, ifS_e, if_e, set_e, store_f, store_n, store_b, var_e, stl_e, stl_f, stl_n, stl_b, peek_f, peek_n, peek_b, frz_f, frz_n, frz_b, bin_e, op2_d, toVal_s, asB_e, chain_e, un_e, not_e, notT_e, andT_e, orT_e, args_n, args_c, frzs_n, frzs_c, lst_e, tup_e, call_e, peeks_n, peeks_c, opN_e, sl_e, part_n, part_s, meth_e, for_e, asgT_e, uNm_e, uTup_e, uCons_e, uNil_e, put_e, putS_e, isOw_e, mut_e, kdAt_e, mutK_e, items_e, enum_e, rng1_e, rng2_e, lc_e, dc_e, par_e, parL_n, parL_f, parL_t, unb_f, unb_n, unb_b, isNew_f, isNew_n, storeL_n, storeL_f, storeL_w, fn_e, mk_e, callK_e, frK_f, frK_n, mkK_e, mkF_e, prep_f, prep_t, prep_n, lentI_f, lentI_t, lentI_n, putOuts_n, putOuts_c, isi_e, fld_e, fldS_e, tru_e, bool_e, aug_e, sortLn_e, callFn_e, finF_x, finF_f, finF_n, outE_z, outZ_c, outZ_n, outS_w, outS_f, outS_o, lend_w, lend_f, lend_n, blk_e, wipe_n, wipe_c, free_e, dtO_n, dtO_s, entry_e, entryE_t, entryE_f, entryE_n, repl_z, outsAt_n, outsAt_f, outsAt_t, List.getElem?_cons_zero, List.getElem?_cons_succ, List.set_cons_zero, List.set_cons_succ, List.map_nil, List.map_cons, List.nil_append, List.cons_append, List.nodup_cons, List.nodup_nil, List.not_mem_nil, List.mem_cons, not_false_eq_true, and_self, and_true, true_and, or_false, false_or, if_true, reduceIte, Bool.false_eq_true, Option.bind_some, Option.map_some, List.length_cons, List.length_nil, Option.some.injEq, kd, Option.map_none, Option.bind_none, reduceCtorEq, Bool.not_true, Bool.not_false, decide_true, decide_false, Nat.reduceAdd, Nat.reduceLT, Nat.reduceLeDiff, Nat.zero_add, Nat.reduceEqDiff, List.replicate, Nat.reduceSub, List.all_cons, List.all_nil, Bool.and_true, Bool.and_self, List.append_nil, lB, tW, List.map_append, outS_l])
    (acc := []) (e := [.fz (tN ls), .ow true (.dK ((srtL ls).map keyS) ((srtL ls).map fun q => sB (wordOf ls q))), .fz (.int (x : Nat)), .fz (.int (sz : Nat)), s4, s5]) ⟨by simp, rfl⟩
  rw [rng_len, List.take_of_length_le (by rw [words_len]; exact Nat.le_refl _)] at ha2
  subst ha2
  have hso := sorted_prs hne
  unfold F_canonical d_canonical
  simp only [bind_k, bh_k, seqK_n, seqK_r, seq_e, expr_e, ret_e, retV_f, retV_n, retV_b, ifK_t, ifK_f, ifS_e, if_e, set_e, store_f, store_n, store_b, var_e, stl_e, stl_f, stl_n, stl_b, peek_f, peek_n, peek_b, frz_f, frz_n, frz_b, bin_e, op2_d, toVal_s, asB_e, chain_e, un_e, not_e, notT_e, andT_e, orT_e, args_n, args_c, frzs_n, frzs_c, lst_e, tup_e, call_e, peeks_n, peeks_c, opN_e, sl_e, part_n, part_s, meth_e, for_e, asgT_e, uNm_e, uTup_e, uCons_e, uNil_e, put_e, putS_e, isOw_e, mut_e, kdAt_e, mutK_e, items_e, enum_e, rng1_e, rng2_e, lc_e, dc_e, par_e, parL_n, parL_f, parL_t, unb_f, unb_n, unb_b, isNew_f, isNew_n, storeL_n, storeL_f, storeL_w, fn_e, mk_e, callK_e, frK_f, frK_n, mkK_e, mkF_e, prep_f, prep_t, prep_n, lentI_f, lentI_t, lentI_n, putOuts_n, putOuts_c, isi_e, fld_e, fldS_e, tru_e, bool_e, aug_e, sortLn_e, callFn_e, finF_x, finF_f, finF_n, outE_z, outZ_c, outZ_n, outS_w, outS_f, outS_o, lend_w, lend_f, lend_n, blk_e, wipe_n, wipe_c, free_e, dtO_n, dtO_s, entry_e, entryE_t, entryE_f, entryE_n, repl_z, outsAt_n, outsAt_f, outsAt_t, List.getElem?_cons_zero, List.getElem?_cons_succ, List.set_cons_zero, List.set_cons_succ, List.map_nil, List.map_cons, List.nil_append, List.cons_append, List.nodup_cons, List.nodup_nil, List.not_mem_nil, List.mem_cons, not_false_eq_true, and_self, and_true, true_and, or_false, false_or, if_true, reduceIte, Bool.false_eq_true, Option.bind_some, Option.map_some, List.length_cons, List.length_nil, Option.some.injEq, kd, Option.map_none, Option.bind_none, reduceCtorEq, Bool.not_true, Bool.not_false, decide_true, decide_false, Nat.reduceAdd, Nat.reduceLT, Nat.reduceLeDiff, Nat.zero_add, Nat.reduceEqDiff, List.replicate, Nat.reduceSub, List.all_cons, List.all_nil, Bool.and_true, Bool.and_self, List.append_nil, lB, tW, List.map_append, tN] at f0 f1 f2
  simp only [bind_k, bh_k, seqK_n, seqK_r, seq_e, expr_e, ret_e, retV_f, retV_n, retV_b, ifK_t, ifK_f, ifS_e, if_e, set_e, store_f, store_n, store_b, var_e, stl_e, stl_f, stl_n, stl_b, peek_f, peek_n, peek_b, frz_f, frz_n, frz_b, bin_e, op2_d, toVal_s, asB_e, chain_e, un_e, not_e, notT_e, andT_e, orT_e, args_n, args_c, frzs_n, frzs_c, lst_e, tup_e, call_e, peeks_n, peeks_c, opN_e, sl_e, part_n, part_s, meth_e, for_e, asgT_e, uNm_e, uTup_e, uCons_e, uNil_e, put_e, putS_e, isOw_e, mut_e, kdAt_e, mutK_e, items_e, enum_e, rng1_e, rng2_e, lc_e, dc_e, par_e, parL_n, parL_f, parL_t, unb_f, unb_n, unb_b, isNew_f, isNew_n, storeL_n, storeL_f, storeL_w, fn_e, mk_e, callK_e, frK_f, frK_n, mkK_e, mkF_e, prep_f, prep_t, prep_n, lentI_f, lentI_t, lentI_n, putOuts_n, putOuts_c, isi_e, fld_e, fldS_e, tru_e, bool_e, aug_e, sortLn_e, callFn_e, finF_x, finF_f, finF_n, outE_z, outZ_c, outZ_n, outS_w, outS_f, outS_o, lend_w, lend_f, lend_n, blk_e, wipe_n, wipe_c, free_e, dtO_n, dtO_s, entry_e, entryE_t, entryE_f, entryE_n, repl_z, outsAt_n, outsAt_f, outsAt_t, List.getElem?_cons_zero, List.getElem?_cons_succ, List.set_cons_zero, List.set_cons_succ, List.map_nil, List.map_cons, List.nil_append, List.cons_append, List.nodup_cons, List.nodup_nil, List.not_mem_nil, List.mem_cons, not_false_eq_true, and_self, and_true, true_and, or_false, false_or, if_true, reduceIte, Bool.false_eq_true, Option.bind_some, Option.map_some, List.length_cons, List.length_nil, Option.some.injEq, kd, Option.map_none, Option.bind_none, reduceCtorEq, Bool.not_true, Bool.not_false, decide_true, decide_false, Nat.reduceAdd, Nat.reduceLT, Nat.reduceLeDiff, Nat.zero_add, Nat.reduceEqDiff, List.replicate, Nat.reduceSub, List.all_cons, List.all_nil, Bool.and_true, Bool.and_self, List.append_nil, lB, tW, List.map_append, tN, newK_e, f0, hso, items_l, f1, len_t, hln, hc0, Int.toNat_natCast, f2, tuple_l]
end K37

set_option maxRecDepth 100000
set_option maxHeartbeats 4000000
namespace K37
open PySem PySem.Spec L2 VL
open PyProof.Rows hiding St
abbrev lensB (ws : List Wd) : List PV := ws.map fun w => PV.int (w.length : Nat)
theorem word_ok {w : Wd} (hw : w.length ≤ 100) : F_is_word [sB w, .int (w.length : Nat)] = .ok (.fz (.bl true)) [] := by
  have hl1 : (bs w).length ≤ big := by rw [bs_len, big_v]; omega
  obtain ⟨acc, e', h1, ha, rfl⟩ := lcL_inv (vs := [2]) (u := uNm 2) (dt := none) (de := (dBin semIn (dVar 2) (dTup [(fun e => .ok (.fz (.str "0")) e), (fun e => .ok (.fz (.str "1")) e)]))) (ps := w.map fun b => sB [b])
    (fun i acc e => acc = (w.take i).map (fun _ => PV.bl true) ∧ e = [.fz (sB w), .fz (.int (w.length : Nat)), .no])
    (fun i q acc e hq ⟨ha, he⟩ => by
      subst ha he
      rw [List.getElem?_map] at hq
      have hi : i < w.length := by
        by_cases hi : i < w.length
        · exact hi
        · rw [List.getElem?_eq_none (by omega)] at hq; cases hq
      rw [List.getElem?_eq_getElem hi] at hq
      cases hq
      have hin : decide ([w[i]] ∈ [[false], [true]]) = true := by
        generalize w[i] = b
        cases b <;> decide
      have hin' := in_tB [w[i]] [[false], [true]]
      rw [hin] at hin'
      refine ⟨rfl, [.fz (sB w), .fz (.int (w.length : Nat)), .fz (sB [w[i]])], ?_, .inr ⟨[.fz (sB w), .fz (.int (w.length : Nat)), .fz (sB [w[i]])], .fz (.bl true), [.fz (sB w), .fz (.int (w.length : Nat)), .fz (sB [w[i]])], .bl true, [.fz (sB w), .fz (.int (w.length : Nat)), .fz (sB [w[i]])], rfl, ?_, rfl, ?_, ?_, ?_⟩⟩
      · simp only [bind_k, bh_k, seqK_n, seqK_r, seq_e, expr_e, ret_e, retV_f, retV_n, retV_b, ifK_t, ifK_f, ifS_e, if_e, set_e, store_f, store_n, store_b, var_e, stl_e, stl_f, stl_n, stl_b, peek_f, peek_n, peek_b, frz_f, frz_n, frz_b, bin_e, op2_d, toVal_s, asB_e, chain_e, un_e, not_e, notT_e, andT_e, orT_e, args_n, args_c, frzs_n, frzs_c, lst_e, tup_e, call_e, peeks_n, peeks_c, opN_e, sl_e, part_n, part_s, meth_e, for_e, asgT_e, uNm_e, uTup_e, uCons_e, uNil_e, put_e, putS_e, isOw_e, mut_e, kdAt_e, mutK_e, items_e, enum_e, rng1_e, rng2_e, lc_e, dc_e, par_e, parL_n, parL_f, parL_t, unb_f, unb_n, unb_b, isNew_f, isNew_n, storeL_n, storeL_f, storeL_w, fn_e, mk_e, callK_e, frK_f, frK_n, mkK_e, mkF_e, prep_f, prep_t, prep_n, lentI_f, lentI_t, lentI_n, putOuts_n, putOuts_c, isi_e, fld_e, fldS_e, tru_e, bool_e, aug_e, sortLn_e, callFn_e, finF_x, finF_f, finF_n, outE_z, outZ_c, outZ_n, outS_w, outS_f, outS_o, lend_w, lend_f, lend_n, blk_e, wipe_n, wipe_c, free_e, dtO_n, dtO_s, entry_e, entryE_t, entryE_f, entryE_n, repl_z, outsAt_n, outsAt_f, outsAt_t, List.getElem?_cons_zero, List.getElem?_cons_succ, List.set_cons_zero, List.set_cons_succ, List.map_nil, List.map_cons, List.nil_append, List.cons_append, List.nodup_cons, List.nodup_nil, List.not_mem_nil, List.mem_cons, not_false_eq_true, and_self, and_true, true_and, or_false, false_or, if_true, reduceIte, Bool.false_eq_true, Option.bind_some, Option.map_some, List.length_cons, List.length_nil, Option.some.injEq, kd, Option.map_none, Option.bind_none, reduceCtorEq, Bool.not_true, Bool.not_false, decide_true, decide_false, Nat.reduceAdd, Nat.reduceLT, Nat.reduceLeDiff, Nat.zero_add, Nat.reduceEqDiff, List.replicate, Nat.reduceSub, List.all_cons, List.all_nil, Bool.and_true, Bool.and_self, List.append_nil, lB, tW, List.map_append]
      · simp only [bind_k, bh_k, seqK_n, seqK_r, seq_e, expr_e, ret_e, retV_f, retV_n, retV_b, ifK_t, ifK_f, ifS_e, if_e, set_e, store_f, store_n, store_b, var_e, stl_e, stl_f, stl_n, stl_b, peek_f, peek_n, peek_b, frz_f, frz_n, frz_b, bin_e, op2_d, toVal_s, asB_e, chain_e, un_e, not_e, notT_e, andT_e, orT_e, args_n, args_c, frzs_n, frzs_c, lst_e, tup_e, call_e, peeks_n, peeks_c, opN_e, sl_e, part_n, part_s, meth_e, for_e, asgT_e, uNm_e, uTup_e, uCons_e, uNil_e, put_e, putS_e, isOw_e, mut_e, kdAt_e, mutK_e, items_e, enum_e, rng1_e, rng2_e, lc_e, dc_e, par_e, parL_n, parL_f, parL_t, unb_f, unb_n, unb_b, isNew_f, isNew_n, storeL_n, storeL_f, storeL_w, fn_e, mk_e, callK_e, frK_f, frK_n, mkK_e, mkF_e, prep_f, prep_t, prep_n, lentI_f, lentI_t, lentI_n, putOuts_n, putOuts_c, isi_e, fld_e, fldS_e, tru_e, bool_e, aug_e, sortLn_e, callFn_e, finF_x, finF_f, finF_n, outE_z, outZ_c, outZ_n, outS_w, outS_f, outS_o, lend_w, lend_f, lend_n, blk_e, wipe_n, wipe_c, free_e, dtO_n, dtO_s, entry_e, entryE_t, entryE_f, entryE_n, repl_z, outsAt_n, outsAt_f, outsAt_t, List.getElem?_cons_zero, List.getElem?_cons_succ, List.set_cons_zero, List.set_cons_succ, List.map_nil, List.map_cons, List.nil_append, List.cons_append, List.nodup_cons, List.nodup_nil, List.not_mem_nil, List.mem_cons, not_false_eq_true, and_self, and_true, true_and, or_false, false_or, if_true, reduceIte, Bool.false_eq_true, Option.bind_some, Option.map_some, List.length_cons, List.length_nil, Option.some.injEq, kd, Option.map_none, Option.bind_none, reduceCtorEq, Bool.not_true, Bool.not_false, decide_true, decide_false, Nat.reduceAdd, Nat.reduceLT, Nat.reduceLeDiff, Nat.zero_add, Nat.reduceEqDiff, List.replicate, Nat.reduceSub, List.all_cons, List.all_nil, Bool.and_true, Bool.and_self, List.append_nil, lB, tW, List.map_append, bs_0, bs_1, big_v] at hin' ⊢
        simp only [bind_k, bh_k, seqK_n, seqK_r, seq_e, expr_e, ret_e, retV_f, retV_n, retV_b, ifK_t, ifK_f, ifS_e, if_e, set_e, store_f, store_n, store_b, var_e, stl_e, stl_f, stl_n, stl_b, peek_f, peek_n, peek_b, frz_f, frz_n, frz_b, bin_e, op2_d, toVal_s, asB_e, chain_e, un_e, not_e, notT_e, andT_e, orT_e, args_n, args_c, frzs_n, frzs_c, lst_e, tup_e, call_e, peeks_n, peeks_c, opN_e, sl_e, part_n, part_s, meth_e, for_e, asgT_e, uNm_e, uTup_e, uCons_e, uNil_e, put_e, putS_e, isOw_e, mut_e, kdAt_e, mutK_e, items_e, enum_e, rng1_e, rng2_e, lc_e, dc_e, par_e, parL_n, parL_f, parL_t, unb_f, unb_n, unb_b, isNew_f, isNew_n, storeL_n, storeL_f, storeL_w, fn_e, mk_e, callK_e, frK_f, frK_n, mkK_e, mkF_e, prep_f, prep_t, prep_n, lentI_f, lentI_t, lentI_n, putOuts_n, putOuts_c, isi_e, fld_e, fldS_e, tru_e, bool_e, aug_e, sortLn_e, callFn_e, finF_x, finF_f, finF_n, outE_z, outZ_c, outZ_n, outS_w, outS_f, outS_o, lend_w, lend_f, lend_n, blk_e, wipe_n, wipe_c, free_e, dtO_n, dtO_s, entry_e, entryE_t, entryE_f, entryE_n, repl_z, outsAt_n, outsAt_f, outsAt_t, List.getElem?_cons_zero, List.getElem?_cons_succ, List.set_cons_zero, List.set_cons_succ, List.map_nil, List.map_cons, List.nil_append, List.cons_append, List.nodup_cons, List.nodup_nil, List.not_mem_nil, List.mem_cons, not_false_eq_true, and_self, and_true, true_and, or_false, false_or, if_true, reduceIte, Bool.false_eq_true, Option.bind_some, Option.map_some, List.length_cons, List.length_nil, Option.some.injEq, kd, Option.map_none, Option.bind_none, reduceCtorEq, Bool.not_true, Bool.not_false, decide_true, decide_false, Nat.reduceAdd, Nat.reduceLT, Nat.reduceLeDiff, Nat.zero_add, Nat.reduceEqDiff, List.replicate, Nat.reduceSub, List.all_cons, List.all_nil, Bool.and_true, Bool.and_self, List.append_nil, lB, tW, List.map_append, hin']
      · rw [List.length_map, List.length_take, big_v]; omega
      · rw [List.take_add_one, List.getElem?_eq_getElem hi]; simp only [Option.toList_some, List.map_append, List.map_cons, List.map_nil]
      · simp only [bind_k, bh_k, seqK_n, seqK_r, seq_e, expr_e, ret_e, retV_f, retV_n, retV_b, ifK_t, ifK_f, ifS_e, if_e, set_e, store_f, store_n, store_b, var_e, stl_e, stl_f, stl_n, stl_b, peek_f, peek_n, peek_b, frz_f, frz_n, frz_b, bin_e, op2_d, toVal_s, asB_e, chain_e, un_e, not_e, notT_e, andT_e, orT_e, args_n, args_c, frzs_n, frzs_c, lst_e, tup_e, call_e, peeks_n, peeks_c, opN_e, sl_e, part_n, part_s, meth_e, for_e, asgT_e, uNm_e, uTup_e, uCons_e, uNil_e, put_e, putS_e, isOw_e, mut_e, kdAt_e, mutK_e, items_e, enum_e, rng1_e, rng2_e, lc_e, dc_e, par_e, parL_n, parL_f, parL_t, unb_f, unb_n, unb_b, isNew_f, isNew_n, storeL_n, storeL_f, storeL_w, fn_e, mk_e, callK_e, frK_f, frK_n, mkK_e, mkF_e, prep_f, prep_t, prep_n, lentI_f, lentI_t, lentI_n, putOuts_n, putOuts_c, isi_e, fld_e, fldS_e, tru_e, bool_e, aug_e, sortLn_e, callFn_e, finF_x, finF_f, finF_n, outE_z, outZ_c, outZ_n, outS_w, outS_f, outS_o, lend_w, lend_f, lend_n, blk_e, wipe_n, wipe_c, free_e, dtO_n, dtO_s, entry_e, entryE_t, entryE_f, entryE_n, repl_z, outsAt_n, outsAt_f, outsAt_t, List.getElem?_cons_zero, List.getElem?_cons_succ, List.set_cons_zero, List.set_cons_succ, List.map_nil, List.map_cons, List.nil_append, List.cons_append, List.nodup_cons, List.nodup_nil, List.not_mem_nil, List.mem_cons, not_false_eq_true, and_self, and_true, true_and, or_false, false_or, if_true, reduceIte, Bool.false_eq_true, Option.bind_some, Option.map_some, List.length_cons, List.length_nil, Option.some.injEq, kd, Option.map_none, Option.bind_none, reduceCtorEq, Bool.not_true, Bool.not_false, decide_true, decide_false, Nat.reduceAdd, Nat.reduceLT, Nat.reduceLeDiff, Nat.zero_add, Nat.reduceEqDiff, List.replicate, Nat.reduceSub, List.all_cons, List.all_nil, Bool.and_true, Bool.and_self, List.append_nil, lB, tW, List.map_append])
    (acc := []) (e := [.fz (sB w), .fz (.int (w.length : Nat)), .no]) ⟨by simp, rfl⟩
  rw [List.length_map, List.take_length] at ha
  subst ha
  have hd : decide (((w.length : Nat) : Int) = ((w.length : Nat) : Int)) = true := decide_eq_true rfl
  unfold F_is_word d_is_word
  simp only [bind_k, bh_k, seqK_n, seqK_r, seq_e, expr_e, ret_e, retV_f, retV_n, retV_b, ifK_t, ifK_f, ifS_e, if_e, set_e, store_f, store_n, store_b, var_e, stl_e, stl_f, stl_n, stl_b, peek_f, peek_n, peek_b, frz_f, frz_n, frz_b, bin_e, op2_d, toVal_s, asB_e, chain_e, un_e, not_e, notT_e, andT_e, orT_e, args_n, args_c, frzs_n, frzs_c, lst_e, tup_e, call_e, peeks_n, peeks_c, opN_e, sl_e, part_n, part_s, meth_e, for_e, asgT_e, uNm_e, uTup_e, uCons_e, uNil_e, put_e, putS_e, isOw_e, mut_e, kdAt_e, mutK_e, items_e, enum_e, rng1_e, rng2_e, lc_e, dc_e, par_e, parL_n, parL_f, parL_t, unb_f, unb_n, unb_b, isNew_f, isNew_n, storeL_n, storeL_f, storeL_w, fn_e, mk_e, callK_e, frK_f, frK_n, mkK_e, mkF_e, prep_f, prep_t, prep_n, lentI_f, lentI_t, lentI_n, putOuts_n, putOuts_c, isi_e, fld_e, fldS_e, tru_e, bool_e, aug_e, sortLn_e, callFn_e, finF_x, finF_f, finF_n, outE_z, outZ_c, outZ_n, outS_w, outS_f, outS_o, lend_w, lend_f, lend_n, blk_e, wipe_n, wipe_c, free_e, dtO_n, dtO_s, entry_e, entryE_t, entryE_f, entryE_n, repl_z, outsAt_n, outsAt_f, outsAt_t, List.getElem?_cons_zero, List.getElem?_cons_succ, List.set_cons_zero, List.set_cons_succ, List.map_nil, List.map_cons, List.nil_append, List.cons_append, List.nodup_cons, List.nodup_nil, List.not_mem_nil, List.mem_cons, not_false_eq_true, and_self, and_true, true_and, or_false, false_or, if_true, reduceIte, Bool.false_eq_true, Option.bind_some, Option.map_some, List.length_cons, List.length_nil, Option.some.injEq, kd, Option.map_none, Option.bind_none, reduceCtorEq, Bool.not_true, Bool.not_false, decide_true, decide_false, Nat.reduceAdd, Nat.reduceLT, Nat.reduceLeDiff, Nat.zero_add, Nat.reduceEqDiff, List.replicate, Nat.reduceSub, List.all_cons, List.all_nil, Bool.and_true, Bool.and_self, List.append_nil, lB, tW, List.map_append, isi_s, tru_b, len_s hl1, bs_len, eq_i, hd, items_s, bs_chars, h1, all_true]
theorem checked_l {ws : List Wd} (hl : ws.length ≤ 26) (hw : ∀ w ∈ ws, w.length ≤ 25) (hp : ws.Pairwise Apart) : F_checked_words [.tup (lensB ws), lB ws] = .ok (.fz (tW ws)) [] := by
  obtain ⟨e1, h1, s2, s3, rfl⟩ := forL_inv (u := uTup 2 (uCons (uNm 2) (uCons (uNm 3) uNil))) (ps := numL (lensB ws)) (db := (dIfS (dNotT (dTru (dFn [false, false] F_is_word [] [(dBin semIx (dVar 1) (dVar 2)), (dVar 3)]))) dBad (fun e => .ok .nx e)))
    (fun i e => ∃ s2 s3, e = [.fz (.tup (lensB ws)), .fz (.lst (ws.map sB)), s2, s3, .no, .no])
    (fun i q e hq ⟨s2, s3, he⟩ => by
      subst he
      obtain ⟨hi, rfl⟩ := nuL_at hq
      rw [List.length_map] at hi
      rw [List.getElem_map]
      have hat := atI_map (f := sB) hi
      have hwd := word_ok (w := ws[i]) (by have := hw _ (List.getElem_mem hi); omega)
      refine ⟨[.fz (.tup (lensB ws)), .fz (.lst (ws.map sB)), .fz (.int (i : Nat)), .fz (.int (ws[i].length : Nat)), .no, .no], [.fz (.tup (lensB ws)), .fz (.lst (ws.map sB)), .fz (.int (i : Nat)), .fz (.int (ws[i].length : Nat)), .no, .no], ?_, ?_, _, _, rfl⟩
      · simp only [bind_k, bh_k, seqK_n, seqK_r, seq_e, expr_e, ret_e, retV_f, retV_n, retV_b, ifK_t, ifK_f, ifS_e, if_e, set_e, store_f, store_n, store_b, var_e, stl_e, stl_f, stl_n, stl_b, peek_f, peek_n, peek_b, frz_f, frz_n, frz_b, bin_e, op2_d, toVal_s, asB_e, chain_e, un_e, not_e, notT_e, andT_e, orT_e, args_n, args_c, frzs_n, frzs_c, lst_e, tup_e, call_e, peeks_n, peeks_c, opN_e, sl_e, part_n, part_s, meth_e, for_e, asgT_e, uNm_e, uTup_e, uCons_e, uNil_e, put_e, putS_e, isOw_e, mut_e, kdAt_e, mutK_e, items_e, enum_e, rng1_e, rng2_e, lc_e, dc_e, par_e, parL_n, parL_f, parL_t, unb_f, unb_n, unb_b, isNew_f, isNew_n, storeL_n, storeL_f, storeL_w, fn_e, mk_e, callK_e, frK_f, frK_n, mkK_e, mkF_e, prep_f, prep_t, prep_n, lentI_f, lentI_t, lentI_n, putOuts_n, putOuts_c, isi_e, fld_e, fldS_e, tru_e, bool_e, aug_e, sortLn_e, callFn_e, finF_x, finF_f, finF_n, outE_z, outZ_c, outZ_n, outS_w, outS_f, outS_o, lend_w, lend_f, lend_n, blk_e, wipe_n, wipe_c, free_e, dtO_n, dtO_s, entry_e, entryE_t, entryE_f, entryE_n, repl_z, outsAt_n, outsAt_f, outsAt_t, List.getElem?_cons_zero, List.getElem?_cons_succ, List.set_cons_zero, List.set_cons_succ, List.map_nil, List.map_cons, List.nil_append, List.cons_append, List.nodup_cons, List.nodup_nil, List.not_mem_nil, List.mem_cons, not_false_eq_true, and_self, and_true, true_and, or_false, false_or, if_true, reduceIte, Bool.false_eq_true, Option.bind_some, Option.map_some, List.length_cons, List.length_nil, Option.some.injEq, kd, Option.map_none, Option.bind_none, reduceCtorEq, Bool.not_true, Bool.not_false, decide_true, decide_false, Nat.reduceAdd, Nat.reduceLT, Nat.reduceLeDiff, Nat.zero_add, Nat.reduceEqDiff, List.replicate, Nat.reduceSub, List.all_cons, List.all_nil, Bool.and_true, Bool.and_self, List.append_nil, lB, tW, List.map_append]
      · simp only [bind_k, bh_k, seqK_n, seqK_r, seq_e, expr_e, ret_e, retV_f, retV_n, retV_b, ifK_t, ifK_f, ifS_e, if_e, set_e, store_f, store_n, store_b, var_e, stl_e, stl_f, stl_n, stl_b, peek_f, peek_n, peek_b, frz_f, frz_n, frz_b, bin_e, op2_d, toVal_s, asB_e, chain_e, un_e, not_e, notT_e, andT_e, orT_e, args_n, args_c, frzs_n, frzs_c, lst_e, tup_e, call_e, peeks_n, peeks_c, opN_e, sl_e, part_n, part_s, meth_e, for_e, asgT_e, uNm_e, uTup_e, uCons_e, uNil_e, put_e, putS_e, isOw_e, mut_e, kdAt_e, mutK_e, items_e, enum_e, rng1_e, rng2_e, lc_e, dc_e, par_e, parL_n, parL_f, parL_t, unb_f, unb_n, unb_b, isNew_f, isNew_n, storeL_n, storeL_f, storeL_w, fn_e, mk_e, callK_e, frK_f, frK_n, mkK_e, mkF_e, prep_f, prep_t, prep_n, lentI_f, lentI_t, lentI_n, putOuts_n, putOuts_c, isi_e, fld_e, fldS_e, tru_e, bool_e, aug_e, sortLn_e, callFn_e, finF_x, finF_f, finF_n, outE_z, outZ_c, outZ_n, outS_w, outS_f, outS_o, lend_w, lend_f, lend_n, blk_e, wipe_n, wipe_c, free_e, dtO_n, dtO_s, entry_e, entryE_t, entryE_f, entryE_n, repl_z, outsAt_n, outsAt_f, outsAt_t, List.getElem?_cons_zero, List.getElem?_cons_succ, List.set_cons_zero, List.set_cons_succ, List.map_nil, List.map_cons, List.nil_append, List.cons_append, List.nodup_cons, List.nodup_nil, List.not_mem_nil, List.mem_cons, not_false_eq_true, and_self, and_true, true_and, or_false, false_or, if_true, reduceIte, Bool.false_eq_true, Option.bind_some, Option.map_some, List.length_cons, List.length_nil, Option.some.injEq, kd, Option.map_none, Option.bind_none, reduceCtorEq, Bool.not_true, Bool.not_false, decide_true, decide_false, Nat.reduceAdd, Nat.reduceLT, Nat.reduceLeDiff, Nat.zero_add, Nat.reduceEqDiff, List.replicate, Nat.reduceSub, List.all_cons, List.all_nil, Bool.and_true, Bool.and_self, List.append_nil, lB, tW, List.map_append, ix_l, hat, hwd, tru_b])
    (e := [.fz (.tup (lensB ws)), .fz (.lst (ws.map sB)), .no, .no, .no, .no]) ⟨_, _, rfl⟩
  obtain ⟨e2, h2, t2, t3, t4, t5, rfl⟩ := forL_inv (u := uTup 2 (uCons (uNm 2) (uCons (uNm 4) uNil))) (ps := numL (ws.map sB)) (db := (dFor (dRng2 (dBin semAdd (dVar 2) (fun e => .ok (.fz (.int 1)) e)) (dCall semLen [(dVar 1)])) (uNm 5) (dIfS (dOrT (dTru (dMeth "str" semStarts (dVar 4) [(dBin semIx (dVar 1) (dVar 5))])) (dTru (dMeth "str" semStarts (dBin semIx (dVar 1) (dVar 5)) [(dVar 4)]))) dBad (fun e => .ok .nx e))))
    (fun i e => ∃ s2 s3 s4 s5, e = [.fz (.tup (lensB ws)), .fz (.lst (ws.map sB)), s2, s3, s4, s5])
    (fun i q e hq ⟨s2, s3, s4, s5, he⟩ => by
      subst he
      obtain ⟨hi, rfl⟩ := nuL_at hq
      rw [List.length_map] at hi
      rw [List.getElem_map]
      obtain ⟨e', h', s5', rfl⟩ := forL_inv (u := uNm 5) (ps := rngP ((i : Nat) + 1) ((((ws.map sB).length : Nat) : Int) - ((i : Nat) + 1)).toNat) (db := (dIfS (dOrT (dTru (dMeth "str" semStarts (dVar 4) [(dBin semIx (dVar 1) (dVar 5))])) (dTru (dMeth "str" semStarts (dBin semIx (dVar 1) (dVar 5)) [(dVar 4)]))) dBad (fun e => .ok .nx e)))
        (fun k e => ∃ s5, e = [.fz (.tup (lensB ws)), .fz (.lst (ws.map sB)), .fz (.int (i : Nat)), s3, .fz (sB ws[i]), s5])
        (fun k q e hq ⟨s5, he⟩ => by
          subst he
          unfold rngP at hq
          rw [List.getElem?_map] at hq
          have hk : k < ((((ws.map sB).length : Nat) : Int) - ((i : Nat) + 1)).toNat := by
            by_cases hk : k < ((((ws.map sB).length : Nat) : Int) - ((i : Nat) + 1)).toNat
            · exact hk
            · rw [List.getElem?_eq_none (by simpa using hk)] at hq; cases hq
          rw [List.getElem?_range hk] at hq
          cases hq
          rw [List.length_map] at hk
          have hj : i + 1 + k < ws.length := by omega
          have ec : ((i : Nat) : Int) + 1 + (k : Nat) = ((i + 1 + k : Nat) : Int) := by omega
          dsimp only
          rw [ec]
          have hat := atI_map (f := sB) hj
          have ap := List.pairwise_iff_getElem.mp hp i (i + 1 + k) hi hj (by omega)
          have b1 : List.isPrefixOf ws[i + 1 + k] ws[i] = false := by
            rw [Bool.eq_false_iff]; intro z; exact ap.2 (List.isPrefixOf_iff_prefix.mp z)
          have b2 : List.isPrefixOf ws[i] ws[i + 1 + k] = false := by
            rw [Bool.eq_false_iff]; intro z; exact ap.1 (List.isPrefixOf_iff_prefix.mp z)
          refine ⟨[.fz (.tup (lensB ws)), .fz (.lst (ws.map sB)), .fz (.int (i : Nat)), s3, .fz (sB ws[i]), .fz (.int ((i + 1 + k : Nat) : Int))], [.fz (.tup (lensB ws)), .fz (.lst (ws.map sB)), .fz (.int (i : Nat)), s3, .fz (sB ws[i]), .fz (.int ((i + 1 + k : Nat) : Int))], ?_, ?_, _, rfl⟩
          · simp only [bind_k, bh_k, seqK_n, seqK_r, seq_e, expr_e, ret_e, retV_f, retV_n, retV_b, ifK_t, ifK_f, ifS_e, if_e, set_e, store_f, store_n, store_b, var_e, stl_e, stl_f, stl_n, stl_b, peek_f, peek_n, peek_b, frz_f, frz_n, frz_b, bin_e, op2_d, toVal_s, asB_e, chain_e, un_e, not_e, notT_e, andT_e, orT_e, args_n, args_c, frzs_n, frzs_c, lst_e, tup_e, call_e, peeks_n, peeks_c, opN_e, sl_e, part_n, part_s, meth_e, for_e, asgT_e, uNm_e, uTup_e, uCons_e, uNil_e, put_e, putS_e, isOw_e, mut_e, kdAt_e, mutK_e, items_e, enum_e, rng1_e, rng2_e, lc_e, dc_e, par_e, parL_n, parL_f, parL_t, unb_f, unb_n, unb_b, isNew_f, isNew_n, storeL_n, storeL_f, storeL_w, fn_e, mk_e, callK_e, frK_f, frK_n, mkK_e, mkF_e, prep_f, prep_t, prep_n, lentI_f, lentI_t, lentI_n, putOuts_n, putOuts_c, isi_e, fld_e, fldS_e, tru_e, bool_e, aug_e, sortLn_e, callFn_e, finF_x, finF_f, finF_n, outE_z, outZ_c, outZ_n, outS_w, outS_f, outS_o, lend_w, lend_f, lend_n, blk_e, wipe_n, wipe_c, free_e, dtO_n, dtO_s, entry_e, entryE_t, entryE_f, entryE_n, repl_z, outsAt_n, outsAt_f, outsAt_t, List.getElem?_cons_zero, List.getElem?_cons_succ, List.set_cons_zero, List.set_cons_succ, List.map_nil, List.map_cons, List.nil_append, List.cons_append, List.nodup_cons, List.nodup_nil, List.not_mem_nil, List.mem_cons, not_false_eq_true, and_self, and_true, true_and, or_false, false_or, if_true, reduceIte, Bool.false_eq_true, Option.bind_some, Option.map_some, List.length_cons, List.length_nil, Option.some.injEq, kd, Option.map_none, Option.bind_none, reduceCtorEq, Bool.not_true, Bool.not_false, decide_true, decide_false, Nat.reduceAdd, Nat.reduceLT, Nat.reduceLeDiff, Nat.zero_add, Nat.reduceEqDiff, List.replicate, Nat.reduceSub, List.all_cons, List.all_nil, Bool.and_true, Bool.and_self, List.append_nil, lB, tW, List.map_append]
          · simp only [bind_k, bh_k, seqK_n, seqK_r, seq_e, expr_e, ret_e, retV_f, retV_n, retV_b, ifK_t, ifK_f, ifS_e, if_e, set_e, store_f, store_n, store_b, var_e, stl_e, stl_f, stl_n, stl_b, peek_f, peek_n, peek_b, frz_f, frz_n, frz_b, bin_e, op2_d, toVal_s, asB_e, chain_e, un_e, not_e, notT_e, andT_e, orT_e, args_n, args_c, frzs_n, frzs_c, lst_e, tup_e, call_e, peeks_n, peeks_c, opN_e, sl_e, part_n, part_s, meth_e, for_e, asgT_e, uNm_e, uTup_e, uCons_e, uNil_e, put_e, putS_e, isOw_e, mut_e, kdAt_e, mutK_e, items_e, enum_e, rng1_e, rng2_e, lc_e, dc_e, par_e, parL_n, parL_f, parL_t, unb_f, unb_n, unb_b, isNew_f, isNew_n, storeL_n, storeL_f, storeL_w, fn_e, mk_e, callK_e, frK_f, frK_n, mkK_e, mkF_e, prep_f, prep_t, prep_n, lentI_f, lentI_t, lentI_n, putOuts_n, putOuts_c, isi_e, fld_e, fldS_e, tru_e, bool_e, aug_e, sortLn_e, callFn_e, finF_x, finF_f, finF_n, outE_z, outZ_c, outZ_n, outS_w, outS_f, outS_o, lend_w, lend_f, lend_n, blk_e, wipe_n, wipe_c, free_e, dtO_n, dtO_s, entry_e, entryE_t, entryE_f, entryE_n, repl_z, outsAt_n, outsAt_f, outsAt_t, List.getElem?_cons_zero, List.getElem?_cons_succ, List.set_cons_zero, List.set_cons_succ, List.map_nil, List.map_cons, List.nil_append, List.cons_append, List.nodup_cons, List.nodup_nil, List.not_mem_nil, List.mem_cons, not_false_eq_true, and_self, and_true, true_and, or_false, false_or, if_true, reduceIte, Bool.false_eq_true, Option.bind_some, Option.map_some, List.length_cons, List.length_nil, Option.some.injEq, kd, Option.map_none, Option.bind_none, reduceCtorEq, Bool.not_true, Bool.not_false, decide_true, decide_false, Nat.reduceAdd, Nat.reduceLT, Nat.reduceLeDiff, Nat.zero_add, Nat.reduceEqDiff, List.replicate, Nat.reduceSub, List.all_cons, List.all_nil, Bool.and_true, Bool.and_self, List.append_nil, lB, tW, List.map_append, ix_l, hat, starts_bs, b1, b2, tru_b])
        (e := [.fz (.tup (lensB ws)), .fz (.lst (ws.map sB)), .fz (.int (i : Nat)), s3, .fz (sB ws[i]), s5]) ⟨_, rfl⟩
      have c1 : r62 (((i : Nat) : Int) + 1) = true := r62_of (by omega) (by omega)
      have c2 : r62 ((((ws.map sB).length : Nat) : Int)) = true := r62_of (by omega) (by rw [List.length_map]; omega)
      refine ⟨[.fz (.tup (lensB ws)), .fz (.lst (ws.map sB)), .fz (.int (i : Nat)), s3, .fz (sB ws[i]), s5], [.fz (.tup (lensB ws)), .fz (.lst (ws.map sB)), .fz (.int (i : Nat)), s3, .fz (sB ws[i]), s5'], ?_, ?_, _, _, _, _, rfl⟩
      · simp only [bind_k, bh_k, seqK_n, seqK_r, seq_e, expr_e, ret_e, retV_f, retV_n, retV_b, ifK_t, ifK_f, ifS_e, if_e, set_e, store_f, store_n, store_b, var_e, stl_e, stl_f, stl_n, stl_b, peek_f, peek_n, peek_b, frz_f, frz_n, frz_b, bin_e, op2_d, toVal_s, asB_e, chain_e, un_e, not_e, notT_e, andT_e, orT_e, args_n, args_c, frzs_n, frzs_c, lst_e, tup_e, call_e, peeks_n, peeks_c, opN_e, sl_e, part_n, part_s, meth_e, for_e, asgT_e, uNm_e, uTup_e, uCons_e, uNil_e, put_e, putS_e, isOw_e, mut_e, kdAt_e, mutK_e, items_e, enum_e, rng1_e, rng2_e, lc_e, dc_e, par_e, parL_n, parL_f, parL_t, unb_f, unb_n, unb_b, isNew_f, isNew_n, storeL_n, storeL_f, storeL_w, fn_e, mk_e, callK_e, frK_f, frK_n, mkK_e, mkF_e, prep_f, prep_t, prep_n, lentI_f, lentI_t, lentI_n, putOuts_n, putOuts_c, isi_e, fld_e, fldS_e, tru_e, bool_e, aug_e, sortLn_e, callFn_e, finF_x, finF_f, finF_n, outE_z, outZ_c, outZ_n, outS_w, outS_f, outS_o, lend_w, lend_f, lend_n, blk_e, wipe_n, wipe_c, free_e, dtO_n, dtO_s, entry_e, entryE_t, entryE_f, entryE_n, repl_z, outsAt_n, outsAt_f, outsAt_t, List.getElem?_cons_zero, List.getElem?_cons_succ, List.set_cons_zero, List.set_cons_succ, List.map_nil, List.map_cons, List.nil_append, List.cons_append, List.nodup_cons, List.nodup_nil, List.not_mem_nil, List.mem_cons, not_false_eq_true, and_self, and_true, true_and, or_false, false_or, if_true, reduceIte, Bool.false_eq_true, Option.bind_some, Option.map_some, List.length_cons, List.length_nil, Option.some.injEq, kd, Option.map_none, Option.bind_none, reduceCtorEq, Bool.not_true, Bool.not_false, decide_true, decide_false, Nat.reduceAdd, Nat.reduceLT, Nat.reduceLeDiff, Nat.zero_add, Nat.reduceEqDiff, List.replicate, Nat.reduceSub, List.all_cons, List.all_nil, Bool.and_true, Bool.and_self, List.append_nil, lB, tW, List.map_append]
      · simp only [bind_k, bh_k, seqK_n, seqK_r, seq_e, expr_e, ret_e, retV_f, retV_n, retV_b, ifK_t, ifK_f, ifS_e, if_e, set_e, store_f, store_n, store_b, var_e, stl_e, stl_f, stl_n, stl_b, peek_f, peek_n, peek_b, frz_f, frz_n, frz_b, bin_e, op2_d, toVal_s, asB_e, chain_e, un_e, not_e, notT_e, andT_e, orT_e, args_n, args_c, frzs_n, frzs_c, lst_e, tup_e, call_e, peeks_n, peeks_c, opN_e, sl_e, part_n, part_s, meth_e, for_e, asgT_e, uNm_e, uTup_e, uCons_e, uNil_e, put_e, putS_e, isOw_e, mut_e, kdAt_e, mutK_e, items_e, enum_e, rng1_e, rng2_e, lc_e, dc_e, par_e, parL_n, parL_f, parL_t, unb_f, unb_n, unb_b, isNew_f, isNew_n, storeL_n, storeL_f, storeL_w, fn_e, mk_e, callK_e, frK_f, frK_n, mkK_e, mkF_e, prep_f, prep_t, prep_n, lentI_f, lentI_t, lentI_n, putOuts_n, putOuts_c, isi_e, fld_e, fldS_e, tru_e, bool_e, aug_e, sortLn_e, callFn_e, finF_x, finF_f, finF_n, outE_z, outZ_c, outZ_n, outS_w, outS_f, outS_o, lend_w, lend_f, lend_n, blk_e, wipe_n, wipe_c, free_e, dtO_n, dtO_s, entry_e, entryE_t, entryE_f, entryE_n, repl_z, outsAt_n, outsAt_f, outsAt_t, List.getElem?_cons_zero, List.getElem?_cons_succ, List.set_cons_zero, List.set_cons_succ, List.map_nil, List.map_cons, List.nil_append, List.cons_append, List.nodup_cons, List.nodup_nil, List.not_mem_nil, List.mem_cons, not_false_eq_true, and_self, and_true, true_and, or_false, false_or, if_true, reduceIte, Bool.false_eq_true, Option.bind_some, Option.map_some, List.length_cons, List.length_nil, Option.some.injEq, kd, Option.map_none, Option.bind_none, reduceCtorEq, Bool.not_true, Bool.not_false, decide_true, decide_false, Nat.reduceAdd, Nat.reduceLT, Nat.reduceLeDiff, Nat.zero_add, Nat.reduceEqDiff, List.replicate, Nat.reduceSub, List.all_cons, List.all_nil, Bool.and_true, Bool.and_self, List.append_nil, lB, tW, List.map_append, add_i, len_l, c1, c2, h'])
    (e := [.fz (.tup (lensB ws)), .fz (.lst (ws.map sB)), s2, s3, .no, .no]) ⟨_, _, _, _, rfl⟩
  unfold F_checked_words d_checked_words
  simp only [bind_k, bh_k, seqK_n, seqK_r, seq_e, expr_e, ret_e, retV_f, retV_n, retV_b, ifK_t, ifK_f, ifS_e, if_e, set_e, store_f, store_n, store_b, var_e, stl_e, stl_f, stl_n, stl_b, peek_f, peek_n, peek_b, frz_f, frz_n, frz_b, bin_e, op2_d, toVal_s, asB_e, chain_e, un_e, not_e, notT_e, andT_e, orT_e, args_n, args_c, frzs_n, frzs_c, lst_e, tup_e, call_e, peeks_n, peeks_c, opN_e, sl_e, part_n, part_s, meth_e, for_e, asgT_e, uNm_e, uTup_e, uCons_e, uNil_e, put_e, putS_e, isOw_e, mut_e, kdAt_e, mutK_e, items_e, enum_e, rng1_e, rng2_e, lc_e, dc_e, par_e, parL_n, parL_f, parL_t, unb_f, unb_n, unb_b, isNew_f, isNew_n, storeL_n, storeL_f, storeL_w, fn_e, mk_e, callK_e, frK_f, frK_n, mkK_e, mkF_e, prep_f, prep_t, prep_n, lentI_f, lentI_t, lentI_n, putOuts_n, putOuts_c, isi_e, fld_e, fldS_e, tru_e, bool_e, aug_e, sortLn_e, callFn_e, finF_x, finF_f, finF_n, outE_z, outZ_c, outZ_n, outS_w, outS_f, outS_o, lend_w, lend_f, lend_n, blk_e, wipe_n, wipe_c, free_e, dtO_n, dtO_s, entry_e, entryE_t, entryE_f, entryE_n, repl_z, outsAt_n, outsAt_f, outsAt_t, List.getElem?_cons_zero, List.getElem?_cons_succ, List.set_cons_zero, List.set_cons_succ, List.map_nil, List.map_cons, List.nil_append, List.cons_append, List.nodup_cons, List.nodup_nil, List.not_mem_nil, List.mem_cons, not_false_eq_true, and_self, and_true, true_and, or_false, false_or, if_true, reduceIte, Bool.false_eq_true, Option.bind_some, Option.map_some, List.length_cons, List.length_nil, Option.some.injEq, kd, Option.map_none, Option.bind_none, reduceCtorEq, Bool.not_true, Bool.not_false, decide_true, decide_false, Nat.reduceAdd, Nat.reduceLT, Nat.reduceLeDiff, Nat.zero_add, Nat.reduceEqDiff, List.replicate, Nat.reduceSub, List.all_cons, List.all_nil, Bool.and_true, Bool.and_self, List.append_nil, lB, tW, List.map_append, h1, h2, tuple_l]
theorem checked_t {ws : List Wd} (hl : ws.length ≤ 26) (hw : ∀ w ∈ ws, w.length ≤ 25) (hp : ws.Pairwise Apart) : F_checked_words [.tup (lensB ws), tW ws] = .ok (.fz (tW ws)) [] := by
  obtain ⟨e1, h1, s2, s3, rfl⟩ := forL_inv (u := uTup 2 (uCons (uNm 2) (uCons (uNm 3) uNil))) (ps := numL (lensB ws)) (db := (dIfS (dNotT (dTru (dFn [false, false] F_is_word [] [(dBin semIx (dVar 1) (dVar 2)), (dVar 3)]))) dBad (fun e => .ok .nx e)))
    (fun i e => ∃ s2 s3, e = [.fz (.tup (lensB ws)), .fz (.tup (ws.map sB)), s2, s3, .no, .no])
    (fun i q e hq ⟨s2, s3, he⟩ => by
      subst he
      obtain ⟨hi, rfl⟩ := nuL_at hq
      rw [List.length_map] at hi
      rw [List.getElem_map]
      have hat := atI_map (f := sB) hi
      have hwd := word_ok (w := ws[i]) (by have := hw _ (List.getElem_mem hi); omega)
      refine ⟨[.fz (.tup (lensB ws)), .fz (.tup (ws.map sB)), .fz (.int (i : Nat)), .fz (.int (ws[i].length : Nat)), .no, .no], [.fz (.tup (lensB ws)), .fz (.tup (ws.map sB)), .fz (.int (i : Nat)), .fz (.int (ws[i].length : Nat)), .no, .no], ?_, ?_, _, _, rfl⟩
      · simp only [bind_k, bh_k, seqK_n, seqK_r, seq_e, expr_e, ret_e, retV_f, retV_n, retV_b, ifK_t, ifK_f, ifS_e, if_e, set_e, store_f, store_n, store_b, var_e, stl_e, stl_f, stl_n, stl_b, peek_f, peek_n, peek_b, frz_f, frz_n, frz_b, bin_e, op2_d, toVal_s, asB_e, chain_e, un_e, not_e, notT_e, andT_e, orT_e, args_n, args_c, frzs_n, frzs_c, lst_e, tup_e, call_e, peeks_n, peeks_c, opN_e, sl_e, part_n, part_s, meth_e, for_e, asgT_e, uNm_e, uTup_e, uCons_e, uNil_e, put_e, putS_e, isOw_e, mut_e, kdAt_e, mutK_e, items_e, enum_e, rng1_e, rng2_e, lc_e, dc_e, par_e, parL_n, parL_f, parL_t, unb_f, unb_n, unb_b, isNew_f, isNew_n, storeL_n, storeL_f, storeL_w, fn_e, mk_e, callK_e, frK_f, frK_n, mkK_e, mkF_e, prep_f, prep_t, prep_n, lentI_f, lentI_t, lentI_n, putOuts_n, putOuts_c, isi_e, fld_e, fldS_e, tru_e, bool_e, aug_e, sortLn_e, callFn_e, finF_x, finF_f, finF_n, outE_z, outZ_c, outZ_n, outS_w, outS_f, outS_o, lend_w, lend_f, lend_n, blk_e, wipe_n, wipe_c, free_e, dtO_n, dtO_s, entry_e, entryE_t, entryE_f, entryE_n, repl_z, outsAt_n, outsAt_f, outsAt_t, List.getElem?_cons_zero, List.getElem?_cons_succ, List.set_cons_zero, List.set_cons_succ, List.map_nil, List.map_cons, List.nil_append, List.cons_append, List.nodup_cons, List.nodup_nil, List.not_mem_nil, List.mem_cons, not_false_eq_true, and_self, and_true, true_and, or_false, false_or, if_true, reduceIte, Bool.false_eq_true, Option.bind_some, Option.map_some, List.length_cons, List.length_nil, Option.some.injEq, kd, Option.map_none, Option.bind_none, reduceCtorEq, Bool.not_true, Bool.not_false, decide_true, decide_false, Nat.reduceAdd, Nat.reduceLT, Nat.reduceLeDiff, Nat.zero_add, Nat.reduceEqDiff, List.replicate, Nat.reduceSub, List.all_cons, List.all_nil, Bool.and_true, Bool.and_self, List.append_nil, lB, tW, List.map_append]
      · simp only [bind_k, bh_k, seqK_n, seqK_r, seq_e, expr_e, ret_e, retV_f, retV_n, retV_b, ifK_t, ifK_f, ifS_e, if_e, set_e, store_f, store_n, store_b, var_e, stl_e, stl_f, stl_n, stl_b, peek_f, peek_n, peek_b, frz_f, frz_n, frz_b, bin_e, op2_d, toVal_s, asB_e, chain_e, un_e, not_e, notT_e, andT_e, orT_e, args_n, args_c, frzs_n, frzs_c, lst_e, tup_e, call_e, peeks_n, peeks_c, opN_e, sl_e, part_n, part_s, meth_e, for_e, asgT_e, uNm_e, uTup_e, uCons_e, uNil_e, put_e, putS_e, isOw_e, mut_e, kdAt_e, mutK_e, items_e, enum_e, rng1_e, rng2_e, lc_e, dc_e, par_e, parL_n, parL_f, parL_t, unb_f, unb_n, unb_b, isNew_f, isNew_n, storeL_n, storeL_f, storeL_w, fn_e, mk_e, callK_e, frK_f, frK_n, mkK_e, mkF_e, prep_f, prep_t, prep_n, lentI_f, lentI_t, lentI_n, putOuts_n, putOuts_c, isi_e, fld_e, fldS_e, tru_e, bool_e, aug_e, sortLn_e, callFn_e, finF_x, finF_f, finF_n, outE_z, outZ_c, outZ_n, outS_w, outS_f, outS_o, lend_w, lend_f, lend_n, blk_e, wipe_n, wipe_c, free_e, dtO_n, dtO_s, entry_e, entryE_t, entryE_f, entryE_n, repl_z, outsAt_n, outsAt_f, outsAt_t, List.getElem?_cons_zero, List.getElem?_cons_succ, List.set_cons_zero, List.set_cons_succ, List.map_nil, List.map_cons, List.nil_append, List.cons_append, List.nodup_cons, List.nodup_nil, List.not_mem_nil, List.mem_cons, not_false_eq_true, and_self, and_true, true_and, or_false, false_or, if_true, reduceIte, Bool.false_eq_true, Option.bind_some, Option.map_some, List.length_cons, List.length_nil, Option.some.injEq, kd, Option.map_none, Option.bind_none, reduceCtorEq, Bool.not_true, Bool.not_false, decide_true, decide_false, Nat.reduceAdd, Nat.reduceLT, Nat.reduceLeDiff, Nat.zero_add, Nat.reduceEqDiff, List.replicate, Nat.reduceSub, List.all_cons, List.all_nil, Bool.and_true, Bool.and_self, List.append_nil, lB, tW, List.map_append, ix_t, hat, hwd, tru_b])
    (e := [.fz (.tup (lensB ws)), .fz (.tup (ws.map sB)), .no, .no, .no, .no]) ⟨_, _, rfl⟩
  obtain ⟨e2, h2, t2, t3, t4, t5, rfl⟩ := forL_inv (u := uTup 2 (uCons (uNm 2) (uCons (uNm 4) uNil))) (ps := numL (ws.map sB)) (db := (dFor (dRng2 (dBin semAdd (dVar 2) (fun e => .ok (.fz (.int 1)) e)) (dCall semLen [(dVar 1)])) (uNm 5) (dIfS (dOrT (dTru (dMeth "str" semStarts (dVar 4) [(dBin semIx (dVar 1) (dVar 5))])) (dTru (dMeth "str" semStarts (dBin semIx (dVar 1) (dVar 5)) [(dVar 4)]))) dBad (fun e => .ok .nx e))))
    (fun i e => ∃ s2 s3 s4 s5, e = [.fz (.tup (lensB ws)), .fz (.tup (ws.map sB)), s2, s3, s4, s5])
    (fun i q e hq ⟨s2, s3, s4, s5, he⟩ => by
      subst he
      obtain ⟨hi, rfl⟩ := nuL_at hq
      rw [List.length_map] at hi
      rw [List.getElem_map]
      obtain ⟨e', h', s5', rfl⟩ := forL_inv (u := uNm 5) (ps := rngP ((i : Nat) + 1) ((((ws.map sB).length : Nat) : Int) - ((i : Nat) + 1)).toNat) (db := (dIfS (dOrT (dTru (dMeth "str" semStarts (dVar 4) [(dBin semIx (dVar 1) (dVar 5))])) (dTru (dMeth "str" semStarts (dBin semIx (dVar 1) (dVar 5)) [(dVar 4)]))) dBad (fun e => .ok .nx e)))
        (fun k e => ∃ s5, e = [.fz (.tup (lensB ws)), .fz (.tup (ws.map sB)), .fz (.int (i : Nat)), s3, .fz (sB ws[i]), s5])
        (fun k q e hq ⟨s5, he⟩ => by
          subst he
          unfold rngP at hq
          rw [List.getElem?_map] at hq
          have hk : k < ((((ws.map sB).length : Nat) : Int) - ((i : Nat) + 1)).toNat := by
            by_cases hk : k < ((((ws.map sB).length : Nat) : Int) - ((i : Nat) + 1)).toNat
            · exact hk
            · rw [List.getElem?_eq_none (by simpa using hk)] at hq; cases hq
          rw [List.getElem?_range hk] at hq
          cases hq
          rw [List.length_map] at hk
          have hj : i + 1 + k < ws.length := by omega
          have ec : ((i : Nat) : Int) + 1 + (k : Nat) = ((i + 1 + k : Nat) : Int) := by omega
          dsimp only
          rw [ec]
          have hat := atI_map (f := sB) hj
          have ap := List.pairwise_iff_getElem.mp hp i (i + 1 + k) hi hj (by omega)
          have b1 : List.isPrefixOf ws[i + 1 + k] ws[i] = false := by
            rw [Bool.eq_false_iff]; intro z; exact ap.2 (List.isPrefixOf_iff_prefix.mp z)
          have b2 : List.isPrefixOf ws[i] ws[i + 1 + k] = false := by
            rw [Bool.eq_false_iff]; intro z; exact ap.1 (List.isPrefixOf_iff_prefix.mp z)
          refine ⟨[.fz (.tup (lensB ws)), .fz (.tup (ws.map sB)), .fz (.int (i : Nat)), s3, .fz (sB ws[i]), .fz (.int ((i + 1 + k : Nat) : Int))], [.fz (.tup (lensB ws)), .fz (.tup (ws.map sB)), .fz (.int (i : Nat)), s3, .fz (sB ws[i]), .fz (.int ((i + 1 + k : Nat) : Int))], ?_, ?_, _, rfl⟩
          · simp only [bind_k, bh_k, seqK_n, seqK_r, seq_e, expr_e, ret_e, retV_f, retV_n, retV_b, ifK_t, ifK_f, ifS_e, if_e, set_e, store_f, store_n, store_b, var_e, stl_e, stl_f, stl_n, stl_b, peek_f, peek_n, peek_b, frz_f, frz_n, frz_b, bin_e, op2_d, toVal_s, asB_e, chain_e, un_e, not_e, notT_e, andT_e, orT_e, args_n, args_c, frzs_n, frzs_c, lst_e, tup_e, call_e, peeks_n, peeks_c, opN_e, sl_e, part_n, part_s, meth_e, for_e, asgT_e, uNm_e, uTup_e, uCons_e, uNil_e, put_e, putS_e, isOw_e, mut_e, kdAt_e, mutK_e, items_e, enum_e, rng1_e, rng2_e, lc_e, dc_e, par_e, parL_n, parL_f, parL_t, unb_f, unb_n, unb_b, isNew_f, isNew_n, storeL_n, storeL_f, storeL_w, fn_e, mk_e, callK_e, frK_f, frK_n, mkK_e, mkF_e, prep_f, prep_t, prep_n, lentI_f, lentI_t, lentI_n, putOuts_n, putOuts_c, isi_e, fld_e, fldS_e, tru_e, bool_e, aug_e, sortLn_e, callFn_e, finF_x, finF_f, finF_n, outE_z, outZ_c, outZ_n, outS_w, outS_f, outS_o, lend_w, lend_f, lend_n, blk_e, wipe_n, wipe_c, free_e, dtO_n, dtO_s, entry_e, entryE_t, entryE_f, entryE_n, repl_z, outsAt_n, outsAt_f, outsAt_t, List.getElem?_cons_zero, List.getElem?_cons_succ, List.set_cons_zero, List.set_cons_succ, List.map_nil, List.map_cons, List.nil_append, List.cons_append, List.nodup_cons, List.nodup_nil, List.not_mem_nil, List.mem_cons, not_false_eq_true, and_self, and_true, true_and, or_false, false_or, if_true, reduceIte, Bool.false_eq_true, Option.bind_some, Option.map_some, List.length_cons, List.length_nil, Option.some.injEq, kd, Option.map_none, Option.bind_none, reduceCtorEq, Bool.not_true, Bool.not_false, decide_true, decide_false, Nat.reduceAdd, Nat.reduceLT, Nat.reduceLeDiff, Nat.zero_add, Nat.reduceEqDiff, List.replicate, Nat.reduceSub, List.all_cons, List.all_nil, Bool.and_true, Bool.and_self, List.append_nil, lB, tW, List.map_append]
          · simp only [bind_k, bh_k, seqK_n, seqK_r, seq_e, expr_e, ret_e, retV_f, retV_n, retV_b, ifK_t, ifK_f, ifS_e, if_e, set_e, store_f, store_n, store_b, var_e, stl_e, stl_f, stl_n, stl_b, peek_f, peek_n, peek_b, frz_f, frz_n, frz_b, bin_e, op2_d, toVal_s, asB_e, chain_e, un_e, not_e, notT_e, andT_e, orT_e, args_n, args_c, frzs_n, frzs_c, lst_e, tup_e, call_e, peeks_n, peeks_c, opN_e, sl_e, part_n, part_s, meth_e, for_e, asgT_e, uNm_e, uTup_e, uCons_e, uNil_e, put_e, putS_e, isOw_e, mut_e, kdAt_e, mutK_e, items_e, enum_e, rng1_e, rng2_e, lc_e, dc_e, par_e, parL_n, parL_f, parL_t, unb_f, unb_n, unb_b, isNew_f, isNew_n, storeL_n, storeL_f, storeL_w, fn_e, mk_e, callK_e, frK_f, frK_n, mkK_e, mkF_e, prep_f, prep_t, prep_n, lentI_f, lentI_t, lentI_n, putOuts_n, putOuts_c, isi_e, fld_e, fldS_e, tru_e, bool_e, aug_e, sortLn_e, callFn_e, finF_x, finF_f, finF_n, outE_z, outZ_c, outZ_n, outS_w, outS_f, outS_o, lend_w, lend_f, lend_n, blk_e, wipe_n, wipe_c, free_e, dtO_n, dtO_s, entry_e, entryE_t, entryE_f, entryE_n, repl_z, outsAt_n, outsAt_f, outsAt_t, List.getElem?_cons_zero, List.getElem?_cons_succ, List.set_cons_zero, List.set_cons_succ, List.map_nil, List.map_cons, List.nil_append, List.cons_append, List.nodup_cons, List.nodup_nil, List.not_mem_nil, List.mem_cons, not_false_eq_true, and_self, and_true, true_and, or_false, false_or, if_true, reduceIte, Bool.false_eq_true, Option.bind_some, Option.map_some, List.length_cons, List.length_nil, Option.some.injEq, kd, Option.map_none, Option.bind_none, reduceCtorEq, Bool.not_true, Bool.not_false, decide_true, decide_false, Nat.reduceAdd, Nat.reduceLT, Nat.reduceLeDiff, Nat.zero_add, Nat.reduceEqDiff, List.replicate, Nat.reduceSub, List.all_cons, List.all_nil, Bool.and_true, Bool.and_self, List.append_nil, lB, tW, List.map_append, ix_t, hat, starts_bs, b1, b2, tru_b])
        (e := [.fz (.tup (lensB ws)), .fz (.tup (ws.map sB)), .fz (.int (i : Nat)), s3, .fz (sB ws[i]), s5]) ⟨_, rfl⟩
      have c1 : r62 (((i : Nat) : Int) + 1) = true := r62_of (by omega) (by omega)
      have c2 : r62 ((((ws.map sB).length : Nat) : Int)) = true := r62_of (by omega) (by rw [List.length_map]; omega)
      refine ⟨[.fz (.tup (lensB ws)), .fz (.tup (ws.map sB)), .fz (.int (i : Nat)), s3, .fz (sB ws[i]), s5], [.fz (.tup (lensB ws)), .fz (.tup (ws.map sB)), .fz (.int (i : Nat)), s3, .fz (sB ws[i]), s5'], ?_, ?_, _, _, _, _, rfl⟩
      · simp only [bind_k, bh_k, seqK_n, seqK_r, seq_e, expr_e, ret_e, retV_f, retV_n, retV_b, ifK_t, ifK_f, ifS_e, if_e, set_e, store_f, store_n, store_b, var_e, stl_e, stl_f, stl_n, stl_b, peek_f, peek_n, peek_b, frz_f, frz_n, frz_b, bin_e, op2_d, toVal_s, asB_e, chain_e, un_e, not_e, notT_e, andT_e, orT_e, args_n, args_c, frzs_n, frzs_c, lst_e, tup_e, call_e, peeks_n, peeks_c, opN_e, sl_e, part_n, part_s, meth_e, for_e, asgT_e, uNm_e, uTup_e, uCons_e, uNil_e, put_e, putS_e, isOw_e, mut_e, kdAt_e, mutK_e, items_e, enum_e, rng1_e, rng2_e, lc_e, dc_e, par_e, parL_n, parL_f, parL_t, unb_f, unb_n, unb_b, isNew_f, isNew_n, storeL_n, storeL_f, storeL_w, fn_e, mk_e, callK_e, frK_f, frK_n, mkK_e, mkF_e, prep_f, prep_t, prep_n, lentI_f, lentI_t, lentI_n, putOuts_n, putOuts_c, isi_e, fld_e, fldS_e, tru_e, bool_e, aug_e, sortLn_e, callFn_e, finF_x, finF_f, finF_n, outE_z, outZ_c, outZ_n, outS_w, outS_f, outS_o, lend_w, lend_f, lend_n, blk_e, wipe_n, wipe_c, free_e, dtO_n, dtO_s, entry_e, entryE_t, entryE_f, entryE_n, repl_z, outsAt_n, outsAt_f, outsAt_t, List.getElem?_cons_zero, List.getElem?_cons_succ, List.set_cons_zero, List.set_cons_succ, List.map_nil, List.map_cons, List.nil_append, List.cons_append, List.nodup_cons, List.nodup_nil, List.not_mem_nil, List.mem_cons, not_false_eq_true, and_self, and_true, true_and, or_false, false_or, if_true, reduceIte, Bool.false_eq_true, Option.bind_some, Option.map_some, List.length_cons, List.length_nil, Option.some.injEq, kd, Option.map_none, Option.bind_none, reduceCtorEq, Bool.not_true, Bool.not_false, decide_true, decide_false, Nat.reduceAdd, Nat.reduceLT, Nat.reduceLeDiff, Nat.zero_add, Nat.reduceEqDiff, List.replicate, Nat.reduceSub, List.all_cons, List.all_nil, Bool.and_true, Bool.and_self, List.append_nil, lB, tW, List.map_append]
      · simp only [bind_k, bh_k, seqK_n, seqK_r, seq_e, expr_e, ret_e, retV_f, retV_n, retV_b, ifK_t, ifK_f, ifS_e, if_e, set_e, store_f, store_n, store_b, var_e, stl_e, stl_f, stl_n, stl_b, peek_f, peek_n, peek_b, frz_f, frz_n, frz_b, bin_e, op2_d, toVal_s, asB_e, chain_e, un_e, not_e, notT_e, andT_e, orT_e, args_n, args_c, frzs_n, frzs_c, lst_e, tup_e, call_e, peeks_n, peeks_c, opN_e, sl_e, part_n, part_s, meth_e, for_e, asgT_e, uNm_e, uTup_e, uCons_e, uNil_e, put_e, putS_e, isOw_e, mut_e, kdAt_e, mutK_e, items_e, enum_e, rng1_e, rng2_e, lc_e, dc_e, par_e, parL_n, parL_f, parL_t, unb_f, unb_n, unb_b, isNew_f, isNew_n, storeL_n, storeL_f, storeL_w, fn_e, mk_e, callK_e, frK_f, frK_n, mkK_e, mkF_e, prep_f, prep_t, prep_n, lentI_f, lentI_t, lentI_n, putOuts_n, putOuts_c, isi_e, fld_e, fldS_e, tru_e, bool_e, aug_e, sortLn_e, callFn_e, finF_x, finF_f, finF_n, outE_z, outZ_c, outZ_n, outS_w, outS_f, outS_o, lend_w, lend_f, lend_n, blk_e, wipe_n, wipe_c, free_e, dtO_n, dtO_s, entry_e, entryE_t, entryE_f, entryE_n, repl_z, outsAt_n, outsAt_f, outsAt_t, List.getElem?_cons_zero, List.getElem?_cons_succ, List.set_cons_zero, List.set_cons_succ, List.map_nil, List.map_cons, List.nil_append, List.cons_append, List.nodup_cons, List.nodup_nil, List.not_mem_nil, List.mem_cons, not_false_eq_true, and_self, and_true, true_and, or_false, false_or, if_true, reduceIte, Bool.false_eq_true, Option.bind_some, Option.map_some, List.length_cons, List.length_nil, Option.some.injEq, kd, Option.map_none, Option.bind_none, reduceCtorEq, Bool.not_true, Bool.not_false, decide_true, decide_false, Nat.reduceAdd, Nat.reduceLT, Nat.reduceLeDiff, Nat.zero_add, Nat.reduceEqDiff, List.replicate, Nat.reduceSub, List.all_cons, List.all_nil, Bool.and_true, Bool.and_self, List.append_nil, lB, tW, List.map_append, add_i, len_t, c1, c2, h'])
    (e := [.fz (.tup (lensB ws)), .fz (.tup (ws.map sB)), s2, s3, .no, .no]) ⟨_, _, _, _, rfl⟩
  unfold F_checked_words d_checked_words
  simp only [bind_k, bh_k, seqK_n, seqK_r, seq_e, expr_e, ret_e, retV_f, retV_n, retV_b, ifK_t, ifK_f, ifS_e, if_e, set_e, store_f, store_n, store_b, var_e, stl_e, stl_f, stl_n, stl_b, peek_f, peek_n, peek_b, frz_f, frz_n, frz_b, bin_e, op2_d, toVal_s, asB_e, chain_e, un_e, not_e, notT_e, andT_e, orT_e, args_n, args_c, frzs_n, frzs_c, lst_e, tup_e, call_e, peeks_n, peeks_c, opN_e, sl_e, part_n, part_s, meth_e, for_e, asgT_e, uNm_e, uTup_e, uCons_e, uNil_e, put_e, putS_e, isOw_e, mut_e, kdAt_e, mutK_e, items_e, enum_e, rng1_e, rng2_e, lc_e, dc_e, par_e, parL_n, parL_f, parL_t, unb_f, unb_n, unb_b, isNew_f, isNew_n, storeL_n, storeL_f, storeL_w, fn_e, mk_e, callK_e, frK_f, frK_n, mkK_e, mkF_e, prep_f, prep_t, prep_n, lentI_f, lentI_t, lentI_n, putOuts_n, putOuts_c, isi_e, fld_e, fldS_e, tru_e, bool_e, aug_e, sortLn_e, callFn_e, finF_x, finF_f, finF_n, outE_z, outZ_c, outZ_n, outS_w, outS_f, outS_o, lend_w, lend_f, lend_n, blk_e, wipe_n, wipe_c, free_e, dtO_n, dtO_s, entry_e, entryE_t, entryE_f, entryE_n, repl_z, outsAt_n, outsAt_f, outsAt_t, List.getElem?_cons_zero, List.getElem?_cons_succ, List.set_cons_zero, List.set_cons_succ, List.map_nil, List.map_cons, List.nil_append, List.cons_append, List.nodup_cons, List.nodup_nil, List.not_mem_nil, List.mem_cons, not_false_eq_true, and_self, and_true, true_and, or_false, false_or, if_true, reduceIte, Bool.false_eq_true, Option.bind_some, Option.map_some, List.length_cons, List.length_nil, Option.some.injEq, kd, Option.map_none, Option.bind_none, reduceCtorEq, Bool.not_true, Bool.not_false, decide_true, decide_false, Nat.reduceAdd, Nat.reduceLT, Nat.reduceLeDiff, Nat.zero_add, Nat.reduceEqDiff, List.replicate, Nat.reduceSub, List.all_cons, List.all_nil, Bool.and_true, Bool.and_self, List.append_nil, lB, tW, List.map_append, h1, h2, tuple_t]
end K37

set_option maxRecDepth 100000
set_option maxHeartbeats 4000000
namespace VL
open PySem PySem.Spec L2
open PyProof.Rows hiding St
theorem is_t {xs : List PV} : semIs (.tup xs) .non = some (.fz (.bl false)) := id rfl
def mxN (ls : List Nat) : Int := maxL (ls.map fun n => ((n : Nat) : Int))
theorem max_tN {ls : List Nat} (h : ls ≠ []) : semMax [tN ls] = some (.fz (.int (mxN ls))) := by
  obtain ⟨a, r, rfl⟩ : ∃ a r, ls = a :: r := by
    cases ls with
    | nil => exact absurd rfl h
    | cons a r => exact ⟨a, r, rfl⟩
  have := intsP_map (fun n : Nat => ((n : Nat) : Int)) (a :: r)
  unfold semMax
  simp only [tN]
  rw [this]
  rfl
theorem max_lN {ls : List Nat} (h : ls ≠ []) : semMax [lN ls] = some (.fz (.int (mxN ls))) := by
  obtain ⟨a, r, rfl⟩ : ∃ a r, ls = a :: r := by
    cases ls with
    | nil => exact absurd rfl h
    | cons a r => exact ⟨a, r, rfl⟩
  have := intsP_map (fun n : Nat => ((n : Nat) : Int)) (a :: r)
  unfold semMax
  simp only [lN]
  rw [this]
  rfl
end VL
namespace K37
open PySem PySem.Spec L2 VL
open PyProof.Rows hiding St
theorem lay0 : lay 0 = [0, 1, 2, 3] := id rfl
theorem ix00 : ([0, 1, 2, 3] : List Nat).idxOf? 0 = some 0 := by decide
theorem ix01 : ([0, 1, 2, 3] : List Nat).idxOf? 1 = some 1 := by decide
theorem ix02 : ([0, 1, 2, 3] : List Nat).idxOf? 2 = some 2 := by decide
theorem ix03 : ([0, 1, 2, 3] : List Nat).idxOf? 3 = some 3 := by decide
def codeP (ls : List Nat) (ws : List Wd) : PV := .ins 0 [tN ls, tW ws, .int (ls.length : Nat), .int (mxN ls)]
/-- what is told for the words, and what they are -/
inductive WQ (ls : List Nat) : PV → List Wd → Prop where
  | non : WQ ls .non (wordsOf ls)
  | lst {ws : List Wd} (h : ws.map List.length = ls) (p : ws.Pairwise Apart) : WQ ls (lB ws) ws
  | tup {ws : List Wd} (h : ws.map List.length = ls) (p : ws.Pairwise Apart) : WQ ls (tW ws) ws
theorem init_ok {ls : List Nat} {ws : List Wd} {p q : PV} (g : GL ls) (h2 : 2 ≤ ls.length) (h26 : ls.length ≤ 26) (hp : p = lN ls ∨ p = tN ls) (hq : WQ ls q ws) : F_Code___init__ [.ins 0 [], p, q] = .ok (.fz .non) [codeP ls ws] := by
  have hln : (ls.map fun n => PV.int (n : Nat)).length = ls.length := List.length_map ..
  have hne : ls ≠ [] := by rintro rfl; simp at h2
  have hl : ∀ l ∈ ls, 1 ≤ l ∧ l ≤ 25 := fun l hl => by
    have := g.le l hl
    have := g.pos l hl
    omega
  obtain ⟨e1, h1, s3, s4, rfl, hf⟩ := forL_inv (u := uTup 2 (uCons (uNm 3) (uCons (uNm 4) uNil))) (ps := numL (ls.map fun n => PV.int (n : Nat))) (db := (dIfS (dOrT (dNotT (dTru (dFn [false, false] F_is_whole [] [(dVar 4), (fun e => .ok (.fz (.int 1)) e)]))) (asB (dBin semGt (dVar 4) (fun e => .ok (.fz (.int 25)) e)))) dBad (fun e => .ok .nx e)))
    (fun i e => ∃ s3 s4, e = [.ow false (.ins 0 []), .fz p, .fz q, s3, s4] ∧ freeS [4] [.ow false (.ins 0 []), .fz p, .fz q, s3, s4] = true)
    (fun i q' e hq' ⟨s3, s4, he, hf⟩ => by
      subst he
      obtain ⟨hi, rfl⟩ := nuL_at hq'
      rw [hln] at hi
      rw [List.getElem_map]
      obtain ⟨a1, a2⟩ := hl _ (List.getElem_mem hi)
      have hwh := whole_ok (n := ((ls[i] : Nat) : Int)) (by omega)
      have hd : decide ((25 : Int) < ((ls[i] : Nat) : Int)) = false := decide_eq_false (by omega)
      refine ⟨[.ow false (.ins 0 []), .fz p, .fz q, .fz (.int (i : Nat)), .fz (.int (ls[i] : Nat))], [.ow false (.ins 0 []), .fz p, .fz q, .fz (.int (i : Nat)), .fz (.int (ls[i] : Nat))], ?_, ?_, _, _, rfl, rfl⟩
      · simp only [bind_k, bh_k, seqK_n, seqK_r, seq_e, expr_e, ret_e, retV_f, retV_n, retV_b, ifK_t, ifK_f, ifS_e, if_e, set_e, store_f, store_n, store_b, var_e, stl_e, stl_f, stl_n, stl_b, peek_f, peek_n, peek_b, frz_f, frz_n, frz_b, bin_e, op2_d, toVal_s, asB_e, chain_e, un_e, not_e, notT_e, andT_e, orT_e, args_n, args_c, frzs_n, frzs_c, lst_e, tup_e, call_e, peeks_n, peeks_c, opN_e, sl_e, part_n, part_s, meth_e, for_e, asgT_e, uNm_e, uTup_e, uCons_e, uNil_e, put_e, putS_e, isOw_e, mut_e, kdAt_e, mutK_e, items_e, enum_e, rng1_e, rng2_e, lc_e, dc_e, par_e, parL_n, parL_f, parL_t, unb_f, unb_n, unb_b, isNew_f, isNew_n, storeL_n, storeL_f, storeL_w, fn_e, mk_e, callK_e, frK_f, frK_n, mkK_e, mkF_e, prep_f, prep_t, prep_n, lentI_f, lentI_t, lentI_n, putOuts_n, putOuts_c, isi_e, fld_e, fldS_e, tru_e, bool_e, aug_e, sortLn_e, callFn_e, finF_x, finF_f, finF_n, outE_z, outZ_c, outZ_n, outS_w, outS_f, outS_o, lend_w, lend_f, lend_n, blk_e, wipe_n, wipe_c, free_e, dtO_n, dtO_s, entry_e, entryE_t, entryE_f, entryE_n, repl_z, outsAt_n, outsAt_f, outsAt_t, List.getElem?_cons_zero, List.getElem?_cons_succ, List.set_cons_zero, List.set_cons_succ, List.map_nil, List.map_cons, List.nil_append, List.cons_append, List.nodup_cons, List.nodup_nil, List.not_mem_nil, List.mem_cons, not_false_eq_true, and_self, and_true, true_and, or_false, false_or, if_true, reduceIte, Bool.false_eq_true, Option.bind_some, Option.map_some, List.length_cons, List.length_nil, Option.some.injEq, kd, Option.map_none, Option.bind_none, reduceCtorEq, Bool.not_true, Bool.not_false, decide_true, decide_false, Nat.reduceAdd, Nat.reduceLT, Nat.reduceLeDiff, Nat.zero_add, Nat.reduceEqDiff, List.replicate, Nat.reduceSub, List.all_cons, List.all_nil, Bool.and_true, Bool.and_self, List.append_nil, lB, tW, List.map_append]
      · simp only [bind_k, bh_k, seqK_n, seqK_r, seq_e, expr_e, ret_e, retV_f, retV_n, retV_b, ifK_t, ifK_f, ifS_e, if_e, set_e, store_f, store_n, store_b, var_e, stl_e, stl_f, stl_n, stl_b, peek_f, peek_n, peek_b, frz_f, frz_n, frz_b, bin_e, op2_d, toVal_s, asB_e, chain_e, un_e, not_e, notT_e, andT_e, orT_e, args_n, args_c, frzs_n, frzs_c, lst_e, tup_e, call_e, peeks_n, peeks_c, opN_e, sl_e, part_n, part_s, meth_e, for_e, asgT_e, uNm_e, uTup_e, uCons_e, uNil_e, put_e, putS_e, isOw_e, mut_e, kdAt_e, mutK_e, items_e, enum_e, rng1_e, rng2_e, lc_e, dc_e, par_e, parL_n, parL_f, parL_t, unb_f, unb_n, unb_b, isNew_f, isNew_n, storeL_n, storeL_f, storeL_w, fn_e, mk_e, callK_e, frK_f, frK_n, mkK_e, mkF_e, prep_f, prep_t, prep_n, lentI_f, lentI_t, lentI_n, putOuts_n, putOuts_c, isi_e, fld_e, fldS_e, tru_e, bool_e, aug_e, sortLn_e, callFn_e, finF_x, finF_f, finF_n, outE_z, outZ_c, outZ_n, outS_w, outS_f, outS_o, lend_w, lend_f, lend_n, blk_e, wipe_n, wipe_c, free_e, dtO_n, dtO_s, entry_e, entryE_t, entryE_f, entryE_n, repl_z, outsAt_n, outsAt_f, outsAt_t, List.getElem?_cons_zero, List.getElem?_cons_succ, List.set_cons_zero, List.set_cons_succ, List.map_nil, List.map_cons, List.nil_append, List.cons_append, List.nodup_cons, List.nodup_nil, List.not_mem_nil, List.mem_cons, not_false_eq_true, and_self, and_true, true_and, or_false, false_or, if_true, reduceIte, Bool.false_eq_true, Option.bind_some, Option.map_some, List.length_cons, List.length_nil, Option.some.injEq, kd, Option.map_none, Option.bind_none, reduceCtorEq, Bool.not_true, Bool.not_false, decide_true, decide_false, Nat.reduceAdd, Nat.reduceLT, Nat.reduceLeDiff, Nat.zero_add, Nat.reduceEqDiff, List.replicate, Nat.reduceSub, List.all_cons, List.all_nil, Bool.and_true, Bool.and_self, List.append_nil, lB, tW, List.map_append, hwh, tru_b, gt_i, hd])
    (e := [.ow false (.ins 0 []), .fz p, .fz q, .no, .no]) ⟨_, _, rfl, rfl⟩
  obtain ⟨acc, e2, h3, ha, rfl⟩ := lcL_inv (vs := [4]) (u := uNm 4) (dt := none) (de := (dFn [false] F_two_to [] [(dBin semSub (fun e => .ok (.fz (.int 25)) e) (dVar 4))])) (ps := ls.map fun n => PV.int (n : Nat))
    (fun i acc e => acc = (ls.take i).map (fun l => PV.int ((2 ^ (25 - l) : Nat) : Int)) ∧ e = [.ow false (.ins 0 []), .fz p, .fz q, s3, s4])
    (fun i q' acc e hq' ⟨ha, he⟩ => by
      subst ha he
      obtain ⟨hi, rfl⟩ := map_at hq'
      obtain ⟨a1, a2⟩ := hl _ (List.getElem_mem hi)
      have hs : (25 : Int) - ((ls[i] : Nat) : Int) = ((25 - ls[i] : Nat) : Int) := by omega
      have ht := two_ok (k := 25 - ls[i]) (by omega)
      refine ⟨hf, [.ow false (.ins 0 []), .fz p, .fz q, lendS s3, .fz (.int (ls[i] : Nat))], ?_, .inr ⟨[.ow false (.ins 0 []), .fz p, .fz q, lendS s3, .fz (.int (ls[i] : Nat))], .fz (.int ((2 ^ (25 - ls[i]) : Nat) : Int)), [.ow false (.ins 0 []), .fz p, .fz q, lendS s3, .fz (.int (ls[i] : Nat))], .int ((2 ^ (25 - ls[i]) : Nat) : Int), [.ow false (.ins 0 []), .fz p, .fz q, lendS s3, .fz (.int (ls[i] : Nat))], rfl, ?_, rfl, ?_, ?_, ?_⟩⟩
      · simp only [bind_k, bh_k, seqK_n, seqK_r, seq_e, expr_e, ret_e, retV_f, retV_n, retV_b, ifK_t, ifK_f, ifS_e, if_e, set_e, store_f, store_n, store_b, var_e, stl_e, stl_f, stl_n, stl_b, peek_f, peek_n, peek_b, frz_f, frz_n, frz_b, bin_e, op2_d, toVal_s, asB_e, chain_e, un_e, not_e, notT_e, andT_e, orT_e, args_n, args_c, frzs_n, frzs_c, lst_e, tup_e, call_e, peeks_n, peeks_c, opN_e, sl_e, part_n, part_s, meth_e, for_e, asgT_e, uNm_e, uTup_e, uCons_e, uNil_e, put_e, putS_e, isOw_e, mut_e, kdAt_e, mutK_e, items_e, enum_e, rng1_e, rng2_e, lc_e, dc_e, par_e, parL_n, parL_f, parL_t, unb_f, unb_n, unb_b, isNew_f, isNew_n, storeL_n, storeL_f, storeL_w, fn_e, mk_e, callK_e, frK_f, frK_n, mkK_e, mkF_e, prep_f, prep_t, prep_n, lentI_f, lentI_t, lentI_n, putOuts_n, putOuts_c, isi_e, fld_e, fldS_e, tru_e, bool_e, aug_e, sortLn_e, callFn_e, finF_x, finF_f, finF_n, outE_z, outZ_c, outZ_n, outS_w, outS_f, outS_o, lend_w, lend_f, lend_n, blk_e, wipe_n, wipe_c, free_e, dtO_n, dtO_s, entry_e, entryE_t, entryE_f, entryE_n, repl_z, outsAt_n, outsAt_f, outsAt_t, List.getElem?_cons_zero, List.getElem?_cons_succ, List.set_cons_zero, List.set_cons_succ, List.map_nil, List.map_cons, List.nil_append, List.cons_append, List.nodup_cons, List.nodup_nil, List.not_mem_nil, List.mem_cons, not_false_eq_true, and_self, and_true, true_and, or_false, false_or, if_true, reduceIte, Bool.false_eq_true, Option.bind_some, Option.map_some, List.length_cons, List.length_nil, Option.some.injEq, kd, Option.map_none, Option.bind_none, reduceCtorEq, Bool.not_true, Bool.not_false, decide_true, decide_false, Nat.reduceAdd, Nat.reduceLT, Nat.reduceLeDiff, Nat.zero_add, Nat.reduceEqDiff, List.replicate, Nat.reduceSub, List.all_cons, List.all_nil, Bool.and_true, Bool.and_self, List.append_nil, lB, tW, List.map_append]
      · simp only [bind_k, bh_k, seqK_n, seqK_r, seq_e, expr_e, ret_e, retV_f, retV_n, retV_b, ifK_t, ifK_f, ifS_e, if_e, set_e, store_f, store_n, store_b, var_e, stl_e, stl_f, stl_n, stl_b, peek_f, peek_n, peek_b, frz_f, frz_n, frz_b, bin_e, op2_d, toVal_s, asB_e, chain_e, un_e, not_e, notT_e, andT_e, orT_e, args_n, args_c, frzs_n, frzs_c, lst_e, tup_e, call_e, peeks_n, peeks_c, opN_e, sl_e, part_n, part_s, meth_e, for_e, asgT_e, uNm_e, uTup_e, uCons_e, uNil_e, put_e, putS_e, isOw_e, mut_e, kdAt_e, mutK_e, items_e, enum_e, rng1_e, rng2_e, lc_e, dc_e, par_e, parL_n, parL_f, parL_t, unb_f, unb_n, unb_b, isNew_f, isNew_n, storeL_n, storeL_f, storeL_w, fn_e, mk_e, callK_e, frK_f, frK_n, mkK_e, mkF_e, prep_f, prep_t, prep_n, lentI_f, lentI_t, lentI_n, putOuts_n, putOuts_c, isi_e, fld_e, fldS_e, tru_e, bool_e, aug_e, sortLn_e, callFn_e, finF_x, finF_f, finF_n, outE_z, outZ_c, outZ_n, outS_w, outS_f, outS_o, lend_w, lend_f, lend_n, blk_e, wipe_n, wipe_c, free_e, dtO_n, dtO_s, entry_e, entryE_t, entryE_f, entryE_n, repl_z, outsAt_n, outsAt_f, outsAt_t, List.getElem?_cons_zero, List.getElem?_cons_succ, List.set_cons_zero, List.set_cons_succ, List.map_nil, List.map_cons, List.nil_append, List.cons_append, List.nodup_cons, List.nodup_nil, List.not_mem_nil, List.mem_cons, not_false_eq_true, and_self, and_true, true_and, or_false, false_or, if_true, reduceIte, Bool.false_eq_true, Option.bind_some, Option.map_some, List.length_cons, List.length_nil, Option.some.injEq, kd, Option.map_none, Option.bind_none, reduceCtorEq, Bool.not_true, Bool.not_false, decide_true, decide_false, Nat.reduceAdd, Nat.reduceLT, Nat.reduceLeDiff, Nat.zero_add, Nat.reduceEqDiff, List.replicate, Nat.reduceSub, List.all_cons, List.all_nil, Bool.and_true, Bool.and_self, List.append_nil, lB, tW, List.map_append, sub_i, hs, ht]
      · rw [List.length_map, List.length_take, big_v]; omega
      · rw [take_at hi, List.map_append]; rfl
      · simp only [bind_k, bh_k, seqK_n, seqK_r, seq_e, expr_e, ret_e, retV_f, retV_n, retV_b, ifK_t, ifK_f, ifS_e, if_e, set_e, store_f, store_n, store_b, var_e, stl_e, stl_f, stl_n, stl_b, peek_f, peek_n, peek_b, frz_f, frz_n, frz_b, bin_e, op2_d, toVal_s, asB_e, chain_e, un_e, not_e, notT_e, andT_e, orT_e, args_n, args_c, frzs_n, frzs_c, lst_e, tup_e, call_e, peeks_n, peeks_c, opN_e, sl_e, part_n, part_s, meth_e, for_e, asgT_e, uNm_e, uTup_e, uCons_e, uNil_e, put_e, putS_e, isOw_e, mut_e, kdAt_e, mutK_e, items_e, enum_e, rng1_e, rng2_e, lc_e, dc_e, par_e, parL_n, parL_f, parL_t, unb_f, unb_n, unb_b, isNew_f, isNew_n, storeL_n, storeL_f, storeL_w, fn_e, mk_e, callK_e, frK_f, frK_n, mkK_e, mkF_e, prep_f, prep_t, prep_n, lentI_f, lentI_t, lentI_n, putOuts_n, putOuts_c, isi_e, fld_e, fldS_e, tru_e, bool_e, aug_e, sortLn_e, callFn_e, finF_x, finF_f, finF_n, outE_z, outZ_c, outZ_n, outS_w, outS_f, outS_o, lend_w, lend_f, lend_n, blk_e, wipe_n, wipe_c, free_e, dtO_n, dtO_s, entry_e, entryE_t, entryE_f, entryE_n, repl_z, outsAt_n, outsAt_f, outsAt_t, List.getElem?_cons_zero, List.getElem?_cons_succ, List.set_cons_zero, List.set_cons_succ, List.map_nil, List.map_cons, List.nil_append, List.cons_append, List.nodup_cons, List.nodup_nil, List.not_mem_nil, List.mem_cons, not_false_eq_true, and_self, and_true, true_and, or_false, false_or, if_true, reduceIte, Bool.false_eq_true, Option.bind_some, Option.map_some, List.length_cons, List.length_nil, Option.some.injEq, kd, Option.map_none, Option.bind_none, reduceCtorEq, Bool.not_true, Bool.not_false, decide_true, decide_false, Nat.reduceAdd, Nat.reduceLT, Nat.reduceLeDiff, Nat.zero_add, Nat.reduceEqDiff, List.replicate, Nat.reduceSub, List.all_cons, List.all_nil, Bool.and_true, Bool.and_self, List.append_nil, lB, tW, List.map_append, outS_l])
    (acc := []) (e := [.ow false (.ins 0 []), .fz p, .fz q, s3, s4]) ⟨by simp, rfl⟩
  rw [hln, List.take_length] at ha
  subst ha
  have hsum : semSum [.lst (ls.map fun l => PV.int ((2 ^ (25 - l) : Nat) : Int))] = some (.fz (.int ((2 ^ 25 : Nat) : Int))) := by
    rw [sum_map (fun l : Nat => ((2 ^ (25 - l) : Nat) : Int)), sum_cast, g.kraft]
  have ht := two_ok (k := 25) (by omega)
  have hd : decide (((2 ^ 25 : Nat) : Int) = ((2 ^ 25 : Nat) : Int)) = true := decide_eq_true rfl
  have hsg := signs_ok (n := (ls.length : Nat)) (by omega) (by omega)
  have hmx := max_tN hne
  unfold F_Code___init__ d_Code___init__ codeP
  generalize ((2 ^ 25 : Nat) : Int) = T at ht hsum hd
  have ht : F_two_to [.int 25] = .ok (.fz (.int T)) [] := ht
  have hlw : ∀ {ws : List Wd}, ws.map List.length = ls → tN ls = .tup (lensB ws) := fun {ws} e => by
    subst e
    show PV.tup _ = _
    rw [List.map_map]
    rfl
  have hw25 : ∀ {ws : List Wd}, ws.map List.length = ls → ws.length ≤ 26 ∧ ∀ w ∈ ws, w.length ≤ 25 := fun {ws} e => by
    subst e
    rw [List.length_map] at h26
    exact ⟨h26, fun w hw => (hl _ (List.mem_map_of_mem hw)).2⟩
  cases hq with
  | non =>
    have hcn := canon_ok g h26 h2
    rcases hp with rfl | rfl
    · simp only [bind_k, bh_k, seqK_n, seqK_r, seq_e, expr_e, ret_e, retV_f, retV_n, retV_b, ifK_t, ifK_f, ifS_e, if_e, set_e, store_f, store_n, store_b, var_e, stl_e, stl_f, stl_n, stl_b, peek_f, peek_n, peek_b, frz_f, frz_n, frz_b, bin_e, op2_d, toVal_s, asB_e, chain_e, un_e, not_e, notT_e, andT_e, orT_e, args_n, args_c, frzs_n, frzs_c, lst_e, tup_e, call_e, peeks_n, peeks_c, opN_e, sl_e, part_n, part_s, meth_e, for_e, asgT_e, uNm_e, uTup_e, uCons_e, uNil_e, put_e, putS_e, isOw_e, mut_e, kdAt_e, mutK_e, items_e, enum_e, rng1_e, rng2_e, lc_e, dc_e, par_e, parL_n, parL_f, parL_t, unb_f, unb_n, unb_b, isNew_f, isNew_n, storeL_n, storeL_f, storeL_w, fn_e, mk_e, callK_e, frK_f, frK_n, mkK_e, mkF_e, prep_f, prep_t, prep_n, lentI_f, lentI_t, lentI_n, putOuts_n, putOuts_c, isi_e, fld_e, fldS_e, tru_e, bool_e, aug_e, sortLn_e, callFn_e, finF_x, finF_f, finF_n, outE_z, outZ_c, outZ_n, outS_w, outS_f, outS_o, lend_w, lend_f, lend_n, blk_e, wipe_n, wipe_c, free_e, dtO_n, dtO_s, entry_e, entryE_t, entryE_f, entryE_n, repl_z, outsAt_n, outsAt_f, outsAt_t, List.getElem?_cons_zero, List.getElem?_cons_succ, List.set_cons_zero, List.set_cons_succ, List.map_nil, List.map_cons, List.nil_append, List.cons_append, List.nodup_cons, List.nodup_nil, List.not_mem_nil, List.mem_cons, not_false_eq_true, and_self, and_true, true_and, or_false, false_or, if_true, reduceIte, Bool.false_eq_true, Option.bind_some, Option.map_some, List.length_cons, List.length_nil, Option.some.injEq, kd, Option.map_none, Option.bind_none, reduceCtorEq, Bool.not_true, Bool.not_false, decide_true, decide_false, Nat.reduceAdd, Nat.reduceLT, Nat.reduceLeDiff, Nat.zero_add, Nat.reduceEqDiff, List.replicate, Nat.reduceSub, List.all_cons, List.all_nil, Bool.and_true, Bool.and_self, List.append_nil, lB, tW, List.map_append, lN, tN] at hcn hmx h1 h3 ⊢
      simp only [bind_k, bh_k, seqK_n, seqK_r, seq_e, expr_e, ret_e, retV_f, retV_n, retV_b, ifK_t, ifK_f, ifS_e, if_e, set_e, store_f, store_n, store_b, var_e, stl_e, stl_f, stl_n, stl_b, peek_f, peek_n, peek_b, frz_f, frz_n, frz_b, bin_e, op2_d, toVal_s, asB_e, chain_e, un_e, not_e, notT_e, andT_e, orT_e, args_n, args_c, frzs_n, frzs_c, lst_e, tup_e, call_e, peeks_n, peeks_c, opN_e, sl_e, part_n, part_s, meth_e, for_e, asgT_e, uNm_e, uTup_e, uCons_e, uNil_e, put_e, putS_e, isOw_e, mut_e, kdAt_e, mutK_e, items_e, enum_e, rng1_e, rng2_e, lc_e, dc_e, par_e, parL_n, parL_f, parL_t, unb_f, unb_n, unb_b, isNew_f, isNew_n, storeL_n, storeL_f, storeL_w, fn_e, mk_e, callK_e, frK_f, frK_n, mkK_e, mkF_e, prep_f, prep_t, prep_n, lentI_f, lentI_t, lentI_n, putOuts_n, putOuts_c, isi_e, fld_e, fldS_e, tru_e, bool_e, aug_e, sortLn_e, callFn_e, finF_x, finF_f, finF_n, outE_z, outZ_c, outZ_n, outS_w, outS_f, outS_o, lend_w, lend_f, lend_n, blk_e, wipe_n, wipe_c, free_e, dtO_n, dtO_s, entry_e, entryE_t, entryE_f, entryE_n, repl_z, outsAt_n, outsAt_f, outsAt_t, List.getElem?_cons_zero, List.getElem?_cons_succ, List.set_cons_zero, List.set_cons_succ, List.map_nil, List.map_cons, List.nil_append, List.cons_append, List.nodup_cons, List.nodup_nil, List.not_mem_nil, List.mem_cons, not_false_eq_true, and_self, and_true, true_and, or_false, false_or, if_true, reduceIte, Bool.false_eq_true, Option.bind_some, Option.map_some, List.length_cons, List.length_nil, Option.some.injEq, kd, Option.map_none, Option.bind_none, reduceCtorEq, Bool.not_true, Bool.not_false, decide_true, decide_false, Nat.reduceAdd, Nat.reduceLT, Nat.reduceLeDiff, Nat.zero_add, Nat.reduceEqDiff, List.replicate, Nat.reduceSub, List.all_cons, List.all_nil, Bool.and_true, Bool.and_self, List.append_nil, lB, tW, List.map_append, len_l, len_t, hln, hsg, h1, h3, items_l, hsum, ht, ne_i, hd, tuple_l, lay0, is_n, hcn, ix00, hmx, Nat.reduceLT]
    · simp only [bind_k, bh_k, seqK_n, seqK_r, seq_e, expr_e, ret_e, retV_f, retV_n, retV_b, ifK_t, ifK_f, ifS_e, if_e, set_e, store_f, store_n, store_b, var_e, stl_e, stl_f, stl_n, stl_b, peek_f, peek_n, peek_b, frz_f, frz_n, frz_b, bin_e, op2_d, toVal_s, asB_e, chain_e, un_e, not_e, notT_e, andT_e, orT_e, args_n, args_c, frzs_n, frzs_c, lst_e, tup_e, call_e, peeks_n, peeks_c, opN_e, sl_e, part_n, part_s, meth_e, for_e, asgT_e, uNm_e, uTup_e, uCons_e, uNil_e, put_e, putS_e, isOw_e, mut_e, kdAt_e, mutK_e, items_e, enum_e, rng1_e, rng2_e, lc_e, dc_e, par_e, parL_n, parL_f, parL_t, unb_f, unb_n, unb_b, isNew_f, isNew_n, storeL_n, storeL_f, storeL_w, fn_e, mk_e, callK_e, frK_f, frK_n, mkK_e, mkF_e, prep_f, prep_t, prep_n, lentI_f, lentI_t, lentI_n, putOuts_n, putOuts_c, isi_e, fld_e, fldS_e, tru_e, bool_e, aug_e, sortLn_e, callFn_e, finF_x, finF_f, finF_n, outE_z, outZ_c, outZ_n, outS_w, outS_f, outS_o, lend_w, lend_f, lend_n, blk_e, wipe_n, wipe_c, free_e, dtO_n, dtO_s, entry_e, entryE_t, entryE_f, entryE_n, repl_z, outsAt_n, outsAt_f, outsAt_t, List.getElem?_cons_zero, List.getElem?_cons_succ, List.set_cons_zero, List.set_cons_succ, List.map_nil, List.map_cons, List.nil_append, List.cons_append, List.nodup_cons, List.nodup_nil, List.not_mem_nil, List.mem_cons, not_false_eq_true, and_self, and_true, true_and, or_false, false_or, if_true, reduceIte, Bool.false_eq_true, Option.bind_some, Option.map_some, List.length_cons, List.length_nil, Option.some.injEq, kd, Option.map_none, Option.bind_none, reduceCtorEq, Bool.not_true, Bool.not_false, decide_true, decide_false, Nat.reduceAdd, Nat.reduceLT, Nat.reduceLeDiff, Nat.zero_add, Nat.reduceEqDiff, List.replicate, Nat.reduceSub, List.all_cons, List.all_nil, Bool.and_true, Bool.and_self, List.append_nil, lB, tW, List.map_append, lN, tN] at hcn hmx h1 h3 ⊢
      simp only [bind_k, bh_k, seqK_n, seqK_r, seq_e, expr_e, ret_e, retV_f, retV_n, retV_b, ifK_t, ifK_f, ifS_e, if_e, set_e, store_f, store_n, store_b, var_e, stl_e, stl_f, stl_n, stl_b, peek_f, peek_n, peek_b, frz_f, frz_n, frz_b, bin_e, op2_d, toVal_s, asB_e, chain_e, un_e, not_e, notT_e, andT_e, orT_e, args_n, args_c, frzs_n, frzs_c, lst_e, tup_e, call_e, peeks_n, peeks_c, opN_e, sl_e, part_n, part_s, meth_e, for_e, asgT_e, uNm_e, uTup_e, uCons_e, uNil_e, put_e, putS_e, isOw_e, mut_e, kdAt_e, mutK_e, items_e, enum_e, rng1_e, rng2_e, lc_e, dc_e, par_e, parL_n, parL_f, parL_t, unb_f, unb_n, unb_b, isNew_f, isNew_n, storeL_n, storeL_f, storeL_w, fn_e, mk_e, callK_e, frK_f, frK_n, mkK_e, mkF_e, prep_f, prep_t, prep_n, lentI_f, lentI_t, lentI_n, putOuts_n, putOuts_c, isi_e, fld_e, fldS_e, tru_e, bool_e, aug_e, sortLn_e, callFn_e, finF_x, finF_f, finF_n, outE_z, outZ_c, outZ_n, outS_w, outS_f, outS_o, lend_w, lend_f, lend_n, blk_e, wipe_n, wipe_c, free_e, dtO_n, dtO_s, entry_e, entryE_t, entryE_f, entryE_n, repl_z, outsAt_n, outsAt_f, outsAt_t, List.getElem?_cons_zero, List.getElem?_cons_succ, List.set_cons_zero, List.set_cons_succ, List.map_nil, List.map_cons, List.nil_append, List.cons_append, List.nodup_cons, List.nodup_nil, List.not_mem_nil, List.mem_cons, not_false_eq_true, and_self, and_true, true_and, or_false, false_or, if_true, reduceIte, Bool.false_eq_true, Option.bind_some, Option.map_some, List.length_cons, List.length_nil, Option.some.injEq, kd, Option.map_none, Option.bind_none, reduceCtorEq, Bool.not_true, Bool.not_false, decide_true, decide_false, Nat.reduceAdd, Nat.reduceLT, Nat.reduceLeDiff, Nat.zero_add, Nat.reduceEqDiff, List.replicate, Nat.reduceSub, List.all_cons, List.all_nil, Bool.and_true, Bool.and_self, List.append_nil, lB, tW, List.map_append, len_l, len_t, hln, hsg, h1, h3, items_t, hsum, ht, ne_i, hd, tuple_t, lay0, is_n, hcn, ix00, hmx, Nat.reduceLT]
  | lst e pw =>
    obtain ⟨w1, w2⟩ := hw25 e
    have hck := checked_l w1 w2 pw
    rw [← hlw e] at hck
    rcases hp with rfl | rfl
    · simp only [bind_k, bh_k, seqK_n, seqK_r, seq_e, expr_e, ret_e, retV_f, retV_n, retV_b, ifK_t, ifK_f, ifS_e, if_e, set_e, store_f, store_n, store_b, var_e, stl_e, stl_f, stl_n, stl_b, peek_f, peek_n, peek_b, frz_f, frz_n, frz_b, bin_e, op2_d, toVal_s, asB_e, chain_e, un_e, not_e, notT_e, andT_e, orT_e, args_n, args_c, frzs_n, frzs_c, lst_e, tup_e, call_e, peeks_n, peeks_c, opN_e, sl_e, part_n, part_s, meth_e, for_e, asgT_e, uNm_e, uTup_e, uCons_e, uNil_e, put_e, putS_e, isOw_e, mut_e, kdAt_e, mutK_e, items_e, enum_e, rng1_e, rng2_e, lc_e, dc_e, par_e, parL_n, parL_f, parL_t, unb_f, unb_n, unb_b, isNew_f, isNew_n, storeL_n, storeL_f, storeL_w, fn_e, mk_e, callK_e, frK_f, frK_n, mkK_e, mkF_e, prep_f, prep_t, prep_n, lentI_f, lentI_t, lentI_n, putOuts_n, putOuts_c, isi_e, fld_e, fldS_e, tru_e, bool_e, aug_e, sortLn_e, callFn_e, finF_x, finF_f, finF_n, outE_z, outZ_c, outZ_n, outS_w, outS_f, outS_o, lend_w, lend_f, lend_n, blk_e, wipe_n, wipe_c, free_e, dtO_n, dtO_s, entry_e, entryE_t, entryE_f, entryE_n, repl_z, outsAt_n, outsAt_f, outsAt_t, List.getElem?_cons_zero, List.getElem?_cons_succ, List.set_cons_zero, List.set_cons_succ, List.map_nil, List.map_cons, List.nil_append, List.cons_append, List.nodup_cons, List.nodup_nil, List.not_mem_nil, List.mem_cons, not_false_eq_true, and_self, and_true, true_and, or_false, false_or, if_true, reduceIte, Bool.false_eq_true, Option.bind_some, Option.map_some, List.length_cons, List.length_nil, Option.some.injEq, kd, Option.map_none, Option.bind_none, reduceCtorEq, Bool.not_true, Bool.not_false, decide_true, decide_false, Nat.reduceAdd, Nat.reduceLT, Nat.reduceLeDiff, Nat.zero_add, Nat.reduceEqDiff, List.replicate, Nat.reduceSub, List.all_cons, List.all_nil, Bool.and_true, Bool.and_self, List.append_nil, lB, tW, List.map_append, lN, tN] at hck hmx h1 h3 ⊢
      simp only [bind_k, bh_k, seqK_n, seqK_r, seq_e, expr_e, ret_e, retV_f, retV_n, retV_b, ifK_t, ifK_f, ifS_e, if_e, set_e, store_f, store_n, store_b, var_e, stl_e, stl_f, stl_n, stl_b, peek_f, peek_n, peek_b, frz_f, frz_n, frz_b, bin_e, op2_d, toVal_s, asB_e, chain_e, un_e, not_e, notT_e, andT_e, orT_e, args_n, args_c, frzs_n, frzs_c, lst_e, tup_e, call_e, peeks_n, peeks_c, opN_e, sl_e, part_n, part_s, meth_e, for_e, asgT_e, uNm_e, uTup_e, uCons_e, uNil_e, put_e, putS_e, isOw_e, mut_e, kdAt_e, mutK_e, items_e, enum_e, rng1_e, rng2_e, lc_e, dc_e, par_e, parL_n, parL_f, parL_t, unb_f, unb_n, unb_b, isNew_f, isNew_n, storeL_n, storeL_f, storeL_w, fn_e, mk_e, callK_e, frK_f, frK_n, mkK_e, mkF_e, prep_f, prep_t, prep_n, lentI_f, lentI_t, lentI_n, putOuts_n, putOuts_c, isi_e, fld_e, fldS_e, tru_e, bool_e, aug_e, sortLn_e, callFn_e, finF_x, finF_f, finF_n, outE_z, outZ_c, outZ_n, outS_w, outS_f, outS_o, lend_w, lend_f, lend_n, blk_e, wipe_n, wipe_c, free_e, dtO_n, dtO_s, entry_e, entryE_t, entryE_f, entryE_n, repl_z, outsAt_n, outsAt_f, outsAt_t, List.getElem?_cons_zero, List.getElem?_cons_succ, List.set_cons_zero, List.set_cons_succ, List.map_nil, List.map_cons, List.nil_append, List.cons_append, List.nodup_cons, List.nodup_nil, List.not_mem_nil, List.mem_cons, not_false_eq_true, and_self, and_true, true_and, or_false, false_or, if_true, reduceIte, Bool.false_eq_true, Option.bind_some, Option.map_some, List.length_cons, List.length_nil, Option.some.injEq, kd, Option.map_none, Option.bind_none, reduceCtorEq, Bool.not_true, Bool.not_false, decide_true, decide_false, Nat.reduceAdd, Nat.reduceLT, Nat.reduceLeDiff, Nat.zero_add, Nat.reduceEqDiff, List.replicate, Nat.reduceSub, List.all_cons, List.all_nil, Bool.and_true, Bool.and_self, List.append_nil, lB, tW, List.map_append, len_l, len_t, hln, hsg, h1, h3, items_l, hsum, ht, ne_i, hd, tuple_l, lay0, is_l, hck, ix00, hmx, Nat.reduceLT]
    · simp only [bind_k, bh_k, seqK_n, seqK_r, seq_e, expr_e, ret_e, retV_f, retV_n, retV_b, ifK_t, ifK_f, ifS_e, if_e, set_e, store_f, store_n, store_b, var_e, stl_e, stl_f, stl_n, stl_b, peek_f, peek_n, peek_b, frz_f, frz_n, frz_b, bin_e, op2_d, toVal_s, asB_e, chain_e, un_e, not_e, notT_e, andT_e, orT_e, args_n, args_c, frzs_n, frzs_c, lst_e, tup_e, call_e, peeks_n, peeks_c, opN_e, sl_e, part_n, part_s, meth_e, for_e, asgT_e, uNm_e, uTup_e, uCons_e, uNil_e, put_e, putS_e, isOw_e, mut_e, kdAt_e, mutK_e, items_e, enum_e, rng1_e, rng2_e, lc_e, dc_e, par_e, parL_n, parL_f, parL_t, unb_f, unb_n, unb_b, isNew_f, isNew_n, storeL_n, storeL_f, storeL_w, fn_e, mk_e, callK_e, frK_f, frK_n, mkK_e, mkF_e, prep_f, prep_t, prep_n, lentI_f, lentI_t, lentI_n, putOuts_n, putOuts_c, isi_e, fld_e, fldS_e, tru_e, bool_e, aug_e, sortLn_e, callFn_e, finF_x, finF_f, finF_n, outE_z, outZ_c, outZ_n, outS_w, outS_f, outS_o, lend_w, lend_f, lend_n, blk_e, wipe_n, wipe_c, free_e, dtO_n, dtO_s, entry_e, entryE_t, entryE_f, entryE_n, repl_z, outsAt_n, outsAt_f, outsAt_t, List.getElem?_cons_zero, List.getElem?_cons_succ, List.set_cons_zero, List.set_cons_succ, List.map_nil, List.map_cons, List.nil_append, List.cons_append, List.nodup_cons, List.nodup_nil, List.not_mem_nil, List.mem_cons, not_false_eq_true, and_self, and_true, true_and, or_false, false_or, if_true, reduceIte, Bool.false_eq_true, Option.bind_some, Option.map_some, List.length_cons, List.length_nil, Option.some.injEq, kd, Option.map_none, Option.bind_none, reduceCtorEq, Bool.not_true, Bool.not_false, decide_true, decide_false, Nat.reduceAdd, Nat.reduceLT, Nat.reduceLeDiff, Nat.zero_add, Nat.reduceEqDiff, List.replicate, Nat.reduceSub, List.all_cons, List.all_nil, Bool.and_true, Bool.and_self, List.append_nil, lB, tW, List.map_append, lN, tN] at hck hmx h1 h3 ⊢
      simp only [bind_k, bh_k, seqK_n, seqK_r, seq_e, expr_e, ret_e, retV_f, retV_n, retV_b, ifK_t, ifK_f, ifS_e, if_e, set_e, store_f, store_n, store_b, var_e, stl_e, stl_f, stl_n, stl_b, peek_f, peek_n, peek_b, frz_f, frz_n, frz_b, bin_e, op2_d, toVal_s, asB_e, chain_e, un_e, not_e, notT_e, andT_e, orT_e, args_n, args_c, frzs_n, frzs_c, lst_e, tup_e, call_e, peeks_n, peeks_c, opN_e, sl_e, part_n, part_s, meth_e, for_e, asgT_e, uNm_e, uTup_e, uCons_e, uNil_e, put_e, putS_e, isOw_e, mut_e, kdAt_e, mutK_e, items_e, enum_e, rng1_e, rng2_e, lc_e, dc_e, par_e, parL_n, parL_f, parL_t, unb_f, unb_n, unb_b, isNew_f, isNew_n, storeL_n, storeL_f, storeL_w, fn_e, mk_e, callK_e, frK_f, frK_n, mkK_e, mkF_e, prep_f, prep_t, prep_n, lentI_f, lentI_t, lentI_n, putOuts_n, putOuts_c, isi_e, fld_e, fldS_e, tru_e, bool_e, aug_e, sortLn_e, callFn_e, finF_x, finF_f, finF_n, outE_z, outZ_c, outZ_n, outS_w, outS_f, outS_o, lend_w, lend_f, lend_n, blk_e, wipe_n, wipe_c, free_e, dtO_n, dtO_s, entry_e, entryE_t, entryE_f, entryE_n, repl_z, outsAt_n, outsAt_f, outsAt_t, List.getElem?_cons_zero, List.getElem?_cons_succ, List.set_cons_zero, List.set_cons_succ, List.map_nil, List.map_cons, List.nil_append, List.cons_append, List.nodup_cons, List.nodup_nil, List.not_mem_nil, List.mem_cons, not_false_eq_true, and_self, and_true, true_and, or_false, false_or, if_true, reduceIte, Bool.false_eq_true, Option.bind_some, Option.map_some, List.length_cons, List.length_nil, Option.some.injEq, kd, Option.map_none, Option.bind_none, reduceCtorEq, Bool.not_true, Bool.not_false, decide_true, decide_false, Nat.reduceAdd, Nat.reduceLT, Nat.reduceLeDiff, Nat.zero_add, Nat.reduceEqDiff, List.replicate, Nat.reduceSub, List.all_cons, List.all_nil, Bool.and_true, Bool.and_self, List.append_nil, lB, tW, List.map_append, len_l, len_t, hln, hsg, h1, h3, items_t, hsum, ht, ne_i, hd, tuple_t, lay0, is_l, hck, ix00, hmx, Nat.reduceLT]
  | tup e pw =>
    obtain ⟨w1, w2⟩ := hw25 e
    have hck := checked_t w1 w2 pw
    rw [← hlw e] at hck
    rcases hp with rfl | rfl
    · simp only [bind_k, bh_k, seqK_n, seqK_r, seq_e, expr_e, ret_e, retV_f, retV_n, retV_b, ifK_t, ifK_f, ifS_e, if_e, set_e, store_f, store_n, store_b, var_e, stl_e, stl_f, stl_n, stl_b, peek_f, peek_n, peek_b, frz_f, frz_n, frz_b, bin_e, op2_d, toVal_s, asB_e, chain_e, un_e, not_e, notT_e, andT_e, orT_e, args_n, args_c, frzs_n, frzs_c, lst_e, tup_e, call_e, peeks_n, peeks_c, opN_e, sl_e, part_n, part_s, meth_e, for_e, asgT_e, uNm_e, uTup_e, uCons_e, uNil_e, put_e, putS_e, isOw_e, mut_e, kdAt_e, mutK_e, items_e, enum_e, rng1_e, rng2_e, lc_e, dc_e, par_e, parL_n, parL_f, parL_t, unb_f, unb_n, unb_b, isNew_f, isNew_n, storeL_n, storeL_f, storeL_w, fn_e, mk_e, callK_e, frK_f, frK_n, mkK_e, mkF_e, prep_f, prep_t, prep_n, lentI_f, lentI_t, lentI_n, putOuts_n, putOuts_c, isi_e, fld_e, fldS_e, tru_e, bool_e, aug_e, sortLn_e, callFn_e, finF_x, finF_f, finF_n, outE_z, outZ_c, outZ_n, outS_w, outS_f, outS_o, lend_w, lend_f, lend_n, blk_e, wipe_n, wipe_c, free_e, dtO_n, dtO_s, entry_e, entryE_t, entryE_f, entryE_n, repl_z, outsAt_n, outsAt_f, outsAt_t, List.getElem?_cons_zero, List.getElem?_cons_succ, List.set_cons_zero, List.set_cons_succ, List.map_nil, List.map_cons, List.nil_append, List.cons_append, List.nodup_cons, List.nodup_nil, List.not_mem_nil, List.mem_cons, not_false_eq_true, and_self, and_true, true_and, or_false, false_or, if_true, reduceIte, Bool.false_eq_true, Option.bind_some, Option.map_some, List.length_cons, List.length_nil, Option.some.injEq, kd, Option.map_none, Option.bind_none, reduceCtorEq, Bool.not_true, Bool.not_false, decide_true, decide_false, Nat.reduceAdd, Nat.reduceLT, Nat.reduceLeDiff, Nat.zero_add, Nat.reduceEqDiff, List.replicate, Nat.reduceSub, List.all_cons, List.all_nil, Bool.and_true, Bool.and_self, List.append_nil, lB, tW, List.map_append, lN, tN] at hck hmx h1 h3 ⊢
      simp only [bind_k, bh_k, seqK_n, seqK_r, seq_e, expr_e, ret_e, retV_f, retV_n, retV_b, ifK_t, ifK_f, ifS_e, if_e, set_e, store_f, store_n, store_b, var_e, stl_e, stl_f, stl_n, stl_b, peek_f, peek_n, peek_b, frz_f, frz_n, frz_b, bin_e, op2_d, toVal_s, asB_e, chain_e, un_e, not_e, notT_e, andT_e, orT_e, args_n, args_c, frzs_n, frzs_c, lst_e, tup_e, call_e, peeks_n, peeks_c, opN_e, sl_e, part_n, part_s, meth_e, for_e, asgT_e, uNm_e, uTup_e, uCons_e, uNil_e, put_e, putS_e, isOw_e, mut_e, kdAt_e, mutK_e, items_e, enum_e, rng1_e, rng2_e, lc_e, dc_e, par_e, parL_n, parL_f, parL_t, unb_f, unb_n, unb_b, isNew_f, isNew_n, storeL_n, storeL_f, storeL_w, fn_e, mk_e, callK_e, frK_f, frK_n, mkK_e, mkF_e, prep_f, prep_t, prep_n, lentI_f, lentI_t, lentI_n, putOuts_n, putOuts_c, isi_e, fld_e, fldS_e, tru_e, bool_e, aug_e, sortLn_e, callFn_e, finF_x, finF_f, finF_n, outE_z, outZ_c, outZ_n, outS_w, outS_f, outS_o, lend_w, lend_f, lend_n, blk_e, wipe_n, wipe_c, free_e, dtO_n, dtO_s, entry_e, entryE_t, entryE_f, entryE_n, repl_z, outsAt_n, outsAt_f, outsAt_t, List.getElem?_cons_zero, List.getElem?_cons_succ, List.set_cons_zero, List.set_cons_succ, List.map_nil, List.map_cons, List.nil_append, List.cons_append, List.nodup_cons, List.nodup_nil, List.not_mem_nil, List.mem_cons, not_false_eq_true, and_self, and_true, true_and, or_false, false_or, if_true, reduceIte, Bool.false_eq_true, Option.bind_some, Option.map_some, List.length_cons, List.length_nil, Option.some.injEq, kd, Option.map_none, Option.bind_none, reduceCtorEq, Bool.not_true, Bool.not_false, decide_true, decide_false, Nat.reduceAdd, Nat.reduceLT, Nat.reduceLeDiff, Nat.zero_add, Nat.reduceEqDiff, List.replicate, Nat.reduceSub, List.all_cons, List.all_nil, Bool.and_true, Bool.and_self, List.append_nil, lB, tW, List.map_append, len_l, len_t, hln, hsg, h1, h3, items_l, hsum, ht, ne_i, hd, tuple_l, lay0, is_t, hck, ix00, hmx, Nat.reduceLT]
    · simp only [bind_k, bh_k, seqK_n, seqK_r, seq_e, expr_e, ret_e, retV_f, retV_n, retV_b, ifK_t, ifK_f, ifS_e, if_e, set_e, store_f, store_n, store_b, var_e, stl_e, stl_f, stl_n, stl_b, peek_f, peek_n, peek_b, frz_f, frz_n, frz_b, bin_e, op2_d, toVal_s, asB_e, chain_e, un_e, not_e, notT_e, andT_e, orT_e, args_n, args_c, frzs_n, frzs_c, lst_e, tup_e, call_e, peeks_n, peeks_c, opN_e, sl_e, part_n, part_s, meth_e, for_e, asgT_e, uNm_e, uTup_e, uCons_e, uNil_e, put_e, putS_e, isOw_e, mut_e, kdAt_e, mutK_e, items_e, enum_e, rng1_e, rng2_e, lc_e, dc_e, par_e, parL_n, parL_f, parL_t, unb_f, unb_n, unb_b, isNew_f, isNew_n, storeL_n, storeL_f, storeL_w, fn_e, mk_e, callK_e, frK_f, frK_n, mkK_e, mkF_e, prep_f, prep_t, prep_n, lentI_f, lentI_t, lentI_n, putOuts_n, putOuts_c, isi_e, fld_e, fldS_e, tru_e, bool_e, aug_e, sortLn_e, callFn_e, finF_x, finF_f, finF_n, outE_z, outZ_c, outZ_n, outS_w, outS_f, outS_o, lend_w, lend_f, lend_n, blk_e, wipe_n, wipe_c, free_e, dtO_n, dtO_s, entry_e, entryE_t, entryE_f, entryE_n, repl_z, outsAt_n, outsAt_f, outsAt_t, List.getElem?_cons_zero, List.getElem?_cons_succ, List.set_cons_zero, List.set_cons_succ, List.map_nil, List.map_cons, List.nil_append, List.cons_append, List.nodup_cons, List.nodup_nil, List.not_mem_nil, List.mem_cons, not_false_eq_true, and_self, and_true, true_and, or_false, false_or, if_true, reduceIte, Bool.false_eq_true, Option.bind_some, Option.map_some, List.length_cons, List.length_nil, Option.some.injEq, kd, Option.map_none, Option.bind_none, reduceCtorEq, Bool.not_true, Bool.not_false, decide_true, decide_false, Nat.reduceAdd, Nat.reduceLT, Nat.reduceLeDiff, Nat.zero_add, Nat.reduceEqDiff, List.replicate, Nat.reduceSub, List.all_cons, List.all_nil, Bool.and_true, Bool.and_self, List.append_nil, lB, tW, List.map_append, lN, tN] at hck hmx h1 h3 ⊢
      simp only [bind_k, bh_k, seqK_n, seqK_r, seq_e, expr_e, ret_e, retV_f, retV_n, retV_b, ifK_t, ifK_f, ifS_e, if_e, set_e, store_f, store_n, store_b, var_e, stl_e, stl_f, stl_n, stl_b, peek_f, peek_n, peek_b, frz_f, frz_n, frz_b, bin_e, op2_d, toVal_s, asB_e, chain_e, un_e, not_e, notT_e, andT_e, orT_e, args_n, args_c, frzs_n, frzs_c, lst_e, tup_e, call_e, peeks_n, peeks_c, opN_e, sl_e, part_n, part_s, meth_e, for_e, asgT_e, uNm_e, uTup_e, uCons_e, uNil_e, put_e, putS_e, isOw_e, mut_e, kdAt_e, mutK_e, items_e, enum_e, rng1_e, rng2_e, lc_e, dc_e, par_e, parL_n, parL_f, parL_t, unb_f, unb_n, unb_b, isNew_f, isNew_n, storeL_n, storeL_f, storeL_w, fn_e, mk_e, callK_e, frK_f, frK_n, mkK_e, mkF_e, prep_f, prep_t, prep_n, lentI_f, lentI_t, lentI_n, putOuts_n, putOuts_c, isi_e, fld_e, fldS_e, tru_e, bool_e, aug_e, sortLn_e, callFn_e, finF_x, finF_f, finF_n, outE_z, outZ_c, outZ_n, outS_w, outS_f, outS_o, lend_w, lend_f, lend_n, blk_e, wipe_n, wipe_c, free_e, dtO_n, dtO_s, entry_e, entryE_t, entryE_f, entryE_n, repl_z, outsAt_n, outsAt_f, outsAt_t, List.getElem?_cons_zero, List.getElem?_cons_succ, List.set_cons_zero, List.set_cons_succ, List.map_nil, List.map_cons, List.nil_append, List.cons_append, List.nodup_cons, List.nodup_nil, List.not_mem_nil, List.mem_cons, not_false_eq_true, and_self, and_true, true_and, or_false, false_or, if_true, reduceIte, Bool.false_eq_true, Option.bind_some, Option.map_some, List.length_cons, List.length_nil, Option.some.injEq, kd, Option.map_none, Option.bind_none, reduceCtorEq, Bool.not_true, Bool.not_false, decide_true, decide_false, Nat.reduceAdd, Nat.reduceLT, Nat.reduceLeDiff, Nat.zero_add, Nat.reduceEqDiff, List.replicate, Nat.reduceSub, List.all_cons, List.all_nil, Bool.and_true, Bool.and_self, List.append_nil, lB, tW, List.map_append, len_l, len_t, hln, hsg, h1, h3, items_t, hsum, ht, ne_i, hd, tuple_t, lay0, is_t, hck, ix00, hmx, Nat.reduceLT]
end K37

set_option maxRecDepth 100000
set_option maxHeartbeats 4000000
namespace VL
open PySem PySem.Spec L2
open PyProof.Rows hiding St
/-! ### words turned -/
theorem ntW_ntW (w : Wd) : ntW (ntW w) = w := by
  unfold ntW
  rw [List.map_map]
  conv => rhs; rw [← List.map_id w]
  exact List.map_congr_left fun b _ => by simp
theorem ntW_len (w : Wd) : (ntW w).length = w.length := List.length_map ..
theorem ntW_pre {a b : Wd} (h : ntW a <+: ntW b) : a <+: b := by
  have : ntW (ntW a) <+: ntW (ntW b) := h.map _
  rwa [ntW_ntW, ntW_ntW] at this
theorem apart_nt {ws : List Wd} (h : ws.Pairwise Apart) : (ws.map ntW).Pairwise Apart := by
  rw [List.pairwise_map]
  exact h.imp fun h => ⟨fun z => h.1 (ntW_pre z), fun z => h.2 (ntW_pre z)⟩
theorem nt_lens (ws : List Wd) : (ws.map ntW).map List.length = ws.map List.length := by
  rw [List.map_map]
  exact List.map_congr_left fun w _ => ntW_len w
theorem nt_ne {ls : List Nat} (g : GL ls) (h : ls ≠ []) : wordsOf ls ≠ (wordsOf ls).map ntW := by
  intro e
  have hl := words_lens (ls := ls)
  cases hw : wordsOf ls with
  | nil => rw [hw] at hl; exact h hl.symm
  | cons w r =>
    rw [hw, List.map_cons] at e hl
    have e1 : w = ntW w := (List.cons.inj e).1
    cases w with
    | nil =>
      have : (0 : Nat) ∈ ls := by rw [← hl]; exact List.mem_cons_self ..
      have := g.pos _ this
      omega
    | cons b t =>
      have : b = !b := (List.cons.inj e1).1
      cases b <;> cases this
theorem GL.perm {ls ms : List Nat} (g : GL ls) (p : ms.Perm ls) : GL ms := by
  refine ⟨fun l hl => g.pos l (p.mem_iff.mp hl), fun l hl => ?_, ?_⟩
  · rw [p.length_eq]; exact g.le l (p.mem_iff.mp hl)
  · rw [← g.kraft]; exact (p.map _).sum_nat
def rotN (ls : List Nat) (a : Nat) : List Nat := ls.drop a ++ ls.take a
theorem rot_perm (ls : List Nat) (a : Nat) : (rotN ls a).Perm ls := by
  unfold rotN
  refine List.perm_append_comm.trans ?_
  rw [List.take_append_drop]
theorem rot_eq {ls : List Nat} (a : Nat) : decide (wordsOf (rotN ls a) = wordsOf ls) = decide (rotN ls a = ls) := by
  congr 1
  exact propext ⟨words_inj, fun h => by rw [h]⟩
/-! ### applied -/
section
variable {e e1 e2 e3 : Env'} {c i : Nat} {fn : List PV → FR} {d d1 d2 : Env' → Res Val} {x y : Val} {p q : PV} {is : List Nat}
def ownK (neg : Bool) (c : Nat) (fn : List PV → FR) (x y : Val) (e2 : Env') : Res Val := if insAt c 0 x e2 = true ∧ (peek y e2).map (rightQ c) = some true then
    (callK [false, false] fn [x, y] e2).bind fun r e3 => match r with
      | .fz (.bl b) => .ok (.fz (.bl (if neg = true then !b else b))) e3
      | _ => .bad
  else .bad
theorem ownQ_e {neg : Bool} : dOwnQ neg c fn d1 d2 e = (stl d1 e).bh fun x e1 => (stl d2 e1).bh fun y e2 => ownK neg c fn x y e2 := id rfl
theorem ownK_ok {neg b : Bool} (h1 : insAt c 0 x e = true) (h2 : (peek y e).map (rightQ c) = some true) (h3 : callK [false, false] fn [x, y] e = .ok (.fz (.bl b)) e3) : ownK neg c fn x y e = .ok (.fz (.bl (if neg = true then !b else b))) e3 := by
  unfold ownK
  rw [if_pos ⟨h1, h2⟩, h3]
  rfl
theorem ro_e : dRo is d e = match roE is e with
  | some e' => (match d e' with
    | .ok (.fz p) _ => if noLst p = true then .ok (.fz p) e else .bad
    | .ok (.new p) _ => if noLst1 p = true then .ok (.new p) e else .bad
    | _ => .bad)
  | none => .bad := by unfold dRo; rfl
theorem roE_n : roE [] e = some (e.map hideS) := id rfl
theorem roE_c {is : List Nat} : roE (i :: is) e = match e[i]?, roE is e with
    | some (.ow _ (.lst xs)), some e' => some (e'.set i (.fz (.lst xs)))
    | _, _ => none := by
  (conv => lhs; unfold roE) <;> rfl
theorem hide_w {b : Bool} : hideS (.ow b p) = .no := id rfl
theorem hide_f : hideS (.fz p) = .fz p := id rfl
theorem hide_n : hideS .no = .no := id rfl
theorem clear_l {xs : List PV} : semClear (.lst xs) [] = some (.lst [], .non) := id rfl
end
theorem noLsts_map {α : Type} {f : α → PV} (h : ∀ a, noLst (f a) = true) : ∀ l : List α, noLsts (l.map f) = true
  | [] => rfl
  | a :: l => by simp only [List.map_cons, noLsts, h a, noLsts_map h l, Bool.and_self]
theorem sl_from {α : Type} {xs : List α} {i : Nat} (h : i ≤ xs.length) : cutL xs (some ((i : Nat) : Int)) none = xs.drop i := by
  unfold cutL
  rw [HT.sIx_nat, HT.sIx_none, Nat.min_eq_left h]
  exact List.take_of_length_le (by rw [List.length_drop]; exact Nat.le_refl _)
theorem sl_to {α : Type} {xs : List α} {i : Nat} (h : i ≤ xs.length) : cutL xs none (some ((i : Nat) : Int)) = xs.take i := by
  unfold cutL
  rw [HT.sIx_nat, HT.sIx_none, Nat.min_eq_left h, List.drop_zero, Nat.sub_zero]
theorem sl_l {xs : List PV} {lo hi : Option Int} : semSl (.lst xs) lo hi = some (.new (.lst (cutL xs lo hi))) := id rfl
theorem list_ll {xs : List PV} : semList [.lst xs] = some (.new (.lst xs)) := id rfl
end VL
namespace K37
open PySem PySem.Spec L2 VL
open PyProof.Rows hiding St
theorem noT (ls : List Nat) : noLsts (ls.map fun n => PV.int (n : Nat)) = true := noLsts_map (fun _ => rfl) ls
theorem noW (ws : List Wd) : noLsts (ws.map sB) = true := noLsts_map (fun _ => rfl) ws
theorem no_code (ls : List Nat) (ws : List Wd) : noLst1 (codeP ls ws) = true := by
  simp only [codeP, noLst1, noLst, noLsts, noT, noW, Bool.and_self]
theorem no_tW (ws : List Wd) : noLst (tW ws) = true := by
  simp only [tW, noLst, noW]
theorem eq_code (ls ms : List Nat) (ws vs : List Wd) : F_Code___eq__ [codeP ls ws, codeP ms vs] = .ok (.fz (.bl (decide (ws = vs)))) [] := by
  have h : ansO 1 0 (codeP ms vs) = some true := by rfl
  have e := eq_tW ws vs
  unfold F_Code___eq__ d_Code___eq__
  unfold codeP at h ⊢
  simp only [bind_k, bh_k, seqK_n, seqK_r, seq_e, expr_e, ret_e, retV_f, retV_n, retV_b, ifK_t, ifK_f, ifS_e, if_e, set_e, store_f, store_n, store_b, var_e, stl_e, stl_f, stl_n, stl_b, peek_f, peek_n, peek_b, frz_f, frz_n, frz_b, bin_e, op2_d, toVal_s, asB_e, chain_e, un_e, not_e, notT_e, andT_e, orT_e, args_n, args_c, frzs_n, frzs_c, lst_e, tup_e, call_e, peeks_n, peeks_c, opN_e, sl_e, part_n, part_s, meth_e, for_e, asgT_e, uNm_e, uTup_e, uCons_e, uNil_e, put_e, putS_e, isOw_e, mut_e, kdAt_e, mutK_e, items_e, enum_e, rng1_e, rng2_e, lc_e, dc_e, par_e, parL_n, parL_f, parL_t, unb_f, unb_n, unb_b, isNew_f, isNew_n, storeL_n, storeL_f, storeL_w, fn_e, mk_e, callK_e, frK_f, frK_n, mkK_e, mkF_e, prep_f, prep_t, prep_n, lentI_f, lentI_t, lentI_n, putOuts_n, putOuts_c, isi_e, fld_e, fldS_e, tru_e, bool_e, aug_e, sortLn_e, callFn_e, finF_x, finF_f, finF_n, outE_z, outZ_c, outZ_n, outS_w, outS_f, outS_o, lend_w, lend_f, lend_n, blk_e, wipe_n, wipe_c, free_e, dtO_n, dtO_s, entry_e, entryE_t, entryE_f, entryE_n, repl_z, outsAt_n, outsAt_f, outsAt_t, List.getElem?_cons_zero, List.getElem?_cons_succ, List.set_cons_zero, List.set_cons_succ, List.map_nil, List.map_cons, List.nil_append, List.cons_append, List.nodup_cons, List.nodup_nil, List.not_mem_nil, List.mem_cons, not_false_eq_true, and_self, and_true, true_and, or_false, false_or, if_true, reduceIte, Bool.false_eq_true, Option.bind_some, Option.map_some, List.length_cons, List.length_nil, Option.some.injEq, kd, Option.map_none, Option.bind_none, reduceCtorEq, Bool.not_true, Bool.not_false, decide_true, decide_false, Nat.reduceAdd, Nat.reduceLT, Nat.reduceLeDiff, Nat.zero_add, Nat.reduceEqDiff, List.replicate, Nat.reduceSub, List.all_cons, List.all_nil, Bool.and_true, Bool.and_self, List.append_nil, lB, tW, List.map_append, h, tru_b, lay0, ix01] at e ⊢
  simp only [bind_k, bh_k, seqK_n, seqK_r, seq_e, expr_e, ret_e, retV_f, retV_n, retV_b, ifK_t, ifK_f, ifS_e, if_e, set_e, store_f, store_n, store_b, var_e, stl_e, stl_f, stl_n, stl_b, peek_f, peek_n, peek_b, frz_f, frz_n, frz_b, bin_e, op2_d, toVal_s, asB_e, chain_e, un_e, not_e, notT_e, andT_e, orT_e, args_n, args_c, frzs_n, frzs_c, lst_e, tup_e, call_e, peeks_n, peeks_c, opN_e, sl_e, part_n, part_s, meth_e, for_e, asgT_e, uNm_e, uTup_e, uCons_e, uNil_e, put_e, putS_e, isOw_e, mut_e, kdAt_e, mutK_e, items_e, enum_e, rng1_e, rng2_e, lc_e, dc_e, par_e, parL_n, parL_f, parL_t, unb_f, unb_n, unb_b, isNew_f, isNew_n, storeL_n, storeL_f, storeL_w, fn_e, mk_e, callK_e, frK_f, frK_n, mkK_e, mkF_e, prep_f, prep_t, prep_n, lentI_f, lentI_t, lentI_n, putOuts_n, putOuts_c, isi_e, fld_e, fldS_e, tru_e, bool_e, aug_e, sortLn_e, callFn_e, finF_x, finF_f, finF_n, outE_z, outZ_c, outZ_n, outS_w, outS_f, outS_o, lend_w, lend_f, lend_n, blk_e, wipe_n, wipe_c, free_e, dtO_n, dtO_s, entry_e, entryE_t, entryE_f, entryE_n, repl_z, outsAt_n, outsAt_f, outsAt_t, List.getElem?_cons_zero, List.getElem?_cons_succ, List.set_cons_zero, List.set_cons_succ, List.map_nil, List.map_cons, List.nil_append, List.cons_append, List.nodup_cons, List.nodup_nil, List.not_mem_nil, List.mem_cons, not_false_eq_true, and_self, and_true, true_and, or_false, false_or, if_true, reduceIte, Bool.false_eq_true, Option.bind_some, Option.map_some, List.length_cons, List.length_nil, Option.some.injEq, kd, Option.map_none, Option.bind_none, reduceCtorEq, Bool.not_true, Bool.not_false, decide_true, decide_false, Nat.reduceAdd, Nat.reduceLT, Nat.reduceLeDiff, Nat.zero_add, Nat.reduceEqDiff, List.replicate, Nat.reduceSub, List.all_cons, List.all_nil, Bool.and_true, Bool.and_self, List.append_nil, lB, tW, List.map_append, e]
theorem eq_other (ls ms : List Nat) (ws : List Wd) : F_Code___eq__ [codeP ls ws, tN ms] = .ok (.fz (.bl false)) [] := by
  have h : ansO 1 0 (tN ms) = some false := by rfl
  unfold F_Code___eq__ d_Code___eq__
  unfold codeP
  simp only [bind_k, bh_k, seqK_n, seqK_r, seq_e, expr_e, ret_e, retV_f, retV_n, retV_b, ifK_t, ifK_f, ifS_e, if_e, set_e, store_f, store_n, store_b, var_e, stl_e, stl_f, stl_n, stl_b, peek_f, peek_n, peek_b, frz_f, frz_n, frz_b, bin_e, op2_d, toVal_s, asB_e, chain_e, un_e, not_e, notT_e, andT_e, orT_e, args_n, args_c, frzs_n, frzs_c, lst_e, tup_e, call_e, peeks_n, peeks_c, opN_e, sl_e, part_n, part_s, meth_e, for_e, asgT_e, uNm_e, uTup_e, uCons_e, uNil_e, put_e, putS_e, isOw_e, mut_e, kdAt_e, mutK_e, items_e, enum_e, rng1_e, rng2_e, lc_e, dc_e, par_e, parL_n, parL_f, parL_t, unb_f, unb_n, unb_b, isNew_f, isNew_n, storeL_n, storeL_f, storeL_w, fn_e, mk_e, callK_e, frK_f, frK_n, mkK_e, mkF_e, prep_f, prep_t, prep_n, lentI_f, lentI_t, lentI_n, putOuts_n, putOuts_c, isi_e, fld_e, fldS_e, tru_e, bool_e, aug_e, sortLn_e, callFn_e, finF_x, finF_f, finF_n, outE_z, outZ_c, outZ_n, outS_w, outS_f, outS_o, lend_w, lend_f, lend_n, blk_e, wipe_n, wipe_c, free_e, dtO_n, dtO_s, entry_e, entryE_t, entryE_f, entryE_n, repl_z, outsAt_n, outsAt_f, outsAt_t, List.getElem?_cons_zero, List.getElem?_cons_succ, List.set_cons_zero, List.set_cons_succ, List.map_nil, List.map_cons, List.nil_append, List.cons_append, List.nodup_cons, List.nodup_nil, List.not_mem_nil, List.mem_cons, not_false_eq_true, and_self, and_true, true_and, or_false, false_or, if_true, reduceIte, Bool.false_eq_true, Option.bind_some, Option.map_some, List.length_cons, List.length_nil, Option.some.injEq, kd, Option.map_none, Option.bind_none, reduceCtorEq, Bool.not_true, Bool.not_false, decide_true, decide_false, Nat.reduceAdd, Nat.reduceLT, Nat.reduceLeDiff, Nat.zero_add, Nat.reduceEqDiff, List.replicate, Nat.reduceSub, List.all_cons, List.all_nil, Bool.and_true, Bool.and_self, List.append_nil, lB, tW, List.map_append, h, tru_b]
/-- the law's slots -/
abbrev E (sc p t s3 s4 s5 s6 s7 s9 s10 s11 s12 s13 : Sl) : Env' := [sc, p, t, s3, s4, s5, s6, s7, .no, s9, s10, s11, s12, s13]
end K37

set_option maxRecDepth 100000
set_option maxHeartbeats 4000000
namespace K37
open PySem PySem.Spec L2 VL
open PyProof.Rows hiding St
def b2 : Env' → Res Fl := (dSet 3 (dFn [true, false] F_law_pick [] [(dVar 1), (dLst [(fun e => .ok (.fz (.int 2)) e), (fun e => .ok (.fz (.int 3)) e), (fun e => .ok (.fz (.int 4)) e), (fun e => .ok (.fz (.int 5)) e), (fun e => .ok (.fz (.int 7)) e), (fun e => .ok (.fz (.int 12)) e), (fun e => .ok (.fz (.int 26)) e)])]))
def b3 : Env' → Res Fl := (dSet 4 (dFn [true, false] F_law_lengths_of [] [(dVar 1), (dVar 3)]))
def b4 : Env' → Res Fl := (dPar [5, 6] [(dCall semList [(dVar 4)]), (dRo [4] (dFn [false] F_law_words [] [(dVar 4)]))])
def b5 : Env' → Res Fl := (dSet 7 (dLc [8] (dItems (dVar 6)) (uNm 8) none (dUn (semRepl "2" "1") (dUn (semRepl "1" "0") (dUn (semRepl "0" "2") (dVar 8))))))
def b6 : Env' → Res Fl := (dPar [9, 10, 11] [(dRo [5] (dMk 0 [false, false] F_Code___init__ [.non] [(dVar 5)])), (dRo [7, 4] (dMk 0 [false, false] F_Code___init__ [] [(dCall semTuple [(dVar 4)]), (dVar 7)])), (dCall semList [(dVar 7)])])
def b7 : Env' → Res Fl := (dExpr (dMut "list" semClear 5 []))
def b8 : Env' → Res Fl := (dIfS (dOrT (asB (dBin semNe (dFldL lay 0 (dVar 9)) (dCall semTuple [(dVar 4)]))) (dOrT (asB (dBin semNe (dFldL lay 1 (dVar 9)) (dVar 6))) (dOrT (asB (dBin semNe (dFldL lay 2 (dVar 9)) (dVar 3))) (asB (dBin semNe (dFldL lay 3 (dVar 9)) (dCall semMax [(dVar 4)])))))) (dRet (fun e => .ok (.fz (.bl false)) e)) (fun e => .ok .nx e))
def b9 : Env' → Res Fl := (dIfS (dOrT (asB (dBin semNe (dFldL lay 0 (dVar 10)) (dFldL lay 0 (dVar 9)))) (dOrT (asB (dBin semNe (dFldL lay 1 (dVar 10)) (dCall semTuple [(dVar 11)]))) (asB (dBin semNe (dFldL lay 2 (dVar 10)) (dVar 3))))) (dRet (fun e => .ok (.fz (.bl false)) e)) (fun e => .ok .nx e))
def b10 : Env' → Res Fl := (dExpr (dMut "list" semClear 7 []))
def b11 : Env' → Res Fl := (dIfS (dOrT (asB (dBin semNe (dFldL lay 1 (dVar 10)) (dCall semTuple [(dVar 11)]))) (dOrT (asB (dBin semNe (dFldL lay 3 (dVar 10)) (dFldL lay 3 (dVar 9)))) (dNotT (dTru (dIsi (ansB "tuple") (dFldL lay 1 (dVar 10))))))) (dRet (fun e => .ok (.fz (.bl false)) e)) (fun e => .ok .nx e))
def b12 : Env' → Res Fl := (dIfS (dOrT (asB (dOwnQ true 0 F_Code___eq__ (dVar 9) (dMk 0 [false, false] F_Code___init__ [] [(dVar 4), (dVar 6)]))) (dOrT (asB (dOwnQ true 0 F_Code___eq__ (dMk 0 [false, false] F_Code___init__ [] [(dCall semTuple [(dVar 4)]), (dFldL lay 1 (dVar 9))]) (dVar 9))) (asB (dOwnQ false 0 F_Code___eq__ (dVar 9) (dVar 10))))) (dRet (fun e => .ok (.fz (.bl false)) e)) (fun e => .ok .nx e))
def b13 : Env' → Res Fl := (dIfS (dOrT (asB (dOwnQ true 0 F_Code___eq__ (dVar 10) (dMk 0 [false, false] F_Code___init__ [] [(dVar 4), (dVar 11)]))) (asB (dOwnQ false 0 F_Code___eq__ (dVar 9) (dFldL lay 0 (dVar 9))))) (dRet (fun e => .ok (.fz (.bl false)) e)) (fun e => .ok .nx e))
def b14 : Env' → Res Fl := (dSet 12 (dFn [true, false] F_law_draw [] [(dVar 1), (dVar 3)]))
def b15 : Env' → Res Fl := (dSet 13 (dBin semAdd (dSl (dVar 4) (some (dVar 12)) none) (dSl (dVar 4) none (some (dVar 12)))))
def b16 : Env' → Res Fl := (dIfS (asB (dBin semNe (dOwnQ false 0 F_Code___eq__ (dMk 0 [false, false] F_Code___init__ [.non] [(dVar 13)]) (dVar 9)) (dBin semEq (dVar 13) (dVar 4)))) (dRet (fun e => .ok (.fz (.bl false)) e)) (fun e => .ok .nx e))
section
variable {n : Int} {p : PV} {sc t s3 s4 s5 s6 s7 s9 s10 s11 s12 s13 : Sl} {ls : List Nat} {m : Nat}
theorem st2 (hp : IsPen n p) (hn : n + 100 < 1000000000000000000) : ∃ (m : Nat) (p' : PV), b2 (E sc (.ow true p) t s3 s4 s5 s6 s7 s9 s10 s11 s12 s13) = .ok .nx (E sc (.ow true p') t (.fz (.int (m : Nat))) s4 s5 s6 s7 s9 s10 s11 s12 s13) ∧ 2 ≤ m ∧ m ≤ 26 ∧ IsPen (n + 1) p' := by
  obtain ⟨i, hi, p', e, hp'⟩ := pick_ok (xs := [.int 2, .int 3, .int 4, .int 5, .int 7, .int 12, .int 26]) hp (by omega) (by simp) (by simp)
  obtain ⟨m, hm, h2, h26⟩ : ∃ m : Nat, [PV.int 2, .int 3, .int 4, .int 5, .int 7, .int 12, .int 26][i] = .int (m : Nat) ∧ 2 ≤ m ∧ m ≤ 26 := by
    match i, hi with
    | 0, _ => exact ⟨2, rfl, by decide, by decide⟩
    | 1, _ => exact ⟨3, rfl, by decide, by decide⟩
    | 2, _ => exact ⟨4, rfl, by decide, by decide⟩
    | 3, _ => exact ⟨5, rfl, by decide, by decide⟩
    | 4, _ => exact ⟨7, rfl, by decide, by decide⟩
    | 5, _ => exact ⟨12, rfl, by decide, by decide⟩
    | 6, _ => exact ⟨26, rfl, by decide, by decide⟩
  rw [hm] at e
  refine ⟨m, p', ?_, h2, h26, hp'⟩
  unfold b2 E
  simp only [bind_k, bh_k, seqK_n, seqK_r, seq_e, expr_e, ret_e, retV_f, retV_n, retV_b, ifK_t, ifK_f, ifS_e, if_e, set_e, store_f, store_n, store_b, var_e, stl_e, stl_f, stl_n, stl_b, peek_f, peek_n, peek_b, frz_f, frz_n, frz_b, bin_e, op2_d, toVal_s, asB_e, chain_e, un_e, not_e, notT_e, andT_e, orT_e, args_n, args_c, frzs_n, frzs_c, lst_e, tup_e, call_e, peeks_n, peeks_c, opN_e, sl_e, part_n, part_s, meth_e, for_e, asgT_e, uNm_e, uTup_e, uCons_e, uNil_e, put_e, putS_e, isOw_e, mut_e, kdAt_e, mutK_e, items_e, enum_e, rng1_e, rng2_e, lc_e, dc_e, par_e, parL_n, parL_f, parL_t, unb_f, unb_n, unb_b, isNew_f, isNew_n, storeL_n, storeL_f, storeL_w, fn_e, mk_e, callK_e, frK_f, frK_n, mkK_e, mkF_e, prep_f, prep_t, prep_n, lentI_f, lentI_t, lentI_n, putOuts_n, putOuts_c, isi_e, fld_e, fldS_e, tru_e, bool_e, aug_e, sortLn_e, callFn_e, finF_x, finF_f, finF_n, outE_z, outZ_c, outZ_n, outS_w, outS_f, outS_o, lend_w, lend_f, lend_n, blk_e, wipe_n, wipe_c, free_e, dtO_n, dtO_s, entry_e, entryE_t, entryE_f, entryE_n, repl_z, outsAt_n, outsAt_f, outsAt_t, List.getElem?_cons_zero, List.getElem?_cons_succ, List.set_cons_zero, List.set_cons_succ, List.map_nil, List.map_cons, List.nil_append, List.cons_append, List.nodup_cons, List.nodup_nil, List.not_mem_nil, List.mem_cons, not_false_eq_true, and_self, and_true, true_and, or_false, false_or, if_true, reduceIte, Bool.false_eq_true, Option.bind_some, Option.map_some, List.length_cons, List.length_nil, Option.some.injEq, kd, Option.map_none, Option.bind_none, reduceCtorEq, Bool.not_true, Bool.not_false, decide_true, decide_false, Nat.reduceAdd, Nat.reduceLT, Nat.reduceLeDiff, Nat.zero_add, Nat.reduceEqDiff, List.replicate, Nat.reduceSub, List.all_cons, List.all_nil, Bool.and_true, Bool.and_self, List.append_nil, lB, tW, List.map_append, big_v, e]
theorem st3 (hp : IsPen n p) (hn : n + 100 < 1000000000000000000) (h2 : 2 ≤ m) (h26 : m ≤ 26) : ∃ (ls : List Nat) (p' : PV), b3 (E sc (.ow true p) t (.fz (.int (m : Nat))) s4 s5 s6 s7 s9 s10 s11 s12 s13) = .ok .nx (E sc (.ow true p') t (.fz (.int (m : Nat))) (.ow true (lN ls)) s5 s6 s7 s9 s10 s11 s12 s13) ∧ GL ls ∧ ls.length = m ∧ IsPen (n + 50) p' := by
  obtain ⟨ls, p', e, hg, hl, hp'⟩ := lens_ok hp hn h2 h26
  refine ⟨ls, p', ?_, hg, hl, hp'⟩
  unfold b3 E
  simp only [bind_k, bh_k, seqK_n, seqK_r, seq_e, expr_e, ret_e, retV_f, retV_n, retV_b, ifK_t, ifK_f, ifS_e, if_e, set_e, store_f, store_n, store_b, var_e, stl_e, stl_f, stl_n, stl_b, peek_f, peek_n, peek_b, frz_f, frz_n, frz_b, bin_e, op2_d, toVal_s, asB_e, chain_e, un_e, not_e, notT_e, andT_e, orT_e, args_n, args_c, frzs_n, frzs_c, lst_e, tup_e, call_e, peeks_n, peeks_c, opN_e, sl_e, part_n, part_s, meth_e, for_e, asgT_e, uNm_e, uTup_e, uCons_e, uNil_e, put_e, putS_e, isOw_e, mut_e, kdAt_e, mutK_e, items_e, enum_e, rng1_e, rng2_e, lc_e, dc_e, par_e, parL_n, parL_f, parL_t, unb_f, unb_n, unb_b, isNew_f, isNew_n, storeL_n, storeL_f, storeL_w, fn_e, mk_e, callK_e, frK_f, frK_n, mkK_e, mkF_e, prep_f, prep_t, prep_n, lentI_f, lentI_t, lentI_n, putOuts_n, putOuts_c, isi_e, fld_e, fldS_e, tru_e, bool_e, aug_e, sortLn_e, callFn_e, finF_x, finF_f, finF_n, outE_z, outZ_c, outZ_n, outS_w, outS_f, outS_o, lend_w, lend_f, lend_n, blk_e, wipe_n, wipe_c, free_e, dtO_n, dtO_s, entry_e, entryE_t, entryE_f, entryE_n, repl_z, outsAt_n, outsAt_f, outsAt_t, List.getElem?_cons_zero, List.getElem?_cons_succ, List.set_cons_zero, List.set_cons_succ, List.map_nil, List.map_cons, List.nil_append, List.cons_append, List.nodup_cons, List.nodup_nil, List.not_mem_nil, List.mem_cons, not_false_eq_true, and_self, and_true, true_and, or_false, false_or, if_true, reduceIte, Bool.false_eq_true, Option.bind_some, Option.map_some, List.length_cons, List.length_nil, Option.some.injEq, kd, Option.map_none, Option.bind_none, reduceCtorEq, Bool.not_true, Bool.not_false, decide_true, decide_false, Nat.reduceAdd, Nat.reduceLT, Nat.reduceLeDiff, Nat.zero_add, Nat.reduceEqDiff, List.replicate, Nat.reduceSub, List.all_cons, List.all_nil, Bool.and_true, Bool.and_self, List.append_nil, lB, tW, List.map_append, lN] at e ⊢
  simp only [bind_k, bh_k, seqK_n, seqK_r, seq_e, expr_e, ret_e, retV_f, retV_n, retV_b, ifK_t, ifK_f, ifS_e, if_e, set_e, store_f, store_n, store_b, var_e, stl_e, stl_f, stl_n, stl_b, peek_f, peek_n, peek_b, frz_f, frz_n, frz_b, bin_e, op2_d, toVal_s, asB_e, chain_e, un_e, not_e, notT_e, andT_e, orT_e, args_n, args_c, frzs_n, frzs_c, lst_e, tup_e, call_e, peeks_n, peeks_c, opN_e, sl_e, part_n, part_s, meth_e, for_e, asgT_e, uNm_e, uTup_e, uCons_e, uNil_e, put_e, putS_e, isOw_e, mut_e, kdAt_e, mutK_e, items_e, enum_e, rng1_e, rng2_e, lc_e, dc_e, par_e, parL_n, parL_f, parL_t, unb_f, unb_n, unb_b, isNew_f, isNew_n, storeL_n, storeL_f, storeL_w, fn_e, mk_e, callK_e, frK_f, frK_n, mkK_e, mkF_e, prep_f, prep_t, prep_n, lentI_f, lentI_t, lentI_n, putOuts_n, putOuts_c, isi_e, fld_e, fldS_e, tru_e, bool_e, aug_e, sortLn_e, callFn_e, finF_x, finF_f, finF_n, outE_z, outZ_c, outZ_n, outS_w, outS_f, outS_o, lend_w, lend_f, lend_n, blk_e, wipe_n, wipe_c, free_e, dtO_n, dtO_s, entry_e, entryE_t, entryE_f, entryE_n, repl_z, outsAt_n, outsAt_f, outsAt_t, List.getElem?_cons_zero, List.getElem?_cons_succ, List.set_cons_zero, List.set_cons_succ, List.map_nil, List.map_cons, List.nil_append, List.cons_append, List.nodup_cons, List.nodup_nil, List.not_mem_nil, List.mem_cons, not_false_eq_true, and_self, and_true, true_and, or_false, false_or, if_true, reduceIte, Bool.false_eq_true, Option.bind_some, Option.map_some, List.length_cons, List.length_nil, Option.some.injEq, kd, Option.map_none, Option.bind_none, reduceCtorEq, Bool.not_true, Bool.not_false, decide_true, decide_false, Nat.reduceAdd, Nat.reduceLT, Nat.reduceLeDiff, Nat.zero_add, Nat.reduceEqDiff, List.replicate, Nat.reduceSub, List.all_cons, List.all_nil, Bool.and_true, Bool.and_self, List.append_nil, lB, tW, List.map_append, e]
theorem st4 (g : GL ls) (h26 : ls.length ≤ 26) {sp s3 : Sl} : b4 (E sc sp t s3 (.ow true (lN ls)) s5 s6 s7 s9 s10 s11 s12 s13) = .ok .nx (E sc sp t s3 (.ow true (lN ls)) (.ow true (lN ls)) (.fz (tW (wordsOf ls))) s7 s9 s10 s11 s12 s13) := by
  have e := lwords_ok g h26
  have hno := noW (wordsOf ls)
  have hno2 : noLst (.tup ((wordsOf ls).map sB)) = true := hno
  unfold b4 E
  simp only [bind_k, bh_k, seqK_n, seqK_r, seq_e, expr_e, ret_e, retV_f, retV_n, retV_b, ifK_t, ifK_f, ifS_e, if_e, set_e, store_f, store_n, store_b, var_e, stl_e, stl_f, stl_n, stl_b, peek_f, peek_n, peek_b, frz_f, frz_n, frz_b, bin_e, op2_d, toVal_s, asB_e, chain_e, un_e, not_e, notT_e, andT_e, orT_e, args_n, args_c, frzs_n, frzs_c, lst_e, tup_e, call_e, peeks_n, peeks_c, opN_e, sl_e, part_n, part_s, meth_e, for_e, asgT_e, uNm_e, uTup_e, uCons_e, uNil_e, put_e, putS_e, isOw_e, mut_e, kdAt_e, mutK_e, items_e, enum_e, rng1_e, rng2_e, lc_e, dc_e, par_e, parL_n, parL_f, parL_t, unb_f, unb_n, unb_b, isNew_f, isNew_n, storeL_n, storeL_f, storeL_w, fn_e, mk_e, callK_e, frK_f, frK_n, mkK_e, mkF_e, prep_f, prep_t, prep_n, lentI_f, lentI_t, lentI_n, putOuts_n, putOuts_c, isi_e, fld_e, fldS_e, tru_e, bool_e, aug_e, sortLn_e, callFn_e, finF_x, finF_f, finF_n, outE_z, outZ_c, outZ_n, outS_w, outS_f, outS_o, lend_w, lend_f, lend_n, blk_e, wipe_n, wipe_c, free_e, dtO_n, dtO_s, entry_e, entryE_t, entryE_f, entryE_n, repl_z, outsAt_n, outsAt_f, outsAt_t, List.getElem?_cons_zero, List.getElem?_cons_succ, List.set_cons_zero, List.set_cons_succ, List.map_nil, List.map_cons, List.nil_append, List.cons_append, List.nodup_cons, List.nodup_nil, List.not_mem_nil, List.mem_cons, not_false_eq_true, and_self, and_true, true_and, or_false, false_or, if_true, reduceIte, Bool.false_eq_true, Option.bind_some, Option.map_some, List.length_cons, List.length_nil, Option.some.injEq, kd, Option.map_none, Option.bind_none, reduceCtorEq, Bool.not_true, Bool.not_false, decide_true, decide_false, Nat.reduceAdd, Nat.reduceLT, Nat.reduceLeDiff, Nat.zero_add, Nat.reduceEqDiff, List.replicate, Nat.reduceSub, List.all_cons, List.all_nil, Bool.and_true, Bool.and_self, List.append_nil, lB, tW, List.map_append, lN] at e ⊢
  simp only [bind_k, bh_k, seqK_n, seqK_r, seq_e, expr_e, ret_e, retV_f, retV_n, retV_b, ifK_t, ifK_f, ifS_e, if_e, set_e, store_f, store_n, store_b, var_e, stl_e, stl_f, stl_n, stl_b, peek_f, peek_n, peek_b, frz_f, frz_n, frz_b, bin_e, op2_d, toVal_s, asB_e, chain_e, un_e, not_e, notT_e, andT_e, orT_e, args_n, args_c, frzs_n, frzs_c, lst_e, tup_e, call_e, peeks_n, peeks_c, opN_e, sl_e, part_n, part_s, meth_e, for_e, asgT_e, uNm_e, uTup_e, uCons_e, uNil_e, put_e, putS_e, isOw_e, mut_e, kdAt_e, mutK_e, items_e, enum_e, rng1_e, rng2_e, lc_e, dc_e, par_e, parL_n, parL_f, parL_t, unb_f, unb_n, unb_b, isNew_f, isNew_n, storeL_n, storeL_f, storeL_w, fn_e, mk_e, callK_e, frK_f, frK_n, mkK_e, mkF_e, prep_f, prep_t, prep_n, lentI_f, lentI_t, lentI_n, putOuts_n, putOuts_c, isi_e, fld_e, fldS_e, tru_e, bool_e, aug_e, sortLn_e, callFn_e, finF_x, finF_f, finF_n, outE_z, outZ_c, outZ_n, outS_w, outS_f, outS_o, lend_w, lend_f, lend_n, blk_e, wipe_n, wipe_c, free_e, dtO_n, dtO_s, entry_e, entryE_t, entryE_f, entryE_n, repl_z, outsAt_n, outsAt_f, outsAt_t, List.getElem?_cons_zero, List.getElem?_cons_succ, List.set_cons_zero, List.set_cons_succ, List.map_nil, List.map_cons, List.nil_append, List.cons_append, List.nodup_cons, List.nodup_nil, List.not_mem_nil, List.mem_cons, not_false_eq_true, and_self, and_true, true_and, or_false, false_or, if_true, reduceIte, Bool.false_eq_true, Option.bind_some, Option.map_some, List.length_cons, List.length_nil, Option.some.injEq, kd, Option.map_none, Option.bind_none, reduceCtorEq, Bool.not_true, Bool.not_false, decide_true, decide_false, Nat.reduceAdd, Nat.reduceLT, Nat.reduceLeDiff, Nat.zero_add, Nat.reduceEqDiff, List.replicate, Nat.reduceSub, List.all_cons, List.all_nil, Bool.and_true, Bool.and_self, List.append_nil, lB, tW, List.map_append, list_l, outS_l, ro_e, roE_c, roE_n, e, hno2]
theorem st5 (g : GL ls) (h26 : ls.length ≤ 26) {sp s3 s4 : Sl} {ws : List Wd} (hw : ∀ w ∈ ws, w.length ≤ 25) (hl : ws.length ≤ 26) : b5 (E sc sp t s3 s4 s5 (.fz (tW ws)) s7 s9 s10 s11 s12 s13) = .ok .nx (E sc sp t s3 s4 s5 (.fz (tW ws)) (.ow true (lB (ws.map ntW))) s9 s10 s11 s12 s13) := by
  obtain ⟨acc, e2, f2, ha, rfl⟩ := lcL_inv (vs := [8]) (u := uNm 8) (dt := none) (de := (dUn (semRepl "2" "1") (dUn (semRepl "1" "0") (dUn (semRepl "0" "2") (dVar 8))))) (ps := ws.map sB)
    (fun i acc e => acc = ((ws.take i).map ntW).map sB ∧ e = (E sc sp t s3 s4 s5 (.fz (tW ws)) s7 s9 s10 s11 s12 s13))
    (fun i q acc e hq ⟨ha, he⟩ => by
      subst ha he
      obtain ⟨hi, rfl⟩ := map_at hq
      have hx := hw _ (List.getElem_mem hi)
      have ht := turned_e (w := ws[i]) (by omega) (i := 8) (e := [lendS sc, lendS sp, lendS t, lendS s3, lendS s4, lendS s5, .fz (tW ws), lendS s7, .fz (sB ws[i]), lendS s9, lendS s10, lendS s11, lendS s12, lendS s13]) rfl
      refine ⟨rfl, [lendS sc, lendS sp, lendS t, lendS s3, lendS s4, lendS s5, .fz (tW ws), lendS s7, .fz (sB ws[i]), lendS s9, lendS s10, lendS s11, lendS s12, lendS s13], ?_, .inr ⟨_, _, _, _, _, rfl, ht, rfl, ?_, ?_, ?_⟩⟩
      · simp only [bind_k, bh_k, seqK_n, seqK_r, seq_e, expr_e, ret_e, retV_f, retV_n, retV_b, ifK_t, ifK_f, ifS_e, if_e, set_e, store_f, store_n, store_b, var_e, stl_e, stl_f, stl_n, stl_b, peek_f, peek_n, peek_b, frz_f, frz_n, frz_b, bin_e, op2_d, toVal_s, asB_e, chain_e, un_e, not_e, notT_e, andT_e, orT_e, args_n, args_c, frzs_n, frzs_c, lst_e, tup_e, call_e, peeks_n, peeks_c, opN_e, sl_e, part_n, part_s, meth_e, for_e, asgT_e, uNm_e, uTup_e, uCons_e, uNil_e, put_e, putS_e, isOw_e, mut_e, kdAt_e, mutK_e, items_e, enum_e, rng1_e, rng2_e, lc_e, dc_e, par_e, parL_n, parL_f, parL_t, unb_f, unb_n, unb_b, isNew_f, isNew_n, storeL_n, storeL_f, storeL_w, fn_e, mk_e, callK_e, frK_f, frK_n, mkK_e, mkF_e, prep_f, prep_t, prep_n, lentI_f, lentI_t, lentI_n, putOuts_n, putOuts_c, isi_e, fld_e, fldS_e, tru_e, bool_e, aug_e, sortLn_e, callFn_e, finF_x, finF_f, finF_n, outE_z, outZ_c, outZ_n, outS_w, outS_f, outS_o, lend_w, lend_f, lend_n, blk_e, wipe_n, wipe_c, free_e, dtO_n, dtO_s, entry_e, entryE_t, entryE_f, entryE_n, repl_z, outsAt_n, outsAt_f, outsAt_t, List.getElem?_cons_zero, List.getElem?_cons_succ, List.set_cons_zero, List.set_cons_succ, List.map_nil, List.map_cons, List.nil_append, List.cons_append, List.nodup_cons, List.nodup_nil, List.not_mem_nil, List.mem_cons, not_false_eq_true, and_self, and_true, true_and, or_false, false_or, if_true, reduceIte, Bool.false_eq_true, Option.bind_some, Option.map_some, List.length_cons, List.length_nil, Option.some.injEq, kd, Option.map_none, Option.bind_none, reduceCtorEq, Bool.not_true, Bool.not_false, decide_true, decide_false, Nat.reduceAdd, Nat.reduceLT, Nat.reduceLeDiff, Nat.zero_add, Nat.reduceEqDiff, List.replicate, Nat.reduceSub, List.all_cons, List.all_nil, Bool.and_true, Bool.and_self, List.append_nil, lB, tW, List.map_append]
      · rw [List.length_map, List.length_map, List.length_take, big_v]; omega
      · rw [take_at hi, List.map_append, List.map_append]; rfl
      · simp only [bind_k, bh_k, seqK_n, seqK_r, seq_e, expr_e, ret_e, retV_f, retV_n, retV_b, ifK_t, ifK_f, ifS_e, if_e, set_e, store_f, store_n, store_b, var_e, stl_e, stl_f, stl_n, stl_b, peek_f, peek_n, peek_b, frz_f, frz_n, frz_b, bin_e, op2_d, toVal_s, asB_e, chain_e, un_e, not_e, notT_e, andT_e, orT_e, args_n, args_c, frzs_n, frzs_c, lst_e, tup_e, call_e, peeks_n, peeks_c, opN_e, sl_e, part_n, part_s, meth_e, for_e, asgT_e, uNm_e, uTup_e, uCons_e, uNil_e, put_e, putS_e, isOw_e, mut_e, kdAt_e, mutK_e, items_e, enum_e, rng1_e, rng2_e, lc_e, dc_e, par_e, parL_n, parL_f, parL_t, unb_f, unb_n, unb_b, isNew_f, isNew_n, storeL_n, storeL_f, storeL_w, fn_e, mk_e, callK_e, frK_f, frK_n, mkK_e, mkF_e, prep_f, prep_t, prep_n, lentI_f, lentI_t, lentI_n, putOuts_n, putOuts_c, isi_e, fld_e, fldS_e, tru_e, bool_e, aug_e, sortLn_e, callFn_e, finF_x, finF_f, finF_n, outE_z, outZ_c, outZ_n, outS_w, outS_f, outS_o, lend_w, lend_f, lend_n, blk_e, wipe_n, wipe_c, free_e, dtO_n, dtO_s, entry_e, entryE_t, entryE_f, entryE_n, repl_z, outsAt_n, outsAt_f, outsAt_t, List.getElem?_cons_zero, List.getElem?_cons_succ, List.set_cons_zero, List.set_cons_succ, List.map_nil, List.map_cons, List.nil_append, List.cons_append, List.nodup_cons, List.nodup_nil, List.not_mem_nil, List.mem_cons, not_false_eq_true, and_self, and_true, true_and, or_false, false_or, if_true, reduceIte, Bool.false_eq_true, Option.bind_some, Option.map_some, List.length_cons, List.length_nil, Option.some.injEq, kd, Option.map_none, Option.bind_none, reduceCtorEq, Bool.not_true, Bool.not_false, decide_true, decide_false, Nat.reduceAdd, Nat.reduceLT, Nat.reduceLeDiff, Nat.zero_add, Nat.reduceEqDiff, List.replicate, Nat.reduceSub, List.all_cons, List.all_nil, Bool.and_true, Bool.and_self, List.append_nil, lB, tW, List.map_append, outS_l])
    (acc := []) (e := (E sc sp t s3 s4 s5 (.fz (tW ws)) s7 s9 s10 s11 s12 s13)) ⟨by simp, rfl⟩
  rw [List.length_map, List.take_length] at ha
  subst ha
  unfold b5
  simp only [bind_k, bh_k, seqK_n, seqK_r, seq_e, expr_e, ret_e, retV_f, retV_n, retV_b, ifK_t, ifK_f, ifS_e, if_e, set_e, store_f, store_n, store_b, var_e, stl_e, stl_f, stl_n, stl_b, peek_f, peek_n, peek_b, frz_f, frz_n, frz_b, bin_e, op2_d, toVal_s, asB_e, chain_e, un_e, not_e, notT_e, andT_e, orT_e, args_n, args_c, frzs_n, frzs_c, lst_e, tup_e, call_e, peeks_n, peeks_c, opN_e, sl_e, part_n, part_s, meth_e, for_e, asgT_e, uNm_e, uTup_e, uCons_e, uNil_e, put_e, putS_e, isOw_e, mut_e, kdAt_e, mutK_e, items_e, enum_e, rng1_e, rng2_e, lc_e, dc_e, par_e, parL_n, parL_f, parL_t, unb_f, unb_n, unb_b, isNew_f, isNew_n, storeL_n, storeL_f, storeL_w, fn_e, mk_e, callK_e, frK_f, frK_n, mkK_e, mkF_e, prep_f, prep_t, prep_n, lentI_f, lentI_t, lentI_n, putOuts_n, putOuts_c, isi_e, fld_e, fldS_e, tru_e, bool_e, aug_e, sortLn_e, callFn_e, finF_x, finF_f, finF_n, outE_z, outZ_c, outZ_n, outS_w, outS_f, outS_o, lend_w, lend_f, lend_n, blk_e, wipe_n, wipe_c, free_e, dtO_n, dtO_s, entry_e, entryE_t, entryE_f, entryE_n, repl_z, outsAt_n, outsAt_f, outsAt_t, List.getElem?_cons_zero, List.getElem?_cons_succ, List.set_cons_zero, List.set_cons_succ, List.map_nil, List.map_cons, List.nil_append, List.cons_append, List.nodup_cons, List.nodup_nil, List.not_mem_nil, List.mem_cons, not_false_eq_true, and_self, and_true, true_and, or_false, false_or, if_true, reduceIte, Bool.false_eq_true, Option.bind_some, Option.map_some, List.length_cons, List.length_nil, Option.some.injEq, kd, Option.map_none, Option.bind_none, reduceCtorEq, Bool.not_true, Bool.not_false, decide_true, decide_false, Nat.reduceAdd, Nat.reduceLT, Nat.reduceLeDiff, Nat.zero_add, Nat.reduceEqDiff, List.replicate, Nat.reduceSub, List.all_cons, List.all_nil, Bool.and_true, Bool.and_self, List.append_nil, lB, tW, List.map_append, E] at f2
  simp only [bind_k, bh_k, seqK_n, seqK_r, seq_e, expr_e, ret_e, retV_f, retV_n, retV_b, ifK_t, ifK_f, ifS_e, if_e, set_e, store_f, store_n, store_b, var_e, stl_e, stl_f, stl_n, stl_b, peek_f, peek_n, peek_b, frz_f, frz_n, frz_b, bin_e, op2_d, toVal_s, asB_e, chain_e, un_e, not_e, notT_e, andT_e, orT_e, args_n, args_c, frzs_n, frzs_c, lst_e, tup_e, call_e, peeks_n, peeks_c, opN_e, sl_e, part_n, part_s, meth_e, for_e, asgT_e, uNm_e, uTup_e, uCons_e, uNil_e, put_e, putS_e, isOw_e, mut_e, kdAt_e, mutK_e, items_e, enum_e, rng1_e, rng2_e, lc_e, dc_e, par_e, parL_n, parL_f, parL_t, unb_f, unb_n, unb_b, isNew_f, isNew_n, storeL_n, storeL_f, storeL_w, fn_e, mk_e, callK_e, frK_f, frK_n, mkK_e, mkF_e, prep_f, prep_t, prep_n, lentI_f, lentI_t, lentI_n, putOuts_n, putOuts_c, isi_e, fld_e, fldS_e, tru_e, bool_e, aug_e, sortLn_e, callFn_e, finF_x, finF_f, finF_n, outE_z, outZ_c, outZ_n, outS_w, outS_f, outS_o, lend_w, lend_f, lend_n, blk_e, wipe_n, wipe_c, free_e, dtO_n, dtO_s, entry_e, entryE_t, entryE_f, entryE_n, repl_z, outsAt_n, outsAt_f, outsAt_t, List.getElem?_cons_zero, List.getElem?_cons_succ, List.set_cons_zero, List.set_cons_succ, List.map_nil, List.map_cons, List.nil_append, List.cons_append, List.nodup_cons, List.nodup_nil, List.not_mem_nil, List.mem_cons, not_false_eq_true, and_self, and_true, true_and, or_false, false_or, if_true, reduceIte, Bool.false_eq_true, Option.bind_some, Option.map_some, List.length_cons, List.length_nil, Option.some.injEq, kd, Option.map_none, Option.bind_none, reduceCtorEq, Bool.not_true, Bool.not_false, decide_true, decide_false, Nat.reduceAdd, Nat.reduceLT, Nat.reduceLeDiff, Nat.zero_add, Nat.reduceEqDiff, List.replicate, Nat.reduceSub, List.all_cons, List.all_nil, Bool.and_true, Bool.and_self, List.append_nil, lB, tW, List.map_append, E, items_t, f2]
variable {ws ts : List Wd} {q : PV}
theorem mk_ok {is : List Nat} {e : Env'} (h : F_Code___init__ [.ins 0 [], p, q] = .ok (.fz .non) [codeP ls ws]) : frK is e (F_Code___init__ [.ins 0 [], p, q]) = frK is e (.ok (.fz .non) [codeP ls ws]) := by rw [h]
theorem st6 (g : GL ls) (h2 : 2 ≤ ls.length) (h26 : ls.length ≤ 26) (hts : ts.map List.length = ls) (hap : ts.Pairwise Apart) {sp s3 s6 : Sl} :
    b6 (E sc sp t s3 (.ow true (lN ls)) (.ow true (lN ls)) s6 (.ow true (lB ts)) s9 s10 s11 s12 s13) = .ok .nx (E sc sp t s3 (.ow true (lN ls)) (.ow true (lN ls)) s6 (.ow true (lB ts)) (.ow true (codeP ls (wordsOf ls))) (.ow true (codeP ls ts)) (.ow true (lB ts)) s12 s13) := by
  have i1 := init_ok g h2 h26 (.inl rfl) .non
  have i2 := init_ok g h2 h26 (.inr rfl) (.lst hts hap)
  have n1 := no_code ls (wordsOf ls)
  have n2 := no_code ls ts
  unfold b6 E
  simp only [bind_k, bh_k, seqK_n, seqK_r, seq_e, expr_e, ret_e, retV_f, retV_n, retV_b, ifK_t, ifK_f, ifS_e, if_e, set_e, store_f, store_n, store_b, var_e, stl_e, stl_f, stl_n, stl_b, peek_f, peek_n, peek_b, frz_f, frz_n, frz_b, bin_e, op2_d, toVal_s, asB_e, chain_e, un_e, not_e, notT_e, andT_e, orT_e, args_n, args_c, frzs_n, frzs_c, lst_e, tup_e, call_e, peeks_n, peeks_c, opN_e, sl_e, part_n, part_s, meth_e, for_e, asgT_e, uNm_e, uTup_e, uCons_e, uNil_e, put_e, putS_e, isOw_e, mut_e, kdAt_e, mutK_e, items_e, enum_e, rng1_e, rng2_e, lc_e, dc_e, par_e, parL_n, parL_f, parL_t, unb_f, unb_n, unb_b, isNew_f, isNew_n, storeL_n, storeL_f, storeL_w, fn_e, mk_e, callK_e, frK_f, frK_n, mkK_e, mkF_e, prep_f, prep_t, prep_n, lentI_f, lentI_t, lentI_n, putOuts_n, putOuts_c, isi_e, fld_e, fldS_e, tru_e, bool_e, aug_e, sortLn_e, callFn_e, finF_x, finF_f, finF_n, outE_z, outZ_c, outZ_n, outS_w, outS_f, outS_o, lend_w, lend_f, lend_n, blk_e, wipe_n, wipe_c, free_e, dtO_n, dtO_s, entry_e, entryE_t, entryE_f, entryE_n, repl_z, outsAt_n, outsAt_f, outsAt_t, List.getElem?_cons_zero, List.getElem?_cons_succ, List.set_cons_zero, List.set_cons_succ, List.map_nil, List.map_cons, List.nil_append, List.cons_append, List.nodup_cons, List.nodup_nil, List.not_mem_nil, List.mem_cons, not_false_eq_true, and_self, and_true, true_and, or_false, false_or, if_true, reduceIte, Bool.false_eq_true, Option.bind_some, Option.map_some, List.length_cons, List.length_nil, Option.some.injEq, kd, Option.map_none, Option.bind_none, reduceCtorEq, Bool.not_true, Bool.not_false, decide_true, decide_false, Nat.reduceAdd, Nat.reduceLT, Nat.reduceLeDiff, Nat.zero_add, Nat.reduceEqDiff, List.replicate, Nat.reduceSub, List.all_cons, List.all_nil, Bool.and_true, Bool.and_self, List.append_nil, lB, tW, List.map_append, lN, tN] at i1 i2 ⊢
  simp only [bind_k, bh_k, seqK_n, seqK_r, seq_e, expr_e, ret_e, retV_f, retV_n, retV_b, ifK_t, ifK_f, ifS_e, if_e, set_e, store_f, store_n, store_b, var_e, stl_e, stl_f, stl_n, stl_b, peek_f, peek_n, peek_b, frz_f, frz_n, frz_b, bin_e, op2_d, toVal_s, asB_e, chain_e, un_e, not_e, notT_e, andT_e, orT_e, args_n, args_c, frzs_n, frzs_c, lst_e, tup_e, call_e, peeks_n, peeks_c, opN_e, sl_e, part_n, part_s, meth_e, for_e, asgT_e, uNm_e, uTup_e, uCons_e, uNil_e, put_e, putS_e, isOw_e, mut_e, kdAt_e, mutK_e, items_e, enum_e, rng1_e, rng2_e, lc_e, dc_e, par_e, parL_n, parL_f, parL_t, unb_f, unb_n, unb_b, isNew_f, isNew_n, storeL_n, storeL_f, storeL_w, fn_e, mk_e, callK_e, frK_f, frK_n, mkK_e, mkF_e, prep_f, prep_t, prep_n, lentI_f, lentI_t, lentI_n, putOuts_n, putOuts_c, isi_e, fld_e, fldS_e, tru_e, bool_e, aug_e, sortLn_e, callFn_e, finF_x, finF_f, finF_n, outE_z, outZ_c, outZ_n, outS_w, outS_f, outS_o, lend_w, lend_f, lend_n, blk_e, wipe_n, wipe_c, free_e, dtO_n, dtO_s, entry_e, entryE_t, entryE_f, entryE_n, repl_z, outsAt_n, outsAt_f, outsAt_t, List.getElem?_cons_zero, List.getElem?_cons_succ, List.set_cons_zero, List.set_cons_succ, List.map_nil, List.map_cons, List.nil_append, List.cons_append, List.nodup_cons, List.nodup_nil, List.not_mem_nil, List.mem_cons, not_false_eq_true, and_self, and_true, true_and, or_false, false_or, if_true, reduceIte, Bool.false_eq_true, Option.bind_some, Option.map_some, List.length_cons, List.length_nil, Option.some.injEq, kd, Option.map_none, Option.bind_none, reduceCtorEq, Bool.not_true, Bool.not_false, decide_true, decide_false, Nat.reduceAdd, Nat.reduceLT, Nat.reduceLeDiff, Nat.zero_add, Nat.reduceEqDiff, List.replicate, Nat.reduceSub, List.all_cons, List.all_nil, Bool.and_true, Bool.and_self, List.append_nil, lB, tW, List.map_append, outS_l, ro_e, roE_c, roE_n, tuple_l, list_l, i1, i2, n1, n2]
theorem st7 {sp s3 s4 s6 : Sl} {xs : List PV} : b7 (E sc sp t s3 s4 (.ow true (.lst xs)) s6 s7 s9 s10 s11 s12 s13) = .ok .nx (E sc sp t s3 s4 (.ow true (.lst [])) s6 s7 s9 s10 s11 s12 s13) := by
  unfold b7 E
  simp only [bind_k, bh_k, seqK_n, seqK_r, seq_e, expr_e, ret_e, retV_f, retV_n, retV_b, ifK_t, ifK_f, ifS_e, if_e, set_e, store_f, store_n, store_b, var_e, stl_e, stl_f, stl_n, stl_b, peek_f, peek_n, peek_b, frz_f, frz_n, frz_b, bin_e, op2_d, toVal_s, asB_e, chain_e, un_e, not_e, notT_e, andT_e, orT_e, args_n, args_c, frzs_n, frzs_c, lst_e, tup_e, call_e, peeks_n, peeks_c, opN_e, sl_e, part_n, part_s, meth_e, for_e, asgT_e, uNm_e, uTup_e, uCons_e, uNil_e, put_e, putS_e, isOw_e, mut_e, kdAt_e, mutK_e, items_e, enum_e, rng1_e, rng2_e, lc_e, dc_e, par_e, parL_n, parL_f, parL_t, unb_f, unb_n, unb_b, isNew_f, isNew_n, storeL_n, storeL_f, storeL_w, fn_e, mk_e, callK_e, frK_f, frK_n, mkK_e, mkF_e, prep_f, prep_t, prep_n, lentI_f, lentI_t, lentI_n, putOuts_n, putOuts_c, isi_e, fld_e, fldS_e, tru_e, bool_e, aug_e, sortLn_e, callFn_e, finF_x, finF_f, finF_n, outE_z, outZ_c, outZ_n, outS_w, outS_f, outS_o, lend_w, lend_f, lend_n, blk_e, wipe_n, wipe_c, free_e, dtO_n, dtO_s, entry_e, entryE_t, entryE_f, entryE_n, repl_z, outsAt_n, outsAt_f, outsAt_t, List.getElem?_cons_zero, List.getElem?_cons_succ, List.set_cons_zero, List.set_cons_succ, List.map_nil, List.map_cons, List.nil_append, List.cons_append, List.nodup_cons, List.nodup_nil, List.not_mem_nil, List.mem_cons, not_false_eq_true, and_self, and_true, true_and, or_false, false_or, if_true, reduceIte, Bool.false_eq_true, Option.bind_some, Option.map_some, List.length_cons, List.length_nil, Option.some.injEq, kd, Option.map_none, Option.bind_none, reduceCtorEq, Bool.not_true, Bool.not_false, decide_true, decide_false, Nat.reduceAdd, Nat.reduceLT, Nat.reduceLeDiff, Nat.zero_add, Nat.reduceEqDiff, List.replicate, Nat.reduceSub, List.all_cons, List.all_nil, Bool.and_true, Bool.and_self, List.append_nil, lB, tW, List.map_append, clear_l]
theorem st10 {sp s3 s4 s5 s6 : Sl} {xs : List PV} : b10 (E sc sp t s3 s4 s5 s6 (.ow true (.lst xs)) s9 s10 s11 s12 s13) = .ok .nx (E sc sp t s3 s4 s5 s6 (.ow true (.lst [])) s9 s10 s11 s12 s13) := by
  unfold b10 E
  simp only [bind_k, bh_k, seqK_n, seqK_r, seq_e, expr_e, ret_e, retV_f, retV_n, retV_b, ifK_t, ifK_f, ifS_e, if_e, set_e, store_f, store_n, store_b, var_e, stl_e, stl_f, stl_n, stl_b, peek_f, peek_n, peek_b, frz_f, frz_n, frz_b, bin_e, op2_d, toVal_s, asB_e, chain_e, un_e, not_e, notT_e, andT_e, orT_e, args_n, args_c, frzs_n, frzs_c, lst_e, tup_e, call_e, peeks_n, peeks_c, opN_e, sl_e, part_n, part_s, meth_e, for_e, asgT_e, uNm_e, uTup_e, uCons_e, uNil_e, put_e, putS_e, isOw_e, mut_e, kdAt_e, mutK_e, items_e, enum_e, rng1_e, rng2_e, lc_e, dc_e, par_e, parL_n, parL_f, parL_t, unb_f, unb_n, unb_b, isNew_f, isNew_n, storeL_n, storeL_f, storeL_w, fn_e, mk_e, callK_e, frK_f, frK_n, mkK_e, mkF_e, prep_f, prep_t, prep_n, lentI_f, lentI_t, lentI_n, putOuts_n, putOuts_c, isi_e, fld_e, fldS_e, tru_e, bool_e, aug_e, sortLn_e, callFn_e, finF_x, finF_f, finF_n, outE_z, outZ_c, outZ_n, outS_w, outS_f, outS_o, lend_w, lend_f, lend_n, blk_e, wipe_n, wipe_c, free_e, dtO_n, dtO_s, entry_e, entryE_t, entryE_f, entryE_n, repl_z, outsAt_n, outsAt_f, outsAt_t, List.getElem?_cons_zero, List.getElem?_cons_succ, List.set_cons_zero, List.set_cons_succ, List.map_nil, List.map_cons, List.nil_append, List.cons_append, List.nodup_cons, List.nodup_nil, List.not_mem_nil, List.mem_cons, not_false_eq_true, and_self, and_true, true_and, or_false, false_or, if_true, reduceIte, Bool.false_eq_true, Option.bind_some, Option.map_some, List.length_cons, List.length_nil, Option.some.injEq, kd, Option.map_none, Option.bind_none, reduceCtorEq, Bool.not_true, Bool.not_false, decide_true, decide_false, Nat.reduceAdd, Nat.reduceLT, Nat.reduceLeDiff, Nat.zero_add, Nat.reduceEqDiff, List.replicate, Nat.reduceSub, List.all_cons, List.all_nil, Bool.and_true, Bool.and_self, List.append_nil, lB, tW, List.map_append, clear_l]
theorem d_t {α : Type} [DecidableEq α] (a : α) : decide (a = a) = true := decide_eq_true rfl
theorem st8 (h2 : 2 ≤ ls.length) {sp s5 s7 : Sl} : b8 (E sc sp t (.fz (.int (ls.length : Nat))) (.ow true (lN ls)) s5 (.fz (tW ws)) s7 (.ow true (codeP ls ws)) s10 s11 s12 s13) = .ok .nx (E sc sp t (.fz (.int (ls.length : Nat))) (.ow true (lN ls)) s5 (.fz (tW ws)) s7 (.ow true (codeP ls ws)) s10 s11 s12 s13) := by
  have hne : ls ≠ [] := by rintro rfl; simp at h2
  have a1 := ne_tN ls ls
  have a2 := ne_tW ws ws
  have a3 := max_lN hne
  rw [d_t] at a1 a2
  unfold b8 E codeP
  simp only [bind_k, bh_k, seqK_n, seqK_r, seq_e, expr_e, ret_e, retV_f, retV_n, retV_b, ifK_t, ifK_f, ifS_e, if_e, set_e, store_f, store_n, store_b, var_e, stl_e, stl_f, stl_n, stl_b, peek_f, peek_n, peek_b, frz_f, frz_n, frz_b, bin_e, op2_d, toVal_s, asB_e, chain_e, un_e, not_e, notT_e, andT_e, orT_e, args_n, args_c, frzs_n, frzs_c, lst_e, tup_e, call_e, peeks_n, peeks_c, opN_e, sl_e, part_n, part_s, meth_e, for_e, asgT_e, uNm_e, uTup_e, uCons_e, uNil_e, put_e, putS_e, isOw_e, mut_e, kdAt_e, mutK_e, items_e, enum_e, rng1_e, rng2_e, lc_e, dc_e, par_e, parL_n, parL_f, parL_t, unb_f, unb_n, unb_b, isNew_f, isNew_n, storeL_n, storeL_f, storeL_w, fn_e, mk_e, callK_e, frK_f, frK_n, mkK_e, mkF_e, prep_f, prep_t, prep_n, lentI_f, lentI_t, lentI_n, putOuts_n, putOuts_c, isi_e, fld_e, fldS_e, tru_e, bool_e, aug_e, sortLn_e, callFn_e, finF_x, finF_f, finF_n, outE_z, outZ_c, outZ_n, outS_w, outS_f, outS_o, lend_w, lend_f, lend_n, blk_e, wipe_n, wipe_c, free_e, dtO_n, dtO_s, entry_e, entryE_t, entryE_f, entryE_n, repl_z, outsAt_n, outsAt_f, outsAt_t, List.getElem?_cons_zero, List.getElem?_cons_succ, List.set_cons_zero, List.set_cons_succ, List.map_nil, List.map_cons, List.nil_append, List.cons_append, List.nodup_cons, List.nodup_nil, List.not_mem_nil, List.mem_cons, not_false_eq_true, and_self, and_true, true_and, or_false, false_or, if_true, reduceIte, Bool.false_eq_true, Option.bind_some, Option.map_some, List.length_cons, List.length_nil, Option.some.injEq, kd, Option.map_none, Option.bind_none, reduceCtorEq, Bool.not_true, Bool.not_false, decide_true, decide_false, Nat.reduceAdd, Nat.reduceLT, Nat.reduceLeDiff, Nat.zero_add, Nat.reduceEqDiff, List.replicate, Nat.reduceSub, List.all_cons, List.all_nil, Bool.and_true, Bool.and_self, List.append_nil, lB, tW, List.map_append, lN, tN] at a1 a2 a3 ⊢
  simp only [bind_k, bh_k, seqK_n, seqK_r, seq_e, expr_e, ret_e, retV_f, retV_n, retV_b, ifK_t, ifK_f, ifS_e, if_e, set_e, store_f, store_n, store_b, var_e, stl_e, stl_f, stl_n, stl_b, peek_f, peek_n, peek_b, frz_f, frz_n, frz_b, bin_e, op2_d, toVal_s, asB_e, chain_e, un_e, not_e, notT_e, andT_e, orT_e, args_n, args_c, frzs_n, frzs_c, lst_e, tup_e, call_e, peeks_n, peeks_c, opN_e, sl_e, part_n, part_s, meth_e, for_e, asgT_e, uNm_e, uTup_e, uCons_e, uNil_e, put_e, putS_e, isOw_e, mut_e, kdAt_e, mutK_e, items_e, enum_e, rng1_e, rng2_e, lc_e, dc_e, par_e, parL_n, parL_f, parL_t, unb_f, unb_n, unb_b, isNew_f, isNew_n, storeL_n, storeL_f, storeL_w, fn_e, mk_e, callK_e, frK_f, frK_n, mkK_e, mkF_e, prep_f, prep_t, prep_n, lentI_f, lentI_t, lentI_n, putOuts_n, putOuts_c, isi_e, fld_e, fldS_e, tru_e, bool_e, aug_e, sortLn_e, callFn_e, finF_x, finF_f, finF_n, outE_z, outZ_c, outZ_n, outS_w, outS_f, outS_o, lend_w, lend_f, lend_n, blk_e, wipe_n, wipe_c, free_e, dtO_n, dtO_s, entry_e, entryE_t, entryE_f, entryE_n, repl_z, outsAt_n, outsAt_f, outsAt_t, List.getElem?_cons_zero, List.getElem?_cons_succ, List.set_cons_zero, List.set_cons_succ, List.map_nil, List.map_cons, List.nil_append, List.cons_append, List.nodup_cons, List.nodup_nil, List.not_mem_nil, List.mem_cons, not_false_eq_true, and_self, and_true, true_and, or_false, false_or, if_true, reduceIte, Bool.false_eq_true, Option.bind_some, Option.map_some, List.length_cons, List.length_nil, Option.some.injEq, kd, Option.map_none, Option.bind_none, reduceCtorEq, Bool.not_true, Bool.not_false, decide_true, decide_false, Nat.reduceAdd, Nat.reduceLT, Nat.reduceLeDiff, Nat.zero_add, Nat.reduceEqDiff, List.replicate, Nat.reduceSub, List.all_cons, List.all_nil, Bool.and_true, Bool.and_self, List.append_nil, lB, tW, List.map_append, lay0, ix00, ix01, ix02, ix03, tuple_l, a1, a2, ne_i, d_t, a3]
theorem st9 {sp s4 s5 s6 s7 : Sl} : b9 (E sc sp t (.fz (.int (ls.length : Nat))) s4 s5 s6 s7 (.ow true (codeP ls ws)) (.ow true (codeP ls ts)) (.ow true (lB ts)) s12 s13) = .ok .nx (E sc sp t (.fz (.int (ls.length : Nat))) s4 s5 s6 s7 (.ow true (codeP ls ws)) (.ow true (codeP ls ts)) (.ow true (lB ts)) s12 s13) := by
  have a1 := ne_tN ls ls
  have a2 := ne_tW ts ts
  rw [d_t] at a1 a2
  unfold b9 E codeP
  simp only [bind_k, bh_k, seqK_n, seqK_r, seq_e, expr_e, ret_e, retV_f, retV_n, retV_b, ifK_t, ifK_f, ifS_e, if_e, set_e, store_f, store_n, store_b, var_e, stl_e, stl_f, stl_n, stl_b, peek_f, peek_n, peek_b, frz_f, frz_n, frz_b, bin_e, op2_d, toVal_s, asB_e, chain_e, un_e, not_e, notT_e, andT_e, orT_e, args_n, args_c, frzs_n, frzs_c, lst_e, tup_e, call_e, peeks_n, peeks_c, opN_e, sl_e, part_n, part_s, meth_e, for_e, asgT_e, uNm_e, uTup_e, uCons_e, uNil_e, put_e, putS_e, isOw_e, mut_e, kdAt_e, mutK_e, items_e, enum_e, rng1_e, rng2_e, lc_e, dc_e, par_e, parL_n, parL_f, parL_t, unb_f, unb_n, unb_b, isNew_f, isNew_n, storeL_n, storeL_f, storeL_w, fn_e, mk_e, callK_e, frK_f, frK_n, mkK_e, mkF_e, prep_f, prep_t, prep_n, lentI_f, lentI_t, lentI_n, putOuts_n, putOuts_c, isi_e, fld_e, fldS_e, tru_e, bool_e, aug_e, sortLn_e, callFn_e, finF_x, finF_f, finF_n, outE_z, outZ_c, outZ_n, outS_w, outS_f, outS_o, lend_w, lend_f, lend_n, blk_e, wipe_n, wipe_c, free_e, dtO_n, dtO_s, entry_e, entryE_t, entryE_f, entryE_n, repl_z, outsAt_n, outsAt_f, outsAt_t, List.getElem?_cons_zero, List.getElem?_cons_succ, List.set_cons_zero, List.set_cons_succ, List.map_nil, List.map_cons, List.nil_append, List.cons_append, List.nodup_cons, List.nodup_nil, List.not_mem_nil, List.mem_cons, not_false_eq_true, and_self, and_true, true_and, or_false, false_or, if_true, reduceIte, Bool.false_eq_true, Option.bind_some, Option.map_some, List.length_cons, List.length_nil, Option.some.injEq, kd, Option.map_none, Option.bind_none, reduceCtorEq, Bool.not_true, Bool.not_false, decide_true, decide_false, Nat.reduceAdd, Nat.reduceLT, Nat.reduceLeDiff, Nat.zero_add, Nat.reduceEqDiff, List.replicate, Nat.reduceSub, List.all_cons, List.all_nil, Bool.and_true, Bool.and_self, List.append_nil, lB, tW, List.map_append, lN, tN] at a1 a2 ⊢
  simp only [bind_k, bh_k, seqK_n, seqK_r, seq_e, expr_e, ret_e, retV_f, retV_n, retV_b, ifK_t, ifK_f, ifS_e, if_e, set_e, store_f, store_n, store_b, var_e, stl_e, stl_f, stl_n, stl_b, peek_f, peek_n, peek_b, frz_f, frz_n, frz_b, bin_e, op2_d, toVal_s, asB_e, chain_e, un_e, not_e, notT_e, andT_e, orT_e, args_n, args_c, frzs_n, frzs_c, lst_e, tup_e, call_e, peeks_n, peeks_c, opN_e, sl_e, part_n, part_s, meth_e, for_e, asgT_e, uNm_e, uTup_e, uCons_e, uNil_e, put_e, putS_e, isOw_e, mut_e, kdAt_e, mutK_e, items_e, enum_e, rng1_e, rng2_e, lc_e, dc_e, par_e, parL_n, parL_f, parL_t, unb_f, unb_n, unb_b, isNew_f, isNew_n, storeL_n, storeL_f, storeL_w, fn_e, mk_e, callK_e, frK_f, frK_n, mkK_e, mkF_e, prep_f, prep_t, prep_n, lentI_f, lentI_t, lentI_n, putOuts_n, putOuts_c, isi_e, fld_e, fldS_e, tru_e, bool_e, aug_e, sortLn_e, callFn_e, finF_x, finF_f, finF_n, outE_z, outZ_c, outZ_n, outS_w, outS_f, outS_o, lend_w, lend_f, lend_n, blk_e, wipe_n, wipe_c, free_e, dtO_n, dtO_s, entry_e, entryE_t, entryE_f, entryE_n, repl_z, outsAt_n, outsAt_f, outsAt_t, List.getElem?_cons_zero, List.getElem?_cons_succ, List.set_cons_zero, List.set_cons_succ, List.map_nil, List.map_cons, List.nil_append, List.cons_append, List.nodup_cons, List.nodup_nil, List.not_mem_nil, List.mem_cons, not_false_eq_true, and_self, and_true, true_and, or_false, false_or, if_true, reduceIte, Bool.false_eq_true, Option.bind_some, Option.map_some, List.length_cons, List.length_nil, Option.some.injEq, kd, Option.map_none, Option.bind_none, reduceCtorEq, Bool.not_true, Bool.not_false, decide_true, decide_false, Nat.reduceAdd, Nat.reduceLT, Nat.reduceLeDiff, Nat.zero_add, Nat.reduceEqDiff, List.replicate, Nat.reduceSub, List.all_cons, List.all_nil, Bool.and_true, Bool.and_self, List.append_nil, lB, tW, List.map_append, lay0, ix00, ix01, ix02, ix03, tuple_l, a1, a2, ne_i, d_t]
theorem isi_t {xs : List PV} : ansB "tuple" (.tup xs) = some true := by rfl
theorem st11 {sp s3 s4 s5 s6 s7 : Sl} : b11 (E sc sp t s3 s4 s5 s6 s7 (.ow true (codeP ls ws)) (.ow true (codeP ls ts)) (.ow true (lB ts)) s12 s13) = .ok .nx (E sc sp t s3 s4 s5 s6 s7 (.ow true (codeP ls ws)) (.ow true (codeP ls ts)) (.ow true (lB ts)) s12 s13) := by
  have a2 := ne_tW ts ts
  rw [d_t] at a2
  unfold b11 E codeP
  simp only [bind_k, bh_k, seqK_n, seqK_r, seq_e, expr_e, ret_e, retV_f, retV_n, retV_b, ifK_t, ifK_f, ifS_e, if_e, set_e, store_f, store_n, store_b, var_e, stl_e, stl_f, stl_n, stl_b, peek_f, peek_n, peek_b, frz_f, frz_n, frz_b, bin_e, op2_d, toVal_s, asB_e, chain_e, un_e, not_e, notT_e, andT_e, orT_e, args_n, args_c, frzs_n, frzs_c, lst_e, tup_e, call_e, peeks_n, peeks_c, opN_e, sl_e, part_n, part_s, meth_e, for_e, asgT_e, uNm_e, uTup_e, uCons_e, uNil_e, put_e, putS_e, isOw_e, mut_e, kdAt_e, mutK_e, items_e, enum_e, rng1_e, rng2_e, lc_e, dc_e, par_e, parL_n, parL_f, parL_t, unb_f, unb_n, unb_b, isNew_f, isNew_n, storeL_n, storeL_f, storeL_w, fn_e, mk_e, callK_e, frK_f, frK_n, mkK_e, mkF_e, prep_f, prep_t, prep_n, lentI_f, lentI_t, lentI_n, putOuts_n, putOuts_c, isi_e, fld_e, fldS_e, tru_e, bool_e, aug_e, sortLn_e, callFn_e, finF_x, finF_f, finF_n, outE_z, outZ_c, outZ_n, outS_w, outS_f, outS_o, lend_w, lend_f, lend_n, blk_e, wipe_n, wipe_c, free_e, dtO_n, dtO_s, entry_e, entryE_t, entryE_f, entryE_n, repl_z, outsAt_n, outsAt_f, outsAt_t, List.getElem?_cons_zero, List.getElem?_cons_succ, List.set_cons_zero, List.set_cons_succ, List.map_nil, List.map_cons, List.nil_append, List.cons_append, List.nodup_cons, List.nodup_nil, List.not_mem_nil, List.mem_cons, not_false_eq_true, and_self, and_true, true_and, or_false, false_or, if_true, reduceIte, Bool.false_eq_true, Option.bind_some, Option.map_some, List.length_cons, List.length_nil, Option.some.injEq, kd, Option.map_none, Option.bind_none, reduceCtorEq, Bool.not_true, Bool.not_false, decide_true, decide_false, Nat.reduceAdd, Nat.reduceLT, Nat.reduceLeDiff, Nat.zero_add, Nat.reduceEqDiff, List.replicate, Nat.reduceSub, List.all_cons, List.all_nil, Bool.and_true, Bool.and_self, List.append_nil, lB, tW, List.map_append, lN, tN] at a2 ⊢
  simp only [bind_k, bh_k, seqK_n, seqK_r, seq_e, expr_e, ret_e, retV_f, retV_n, retV_b, ifK_t, ifK_f, ifS_e, if_e, set_e, store_f, store_n, store_b, var_e, stl_e, stl_f, stl_n, stl_b, peek_f, peek_n, peek_b, frz_f, frz_n, frz_b, bin_e, op2_d, toVal_s, asB_e, chain_e, un_e, not_e, notT_e, andT_e, orT_e, args_n, args_c, frzs_n, frzs_c, lst_e, tup_e, call_e, peeks_n, peeks_c, opN_e, sl_e, part_n, part_s, meth_e, for_e, asgT_e, uNm_e, uTup_e, uCons_e, uNil_e, put_e, putS_e, isOw_e, mut_e, kdAt_e, mutK_e, items_e, enum_e, rng1_e, rng2_e, lc_e, dc_e, par_e, parL_n, parL_f, parL_t, unb_f, unb_n, unb_b, isNew_f, isNew_n, storeL_n, storeL_f, storeL_w, fn_e, mk_e, callK_e, frK_f, frK_n, mkK_e, mkF_e, prep_f, prep_t, prep_n, lentI_f, lentI_t, lentI_n, putOuts_n, putOuts_c, isi_e, fld_e, fldS_e, tru_e, bool_e, aug_e, sortLn_e, callFn_e, finF_x, finF_f, finF_n, outE_z, outZ_c, outZ_n, outS_w, outS_f, outS_o, lend_w, lend_f, lend_n, blk_e, wipe_n, wipe_c, free_e, dtO_n, dtO_s, entry_e, entryE_t, entryE_f, entryE_n, repl_z, outsAt_n, outsAt_f, outsAt_t, List.getElem?_cons_zero, List.getElem?_cons_succ, List.set_cons_zero, List.set_cons_succ, List.map_nil, List.map_cons, List.nil_append, List.cons_append, List.nodup_cons, List.nodup_nil, List.not_mem_nil, List.mem_cons, not_false_eq_true, and_self, and_true, true_and, or_false, false_or, if_true, reduceIte, Bool.false_eq_true, Option.bind_some, Option.map_some, List.length_cons, List.length_nil, Option.some.injEq, kd, Option.map_none, Option.bind_none, reduceCtorEq, Bool.not_true, Bool.not_false, decide_true, decide_false, Nat.reduceAdd, Nat.reduceLT, Nat.reduceLeDiff, Nat.zero_add, Nat.reduceEqDiff, List.replicate, Nat.reduceSub, List.all_cons, List.all_nil, Bool.and_true, Bool.and_self, List.append_nil, lB, tW, List.map_append, lay0, ix00, ix01, ix02, ix03, tuple_l, a2, ne_i, d_t, isi_t, tru_b]
theorem insAt_e {c k : Nat} {x : Val} {e : Env'} : insAt c k x e = match peek x e with
  | some (.ins c' _) => decide (c' = c)
  | _ => false := id rfl
theorem rq_i {c c' : Nat} {xs : List PV} : rightQ c (.ins c' xs) = decide (c' = c) := id rfl
theorem rq_t {c : Nat} {xs : List PV} : rightQ c (.tup xs) = true := id rfl
theorem ownK_e {neg : Bool} {c : Nat} {fn : List PV → FR} {x y : Val} {e2 : Env'} : ownK neg c fn x y e2 = if insAt c 0 x e2 = true ∧ (peek y e2).map (rightQ c) = some true then
    (callK [false, false] fn [x, y] e2).bh fun r e3 => (match r with
      | .fz (.bl b) => .ok (.fz (.bl (if neg = true then !b else b))) e3
      | _ => .bad)
  else .bad := by
  unfold ownK
  congr 1
theorem st12 (g : GL ls) (h2 : 2 ≤ ls.length) (h26 : ls.length ≤ 26) (hts : ts.map List.length = ls) (hap : ts.Pairwise Apart) (hne : wordsOf ls ≠ ts) {sp s3 s5 s7 : Sl} :
    b12 (E sc sp t s3 (.ow true (lN ls)) s5 (.fz (tW (wordsOf ls))) s7 (.ow true (codeP ls (wordsOf ls))) (.ow true (codeP ls ts)) s11 s12 s13) = .ok .nx (E sc sp t s3 (.fz (lN ls)) s5 (.fz (tW (wordsOf ls))) s7 (.fz (codeP ls (wordsOf ls))) (.fz (codeP ls ts)) s11 s12 s13) := by
  have i1 := init_ok g h2 h26 (.inl rfl) (.tup words_lens (g.words h26))
  have i2 := init_ok g h2 h26 (.inr rfl) (.tup words_lens (g.words h26))
  have q1 := eq_code ls ls (wordsOf ls) (wordsOf ls)
  have q2 := eq_code ls ls (wordsOf ls) ts
  rw [d_t] at q1
  rw [decide_eq_false hne] at q2
  unfold b12 E codeP at *
  simp only [bind_k, bh_k, seqK_n, seqK_r, seq_e, expr_e, ret_e, retV_f, retV_n, retV_b, ifK_t, ifK_f, ifS_e, if_e, set_e, store_f, store_n, store_b, var_e, stl_e, stl_f, stl_n, stl_b, peek_f, peek_n, peek_b, frz_f, frz_n, frz_b, bin_e, op2_d, toVal_s, asB_e, chain_e, un_e, not_e, notT_e, andT_e, orT_e, args_n, args_c, frzs_n, frzs_c, lst_e, tup_e, call_e, peeks_n, peeks_c, opN_e, sl_e, part_n, part_s, meth_e, for_e, asgT_e, uNm_e, uTup_e, uCons_e, uNil_e, put_e, putS_e, isOw_e, mut_e, kdAt_e, mutK_e, items_e, enum_e, rng1_e, rng2_e, lc_e, dc_e, par_e, parL_n, parL_f, parL_t, unb_f, unb_n, unb_b, isNew_f, isNew_n, storeL_n, storeL_f, storeL_w, fn_e, mk_e, callK_e, frK_f, frK_n, mkK_e, mkF_e, prep_f, prep_t, prep_n, lentI_f, lentI_t, lentI_n, putOuts_n, putOuts_c, isi_e, fld_e, fldS_e, tru_e, bool_e, aug_e, sortLn_e, callFn_e, finF_x, finF_f, finF_n, outE_z, outZ_c, outZ_n, outS_w, outS_f, outS_o, lend_w, lend_f, lend_n, blk_e, wipe_n, wipe_c, free_e, dtO_n, dtO_s, entry_e, entryE_t, entryE_f, entryE_n, repl_z, outsAt_n, outsAt_f, outsAt_t, List.getElem?_cons_zero, List.getElem?_cons_succ, List.set_cons_zero, List.set_cons_succ, List.map_nil, List.map_cons, List.nil_append, List.cons_append, List.nodup_cons, List.nodup_nil, List.not_mem_nil, List.mem_cons, not_false_eq_true, and_self, and_true, true_and, or_false, false_or, if_true, reduceIte, Bool.false_eq_true, Option.bind_some, Option.map_some, List.length_cons, List.length_nil, Option.some.injEq, kd, Option.map_none, Option.bind_none, reduceCtorEq, Bool.not_true, Bool.not_false, decide_true, decide_false, Nat.reduceAdd, Nat.reduceLT, Nat.reduceLeDiff, Nat.zero_add, Nat.reduceEqDiff, List.replicate, Nat.reduceSub, List.all_cons, List.all_nil, Bool.and_true, Bool.and_self, List.append_nil, lB, tW, List.map_append, lN, tN] at i1 i2 q1 q2 ⊢
  simp only [bind_k, bh_k, seqK_n, seqK_r, seq_e, expr_e, ret_e, retV_f, retV_n, retV_b, ifK_t, ifK_f, ifS_e, if_e, set_e, store_f, store_n, store_b, var_e, stl_e, stl_f, stl_n, stl_b, peek_f, peek_n, peek_b, frz_f, frz_n, frz_b, bin_e, op2_d, toVal_s, asB_e, chain_e, un_e, not_e, notT_e, andT_e, orT_e, args_n, args_c, frzs_n, frzs_c, lst_e, tup_e, call_e, peeks_n, peeks_c, opN_e, sl_e, part_n, part_s, meth_e, for_e, asgT_e, uNm_e, uTup_e, uCons_e, uNil_e, put_e, putS_e, isOw_e, mut_e, kdAt_e, mutK_e, items_e, enum_e, rng1_e, rng2_e, lc_e, dc_e, par_e, parL_n, parL_f, parL_t, unb_f, unb_n, unb_b, isNew_f, isNew_n, storeL_n, storeL_f, storeL_w, fn_e, mk_e, callK_e, frK_f, frK_n, mkK_e, mkF_e, prep_f, prep_t, prep_n, lentI_f, lentI_t, lentI_n, putOuts_n, putOuts_c, isi_e, fld_e, fldS_e, tru_e, bool_e, aug_e, sortLn_e, callFn_e, finF_x, finF_f, finF_n, outE_z, outZ_c, outZ_n, outS_w, outS_f, outS_o, lend_w, lend_f, lend_n, blk_e, wipe_n, wipe_c, free_e, dtO_n, dtO_s, entry_e, entryE_t, entryE_f, entryE_n, repl_z, outsAt_n, outsAt_f, outsAt_t, List.getElem?_cons_zero, List.getElem?_cons_succ, List.set_cons_zero, List.set_cons_succ, List.map_nil, List.map_cons, List.nil_append, List.cons_append, List.nodup_cons, List.nodup_nil, List.not_mem_nil, List.mem_cons, not_false_eq_true, and_self, and_true, true_and, or_false, false_or, if_true, reduceIte, Bool.false_eq_true, Option.bind_some, Option.map_some, List.length_cons, List.length_nil, Option.some.injEq, kd, Option.map_none, Option.bind_none, reduceCtorEq, Bool.not_true, Bool.not_false, decide_true, decide_false, Nat.reduceAdd, Nat.reduceLT, Nat.reduceLeDiff, Nat.zero_add, Nat.reduceEqDiff, List.replicate, Nat.reduceSub, List.all_cons, List.all_nil, Bool.and_true, Bool.and_self, List.append_nil, lB, tW, List.map_append, ownQ_e, ownK_e, insAt_e, rq_i, rq_t, eq_self, lay0, ix00, ix01, tuple_l, i1, i2, q1, q2]
theorem st13 (g : GL ls) (h2 : 2 ≤ ls.length) (h26 : ls.length ≤ 26) (hts : ts.map List.length = ls) (hap : ts.Pairwise Apart) {sp s3 s5 s6 s7 : Sl} :
    b13 (E sc sp t s3 (.fz (lN ls)) s5 s6 s7 (.fz (codeP ls ws)) (.fz (codeP ls ts)) (.ow true (lB ts)) s12 s13) = .ok .nx (E sc sp t s3 (.fz (lN ls)) s5 s6 s7 (.fz (codeP ls ws)) (.fz (codeP ls ts)) (.fz (lB ts)) s12 s13) := by
  have i1 := init_ok g h2 h26 (.inl rfl) (.lst hts hap)
  have q1 := eq_code ls ls ts ts
  have q2 := eq_other ls ls ws
  rw [d_t] at q1
  unfold b13 E codeP at *
  simp only [bind_k, bh_k, seqK_n, seqK_r, seq_e, expr_e, ret_e, retV_f, retV_n, retV_b, ifK_t, ifK_f, ifS_e, if_e, set_e, store_f, store_n, store_b, var_e, stl_e, stl_f, stl_n, stl_b, peek_f, peek_n, peek_b, frz_f, frz_n, frz_b, bin_e, op2_d, toVal_s, asB_e, chain_e, un_e, not_e, notT_e, andT_e, orT_e, args_n, args_c, frzs_n, frzs_c, lst_e, tup_e, call_e, peeks_n, peeks_c, opN_e, sl_e, part_n, part_s, meth_e, for_e, asgT_e, uNm_e, uTup_e, uCons_e, uNil_e, put_e, putS_e, isOw_e, mut_e, kdAt_e, mutK_e, items_e, enum_e, rng1_e, rng2_e, lc_e, dc_e, par_e, parL_n, parL_f, parL_t, unb_f, unb_n, unb_b, isNew_f, isNew_n, storeL_n, storeL_f, storeL_w, fn_e, mk_e, callK_e, frK_f, frK_n, mkK_e, mkF_e, prep_f, prep_t, prep_n, lentI_f, lentI_t, lentI_n, putOuts_n, putOuts_c, isi_e, fld_e, fldS_e, tru_e, bool_e, aug_e, sortLn_e, callFn_e, finF_x, finF_f, finF_n, outE_z, outZ_c, outZ_n, outS_w, outS_f, outS_o, lend_w, lend_f, lend_n, blk_e, wipe_n, wipe_c, free_e, dtO_n, dtO_s, entry_e, entryE_t, entryE_f, entryE_n, repl_z, outsAt_n, outsAt_f, outsAt_t, List.getElem?_cons_zero, List.getElem?_cons_succ, List.set_cons_zero, List.set_cons_succ, List.map_nil, List.map_cons, List.nil_append, List.cons_append, List.nodup_cons, List.nodup_nil, List.not_mem_nil, List.mem_cons, not_false_eq_true, and_self, and_true, true_and, or_false, false_or, if_true, reduceIte, Bool.false_eq_true, Option.bind_some, Option.map_some, List.length_cons, List.length_nil, Option.some.injEq, kd, Option.map_none, Option.bind_none, reduceCtorEq, Bool.not_true, Bool.not_false, decide_true, decide_false, Nat.reduceAdd, Nat.reduceLT, Nat.reduceLeDiff, Nat.zero_add, Nat.reduceEqDiff, List.replicate, Nat.reduceSub, List.all_cons, List.all_nil, Bool.and_true, Bool.and_self, List.append_nil, lB, tW, List.map_append, lN, tN] at i1 q1 q2 ⊢
  simp only [bind_k, bh_k, seqK_n, seqK_r, seq_e, expr_e, ret_e, retV_f, retV_n, retV_b, ifK_t, ifK_f, ifS_e, if_e, set_e, store_f, store_n, store_b, var_e, stl_e, stl_f, stl_n, stl_b, peek_f, peek_n, peek_b, frz_f, frz_n, frz_b, bin_e, op2_d, toVal_s, asB_e, chain_e, un_e, not_e, notT_e, andT_e, orT_e, args_n, args_c, frzs_n, frzs_c, lst_e, tup_e, call_e, peeks_n, peeks_c, opN_e, sl_e, part_n, part_s, meth_e, for_e, asgT_e, uNm_e, uTup_e, uCons_e, uNil_e, put_e, putS_e, isOw_e, mut_e, kdAt_e, mutK_e, items_e, enum_e, rng1_e, rng2_e, lc_e, dc_e, par_e, parL_n, parL_f, parL_t, unb_f, unb_n, unb_b, isNew_f, isNew_n, storeL_n, storeL_f, storeL_w, fn_e, mk_e, callK_e, frK_f, frK_n, mkK_e, mkF_e, prep_f, prep_t, prep_n, lentI_f, lentI_t, lentI_n, putOuts_n, putOuts_c, isi_e, fld_e, fldS_e, tru_e, bool_e, aug_e, sortLn_e, callFn_e, finF_x, finF_f, finF_n, outE_z, outZ_c, outZ_n, outS_w, outS_f, outS_o, lend_w, lend_f, lend_n, blk_e, wipe_n, wipe_c, free_e, dtO_n, dtO_s, entry_e, entryE_t, entryE_f, entryE_n, repl_z, outsAt_n, outsAt_f, outsAt_t, List.getElem?_cons_zero, List.getElem?_cons_succ, List.set_cons_zero, List.set_cons_succ, List.map_nil, List.map_cons, List.nil_append, List.cons_append, List.nodup_cons, List.nodup_nil, List.not_mem_nil, List.mem_cons, not_false_eq_true, and_self, and_true, true_and, or_false, false_or, if_true, reduceIte, Bool.false_eq_true, Option.bind_some, Option.map_some, List.length_cons, List.length_nil, Option.some.injEq, kd, Option.map_none, Option.bind_none, reduceCtorEq, Bool.not_true, Bool.not_false, decide_true, decide_false, Nat.reduceAdd, Nat.reduceLT, Nat.reduceLeDiff, Nat.zero_add, Nat.reduceEqDiff, List.replicate, Nat.reduceSub, List.all_cons, List.all_nil, Bool.and_true, Bool.and_self, List.append_nil, lB, tW, List.map_append, ownQ_e, ownK_e, insAt_e, rq_i, rq_t, eq_self, lay0, ix00, ix01, tuple_l, i1, q1, q2]
theorem st14 (hp : IsPen n p) (hn : n + 100 < 1000000000000000000) (h2 : 2 ≤ m) (h26 : m ≤ 26) {s8 : Sl} : ∃ (a : Nat) (p' : PV), b14 (E sc (.ow true p) t (.fz (.int (m : Nat))) s4 s5 s6 s7 s9 s10 s11 s12 s13) = .ok .nx (E sc (.ow true p') t (.fz (.int (m : Nat))) s4 s5 s6 s7 s9 s10 s11 (.fz (.int (a : Nat))) s13) ∧ a < m ∧ IsPen (n + 1) p' := by
  obtain ⟨r, p', e, h0, h1, hp'⟩ := drawP (m := (m : Nat)) hp (by omega) (by omega) (by omega)
  obtain ⟨a, rfl⟩ : ∃ a : Nat, r = (a : Nat) := ⟨r.toNat, by omega⟩
  refine ⟨a, p', ?_, by omega, hp'⟩
  unfold b14 E
  simp only [bind_k, bh_k, seqK_n, seqK_r, seq_e, expr_e, ret_e, retV_f, retV_n, retV_b, ifK_t, ifK_f, ifS_e, if_e, set_e, store_f, store_n, store_b, var_e, stl_e, stl_f, stl_n, stl_b, peek_f, peek_n, peek_b, frz_f, frz_n, frz_b, bin_e, op2_d, toVal_s, asB_e, chain_e, un_e, not_e, notT_e, andT_e, orT_e, args_n, args_c, frzs_n, frzs_c, lst_e, tup_e, call_e, peeks_n, peeks_c, opN_e, sl_e, part_n, part_s, meth_e, for_e, asgT_e, uNm_e, uTup_e, uCons_e, uNil_e, put_e, putS_e, isOw_e, mut_e, kdAt_e, mutK_e, items_e, enum_e, rng1_e, rng2_e, lc_e, dc_e, par_e, parL_n, parL_f, parL_t, unb_f, unb_n, unb_b, isNew_f, isNew_n, storeL_n, storeL_f, storeL_w, fn_e, mk_e, callK_e, frK_f, frK_n, mkK_e, mkF_e, prep_f, prep_t, prep_n, lentI_f, lentI_t, lentI_n, putOuts_n, putOuts_c, isi_e, fld_e, fldS_e, tru_e, bool_e, aug_e, sortLn_e, callFn_e, finF_x, finF_f, finF_n, outE_z, outZ_c, outZ_n, outS_w, outS_f, outS_o, lend_w, lend_f, lend_n, blk_e, wipe_n, wipe_c, free_e, dtO_n, dtO_s, entry_e, entryE_t, entryE_f, entryE_n, repl_z, outsAt_n, outsAt_f, outsAt_t, List.getElem?_cons_zero, List.getElem?_cons_succ, List.set_cons_zero, List.set_cons_succ, List.map_nil, List.map_cons, List.nil_append, List.cons_append, List.nodup_cons, List.nodup_nil, List.not_mem_nil, List.mem_cons, not_false_eq_true, and_self, and_true, true_and, or_false, false_or, if_true, reduceIte, Bool.false_eq_true, Option.bind_some, Option.map_some, List.length_cons, List.length_nil, Option.some.injEq, kd, Option.map_none, Option.bind_none, reduceCtorEq, Bool.not_true, Bool.not_false, decide_true, decide_false, Nat.reduceAdd, Nat.reduceLT, Nat.reduceLeDiff, Nat.zero_add, Nat.reduceEqDiff, List.replicate, Nat.reduceSub, List.all_cons, List.all_nil, Bool.and_true, Bool.and_self, List.append_nil, lB, tW, List.map_append, e]
theorem st15 {a : Nat} (ha : a < ls.length) (h26 : ls.length ≤ 26) {sp s3 s5 s6 s7 : Sl} : b15 (E sc sp t s3 (.fz (lN ls)) s5 s6 s7 s9 s10 s11 (.fz (.int (a : Nat))) s13) = .ok .nx (E sc sp t s3 (.fz (lN ls)) s5 s6 s7 s9 s10 s11 (.fz (.int (a : Nat))) (.ow true (lN (rotN ls a)))) := by
  have hln : (ls.map fun n => PV.int (n : Nat)).length = ls.length := List.length_map ..
  have c1 := sl_from (xs := ls.map fun n => PV.int (n : Nat)) (i := a) (by omega)
  have c2 := sl_to (xs := ls.map fun n => PV.int (n : Nat)) (i := a) (by omega)
  have ha2 : ((ls.map fun n => PV.int (n : Nat)).drop a).length + ((ls.map fun n => PV.int (n : Nat)).take a).length ≤ big := by
    rw [List.length_drop, List.length_take, hln, big_v]; omega
  have e : (ls.map fun n => PV.int (n : Nat)).drop a ++ (ls.map fun n => PV.int (n : Nat)).take a = (rotN ls a).map fun n => PV.int (n : Nat) := by
    unfold rotN
    rw [List.map_append, List.map_drop, List.map_take]
  unfold b15 E
  simp only [bind_k, bh_k, seqK_n, seqK_r, seq_e, expr_e, ret_e, retV_f, retV_n, retV_b, ifK_t, ifK_f, ifS_e, if_e, set_e, store_f, store_n, store_b, var_e, stl_e, stl_f, stl_n, stl_b, peek_f, peek_n, peek_b, frz_f, frz_n, frz_b, bin_e, op2_d, toVal_s, asB_e, chain_e, un_e, not_e, notT_e, andT_e, orT_e, args_n, args_c, frzs_n, frzs_c, lst_e, tup_e, call_e, peeks_n, peeks_c, opN_e, sl_e, part_n, part_s, meth_e, for_e, asgT_e, uNm_e, uTup_e, uCons_e, uNil_e, put_e, putS_e, isOw_e, mut_e, kdAt_e, mutK_e, items_e, enum_e, rng1_e, rng2_e, lc_e, dc_e, par_e, parL_n, parL_f, parL_t, unb_f, unb_n, unb_b, isNew_f, isNew_n, storeL_n, storeL_f, storeL_w, fn_e, mk_e, callK_e, frK_f, frK_n, mkK_e, mkF_e, prep_f, prep_t, prep_n, lentI_f, lentI_t, lentI_n, putOuts_n, putOuts_c, isi_e, fld_e, fldS_e, tru_e, bool_e, aug_e, sortLn_e, callFn_e, finF_x, finF_f, finF_n, outE_z, outZ_c, outZ_n, outS_w, outS_f, outS_o, lend_w, lend_f, lend_n, blk_e, wipe_n, wipe_c, free_e, dtO_n, dtO_s, entry_e, entryE_t, entryE_f, entryE_n, repl_z, outsAt_n, outsAt_f, outsAt_t, List.getElem?_cons_zero, List.getElem?_cons_succ, List.set_cons_zero, List.set_cons_succ, List.map_nil, List.map_cons, List.nil_append, List.cons_append, List.nodup_cons, List.nodup_nil, List.not_mem_nil, List.mem_cons, not_false_eq_true, and_self, and_true, true_and, or_false, false_or, if_true, reduceIte, Bool.false_eq_true, Option.bind_some, Option.map_some, List.length_cons, List.length_nil, Option.some.injEq, kd, Option.map_none, Option.bind_none, reduceCtorEq, Bool.not_true, Bool.not_false, decide_true, decide_false, Nat.reduceAdd, Nat.reduceLT, Nat.reduceLeDiff, Nat.zero_add, Nat.reduceEqDiff, List.replicate, Nat.reduceSub, List.all_cons, List.all_nil, Bool.and_true, Bool.and_self, List.append_nil, lB, tW, List.map_append, lN]
  simp only [bind_k, bh_k, seqK_n, seqK_r, seq_e, expr_e, ret_e, retV_f, retV_n, retV_b, ifK_t, ifK_f, ifS_e, if_e, set_e, store_f, store_n, store_b, var_e, stl_e, stl_f, stl_n, stl_b, peek_f, peek_n, peek_b, frz_f, frz_n, frz_b, bin_e, op2_d, toVal_s, asB_e, chain_e, un_e, not_e, notT_e, andT_e, orT_e, args_n, args_c, frzs_n, frzs_c, lst_e, tup_e, call_e, peeks_n, peeks_c, opN_e, sl_e, part_n, part_s, meth_e, for_e, asgT_e, uNm_e, uTup_e, uCons_e, uNil_e, put_e, putS_e, isOw_e, mut_e, kdAt_e, mutK_e, items_e, enum_e, rng1_e, rng2_e, lc_e, dc_e, par_e, parL_n, parL_f, parL_t, unb_f, unb_n, unb_b, isNew_f, isNew_n, storeL_n, storeL_f, storeL_w, fn_e, mk_e, callK_e, frK_f, frK_n, mkK_e, mkF_e, prep_f, prep_t, prep_n, lentI_f, lentI_t, lentI_n, putOuts_n, putOuts_c, isi_e, fld_e, fldS_e, tru_e, bool_e, aug_e, sortLn_e, callFn_e, finF_x, finF_f, finF_n, outE_z, outZ_c, outZ_n, outS_w, outS_f, outS_o, lend_w, lend_f, lend_n, blk_e, wipe_n, wipe_c, free_e, dtO_n, dtO_s, entry_e, entryE_t, entryE_f, entryE_n, repl_z, outsAt_n, outsAt_f, outsAt_t, List.getElem?_cons_zero, List.getElem?_cons_succ, List.set_cons_zero, List.set_cons_succ, List.map_nil, List.map_cons, List.nil_append, List.cons_append, List.nodup_cons, List.nodup_nil, List.not_mem_nil, List.mem_cons, not_false_eq_true, and_self, and_true, true_and, or_false, false_or, if_true, reduceIte, Bool.false_eq_true, Option.bind_some, Option.map_some, List.length_cons, List.length_nil, Option.some.injEq, kd, Option.map_none, Option.bind_none, reduceCtorEq, Bool.not_true, Bool.not_false, decide_true, decide_false, Nat.reduceAdd, Nat.reduceLT, Nat.reduceLeDiff, Nat.zero_add, Nat.reduceEqDiff, List.replicate, Nat.reduceSub, List.all_cons, List.all_nil, Bool.and_true, Bool.and_self, List.append_nil, lB, tW, List.map_append, sl_l, c1, c2, add_l ha2, e]
theorem st16 (g : GL ls) (h2 : 2 ≤ ls.length) (h26 : ls.length ≤ 26) {a : Nat} {sp s3 s5 s6 s7 : Sl} : b16 (E sc sp t s3 (.fz (lN ls)) s5 s6 s7 (.fz (codeP ls (wordsOf ls))) s10 s11 s12 (.ow true (lN (rotN ls a)))) = .ok .nx (E sc sp t s3 (.fz (lN ls)) s5 s6 s7 (.fz (codeP ls (wordsOf ls))) s10 s11 s12 (.fz (lN (rotN ls a)))) := by
  have pm := rot_perm ls a
  have gr := g.perm pm
  have i1 := init_ok (p := lN (rotN ls a)) gr (by rw [pm.length_eq]; exact h2) (by rw [pm.length_eq]; exact h26) (.inl rfl) .non
  have q1 := eq_code (rotN ls a) ls (wordsOf (rotN ls a)) (wordsOf ls)
  have q2 := eq_lN (rotN ls a) ls
  rw [rot_eq] at q1
  generalize decide (rotN ls a = ls) = bb at q1 q2
  have q3 : semNe (.bl bb) (.bl bb) = some (.fz (.bl false)) := by rw [ne_bl, d_t]; rfl
  unfold b16 E codeP at *
  simp only [bind_k, bh_k, seqK_n, seqK_r, seq_e, expr_e, ret_e, retV_f, retV_n, retV_b, ifK_t, ifK_f, ifS_e, if_e, set_e, store_f, store_n, store_b, var_e, stl_e, stl_f, stl_n, stl_b, peek_f, peek_n, peek_b, frz_f, frz_n, frz_b, bin_e, op2_d, toVal_s, asB_e, chain_e, un_e, not_e, notT_e, andT_e, orT_e, args_n, args_c, frzs_n, frzs_c, lst_e, tup_e, call_e, peeks_n, peeks_c, opN_e, sl_e, part_n, part_s, meth_e, for_e, asgT_e, uNm_e, uTup_e, uCons_e, uNil_e, put_e, putS_e, isOw_e, mut_e, kdAt_e, mutK_e, items_e, enum_e, rng1_e, rng2_e, lc_e, dc_e, par_e, parL_n, parL_f, parL_t, unb_f, unb_n, unb_b, isNew_f, isNew_n, storeL_n, storeL_f, storeL_w, fn_e, mk_e, callK_e, frK_f, frK_n, mkK_e, mkF_e, prep_f, prep_t, prep_n, lentI_f, lentI_t, lentI_n, putOuts_n, putOuts_c, isi_e, fld_e, fldS_e, tru_e, bool_e, aug_e, sortLn_e, callFn_e, finF_x, finF_f, finF_n, outE_z, outZ_c, outZ_n, outS_w, outS_f, outS_o, lend_w, lend_f, lend_n, blk_e, wipe_n, wipe_c, free_e, dtO_n, dtO_s, entry_e, entryE_t, entryE_f, entryE_n, repl_z, outsAt_n, outsAt_f, outsAt_t, List.getElem?_cons_zero, List.getElem?_cons_succ, List.set_cons_zero, List.set_cons_succ, List.map_nil, List.map_cons, List.nil_append, List.cons_append, List.nodup_cons, List.nodup_nil, List.not_mem_nil, List.mem_cons, not_false_eq_true, and_self, and_true, true_and, or_false, false_or, if_true, reduceIte, Bool.false_eq_true, Option.bind_some, Option.map_some, List.length_cons, List.length_nil, Option.some.injEq, kd, Option.map_none, Option.bind_none, reduceCtorEq, Bool.not_true, Bool.not_false, decide_true, decide_false, Nat.reduceAdd, Nat.reduceLT, Nat.reduceLeDiff, Nat.zero_add, Nat.reduceEqDiff, List.replicate, Nat.reduceSub, List.all_cons, List.all_nil, Bool.and_true, Bool.and_self, List.append_nil, lB, tW, List.map_append, lN, tN] at i1 q1 q2 ⊢
  simp only [bind_k, bh_k, seqK_n, seqK_r, seq_e, expr_e, ret_e, retV_f, retV_n, retV_b, ifK_t, ifK_f, ifS_e, if_e, set_e, store_f, store_n, store_b, var_e, stl_e, stl_f, stl_n, stl_b, peek_f, peek_n, peek_b, frz_f, frz_n, frz_b, bin_e, op2_d, toVal_s, asB_e, chain_e, un_e, not_e, notT_e, andT_e, orT_e, args_n, args_c, frzs_n, frzs_c, lst_e, tup_e, call_e, peeks_n, peeks_c, opN_e, sl_e, part_n, part_s, meth_e, for_e, asgT_e, uNm_e, uTup_e, uCons_e, uNil_e, put_e, putS_e, isOw_e, mut_e, kdAt_e, mutK_e, items_e, enum_e, rng1_e, rng2_e, lc_e, dc_e, par_e, parL_n, parL_f, parL_t, unb_f, unb_n, unb_b, isNew_f, isNew_n, storeL_n, storeL_f, storeL_w, fn_e, mk_e, callK_e, frK_f, frK_n, mkK_e, mkF_e, prep_f, prep_t, prep_n, lentI_f, lentI_t, lentI_n, putOuts_n, putOuts_c, isi_e, fld_e, fldS_e, tru_e, bool_e, aug_e, sortLn_e, callFn_e, finF_x, finF_f, finF_n, outE_z, outZ_c, outZ_n, outS_w, outS_f, outS_o, lend_w, lend_f, lend_n, blk_e, wipe_n, wipe_c, free_e, dtO_n, dtO_s, entry_e, entryE_t, entryE_f, entryE_n, repl_z, outsAt_n, outsAt_f, outsAt_t, List.getElem?_cons_zero, List.getElem?_cons_succ, List.set_cons_zero, List.set_cons_succ, List.map_nil, List.map_cons, List.nil_append, List.cons_append, List.nodup_cons, List.nodup_nil, List.not_mem_nil, List.mem_cons, not_false_eq_true, and_self, and_true, true_and, or_false, false_or, if_true, reduceIte, Bool.false_eq_true, Option.bind_some, Option.map_some, List.length_cons, List.length_nil, Option.some.injEq, kd, Option.map_none, Option.bind_none, reduceCtorEq, Bool.not_true, Bool.not_false, decide_true, decide_false, Nat.reduceAdd, Nat.reduceLT, Nat.reduceLeDiff, Nat.zero_add, Nat.reduceEqDiff, List.replicate, Nat.reduceSub, List.all_cons, List.all_nil, Bool.and_true, Bool.and_self, List.append_nil, lB, tW, List.map_append, ownQ_e, ownK_e, insAt_e, rq_i, rq_t, eq_self, i1, q1, q2, q3]
/-- a turn -/
def bodyB : Env' → Res Fl := (dSeq b2 (dSeq b3 (dSeq b4 (dSeq b5 (dSeq b6 (dSeq b7 (dSeq b8 (dSeq b9 (dSeq b10 (dSeq b11 (dSeq b12 (dSeq b13 (dSeq b14 (dSeq b15 b16))))))))))))))
theorem turn_ok (hp : IsPen n p) (hn : n + 1000 < 1000000000000000000) : ∃ p' t3 t4 t5 t6 t7 t9 t10 t11 t12 t13, bodyB (E sc (.ow true p) t s3 s4 s5 s6 s7 s9 s10 s11 s12 s13) = .ok .nx (E sc (.ow true p') t t3 t4 t5 t6 t7 t9 t10 t11 t12 t13) ∧ IsPen (n + 100) p' := by
  obtain ⟨m, p1, e2, h2, h26, hp1⟩ := st2 (sc := sc) (t := t) (s3 := s3) (s4 := s4) (s5 := s5) (s6 := s6) (s7 := s7) (s9 := s9) (s10 := s10) (s11 := s11) (s12 := s12) (s13 := s13) hp (by omega)
  obtain ⟨ls, p2, e3, g, rfl, hp2⟩ := st3 (sc := sc) (t := t) (s4 := s4) (s5 := s5) (s6 := s6) (s7 := s7) (s9 := s9) (s10 := s10) (s11 := s11) (s12 := s12) (s13 := s13) hp1 (by omega) h2 h26
  have hne : ls ≠ [] := by rintro rfl; simp at h2
  have hws := words_lens (ls := ls)
  have hts : ((wordsOf ls).map ntW).map List.length = ls := by rw [nt_lens, hws]
  have hap := apart_nt (g.words h26)
  have hdf := nt_ne g hne
  have hw25 : ∀ w ∈ wordsOf ls, w.length ≤ 25 := fun w hw => by
    have : w.length ∈ ls := by rw [← hws]; exact List.mem_map_of_mem hw
    have := g.le _ this
    omega
  obtain ⟨a, p3, e14, ha, hp3⟩ := st14 (sc := sc) (t := t) (s4 := .fz (lN ls)) (s5 := .ow true (.lst [])) (s6 := .fz (tW (wordsOf ls))) (s7 := .ow true (.lst [])) (s9 := .fz (codeP ls (wordsOf ls))) (s10 := .fz (codeP ls ((wordsOf ls).map ntW))) (s11 := .fz (lB ((wordsOf ls).map ntW))) (s12 := s12) (s13 := s13) (s8 := .no) hp2 (by omega) h2 h26
  refine ⟨p3, .fz (.int (ls.length : Nat)), .fz (lN ls), .ow true (.lst []), .fz (tW (wordsOf ls)), .ow true (.lst []), .fz (codeP ls (wordsOf ls)), .fz (codeP ls ((wordsOf ls).map ntW)), .fz (lB ((wordsOf ls).map ntW)), .fz (.int (a : Nat)), .fz (lN (rotN ls a)), ?_, hp3.mono (by omega)⟩
  · unfold bodyB
    simp only [seq_e, bind_k, seqK_n, e2, e3, st4 g h26, st5 g h26 hw25 (by rw [words_len]; exact h26), st6 g h2 h26 hts hap, st7, st8 h2, st9, st10, st11, st12 g h2 h26 hts hap hdf, st13 g h2 h26 hts hap, e14, st15 ha h26]
    exact st16 g h2 h26
theorem law_e : d_law = dSeq (dSet 1 (dFn [false] F_law_pen_of [] [(dVar 0)])) (dSeq (dFor (dRng1 (fun e => .ok (.fz (.int 6)) e)) (uNm 2) bodyB) (dRet (fun e => .ok (.fz (.bl true)) e))) := id rfl
end
theorem pure_law (ns : List Int) (hl : ns.length ≤ 63) : F_law [.scr ns] = .ok (.fz (.bl true)) [] := by
  obtain ⟨p, e1, hp⟩ := pen_ok ns
  obtain ⟨e', h1, p', t2, t3, t4, t5, t6, t7, t9, t10, t11, t12, t13, rfl, hp'⟩ := forL_inv (u := uNm 2) (ps := rngP 0 6) (db := bodyB)
    (fun i e => ∃ p' s2 s3 s4 s5 s6 s7 s9 s10 s11 s12 s13, e = E (.fz (.scr ns)) (.ow true p') s2 s3 s4 s5 s6 s7 s9 s10 s11 s12 s13 ∧ IsPen (100 * i) p')
    (fun i q e hq ⟨p', s2, s3, s4, s5, s6, s7, s9, s10, s11, s12, s13, he, hp'⟩ => by
      subst he
      obtain ⟨rfl, hi⟩ := rng_at hq
      obtain ⟨p2, t3, t4, t5, t6, t7, t9, t10, t11, t12, t13, h, hp2⟩ := turn_ok (sc := .fz (.scr ns)) (t := .fz (.int (i : Nat))) (s3 := s3) (s4 := s4) (s5 := s5) (s6 := s6) (s7 := s7) (s9 := s9) (s10 := s10) (s11 := s11) (s12 := s12) (s13 := s13) hp' (by omega)
      refine ⟨E (.fz (.scr ns)) (.ow true p') (.fz (.int (i : Nat))) s3 s4 s5 s6 s7 s9 s10 s11 s12 s13, _, ?_, h, p2, _, _, _, _, _, _, _, _, _, _, _, rfl, hp2.mono (by omega)⟩
      simp only [bind_k, bh_k, seqK_n, seqK_r, seq_e, expr_e, ret_e, retV_f, retV_n, retV_b, ifK_t, ifK_f, ifS_e, if_e, set_e, store_f, store_n, store_b, var_e, stl_e, stl_f, stl_n, stl_b, peek_f, peek_n, peek_b, frz_f, frz_n, frz_b, bin_e, op2_d, toVal_s, asB_e, chain_e, un_e, not_e, notT_e, andT_e, orT_e, args_n, args_c, frzs_n, frzs_c, lst_e, tup_e, call_e, peeks_n, peeks_c, opN_e, sl_e, part_n, part_s, meth_e, for_e, asgT_e, uNm_e, uTup_e, uCons_e, uNil_e, put_e, putS_e, isOw_e, mut_e, kdAt_e, mutK_e, items_e, enum_e, rng1_e, rng2_e, lc_e, dc_e, par_e, parL_n, parL_f, parL_t, unb_f, unb_n, unb_b, isNew_f, isNew_n, storeL_n, storeL_f, storeL_w, fn_e, mk_e, callK_e, frK_f, frK_n, mkK_e, mkF_e, prep_f, prep_t, prep_n, lentI_f, lentI_t, lentI_n, putOuts_n, putOuts_c, isi_e, fld_e, fldS_e, tru_e, bool_e, aug_e, sortLn_e, callFn_e, finF_x, finF_f, finF_n, outE_z, outZ_c, outZ_n, outS_w, outS_f, outS_o, lend_w, lend_f, lend_n, blk_e, wipe_n, wipe_c, free_e, dtO_n, dtO_s, entry_e, entryE_t, entryE_f, entryE_n, repl_z, outsAt_n, outsAt_f, outsAt_t, List.getElem?_cons_zero, List.getElem?_cons_succ, List.set_cons_zero, List.set_cons_succ, List.map_nil, List.map_cons, List.nil_append, List.cons_append, List.nodup_cons, List.nodup_nil, List.not_mem_nil, List.mem_cons, not_false_eq_true, and_self, and_true, true_and, or_false, false_or, if_true, reduceIte, Bool.false_eq_true, Option.bind_some, Option.map_some, List.length_cons, List.length_nil, Option.some.injEq, kd, Option.map_none, Option.bind_none, reduceCtorEq, Bool.not_true, Bool.not_false, decide_true, decide_false, Nat.reduceAdd, Nat.reduceLT, Nat.reduceLeDiff, Nat.zero_add, Nat.reduceEqDiff, List.replicate, Nat.reduceSub, List.all_cons, List.all_nil, Bool.and_true, Bool.and_self, List.append_nil, lB, tW, List.map_append, E])
    (e := E (.fz (.scr ns)) (.ow true p) .no .no .no .no .no .no .no .no .no .no .no) ⟨p, .no, .no, .no, .no, .no, .no, .no, .no, .no, .no, .no, rfl, hp.mono (by omega)⟩
  have hc : r62 6 = true := by decide
  have h6 : (6 : Int).toNat = 6 := by decide
  unfold F_law
  rw [law_e]
  unfold E at h1
  simp only [bind_k, bh_k, seqK_n, seqK_r, seq_e, expr_e, ret_e, retV_f, retV_n, retV_b, ifK_t, ifK_f, ifS_e, if_e, set_e, store_f, store_n, store_b, var_e, stl_e, stl_f, stl_n, stl_b, peek_f, peek_n, peek_b, frz_f, frz_n, frz_b, bin_e, op2_d, toVal_s, asB_e, chain_e, un_e, not_e, notT_e, andT_e, orT_e, args_n, args_c, frzs_n, frzs_c, lst_e, tup_e, call_e, peeks_n, peeks_c, opN_e, sl_e, part_n, part_s, meth_e, for_e, asgT_e, uNm_e, uTup_e, uCons_e, uNil_e, put_e, putS_e, isOw_e, mut_e, kdAt_e, mutK_e, items_e, enum_e, rng1_e, rng2_e, lc_e, dc_e, par_e, parL_n, parL_f, parL_t, unb_f, unb_n, unb_b, isNew_f, isNew_n, storeL_n, storeL_f, storeL_w, fn_e, mk_e, callK_e, frK_f, frK_n, mkK_e, mkF_e, prep_f, prep_t, prep_n, lentI_f, lentI_t, lentI_n, putOuts_n, putOuts_c, isi_e, fld_e, fldS_e, tru_e, bool_e, aug_e, sortLn_e, callFn_e, finF_x, finF_f, finF_n, outE_z, outZ_c, outZ_n, outS_w, outS_f, outS_o, lend_w, lend_f, lend_n, blk_e, wipe_n, wipe_c, free_e, dtO_n, dtO_s, entry_e, entryE_t, entryE_f, entryE_n, repl_z, outsAt_n, outsAt_f, outsAt_t, List.getElem?_cons_zero, List.getElem?_cons_succ, List.set_cons_zero, List.set_cons_succ, List.map_nil, List.map_cons, List.nil_append, List.cons_append, List.nodup_cons, List.nodup_nil, List.not_mem_nil, List.mem_cons, not_false_eq_true, and_self, and_true, true_and, or_false, false_or, if_true, reduceIte, Bool.false_eq_true, Option.bind_some, Option.map_some, List.length_cons, List.length_nil, Option.some.injEq, kd, Option.map_none, Option.bind_none, reduceCtorEq, Bool.not_true, Bool.not_false, decide_true, decide_false, Nat.reduceAdd, Nat.reduceLT, Nat.reduceLeDiff, Nat.zero_add, Nat.reduceEqDiff, List.replicate, Nat.reduceSub, List.all_cons, List.all_nil, Bool.and_true, Bool.and_self, List.append_nil, lB, tW, List.map_append, e1, hc, h6, h1]
end K37

set_option maxRecDepth 100000
set_option maxHeartbeats 0
namespace HK37
open PySem PySem.Spec L2 VL
open PyProof.Rows hiding St
open K37 (top mth)
def dd_is_whole : He.DefD := ⟨("is_whole", none), "is_whole", "is_whole", defArgs (top 10), defBody (top 10), defScope (top 10), [], []⟩
def dd_two_to : He.DefD := ⟨("two_to", none), "two_to", "two_to", defArgs (top 11), defBody (top 11), defScope (top 11), [], []⟩
def dd_check_signs : He.DefD := ⟨("check_signs", none), "check_signs", "check_signs", defArgs (top 12), defBody (top 12), defScope (top 12), [], []⟩
def dd_bits_of : He.DefD := ⟨("bits_of", none), "bits_of", "bits_of", defArgs (top 13), defBody (top 13), defScope (top 13), [], []⟩
def dd_canonical : He.DefD := ⟨("canonical", none), "canonical", "canonical", defArgs (top 14), defBody (top 14), defScope (top 14), [], []⟩
def dd_is_word : He.DefD := ⟨("is_word", none), "is_word", "is_word", defArgs (top 15), defBody (top 15), defScope (top 15), [], []⟩
def dd_checked_words : He.DefD := ⟨("checked_words", none), "checked_words", "checked_words", defArgs (top 16), defBody (top 16), defScope (top 16), [], []⟩
def dd_Code___init__ : He.DefD := ⟨("Code", some "__init__"), "__init__", "Code.__init__", defArgs (mth 17 0), defBody (mth 17 0), defScope (mth 17 0), [.non], []⟩
def dd_Code___eq__ : He.DefD := ⟨("Code", some "__eq__"), "__eq__", "Code.__eq__", defArgs (mth 17 1), defBody (mth 17 1), defScope (mth 17 1), [], []⟩
def dd_law_pen_of : He.DefD := ⟨("_law_pen_of", none), "_law_pen_of", "_law_pen_of", defArgs (top 19), defBody (top 19), defScope (top 19), [], []⟩
def dd_law_draw : He.DefD := ⟨("_law_draw", none), "_law_draw", "_law_draw", defArgs (top 20), defBody (top 20), defScope (top 20), [], []⟩
def dd_law_pick : He.DefD := ⟨("_law_pick", none), "_law_pick", "_law_pick", defArgs (top 21), defBody (top 21), defScope (top 21), [], []⟩
def dd_law_lengths_of : He.DefD := ⟨("_law_lengths_of", none), "_law_lengths_of", "_law_lengths_of", defArgs (top 22), defBody (top 22), defScope (top 22), [], []⟩
def dd_law_two_to : He.DefD := ⟨("_law_two_to", none), "_law_two_to", "_law_two_to", defArgs (top 23), defBody (top 23), defScope (top 23), [], []⟩
def dd_law_words : He.DefD := ⟨("_law_words", none), "_law_words", "_law_words", defArgs (top 24), defBody (top 24), defScope (top 24), [], []⟩
def dd_law : He.DefD := ⟨("law", none), "law", "law", defArgs (top 25), defBody (top 25), defScope (top 25), [], []⟩
def fn0 : List He.DefD := [dd_is_whole, dd_two_to, dd_check_signs, dd_bits_of, dd_canonical, dd_is_word, dd_checked_words, dd_Code___init__, dd_Code___eq__, dd_law_pen_of, dd_law_draw, dd_law_pick, dd_law_lengths_of, dd_law_two_to, dd_law_words, dd_law]
def fn : List He.DefD := fn0
def fa0 : List He.Fa := [.glo "is_whole", .glo "two_to", .glo "check_signs", .glo "bits_of", .glo "canonical", .glo "is_word", .glo "checked_words", .glo "_law_pen_of", .glo "_law_draw", .glo "_law_pick", .glo "_law_lengths_of", .glo "_law_two_to", .glo "_law_words", .glo "law", .glo "Code", .cls "Code", .mkr "Code", .keep "Code", .meth "Code" "__eq__", .noat "Code" "lengths", .noat "Code" "words", .noat "Code" "size", .noat "Code" "longest", .free "len", .free "abs", .free "sum", .free "all", .free "any", .free "max", .free "min"]
def fa1 : List He.Fa := [.free "sorted", .free "isinstance", .free "int", .free "bool", .free "str", .free "tuple", .free "list", .free "dict", .free "range", .free "enumerate", .free "zip", .int "MOST_SIGNS" 26, .int "MOST_LENGTH" 25]
def fa : List He.Fa := fa0 ++ fa1
def tf : List He.Defn := []
def bt : List String := ["int", "bool", "str", "tuple", "list", "dict"]
def clss : List Str := ["Code"]
def kt : List String := ["NoneType", "bool", "int", "str", "tuple", "list", "dict"]
def exO (K : PySem.W.Frag) (x : Str) : Bool := He.eqO (PySem.W.findIn K (.ref (He.ga K x)) "__ne__") (some (some (.builtin "object.__ne__"))) && ((clss.all fun y => decide (PySem.W.kitOne K (.ref (He.ga K y)) (.ref (He.ga K x)) = some (decide (y = x)))) && kt.all fun T => decide (PySem.W.kitOne K (.type T) (.ref (He.ga K x)) = some false))
def exC (K : PySem.W.Frag) (x : Str) : Bool := He.eqO (PySem.W.findIn K (.ref (He.ga K x)) "__class__") (some (some (.builtin "object.__class__"))) && (decide (PySem.W.mroIn K (He.ga K x) (.type "object") = some true) && ((bt.all fun T => decide (PySem.W.kitOne K (.ref (He.ga K x)) (.type T) = some false)) && exO K x))
def lamB (K : PySem.W.Frag) : Bool := tf.all fun r => tf.all fun p => decide ((He.cT K r).2 = (He.cT K p).2 → r = p)
def ex (K : PySem.W.Frag) : Bool := He.eqO (PySem.W.specialIn K (.builtin "object.__class__") "__get__") (some (some (.builtin "getset_descriptor.__get__"))) && (decide (PySem.W.takesIn K (.builtin "object.__class__") = some true) && (clss.all (exC K) && lamB K))
def lo0 : List Str := ["JoinsError", "TooMany", "BadLength", "NotFull", "BadWord", "Begins", "MOST_SIGNS", "MOST_LENGTH", "is_whole", "two_to", "check_signs", "bits_of", "canonical", "is_word", "checked_words", "Code", "_law_pen_of", "_law_draw", "_law_pick", "_law_lengths_of", "_law_two_to", "_law_words"]
def loose : List Str := lo0
abbrev R : PySem.W.OpenRow := PySem.W.OpenLaw.row PySem.Challenge.rw_leastjoined_k37_words_of_codes
abbrev hk : PySem.W.Hook := He.hookX 4 fa fn [] tf ex
def ob (s : PySem.W.SharedT) : He.AlX := He.obsX 4 fa fn [] tf ex (HandSHeadRun.getT s)
theorem ob_eq (s : PySem.W.SharedT) : ob s = hk.obs s.abs := He.obsX_eq (HandSHeadRun.getT_eq s)
abbrev qv : Program := PySem.W.view R.prog [25]
theorem run (w : World) : HandSHeadRun.RunEq R qv hk ob 20000 loose w := by
  intro os
  kernel_rfl
def adK (K : PySem.W.Frag) : Nat → Addr
  | 0 => He.ga K "Code"
  | _ => He.ga K "Code"
def CK (K : PySem.W.Frag) : Ct := ⟨K, adK K, K37.lay, K37.nam, tf.map fun p => ((He.cT K p).2, lamQ p.1), fun _ => 0, fun _ => []⟩
section
variable {w : World} {K : PySem.W.Frag} {h : Heap} {mg : Str → Option Value} (X : K.In h) (G : h.Ns mainGlobals mg) (c : He.SaysX fa fn [] tf ex w h K)
include X G c
theorem fx_ok : K37.Fx mg where
  n_abs := He.free_ok X G (c.t.d.facts (f := .free "abs") (List.mem_of_getElem? (i := 24) rfl))
  n_all := He.free_ok X G (c.t.d.facts (f := .free "all") (List.mem_of_getElem? (i := 26) rfl))
  n_bool := He.free_ok X G (c.t.d.facts (f := .free "bool") (List.mem_of_getElem? (i := 33) rfl))
  n_enumerate := He.free_ok X G (c.t.d.facts (f := .free "enumerate") (List.mem_of_getElem? (i := 39) rfl))
  n_int := He.free_ok X G (c.t.d.facts (f := .free "int") (List.mem_of_getElem? (i := 32) rfl))
  n_isinstance := He.free_ok X G (c.t.d.facts (f := .free "isinstance") (List.mem_of_getElem? (i := 31) rfl))
  n_len := He.free_ok X G (c.t.d.facts (f := .free "len") (List.mem_of_getElem? (i := 23) rfl))
  n_list := He.free_ok X G (c.t.d.facts (f := .free "list") (List.mem_of_getElem? (i := 36) rfl))
  n_max := He.free_ok X G (c.t.d.facts (f := .free "max") (List.mem_of_getElem? (i := 28) rfl))
  n_range := He.free_ok X G (c.t.d.facts (f := .free "range") (List.mem_of_getElem? (i := 38) rfl))
  n_sorted := He.free_ok X G (c.t.d.facts (f := .free "sorted") (List.mem_of_getElem? (i := 30) rfl))
  n_str := He.free_ok X G (c.t.d.facts (f := .free "str") (List.mem_of_getElem? (i := 34) rfl))
  n_sum := He.free_ok X G (c.t.d.facts (f := .free "sum") (List.mem_of_getElem? (i := 25) rfl))
  n_tuple := He.free_ok X G (c.t.d.facts (f := .free "tuple") (List.mem_of_getElem? (i := 35) rfl))
  c_MOST_SIGNS := rel_int (He.int_ok X G (c.t.d.facts (f := .int "MOST_SIGNS" 26) (List.mem_of_getElem? (i := 41) rfl)))
  c_MOST_LENGTH := rel_int (He.int_ok X G (c.t.d.facts (f := .int "MOST_LENGTH" 25) (List.mem_of_getElem? (i := 42) rfl)))
theorem ex_ok : He.eqO (PySem.W.specialIn K (.builtin "object.__class__") "__get__") (some (some (.builtin "getset_descriptor.__get__"))) = true ∧ PySem.W.takesIn K (.builtin "object.__class__") = some true ∧ (∀ x ∈ clss, exC K x = true) ∧ lamB K = true := by
  obtain ⟨h1, h2⟩ := He.ba (show (_ && _) = true from c.more)
  obtain ⟨h3, h4⟩ := He.ba (show (_ && _) = true from h2)
  obtain ⟨h5, h6⟩ := He.ba (show (_ && _) = true from h4)
  exact ⟨h1, of_decide_eq_true h3, fun x hx => List.all_eq_true.mp h5 x hx, h6⟩
theorem cls_x (i : Nat) : ∃ x ∈ clss, adK K i = He.ga K x := by
  match i with
  | 0 => exact ⟨"Code", by simp [clss], rfl⟩
  | _ + 1 => exact ⟨"Code", by simp [clss], rfl⟩
theorem exc_ok {x : Str} (hx : exC K x = true) : PySem.W.findIn K (.ref (He.ga K x)) "__class__" = some (some (.builtin "object.__class__")) ∧ PySem.W.mroIn K (He.ga K x) (.type "object") = some true ∧ (∀ T ∈ bt, PySem.W.kitOne K (.ref (He.ga K x)) (.type T) = some false) ∧ exO K x = true := by
  obtain ⟨h1, h2⟩ := He.ba (show (_ && _) = true from hx)
  obtain ⟨h3, h4⟩ := He.ba (show (_ && _) = true from h2)
  obtain ⟨h5, h6⟩ := He.ba (show (_ && _) = true from h4)
  exact ⟨He.eqO_ok h1, of_decide_eq_true h3, fun T hT => of_decide_eq_true (List.all_eq_true.mp h5 T hT), h6⟩
theorem exo_ok {x : Str} (hx : x ∈ clss) : exO K x = true := by
  obtain ⟨_, _, h3, _⟩ := ex_ok X G c
  exact (exc_ok X G c (h3 x hx)).2.2.2
theorem ne_ok {x : Str} (hx : x ∈ clss) : PySem.W.findIn K (.ref (He.ga K x)) "__ne__" = some (some (.builtin "object.__ne__")) := by
  obtain ⟨h, _⟩ := He.ba (show (_ && _) = true from exo_ok X G c hx)
  exact He.eqO_ok h
def nmC : Nat → Str
  | 0 => "Code"
  | _ => "Code"
theorem own_ok {x : Str} {c0 : Nat} (hx : x ∈ clss) (h0 : nmC c0 = x ∧ c0 < 1 := by exact ⟨rfl, by decide⟩) : OwnC (CK K) 1 c0 := by
  obtain ⟨_, h⟩ := He.ba (show (_ && _) = true from exo_ok X G c hx)
  obtain ⟨h1, h2⟩ := He.ba (show (_ && _) = true from h)
  obtain ⟨rfl, hc⟩ := h0
  have ad : ∀ i, (CK K).ad i = He.ga K (nmC i) := fun i => by
    match i with
    | 0 => rfl
    | _ + 1 => rfl
  have mem : ∀ i, nmC i ∈ clss := fun i => by
    match i with
    | 0 => simp [nmC, clss]
    | _ + 1 => simp [nmC, clss]
  have inj : ∀ i, i < 1 → ∀ j, j < 1 → decide (nmC i = nmC j) = decide (i = j) := by decide
  refine ⟨fun i hi => ?_, fun T hT => ?_⟩
  · rw [ad, ad, ← inj i hi c0 hc]
    exact of_decide_eq_true (List.all_eq_true.mp h1 _ (mem i))
  · rw [ad]
    exact of_decide_eq_true (List.all_eq_true.mp h2 T hT)
theorem cls_ok (i : Nat) : ClsOk (CK K) i := by
  match i with
  | 0 => exact ⟨He.cls_ok (c.t.d.facts (f := .cls "Code") (List.mem_of_getElem? (i := 15) rfl)), fun f hf => (by
      have hf : f ∈ ([0, 1, 2, 3] : List Nat) := hf
      simp only [List.mem_cons, List.not_mem_nil, or_false] at hf
      rcases hf with rfl | rfl | rfl | rfl
      · exact He.noat_ok (c.t.d.facts (f := .noat "Code" "lengths") (List.mem_of_getElem? (i := 19) rfl))
      · exact He.noat_ok (c.t.d.facts (f := .noat "Code" "words") (List.mem_of_getElem? (i := 20) rfl))
      · exact He.noat_ok (c.t.d.facts (f := .noat "Code" "size") (List.mem_of_getElem? (i := 21) rfl))
      · exact He.noat_ok (c.t.d.facts (f := .noat "Code" "longest") (List.mem_of_getElem? (i := 22) rfl))), (show (["lengths", "words", "size", "longest"] : List Str).Nodup by decide)⟩
  | _ + 1 => exact ⟨He.cls_ok (c.t.d.facts (f := .cls "Code") (List.mem_of_getElem? (i := 15) rfl)), fun f hf => (by
      have hf : f ∈ ([0, 1, 2, 3] : List Nat) := hf
      simp only [List.mem_cons, List.not_mem_nil, or_false] at hf
      rcases hf with rfl | rfl | rfl | rfl
      · exact He.noat_ok (c.t.d.facts (f := .noat "Code" "lengths") (List.mem_of_getElem? (i := 19) rfl))
      · exact He.noat_ok (c.t.d.facts (f := .noat "Code" "words") (List.mem_of_getElem? (i := 20) rfl))
      · exact He.noat_ok (c.t.d.facts (f := .noat "Code" "size") (List.mem_of_getElem? (i := 21) rfl))
      · exact He.noat_ok (c.t.d.facts (f := .noat "Code" "longest") (List.mem_of_getElem? (i := 22) rfl))), (show (["lengths", "words", "size", "longest"] : List Str).Nodup by decide)⟩
theorem cf_ok : CF (CK K) K37.lay K37.nam where
  L := rfl
  nm := rfl
  cls := cls_ok X G c
  ins := by
    obtain ⟨h1, h2, h3, _⟩ := ex_ok X G c
    exact ⟨fun i => by obtain ⟨x, hx, e⟩ := cls_x X G c i; show PySem.W.findIn K (.ref (adK K i)) _ = _; rw [e]; exact (exc_ok X G c (h3 x hx)).1, He.eqO_ok h1, h2, fun i => by obtain ⟨x, hx, e⟩ := cls_x X G c i; show PySem.W.mroIn K (adK K i) _ = _; rw [e]; exact (exc_ok X G c (h3 x hx)).2.1⟩
  kb := fun i T hT => by
    obtain ⟨_, _, h3, _⟩ := ex_ok X G c
    obtain ⟨x, hx, e⟩ := cls_x X G c i
    show PySem.W.kitOne K (.ref (adK K i)) _ = _
    rw [e]
    exact (exc_ok X G c (h3 x hx)).2.2.1 T hT
theorem dx_ok : K37.Dx K mg (CK K) where
  hK := rfl
  d_is_whole := let ⟨fd, F⟩ := c.t.d.defs (d := dd_is_whole) (List.mem_of_getElem? (i := 0) rfl); ⟨_, fd, He.glo_ok X G (c.t.d.facts (f := .glo "is_whole") (List.mem_of_getElem? (i := 0) rfl)), F⟩
  d_two_to := let ⟨fd, F⟩ := c.t.d.defs (d := dd_two_to) (List.mem_of_getElem? (i := 1) rfl); ⟨_, fd, He.glo_ok X G (c.t.d.facts (f := .glo "two_to") (List.mem_of_getElem? (i := 1) rfl)), F⟩
  d_check_signs := let ⟨fd, F⟩ := c.t.d.defs (d := dd_check_signs) (List.mem_of_getElem? (i := 2) rfl); ⟨_, fd, He.glo_ok X G (c.t.d.facts (f := .glo "check_signs") (List.mem_of_getElem? (i := 2) rfl)), F⟩
  d_bits_of := let ⟨fd, F⟩ := c.t.d.defs (d := dd_bits_of) (List.mem_of_getElem? (i := 3) rfl); ⟨_, fd, He.glo_ok X G (c.t.d.facts (f := .glo "bits_of") (List.mem_of_getElem? (i := 3) rfl)), F⟩
  d_canonical := let ⟨fd, F⟩ := c.t.d.defs (d := dd_canonical) (List.mem_of_getElem? (i := 4) rfl); ⟨_, fd, He.glo_ok X G (c.t.d.facts (f := .glo "canonical") (List.mem_of_getElem? (i := 4) rfl)), F⟩
  d_is_word := let ⟨fd, F⟩ := c.t.d.defs (d := dd_is_word) (List.mem_of_getElem? (i := 5) rfl); ⟨_, fd, He.glo_ok X G (c.t.d.facts (f := .glo "is_word") (List.mem_of_getElem? (i := 5) rfl)), F⟩
  d_checked_words := let ⟨fd, F⟩ := c.t.d.defs (d := dd_checked_words) (List.mem_of_getElem? (i := 6) rfl); ⟨_, fd, He.glo_ok X G (c.t.d.facts (f := .glo "checked_words") (List.mem_of_getElem? (i := 6) rfl)), F⟩
  d_Code___init__ := let ⟨fd, F⟩ := c.t.d.defs (d := dd_Code___init__) (List.mem_of_getElem? (i := 7) rfl); ⟨_, fd, He.mkr_ok (c.t.d.facts (f := .mkr "Code") (List.mem_of_getElem? (i := 16) rfl)), He.glo_ok X G (c.t.d.facts (f := .glo "Code") (List.mem_of_getElem? (i := 14) rfl)), F⟩
  d_Code___eq__ := let ⟨fd, F⟩ := c.t.d.defs (d := dd_Code___eq__) (List.mem_of_getElem? (i := 8) rfl); ⟨_, fd, He.cls_ok (c.t.d.facts (f := .cls "Code") (List.mem_of_getElem? (i := 15) rfl)), He.meth_ok (c.t.d.facts (f := .meth "Code" "__eq__") (List.mem_of_getElem? (i := 18) rfl)), F⟩
  d_law_pen_of := let ⟨fd, F⟩ := c.t.d.defs (d := dd_law_pen_of) (List.mem_of_getElem? (i := 9) rfl); ⟨_, fd, He.glo_ok X G (c.t.d.facts (f := .glo "_law_pen_of") (List.mem_of_getElem? (i := 7) rfl)), F⟩
  d_law_draw := let ⟨fd, F⟩ := c.t.d.defs (d := dd_law_draw) (List.mem_of_getElem? (i := 10) rfl); ⟨_, fd, He.glo_ok X G (c.t.d.facts (f := .glo "_law_draw") (List.mem_of_getElem? (i := 8) rfl)), F⟩
  d_law_pick := let ⟨fd, F⟩ := c.t.d.defs (d := dd_law_pick) (List.mem_of_getElem? (i := 11) rfl); ⟨_, fd, He.glo_ok X G (c.t.d.facts (f := .glo "_law_pick") (List.mem_of_getElem? (i := 9) rfl)), F⟩
  d_law_lengths_of := let ⟨fd, F⟩ := c.t.d.defs (d := dd_law_lengths_of) (List.mem_of_getElem? (i := 12) rfl); ⟨_, fd, He.glo_ok X G (c.t.d.facts (f := .glo "_law_lengths_of") (List.mem_of_getElem? (i := 10) rfl)), F⟩
  d_law_two_to := let ⟨fd, F⟩ := c.t.d.defs (d := dd_law_two_to) (List.mem_of_getElem? (i := 13) rfl); ⟨_, fd, He.glo_ok X G (c.t.d.facts (f := .glo "_law_two_to") (List.mem_of_getElem? (i := 11) rfl)), F⟩
  d_law_words := let ⟨fd, F⟩ := c.t.d.defs (d := dd_law_words) (List.mem_of_getElem? (i := 14) rfl); ⟨_, fd, He.glo_ok X G (c.t.d.facts (f := .glo "_law_words") (List.mem_of_getElem? (i := 12) rfl)), F⟩
  d_law := let ⟨fd, F⟩ := c.t.d.defs (d := dd_law) (List.mem_of_getElem? (i := 15) rfl); ⟨_, fd, He.glo_ok X G (c.t.d.facts (f := .glo "law") (List.mem_of_getElem? (i := 13) rfl)), F⟩
  m_Code := He.glo_ok X G (c.t.d.facts (f := .glo "Code") (List.mem_of_getElem? (i := 14) rfl))
  o_Code := own_ok X G c (x := "Code") (by simp [clss])
  ne_Code := ne_ok X G c (x := "Code") (by simp [clss])
theorem lam_at {p : He.Defn} (hp : p ∈ tf) : ∀ q ∈ (CK K).T, q.1 = (He.cT K p).2 → q.2 = lamQ p.1 := by
  obtain ⟨_, _, _, h⟩ := ex_ok X G c
  intro q hq e
  obtain ⟨r, hr, rfl⟩ := List.mem_map.mp hq
  have := of_decide_eq_true (List.all_eq_true.mp (List.all_eq_true.mp h r hr) p hp)
  rw [this e]
theorem lx_ok {base : Heap} (tb : ∀ p ∈ tf.map (He.cT K), LamX.TabB base mg p.1 p.2) : K37.Lx K mg base (CK K) where
  one := trivial
end
end HK37
open PySem PySem.W PySem.Calls PyProof.Rows
theorem HK37_holds (pure : ∀ ns : List Int, ns.length ≤ 63 → (∀ z ∈ ns, Builtin.Int.intBits z ≤ 1048576) → K37.F_law [.scr ns] = .ok (.fz (.bl true)) []) : PySem.Challenge.rw_leastjoined_k37_words_of_codes.Holds := by
  w_on; o_law
  refine HandSHeadRun.head_any (r := OpenLaw.row PySem.Challenge.rw_leastjoined_k37_words_of_codes) (q := HK37.qv) (H := HK37.hk) (ob := HK37.ob) (M := 20000) (loose := HK37.loose) (d := HandSHeadRun.topDef (OpenLaw.row PySem.Challenge.rw_leastjoined_k37_words_of_codes).prog 25) (kwd := []) HK37.ob_eq
    (by kernel_rfl) (fun s => by kernel_rfl) HK37.run (by kernel_rfl) (by kernel_rfl) (by kernel_rfl) (by rfl) (by first | assumption | decide +kernel) (by decide +kernel) ⟨rfl, rfl, rfl, rfl, rfl, by decide +kernel⟩ ?hw ?hc
  case hw => w_witness2
  case hc =>
    refine LamX.walk_ofTsE (l := PySem.Challenge.rw_leastjoined_k37_words_of_codes) (n := 63) (k := 5) (x := "_law_script") (CX := fun _ => C8.CX0) rfl (by decide) (by kernel_rfl) ⟨rfl, by decide, by decide⟩ ?F (fun _ _ _ _ _ z => z)
    intro w mg fa h Y G hmg0
    obtain ⟨K, KX, c⟩ := Y
    have hmg : mg ("law" : PySem.Str) = some (.ref fa) := by
      have e : (HandSHeadRun.topDef (OpenLaw.row PySem.Challenge.rw_leastjoined_k37_words_of_codes).prog 25).name = ("law" : PySem.Str) := by kernel_rfl
      rw [← e]
      exact hmg0
    obtain ⟨f, fd, hf, Fd⟩ := (HK37.dx_ok KX G c).d_law
    have e : f = fa := by
      rw [hf] at hmg
      cases hmg; rfl
    subst e
    refine ⟨K, KX, fd, HK37.tf.map (He.cT K), VL.SpV (HK37.CK K) [false] K37.F_law, fun p hp => ?_, fun p hp => ?_, fun p hp => ?_, fun s v => ?_, fun H a ns hl hbits hT hS => ?_, fun base bK bG tb => ?_⟩
    · obtain ⟨q, hq, rfl⟩ := List.mem_map.mp hp
      exact c.empty q hq
    · obtain ⟨q, hq, rfl⟩ := List.mem_map.mp hp
      exact c.out q hq
    · obtain ⟨q, hq, rfl⟩ := List.mem_map.mp hp
      exact PySem.W.codeHd_of_K KX (c.hd q hq)
    · exact (L2.FunD.bindsA (ps := ["_law_script"]) Fd fun _ _ _ _ _ _ us hl => match us, hl with | [_], _ => rfl) s [v] rfl
    · refine VL.spv_law hS (VL.tabs_nil fun p hp => ?_) (pure ns hl hbits)
      obtain ⟨q, hq, rfl⟩ := List.mem_map.mp hp
      exact hT _ (List.mem_map_of_mem (f := He.cT K) hq)
    · exact K37.fn_law (HK37.fx_ok KX G c) (HK37.dx_ok KX G c) (HK37.cf_ok KX G c) (HK37.lx_ok KX G c tb) Fd


open PySem PySem.W PyProof.Rows
theorem PySem.Challenge.cw_leastjoined_k37_words_of_codes_holds : PySem.Challenge.rw_leastjoined_k37_words_of_codes.Holds := by
  exact HK37_holds fun ns hl _ => K37.pure_law ns hl
